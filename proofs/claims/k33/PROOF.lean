import PyProof.Rows.All
import Wide.All
import OpenK.AllK
import Wide.FinOn
import HandS.ForMost
import HandS.Set
import HandS.Strs
import HandS.SetFor
import HandS.Zip
import HandS.SortInts
import HandS.TupAny
import HandS.TupSets
import KE.SortData
import HandS.TupMul
import KE.DataMinMax
import HandS.Wide
import HandS.WideBits
import HandS.Gcd
import HandS.IsInst
import HandS.Flow
import HandS.Deep
import HandS.Iter
import HandS.Replace
import HandS.NoneIn
import HandS.Style
import HandS.Conv
import HandS.TupLe
import HandS.More
import HandS.Codes
import HandS.EndBits
import PySem.Challenge.RW_switchtrees_k33_whole_groups_as_nets
set_option Elab.async false
set_option linter.all false
set_option maxRecDepth 100000
set_option maxHeartbeats 1000000
/-! EvH: rules of one's own over the hand layer: set(list of ints), len and sorted of it, x[i] by values. -/
namespace Pv
open PySem PySem.Spec PyProof.Rows L2
/-- the members of a list of ints, ascending, each once -/
def insU (x : Int) : List Int → List Int
  | [] => [x]
  | y :: r => if x < y then x :: y :: r else if x = y then y :: r else y :: insU x r
def setI (xs : List Int) : List Int := xs.foldr insU []
theorem mem_insU {x z : Int} : ∀ {ys : List Int}, z ∈ insU x ys ↔ z = x ∨ z ∈ ys
  | [] => by simp [insU]
  | y :: r => by
    unfold insU
    split
    · simp
    · split
      · rename_i h; subst h; simp
      · rw [List.mem_cons, mem_insU, List.mem_cons]
        constructor
        · rintro (h | h | h)
          · exact .inr (.inl h)
          · exact .inl h
          · exact .inr (.inr h)
        · rintro (h | h | h)
          · exact .inr (.inl h)
          · exact .inl h
          · exact .inr (.inr h)
theorem insU_asc {x : Int} : ∀ {ys : List Int}, ys.Pairwise (· < ·) → (insU x ys).Pairwise (· < ·)
  | [], _ => by simp [insU]
  | y :: r, h => by
    obtain ⟨h1, h2⟩ := List.pairwise_cons.mp h
    unfold insU
    split
    · rename_i hl
      refine List.pairwise_cons.mpr ⟨fun z hz => ?_, h⟩
      rcases List.mem_cons.mp hz with rfl | hz
      · exact hl
      · exact Int.lt_trans hl (h1 z hz)
    · split
      · exact h
      · rename_i n1 n2
        refine List.pairwise_cons.mpr ⟨fun z hz => ?_, insU_asc h2⟩
        rcases mem_insU.mp hz with rfl | hz
        · omega
        · exact h1 z hz
theorem mem_setI {z : Int} : ∀ {xs : List Int}, z ∈ setI xs ↔ z ∈ xs
  | [] => by simp [setI]
  | x :: r => by
    show z ∈ insU x (setI r) ↔ _
    rw [mem_insU, mem_setI, List.mem_cons]
theorem setI_asc : ∀ {xs : List Int}, (setI xs).Pairwise (· < ·)
  | [] => .nil
  | x :: r => insU_asc (setI_asc (xs := r))
/-- ascending rows with the same members are the same -/
theorem asc_eq : ∀ {xs ys : List Int}, xs.Pairwise (· < ·) → ys.Pairwise (· < ·) → (∀ z, z ∈ xs ↔ z ∈ ys) → xs = ys
  | [], [], _, _, _ => rfl
  | [], y :: r, _, _, h => absurd ((h y).mpr List.mem_cons_self) (by simp)
  | x :: r, [], _, _, h => absurd ((h x).mp List.mem_cons_self) (by simp)
  | x :: r, y :: t, h1, h2, h => by
    obtain ⟨a1, a2⟩ := List.pairwise_cons.mp h1
    obtain ⟨b1, b2⟩ := List.pairwise_cons.mp h2
    have e : x = y := by
      rcases List.mem_cons.mp ((h x).mp List.mem_cons_self) with e | hx
      · exact e
      · rcases List.mem_cons.mp ((h y).mpr List.mem_cons_self) with e | hy
        · exact e.symm
        · have := b1 x hx; have := a1 y hy; omega
    subst e
    refine congrArg (x :: ·) (asc_eq a2 b2 fun z => ?_)
    have := h z
    simp only [List.mem_cons] at this
    constructor
    · intro hz
      rcases this.mp (.inr hz) with e | q
      · subst e; exact absurd (a1 z hz) (by omega)
      · exact q
    · intro hz
      rcases this.mpr (.inr hz) with e | q
      · subst e; exact absurd (b1 z hz) (by omega)
      · exact q
theorem setI_le : ∀ {xs : List Int}, (setI xs).length ≤ xs.length
  | [] => Nat.le_refl _
  | x :: r => by
    have go : ∀ ys : List Int, (insU x ys).length ≤ ys.length + 1 := by
      intro ys
      induction ys with
      | nil => simp [insU]
      | cons y r ih => unfold insU; split <;> (try split) <;> simp_all
    have := go (setI r)
    have := setI_le (xs := r)
    show (insU x (setI r)).length ≤ r.length + 1
    omega
/-! ### set(xs) -/
section
variable {P : Program} {w : World} {A : Around} {E : Value → Shared → Prop} {s : Shared}
abbrev noSet0 (w : World) : Obj := { cls := .type "set", dict := none, data := .set #[] 0 (.fresh 0 0 (!w.params.followText "set-order")) }
set_option maxHeartbeats 3200000 in
theorem call_setL {l : Addr} {items : Array Value} (ns : List Int) {Q : Value → Shared → Prop} (hh : A.handled = none) (hl : s.heap.IsList l items) (hit : PyProof.Rows.IntsAre items.toList ns) (hb : ns.length + 1 < scanBound)
    (fin : ∀ (h' : Heap) (tk c : Nat), SetR w h' s.heap.objs.size (fun j => decide (j ∈ ns)) c → (∀ b o, s.heap.get? b = some o → h'.get? b = some o) → Q (.ref s.heap.objs.size) { s with heap := h', toks := tk }) :
    wpAny (model P w) A (call (.type "set") [.ref l]) Q E s := by
  have isz : items.size = ns.length := by have q := IntsAre.length hit; rwa [Array.length_toList] at q
  obtain ⟨cm, tm, mr⟩ := F.called_set.mro; have mk := F.called_set.made; have sb := F.called_set.sub
  refine wpAny_call (codeAny_of_tree ?_); show wpAny _ _ (callAny (.type "set") _) _ _ _
  refine wpAny_pure ⟨Code.quiet_builtin _ (by decide +kernel), codeAny_builtin F.entry_type_call ?_⟩; rw [Around.under_plain (weight_type_call_type "set" [.ref l] []) rfl]
  have n1 := F.called_set.notType; have n2 := F.called_set.canCreate; have n3 := F.typeCall_set_1 (.ref l)
  repeat (any_goals (first | assumption | wp_step))
  refine codeAny_mono (code_set_led1 (.ref l) (E := E) (Q₁ := fun ob t => ob = .ref s.heap.objs.size ∧ t = { s with heap := s.heap.push (noSet0 w) }) ⟨rfl, rfl⟩) fun r t hr => ?_
  match r, hr with
  | .error e, hr => exact hr
  | .ok (.ret ob), hr =>
    obtain ⟨rfl, rfl⟩ := hr
    have gS : (s.heap.push (noSet0 w)).get? s.heap.objs.size = some (noSet0 w) := Heap.get?_push_size _ rfl
    have tS : Shared.TypeIs { s with heap := s.heap.push (noSet0 w) } (.ref s.heap.objs.size) "set" := ⟨_, gS, rfl⟩
    have i1 := F.called_set.init.lookup; have i2 := F.called_set.init.bind (.ref s.heap.objs.size)
    repeat (any_goals (first | assumption | wp_step))
    refine codeAny_mono (codeAny_call_builtin (R := wants (fun r t => r = .none ∧ ∃ h' tk c, t = { s with heap := h', toks := tk } ∧ SetR w h' s.heap.objs.size (fun j => decide (j ∈ ns)) c ∧
        (∀ b o, s.heap.get? b = some o → h'.get? b = some o)) E) F.called_set.init.plain F.entry_set_init (check_set_init_1 tS ?_)) fun r2 t2 hr2 => ?_
    · obtain ⟨ol, ho, hc, nl, hd⟩ := hl
      obtain ⟨c0, d0, a0, s0⟩ := ol
      simp only at hc hd; subst hc; subst hd
      have ho2 : (s.heap.push (noSet0 w)).get? l = some { cls := .type "list", dict := d0, data := .seq items nl, slots := s0 } := Heap.get?_push_of_some _ ho
      have k1 := F.sub_list_set; have k2 := F.sub_list_frozenset; have k3 : (Value.type "list" == Value.type "dict") = false := by decide
      have hl1 : (s.heap.push (noSet0 w)).IsList l items := ⟨_, ho2, rfl, nl, rfl⟩
      unfold Builtin.«set.__init__» noKeywords Builtin.Frozenset.updateFrom
      generalize gp : pyIter = PI
      wp_walk
      subst gp
      refine wpAny_pyIter_list hl1 (wpAny_bind (wpAny_runValue ?_))
      have lS : l < s.heap.objs.size := Heap.lt_size ho
      have h3 : A.in1.in1.in1.handled = none := by simp [hh]
      have ez : (s.heap.push (noSet0 w)).objs.size = s.heap.objs.size + 1 := Heap.size_push ..
      have nI : l ≠ (s.heap.push (noSet0 w)).objs.size := Nat.ne_of_lt (by rw [ez]; exact Nat.lt_succ_of_lt lS)
      have nS : s.heap.objs.size ∉ [(s.heap.push (noSet0 w)).objs.size, l] := fun z => by
        rcases List.mem_cons.mp z with z | z
        · exact Nat.ne_of_lt (Nat.lt_succ_self _) (z.trans ez)
        · exact Nat.ne_of_gt lS (List.mem_singleton.mp z)
      have hv : ∀ (i : Nat) (v : Value), items[i]? = some v → ∃ k t, ns[i]? = some k ∧ v = .int k t := fun i v hv => by
        have hi : i < ns.length := by rw [← isz]; exact (Array.getElem?_eq_some_iff.mp hv).1
        obtain ⟨t, e⟩ := PyProof.Rows.IntsAre.int_at hit i v (by rwa [Array.getElem?_toList])
        exact ⟨ns[i], t, List.getElem?_eq_getElem hi, by rw [e, List.getD_eq_getElem?_getD, List.getElem?_eq_getElem hi]; rfl⟩
      refine set_update_ints ((Walks.list h3 _ l nI items).toS) s.heap.objs.size nS ns isz hb hv (items.size - 0) 0 _ (by omega) (Nat.zero_le _)
        ⟨⟨_, Heap.get?_push_size _ rfl, rfl, rfl⟩, (hl1.push _)⟩ ⟨0, Nat.le_refl 0, setR_new_at (Heap.get?_push_of_some _ gS)⟩ fun s' c' hm _ hS' => ?_
      obtain ⟨h', g2, d', tk', os'⟩ := s'
      have e1 : g2 = s.gens := hm.gens
      have e2 : d' = s.drawn := hm.drawn
      have e3 : os' = s.os := hm.os
      subst e1 e2 e3
      refine (show wpAny _ _ _ _ _ _ from wpAny_pure (show wpAny _ _ (ret Value.none) _ _ _ from wpAny_pure ⟨rfl, h', tk', c', rfl, hS', fun b o e => ?_⟩))
      have b0 : b < s.heap.objs.size := Heap.lt_size e
      have b1 : b ∉ [s.heap.objs.size, (s.heap.push (noSet0 w)).objs.size] := fun z => by
        rcases List.mem_cons.mp z with z | z
        · exact Nat.ne_of_lt b0 z
        · exact Nat.ne_of_lt (Nat.lt_succ_of_lt b0) ((List.mem_singleton.mp z).trans ez)
      exact hm.heap b o b1 (Heap.get?_push_of_some _ (Heap.get?_push_of_some _ e))
    · match r2, hr2 with
      | .error e, hr2 => exact hr2
      | .ok (.ret r), hr2 =>
        obtain ⟨rfl, h', tk, c', rfl, hS', hk'⟩ := hr2
        repeat (any_goals (first | assumption | wp_step))
        exact fin _ _ _ hS' hk'
end
theorem nodup_le {α : Type} [DecidableEq α] : ∀ {xs ys : List α}, xs.Nodup → (∀ z ∈ xs, z ∈ ys) → xs.length ≤ ys.length
  | [], _, _, _ => Nat.zero_le _
  | x :: r, ys, h, hs => by
    obtain ⟨h1, h2⟩ := List.nodup_cons.mp h
    have hx := hs x List.mem_cons_self
    have := nodup_le (xs := r) (ys := ys.erase x) h2 fun z hz => (List.mem_erase_of_ne fun (e : z = x) => h1 (by rw [← e]; exact hz)).mpr (hs z (List.mem_cons_of_mem _ hz))
    rw [List.length_erase_of_mem hx] at this
    have := List.length_pos_of_mem hx
    rw [List.length_cons]; omega
/-- as many as there are members -/
theorem setR_size {w : World} {h : Heap} {a : Addr} {ns : List Int} {c : Nat} (R : SetR w h a (fun j => decide (j ∈ ns)) c) : c = (setI ns).length := by
  obtain ⟨o, es, ep, t, ho, hx, hd, g, nd, hm, hb, hf, hn, _⟩ := R
  have e : (es.toList.map keyOf).length = (setI ns).length := by
    refine Nat.le_antisymm (nodup_le nd fun z hz => ?_) (nodup_le (setI_asc.imp fun h => Int.ne_of_lt h) fun z hz => ?_)
    · have := (hm z).mpr hz
      simpa [mem_setI] using this
    · exact (hm z).mp (by simpa [mem_setI] using hz)
  rw [← e, List.length_map, Array.length_toList, hn]
/-- sorted(a set of ints), of any size -/
theorem sorted_setA {P : Program} {w : World} {A : Around} {E : Value → Shared → Prop} {s : Shared} {a : Addr} {S : Int → Bool} {n : Nat} {Q : Value → Shared → Prop} (R : SetR w s.heap a S n) (hh : A.handled = none)
    (fin : ∀ s' p (out : Array Value) (c : Nat) (ns : List Int), (∀ b o, s.heap.get? b = some o → s'.heap.get? b = some o) → s'.gens = s.gens → s'.os = s.os → s.heap.objs.size ≤ p → s'.heap.get? p = some (seqObj "list" out c) → PyProof.Rows.IntsAre out.toList ns → ns.Pairwise (· < ·) → (∀ k, k ∈ ns ↔ S k = true) → ns.length = n → Q (.ref p) s') :
    wpAny (model P w) A (call (.builtin "sorted") [.ref a]) Q E s := by
  obtain ⟨o, es, ep, t, h0, hx, hd, g, nd, hm, hb, hf, hn, hr, hl⟩ := R
  refine Calls.call_function_entry kind_sorted plain_sorted entry_sorted (args_sorted1 _) (show wpAny _ _ _ _ _ _ from ?_); unfold Builtin.«sorted»
  refine wpAny_bind (m := checkCount "sorted" 1 1 _) (wpAny_pure (wpAny_bind (collect_set (A := A.in1) hh ⟨o, h0, hx.1, hd⟩ hf hb hr hl fun s1 vs k1 hz g1 o1 pm => ?_)))
  have lv : vs.length = n := by rw [pm.length_eq, List.length_map, Array.length_toList]; exact hn
  have iv : PyProof.Rows.IntsAre vs (vs.map Builtin.Re.reRawOf) := ints_of vs fun v hv => by
    obtain ⟨e, he, q⟩ := List.mem_map.mp (pm.mem_iff.mp hv); obtain ⟨k, tk, h1, _⟩ := g e he
    exact ⟨k, tk, by rw [← q]; exact h1⟩
  have pk : (vs.map Builtin.Re.reRawOf).Perm (es.toList.map keyOf) := by have q := pm.map Builtin.Re.reRawOf; rwa [List.map_map] at q
  have hb' : es.size < 4096 := hb
  have lz : vs.length ≤ sizeLine := by rw [lv, sizeLine_eq]; omega
  refine wpAny_bind (wpAny_newList ?_ lz)
  have ho : (s1.heap.push (seqObj "list" vs.toArray 0)).get? s1.heap.objs.size = some (seqObj "list" vs.toArray 0) := Heap.get?_push_size _ rfl
  refine wpAny_bind (wpAny_holding (wpAny_call_entry PyProof.Rows.slot_list_sort ⟨_, ho, rfl⟩ PyProof.Rows.entry_list_sort (SrtO.list_sort_ord SrtO.swo_int ho lz (fun h2 => SrtO.ints_sortable iv h2) fun out h1 h2 => ⟨_, rfl, ?_⟩) (PyProof.Rows.args_list_sort _)))
  obtain ⟨q1, q2, q3⟩ := SrtO.ints_out iv h1 h2
  obtain ⟨c, hc⟩ := PyProof.Rows.sortedHeap_at (vs := vs) (out := out.toArray) ho
  have pn : (out.map SrtO.iv).Perm (es.toList.map keyOf) := q2.trans pk
  refine wpAny_pure ⟨_, rfl, fin _ s1.heap.objs.size out.toArray c (out.map SrtO.iv) (fun b u e => ?_) g1 o1 hz hc (by simpa using q1) (lt_of_le_nodup _ q3 (pn.nodup_iff.mpr nd)) (fun k => by rw [pn.mem_iff, ← hm k]) ?_⟩
  · have q := k1 b u e
    have hlt := Heap.lt_size q
    show (PyProof.Rows.sortedHeap (s1.heap.push (seqObj "list" vs.toArray 0)) s1.heap.objs.size vs out.toArray).get? b = some u
    rw [PyProof.Rows.sortedHeap_old (Nat.ne_of_lt hlt) (by rw [Heap.size_push]; exact Nat.lt_succ_of_lt hlt)]; exact Heap.get?_push_of_some _ q
  · rw [pn.length_eq, List.length_map, Array.length_toList]; exact hn
theorem ints_vals : ∀ {ns : List Int} {us : List Value}, Vals (ns.map V.int) us → PyProof.Rows.IntsAre us ns
  | [], _, .nil => .nil
  | n :: ns, _, .cons r t => by
    obtain ⟨k, rfl⟩ := r
    exact .cons n k (ints_vals t)
section
variable {X : Cx} {a : Expr} {ta : TE} {p p2 q pos : Pos}
/-- len(set(xs)) -/
def tLenSet (K : PySem.W.Frag) (ta : TE) : TE := fun σ H Q => ta σ H fun x H1 => ∃ (l : Addr) (ns : List Int), x = .ref l ∧ (SqL K H1 l (ns.map V.int) ∨ SqT K H1 l (ns.map V.int)) ∧ ns.length ≤ 4000 ∧ Q (.int ((setI ns).length : Nat)) H1
theorem pe_lenSetA (hg : Gl X "len") (hm : X.mg "len" = none) (hg2 : Gl X "set") (hm2 : X.mg "set" = none) (ha : PE X a ta) (hc : X.calm = true) (na : starEach [a] X.env = (false, eval a X.env) :: starEach [] X.env) :
    PE X (.Call (.Name "len" p) [.Call (.Name "set" p2) [a] [] q] [] pos) (tLenSet X.K ta) := by
  refine ⟨fun pins s σ H Q I h => Call_ (ld_blt I hg hm boot_len (PyProof.Rows.callWith_builtin1 (PyProof.Rows.args_cons ?_ rfl) rfl rfl))⟩
  refine Call_ (ld_blt I hg2 hm2 boot_set (PyProof.Rows.callWith_type1 (PyProof.Rows.args_cons (thn (ha.run pins s σ H _ I h) fun v s1 ⟨x, H1, I1, r1, q1⟩ => PyProof.Rows.args_nil ?_) na) na rfl))
  obtain ⟨l, ns, rfl, hq, hl, q1⟩ := q1
  cases r1
  rcases hq with hq | hq
  · obtain ⟨its, r, pl, hz⟩ := I1.list hq
    refine call_setL ns (I1.ok.hd hc) pl.isList (by simpa using ints_vals r) (by unfold scanBound; omega) fun h' tk c hS hk => PyProof.Rows.args_nil ?_
    have ec := setR_size hS
    obtain ⟨o, es, ep, t, ho, hex, hd, _, _, _, hb, hf, hn, _⟩ := hS
    have I2 : Inv X pins σ H1 { s1 with heap := h', toks := tk } := I1.kept hk
    have hb' : es.size < 4096 := hb
    exact call_len_set ho hex hd hf (by omega) ⟨.int (setI ns).length, H1, I2.tok _, ⟨_, by rw [hn, ec]⟩, q1⟩
  · obtain ⟨its, r, pl, hz⟩ := I1.tuple hq
    refine call_set_tupI ns (I1.ok.hd hc) (show s1.heap.IsTuple l its.toArray from pl) (by simpa using ints_vals r) (by unfold scanBound; omega) fun h' tk c hS _ hk => PyProof.Rows.args_nil ?_
    have ec := setR_size hS
    obtain ⟨o, es, ep, t, ho, hex, hd, _, _, _, hb, hf, hn, _⟩ := hS
    have I2 : Inv X pins σ H1 { s1 with heap := h', toks := tk } := I1.kept hk
    have hb' : es.size < 4096 := hb
    exact call_len_set ho hex hd hf (by omega) ⟨.int (setI ns).length, H1, I2.tok _, ⟨_, by rw [hn, ec]⟩, q1⟩
/-- sorted(set(xs)) -/
def tSortSet (K : PySem.W.Frag) (ta : TE) : TE := fun σ H Q => ta σ H fun x H1 => ∃ (l : Addr) (ns : List Int), x = .ref l ∧ (SqL K H1 l (ns.map V.int) ∨ SqT K H1 l (ns.map V.int)) ∧ ns.length ≤ 4000 ∧ ∀ p, H1 p = none → Q (.ref p) (upd H1 p (.lst ((setI ns).map V.int)))
theorem boot_sortedA : bootBuiltins "sorted" = some (.builtin "sorted") := by decide +kernel
theorem pe_sortSetA (hg : Gl X "sorted") (hm : X.mg "sorted" = none) (hg2 : Gl X "set") (hm2 : X.mg "set" = none) (ha : PE X a ta) (hc : X.calm = true) (na : starEach [a] X.env = (false, eval a X.env) :: starEach [] X.env) :
    PE X (.Call (.Name "sorted" p) [.Call (.Name "set" p2) [a] [] q] [] pos) (tSortSet X.K ta) := by
  refine ⟨fun pins s σ H Q I h => Call_ (ld_blt I hg hm boot_sortedA (PyProof.Rows.callWith_builtin1 (PyProof.Rows.args_cons ?_ rfl) rfl rfl))⟩
  refine Call_ (ld_blt I hg2 hm2 boot_set (PyProof.Rows.callWith_type1 (PyProof.Rows.args_cons (thn (ha.run pins s σ H _ I h) fun v s1 ⟨x, H1, I1, r1, q1⟩ => PyProof.Rows.args_nil ?_) na) na rfl))
  obtain ⟨l, ns, rfl, hq, hl, q1⟩ := q1
  cases r1
  rcases hq with hq | hq
  · obtain ⟨its, r, pl, hz⟩ := I1.list hq
    refine call_setL ns (I1.ok.hd hc) pl.isList (by simpa using ints_vals r) (by unfold scanBound; omega) fun h' tk c hS hk => PyProof.Rows.args_nil ?_
    have ec := setR_size hS
    have np : H1 s1.heap.objs.size = none := I1.hok.fresh (Nat.le_refl _)
    have I2 : Inv X pins σ (upd H1 s1.heap.objs.size (SetO X.w s1.heap.objs.size (fun j => decide (j ∈ ns)) c)) { s1 with heap := h', toks := tk } :=
      I1.laid hk (Nat.le_refl _) (setO_new hS)
    refine sorted_setA (s := { s1 with heap := h', toks := tk }) hS (I1.ok.hd hc) fun s' b out m ms k g o hp hg hi asc mem len => ?_
    have le : s1.heap.objs.size ≤ b := Nat.le_trans (Nat.le_of_lt hS.lt) hp
    have np : H1 b = none := I1.hok.fresh le
    have keep : ∀ c o, s1.heap.get? c = some o → s'.heap.get? c = some o := fun c o e => k c o (hk c o e)
    have em : ms = setI ns := asc_eq asc setI_asc fun z => (mem z).trans (by simp [mem_setI])
    subst em
    have lt := setI_le (xs := ns)
    have ln : ((setI ns).map V.int).length ≤ sizeLine := by rw [List.length_map, sizeLine_eq]; omega
    have J : Inv X pins σ (upd H1 b (.lst ((setI ns).map V.int))) { s1 with heap := s'.heap, gens := s'.gens, drawn := s'.drawn, toks := s'.toks } :=
      I1.call (ch := []) (Un.laid keep le np) (I1.hok.laid keep le ⟨ln, out.toList, m, vals_of_ints hi, hg⟩) (by rw [g]; exact I1.bare) fun _ z => (nomatch z)
    have es : s' = { s1 with heap := s'.heap, gens := s'.gens, drawn := s'.drawn, toks := s'.toks } := by
      cases s'; cases s1; cases o; rfl
    rw [es]
    exact ⟨.ref b, _, J, rfl, q1 b np⟩
  · obtain ⟨its, r, pl, hz⟩ := I1.tuple hq
    refine call_set_tupI ns (I1.ok.hd hc) (show s1.heap.IsTuple l its.toArray from pl) (by simpa using ints_vals r) (by unfold scanBound; omega) fun h' tk c hS _ hk => PyProof.Rows.args_nil ?_
    have ec := setR_size hS
    have np : H1 s1.heap.objs.size = none := I1.hok.fresh (Nat.le_refl _)
    have I2 : Inv X pins σ (upd H1 s1.heap.objs.size (SetO X.w s1.heap.objs.size (fun j => decide (j ∈ ns)) c)) { s1 with heap := h', toks := tk } :=
      I1.laid hk (Nat.le_refl _) (setO_new hS)
    refine sorted_setA (s := { s1 with heap := h', toks := tk }) hS (I1.ok.hd hc) fun s' b out m ms k g o hp hg hi asc mem len => ?_
    have le : s1.heap.objs.size ≤ b := Nat.le_trans (Nat.le_of_lt hS.lt) hp
    have np : H1 b = none := I1.hok.fresh le
    have keep : ∀ c o, s1.heap.get? c = some o → s'.heap.get? c = some o := fun c o e => k c o (hk c o e)
    have em : ms = setI ns := asc_eq asc setI_asc fun z => (mem z).trans (by simp [mem_setI])
    subst em
    have lt := setI_le (xs := ns)
    have ln : ((setI ns).map V.int).length ≤ sizeLine := by rw [List.length_map, sizeLine_eq]; omega
    have J : Inv X pins σ (upd H1 b (.lst ((setI ns).map V.int))) { s1 with heap := s'.heap, gens := s'.gens, drawn := s'.drawn, toks := s'.toks } :=
      I1.call (ch := []) (Un.laid keep le np) (I1.hok.laid keep le ⟨ln, out.toList, m, vals_of_ints hi, hg⟩) (by rw [g]; exact I1.bare) fun _ z => (nomatch z)
    have es : s' = { s1 with heap := s'.heap, gens := s'.gens, drawn := s'.drawn, toks := s'.toks } := by
      cases s'; cases s1; cases o; rfl
    rw [es]
    exact ⟨.ref b, _, J, rfl, q1 b np⟩
end
/-- x[i], by values -/
theorem get_list {X : Cx} : PGet X (rIxL X.K) := by
  intro pins s σ H x y v u Q I rx ry h
  obtain ⟨p, xs, i, z, rfl, rfl, hq, he, q⟩ := h
  cases rx
  obtain ⟨t, rfl⟩ := ry
  obtain ⟨its, r, pl, hz⟩ := I.list hq
  obtain ⟨j, h1, h2, h3, h4, h5⟩ := atI_get he
  obtain ⟨w, ew, rw'⟩ := r.get h2
  have hl := r.length; have hn := line63
  by_cases h0 : 0 ≤ i
  · have hj : i.toNat = j := by rw [seqIndex_of h0 h5] at h1; exact Option.some.inj h1
    exact wpAny_getItem_list pl.isList h0 (by omega) (by rw [hj]; simpa using ew) ⟨z, H, I, rw', q⟩
  · have hj : (i + (its.toArray.size : Int)).toNat = j := by
      rw [seqIndex_neg (by omega) h4] at h1; rw [List.size_toArray, ← hl]; exact Option.some.inj h1
    exact wpAny_getItem_list_neg pl.isList (by omega) (by rw [List.size_toArray] <;> omega) (by omega) (by rw [hj]; simpa using ew) ⟨z, H, I, rw', q⟩
/-- t += u, tuples -/
theorem noIaddT : typeLookup (.type "tuple") (dunderI "add") = pure none := am_miss_of_fast (by first | decide +kernel | rfl)
section
variable {X : Cx}
open HT in
theorem iop_catA : OpR X (inplaceOp .Add) (rCatA X.K) := by
  intro pins s σ H x y v u Q I rx ry h
  obtain ⟨a, b, xs, ys, rfl, rfl, ha, hb, hz, q0, q1, q2⟩ := h
  cases rx; cases ry
  obtain ⟨vs, r1, p1, _⟩ := I.tuple ha
  obtain ⟨ws, r2, p2, _⟩ := I.tuple hb
  obtain ⟨⟨c1, d1, t1, l1⟩, o1, e1, n1, f1⟩ := id p1
  obtain ⟨⟨c2, d2, t2, l2⟩, o2, e2, n2, f2⟩ := id p2
  simp only at e1 f1 e2 f2
  subst e1 f1 e2 f2
  have z : vs.length + ws.length ≤ sizeLine := by rw [← r1.length, ← r2.length]; exact hz
  have go : ∀ {S : PySem.Spec}, Meets (Builtin.«tuple.__add__» ⟨[.ref a, .ref b], []⟩) S → S X.A (wants (EP X pins σ Q) X.xe) s → wpAny (model X.prog X.w) X.A (inplaceOp .Add (.ref a) (.ref b)) (EP X pins σ Q) X.xe s := fun g h =>
    wpAny_inplaceOp_concat ⟨_, o1, rfl⟩ ⟨_, o2, rfl⟩ noIaddT noFill_tuple_add seq_tuple_add (call_meets PySem.F.slot_tuple_add ⟨_, o1, rfl⟩ PySem.F.entry_tuple_add (PySem.F.args_tuple_add_2 _ _) g h)
  by_cases hx : vs = []
  · have hx' : xs = [] := r1.nil_iff.mp hx
    subst hx
    exact go (tuple_addW0 a b ([] : List Value).toArray ws.toArray n1 n2 d1 d2 l1 l2 (by simp)) ⟨o1, o2, .ref b, H, I, rfl, q0 hx'⟩
  · have hx' : xs ≠ [] := fun w => hx (r1.nil_iff.mpr w)
    by_cases hy : ws = []
    · exact go (tuple_addW1 a b vs.toArray ws.toArray n1 n2 d1 d2 l1 l2 (by simpa using hx) (by simp [hy])) ⟨o1, o2, .ref a, H, I, rfl, q1 hx' (r2.nil_iff.mp hy)⟩
    · refine go (tuple_addW2 a b vs.toArray ws.toArray n1 n2 d1 d2 l1 l2 (by simpa using hx) (by simpa using hy) (by simpa using z)) ⟨o1, o2, ?_⟩
      have e : vs.toArray ++ ws.toArray = (vs ++ ws).toArray := by simp
      rw [e]
      exact ⟨.ref s.heap.objs.size, _, I.laid (t' := s.toks) (o := .tup (xs ++ ys)) (fun b ob q => Heap.get?_push_of_some _ q) (Nat.le_refl _) ⟨by rw [List.length_append]; exact hz, _, r1.append r2, IsTup.new _ _⟩, rfl, q2 hx' (fun w => hy (r2.nil_iff.mpr w)) _ (I.hok.fresh (Nat.le_refl _))⟩
end
end Pv

/-! EvS: sorted(set(xs)) of rows of ints. -/
namespace Pv
open PySem PySem.Spec PyProof.Rows L2
/-- the members of a list of rows, ascending, each once -/
def insT (x : List Int) : List (List Int) → List (List Int)
  | [] => [x]
  | y :: r => if x < y then x :: y :: r else if x = y then y :: r else y :: insT x r
def setT (xs : List (List Int)) : List (List Int) := xs.foldr insT []
theorem mem_insT {x z : List Int} : ∀ {ys : List (List Int)}, z ∈ insT x ys ↔ z = x ∨ z ∈ ys
  | [] => by simp [insT]
  | y :: r => by
    unfold insT
    split
    · simp
    · split
      · rename_i h; subst h; simp
      · rw [List.mem_cons, mem_insT, List.mem_cons]
        constructor
        · rintro (h | h | h)
          · exact Or.inr (Or.inl h)
          · exact Or.inl h
          · exact Or.inr (Or.inr h)
        · rintro (h | h | h)
          · exact Or.inr (Or.inl h)
          · exact Or.inl h
          · exact Or.inr (Or.inr h)
theorem insT_asc {x : List Int} : ∀ {ys : List (List Int)}, ys.Pairwise (· < ·) → (insT x ys).Pairwise (· < ·)
  | [], _ => by simp [insT]
  | y :: r, h => by
    obtain ⟨h1, h2⟩ := List.pairwise_cons.mp h
    unfold insT
    split
    · rename_i hl
      exact List.pairwise_cons.mpr ⟨fun z hz => (List.mem_cons.mp hz).elim (fun e => e ▸ hl) fun q => List.lt_trans hl (h1 z q), h⟩
    · split
      · exact h
      · rename_i n1 n2
        have lt : y < x := (List.le_iff_lt_or_eq.mp (List.not_lt.mp n1)).resolve_right fun e => n2 e.symm
        exact List.pairwise_cons.mpr ⟨fun z hz => (mem_insT.mp hz).elim (fun e => e ▸ lt) fun q => h1 z q, insT_asc h2⟩
theorem mem_setT {z : List Int} : ∀ {xs : List (List Int)}, z ∈ setT xs ↔ z ∈ xs
  | [] => by simp [setT]
  | x :: r => by
    show z ∈ insT x (setT r) ↔ _
    rw [mem_insT, mem_setT, List.mem_cons]
theorem setT_asc : ∀ {xs : List (List Int)}, (setT xs).Pairwise (· < ·)
  | [] => .nil
  | x :: r => insT_asc (setT_asc (xs := r))
theorem ascT_eq : ∀ {xs ys : List (List Int)}, xs.Pairwise (· < ·) → ys.Pairwise (· < ·) → (∀ z, z ∈ xs ↔ z ∈ ys) → xs = ys
  | [], [], _, _, _ => rfl
  | [], y :: r, _, _, h => absurd ((h y).mpr List.mem_cons_self) (by simp)
  | x :: r, [], _, _, h => absurd ((h x).mp List.mem_cons_self) (by simp)
  | x :: r, y :: t, hx, hy, h => by
    obtain ⟨x1, x2⟩ := List.pairwise_cons.mp hx
    obtain ⟨y1, y2⟩ := List.pairwise_cons.mp hy
    have e : x = y := by
      rcases List.mem_cons.mp ((h x).mp List.mem_cons_self) with e | hm
      · exact e
      · rcases List.mem_cons.mp ((h y).mpr List.mem_cons_self) with e | hm2
        · exact e.symm
        · exact absurd (y1 x hm) (List.lt_asymm (x1 y hm2))
    subst e
    congr 1
    refine ascT_eq x2 y2 fun z => ?_
    constructor
    · intro hz
      rcases List.mem_cons.mp ((h z).mp (List.mem_cons_of_mem _ hz)) with e | hm
      · exact absurd (x1 z hz) (e ▸ List.lt_irrefl _)
      · exact hm
    · intro hz
      rcases List.mem_cons.mp ((h z).mpr (List.mem_cons_of_mem _ hz)) with e | hm
      · exact absurd (y1 z hz) (e ▸ List.lt_irrefl _)
      · exact hm
/-- the code keeps the order -/
theorem code_le {B : Int} : ∀ {a b : List Int}, a.length = b.length → TS.Bd B a → TS.Bd B b → TS.code B a ≤ TS.code B b → a ≠ b → a < b
  | [], [], _, _, _, _, h => absurd rfl h
  | x :: r, y :: t, hl0, ha, hb, hc, hn => by
    have hl : r.length = t.length := by simpa using hl0
    rcases Int.lt_trichotomy x y with h | h | h
    · exact List.cons_lt_cons_iff.mpr (Or.inl h)
    · subst h
      have hl : r.length = t.length := by simpa using hl0
      refine List.cons_lt_cons_iff.mpr (Or.inr ⟨rfl, code_le hl ha.tail hb.tail ?_ fun e => hn (e ▸ rfl)⟩)
      refine Int.not_lt.mp fun z => ?_
      have := (TS.code_same (B := B) (d := x) (r := t) (q := r) hl.symm).mpr z
      omega
    · have := TS.code_lt hl.symm hb.tail ha.tail h
      omega
/-- a bound above all -/
theorem bd_of {L : List (Addr × List Int)} (h : ∀ p ∈ L, ∀ m ∈ p.2, (0 : Int) ≤ m) : ∃ B : Int, ∀ p ∈ L, TS.Bd B p.2 := by
  have one : ∀ ns : List Int, (∀ m ∈ ns, (0 : Int) ≤ m) → ∃ B : Int, 0 ≤ B ∧ ∀ m ∈ ns, m < B := by
    intro ns
    induction ns with
    | nil => intro _; exact ⟨0, Int.le_refl _, by simp⟩
    | cons n r ih =>
      intro h
      obtain ⟨B, h0, h1⟩ := ih fun m hm => h m (List.mem_cons_of_mem _ hm)
      have hn := h n List.mem_cons_self
      refine ⟨B + n + 1, by omega, fun m hm => ?_⟩
      rcases List.mem_cons.mp hm with rfl | hm
      · omega
      · have := h1 m hm; omega
  have all : ∃ B : Int, 0 ≤ B ∧ ∀ p ∈ L, ∀ m ∈ p.2, m < B := by
    induction L with
    | nil => exact ⟨0, Int.le_refl _, by simp⟩
    | cons p r ih =>
      obtain ⟨B, b0, h1⟩ := ih fun q hq => h q (List.mem_cons_of_mem _ hq)
      obtain ⟨B2, b2, h2⟩ := one p.2 (h p List.mem_cons_self)
      refine ⟨B + B2, by omega, fun q hq m hm => ?_⟩
      rcases List.mem_cons.mp hq with rfl | hq
      · have := h2 m hm; omega
      · have := h1 q hq m hm; omega
  obtain ⟨B, _, h1⟩ := all
  exact ⟨B, fun p hp m hm => ⟨h p hp m hm, h1 p hp m hm⟩⟩
abbrev tuI (xs : List Int) : PyData := .tuple (xs.map .int)
def lqL (a b : List Int) : Bool := !decide (b < a)
theorem lqL_iff {a b : List Int} : lqL a b = true ↔ a ≤ b := by
  unfold lqL
  rw [Bool.not_eq_true', decide_eq_false_iff_not]
  exact List.not_lt
theorem tu_lt (xs ys : List Int) : PySem.W.dataLt (tuI xs) (tuI ys) = decide (xs < ys) := (PySem.W.dataLt_tuple _ _).trans (PySem.W.dataLt_ints xs ys)
theorem tu_le (xs ys : List Int) : PySem.W.dataLe false id (tuI xs) (tuI ys) = lqL xs ys := by
  show (!PySem.W.dataLt (tuI ys) (tuI xs)) = _
  rw [tu_lt]; rfl
theorem tu_sort (xss : List (List Int)) : (xss.map tuI).mergeSort (PySem.W.dataLe false id) = (xss.mergeSort lqL).map tuI :=
  (List.map_mergeSort fun a _ b _ => (tu_le a b).symm).symm
theorem lqL_trans (a b c : List Int) (h : lqL a b = true) (h2 : lqL b c = true) : lqL a c = true := lqL_iff.mpr (List.le_trans (lqL_iff.mp h) (lqL_iff.mp h2))
theorem lqL_total (a b : List Int) : (lqL a b || lqL b a) = true := by
  rw [Bool.or_eq_true, lqL_iff, lqL_iff]
  exact List.le_total a b
theorem tu_sorted (xss : List (List Int)) : (xss.mergeSort lqL).Pairwise (· ≤ ·) := (List.pairwise_mergeSort lqL_trans lqL_total xss).imp lqL_iff.mp
theorem tu_alike : ∀ (xs ys : List Int), PySem.W.alikeAll (xs.map .int) (ys.map .int) = true
  | [], _ => by simp [PySem.W.alikeAll]
  | x :: xs, [] => by simp [PySem.W.alikeAll]
  | x :: xs, y :: ys => by simp [PySem.W.alikeAll, PySem.W.alike, tu_alike xs ys]
theorem tu_dep0 : ∀ xs : List Int, PyData.depthAll (xs.map .int) ≤ 0
  | [] => by simp [PyData.depthAll]
  | x :: xs => by simp [PyData.depthAll, PyData.depth, Nat.le_zero.mp (tu_dep0 xs)]
theorem tu_dep (xs : List Int) : (tuI xs).depth ≤ 1 := by
  have := tu_dep0 xs
  unfold tuI
  rw [PyData.depth]
  omega
theorem items_reads {P : Program} {w : World} {h : Heap} : ∀ {k : List Int} {us : List Value}, ItemsAre (intKind P w) k us → ReadsAll h us (k.map .int) []
  | [], _, .nil => .nil
  | n :: k, v :: _, .cons r t => by
    have := items_reads (h := h) t
    have r : v.isInt n = true := r
    cases v with
    | int i tk =>
      have e : i = n := by simpa [Value.isInt] using r
      rw [← e]
      exact .cons (.int _ _) (items_reads (h := h) t)
    | _ => cases r
theorem each_refs {L1 : List (Addr × List Int)} (R : Addr × List Int → Prop) (hR : ∀ q ∈ L1, R q) : PySem.W.EachIs (fun (v : Value) (d : PyData) => ∃ q, R q ∧ v = .ref q.1 ∧ d = tuI q.2) (L1.map fun q => Value.ref q.1) (L1.map fun q => tuI q.2) := by
  induction L1 with
  | nil => exact .nil
  | cons q r ih => exact .cons ⟨q, hR q List.mem_cons_self, rfl, rfl⟩ (ih fun x hx => hR x (List.mem_cons_of_mem _ hx))
theorem each_rows (R : Addr × List Int → Prop) : ∀ {out : List Value} {xss : List (List Int)}, PySem.W.EachIs (fun (v : Value) (d : PyData) => ∃ q, R q ∧ v = .ref q.1 ∧ d = tuI q.2) out (xss.map tuI) → ∃ L2 : List (Addr × List Int), out = L2.map (fun q => Value.ref q.1) ∧ L2.map (·.2) = xss ∧ ∀ q ∈ L2, R q
  | _, [], .nil => ⟨[], rfl, rfl, by simp⟩
  | _, x :: r, .cons ⟨q, hq, e1, e2⟩ t => by
    obtain ⟨L2, f1, f2, f3⟩ := each_rows R t
    have e3 : q.2 = x := by
      have := PyData.tuple.inj e2
      exact (List.map_inj_right fun _ _ e => PyData.int.inj e).mp this.symm
    exact ⟨q :: L2, by rw [List.map_cons, f1, e1], by rw [List.map_cons, f2, e3], fun z hz => (List.mem_cons.mp hz).elim (fun e => e ▸ hq) (f3 z)⟩
section
variable {P : Program} {w : World} {A : Around} {E : Value → Shared → Prop} {s : Shared}
theorem sorted_setD {a : Addr} {L : List (Addr × List Int)} {es : Array (Int × Value)} {ep : Nat} {t : SetTable} {Q : Value → Shared → Prop} (R : SetTR P w s.heap a L es ep t) (hh : A.handled = none) (hu : A.units + 8 < cLine)
    (hne : ∀ p ∈ L, p.2 ≠ [])
    (hQ : ∀ s' p (out : Array Value) (c : Nat) (L' : List (Addr × List Int)), (∀ b o, s.heap.get? b = some o → s'.heap.get? b = some o) → s'.gens = s.gens → s'.os = s.os → s.heap.objs.size ≤ p →
      s'.heap.get? p = some (seqObj "list" out c) → out.toList = L'.map (fun q => Value.ref q.1) → (∀ q ∈ L', q ∈ L) → (L'.map (·.2)).Perm (L.map (·.2)) → (L'.map (·.2)).Pairwise (· ≤ ·) → Q (.ref p) s') :
    wpAny (model P w) A (call (.builtin "sorted") [.ref a]) Q E s := by
  obtain ⟨o, ho, hex, hd⟩ := R.ob
  have hsz := R.size
  have hfew := R.few
  refine Calls.call_function_entry kind_sorted plain_sorted entry_sorted (args_sorted1 _) ?_
  unfold Builtin.«sorted»
  refine wpAny_bind (m := checkCount "sorted" 1 1 _) (wpAny_pure ?_)
  refine wpAny_bind (collect_set (A := A.in1) hh ⟨o, ho, hex.1, hd⟩ R.fits (by unfold scanBound; omega) R.tab.ris R.led fun s1 vs k1 hz g1 o1 pm => ?_)
  have hes : es.toList.map (·.2) = L.map fun q => Value.ref q.1 := by
    rw [R.rows]
    unfold rowsOf
    rw [List.map_map] <;> rfl
  rw [hes] at pm
  -- the rows in the order met
  have ord : ∀ vs : List Value, (∀ v ∈ vs, ∃ q ∈ L, v = Value.ref q.1) → ∃ L1 : List (Addr × List Int), vs = L1.map (fun q => Value.ref q.1) ∧ ∀ q ∈ L1, q ∈ L := by
    intro vs
    induction vs with
    | nil => intro _; exact ⟨[], rfl, fun q hq => (by cases hq)⟩
    | cons v vs ih =>
      intro hv
      obtain ⟨q, hq, e⟩ := hv v List.mem_cons_self
      obtain ⟨L1, e1, hs⟩ := ih fun u hu => hv u (List.mem_cons_of_mem _ hu)
      refine ⟨q :: L1, by rw [List.map_cons, e, e1], fun r hr => ?_⟩
      rcases List.mem_cons.mp hr with z | z
      · rw [z]; exact hq
      · exact hs r z
  have one : ∀ q ∈ L, ∀ r ∈ L, q.1 = r.1 → q = r := fun q hq r hr e => by
    have a1 := R.tup q hq
    have a2 := R.tup r hr
    rw [e] at a1
    have e2 : q.2 = r.2 := a1.inj a2
    exact Prod.ext e e2
  have nL : L.Nodup := nodup_of_map R.nd
  have nref : (L.map fun q => Value.ref q.1).Nodup := by
    refine List.pairwise_map.mpr (List.Pairwise.imp_of_mem (fun {q r} hq hr hne e => ?_) nL)
    injection e with e
    exact hne (one q hq r hr e)
  obtain ⟨L1, e1, hs1⟩ := ord vs fun v hv => by
    obtain ⟨q, hq, e⟩ := List.mem_map.mp (pm.mem_iff.mp hv)
    exact ⟨q, hq, e.symm⟩
  have p1 : L1.Perm L := by
    rw [e1] at pm
    have n1 : L1.Nodup := nodup_of_map (pm.nodup_iff.mpr nref)
    refine (List.perm_ext_iff_of_nodup n1 nL).mpr fun q => ⟨hs1 q, fun hq => ?_⟩
    have hm : Value.ref q.1 ∈ L1.map (fun q => Value.ref q.1) := pm.mem_iff.mpr (List.mem_map.mpr ⟨q, hq, rfl⟩)
    obtain ⟨r, hr, e⟩ := List.mem_map.mp hm
    injection e with e
    rw [← one r (hs1 r hr) q hq e]
    exact hr
  have hvl : vs.length < 64 := by rw [pm.length_eq, List.length_map]; exact hfew
  refine wpAny_bind (wpAny_newList ?_ (by rw [sizeLine_eq]; omega))
  have hoL : (s1.heap.push (seqObj "list" vs.toArray 0)).get? s1.heap.objs.size = some (seqObj "list" vs.toArray 0) := Heap.get?_push_size _ rfl
  have er : PySem.W.EachIs (fun (v : Value) (d : PyData) => ∃ as, Reads (s1.heap.push (seqObj "list" vs.toArray 0)) v (id d) as ∧ s1.heap.objs.size ∉ as) vs (L1.map fun q => tuI q.2) := by
    rw [e1]
    refine (each_refs (fun q => q ∈ L) hs1).mono fun v d ⟨q, hq, f1, f2⟩ => ?_
    subst f1 f2
    obtain ⟨ob, its, n, g1, g2, g3, g4⟩ := R.tup q hq
    exact ⟨[], .tuple (Heap.get?_push_of_some _ (k1 _ _ g1)) g2 g3 (items_reads g4), by simp⟩
  refine wpAny_bind (wpAny_holding (PySem.W.list_sort_data (s := { s1 with heap := s1.heap.push (seqObj "list" vs.toArray 0) }) (enc := id) (bs := L1.map fun q => tuI q.2) (R := fun v d => ∃ q, q ∈ L ∧ v = .ref q.1 ∧ d = tuI q.2) hoL (by rw [e1]; exact each_refs (fun q => q ∈ L) hs1) er ?_ ?_ ?_ ?_ fun out a1 a2 => ?_))
  · rw [List.map_id]
    intro x hx y hy
    obtain ⟨q, _, rfl⟩ := List.mem_map.mp hx
    obtain ⟨r, _, rfl⟩ := List.mem_map.mp hy
    have := tu_alike q.2 r.2
    simpa [PySem.W.alike] using this
  · rw [List.map_id]
    refine .inl fun d hd => ?_
    obtain ⟨q, hq, rfl⟩ := List.mem_map.mp hd
    have := hne q (hs1 q hq)
    cases e : q.2 with
    | nil => exact absurd e this
    | cons x r => exact ⟨_, _, rfl⟩
  · rw [List.length_map, p1.length_eq, sizeLine_eq]; omega
  · intro d hd
    obtain ⟨q, _, rfl⟩ := List.mem_map.mp hd
    have := tu_dep q.2
    show A.units + 1 + 1 + (tuI q.2).depth < cLine
    omega
  · have er2 : (L1.map fun q => tuI q.2) = (L1.map (·.2)).map tuI := by rw [List.map_map]; rfl
    rw [er2, tu_sort] at a2
    obtain ⟨L', f1, f2, f3⟩ := each_rows (fun q => q ∈ L) a2
    obtain ⟨c, hc⟩ := sortedHeap_at (vs := vs) (out := out.toArray) hoL
    have pL : (L'.map (·.2)).Perm (L.map (·.2)) := by rw [f2]; exact (List.mergeSort_perm _ _).trans (p1.map (·.2))
    refine wpAny_pure ⟨_, rfl, hQ _ s1.heap.objs.size out.toArray c L' (fun b u e => ?_) g1 o1 hz hc (by rw [← f1]) f3 pL (by rw [f2]; exact tu_sorted _)⟩
    have q := k1 b u e
    have hlt := Heap.lt_size q
    show (sortedHeap (s1.heap.push (seqObj "list" vs.toArray 0)) s1.heap.objs.size vs out.toArray).get? b = some u
    rw [sortedHeap_old (Nat.ne_of_lt hlt) (by rw [show (s1.heap.push (seqObj "list" vs.toArray 0)).objs.size = s1.heap.objs.size + 1 by simp [Heap.push]]; exact Nat.lt_succ_of_lt hlt)]
    exact Heap.get?_push_of_some _ q
end
section
variable {X : Cx} {a : Expr} {ta : TE} {p p2 q pos : Pos}
/-- sorted(set(xs)), ints or rows -/
def rSortSetB (K : PySem.W.Frag) (x : V) (H1 : Hp) (Q : VK) : Prop := (∃ (l : Addr) (ns : List Int), x = .ref l ∧ (SqL K H1 l (ns.map V.int) ∨ SqT K H1 l (ns.map V.int)) ∧ ns.length ≤ 4000 ∧ ∀ p, H1 p = none → Q (.ref p) (upd H1 p (.lst ((setI ns).map V.int)))) ∨
  (∃ (l : Addr) (ks : List (Addr × List Int)), x = .ref l ∧ SqL K H1 l (ks.map fun p => V.ref p.1) ∧ (∀ p ∈ ks, SqT K H1 p.1 (p.2.map V.int)) ∧ ks.length < 64 ∧ (∀ p ∈ ks, p.2 ≠ []) ∧
  ∀ (L : List (Addr × List Int)) (b : Addr), L.map (·.2) = setT (ks.map (·.2)) → (∀ q ∈ L, q ∈ ks) → H1 b = none → Q (.ref b) (upd H1 b (.lst (L.map fun q => V.ref q.1))))
def tSortSetB (K : PySem.W.Frag) (ta : TE) : TE := fun σ H Q => ta σ H fun x H1 => rSortSetB K x H1 Q
theorem pe_sortSetB (hg : Gl X "sorted") (hm : X.mg "sorted" = none) (hg2 : Gl X "set") (hm2 : X.mg "set" = none) (ha : PE X a ta) (hc : X.calm = true) (hu : X.A.units + 65 < cLine) (na : starEach [a] X.env = (false, eval a X.env) :: starEach [] X.env) :
    PE X (.Call (.Name "sorted" p) [.Call (.Name "set" p2) [a] [] q] [] pos) (tSortSetB X.K ta) := by
  refine ⟨fun pins s σ H Q I h => Call_ (ld_blt I hg hm boot_sortedA (PyProof.Rows.callWith_builtin1 (PyProof.Rows.args_cons ?_ rfl) rfl rfl))⟩
  refine Call_ (ld_blt I hg2 hm2 boot_set (PyProof.Rows.callWith_type1 (PyProof.Rows.args_cons (thn (ha.run pins s σ H _ I h) fun v s1 ⟨x, H1, I1, r1, q1⟩ => PyProof.Rows.args_nil ?_) na) na rfl))
  rcases q1 with q1 | q1
  · obtain ⟨l, ns, rfl, hq, hl, q1⟩ := q1
    cases r1
    rcases hq with hq | hq
    · obtain ⟨its, r, pl, hz⟩ := I1.list hq
      refine call_setL ns (I1.ok.hd hc) pl.isList (by simpa using ints_vals r) (by unfold scanBound; omega) fun h' tk c hS hk => PyProof.Rows.args_nil ?_
      have ec := setR_size hS
      have np : H1 s1.heap.objs.size = none := I1.hok.fresh (Nat.le_refl _)
      have I2 : Inv X pins σ (upd H1 s1.heap.objs.size (SetO X.w s1.heap.objs.size (fun j => decide (j ∈ ns)) c)) { s1 with heap := h', toks := tk } :=
        I1.laid hk (Nat.le_refl _) (setO_new hS)
      refine sorted_setA (s := { s1 with heap := h', toks := tk }) hS (I1.ok.hd hc) fun s' b out m ms k g o hp hg hi asc mem len => ?_
      have le : s1.heap.objs.size ≤ b := Nat.le_trans (Nat.le_of_lt hS.lt) hp
      have np : H1 b = none := I1.hok.fresh le
      have keep : ∀ c o, s1.heap.get? c = some o → s'.heap.get? c = some o := fun c o e => k c o (hk c o e)
      have em : ms = setI ns := asc_eq asc setI_asc fun z => (mem z).trans (by simp [mem_setI])
      subst em
      have lt := setI_le (xs := ns)
      have ln : ((setI ns).map V.int).length ≤ sizeLine := by rw [List.length_map, sizeLine_eq]; omega
      have J : Inv X pins σ (upd H1 b (.lst ((setI ns).map V.int))) { s1 with heap := s'.heap, gens := s'.gens, drawn := s'.drawn, toks := s'.toks } :=
        I1.call (ch := []) (Un.laid keep le np) (I1.hok.laid keep le ⟨ln, out.toList, m, vals_of_ints hi, hg⟩) (by rw [g]; exact I1.bare) fun _ z => (nomatch z)
      have es : s' = { s1 with heap := s'.heap, gens := s'.gens, drawn := s'.drawn, toks := s'.toks } := by
        cases s'; cases s1; cases o; rfl
      rw [es]
      exact ⟨.ref b, _, J, rfl, q1 b np⟩
    · obtain ⟨its, r, pl, hz⟩ := I1.tuple hq
      refine call_set_tupI ns (I1.ok.hd hc) (show s1.heap.IsTuple l its.toArray from pl) (by simpa using ints_vals r) (by unfold scanBound; omega) fun h' tk c hS _ hk => PyProof.Rows.args_nil ?_
      have ec := setR_size hS
      have np : H1 s1.heap.objs.size = none := I1.hok.fresh (Nat.le_refl _)
      have I2 : Inv X pins σ (upd H1 s1.heap.objs.size (SetO X.w s1.heap.objs.size (fun j => decide (j ∈ ns)) c)) { s1 with heap := h', toks := tk } :=
        I1.laid hk (Nat.le_refl _) (setO_new hS)
      refine sorted_setA (s := { s1 with heap := h', toks := tk }) hS (I1.ok.hd hc) fun s' b out m ms k g o hp hg hi asc mem len => ?_
      have le : s1.heap.objs.size ≤ b := Nat.le_trans (Nat.le_of_lt hS.lt) hp
      have np : H1 b = none := I1.hok.fresh le
      have keep : ∀ c o, s1.heap.get? c = some o → s'.heap.get? c = some o := fun c o e => k c o (hk c o e)
      have em : ms = setI ns := asc_eq asc setI_asc fun z => (mem z).trans (by simp [mem_setI])
      subst em
      have lt := setI_le (xs := ns)
      have ln : ((setI ns).map V.int).length ≤ sizeLine := by rw [List.length_map, sizeLine_eq]; omega
      have J : Inv X pins σ (upd H1 b (.lst ((setI ns).map V.int))) { s1 with heap := s'.heap, gens := s'.gens, drawn := s'.drawn, toks := s'.toks } :=
        I1.call (ch := []) (Un.laid keep le np) (I1.hok.laid keep le ⟨ln, out.toList, m, vals_of_ints hi, hg⟩) (by rw [g]; exact I1.bare) fun _ z => (nomatch z)
      have es : s' = { s1 with heap := s'.heap, gens := s'.gens, drawn := s'.drawn, toks := s'.toks } := by
        cases s'; cases s1; cases o; rfl
      rw [es]
      exact ⟨.ref b, _, J, rfl, q1 b np⟩
  · obtain ⟨l, ks, rfl, hq, hk, hf, hB, q1⟩ := q1
    cases r1
    obtain ⟨its, r, pl, hz⟩ := I1.list hq
    refine call_set_tups ks (I1.ok.hd hc) pl.isList (by simpa using refs_of_vals r) (fun p hp => I1.isT (hk p hp)) hf (by omega) fun h' tk L es ep t R g k => PyProof.Rows.args_nil ?_
    have sub : ∀ p ∈ L, p ∈ ks := fun p hp => List.mem_of_mem_take (g.sub p hp)
    have all : ∀ p ∈ ks, p.2 ∈ L.map (·.2) := fun p hp => g.all p (by rw [List.take_length]; exact hp)
    refine sorted_setD (s := { s1 with heap := h', toks := tk }) R (I1.ok.hd hc) (by omega) (fun p hp => hB p (sub p hp)) fun s' b out c L' k2 g2 o2 hp hg hout hs' pm pw => ?_
    have hfew : L'.length < 64 := by
      have := pm.length_eq
      rw [List.length_map, List.length_map] at this
      rw [this]; exact R.few
    obtain ⟨ob, hob, _⟩ := R.ob
    have le : s1.heap.objs.size ≤ b := Nat.le_trans (Nat.le_of_lt (Heap.lt_size hob)) hp
    have np : H1 b = none := I1.hok.fresh le
    have keep : ∀ c o, s1.heap.get? c = some o → s'.heap.get? c = some o := fun c o e => k2 c o (k c o e)
    have nd : (L'.map (·.2)).Nodup := pm.nodup_iff.mpr R.nd
    have sub' : ∀ p ∈ L', p ∈ ks := fun p hp => sub p (hs' p hp)
    have asc : (L'.map (·.2)).Pairwise (· < ·) := (pw.and nd).imp fun h => (List.le_iff_lt_or_eq.mp h.1).resolve_right h.2
    have em : L'.map (·.2) = setT (ks.map (·.2)) := ascT_eq asc setT_asc fun z => by
      rw [mem_setT, pm.mem_iff]
      constructor
      · intro hz
        obtain ⟨p, hp, rfl⟩ := List.mem_map.mp hz
        exact List.mem_map.mpr ⟨p, sub p hp, rfl⟩
      · intro hz
        obtain ⟨p, hp, rfl⟩ := List.mem_map.mp hz
        exact all p hp
    have ln : (L'.map fun q => V.ref q.1).length ≤ sizeLine := by rw [List.length_map, sizeLine_eq]; omega
    have hv : Vals (L'.map fun q => V.ref q.1) out.toList := by rw [hout]; exact vals_of_refs L'
    have J : Inv X pins σ (upd H1 b (.lst (L'.map fun q => V.ref q.1))) { s1 with heap := s'.heap, gens := s'.gens, drawn := s'.drawn, toks := s'.toks } :=
      I1.call (ch := []) (Un.laid keep le np) (I1.hok.laid keep le ⟨ln, out.toList, c, hv, hg⟩) (by rw [g2]; exact I1.bare) fun _ z => (nomatch z)
    have es : s' = { s1 with heap := s'.heap, gens := s'.gens, drawn := s'.drawn, toks := s'.toks } := by
      cases s'
      cases s1
      cases o2
      rfl
    rw [es]
    exact ⟨.ref b, _, J, rfl, q1 L' b em sub' np⟩
end
/-! xs[::-1] of lists and tuples -/
section
variable {prog : Program} {w : World} {A : Around} {E : Value → Shared → Prop} {s : Shared}
theorem sliceApplied_rev {sl : Addr} {vl vu vs : Value} {n : Nat} {Q : Int × Int × Nat → Shared → Prop} (hs : s.heap.IsSliceOf sl vl vu vs) (pl : IsPart vl none) (pu : IsPart vu none) (ps : IsPart vs (some (-1)))
    (h : Q ((n : Int) - 1, -1, n) s) : wpAny (model prog w) A (Builtin.Slice.sliceApplied (.ref sl) (pure (n : Int))) Q E s := by
  obtain ⟨os, hos, hcs, hds⟩ := id hs
  unfold Builtin.Slice.sliceApplied Builtin.Slice.sliceFields
  refine wpAny_bind (wpAny_bind (wpAny_field hos hds (x := vl) rfl (wpAny_bind (wpAny_field hos hds (x := vu) rfl (wpAny_bind (wpAny_field hos hds (x := vs) rfl (wpAny_pure ?_)))))))
  refine wpAny_bind (HT.slicePart_ ps ?_)
  show wpAny _ _ (if ((-1 : Int) == 0) = true then _ else _) _ _ s
  rw [if_neg (by decide)]
  refine wpAny_bind (HT.slicePart_ pl (wpAny_bind (HT.slicePart_ pu (wpAny_bind (wpAny_pure ?_)))))
  have e2 : Builtin.Slice.slicePlaces ((n : Int) - 1) (-1) (-1) = n := by
    unfold Builtin.Slice.slicePlaces
    rw [if_neg (by decide)]
    split
    · have : -(-1 : Int) = 1 := by decide
      rw [this, Int.ediv_one]; omega
    · omega
  show wpAny _ _ (pure ((n : Int) - 1, (-1 : Int), Builtin.Slice.slicePlaces ((n : Int) - 1) (-1) (-1))) _ _ s
  rw [e2]
  exact wpAny_pure h
theorem fm_congr {α β : Type} {f g : α → Option β} : ∀ {l : List α}, (∀ x ∈ l, f x = g x) → l.filterMap f = l.filterMap g
  | [], _ => rfl
  | a :: r, h => by rw [List.filterMap_cons, List.filterMap_cons, h a List.mem_cons_self, fm_congr fun x hx => h x (List.mem_cons_of_mem _ hx)]
theorem pick_rev (xs : Array Value) : ((List.range xs.size).filterMap fun (m : Nat) => xs[((xs.size : Int) - 1 + (m : Int) * (-1)).toNat]?).toArray = xs.toList.reverse.toArray := by
  have := HT.pick_gen xs.toList.reverse.toArray 0 xs.size
  rw [show ((xs.toList.reverse.toArray.toList.drop 0).take xs.size) = xs.toList.reverse by
    rw [List.drop_zero]; exact List.take_of_length_le (by simp)] at this
  rw [← this]
  congr 1
  refine fm_congr fun m hm => ?_
  have hm := List.mem_range.mp hm
  have e1 : ((xs.size : Int) - 1 + (m : Int) * (-1)).toNat = xs.size - 1 - m := by omega
  have e2 : (((0 : Nat) : Int) + (m : Int) * 1).toNat = m := by omega
  have e3 : xs.toList.reverse.toArray[m]? = xs.toList.reverse[m]? := by simp
  rw [e1, e2, e3, List.getElem?_reverse (by simpa using hm)]
  simp
theorem getItem_tuple_rev {t sl : Addr} {items : Array Value} {vl vu vs : Value} {Q : Value → Shared → Prop} (ht : IsTup s.heap t items) (hs : s.heap.IsSliceOf sl vl vu vs) (pl : IsPart vl none) (pu : IsPart vu none) (ps : IsPart vs (some (-1)))
    (h : Q (.ref s.heap.objs.size) { s with heap := s.heap.push { cls := .type "tuple", data := .seq items.toList.reverse.toArray } })
    (hsz : items.size ≤ sizeLine) : wpAny (model prog w) A (getItem (.ref t) (.ref sl)) Q E s := by
  have htake : sizeOk (.seq items.toList.reverse.toArray) := by
    show items.toList.reverse.toArray.size ≤ sizeLine
    rw [List.size_toArray, List.length_reverse, Array.length_toList]
    exact hsz
  obtain ⟨os, hos, hcs, hds⟩ := id hs
  have hTs : s.TypeIs (.ref sl) "slice" := ⟨os, hos, hcs⟩
  unfold getItem
  try with_reducible refine wpAny_holding ?_
  first | refine wpAny_bind (wpAny_pure ?_) | skip
  refine wpAny_bind (wpAny_sequenceKey ht.typeIs (by decide) ?_)
  refine wpAny_bind (wpAny_callSpecial?_slot (name := Str.ofString "__getitem__") ht.typeIs PyProof.Rows.slot_tuple_getitem
    (wpAny_call_entry PyProof.Rows.slot_tuple_getitem ht.typeIs PyProof.Rows.entry_tuple_getitem ?_ (PyProof.Rows.args_tuple_getitem _ _)))
  show wpAny _ _ (Builtin.Tuple.tupleItemsOf (.ref t) >>= _) _ _ s
  refine wpAny_bind (PyProof.Rows.tupleItemsOf_ ht ?_)
  refine wpAny_bind (wpAny_typeOf hTs ?_)
  rw [if_pos (by decide)]
  refine wpAny_bind (sliceApplied_rev hs pl pu ps ?_)
  have hno : ¬ ((((items.size : Int) - 1) == 0 && (-1 : Int) == 1 && items.size == items.size) = true) := by
    rw [show ((-1 : Int) == 1) = false from rfl, Bool.and_false, Bool.false_and]; exact Bool.false_ne_true
  show wpAny _ _ (if (((items.size : Int) - 1) == 0 && (-1 : Int) == 1 && items.size == items.size) = true then _ else _) _ _ s
  rw [if_neg hno, pick_rev]
  first
    | exact wpAny_bind (m := Builtin.Tuple.tupleExact _) (wpAny_newObj_type (wpAny_pure ⟨_, rfl, wpAny_pure h⟩) htake)
    | exact wpAny_bind (m := Builtin.Tuple.tupleExact _) (wpAny_newObj_type (wpAny_bind (wpAny_pure (wpAny_pure ⟨_, rfl, wpAny_pure h⟩))) htake)
    | exact wpAny_bind (wpAny_bind (m := Builtin.Tuple.tupleExact _) (wpAny_newObj_type (wpAny_pure (wpAny_pure ⟨_, rfl, wpAny_pure h⟩)) htake))
    | exact wpAny_bind (wpAny_bind (m := Builtin.Tuple.tupleExact _) (wpAny_newObj_type (wpAny_pure ⟨_, rfl, wpAny_pure h⟩) htake))
end
section
variable {X : Cx}
def rRevB (K : PySem.W.Frag) (x : V) (H1 : Hp) (Q : VK) : Prop := (∃ a xs, x = .ref a ∧ SqL K H1 a xs ∧ ∀ p, H1 p = none → Q (.ref p) (upd H1 p (.lst xs.reverse))) ∨ (∃ a xs, x = .ref a ∧ SqT K H1 a xs ∧ ∀ p, H1 p = none → Q (.ref p) (upd H1 p (.tup xs.reverse)))
def tRevB (K : PySem.W.Frag) (te : TE) : TE := fun σ H Q => te σ H fun x H1 => rRevB K x H1 Q
theorem pe_revB {e : Expr} {te : TE} {k : Nat} {p1 p2 p3 pos : Pos} (he : PE X e te) : PE X (.Subscript e (.Slice none none (some (.UnaryOp .USub (.Constant (.int 1) k p1) p2)) p3) pos) (tRevB X.K te) := by
  refine ⟨fun pins s σ H Q I h => ?_⟩
  refine Subscript_ (thn (he.run pins s σ H _ I h) fun v s1 ⟨x, H1, I1, r1, q1⟩ => ?_)
  have hst : PO X (some (.UnaryOp .USub (.Constant (.int 1) k p1) p2)) (tPart (tUn (rU fun i => .int (-i)) (tC (.int 1)))) := po_some (pe_un un_neg pe_int)
  refine wpAny_Slice (thn (po_none.run pins s1 σ H1 (fun o H2 => o = none ∧ H2 = H1) I1 ⟨rfl, rfl⟩) fun vl s2 ⟨l, H2, I2, pl, el, e2⟩ => ?_)
  subst el e2
  refine thn (po_none.run pins s2 σ H2 (fun o H3 => o = none ∧ H3 = H2) I2 ⟨rfl, rfl⟩) fun vu s3 ⟨u, H3, I3, pu, eu, e3⟩ => ?_
  subst eu e3
  refine thn (hst.run pins s3 σ H3 (fun o H4 => o = some (-1) ∧ H4 = H3) I3 ⟨1, rfl, -1, rfl, rfl, rfl⟩) fun vs s4 ⟨o, H4, I4, ps, eo, e4⟩ => ?_
  subst eo e4
  have I5 : Inv X pins σ H4 { s4 with heap := s4.heap.push { cls := .type "slice", data := .fields #[vl, vu, vs] } } := I4.kept (t' := s4.toks) fun b ob q => Heap.get?_push_of_some _ q
  rcases q1 with ⟨a, xs, ex, hx, q⟩ | ⟨a, xs, ex, hx, q⟩
  · subst ex
    cases r1
    obtain ⟨its, r, ht, hz⟩ := I5.list hx
    have hlen := r.length
    show wpAny (model X.prog X.w) X.A (subscriptTail e (.Slice none none (some (.UnaryOp .USub (.Constant (.int 1) k p1) p2)) p3) (.ref a) (.ref s4.heap.objs.size)) (EP X pins σ Q) X.xe { s4 with heap := s4.heap.push { cls := .type "slice", data := .fields #[vl, vu, vs] } }
    refine tail_any (ops := [.ref a, .ref s4.heap.objs.size]) ht.isList.typeIs (PySem.slot_list_getitem.lookup) ?_ (by with_unfolding_all rfl)
    refine wpAny_getItem_list_slice ht.isList (Heap.IsSliceOf.new _ vl vu vs) pl pu ps (by decide) ?_ (by rw [List.size_toArray]; omega)
    rw [PySem.W.krv_pick]
    refine ⟨.ref _, _, I5.laid (t' := s4.toks) (o := .lst xs.reverse) (fun b ob q => Heap.get?_push_of_some _ q) (Nat.le_refl _) ?_, rfl, q _ (I5.hok.fresh (Nat.le_refl _))⟩
    exact ⟨by rw [List.length_reverse]; exact hz, _, 0, r.reverse, Heap.get?_push_size _ rfl⟩
  · subst ex
    cases r1
    obtain ⟨its, r, ht, hz⟩ := I5.tuple hx
    have hlen := r.length
    show wpAny (model X.prog X.w) X.A (subscriptTail e (.Slice none none (some (.UnaryOp .USub (.Constant (.int 1) k p1) p2)) p3) (.ref a) (.ref s4.heap.objs.size)) (EP X pins σ Q) X.xe { s4 with heap := s4.heap.push { cls := .type "slice", data := .fields #[vl, vu, vs] } }
    refine tail_any (ops := [.ref a, .ref s4.heap.objs.size]) ht.typeIs (PyProof.Rows.slot_tuple_getitem.lookup) ?_ (by with_unfolding_all rfl)
    refine getItem_tuple_rev ht (Heap.IsSliceOf.new _ vl vu vs) pl pu ps ?_ (by rw [List.size_toArray]; omega)
    refine ⟨.ref _, _, I5.laid (t' := s4.toks) (o := .tup xs.reverse) (fun b ob q => Heap.get?_push_of_some _ q) (Nat.le_refl _) ?_, rfl, q _ (I5.hok.fresh (Nat.le_refl _))⟩
    exact ⟨by rw [List.length_reverse]; exact hz, _, r.reverse, IsTup.new _ _⟩
end
/-! sorted(t) of a tuple of ints -/
section
variable {prog : Program} {w : World} {A : Around} {E : Value → Shared → Prop} {s : Shared}
theorem collect_tup {l : Addr} {vs : List Value} {Q : List Value → Shared → Prop} (hl : IsTup s.heap l vs.toArray)
    (h : Q vs { s with heap := (s.heap.push (seqObj "list" #[] 0)).update s.heap.objs.size (Obj.mapSeq (· ++ vs.toArray)) }) (hsz : vs.length ≤ sizeLine) :
    wpAny (model prog w) A (collect (.ref l)) Q E s := by
  obtain ⟨o, ho, hc, n, hd⟩ := id hl
  unfold collect
  refine wpAny_bind (wpAny_runValue (codeAny_builtin entry_proto_collect' ?_))
  show wpAny _ _ (do again (.builtin "list.__iadd__" ⟨[← newList [], .ref l], []⟩)) _ _ s
  refine wpAny_bind (wpAny_newList (wpAny_pure ⟨Code.quiet_builtin _ (by decide +kernel), codeAny_builtin entry_list_iadd' ?_⟩))
  show wpAny _ _ (Builtin.List.listExtendWith (.ref s.heap.objs.size) (.ref l) (.ref s.heap.objs.size)) _ _ { s with heap := s.heap.push (seqObj "list" #[] 0) }
  unfold Builtin.List.listExtendWith
  have ho' : (s.heap.push (seqObj "list" #[] 0)).get? l = some o := Heap.get?_push_of_some _ ho
  refine wpAny_bind (wpAny_typeOf (T := "tuple") ⟨o, ho', hc⟩ ?_)
  have ht : (Value.type "tuple" == Value.type "tuple") = true := by rfl
  rw [if_pos (by rw [ht]; simp)]
  refine wpAny_bind (listItems_at ho' hd ?_)
  refine wpAny_bind (listItems_at (xs := #[]) (n := 0) (Heap.get?_push_size _ rfl) rfl ?_)
  rw [if_neg (by simp)]
  refine wpAny_bind (listUpdate_at (xs := #[]) (n := 0) (Heap.get?_push_size _ rfl) rfl ?_ (Nat.zero_le _) (by show (#[] ++ vs.toArray).size ≤ sizeLine + 1; simp only [Array.size_append, List.size_toArray, List.length_nil]; omega))
  refine wpAny_pure ?_
  show wpAny (model prog w) A (do
      let o ← load s.heap.objs.size
      match o.data with
      | .seq xs _ => pure xs.toList
      | _ => unsupported "internal:collect") Q E { s with heap := (s.heap.push (seqObj "list" #[] 0)).update s.heap.objs.size (Obj.mapSeq (· ++ vs.toArray)) }
  refine wpAny_bind (wpAny_load (get?_update_seq (Heap.get?_push_size _ rfl) _) ?_)
  show wpAny _ _ (pure ((#[] : Array Value) ++ vs.toArray).toList) Q E _
  rw [show ((#[] : Array Value) ++ vs.toArray).toList = vs by simp]
  exact wpAny_pure h
theorem sorted_tup {l : Addr} {vs : List Value} {ltv : Value → Value → Bool} {Q : Value → Shared → Prop} (O : SrtO.Swo ltv) (hl : IsTup s.heap l vs.toArray) (hz : vs.length ≤ sizeLine)
    (hS : 2 ≤ vs.length → ∀ (h₁ : Heap) (a : Addr), h₁.get? a = some (seqObj "list" vs.toArray 0) → (∀ b o, s.heap.get? b = some o → b ≠ a ∧ h₁.get? b = some o) → SrtO.SortableO prog w A.in1.in1 { s with heap := h₁ } a vs ltv)
    (h : ∀ out : List Value, SrtO.Srtd ltv out → SrtO.Stb ltv out vs → Q (.ref (s.heap.objs.size + 1)) { s with heap := sortedAll s.heap vs out.toArray }) :
    wpAny (model prog w) A (call (.builtin "sorted") [.ref l]) Q E s := by
  refine Calls.call_function_entry kind_sorted plain_sorted entry_sorted (args_sorted1 _) ?_
  unfold Builtin.«sorted»
  refine wpAny_bind (m := checkCount "sorted" 1 1 _) (wpAny_pure ?_)
  refine wpAny_bind (collect_tup hl ?_ hz)
  refine wpAny_bind (wpAny_newList ?_ hz)
  have hsz : ((s.heap.push (seqObj "list" #[] 0)).update s.heap.objs.size (Obj.mapSeq (· ++ vs.toArray))).objs.size = s.heap.objs.size + 1 := by
    rw [Heap.size_update]; simp [Heap.push]
  have hoL : (((s.heap.push (seqObj "list" #[] 0)).update s.heap.objs.size (Obj.mapSeq (· ++ vs.toArray))).push (seqObj "list" vs.toArray 0)).get? (s.heap.objs.size + 1) = some (seqObj "list" vs.toArray 0) := by
    rw [← hsz]; exact Heap.get?_push_size _ rfl
  have keep : ∀ b o, s.heap.get? b = some o → b ≠ s.heap.objs.size + 1 ∧ (((s.heap.push (seqObj "list" #[] 0)).update s.heap.objs.size (Obj.mapSeq (· ++ vs.toArray))).push (seqObj "list" vs.toArray 0)).get? b = some o := fun b o q => by
    have hlt : b < s.heap.objs.size := Heap.lt_size q
    refine ⟨Nat.ne_of_lt (Nat.lt_succ_of_lt hlt), Heap.get?_push_of_some _ ?_⟩
    rw [Heap.get?_update_ne _ _ _ _ (Nat.ne_of_lt hlt)]
    exact Heap.get?_push_of_some _ q
  show wpAny _ _ _ _ _ { s with heap := ((s.heap.push (seqObj "list" #[] 0)).update s.heap.objs.size (Obj.mapSeq (· ++ vs.toArray))).push (seqObj "list" vs.toArray 0) }
  rw [hsz]
  refine wpAny_bind (wpAny_holding (wpAny_call_entry slot_list_sort ⟨_, hoL, rfl⟩ entry_list_sort (SrtO.list_sort_ord O hoL hz (fun h2 => hS h2 _ _ hoL keep) fun out hs hb => ⟨_, rfl, ?_⟩) (args_list_sort _)))
  exact wpAny_pure ⟨_, rfl, h out hs hb⟩
end
def rSortedTI (K : PySem.W.Frag) : List V → Hp → VK → Prop := fun vs H Q => ∃ (a : Addr) (ns : List Int), vs = [V.ref a] ∧ SqT K H a (ns.map V.int) ∧ ∀ (ns' : List Int) (p : Addr), ns'.Perm ns → ns'.Pairwise (· ≤ ·) → H p = none → Q (.ref p) (upd H p (.lst (ns'.map V.int)))
theorem cr_sortedTI {X : Cx} : CallR X (.builtin "sorted") (rSortedTI X.K) := by
  intro pins s σ H vs us Q I r h
  obtain ⟨a, ns, rfl, hs, q⟩ := h
  obtain ⟨its, rv, hl, hz⟩ := I.tuple hs
  rw [Vals.ref1 r]
  have hi := rv.ints
  refine sorted_tup SrtO.swo_int hl (by rw [← rv.length]; exact hz) (fun h2 h₁ a' _ _ => SrtO.ints_sortable hi h2) fun out h1 h2 => ?_
  obtain ⟨k1, k2, k3⟩ := SrtO.ints_out hi h1 h2
  obtain ⟨ep, he'⟩ := PyProof.Rows.sortedAll_at s.heap its out.toArray
  have hlen : ((out.map SrtO.iv).map V.int).length ≤ sizeLine := by
    rw [List.length_map, k2.length_eq]
    rw [List.length_map] at hz
    exact hz
  exact ⟨.ref _, upd H (s.heap.objs.size + 1) (.lst ((out.map SrtO.iv).map V.int)), I.laid (t' := s.toks) (fun _ _ => PyProof.Rows.sortedAll_old) (Nat.le_succ _) ⟨hlen, out, ep, vals_of_ints k1, he'⟩, rfl, q _ _ k2 k3 (I.hok.fresh (Nat.le_succ _))⟩
/-! sum(t) of a tuple of ints -/
section
variable {prog : Program} {w : World} {A : Around} {E : Value → Shared → Prop} {s : Shared}
theorem sum_tup_raw {l : Addr} {its : List Value} {ns : List Int} {Q : Value → Shared → Prop} (hh : A.handled = none) (hl : IsTup s.heap l its.toArray) (hi : IntsAre its ns)
    (h : ∀ h' tk t', (∀ b o, s.heap.get? b = some o → h'.get? b = some o) → Q (.int ns.sum t') { s with heap := h', toks := tk }) : wpAny (model prog w) A (call (.builtin "sum") [.ref l]) Q E s := by
  obtain ⟨xs, e⟩ := hi.allInts.items
  have hn : numsOf (intItems xs).toList = ns := by rw [← e]; exact hi.numsOf
  rw [nums_intItems] at hn
  have hl : s.heap.IsTuple l (intItems xs) := by rw [← e]; exact hl
  have hlt : l < s.heap.objs.size := by obtain ⟨_, e, _⟩ := hl; exact Heap.lt_size e
  refine PySem.call_sum_walkG (PySem.wpAny_pyIter_tuple hl ?_)
  refine ⟨_, _, _, _, _, _, numAt xs, rfl, PySem.Walks.tuple (A := A.in1) hh _ l (Nat.ne_of_lt hlt) (intItems xs), ⟨⟨_, Heap.get?_push_size _ rfl, rfl, rfl⟩, hl.push _⟩, fun b hb => ?_, (fun _ _ => intItems_at), fun h' tk t' hk => ?_⟩
  · show b < (s.heap.push _).objs.size
    rw [Heap.size_push]
    rcases List.mem_cons.mp hb with rfl | hb
    · exact Nat.lt_succ_self _
    · rw [List.mem_singleton.mp hb]; exact Nat.lt_succ_of_lt hlt
  · have := h h' tk t' fun b o q => hk b o (fun z => by rw [List.mem_singleton.mp z] at q; exact Nat.lt_irrefl _ (Heap.lt_size q)) (Heap.get?_push_of_some _ q)
    rw [preSum_eq, List.take_of_length_le (by simp [intItems]), hn]
    exact this
end
def rSumT (K : PySem.W.Frag) : List V → Hp → VK → Prop := fun vs H Q => ∃ (a : Addr) (ns : List Int), vs = [V.ref a] ∧ SqT K H a (ns.map V.int) ∧ Q (.int ns.sum) H
theorem cr_sumT {X : Cx} (hc : X.calm = true) : CallR X (.builtin "sum") (rSumT X.K) := by
  intro pins s σ H vs us Q I r h
  obtain ⟨a, ns, rfl, hs, q⟩ := h
  obtain ⟨its, rv, hl, _⟩ := I.tuple hs
  rw [Vals.ref1 r]
  exact sum_tup_raw (I.ok.hd hc) hl rv.ints fun h' tk t' hk => ⟨.int _, H, I.kept hk, ⟨_, rfl⟩, q⟩
end Pv

set_option maxHeartbeats 4000000
namespace Pv
open PySem PySem.Spec PyProof.Rows L2
/-! t * n for n up to one, and of an empty tuple -/
theorem tuple_mul1 (l : Addr) (items : Array Value) (n : Nat) (dd : Option Addr) (sl : Array (Option Value)) (x : Int) (u : Tok) (c0 : (decide (x < -(2 ^ 63)) || decide (x ≥ 2 ^ 63)) = false) (c1 : (items.isEmpty || x == 1) = true) :
    Meets (Builtin.«tuple.__mul__» ⟨[.ref l, .int x u], []⟩) (fun _ R s => s.heap.get? l = some { cls := .type "tuple", dict := dd, data := .seq items n, slots := sl } ∧ R (.ok (.ret (Value.ref l))) s) :=
  .of_wp fun prog w A R s h => by
    obtain ⟨hp, g, d, tk, os⟩ := s
    obtain ⟨hl, h⟩ := h
    have f1 := AutoSeq1.idx_int
    wp_walk using wpAny_loadPart' hl
    repeat (first
      | (refine wpAny_ite_false (decide_eq_false (by rw [c0]; exact Bool.false_ne_true)) ?_; wp_walk using wpAny_loadPart' hl)
      | (refine wpAny_ite_true (decide_eq_true c1) ?_; wp_walk using wpAny_loadPart' hl))
    exact ⟨_, rfl, h⟩
theorem tuple_mul0 (l : Addr) (items : Array Value) (n : Nat) (dd : Option Addr) (sl : Array (Option Value)) (x : Int) (u : Tok) (c0 : (decide (x < -(2 ^ 63)) || decide (x ≥ 2 ^ 63)) = false) (c1 : (items.isEmpty || x == 1) = false) (c2 : (decide (x ≤ 0) || items.isEmpty) = true) :
    Meets (Builtin.«tuple.__mul__» ⟨[.ref l, .int x u], []⟩) (fun _ R s => s.heap.get? l = some { cls := .type "tuple", dict := dd, data := .seq items n, slots := sl } ∧
      R (.ok (.ret (Value.ref s.heap.objs.size))) { s with heap := s.heap.push { cls := Value.type "tuple", data := Data.seq #[] }, toks := s.toks }) :=
  .of_wp fun prog w A R s h => by
    obtain ⟨hp, g, d, tk, os⟩ := s
    obtain ⟨hl, h⟩ := h
    have f1 := AutoSeq1.idx_int
    wp_walk using wpAny_loadPart' hl
    repeat (first
      | (refine wpAny_ite_false (decide_eq_false (by rw [c0]; exact Bool.false_ne_true)) ?_; wp_walk using wpAny_loadPart' hl)
      | (refine wpAny_ite_false (decide_eq_false (by rw [c1]; exact Bool.false_ne_true)) ?_; wp_walk using wpAny_loadPart' hl)
      | (refine wpAny_ite_true (decide_eq_true c2) ?_; wp_walk using wpAny_loadPart' hl)
      | (refine wpAny_ite_false (decide_eq_false (by decide)) ?_; wp_walk using wpAny_loadPart' hl))
    exact ⟨_, rfl, h⟩
def rRepT1 (K : PySem.W.Frag) : R2 := fun x y H Q => ∃ l k xs, x = .ref l ∧ y = .int k ∧ SqT K H l xs ∧ (xs = [] ∨ k = 1) ∧ -(2 ^ 62) < k ∧ k < 2 ^ 62 ∧ Q (.ref l) H
def rRepT0 (K : PySem.W.Frag) : R2 := fun x y H Q => ∃ l k xs, x = .ref l ∧ y = .int k ∧ SqT K H l xs ∧ xs ≠ [] ∧ k ≤ 0 ∧ -(2 ^ 62) < k ∧ ∀ p, H p = none → Q (.ref p) (upd H p (.tup []))
section
variable {X : Cx}
theorem op_repT1 : OpR X (binaryOp .Mult) (rRepT1 X.K) := by
  intro pins s σ H x y v u Q I rx ry h
  obtain ⟨l, k, xs, rfl, rfl, hT, hk, h1, h2, q⟩ := h
  cases rx
  obtain ⟨t, rfl⟩ := ry
  obtain ⟨its, r, ⟨⟨cls, dd, data, sl⟩, ho, hc, n, hd⟩, hs⟩ := I.tuple hT
  simp only at hc hd
  subst hc hd
  have hle : its.length = xs.length := r.length.symm
  have c0 : (decide (k < -(2 ^ 63)) || decide (k ≥ 2 ^ 63)) = false := by
    rw [decide_eq_false (by omega), decide_eq_false (by omega)] <;> rfl
  have c1 : (its.toArray.isEmpty || k == 1) = true := by
    rcases hk with e | e
    · rw [e] at hle
      rw [List.eq_nil_of_length_eq_zero hle]; rfl
    · rw [e]; simp
  refine wpAny_binaryOp_repeat_ref (T := "tuple") (U := "int") (by decide) ⟨_, ho, rfl⟩ (fun s' => typeIs_int s' k t) noFill_tuple_mul F.fills_int_mul F.slot_int_rmul repeat_tuple F.slot_int_index.lookup
    (call_meets F.slot_int_rmul (typeIs_int s k t) F.entry_int_rmul (F.args_int_rmul_2 _ _) (int_rmul_tuple k t l its.toArray n dd sl)
      ⟨ho, rfl, ⟨_, ho, rfl⟩, call_meets F.slot_tuple_mul ⟨_, ho, rfl⟩ F.entry_tuple_mul (F.args_tuple_mul_2 _ _) (tuple_mul1 l its.toArray n dd sl k t c0 c1) ⟨ho, ?_⟩⟩)
  exact ⟨.ref l, H, I, rfl, q⟩
theorem op_repT0 : OpR X (binaryOp .Mult) (rRepT0 X.K) := by
  intro pins s σ H x y v u Q I rx ry h
  obtain ⟨l, k, xs, rfl, rfl, hT, hne, h1, h2, q⟩ := h
  cases rx
  obtain ⟨t, rfl⟩ := ry
  obtain ⟨its, r, ⟨⟨cls, dd, data, sl⟩, ho, hc, n, hd⟩, hs⟩ := I.tuple hT
  simp only at hc hd
  subst hc hd
  have hle : its.length = xs.length := r.length.symm
  have hn : its ≠ [] := fun e => hne (by
    rw [e] at hle
    exact List.eq_nil_of_length_eq_zero hle.symm)
  have hi : its.toArray.isEmpty = false := by
    cases its with
    | nil => exact absurd rfl hn
    | cons a b => rfl
  have c0 : (decide (k < -(2 ^ 63)) || decide (k ≥ 2 ^ 63)) = false := by
    rw [decide_eq_false (by omega), decide_eq_false (by omega)] <;> rfl
  have c1 : (its.toArray.isEmpty || k == 1) = false := by
    rw [hi, Bool.false_or]
    exact beq_eq_false_iff_ne.mpr (by omega)
  have c2 : (decide (k ≤ 0) || its.toArray.isEmpty) = true := by rw [decide_eq_true h1, Bool.true_or]
  refine wpAny_binaryOp_repeat_ref (T := "tuple") (U := "int") (by decide) ⟨_, ho, rfl⟩ (fun s' => typeIs_int s' k t) noFill_tuple_mul F.fills_int_mul F.slot_int_rmul repeat_tuple F.slot_int_index.lookup
    (call_meets F.slot_int_rmul (typeIs_int s k t) F.entry_int_rmul (F.args_int_rmul_2 _ _) (int_rmul_tuple k t l its.toArray n dd sl)
      ⟨ho, rfl, ⟨_, ho, rfl⟩, call_meets F.slot_tuple_mul ⟨_, ho, rfl⟩ F.entry_tuple_mul (F.args_tuple_mul_2 _ _) (tuple_mul0 l its.toArray n dd sl k t c0 c1 c2) ⟨ho, ?_⟩⟩)
  refine ⟨.ref s.heap.objs.size, _, I.laid (t' := s.toks) (o := .tup []) (fun b ob q => Heap.get?_push_of_some _ q) (Nat.le_refl _) ?_, rfl, q _ (I.hok.fresh (Nat.le_refl _))⟩
  exact ⟨Nat.zero_le _, [], .nil, IsTup.new _ _⟩
end
end Pv
namespace Pv
open PySem PySem.Spec PyProof.Rows L2
/-! min(a, b), max(a, b) of data alike -/
section
variable {prog : Program} {w : World} {A : Around} {E : Value → Shared → Prop} {s : Shared}
theorem min_two_data {a b : Value} {x y : PyData} {as bs : List Addr} {Q : Value → Shared → Prop} (hh : A.handled = none) (ra : Reads s.heap a x as) (rb : Reads s.heap b y bs) (ha : PySem.W.AlikeAll [x, y]) (hu : A.units + 1 + PyData.depthAll [x, y] < cLine)
    (h : ∀ h' tk, (∀ c o, s.heap.get? c = some o → h'.get? c = some o) → Q (if PySem.W.dataLt y x then b else a) { s with heap := h', toks := tk }) :
    wpAny (model prog w) A (call (.builtin "min") [a, b]) Q E s := by
  have hname : (toString "min" ++ toString ".loop" : String) = "min.loop" := by decide
  refine PySem.call_function_tree F.kind_min F.plain_min F.entry_min (F.args_min2 _ _) ?_
  show wpAny _ A.in1 (Builtin.Builtins.bindParams "min" ["key", "default"] 0 ⟨[], []⟩ >>= _) _ _ s
  refine wpAny_bind (wpAny_of_eq (show Builtin.Builtins.bindParams "min" ["key", "default"] 0 ⟨[], []⟩ = pure [none, none] from rfl) ?_)
  show wpAny _ A.in1 (newTuple [a, b] >>= _) _ _ s
  refine wpAny_bind (wpAny_newObj_type ?_)
  have hT : (s.heap.push { cls := .type "tuple", data := .seq #[a, b] }).IsTuple s.heap.objs.size #[a, b] := ⟨_, Heap.get?_push_size _ rfl, rfl, 0, rfl⟩
  have kp : ∀ c o, s.heap.get? c = some o → (s.heap.push { cls := .type "tuple", data := .seq #[a, b] }).get? c = some o := fun c o e => Heap.get?_push_of_some _ e
  have hr : ReadsAll (s.heap.push { cls := .type "tuple", data := .seq #[a, b] }) (#[a, b] : Array Value).toList [x, y] (as ++ (bs ++ [])) := .cons (PyProof.Rows.Reads.keeps kp ra) (.cons (PyProof.Rows.Reads.keeps kp rb) .nil)
  refine wpAny_bind (PySem.W.iter_tupleW (A := A.in1) (s := { s with heap := s.heap.push { cls := .type "tuple", data := .seq #[a, b] } }) hh hT fun s₂ e W st hfp hw hk => ?_)
  refine wpAny_bind (wpAny_newObj_type ?_)
  have hSf : s₂.heap.objs.size ∉ [(s.heap.push { cls := .type "tuple", data := .seq #[a, b] }).objs.size, s.heap.objs.size] := fun hm => Nat.lt_irrefl _ (hfp _ hm)
  rw [hname]
  have hcmp := PySem.W.cmpIn_lt (prog := prog) (w := w) (A := A.in1) (s := { s with heap := s.heap.push { cls := .type "tuple", data := .seq #[a, b] } }) hr ha (by show A.units + 1 + _ < _; exact hu)
  refine wpAny_pure ⟨plainId_quiet F.plain_min_loop _, PySem.codeAny_min_loop_firstH W _ hw _ hcmp s₂.heap.objs.size hSf (PySem.fresh_in hk) _ (show 0 < 2 by decide) (fun b o e => Heap.get?_push_of_some _ (hk b o e)) (W.frame 0 s₂ _ s₂.toks st (Nat.le_refl _) fun b _ o e => Heap.get?_push_of_some _ e) (Heap.get?_push_size _ rfl) fun v s' hP hm => ?_⟩
  obtain ⟨h', tk, rfl, hk'⟩ := PySem.W.moved_old e rfl (PySem.Moved.drop_new (tk := s₂.toks) hm (Nat.le_refl _))
  have hv : v = if PySem.W.dataLt y x then b else a := by
    by_cases c : PySem.W.dataLt y x = true
    · rw [if_pos c]
      have e2 : PySem.argBest (fun i j => PySem.W.dataLt ([x, y].getD i .none) ([x, y].getD j .none)) ((#[a, b] : Array Value).size - 1) = 1 := by simp [PySem.argBest, c]
      rw [e2] at hP
      simpa using hP.symm
    · rw [if_neg c]
      have e2 : PySem.argBest (fun i j => PySem.W.dataLt ([x, y].getD i .none) ([x, y].getD j .none)) ((#[a, b] : Array Value).size - 1) = 0 := by simp [PySem.argBest, c]
      rw [e2] at hP
      simpa using hP.symm
  rw [hv]
  exact h h' tk fun c o q => hk' c o (kp c o q)
theorem max_two_data {a b : Value} {x y : PyData} {as bs : List Addr} {Q : Value → Shared → Prop} (hh : A.handled = none) (ra : Reads s.heap a x as) (rb : Reads s.heap b y bs) (ha : PySem.W.AlikeAll [x, y]) (hu : A.units + 1 + PyData.depthAll [x, y] < cLine)
    (h : ∀ h' tk, (∀ c o, s.heap.get? c = some o → h'.get? c = some o) → Q (if PySem.W.dataLt x y then b else a) { s with heap := h', toks := tk }) :
    wpAny (model prog w) A (call (.builtin "max") [a, b]) Q E s := by
  have hname : (toString "max" ++ toString ".loop" : String) = "max.loop" := by decide
  refine PySem.call_function_tree F.kind_max F.plain_max F.entry_max (F.args_max2 _ _) ?_
  show wpAny _ A.in1 (Builtin.Builtins.bindParams "max" ["key", "default"] 0 ⟨[], []⟩ >>= _) _ _ s
  refine wpAny_bind (wpAny_of_eq (show Builtin.Builtins.bindParams "max" ["key", "default"] 0 ⟨[], []⟩ = pure [none, none] from rfl) ?_)
  show wpAny _ A.in1 (newTuple [a, b] >>= _) _ _ s
  refine wpAny_bind (wpAny_newObj_type ?_)
  have hT : (s.heap.push { cls := .type "tuple", data := .seq #[a, b] }).IsTuple s.heap.objs.size #[a, b] := ⟨_, Heap.get?_push_size _ rfl, rfl, 0, rfl⟩
  have kp : ∀ c o, s.heap.get? c = some o → (s.heap.push { cls := .type "tuple", data := .seq #[a, b] }).get? c = some o := fun c o e => Heap.get?_push_of_some _ e
  have hr : ReadsAll (s.heap.push { cls := .type "tuple", data := .seq #[a, b] }) (#[a, b] : Array Value).toList [x, y] (as ++ (bs ++ [])) := .cons (PyProof.Rows.Reads.keeps kp ra) (.cons (PyProof.Rows.Reads.keeps kp rb) .nil)
  refine wpAny_bind (PySem.W.iter_tupleW (A := A.in1) (s := { s with heap := s.heap.push { cls := .type "tuple", data := .seq #[a, b] } }) hh hT fun s₂ e W st hfp hw hk => ?_)
  refine wpAny_bind (wpAny_newObj_type ?_)
  have hSf : s₂.heap.objs.size ∉ [(s.heap.push { cls := .type "tuple", data := .seq #[a, b] }).objs.size, s.heap.objs.size] := fun hm => Nat.lt_irrefl _ (hfp _ hm)
  rw [hname]
  have hcmp := PySem.W.cmpIn_gt (prog := prog) (w := w) (A := A.in1) (s := { s with heap := s.heap.push { cls := .type "tuple", data := .seq #[a, b] } }) hr ha (by show A.units + 1 + _ < _; exact hu)
  refine wpAny_pure ⟨plainId_quiet F.plain_max_loop _, PySem.codeAny_max_loop_firstH W _ hw _ hcmp s₂.heap.objs.size hSf (PySem.fresh_in hk) _ (show 0 < 2 by decide) (fun b o e => Heap.get?_push_of_some _ (hk b o e)) (W.frame 0 s₂ _ s₂.toks st (Nat.le_refl _) fun b _ o e => Heap.get?_push_of_some _ e) (Heap.get?_push_size _ rfl) fun v s' hP hm => ?_⟩
  obtain ⟨h', tk, rfl, hk'⟩ := PySem.W.moved_old e rfl (PySem.Moved.drop_new (tk := s₂.toks) hm (Nat.le_refl _))
  have hv : v = if PySem.W.dataLt x y then b else a := by
    by_cases c : PySem.W.dataLt x y = true
    · rw [if_pos c]
      have e2 : PySem.argBest (fun i j => PySem.W.dataLt ([x, y].getD j .none) ([x, y].getD i .none)) ((#[a, b] : Array Value).size - 1) = 1 := by simp [PySem.argBest, c]
      rw [e2] at hP
      simpa using hP.symm
    · rw [if_neg c]
      have e2 : PySem.argBest (fun i j => PySem.W.dataLt ([x, y].getD j .none) ([x, y].getD i .none)) ((#[a, b] : Array Value).size - 1) = 0 := by simp [PySem.argBest, c]
      rw [e2] at hP
      simpa using hP.symm
  rw [hv]
  exact h h' tk fun c o q => hk' c o (kp c o q)
end
/-- min(x, y), max(x, y) -/
def rMin2D (K : PySem.W.Frag) (mx : Bool) : List V → Hp → VK → Prop := fun vs H Q => ∃ (x y : V) (d e : PyData), vs = [x, y] ∧ Dp K H x d ∧ Dp K H y e ∧ PySem.W.AlikeAll [d, e] ∧ PyData.depthAll [d, e] ≤ 50 ∧ Q (if PySem.W.dataLt (if mx then d else e) (if mx then e else d) then y else x) H
theorem cr_min2D {X : Cx} (hc : X.calm = true) (hu : X.A.units + 65 < cLine) : CallR X (.builtin "min") (rMin2D X.K false) := by
  intro pins s σ H vs us Q I r h
  obtain ⟨x, y, d, e, rfl, hd, he, hal, hdep, q⟩ := h
  obtain ⟨u, v, rfl, r1, r2⟩ := vals2 r
  obtain ⟨as, ra⟩ := Dp.readsAll I [d] [x] [u] (.cons hd .nil) (.cons r1 .nil)
  obtain ⟨bs, rb⟩ := Dp.readsAll I [e] [y] [v] (.cons he .nil) (.cons r2 .nil)
  cases ra with
  | cons ra _ =>
    cases rb with
    | cons rb _ =>
      refine min_two_data (I.ok.hd hc) ra rb hal (by omega) fun h' tk k => ⟨_, H, I.kept k, ?_, q⟩
      show RelV (if PySem.W.dataLt e d = true then y else x) (if PySem.W.dataLt e d = true then v else u)
      split
      · exact r2
      · exact r1
theorem cr_max2D {X : Cx} (hc : X.calm = true) (hu : X.A.units + 65 < cLine) : CallR X (.builtin "max") (rMin2D X.K true) := by
  intro pins s σ H vs us Q I r h
  obtain ⟨x, y, d, e, rfl, hd, he, hal, hdep, q⟩ := h
  obtain ⟨u, v, rfl, r1, r2⟩ := vals2 r
  obtain ⟨as, ra⟩ := Dp.readsAll I [d] [x] [u] (.cons hd .nil) (.cons r1 .nil)
  obtain ⟨bs, rb⟩ := Dp.readsAll I [e] [y] [v] (.cons he .nil) (.cons r2 .nil)
  cases ra with
  | cons ra _ =>
    cases rb with
    | cons rb _ =>
      refine max_two_data (I.ok.hd hc) ra rb hal (by omega) fun h' tk k => ⟨_, H, I.kept k, ?_, q⟩
      show RelV (if PySem.W.dataLt d e = true then y else x) (if PySem.W.dataLt d e = true then v else u)
      split
      · exact r2
      · exact r1
/-- two data alike, compared -/
def rCmpD (K : PySem.W.Frag) (r : PyData → PyData → Bool) : R2 := fun x y H Q => ∃ (d e : PyData), Dp K H x d ∧ Dp K H y e ∧ PySem.W.AlikeAll [d, e] ∧ PyData.depthAll [d, e] ≤ 50 ∧ Q (.bl (r d e)) H
theorem op_ltD {X : Cx} (hu : X.A.units + 65 < cLine) : OpR X (compareOp .Lt) (rCmpD X.K fun d e => PySem.W.dataLt d e) := by
  intro pins s σ H x y v u Q I rx ry h
  obtain ⟨d, e, hd, he, hal, hdep, q⟩ := h
  obtain ⟨as, r1⟩ := Dp.reads I d x v hd rx
  obtain ⟨bs, r2⟩ := Dp.reads I e y u he ry
  have hm : min d.depth e.depth ≤ 50 := by
    simp only [PyData.depthAll] at hdep
    omega
  exact PySem.W.lt_data r1 r2 (hal.1 d (by simp) e (by simp)) (hal.2 d (by simp)) (by omega) ⟨.bl _, H, I, rfl, q⟩
theorem op_leD {X : Cx} (hu : X.A.units + 65 < cLine) : OpR X (compareOp .LtE) (rCmpD X.K fun d e => !PySem.W.dataLt e d) := by
  intro pins s σ H x y v u Q I rx ry h
  obtain ⟨d, e, hd, he, hal, hdep, q⟩ := h
  obtain ⟨as, r1⟩ := Dp.reads I d x v hd rx
  obtain ⟨bs, r2⟩ := Dp.reads I e y u he ry
  have hm : min d.depth e.depth ≤ 50 := by
    simp only [PyData.depthAll] at hdep
    omega
  exact PySem.W.le_data r1 r2 (hal.1 d (by simp) e (by simp)) (hal.2 d (by simp)) (by omega) ⟨.bl _, H, I, rfl, q⟩
theorem op_gtD {X : Cx} (hu : X.A.units + 65 < cLine) : OpR X (compareOp .Gt) (rCmpD X.K fun d e => PySem.W.dataLt e d) := by
  intro pins s σ H x y v u Q I rx ry h
  obtain ⟨d, e, hd, he, hal, hdep, q⟩ := h
  obtain ⟨as, r1⟩ := Dp.reads I d x v hd rx
  obtain ⟨bs, r2⟩ := Dp.reads I e y u he ry
  have hm : min d.depth e.depth ≤ 50 := by
    simp only [PyData.depthAll] at hdep
    omega
  exact PySem.W.gt_data r1 r2 (hal.1 d (by simp) e (by simp)) (hal.2 d (by simp)) (by omega) ⟨.bl _, H, I, rfl, q⟩
theorem op_geD {X : Cx} (hu : X.A.units + 65 < cLine) : OpR X (compareOp .GtE) (rCmpD X.K fun d e => !PySem.W.dataLt d e) := by
  intro pins s σ H x y v u Q I rx ry h
  obtain ⟨d, e, hd, he, hal, hdep, q⟩ := h
  obtain ⟨as, r1⟩ := Dp.reads I d x v hd rx
  obtain ⟨bs, r2⟩ := Dp.reads I e y u he ry
  have hm : min d.depth e.depth ≤ 50 := by
    simp only [PyData.depthAll] at hdep
    omega
  exact PySem.W.ge_data r1 r2 (hal.1 d (by simp) e (by simp)) (hal.2 d (by simp)) (by omega) ⟨.bl _, H, I, rfl, q⟩
end Pv

/-! Ev, part 1: the data, the small language, its evaluator. -/
namespace Pv
open PySem PySem.Spec PyProof.Rows L2

abbrev D := PyData
/-- the law's script, a list that is only read -/
def scrD (ds : List D) : D := .dict [(.none, .list ds)]
/-- what stands in an object that may change -/
inductive Mo where
  | lst (ds : List D)
  | dk (kvs : List (Key × D))
def kD : Key → D
  | .inl i => .int i
  | .inr x => .str x
def Mo.d : Mo → D
  | .lst ds => .list ds
  | .dk kvs => .dict (kvs.map fun p => (kD p.1, p.2))
def Mo.isL : Mo → Bool
  | .lst _ => true
  | _ => false
/-- a slot: nothing, a value that never changes, an own list (dict), one lent by the caller, one that is only looked at -/
inductive Sl where
  | no
  | val (d : D)
  | loc (m : Mo)
  | io (m : Mo)
  | brw (m : Mo)
def Sl.own : Sl → Option Mo
  | .loc m => some m
  | .io m => some m
  | _ => none
/-- may be overwritten -/
def Sl.free : Sl → Bool
  | .io _ => false
  | .brw _ => false
  | _ => true
/-- the same kind of owner, another content -/
def Sl.put (s : Sl) (m : Mo) : Sl := match s with
  | .loc _ => .loc m
  | .io _ => .io m
  | _ => .no
abbrev Env' := List Sl
/-- a result: a value, a new object -/
inductive Rv where
  | val (d : D)
  | new (m : Mo)

inductive Op where
  | add | sub | mul | fdiv | mod | pow | neg | xor
  | eq | ne | lt | le | gt | ge | isN | notN | inn | notin
  | idx | slc (lo hi : Bool) | rev
  | len | abs | int | max2 | min2 | max | min | sum | any | all | sorted | tuple | list | gcd
  | isI | isB | isS | isT
  | tupR | lstR | bits
  | count | index | join | split | find
  | lenset | sortset
/-- methods that change their list -/
inductive Mm where
  | append | pop | popAt | reverse | insert
inductive Tg where
  | nm (i : Nat)
  | tp (is : List Nat)

mutual
inductive E where
  | cst (d : D)
  | var (i : Nat)
  | brw (i : Nat)
  | mov (i : Nat)
  | glb (g : Nat)
  | op (o : Op) (es : Es)
  | tup (es : Es)
  | lst (es : Es)
  | and (a b : E)
  | or (a b : E)
  | not (a : E)
  | ife (c a b : E)
  | chn (o1 o2 : Op) (a b c : E)
  | call (f : Nat) (es : Es)
  | mth (m : Mm) (i : Nat) (es : Es)
  | comp (own : List Nat) (tg : Tg) (it : It) (cs : Es) (elt : E)
  | fz (e : E)
  | dct
inductive Es where
  | nil
  | cons (e : E) (es : Es)
inductive It where
  | of (e : E)
  | rng (es : Es)
end
inductive S where
  | pass
  | seq (a b : S)
  | set (i : Nat) (e : E)
  | unp (is : List Nat) (e : E)
  | par (i j : Nat) (a b : E)
  | st (i : Nat) (ix e : E)
  | ups (i j : Nat) (ix e : E)
  | aug (i : Nat) (o : Op) (e : E)
  | ex (e : E)
  | ret (e : E)
  | retn
  | ife (c : E) (a b : S)
  | whl (c : E) (b : S)
  | for (tg : Tg) (it : It) (b : S)
  | brk
  | cnt
  | fgt (a b : List Nat) (s : S)
  | agt (i : Nat) (ix : E) (o : Op) (e : E)
  | ext (i : Nat) (e : E)
  | par3 (i j l : Nat) (a b d : E)
inductive Ctl where
  | nx | ret (r : Rv) | bk | ct

/-! ### operations by values -/
/-- a line below which sizes lie -/
abbrev line : Nat := 16777216
def bitsOk (i : Int) : Bool := decide (i.natAbs.log2 < 60000000)
def addf : D → D → Option Rv
  | .int i, .int j => some (.val (.int (i + j)))
  | .str x, .str y => if x.length + y.length ≤ line then some (.val (.str (x ++ y))) else none
  | .list x, .list y => if x.length + y.length ≤ line then some (.new (.lst (x ++ y))) else none
  | .tuple x, .tuple y => if x.length + y.length ≤ line then some (.val (.tuple (x ++ y))) else none
  | _, _ => none
def mulf : D → D → Option Rv
  | .int i, .int j => if bitsOk i = true ∧ bitsOk j = true then some (.val (.int (i * j))) else none
  | .list x, .int j => if x.length * j.toNat ≤ line ∧ -(2 ^ 62) < j ∧ j < 2 ^ 62 then some (.new (.lst (List.replicate j.toNat x).flatten)) else none
  | .tuple x, .int j => if -(2 ^ 62) < j ∧ j ≤ 1000 ∧ x.length ≤ 1000 then some (.val (.tuple (List.replicate j.toNat x).flatten)) else none
  | _, _ => none
def fdivf : D → D → Option Rv
  | .int i, .int j => if j ≠ 0 ∧ j.natAbs.log2 < 9000 then some (.val (.int (i.fdiv j))) else none
  | _, _ => none
def modf : D → D → Option Rv
  | .int i, .int j => if j ≠ 0 then some (.val (.int (i.fmod j))) else none
  | _, _ => none
def powf : D → D → Option Rv
  | .int i, .int j => if 0 ≤ j ∧ j ≤ 1000000 ∧ i.natAbs < 2 ^ 64 then some (.val (.int (i ^ j.toNat))) else none
  | _, _ => none
def eqf (neg : Bool) (a b : D) : Option Rv :=
  if SeqAt.shaped a = true ∧ SeqAt.shaped b = true then some (.val (.bool (if neg then !PyData.eqv a b else PyData.eqv a b))) else none
/-- the keys of a dict, if all are ints -/
def keysI? : List (D × D) → Option (List Int)
  | [] => some []
  | (.int i, _) :: r => (keysI? r).map (i :: ·)
  | _ => none
def isNone : D → Bool
  | .none => true
  | _ => false
def inf (neg : Bool) : D → D → Option Rv
  | a, .list ds => if SeqAt.shaped a = true ∧ SeqAt.shaped (.list ds) = true then some (.val (.bool (if neg then !ds.any fun z => PyData.eqv z a else ds.any fun z => PyData.eqv z a))) else none
  | a, .tuple ds => if SeqAt.shaped a = true ∧ SeqAt.shaped (.list ds) = true then some (.val (.bool (if neg then !ds.any fun z => PyData.eqv z a else ds.any fun z => PyData.eqv z a))) else none
  | .str x, .str y => match x.cps.toList with
    | [c] => some (.val (.bool (if neg then !decide (c ∈ y.cps.toList) else decide (c ∈ y.cps.toList))))
    | _ => none
  | .int i, .dict kvs => (keysI? kvs).map fun ks => .val (.bool (if neg then !decide (i ∈ ks) else decide (i ∈ ks)))
  | _, _ => none
def chr1 (c : Nat) : D := .str ⟨#[c]⟩
def idxf : D → D → Option Rv
  | .list ds, .int i => (atI ds i).map .val
  | .tuple ds, .int i => (atI ds i).map .val
  | .dict [(.none, .list ds)], .int i => (atI ds i).map .val
  | .str x, .int i => if x.length ≤ line then (atI x.cps.toList i).map fun c => .val (chr1 c) else none
  | _, _ => none
def cutD {α : Type} (xs : List α) (lo hi : Option Int) : List α := (xs.drop (HT.sIx xs.length 0 lo)).take (HT.sIx xs.length xs.length hi - HT.sIx xs.length 0 lo)
def slcf (lo hi : Option Int) : D → Option Rv
  | .list ds => some (.new (.lst (cutD ds lo hi)))
  | .tuple ds => some (.val (.tuple (cutD ds lo hi)))
  | .str x => if x.length ≤ line then some (.val (.str (cutS x lo hi))) else none
  | _ => none
def lenf : D → Option Rv
  | .list ds => some (.val (.int ds.length))
  | .tuple ds => some (.val (.int ds.length))
  | .dict [(.none, .list ds)] => some (.val (.int ds.length))
  | .str x => if x.length ≤ line then some (.val (.int x.length)) else none
  | _ => none
def ints? : List D → Option (List Int)
  | [] => some []
  | .int i :: r => (ints? r).map (i :: ·)
  | _ => none
def bools? : List D → Option (List Bool)
  | [] => some []
  | .bool b :: r => (bools? r).map (b :: ·)
  | _ => none
def strs? : List D → Option (List Str)
  | [] => some []
  | .str b :: r => (strs? r).map (b :: ·)
  | _ => none
/-- the items of a list or tuple -/
def items? : D → Option (List D)
  | .list ds => some ds
  | .dict [(.none, .list ds)] => some ds
  | .tuple ds => some ds
  | _ => none
def maxI : List Int → Option Int
  | [] => none
  | x :: r => some (r.foldl (fun m y => if m < y then y else m) x)
def minI : List Int → Option Int
  | [] => none
  | x :: r => some (r.foldl (fun m y => if y < m then y else m) x)
def insI (x : Int) : List Int → List Int
  | [] => [x]
  | y :: r => if x ≤ y then x :: y :: r else y :: insI x r
def sortI (xs : List Int) : List Int := xs.foldr insI []
def subf : D → D → Option Rv
  | .int i, .int j => some (.val (.int (i - j)))
  | _, _ => none
def xorf : D → D → Option Rv
  | .int i, .int j => some (.val (.int (Builtin.bitXor i j)))
  | _, _ => none
def isNf (neg : Bool) : D → D → Option Rv
  | a, .none => some (.val (.bool (if neg then !isNone a else isNone a)))
  | .bool a, .bool b => some (.val (.bool (if neg then !decide (a = b) else decide (a = b))))
  | _, _ => none
def gcdf : D → D → Option Rv
  | .int i, .int j => some (.val (.int (Nat.gcd i.natAbs j.natAbs : Nat)))
  | _, _ => none
def negf : D → Option Rv
  | .int i => some (.val (.int (-i)))
  | _ => none
def absf : D → Option Rv
  | .int i => some (.val (.int (if i < 0 then -i else i)))
  | _ => none
def intf : D → Option Rv
  | .int i => some (.val (.int i))
  | .bool b => some (.val (.int (if b then 1 else 0)))
  | _ => none
def revf : D → Option Rv
  | .list ds => some (.new (.lst ds.reverse))
  | .tuple ds => some (.val (.tuple ds.reverse))
  | _ => none
def seq? : D → Option (List D)
  | .list ds => some ds
  | .tuple ds => some ds
  | _ => none
def alikeB (ds : List D) : Bool := ds.all fun x => ds.all fun y => PySem.W.alike x y
def tupsB (ds : List D) : Bool := ds.all fun d => match d with
  | .tuple (_ :: _) => true
  | _ => false
def othersB (ds : List D) : Bool := ds.all fun d => match d with
  | .none => false
  | .tuple _ => false
  | _ => true
/-- what max and min may be asked of -/
def bestB (ds : List D) : Bool := alikeB ds && (ds.all fun x => !isNone x) && PyData.canLayAll0 ds && decide (PyData.depthAll ds ≤ 50)
/-- less, and so on, of two ints, two strings, two tuples of alike data -/
def cmpf (p : Int → Int → Bool) (q : List Nat → List Nat → Bool) (r : D → D → Bool) : D → D → Option Rv
  | .int i, .int j => some (.val (.bool (p i j)))
  | .str x, .str y => some (.val (.bool (q x.cps.toList y.cps.toList)))
  | .tuple x, .tuple y => if bestB [.tuple x, .tuple y] = true then some (.val (.bool (r (.tuple x) (.tuple y)))) else none
  | _, _ => none
def dlt (a b : D) : Bool := PySem.W.dataLt a b
def dle (a b : D) : Bool := !PySem.W.dataLt b a
def dgt (a b : D) : Bool := PySem.W.dataLt b a
def dge (a b : D) : Bool := !PySem.W.dataLt a b
def max2f : D → D → Option Rv
  | .int i, .int j => some (.val (.int (if j > i then j else i)))
  | .tuple x, .tuple y => if bestB [.tuple x, .tuple y] = true then some (.val (if PySem.W.dataLt (.tuple x) (.tuple y) then .tuple y else .tuple x)) else none
  | _, _ => none
def min2f : D → D → Option Rv
  | .int i, .int j => some (.val (.int (if j < i then j else i)))
  | .tuple x, .tuple y => if bestB [.tuple x, .tuple y] = true then some (.val (if PySem.W.dataLt (.tuple y) (.tuple x) then .tuple y else .tuple x)) else none
  | _, _ => none
/-- what sorted may be asked of -/
def sortB (ds : List D) : Bool := alikeB ds && (tupsB ds || othersB ds) && PyData.canLayAll0 ds && decide (PyData.depthAll ds ≤ 50)
def bestf (mx : D → List D → D) : List D → Option Rv
  | [] => none
  | d :: ds => if bestB (d :: ds) = true then some (.val (mx d ds)) else none
def maxs (ds : List D) : Option Rv := match ints? ds with
  | some ns => (maxI ns).map fun m => .val (.int m)
  | none => bestf PySem.W.maxD ds
def mins (ds : List D) : Option Rv := match ints? ds with
  | some ns => (minI ns).map fun m => .val (.int m)
  | none => bestf PySem.W.minD ds
def maxf (d : D) : Option Rv := (seq? d).bind maxs
def minf (d : D) : Option Rv := (seq? d).bind mins
def sumf : D → Option Rv
  | .list ds => (ints? ds).map fun ns => .val (.int ns.sum)
  | .tuple ds => (ints? ds).map fun ns => .val (.int ns.sum)
  | _ => none
def anyf : D → Option Rv
  | .list ds => (bools? ds).map fun bs => .val (.bool (bs.any id))
  | _ => none
def allf : D → Option Rv
  | .list ds => (bools? ds).map fun bs => .val (.bool (bs.all id))
  | _ => none
def sorts (ds : List D) : Option Rv := match ints? ds with
  | some ns => some (.new (.lst ((sortI ns).map .int)))
  | none => if sortB ds = true then some (.new (.lst (ds.mergeSort (PySem.W.dataLe false id)))) else none
def sortedf : D → Option Rv
  | .list ds => sorts ds
  | .tuple ds => (ints? ds).map fun ns => .new (.lst ((sortI ns).map .int))
  | .dict kvs => (keysI? kvs).bind fun ks => if ks.length < 64 then some (.new (.lst ((sortI ks).map .int))) else none
  | _ => none
def countf : D → D → Option Rv
  | .list ds, .int i => (ints? ds).map fun ns => .val (.int (ns.count i : Nat))
  | _, _ => none
def indexf : D → D → Option Rv
  | .list ds, a => if SeqAt.shaped a = true ∧ SeqAt.shaped (.list ds) = true then (ds.findIdx? fun z => PyData.eqv z a).map fun j => .val (.int (j : Nat)) else none
  | _, _ => none
def lensetf (d : D) : Option Rv := (seq? d).bind fun ds => (ints? ds).bind fun ns => if ns.length ≤ 4000 then some (.val (.int ((setI ns).length : Nat))) else none
def rows? : List D → Option (List (List Int))
  | [] => some []
  | .tuple xs :: r => (ints? xs).bind fun ns => (rows? r).map fun t => ns :: t
  | _ :: _ => none
/-- rows that are not empty -/
def rowsOk (rs : List (List Int)) : Bool := rs.all fun r => !r.isEmpty
def rowsetf : D → Option Rv
  | .list ds => (rows? ds).bind fun rs => if rs.length < 64 ∧ rowsOk rs = true then some (.new (.lst ((setT rs).map fun r => .tuple (r.map .int)))) else none
  | _ => none
/-- a list goes on by another one -/
def extf : Mo → D → Option Mo
  | .lst ds, .list es => if ds.length + es.length ≤ line then some (.lst (ds ++ es)) else none
  | _, _ => none
def intsetf (d : D) : Option Rv := (seq? d).bind fun ds => (ints? ds).bind fun ns => if ns.length ≤ 4000 then some (.new (.lst ((setI ns).map .int))) else none
def sortsetf (d : D) : Option Rv := match intsetf d with
  | some rv => some rv
  | none => rowsetf d
def bitsf : D → Option Rv
  | .int i => some (.val (.int (Builtin.Int.intBits i : Nat)))
  | _ => none
def tuplef (a : D) : Option Rv := (items? a).map fun ds => .val (.tuple ds)
def listf (a : D) : Option Rv := (items? a).map fun ds => .new (.lst ds)
def isIf : D → Option Rv
  | .int _ => some (.val (.bool true))
  | .bool _ => some (.val (.bool true))
  | .dict _ => none
  | _ => some (.val (.bool false))
def isBf : D → Option Rv
  | .bool _ => some (.val (.bool true))
  | .dict _ => none
  | _ => some (.val (.bool false))
def isSf : D → Option Rv
  | .str _ => some (.val (.bool true))
  | .dict _ => none
  | _ => some (.val (.bool false))
def isTf : D → Option Rv
  | .tuple _ => some (.val (.bool true))
  | .dict _ => none
  | _ => some (.val (.bool false))
/-- the ints a .. b - 1 -/
def rgD (a b : Int) : List D := (List.range (b - a).toNat).map fun (k : Nat) => .int (a + (k : Int))
def rgOk (a b : Int) : Prop := -(2 ^ 62) ≤ a ∧ a < 2 ^ 62 ∧ -(2 ^ 62) ≤ b ∧ b < 2 ^ 62 ∧ (b - a).toNat ≤ line
instance (a b : Int) : Decidable (rgOk a b) := by unfold rgOk; infer_instance
def tupRf : D → D → Option Rv
  | .int a, .int b => if rgOk a b then some (.val (.tuple (rgD a b))) else none
  | _, _ => none
def lstRf : D → D → Option Rv
  | .int a, .int b => if rgOk a b then some (.new (.lst (rgD a b))) else none
  | _, _ => none
def slc1 (lo : Bool) (a : D) : D → Option Rv
  | .int i => if lo then slcf (some i) none a else slcf none (some i) a
  | _ => none
def slc2 (a : D) : D → D → Option Rv
  | .int i, .int j => slcf (some i) (some j) a
  | _, _ => none
def op1 : Op → D → Option Rv
  | .neg, a => negf a
  | .slc false false, a => slcf none none a
  | .rev, a => revf a
  | .len, a => lenf a
  | .abs, a => absf a
  | .int, a => intf a
  | .max, a => maxf a
  | .min, a => minf a
  | .sum, a => sumf a
  | .any, a => anyf a
  | .all, a => allf a
  | .sorted, a => sortedf a
  | .tuple, a => tuplef a
  | .list, a => listf a
  | .isI, a => isIf a
  | .isB, a => isBf a
  | .isS, a => isSf a
  | .isT, a => isTf a
  | .tupR, a => tupRf (.int 0) a
  | .lstR, a => lstRf (.int 0) a
  | .bits, a => bitsf a
  | .lenset, a => lensetf a
  | .sortset, a => sortsetf a
  | _, _ => none
def op2 : Op → D → D → Option Rv
  | .add, a, b => addf a b
  | .sub, a, b => subf a b
  | .mul, a, b => mulf a b
  | .fdiv, a, b => fdivf a b
  | .mod, a, b => modf a b
  | .pow, a, b => powf a b
  | .xor, a, b => xorf a b
  | .eq, a, b => eqf false a b
  | .ne, a, b => eqf true a b
  | .lt, a, b => cmpf (fun i j => decide (i < j)) (fun x y => decide (x < y)) dlt a b
  | .le, a, b => cmpf (fun i j => decide (i ≤ j)) (fun x y => !decide (y < x)) dle a b
  | .gt, a, b => cmpf (fun i j => decide (j < i)) (fun x y => decide (y < x)) dgt a b
  | .ge, a, b => cmpf (fun i j => decide (j ≤ i)) (fun x y => !decide (x < y)) dge a b
  | .isN, a, b => isNf false a b
  | .notN, a, b => isNf true a b
  | .inn, a, b => inf false a b
  | .notin, a, b => inf true a b
  | .idx, a, b => idxf a b
  | .slc true false, a, b => slc1 true a b
  | .slc false true, a, b => slc1 false a b
  | .max2, a, b => max2f a b
  | .min2, a, b => min2f a b
  | .gcd, a, b => gcdf a b
  | .tupR, a, b => tupRf a b
  | .lstR, a, b => lstRf a b
  | .count, a, b => countf a b
  | .index, a, b => indexf a b
  | _, _, _ => none
def op3 : Op → D → D → D → Option Rv
  | .slc true true, a, b, c => slc2 a b c
  | _, _, _, _ => none
def opf (o : Op) : List D → Option Rv
  | [a] => op1 o a
  | [a, b] => op2 o a b
  | [a, b, c] => op3 o a b c
  | _ => none
/-- a op= b where nothing is changed in place -/
def augf : Op → D → D → Option D
  | .add, .int i, .int j => some (.int (i + j))
  | .add, .str x, .str y => if x.length + y.length ≤ line then some (.str (x ++ y)) else none
  | .add, .tuple x, .tuple y => if x.length + y.length ≤ line then some (.tuple (x ++ y)) else none
  | .sub, .int i, .int j => some (.int (i - j))
  | .mul, .int i, .int j => if bitsOk i = true ∧ bitsOk j = true then some (.int (i * j)) else none
  | .fdiv, .int i, .int j => if j ≠ 0 ∧ j.natAbs.log2 < 9000 then some (.int (i.fdiv j)) else none
  | .xor, .int i, .int j => some (.int (Builtin.bitXor i j))
  | _, _, _ => none
/-- a method that changes its list: the list behind it, and what it gives -/
def appendf : Mo → List D → Option (Mo × D)
  | .lst ds, [d] => if ds.length < line then some (.lst (ds ++ [d]), .none) else none
  | _, _ => none
def popf : Mo → List D → Option (Mo × D)
  | .lst ds, [] => (ds[ds.length - 1]?).map fun d => (.lst ds.dropLast, d)
  | _, _ => none
def popAtf : Mo → List D → Option (Mo × D)
  | .lst ds, [.int i] => if -(2 ^ 62) < i ∧ i < 2 ^ 62 then (ixN ds.length i).bind fun k => (ds[k]?).map fun d => (.lst (ds.eraseIdx k), d) else none
  | _, _ => none
def reversef : Mo → List D → Option (Mo × D)
  | .lst ds, [] => some (.lst ds.reverse, .none)
  | _, _ => none
def insertf : Mo → List D → Option (Mo × D)
  | .lst ds, [.int i, d] => if ds.length < line ∧ 0 ≤ i ∧ i < 2 ^ 62 then some (.lst (ds.take i.toNat ++ [d] ++ ds.drop i.toNat), .none) else none
  | _, _ => none
def mmf : Mm → Mo → List D → Option (Mo × D)
  | .append, m, ds => appendf m ds
  | .pop, m, ds => popf m ds
  | .popAt, m, ds => popAtf m ds
  | .reverse, m, ds => reversef m ds
  | .insert, m, ds => insertf m ds
/-- d[k] = v: in its place, or at the end -/
def putD (kvs : List (Key × D)) (k : Key) (d : D) : List (Key × D) :=
  if (kvs.any fun p => decide (p.1 = k)) = true then kvs.map (fun p => if p.1 = k then (p.1, d) else p) else kvs ++ [(k, d)]
/-- x[i] = v -/
def setf : Mo → D → D → Option Mo
  | .lst ds, .int i, d => (ixN ds.length i).map fun k => .lst (ds.set k d)
  | .dk kvs, .int i, d => if kvs.length < line then some (.dk (putD kvs (.inl i) d)) else none
  | _, _, _ => none
def getf : Mo → D → Option D
  | .lst ds, .int i => atI ds i
  | _, _ => none
def pair? : D → Option (D × D)
  | .tuple [a, b] => some (a, b)
  | _ => none
def truth : D → Option Bool
  | .bool b => some b
  | _ => none
/-- a range with a step, such that the model has it -/
def rg3 (i j c : Int) : Prop := c ≠ 0 ∧ c.natAbs < 1073741824 ∧ PySem.Builtin.Range.small i j c = true ∧ 0 ≤ PySem.Builtin.Range.rangeSize i j c
instance (i j c : Int) : Decidable (rg3 i j c) := by unfold rg3; infer_instance
def rngf : List D → Option (List D)
  | [.int j] => if -(2 ^ 62) ≤ j ∧ j < 2 ^ 62 then some ((List.range j.toNat).map fun (k : Nat) => .int (0 + (k : Int))) else none
  | [.int i, .int j] => if -(2 ^ 62) ≤ i ∧ i < 2 ^ 62 ∧ -(2 ^ 62) ≤ j ∧ j < 2 ^ 62 then some ((List.range (j - i).toNat).map fun (k : Nat) => .int (i + (k : Int))) else none
  | [.int i, .int j, .int c] => if rg3 i j c then some ((List.range (PySem.Builtin.Range.rangeSize i j c).toNat).map fun (k : Nat) => .int (i + (k : Int) * c)) else none
  | _ => none
/-- what a for goes over -/
def walked : D → Option (List D)
  | .list ds => some ds
  | .dict [(.none, .list ds)] => some ds
  | .tuple ds => some ds
  | _ => none

/-! ### slots -/
def unb1 : Sl → Sl → Sl
  | .loc _, .brw m => .loc m
  | .io _, .brw m => .io m
  | .brw _, .brw m => .brw m
  | _, .brw _ => .no
  | _, s => s
/-- what was lent to be looked at is given back -/
def unb : Env' → Env' → Env'
  | a :: r, b :: s => unb1 a b :: unb r s
  | _, s => s
def frz : Rv → D
  | .val d => d
  | .new m => m.d
/-- one slot is given back -/
def reAt (o : Option Nat) (env0 env : Env') : Env' := match o with
  | some i => (match env0[i]?, env[i]? with
    | some s, some t => env.set i (unb1 s t)
    | _, _ => env)
  | none => env
def setAt (i : Nat) (s : Sl) (env : Env') : Option Env' :=
  match env[i]? with
  | some t => if t.free then some (env.set i s) else none
  | none => none
def setAll : List Nat → List D → Env' → Option Env'
  | [], [], env => some env
  | i :: is, d :: ds, env => (setAt i (.val d) env).bind (setAll is ds)
  | _, _, _ => none
def setTg : Tg → D → Env' → Option Env'
  | .nm i, d, env => setAt i (.val d) env
  | .tp is, .tuple ds, env => setAll is ds env
  | .tp is, .list ds, env => setAll is ds env
  | _, _, _ => none
def wipeE (env : Env') : List Nat → Env'
  | [] => env
  | v :: vs => (wipeE env vs).set v .no
/-- the block's own slots are as they were ahead of it -/
def backE (env0 env : Env') : List Nat → Env'
  | [] => env
  | v :: vs => (backE env0 env vs).set v (env0.getD v .no)
def quiet (env : Env') (vs : List Nat) : Bool := vs.all fun v => match env.getD v .no with
  | .no => true
  | .val _ => true
  | _ => false
/-- an argument: a slot for the callee, or an own list that is lent to be changed (read when all arguments stand) -/
inductive Ag where
  | sl (s : Sl)
  | pend (i : Nat)
def pends : List Ag → List Nat
  | [] => []
  | .pend i :: r => i :: pends r
  | .sl _ :: r => pends r
def getArgs (env : Env') : List Ag → Option (List Sl)
  | [] => some []
  | .sl s :: r => (getArgs env r).bind fun t => some (s :: t)
  | .pend i :: r => (env[i]?).bind fun x => x.own.bind fun m => (getArgs env r).bind fun t => some (.io m :: t)
/-- what was lent to be changed is given back -/
def putBack : List Ag → List Sl → Env' → Option Env'
  | [], _, env => some env
  | .sl _ :: r, _ :: s, env => putBack r s env
  | .pend i :: r, .io m :: s, env => (env[i]?).bind fun x => putBack r s (env.set i (x.put m))
  | _, _, _ => none
def nodupB : List Nat → Bool
  | [] => true
  | i :: r => !r.contains i && nodupB r
def Es.hasB : Es → Bool
  | .nil => false
  | .cons (.brw _) _ => true
  | .cons _ es => es.hasB
def It.bIx : It → Option Nat
  | .of (.brw i) => some i
  | _ => none

/-- free slots are emptied -/
def fg1 (i : Nat) (env : Env') : Env' := match env[i]? with
  | some s => if s.free then env.set i .no else env
  | none => env
def fgE : List Nat → Env' → Env'
  | [], env => env
  | i :: r, env => fgE r (fg1 i env)
def fgC : Ctl → List Nat → Env' → Env'
  | .ret _, _, env => env
  | _, is, env => fgE is env
/-! ### the evaluator -/
section
variable (gl : Nat → D) (cf : Nat → List Sl → Option (Rv × List Sl))
def compL (own : List Nat) (tg : Tg) (body : Env' → Option (Option D × Env')) : List D → Env' → Option (List D × Env')
  | [], env => some ([], env)
  | x :: xs, env => (setTg tg x (wipeE env own)).bind fun env1 => (body env1).bind fun (o, env2) => (compL own tg body xs env2).bind fun (ys, env3) => some (o.toList ++ ys, env3)
mutual
def evE : E → Env' → Option (Rv × Env')
  | .cst d, env => some (.val d, env)
  | .var i, env => match env[i]? with
    | some (.val d) => some (.val d, env)
    | some (.loc m) => some (.val m.d, env.set i (.val m.d))
    | _ => none
  | .brw _, _ => none
  | .mov i, env => match env[i]? with
    | some (.loc m) => some (.new m, env.set i .no)
    | _ => none
  | .glb g, env => some (.val (gl g), env)
  | .op o es, env => (evEs es env).bind fun (ds, env1) => (opf o ds).bind fun rv => some (rv, if es.hasB then unb env env1 else env1)
  | .tup es, env => (evEs es env).bind fun (ds, env1) => if es.hasB = false ∧ ds.length ≤ line then some (.val (.tuple ds), env1) else none
  | .lst es, env => (evEs es env).bind fun (ds, env1) => if es.hasB = false ∧ ds.length ≤ line then some (.new (.lst ds), env1) else none
  | .and a b, env => (evE a env).bind fun
    | (.val (.bool true), env1) => evE b env1
    | (.val (.bool false), env1) => some (.val (.bool false), env1)
    | _ => none
  | .or a b, env => (evE a env).bind fun
    | (.val (.bool true), env1) => some (.val (.bool true), env1)
    | (.val (.bool false), env1) => evE b env1
    | _ => none
  | .not a, env => (evE a env).bind fun
    | (.val (.bool b), env1) => some (.val (.bool (!b)), env1)
    | _ => none
  | .ife c a b, env => (evE c env).bind fun
    | (.val (.bool true), env1) => evE a env1
    | (.val (.bool false), env1) => evE b env1
    | _ => none
  | .chn o1 o2 a b c, env => (evE a env).bind fun (ra, env1) => (evE b env1).bind fun (rb, env2) => (op2 o1 (frz ra) (frz rb)).bind fun
    | .val (.bool true) => (evE c env2).bind fun (rc, env3) => (op2 o2 (frz rb) (frz rc)).bind fun rv => some (rv, env3)
    | .val (.bool false) => some (.val (.bool false), env2)
    | _ => none
  | .call f es, env => (evAs es env).bind fun (ag, env1) => if nodupB (pends ag) then
      (getArgs env1 ag).bind fun sl => (cf f sl).bind fun (rv, sl') => (putBack ag sl' env1).bind fun env2 => some (rv, if es.hasB then unb env env2 else env2) else none
  | .mth m i es, env => (env[i]?).bind fun s0 => s0.own.bind fun m0 => if m0.isL = false ∨ es.hasB = true then none else
      (evEs es env).bind fun (ds, env1) => (env1[i]?).bind fun s => s.own.bind fun mo => (mmf m mo ds).bind fun (mo', d) => some (.val d, env1.set i (s.put mo'))
  | .comp own tg it cs elt, env => (evI it env).bind fun (xs, env1) => if quiet env1 own = true ∧ xs.length ≤ line then
      (compL own tg (fun e1 => (evCs cs e1).bind fun (b, e2) => if b then (evE elt e2).bind fun (rv, e3) => some (some (frz rv), e3) else some (none, e2)) xs env1).bind fun (ys, env2) =>
        some (.new (.lst ys), reAt it.bIx env (backE env1 env2 own)) else none
  | .fz e, env => (evE e env).bind fun (rv, env1) => some (.val (frz rv), env1)
  | .dct, env => some (.new (.dk []), env)
def evEs : Es → Env' → Option (List D × Env')
  | .nil, env => some ([], env)
  | .cons (.brw i) es, env => match env[i]? with
    | some (.val d) => (evEs es env).bind fun (ds, env2) => some (d :: ds, env2)
    | some (.loc m) => (evEs es (env.set i (.brw m))).bind fun (ds, env2) => some (m.d :: ds, env2)
    | some (.io m) => (evEs es (env.set i (.brw m))).bind fun (ds, env2) => some (m.d :: ds, env2)
    | some (.brw m) => (evEs es env).bind fun (ds, env2) => some (m.d :: ds, env2)
    | _ => none
  | .cons e es, env => (evE e env).bind fun (rv, env1) => (evEs es env1).bind fun (ds, env2) => some (frz rv :: ds, env2)
def evAs : Es → Env' → Option (List Ag × Env')
  | .nil, env => some ([], env)
  | .cons (.brw i) es, env => match env[i]? with
    | some (.val d) => (evAs es env).bind fun (ds, env2) => some (.sl (.val d) :: ds, env2)
    | some (.loc m) => (evAs es (env.set i (.brw m))).bind fun (ds, env2) => some (.sl (.brw m) :: ds, env2)
    | some (.io m) => (evAs es (env.set i (.brw m))).bind fun (ds, env2) => some (.sl (.brw m) :: ds, env2)
    | some (.brw m) => (evAs es env).bind fun (ds, env2) => some (.sl (.brw m) :: ds, env2)
    | _ => none
  | .cons (.mov i) es, env => (env[i]?).bind fun s => s.own.bind fun _ => (evAs es env).bind fun (ds, env2) => some (.pend i :: ds, env2)
  | .cons e es, env => (evE e env).bind fun (rv, env1) => (evAs es env1).bind fun (ds, env2) => some (.sl (.val (frz rv)) :: ds, env2)
def evI : It → Env' → Option (List D × Env')
  | .of (.brw i), env => match env[i]? with
    | some (.val d) => (walked d).bind fun xs => some (xs, env)
    | some (.loc m) => (walked m.d).bind fun xs => some (xs, env.set i (.brw m))
    | some (.io m) => (walked m.d).bind fun xs => some (xs, env.set i (.brw m))
    | some (.brw m) => (walked m.d).bind fun xs => some (xs, env)
    | _ => none
  | .of e, env => (evE e env).bind fun (rv, env1) => (walked (frz rv)).bind fun xs => some (xs, env1)
  | .rng es, env => (evEs es env).bind fun (ds, env1) => (rngf ds).bind fun xs => some (xs, if es.hasB then unb env env1 else env1)
/-- all tests of a comprehension (none, or one) -/
def evCs : Es → Env' → Option (Bool × Env')
  | .nil, env => some (true, env)
  | .cons e .nil, env => (evE e env).bind fun
    | (.val (.bool b), env1) => some (b, env1)
    | _ => none
  | _, _ => none
end
def forL (tg : Tg) (body : Env' → Option (Ctl × Env')) : List D → Env' → Option (Ctl × Env')
  | [], env => some (.nx, env)
  | x :: xs, env => (setTg tg x env).bind fun env1 => (body env1).bind fun
    | (.nx, env2) => forL tg body xs env2
    | (.ct, env2) => forL tg body xs env2
    | (.bk, env2) => some (.nx, env2)
    | (.ret r, env2) => some (.ret r, env2)
def whlL (c : Env' → Option (Rv × Env')) (body : Env' → Option (Ctl × Env')) : Nat → Env' → Option (Ctl × Env')
  | 0, _ => none
  | n + 1, env => (c env).bind fun
    | (.val (.bool true), env1) => (body env1).bind fun
      | (.nx, env2) => whlL c body n env2
      | (.ct, env2) => whlL c body n env2
      | (.bk, env2) => some (.nx, env2)
      | (.ret r, env2) => some (.ret r, env2)
    | (.val (.bool false), env1) => some (.nx, env1)
    | _ => none
def evS (n : Nat) : S → Env' → Option (Ctl × Env')
  | .pass, env => some (.nx, env)
  | .seq a b, env => (evS n a env).bind fun
    | (.nx, env1) => evS n b env1
    | r => some r
  | .set i e, env => (evE gl cf e env).bind fun
    | (.val d, env1) => (setAt i (.val d) env1).bind fun env2 => some (.nx, env2)
    | (.new m, env1) => (setAt i (.loc m) env1).bind fun env2 => some (.nx, env2)
  | .unp is e, env => (evE gl cf e env).bind fun (rv, env1) => (setTg (.tp is) (frz rv) env1).bind fun env2 => some (.nx, env2)
  | .par i j a b, env => (evE gl cf a env).bind fun (ra, env1) => (evE gl cf b env1).bind fun (rb, env2) =>
      (setAt i (.val (frz ra)) env2).bind fun env3 => (setAt j (.val (frz rb)) env3).bind fun env4 => some (.nx, env4)
  | .st i ix e, env => (evE gl cf e env).bind fun (rv, env1) => (env1[i]?).bind fun s0 => s0.own.bind fun _ => (evE gl cf ix env1).bind fun (rk, env2) =>
      (env2[i]?).bind fun s => s.own.bind fun mo => (setf mo (frz rk) (frz rv)).bind fun mo' => some (.nx, env2.set i (s.put mo'))
  | .ups i j ix e, env => (evE gl cf e env).bind fun (rv, env1) => (pair? (frz rv)).bind fun (d0, d1) => (setAt i (.val d0) env1).bind fun env2 =>
      (env2[j]?).bind fun s0 => s0.own.bind fun _ => (evE gl cf ix env2).bind fun (rk, env3) => (env3[j]?).bind fun s => s.own.bind fun mo => (setf mo (frz rk) d1).bind fun mo' => some (.nx, env3.set j (s.put mo'))
  | .aug i o e, env => match env[i]? with
    | some (.val d0) => (evE gl cf e env).bind fun (rv, env1) => (augf o d0 (frz rv)).bind fun d' => (setAt i (.val d') env1).bind fun env2 => some (.nx, env2)
    | _ => none
  | .ex e, env => (evE gl cf e env).bind fun (_, env1) => some (.nx, env1)
  | .ret e, env => (evE gl cf e env).bind fun (rv, env1) => some (.ret rv, env1)
  | .retn, env => some (.ret (.val .none), env)
  | .ife c a b, env => (evE gl cf c env).bind fun
    | (.val (.bool true), env1) => evS n a env1
    | (.val (.bool false), env1) => evS n b env1
    | _ => none
  | .whl c b, env => whlL (evE gl cf c) (evS n b) n env
  | .for tg it b, env => (evI gl cf it env).bind fun (xs, env1) => (forL tg (evS n b) xs env1).bind fun (c, env2) => some (c, reAt it.bIx env env2)
  | .brk, env => some (.bk, env)
  | .cnt, env => some (.ct, env)
  | .fgt a b s, env => (evS n s (fgE a env)).bind fun (c, env1) => some (c, fgC c b env1)
  | .agt i ix o e, env => (env[i]?).bind fun s0 => s0.own.bind fun _ => (evE gl cf ix env).bind fun (rk, env1) => (env1[i]?).bind fun s1 => s1.own.bind fun m1 =>
      (getf m1 (frz rk)).bind fun d0 => (evE gl cf e env1).bind fun (rv, env2) => (augf o d0 (frz rv)).bind fun d' => (env2[i]?).bind fun s => s.own.bind fun mo => (setf mo (frz rk) d').bind fun mo' => some (.nx, env2.set i (s.put mo'))
  | .par3 i j l a b d, env => (evE gl cf a env).bind fun (ra, env1) => (evE gl cf b env1).bind fun (rb, env2) => (evE gl cf d env2).bind fun (rd, env3) =>
      (setAt i (.val (frz ra)) env3).bind fun env4 => (setAt j (.val (frz rb)) env4).bind fun env5 => (setAt l (.val (frz rd)) env5).bind fun env6 => some (.nx, env6)
  | .ext i e, env => (env[i]?).bind fun s0 => s0.own.bind fun _ => (evE gl cf e env).bind fun (rv, env1) => (env1[i]?).bind fun s => s.own.bind fun mo => (extf mo (frz rv)).bind fun mo' => some (.nx, env1.set i (s.put mo'))
end
/-- a def: how many slots, how many parameters, its body -/
structure Fn where
  slots : Nat
  params : Nat
  body : S
def runF (gl : Nat → D) (cf : Nat → List Sl → Option (Rv × List Sl)) (n : Nat) (f : Fn) (sl : List Sl) : Option (Rv × List Sl) :=
  if sl.length = f.params then
    (evS gl cf n f.body (sl ++ List.replicate (f.slots - f.params) .no)).bind fun
      | (.nx, env) => some (.val .none, env.take f.params)
      | (.ret rv, env) => some (rv, env.take f.params)
      | _ => none
  else none
/-- the defs' meaning, calls as deep as k -/
def call (gl : Nat → D) (tb : Nat → Option Fn) (n : Nat) : Nat → Nat → List Sl → Option (Rv × List Sl)
  | 0, _, _ => none
  | k + 1, f, sl => (tb f).bind fun fn => runF gl (call gl tb n k) n fn sl
end Pv

namespace Pv
open PySem PySem.Spec PyProof.Rows L2

/-! ### what a value stands for -/
def KLst (K : PySem.W.Frag) (a : Addr) (xs : List V) : Prop :=
  ∃ (o : Obj) (its : Array Value) (n : Nat), K.lookup a = some o ∧ o.cls = .type "list" ∧ o.dict = none ∧ o.data = .seq its n ∧ its.size ≤ sizeLine ∧ Vals xs its.toList
/-- the law's script: a list that is only read -/
def ScrAt (K : PySem.W.Frag) (H : Hp) (a : Addr) (xs : List V) : Prop := (∃ o, H a = some (.frz o (.lst xs))) ∨ KLst K a xs
mutual
inductive Rep (K : PySem.W.Frag) (F : Addr → Prop) (H : Hp) : D → V → Prop
  | non : Rep K F H .none .non
  | bl (b : Bool) : Rep K F H (.bool b) (.bl b)
  | int (i : Int) : Rep K F H (.int i) (.int i)
  | str (x : Str) : Rep K F H (.str x) (.str x)
  | tup {a : Addr} {vs : List V} {ds : List D} : SqT K H a vs → Reps K F H ds vs → Rep K F H (.tuple ds) (.ref a)
  | lst {a : Addr} {vs : List V} {ds : List D} : H a = some (.lst vs) → F a → Reps K F H ds vs → Rep K F H (.list ds) (.ref a)
  | scr {a : Addr} {vs : List V} {ds : List D} : ScrAt K H a vs → Reps K F H ds vs → Rep K F H (scrD ds) (.ref a)
  | dk {a : Addr} {hk : List (Key × V)} {kvs : List (Key × D)} : H a = some (.dK hk) → F a → hk.map (·.1) = kvs.map (·.1) → Reps K F H (kvs.map (·.2)) (hk.map (·.2)) → Rep K F H (.dict (kvs.map fun p => (kD p.1, p.2))) (.ref a)
inductive Reps (K : PySem.W.Frag) (F : Addr → Prop) (H : Hp) : List D → List V → Prop
  | nil : Reps K F H [] []
  | cons {d : D} {v : V} {ds : List D} {vs : List V} : Rep K F H d v → Reps K F H ds vs → Reps K F H (d :: ds) (v :: vs)
end
/-- an own object -/
def MRep (K : PySem.W.Frag) (F : Addr → Prop) (H : Hp) (a : Addr) : Mo → Prop
  | .lst ds => ∃ vs, H a = some (.lst vs) ∧ Reps K F H ds vs
  | .dk kvs => ∃ hk : List (Key × V), H a = some (.dK hk) ∧ hk.map (·.1) = kvs.map (·.1) ∧ Reps K F H (kvs.map (·.2)) (hk.map (·.2))

/-- what is at G stays, tuples and locked things stay, nothing is lost -/
structure Stay (G : Addr → Prop) (H H' : Hp) : Prop where
  kp : ∀ a, G a → H' a = H a
  tup : ∀ a xs, H a = some (.tup xs) → H' a = some (.tup xs)
  frz : ∀ a o u, H a = some (.frz o u) → H' a = some (.frz o u)
  dom : ∀ a, H a ≠ none → H' a ≠ none
section
variable {K : PySem.W.Frag} {F F' G Z Z' : Addr → Prop} {H H' H'' : Hp} {a : Addr}
theorem Stay.refl : Stay G H H := ⟨fun _ _ => rfl, fun _ _ h => h, fun _ _ _ h => h, fun _ h => h⟩
theorem Stay.trans (x : Stay G H H') (y : Stay G H' H'') : Stay G H H'' :=
  ⟨fun a g => (y.kp a g).trans (x.kp a g), fun a xs h => y.tup a xs (x.tup a xs h), fun a o u h => y.frz a o u (x.frz a o u h), fun a h => y.dom a (x.dom a h)⟩
theorem Stay.mono (x : Stay G H H') (h : ∀ a, F a → G a) : Stay F H H' := ⟨fun a f => x.kp a (h a f), x.tup, x.frz, x.dom⟩
theorem Stay.same (s : Same H H') (hG : ∀ a, G a → H a ≠ none) : Stay G H H' := by
  refine ⟨fun a g => ?_, fun a xs h => s _ _ h, fun a o u h => s _ _ h, fun a h => ?_⟩
  · cases e : H a with
    | none => exact absurd e (hG a g)
    | some o => exact s _ _ e
  · cases e : H a with
    | none => exact absurd e h
    | some o => rw [s _ _ e]; exact fun z => nomatch z
/-- the object at a is changed -/
theorem Stay.upd {o o' : HO} (h : H a = some o) (nt : ∀ xs, o ≠ .tup xs) (nz : ∀ ob u, o ≠ .frz ob u) (hG : ¬ G a) : Stay G H (upd H a o') := by
  refine ⟨fun b g => upd_ne (fun e => hG (e ▸ g)), fun b xs e => ?_, fun b ob u e => ?_, fun b e => ?_⟩
  · rw [upd_ne]; exact e
    intro z; subst z; rw [h] at e; exact nt xs (Option.some.inj e)
  · rw [upd_ne]; exact e
    intro z; subst z; rw [h] at e; exact nz ob u (Option.some.inj e)
  · by_cases z : b = a
    · subst z; rw [upd_same]; exact fun z => nomatch z
    · rw [upd_ne z]; exact e
theorem SqT.stay {xs : List V} (s : Stay G H H') (h : SqT K H a xs) : SqT K H' a xs := by
  rcases h with (h | ⟨o, h⟩) | h
  · exact .inl (.inl (s.tup _ _ h))
  · exact .inl (.inr ⟨o, s.frz _ _ _ h⟩)
  · exact .inr h
mutual
theorem Rep.stay (s : Stay F H H') (hF : ∀ a, F a → F' a) : ∀ {d : D} {v : V}, Rep K F H d v → Rep K F' H' d v
  | _, _, .non => .non
  | _, _, .bl b => .bl b
  | _, _, .int i => .int i
  | _, _, .str x => .str x
  | _, _, .tup h r => .tup (SqT.stay s h) (Reps.stay s hF r)
  | _, _, .lst h f r => .lst ((s.kp _ f).trans h) (hF _ f) (Reps.stay s hF r)
  | _, _, .scr h r => .scr (h.elim (fun ⟨o, h⟩ => .inl ⟨o, s.frz _ _ _ h⟩) .inr) (Reps.stay s hF r)
  | _, _, .dk h f e r => .dk ((s.kp _ f).trans h) (hF _ f) e (Reps.stay s hF r)
theorem Reps.stay (s : Stay F H H') (hF : ∀ a, F a → F' a) : ∀ {ds : List D} {vs : List V}, Reps K F H ds vs → Reps K F' H' ds vs
  | _, _, .nil => .nil
  | _, _, .cons h t => .cons (Rep.stay s hF h) (Reps.stay s hF t)
end
theorem MRep.stay {m : Mo} (s : Stay F H H') (hF : ∀ a, F a → F' a) (e : H' a = H a) (h : MRep K F H a m) : MRep K F' H' a m := by
  cases m with
  | lst ds => obtain ⟨vs, h1, h2⟩ := h; exact ⟨vs, e.trans h1, h2.stay s hF⟩
  | dk kvs => obtain ⟨hk, h1, h2, h3⟩ := h; exact ⟨hk, e.trans h1, h2, h3.stay s hF⟩
theorem MRep.grow {m : Mo} (hF : ∀ a, F a → F' a) (h : MRep K F H a m) : MRep K F' H a m := h.stay (Stay.refl) hF rfl
theorem MRep.dom {m : Mo} (h : MRep K F H a m) : H a ≠ none := by
  cases m with
  | lst ds => obtain ⟨vs, h1, h2⟩ := h; rw [h1]; exact fun z => nomatch z
  | dk kvs => obtain ⟨hk, h1, h2, h3⟩ := h; rw [h1]; exact fun z => nomatch z
/-- an own object that is frozen -/
theorem MRep.rep {m : Mo} (h : MRep K F H a m) (f : F a) : Rep K F H m.d (.ref a) := by
  cases m with
  | lst ds => obtain ⟨vs, h1, h2⟩ := h; exact .lst h1 f h2
  | dk kvs => obtain ⟨hk, h1, h2, h3⟩ := h; exact .dk h1 f h2 h3
theorem MRep.hot {m : Mo} (h : MRep K F H a m) : ∃ o, H a = some o ∧ (∀ xs, o ≠ .tup xs) ∧ (∀ ob u, o ≠ .frz ob u) := by
  cases m with
  | lst ds => obtain ⟨vs, h1, h2⟩ := h; exact ⟨_, h1, fun _ z => (nomatch z), fun _ _ z => (nomatch z)⟩
  | dk kvs => obtain ⟨hk, h1, h2, h3⟩ := h; exact ⟨_, h1, fun _ z => (nomatch z), fun _ _ z => (nomatch z)⟩
theorem Reps.length : ∀ {ds : List D} {vs : List V}, Reps K F H ds vs → ds.length = vs.length
  | _, _, .nil => rfl
  | _, _, .cons _ t => congrArg (· + 1) t.length
theorem Reps.get : ∀ {ds : List D} {vs : List V} {i : Nat} {d : D}, Reps K F H ds vs → ds[i]? = some d → ∃ v, vs[i]? = some v ∧ Rep K F H d v
  | _, _, _, _, .nil, h => by simp at h
  | _, _, 0, _, .cons r _, h => by simp at h; subst h; exact ⟨_, rfl, r⟩
  | _, _, i + 1, _, .cons _ t, h => by
    obtain ⟨v, h1, h2⟩ := t.get (i := i) (by simpa using h)
    exact ⟨v, by simpa using h1, h2⟩
theorem Reps.append : ∀ {ds es : List D} {vs ws : List V}, Reps K F H ds vs → Reps K F H es ws → Reps K F H (ds ++ es) (vs ++ ws)
  | _, _, _, _, .nil, s => s
  | _, _, _, _, .cons r t, s => .cons r (t.append s)
theorem Reps.take : ∀ {ds : List D} {vs : List V} (n : Nat), Reps K F H ds vs → Reps K F H (ds.take n) (vs.take n)
  | _, _, 0, _ => .nil
  | _, _, _ + 1, .nil => .nil
  | _, _, n + 1, .cons r t => .cons r (t.take n)
theorem Reps.drop : ∀ {ds : List D} {vs : List V} (n : Nat), Reps K F H ds vs → Reps K F H (ds.drop n) (vs.drop n)
  | _, _, 0, r => r
  | _, _, _ + 1, .nil => .nil
  | _, _, n + 1, .cons _ t => t.drop n
theorem Reps.set {d : D} {v : V} (r : Rep K F H d v) : ∀ {ds : List D} {vs : List V} (i : Nat), Reps K F H ds vs → Reps K F H (ds.set i d) (vs.set i v)
  | _, _, _, .nil => .nil
  | _, _, 0, .cons _ t => .cons r t
  | _, _, i + 1, .cons q t => .cons q (t.set r i)
theorem Reps.reverse : ∀ {ds : List D} {vs : List V}, Reps K F H ds vs → Reps K F H ds.reverse vs.reverse
  | _, _, .nil => .nil
  | _, _, .cons r t => by rw [List.reverse_cons, List.reverse_cons]; exact t.reverse.append (.cons r .nil)
theorem Reps.erase : ∀ {ds : List D} {vs : List V} (i : Nat), Reps K F H ds vs → Reps K F H (ds.eraseIdx i) (vs.eraseIdx i)
  | _, _, _, .nil => .nil
  | _, _, 0, .cons _ t => t
  | _, _, i + 1, .cons q t => .cons q (t.erase i)
theorem Reps.dropLast {ds : List D} {vs : List V} (r : Reps K F H ds vs) : Reps K F H ds.dropLast vs.dropLast := by
  rw [List.dropLast_eq_take, List.dropLast_eq_take, ← r.length]; exact r.take _
theorem Reps.rep {n : Nat} {ds : List D} {vs : List V} (r : Reps K F H ds vs) : Reps K F H (List.replicate n ds).flatten (List.replicate n vs).flatten := by
  induction n with
  | zero => exact .nil
  | succ n ih => rw [List.replicate_succ, List.replicate_succ, List.flatten_cons, List.flatten_cons]; exact r.append ih
theorem Reps.ints : ∀ (ns : List Int), Reps K F H (ns.map .int) (ns.map V.int)
  | [] => .nil
  | n :: r => .cons (.int n) (Reps.ints r)
theorem reps_ints : ∀ {ds : List D} {ns : List Int} {vs : List V}, ints? ds = some ns → Reps K F H ds vs → vs = ns.map V.int
  | [], ns, _, h, .nil => by cases h; rfl
  | .int i :: r, ns, _, h, .cons q t => by
    unfold ints? at h
    cases e : ints? r with
    | none => rw [e] at h; cases h
    | some ms =>
      rw [e] at h
      cases h
      cases q
      rw [reps_ints e t, List.map_cons]
  | .none :: _, _, _, h, _ => by cases h
  | .bool _ :: _, _, _, h, _ => by cases h
  | .str _ :: _, _, _, h, _ => by cases h
  | .list _ :: _, _, _, h, _ => by cases h
  | .tuple _ :: _, _, _, h, _ => by cases h
  | .dict _ :: _, _, _, h, _ => by cases h
theorem reps_bools : ∀ {ds : List D} {ns : List Bool} {vs : List V}, bools? ds = some ns → Reps K F H ds vs → vs = ns.map V.bl
  | [], ns, _, h, .nil => by cases h; rfl
  | .bool i :: r, ns, _, h, .cons q t => by
    unfold bools? at h
    cases e : bools? r with
    | none => rw [e] at h; cases h
    | some ms =>
      rw [e] at h
      cases h
      cases q
      rw [reps_bools e t, List.map_cons]
  | .none :: _, _, _, h, _ => by cases h
  | .int _ :: _, _, _, h, _ => by cases h
  | .str _ :: _, _, _, h, _ => by cases h
  | .list _ :: _, _, _, h, _ => by cases h
  | .tuple _ :: _, _, _, h, _ => by cases h
  | .dict _ :: _, _, _, h, _ => by cases h
theorem ScrAt.sq {xs : List V} (h : ScrAt K H a xs) : SqL K H a xs := h.elim (fun ⟨o, h⟩ => .inl (.inr ⟨o, h⟩)) .inr
/-- a list's place -/
theorem Rep.list {ds : List D} {v : V} (r : Rep K F H (.list ds) v) : ∃ a vs, v = .ref a ∧ H a = some (.lst vs) ∧ Reps K F H ds vs := by
  cases r with
  | lst h f r => exact ⟨_, _, rfl, h, r⟩
theorem kD_ne (k : Key) : kD k ≠ .none := by cases k <;> exact fun z => nomatch z
theorem Rep.script {ds : List D} {v : V} (r : Rep K F H (scrD ds) v) : ∃ a vs, v = .ref a ∧ ScrAt K H a vs ∧ Reps K F H ds vs := by
  generalize e : scrD ds = d at r
  cases r with
  | scr h r =>
    injection e with e
    injection e with e _
    injection e with _ e
    injection e with e
    subst e
    exact ⟨_, _, rfl, h, r⟩
  | dk h f e' r =>
    rename_i hk kvs
    injection e with e
    cases kvs with
    | nil => cases e
    | cons p q =>
      injection e with e _
      injection e with e _
      exact absurd e.symm (kD_ne _)
  | _ => cases e
theorem Rep.tuple {ds : List D} {v : V} (r : Rep K F H (.tuple ds) v) : ∃ a vs, v = .ref a ∧ SqT K H a vs ∧ Reps K F H ds vs := by
  cases r with
  | tup h r => exact ⟨_, _, rfl, h, r⟩
mutual
theorem Rep.dp : ∀ {d : D} {v : V}, Rep K F H d v → d.canLay0 = true → Dp K H v d
  | _, _, .non, _ => .non
  | _, _, .bl b, _ => .bl b
  | _, _, .int i, _ => .int i
  | _, _, .str x, _ => .str x
  | _, _, .tup h r, c => .tup h (Reps.dp r (by simpa only [PyData.canLay0] using c))
  | _, _, .lst h f r, c => .lst (.inl (.inl h)) (Reps.dp r (by simpa only [PyData.canLay0] using c))
  | _, _, .scr _ _, c => absurd c (by simp [scrD, PyData.canLay0])
  | _, _, .dk _ _ _ _, c => absurd c (by simp [PyData.canLay0])
theorem Reps.dp : ∀ {ds : List D} {vs : List V}, Reps K F H ds vs → PyData.canLayAll0 ds = true → DpAll K H vs ds
  | _, _, .nil, _ => .nil
  | _, _, .cons h t, c => by
    simp only [PyData.canLayAll0, Bool.and_eq_true] at c
    exact .cons (Rep.dp h c.1) (Reps.dp t c.2)
end
end
end Pv

namespace Pv
open PySem PySem.Spec PyProof.Rows L2

/-! ### slots and the frame -/
structure ERel (K : PySem.W.Frag) (F Z : Addr → Prop) (H : Hp) (env : Env') (σ : L2.St) : Prop where
  len : env.length = σ.length
  fd : ∀ a, F a → H a ≠ none
  zd : ∀ a, Z a → H a ≠ none
  dj : ∀ a, F a → ¬ Z a
  val : ∀ (i : Nat) (d : D), env[i]? = some (.val d) → ∃ v, σ[i]? = some (some v) ∧ Rep K F H d v
  own : ∀ (i : Nat) (s : Sl) (m : Mo), env[i]? = some s → s.own = some m → ∃ a, σ[i]? = some (some (.ref a)) ∧ ¬ F a ∧ ¬ Z a ∧ MRep K F H a m
  sep : ∀ (i j : Nat) (s s' : Sl) (m m' : Mo) (a : Addr), env[i]? = some s → s.own = some m → env[j]? = some s' → s'.own = some m' → σ[i]? = some (some (.ref a)) → σ[j]? = some (some (.ref a)) → i = j
  brw : ∀ (i : Nat) (m : Mo), env[i]? = some (.brw m) → ∃ a, σ[i]? = some (some (.ref a)) ∧ Z a ∧ MRep K F H a m
/-- an address that no owner in the frame has -/
def Out (F Z : Addr → Prop) (env : Env') (σ : L2.St) (a : Addr) : Prop :=
  ¬ F a ∧ ¬ Z a ∧ ∀ (i : Nat) (s : Sl) (m : Mo), env[i]? = some s → s.own = some m → σ[i]? ≠ some (some (.ref a))
def RvRel (K : PySem.W.Frag) (F Z : Addr → Prop) (H : Hp) (env : Env') (σ : L2.St) : Rv → V → Prop
  | .val d, v => Rep K F H d v
  | .new m, v => ∃ a, v = .ref a ∧ Out F Z env σ a ∧ MRep K F H a m
/-- a value that is looked at: frozen, or lent -/
def RepB (K : PySem.W.Frag) (F Z : Addr → Prop) (H : Hp) (d : D) (v : V) : Prop :=
  Rep K F H d v ∨ ∃ a m, v = .ref a ∧ d = m.d ∧ Z a ∧ MRep K F H a m
inductive RepBs (K : PySem.W.Frag) (F Z : Addr → Prop) (H : Hp) : List D → List V → Prop
  | nil : RepBs K F Z H [] []
  | cons {d : D} {v : V} {ds : List D} {vs : List V} : RepB K F Z H d v → RepBs K F Z H ds vs → RepBs K F Z H (d :: ds) (v :: vs)

section
variable {K : PySem.W.Frag} {F F' Z Z' : Addr → Prop} {H H' : Hp} {env env' : Env'} {σ : L2.St} {a : Addr}
/-- one more frozen address -/
abbrev plus (F : Addr → Prop) (a : Addr) : Addr → Prop := fun b => F b ∨ b = a
theorem plus_sub {b : Addr} : F b → plus F a b := .inl
/-- the heap has grown -/
theorem ERel.same (r : ERel K F Z H env σ) (s : Same H H') : ERel K F Z H' env σ := by
  have st : Stay F H H' := .same s r.fd
  refine ⟨r.len, fun a f => st.dom a (r.fd a f), fun a z => st.dom a (r.zd a z), r.dj, fun i d e => ?_, fun i sl m e o => ?_, r.sep, fun i m e => ?_⟩
  · obtain ⟨v, h1, h2⟩ := r.val i d e
    exact ⟨v, h1, h2.stay st fun _ h => h⟩
  · obtain ⟨b, h1, h2, h3, h4⟩ := r.own i sl m e o
    obtain ⟨ob, e1, _⟩ := h4.hot
    exact ⟨b, h1, h2, h3, h4.stay st (fun _ h => h) ((s _ _ e1).trans e1.symm)⟩
  · obtain ⟨b, h1, h2, h4⟩ := r.brw i m e
    obtain ⟨ob, e1, _⟩ := h4.hot
    exact ⟨b, h1, h2, h4.stay st (fun _ h => h) ((s _ _ e1).trans e1.symm)⟩
/-- an address nobody owns is frozen -/
theorem ERel.freeze (r : ERel K F Z H env σ) (o : Out F Z env σ a) (hd : H a ≠ none) : ERel K (plus F a) Z H env σ := by
  refine ⟨r.len, fun b f => ?_, r.zd, fun b f z => ?_, fun i d e => ?_, fun i sl m e ho => ?_, r.sep, fun i m e => ?_⟩
  · rcases f with f | f
    · exact r.fd b f
    · rw [f]; exact hd
  · rcases f with f | f
    · exact r.dj b f z
    · rw [f] at z; exact o.2.1 z
  · obtain ⟨v, h1, h2⟩ := r.val i d e
    exact ⟨v, h1, h2.stay Stay.refl fun _ => .inl⟩
  · obtain ⟨b, h1, h2, h3, h4⟩ := r.own i sl m e ho
    refine ⟨b, h1, fun f => ?_, h3, h4.grow fun _ => .inl⟩
    rcases f with f | f
    · exact h2 f
    · rw [f] at h1; exact o.2.2 i sl m e ho h1
  · obtain ⟨b, h1, h2, h4⟩ := r.brw i m e
    exact ⟨b, h1, h2, h4.grow fun _ => .inl⟩
/-- .. is kept as it is -/
theorem ERel.hold (r : ERel K F Z H env σ) (o : Out F Z env σ a) (hd : H a ≠ none) : ERel K F (plus Z a) H env σ := by
  refine ⟨r.len, r.fd, fun b f => ?_, fun b f z => ?_, r.val, fun i sl m e ho => ?_, r.sep, fun i m e => ?_⟩
  · rcases f with f | f
    · exact r.zd b f
    · rw [f]; exact hd
  · rcases z with z | z
    · exact r.dj b f z
    · rw [z] at f; exact o.1 f
  · obtain ⟨b, h1, h2, h3, h4⟩ := r.own i sl m e ho
    refine ⟨b, h1, h2, fun f => ?_, h4⟩
    rcases f with f | f
    · exact h3 f
    · rw [f] at h1; exact o.2.2 i sl m e ho h1
  · obtain ⟨b, h1, h2, h4⟩ := r.brw i m e
    exact ⟨b, h1, .inl h2, h4⟩
/-- a new object -/
theorem ERel.out_new (r : ERel K F Z H env σ) (h : H a = none) : Out F Z env σ a := by
  refine ⟨fun f => r.fd a f h, fun z => r.zd a z h, fun i s m e ho z => ?_⟩
  obtain ⟨b, h1, h2, h3, h4⟩ := r.own i s m e ho
  rw [h1] at z
  cases z
  exact h4.dom h
theorem ERel.ix (r : ERel K F Z H env σ) {i : Nat} {s : Sl} (e : env[i]? = some s) : i < σ.length := by
  rw [← r.len]; exact (List.getElem?_eq_some_iff.mp e).1
theorem get_set {α : Type} {l : List α} {i j : Nat} {x y : α} (h : (l.set i x)[j]? = some y) : (j = i ∧ y = x) ∨ (j ≠ i ∧ l[j]? = some y) := by
  by_cases e : j = i
  · subst e
    rw [List.getElem?_set] at h
    by_cases hl : j < l.length
    · simp [hl] at h; exact .inl ⟨rfl, h.symm⟩
    · simp [hl] at h
  · rw [List.getElem?_set_ne (Ne.symm e)] at h; exact .inr ⟨e, h⟩
/-- an owner's slot is emptied: its object is nobody's -/
theorem ERel.take (r : ERel K F Z H env σ) {i : Nat} {s : Sl} {m : Mo} (e : env[i]? = some s) (ho : s.own = some m) {s' : Sl} (hn : s' = .no) :
    ∃ a, σ[i]? = some (some (.ref a)) ∧ MRep K F H a m ∧ Out F Z (env.set i s') σ a ∧ ERel K F Z H (env.set i s') σ := by
  subst hn
  obtain ⟨a, h1, h2, h3, h4⟩ := r.own i s m e ho
  refine ⟨a, h1, h4, ⟨h2, h3, fun j t n ej hj z => ?_⟩, ⟨by rw [List.length_set]; exact r.len, r.fd, r.zd, r.dj, fun j d ej => ?_, fun j t n ej hj => ?_, fun j k t t' n n' b ej hj ek hk z1 z2 => ?_, fun j n ej => ?_⟩⟩
  · rcases get_set ej with ⟨q, w⟩ | ⟨q, w⟩
    · subst w; cases hj
    · exact q (r.sep j i t s n m a w hj e ho z h1)
  · rcases get_set ej with ⟨q, w⟩ | ⟨q, w⟩
    · cases w
    · exact r.val j d w
  · rcases get_set ej with ⟨q, w⟩ | ⟨q, w⟩
    · subst w; cases hj
    · exact r.own j t n w hj
  · rcases get_set ej with ⟨q, w⟩ | ⟨q, w⟩
    · subst w; cases hj
    · rcases get_set ek with ⟨q', w'⟩ | ⟨q', w'⟩
      · subst w'; cases hk
      · exact r.sep j k t t' n n' b w hj w' hk z1 z2
  · rcases get_set ej with ⟨q, w⟩ | ⟨q, w⟩
    · cases w
    · exact r.brw j n w
/-- a slot that holds nothing, or a value, or an owner that is given up, gets a value (the frame stays) -/
theorem ERel.put_val (r : ERel K F Z H env σ) {i : Nat} {d : D} {v : V} (h : σ[i]? = some (some v)) (q : Rep K F H d v) : ERel K F Z H (env.set i (.val d)) σ := by
  refine ⟨by rw [List.length_set]; exact r.len, r.fd, r.zd, r.dj, fun j d' ej => ?_, fun j t n ej hj => ?_, fun j k t t' n n' b ej hj ek hk z1 z2 => ?_, fun j n ej => ?_⟩
  · rcases get_set ej with ⟨e1, w⟩ | ⟨_, w⟩
    · subst e1; cases w; exact ⟨v, h, q⟩
    · exact r.val j d' w
  · rcases get_set ej with ⟨_, w⟩ | ⟨_, w⟩
    · subst w; cases hj
    · exact r.own j t n w hj
  · rcases get_set ej with ⟨_, w⟩ | ⟨_, w⟩
    · subst w; cases hj
    · rcases get_set ek with ⟨_, w'⟩ | ⟨_, w'⟩
      · subst w'; cases hk
      · exact r.sep j k t t' n n' b w hj w' hk z1 z2
  · rcases get_set ej with ⟨_, w⟩ | ⟨_, w⟩
    · cases w
    · exact r.brw j n w
/-- .. an owner -/
theorem ERel.put_own (r : ERel K F Z H env σ) {i : Nat} {s : Sl} {m : Mo} (ho : s.own = some m) (h : σ[i]? = some (some (.ref a))) (o : Out F Z (env.set i .no) σ a) (q : MRep K F H a m) : ERel K F Z H (env.set i s) σ := by
  have no : ∀ (j : Nat) (t : Sl) (n : Mo), j ≠ i → env[j]? = some t → t.own = some n → σ[j]? ≠ some (some (.ref a)) := fun j t n ne e hn => o.2.2 j t n (by rw [List.getElem?_set_ne (Ne.symm ne)]; exact e) hn
  refine ⟨by rw [List.length_set]; exact r.len, r.fd, r.zd, r.dj, fun j d' ej => ?_, fun j t n ej hj => ?_, fun j k t t' n n' b ej hj ek hk z1 z2 => ?_, fun j n ej => ?_⟩
  · rcases get_set ej with ⟨_, w⟩ | ⟨_, w⟩
    · subst w; cases ho
    · exact r.val j d' w
  · rcases get_set ej with ⟨e1, w⟩ | ⟨_, w⟩
    · subst e1; subst w; rw [ho] at hj; cases hj; exact ⟨a, h, o.1, o.2.1, q⟩
    · exact r.own j t n w hj
  · rcases get_set ej with ⟨e1, w⟩ | ⟨e1, w⟩
    · rcases get_set ek with ⟨e2, w'⟩ | ⟨e2, w'⟩
      · exact e1.trans e2.symm
      · subst e1; rw [h] at z1; cases z1; exact absurd z2 (no k t' n' e2 w' hk)
    · rcases get_set ek with ⟨e2, w'⟩ | ⟨e2, w'⟩
      · subst e2; rw [h] at z2; cases z2; exact absurd z1 (no j t n e1 w hj)
      · exact r.sep j k t t' n n' b w hj w' hk z1 z2
  · rcases get_set ej with ⟨_, w⟩ | ⟨_, w⟩
    · subst w; cases ho
    · exact r.brw j n w
/-- an own slot is lent to be looked at -/
theorem ERel.lend (r : ERel K F Z H env σ) {i : Nat} {s : Sl} {m : Mo} (e : env[i]? = some s) (ho : s.own = some m) :
    ∃ a, σ[i]? = some (some (.ref a)) ∧ MRep K F H a m ∧ ERel K F (plus Z a) H (env.set i (.brw m)) σ := by
  obtain ⟨a, h1, h4, o, r1⟩ := r.take e ho rfl
  have r2 := r1.hold o h4.dom
  have r3 : ERel K F (plus Z a) H (env.set i (.brw m)) σ := by
    refine ⟨by rw [List.length_set]; exact r.len, r2.fd, r2.zd, r2.dj, fun j d' ej => ?_, fun j t n ej hj => ?_, fun j k t t' n n' b ej hj ek hk z1 z2 => ?_, fun j n ej => ?_⟩
    · rcases get_set ej with ⟨_, w⟩ | ⟨ne, w⟩
      · cases w
      · exact r2.val j d' (by rw [List.getElem?_set_ne (Ne.symm ne)]; exact w)
    · rcases get_set ej with ⟨_, w⟩ | ⟨ne, w⟩
      · subst w; cases hj
      · exact r2.own j t n (by rw [List.getElem?_set_ne (Ne.symm ne)]; exact w) hj
    · rcases get_set ej with ⟨_, w⟩ | ⟨_, w⟩
      · subst w; cases hj
      · rcases get_set ek with ⟨_, w'⟩ | ⟨_, w'⟩
        · subst w'; cases hk
        · exact r.sep j k t t' n n' b w hj w' hk z1 z2
    · rcases get_set ej with ⟨e1, w⟩ | ⟨ne, w⟩
      · subst e1; cases w; exact ⟨a, h1, .inr rfl, h4⟩
      · exact r2.brw j n (by rw [List.getElem?_set_ne (Ne.symm ne)]; exact w)
  exact ⟨a, h1, h4, r3⟩
/-- an owner's object is written -/
theorem ERel.write (r : ERel K F Z H env σ) {i : Nat} {s s' : Sl} {m m' : Mo} {o : HO} (e : env[i]? = some s) (ho : s.own = some m) (ho' : s'.own = some m') (ha : σ[i]? = some (some (.ref a))) (hm : MRep K F (upd H a o) a m') :
    Stay (fun a => F a ∨ Z a) H (upd H a o) ∧ ERel K F Z (upd H a o) (env.set i s') σ := by
  obtain ⟨b, h1, h2, h3, h4⟩ := r.own i s m e ho
  rw [ha] at h1; cases h1
  obtain ⟨ob, hob, nt, nz⟩ := h4.hot
  have st : Stay (fun a => F a ∨ Z a) H (upd H a o) := .upd hob nt nz fun z => z.elim h2 h3
  have sF : Stay F H (upd H a o) := st.mono fun _ => .inl
  refine ⟨st, by rw [List.length_set]; exact r.len, fun b f => st.dom b (r.fd b f), fun b z => st.dom b (r.zd b z), r.dj, fun j d ej => ?_, fun j t n ej hj => ?_, fun j k t t' n n' b ej hj ek hk z1 z2 => ?_, fun j n ej => ?_⟩
  · rcases get_set ej with ⟨_, w⟩ | ⟨_, w⟩
    · subst w; cases ho'
    · obtain ⟨v, q1, q2⟩ := r.val j d w
      exact ⟨v, q1, q2.stay sF fun _ h => h⟩
  · rcases get_set ej with ⟨e1, w⟩ | ⟨e1, w⟩
    · subst e1; subst w; rw [ho'] at hj; cases hj; exact ⟨a, ha, h2, h3, hm⟩
    · obtain ⟨b, q1, q2, q3, q4⟩ := r.own j t n w hj
      refine ⟨b, q1, q2, q3, q4.stay sF (fun _ h => h) (upd_ne fun z => ?_)⟩
      subst z
      exact e1 (r.sep j i t s n m b w hj e ho q1 ha)
  · have back : ∀ (l : Nat) (x : Sl) (y : Mo), (env.set i s')[l]? = some x → x.own = some y → ∃ x' y', env[l]? = some x' ∧ x'.own = some y' := fun l x y el hl => by
      rcases get_set el with ⟨e1, w⟩ | ⟨_, w⟩
      · subst e1; exact ⟨s, m, e, ho⟩
      · exact ⟨x, y, w, hl⟩
    obtain ⟨x, y, q1, q2⟩ := back j t n ej hj
    obtain ⟨x', y', q1', q2'⟩ := back k t' n' ek hk
    exact r.sep j k x x' y y' b q1 q2 q1' q2' z1 z2
  · rcases get_set ej with ⟨_, w⟩ | ⟨_, w⟩
    · subst w; cases ho'
    · obtain ⟨b, q1, q2, q3⟩ := r.brw j n w
      exact ⟨b, q1, q2, q3.stay sF (fun _ h => h) (upd_ne fun z => h3 (z ▸ q2))⟩
theorem put_own {s : Sl} {m m' : Mo} (h : s.own = some m) : (s.put m').own = some m' := by cases s <;> first | rfl | cases h
theorem unb_length : ∀ (a b : Env'), (unb a b).length = b.length
  | [], [] => rfl
  | [], _ :: _ => rfl
  | _ :: _, [] => rfl
  | _ :: r, _ :: s => congrArg (· + 1) (unb_length r s)
theorem unb_get : ∀ (a b : Env') (i : Nat), (unb a b)[i]? = (match a[i]?, b[i]? with | some x, some y => some (unb1 x y) | none, y => y | some _, none => none)
  | [], [], i => by simp [unb]
  | [], _ :: _, i => by simp [unb]
  | _ :: r, [], i => by simp [unb]; split <;> simp_all
  | x :: r, y :: s, 0 => by simp [unb]
  | x :: r, y :: s, i + 1 => by simpa [unb] using unb_get r s i
/-- what was lent is given back -/
theorem ERel.back {Z0 : Addr → Prop} {F0 : Addr → Prop} {H0 : Hp} (r0 : ERel K F0 Z0 H0 env σ) (r : ERel K F Z H env' σ) (hz : ∀ a, Z0 a → Z a) : ERel K F Z0 H (unb env env') σ := by
  have le : env.length = env'.length := r0.len.trans r.len.symm
  have g : ∀ (i : Nat) (s : Sl), (unb env env')[i]? = some s → ∃ x y, env[i]? = some x ∧ env'[i]? = some y ∧ s = unb1 x y := fun i s e => by
    rw [unb_get] at e
    have hl : (unb env env').length = env'.length := unb_length _ _
    cases h1 : env[i]? with
    | none =>
      rw [h1] at e
      have : env'[i]? = none := by rw [List.getElem?_eq_none_iff, ← le]; exact List.getElem?_eq_none_iff.mp h1
      rw [this] at e; cases e
    | some x =>
      cases h2 : env'[i]? with
      | none => rw [h1, h2] at e; cases e
      | some y => rw [h1, h2] at e; exact ⟨x, y, rfl, rfl, (Option.some.inj e).symm⟩
  -- an owner behind it: either it was one, or it was lent
  have ow : ∀ (i : Nat) (s : Sl) (m : Mo), (unb env env')[i]? = some s → s.own = some m → (∃ t, env'[i]? = some t ∧ t.own = some m) ∨ (env'[i]? = some (.brw m) ∧ ∃ x m0, env[i]? = some x ∧ x.own = some m0) := fun i s m e ho => by
    obtain ⟨x, y, e1, e2, e3⟩ := g i s e
    subst e3
    cases y with
    | no => cases x <;> cases ho
    | val d => cases x <;> cases ho
    | loc n => exact .inl ⟨_, e2, by cases x <;> exact ho⟩
    | io n => exact .inl ⟨_, e2, by cases x <;> exact ho⟩
    | brw n =>
      cases x with
      | no => cases ho
      | val d => cases ho
      | brw d => cases ho
      | loc d => cases ho; exact .inr ⟨e2, _, _, e1, rfl⟩
      | io d => cases ho; exact .inr ⟨e2, _, _, e1, rfl⟩
  refine ⟨by rw [unb_length]; exact r.len, r.fd, fun a z => r.zd a (hz a z), fun a f z => r.dj a f (hz a z), fun i d e => ?_, fun i s m e ho => ?_, fun i j s s' m m' b e ho e' ho' z1 z2 => ?_, fun i m e => ?_⟩
  · obtain ⟨x, y, e1, e2, e3⟩ := g i _ e
    cases y with
    | val d' => cases x <;> (cases e3; exact r.val i d e2)
    | no => cases x <;> cases e3
    | loc n => cases x <;> cases e3
    | io n => cases x <;> cases e3
    | brw n => cases x <;> cases e3
  · rcases ow i s m e ho with ⟨t, e2, h2⟩ | ⟨e2, x, m0, e1, hx⟩
    · obtain ⟨b, h1, h2, h3, h4⟩ := r.own i t m e2 h2
      exact ⟨b, h1, h2, fun z => h3 (hz _ z), h4⟩
    · obtain ⟨b, h1, h2, h3⟩ := r.brw i m e2
      obtain ⟨c, k1, k2, k3, k4⟩ := r0.own i x m0 e1 hx
      rw [h1] at k1; cases k1
      exact ⟨b, h1, fun f => r.dj b f h2, k3, h3⟩
  · rcases ow i s m e ho with ⟨t, e2, h2⟩ | ⟨e2, x, m0, e1, hx⟩
    · rcases ow j s' m' e' ho' with ⟨t', e2', h2'⟩ | ⟨e2', x', m0', e1', hx'⟩
      · exact r.sep i j t t' m m' b e2 h2 e2' h2' z1 z2
      · obtain ⟨c, h1, h3, h4, _⟩ := r.own i t m e2 h2
        obtain ⟨c', h1', h3', _⟩ := r.brw j m' e2'
        rw [z1] at h1; cases h1
        rw [z2] at h1'; cases h1'
        exact absurd h3' h4
    · rcases ow j s' m' e' ho' with ⟨t', e2', h2'⟩ | ⟨e2', x', m0', e1', hx'⟩
      · obtain ⟨c, h1, h3, h4, _⟩ := r.own j t' m' e2' h2'
        obtain ⟨c', h1', h3', _⟩ := r.brw i m e2
        rw [z2] at h1; cases h1
        rw [z1] at h1'; cases h1'
        exact absurd h3' h4
      · exact r0.sep i j x x' m0 m0' b e1 hx e1' hx' z1 z2
  · obtain ⟨x, y, e1, e2, e3⟩ := g i _ e
    cases y with
    | brw n =>
      cases x with
      | brw n0 =>
        cases e3
        obtain ⟨b, h1, h2, h3⟩ := r.brw i m e2
        obtain ⟨c, k1, k2, k3⟩ := r0.brw i n0 e1
        rw [h1] at k1; cases k1
        exact ⟨b, h1, k2, h3⟩
      | no => cases e3
      | val _ => cases e3
      | loc _ => cases e3
      | io _ => cases e3
    | no => cases x <;> cases e3
    | val d' => cases x <;> cases e3
    | loc n => cases x <;> cases e3
    | io n => cases x <;> cases e3
/-- an owner behind the giving back was one ahead of it, or stands in Z -/
theorem Out.back {Z0 : Addr → Prop} {F0 : Addr → Prop} {H0 : Hp} (r0 : ERel K F0 Z0 H0 env σ) (r : ERel K F Z H env' σ) (hz : ∀ a, Z0 a → Z a) (o : Out F Z env' σ a) : Out F Z0 (unb env env') σ a := by
  refine ⟨o.1, fun z => o.2.1 (hz _ z), fun i s m e ho z => ?_⟩
  rw [unb_get] at e
  cases h1 : env[i]? with
  | none =>
    rw [h1] at e
    exact o.2.2 i s m e ho z
  | some x =>
    cases h2 : env'[i]? with
    | none => rw [h1, h2] at e; cases e
    | some y =>
      rw [h1, h2] at e
      cases e
      cases y with
      | no => cases x <;> cases ho
      | val d => cases x <;> cases ho
      | loc n => exact o.2.2 i _ m h2 (by cases x <;> exact ho) z
      | io n => exact o.2.2 i _ m h2 (by cases x <;> exact ho) z
      | brw n =>
        obtain ⟨b, k1, k2, k3⟩ := r.brw i n h2
        rw [k1] at z; cases z
        exact o.2.1 k2
theorem RepB.stay {d : D} {v : V} (h : RepB K F Z H d v) (s : Stay (fun a => F a ∨ Z a) H H') (hF : ∀ a, F a → F' a) (hZ : ∀ a, Z a → Z' a) : RepB K F' Z' H' d v := by
  have sF : Stay F H H' := s.mono fun _ => .inl
  rcases h with h | ⟨a, m, e1, e2, z, h⟩
  · exact .inl (h.stay sF hF)
  · exact .inr ⟨a, m, e1, e2, hZ a z, h.stay sF hF (s.kp a (.inr z))⟩
theorem RepBs.stay (s : Stay (fun a => F a ∨ Z a) H H') (hF : ∀ a, F a → F' a) (hZ : ∀ a, Z a → Z' a) : ∀ {ds : List D} {vs : List V}, RepBs K F Z H ds vs → RepBs K F' Z' H' ds vs
  | _, _, .nil => .nil
  | _, _, .cons h t => .cons (h.stay s hF hZ) (RepBs.stay s hF hZ t)
theorem RepBs.length : ∀ {ds : List D} {vs : List V}, RepBs K F Z H ds vs → ds.length = vs.length
  | _, _, .nil => rfl
  | _, _, .cons _ t => congrArg (· + 1) t.length
end
end Pv

namespace Pv
open PySem PySem.Spec PyProof.Rows L2

/-! ### operations over the heap -/
/-- what an operation gives -/
def RO (K : PySem.W.Frag) (F : Addr → Prop) (H H' : Hp) : Rv → V → Prop
  | .val d, v => Rep K F H' d v
  | .new m, v => ∃ p, v = .ref p ∧ H p = none ∧ MRep K F H' p m
/-- a reading by values does what op1, op2, op3 say -/
def RS1 (K : PySem.W.Frag) (o : Op) (r : V → Hp → VK → Prop) : Prop :=
  ∀ (F Z : Addr → Prop) (H : Hp) (d : D) (v : V) (rv : Rv) (Q : VK), (∀ a, F a → H a ≠ none) → RepB K F Z H d v → op1 o d = some rv → (∀ v H', Same H H' → RO K F H H' rv v → Q v H') → r v H Q
def RS2 (K : PySem.W.Frag) (o : Op) (r : R2) : Prop :=
  ∀ (F Z : Addr → Prop) (H : Hp) (d e : D) (x y : V) (rv : Rv) (Q : VK), (∀ a, F a → H a ≠ none) → RepB K F Z H d x → RepB K F Z H e y → op2 o d e = some rv → (∀ v H', Same H H' → RO K F H H' rv v → Q v H') → r x y H Q
def RS3 (K : PySem.W.Frag) (o : Op) (r : V → V → V → Hp → VK → Prop) : Prop :=
  ∀ (F Z : Addr → Prop) (H : Hp) (d e f : D) (x y z : V) (rv : Rv) (Q : VK), (∀ a, F a → H a ≠ none) → RepB K F Z H d x → RepB K F Z H e y → RepB K F Z H f z → op3 o d e f = some rv → (∀ v H', Same H H' → RO K F H H' rv v → Q v H') → r x y z H Q
section
variable {K : PySem.W.Frag} {F Z : Addr → Prop} {H : Hp} {v : V}
theorem same_upd {H : Hp} {p : Addr} {o : HO} (h : H p = none) : Same H (upd H p o) := fun b x e => by
  rw [upd_ne (ne_of_none e h)]
  exact e
theorem RepB.list {ds : List D} (r : RepB K F Z H (.list ds) v) : ∃ a vs, v = .ref a ∧ H a = some (.lst vs) ∧ Reps K F H ds vs := by
  rcases r with r | ⟨a, m, e1, e2, _, h⟩
  · exact r.list
  · cases m with
    | lst es => cases e2; obtain ⟨vs, h1, h2⟩ := h; exact ⟨a, vs, e1, h1, h2⟩
    | dk _ => cases e2
theorem md_not {m : Mo} {d : D} (e : d = m.d) (h : ∀ ds, d ≠ .list ds) (h2 : ∀ ds, d ≠ .dict ds) : False := by
  cases m with
  | lst ds => exact h _ e
  | dk _ => exact h2 _ e
theorem RepB.tuple {ds : List D} (r : RepB K F Z H (.tuple ds) v) : ∃ a vs, v = .ref a ∧ SqT K H a vs ∧ Reps K F H ds vs := by
  rcases r with r | ⟨a, m, e1, e2, _, h⟩
  · exact r.tuple
  · exact (md_not e2 (fun _ z => nomatch z) (fun _ z => nomatch z)).elim
theorem RepB.int {i : Int} (r : RepB K F Z H (.int i) v) : v = .int i := by
  rcases r with r | ⟨a, m, e1, e2, _, h⟩
  · cases r; rfl
  · exact (md_not e2 (fun _ z => nomatch z) (fun _ z => nomatch z)).elim
theorem RepB.bool {i : Bool} (r : RepB K F Z H (.bool i) v) : v = .bl i := by
  rcases r with r | ⟨a, m, e1, e2, _, h⟩
  · cases r; rfl
  · exact (md_not e2 (fun _ z => nomatch z) (fun _ z => nomatch z)).elim
theorem RepB.str {i : Str} (r : RepB K F Z H (.str i) v) : v = .str i := by
  rcases r with r | ⟨a, m, e1, e2, _, h⟩
  · cases r; rfl
  · exact (md_not e2 (fun _ z => nomatch z) (fun _ z => nomatch z)).elim
theorem RepB.none (r : RepB K F Z H .none v) : v = .non := by
  rcases r with r | ⟨a, m, e1, e2, _, h⟩
  · cases r; rfl
  · exact (md_not e2 (fun _ z => nomatch z) (fun _ z => nomatch z)).elim
theorem RepB.script {ds : List D} (r : RepB K F Z H (scrD ds) v) : ∃ a vs, v = .ref a ∧ ScrAt K H a vs ∧ Reps K F H ds vs := by
  rcases r with r | ⟨a, m, e1, e2, _, h⟩
  · exact r.script
  · cases m with
    | lst ds => cases e2
    | dk kvs =>
      injection e2 with e
      cases kvs with
      | nil => cases e
      | cons p q =>
        injection e with e _
        injection e with e _
        exact absurd e.symm (kD_ne _)
theorem keysI_is : ∀ {kvs : List (Key × D)} {ks : List Int}, keysI? (kvs.map fun p => (kD p.1, p.2)) = some ks → kvs.map (·.1) = ks.map Sum.inl
  | [], ks, h => by cases h; rfl
  | (.inl i, d) :: r, ks, h => by
    obtain ⟨t, h1, h2⟩ := Option.map_eq_some_iff.mp (show (keysI? (r.map fun p => (kD p.1, p.2))).map (i :: ·) = some ks from h)
    subst h2
    rw [List.map_cons, List.map_cons, keysI_is h1]
  | (.inr i, d) :: r, ks, h => by cases h
theorem RepB.dictI {kvs : List (D × D)} {ks : List Int} (r : RepB K F Z H (.dict kvs) v) (h : keysI? kvs = some ks) : ∃ a hk, v = .ref a ∧ H a = some (.dK hk) ∧ hk.map (·.1) = ks.map Sum.inl := by
  rcases r with r | ⟨a, m, e1, e2, _, hm⟩
  · cases r with
    | scr h1 h2 => cases h
    | dk h1 f h2 h3 => exact ⟨_, _, rfl, h1, h2.trans (keysI_is h)⟩
  · cases m with
    | lst ds => cases e2
    | dk es =>
      obtain ⟨hk, h1, h2, h3⟩ := hm
      cases e2
      exact ⟨a, hk, e1, h1, h2.trans (keysI_is h)⟩
theorem RepB.dp {d : D} (r : RepB K F Z H d v) (c : d.canLay0 = true) : Dp K H v d := by
  rcases r with r | ⟨a, m, e1, e2, _, h⟩
  · exact r.dp c
  · cases m with
    | lst es =>
      subst e1; subst e2
      obtain ⟨vs, h1, h2⟩ := h
      exact .lst (.inl (.inl h1)) (h2.dp (by simpa only [Mo.d, PyData.canLay0] using c))
    | dk _ => subst e2; simp [Mo.d, PyData.canLay0] at c
theorem repBs1 {d : D} {vs : List V} (r : RepBs K F Z H [d] vs) : ∃ v, vs = [v] ∧ RepB K F Z H d v := by
  cases r with
  | cons h t => cases t; exact ⟨_, rfl, h⟩
theorem repBs2 {d e : D} {vs : List V} (r : RepBs K F Z H [d, e] vs) : ∃ v w, vs = [v, w] ∧ RepB K F Z H d v ∧ RepB K F Z H e w := by
  cases r with
  | cons h t =>
    obtain ⟨w, e, q⟩ := repBs1 t
    exact ⟨_, w, by rw [e], h, q⟩
theorem repBs3 {d e f : D} {vs : List V} (r : RepBs K F Z H [d, e, f] vs) : ∃ v w x, vs = [v, w, x] ∧ RepB K F Z H d v ∧ RepB K F Z H e w ∧ RepB K F Z H f x := by
  cases r with
  | cons h t =>
    obtain ⟨w, x, e, q, q'⟩ := repBs2 t
    exact ⟨_, w, x, by rw [e], h, q, q'⟩
/-- a value that leaves the heap -/
theorem ro_val {Q : VK} {d : D} (q : ∀ v H', Same H H' → RO K F H H' (.val d) v → Q v H') (h : Rep K F H d v) : Q v H := q v H (Same.refl H) h
theorem ro_lst {Q : VK} {ds : List D} {vs : List V} (q : ∀ v H', Same H H' → RO K F H H' (.new (.lst ds)) v → Q v H') (hF : ∀ a, F a → H a ≠ none) (h : Reps K F H ds vs) {p : Addr} (np : H p = none) : Q (.ref p) (upd H p (.lst vs)) :=
  q _ _ (same_upd np) ⟨p, rfl, np, vs, upd_same, h.stay (.same (same_upd np) hF) fun _ x => x⟩
theorem ro_tup {Q : VK} {ds : List D} {vs : List V} (q : ∀ v H', Same H H' → RO K F H H' (.val (.tuple ds)) v → Q v H') (hF : ∀ a, F a → H a ≠ none) (h : Reps K F H ds vs) {p : Addr} (np : H p = none) : Q (.ref p) (upd H p (.tup vs)) :=
  q _ _ (same_upd np) (.tup (.inl (.inl upd_same)) (h.stay (.same (same_upd np) hF) fun _ x => x))
end

/-! #### sums, products, .. -/
section
variable {X : Cx}
def rMulB : R2 := rI (fun i j => IntMulOk i j) fun i j => .int (i * j)
theorem or_mul : OpR X (binaryOp .Mult) rMulB := opI fun _ _ _ _ _ _ _ hc q => mul_int q hc
theorem mul_ok {i j : Int} (h : bitsOk i = true) (h' : bitsOk j = true) : IntMulOk i j := by
  have b : ∀ x : Int, Builtin.Int.intBits x ≤ x.natAbs.log2 + 1 := fun x => by
    unfold Builtin.Int.intBits
    split <;> omega
  have h1 := b i
  have h2 := b j
  unfold bitsOk at h h'
  have h3 := of_decide_eq_true h
  have h4 := of_decide_eq_true h'
  refine CMulX.ok ?_
  unfold CMulX
  omega
def rDivB : R2 := rI (fun _ j => j ≠ 0 ∧ j.natAbs.log2 < 9000) fun i j => .int (i.fdiv j)
theorem or_fdiv : OpR X (binaryOp .FloorDiv) rDivB := opI fun _ _ _ _ _ _ _ hc q => floordiv_int hc.1 q (.inl (PyProof.noPylong_of_log2 hc.2))
abbrev rAdd4 (K : PySem.W.Frag) : R2 := fun x y H Q => rI0 (fun i j => .int (i + j)) x y H Q ∨ (∃ i j, x = .str i ∧ y = .str j ∧ i.length + j.length ≤ sizeLine ∧ Q (.str (i ++ j)) H) ∨ rCat x y H Q ∨ rCatA K x y H Q
theorem or_add : OpR X (binaryOp .Add) (rAdd4 X.K) := op_add.or (op_add_str.or (op_cat.or op_catA))
theorem rs_add {K : PySem.W.Frag} : RS2 K .add (rAdd4 K) := by
  intro F Z H d e x y rv Q hF rx ry h q
  have h : addf d e = some rv := h
  unfold addf at h
  split at h
  · cases h; cases rx.int; cases ry.int
    exact .inl ⟨_, _, rfl, rfl, ro_val q (.int _)⟩
  · split at h
    · rename_i hz
      cases h; cases rx.str; cases ry.str
      exact .inr (.inl ⟨_, _, rfl, rfl, hz, ro_val q (.str _)⟩)
    · cases h
  · split at h
    · rename_i hz
      cases h
      obtain ⟨a, xs, rfl, hx, rx⟩ := rx.list
      obtain ⟨b, ys, rfl, hy, ry⟩ := ry.list
      exact .inr (.inr (.inl ⟨a, b, xs, ys, rfl, rfl, hx, hy, by rw [← rx.length, ← ry.length]; exact hz, fun p np => ro_lst q hF (rx.append ry) np⟩))
    · cases h
  · split at h
    · rename_i hz
      cases h
      obtain ⟨a, xs, rfl, hx, rx⟩ := rx.tuple
      obtain ⟨b, ys, rfl, hy, ry⟩ := ry.tuple
      refine .inr (.inr (.inr ⟨a, b, xs, ys, rfl, rfl, hx, hy, by rw [← rx.length, ← ry.length]; exact hz, fun e => ?_, fun _ e => ?_, fun _ _ p np => ro_tup q hF (rx.append ry) np⟩))
      · refine ro_val q (.tup hy ?_)
        have e1 := rx.length
        rw [e, List.length_nil] at e1
        rw [List.eq_nil_of_length_eq_zero e1]
        exact ry
      · refine ro_val q (.tup hx ?_)
        have e1 := ry.length
        rw [e, List.length_nil] at e1
        rw [List.eq_nil_of_length_eq_zero e1, List.append_nil]
        exact rx
    · cases h
  · cases h
theorem rs_sub {K : PySem.W.Frag} : RS2 K .sub (rI0 fun i j => .int (i - j)) := by
  intro F Z H d e x y rv Q hF rx ry h q
  have h : subf d e = some rv := h
  unfold subf at h
  split at h
  · cases h; cases rx.int; cases ry.int
    exact ⟨_, _, rfl, rfl, ro_val q (.int _)⟩
  · cases h
theorem rs_xor {K : PySem.W.Frag} : RS2 K .xor (rI0 fun i j => .int (Builtin.bitXor i j)) := by
  intro F Z H d e x y rv Q hF rx ry h q
  have h : xorf d e = some rv := h
  unfold xorf at h
  split at h
  · cases h; cases rx.int; cases ry.int
    exact ⟨_, _, rfl, rfl, ro_val q (.int _)⟩
  · cases h
abbrev rMul2 (K : PySem.W.Frag) : R2 := fun x y H Q => rMulB x y H Q ∨ rRep x y H Q ∨ rRepT K x y H Q ∨ rRepT1 K x y H Q ∨ rRepT0 K x y H Q
theorem or_mul2 : OpR X (binaryOp .Mult) (rMul2 X.K) := or_mul.or (op_rep.or (op_repT.or (op_repT1.or op_repT0)))
theorem rs_mul {K : PySem.W.Frag} : RS2 K .mul (rMul2 K) := by
  intro F Z H d e x y rv Q hF rx ry h q
  have h : mulf d e = some rv := h
  unfold mulf at h
  split at h
  · split at h
    · rename_i hz
      cases h; cases rx.int; cases ry.int
      exact .inl ⟨_, _, rfl, rfl, mul_ok hz.1 hz.2, ro_val q (.int _)⟩
    · cases h
  · split at h
    · rename_i hz
      cases h; cases ry.int
      obtain ⟨a, xs, rfl, hx, rx⟩ := rx.list
      exact .inr (.inl ⟨a, _, xs, rfl, rfl, hx, by omega, by omega, by rw [← rx.length]; exact hz.1, fun p np => ro_lst q hF rx.rep np⟩)
    · cases h
  · split at h
    · rename_i hz
      cases h; cases ry.int
      obtain ⟨a, xs, rfl, hx, rx⟩ := rx.tuple
      have hlen := rx.length
      have hz1 := hz.1
      have hz2 := hz.2.1
      have hz3 := hz.2.2
      rename_i ds j _
      by_cases c1 : xs = [] ∨ j = 1
      · refine .inr (.inr (.inr (.inl ⟨a, _, xs, rfl, rfl, hx, c1, hz1, by omega, ro_val q ?_⟩)))
        have e : (List.replicate j.toNat ds).flatten = ds := by
          rcases c1 with e | e
          · rw [e] at hlen
            rw [List.eq_nil_of_length_eq_zero hlen, List.flatten_replicate_nil]
          · subst e; simp
        rw [e]
        exact .tup hx rx
      · have c2 : xs ≠ [] ∧ j ≠ 1 := ⟨fun z => c1 (.inl z), fun z => c1 (.inr z)⟩
        by_cases c3 : j ≤ 0
        · refine .inr (.inr (.inr (.inr ⟨a, _, xs, rfl, rfl, hx, c2.1, c3, hz1, fun p np => ?_⟩)))
          have e : (List.replicate j.toNat ds).flatten = [] := by rw [show j.toNat = 0 by omega]; rfl
          rw [e] at q
          exact ro_tup q hF .nil np
        · exact .inr (.inr (.inl ⟨a, _, xs, rfl, rfl, hx, c2.1, by have := c2.2; omega, hz2, by rw [← hlen]; exact hz3, fun p np => ro_tup q hF rx.rep np⟩))
    · cases h
  · cases h
theorem rs_fdiv {K : PySem.W.Frag} : RS2 K .fdiv rDivB := by
  intro F Z H d e x y rv Q hF rx ry h q
  have h : fdivf d e = some rv := h
  unfold fdivf at h
  split at h
  · split at h
    · rename_i hz
      cases h; cases rx.int; cases ry.int
      exact ⟨_, _, rfl, rfl, hz, ro_val q (.int _)⟩
    · cases h
  · cases h
theorem rs_mod {K : PySem.W.Frag} : RS2 K .mod (rI (fun _ j => j ≠ 0) fun i j => .int (i.fmod j)) := by
  intro F Z H d e x y rv Q hF rx ry h q
  have h : modf d e = some rv := h
  unfold modf at h
  split at h
  · split at h
    · rename_i hz
      cases h; cases rx.int; cases ry.int
      exact ⟨_, _, rfl, rfl, hz, ro_val q (.int _)⟩
    · cases h
  · cases h
theorem rs_pow {K : PySem.W.Frag} : RS2 K .pow (rI CPow fun i j => .int (i ^ j.toNat)) := by
  intro F Z H d e x y rv Q hF rx ry h q
  have h : powf d e = some rv := h
  unfold powf at h
  split at h
  · split at h
    · rename_i hz
      cases h; cases rx.int; cases ry.int
      exact ⟨_, _, rfl, rfl, hz, ro_val q (.int _)⟩
    · cases h
  · cases h
/-! #### comparisons -/
theorem shaped_lay {d : D} (h : SeqAt.shaped d = true) : d.canLay0 = true := SeqAt.canLay_of_shaped h
theorem rs_eq {K : PySem.W.Frag} : RS2 K .eq (rEqD K) := by
  intro F Z H d e x y rv Q hF rx ry h q
  have h : eqf false d e = some rv := h
  unfold eqf at h
  split at h
  · rename_i hz
    cases h
    exact ⟨d, e, rx.dp (shaped_lay hz.1), ry.dp (shaped_lay hz.2), hz.1, hz.2, ro_val q (.bl _)⟩
  · cases h
theorem rs_ne {K : PySem.W.Frag} : RS2 K .ne (rNeD K) := by
  intro F Z H d e x y rv Q hF rx ry h q
  have h : eqf true d e = some rv := h
  unfold eqf at h
  split at h
  · rename_i hz
    cases h
    exact ⟨d, e, rx.dp (shaped_lay hz.1), ry.dp (shaped_lay hz.2), hz.1, hz.2, ro_val q (.bl _)⟩
  · cases h
theorem isNone_v {K : PySem.W.Frag} {F Z : Addr → Prop} {H : Hp} {d : D} {x : V} (r : RepB K F Z H d x) : decide (x = .non) = isNone d := by
  rcases r with r | ⟨a, m, e1, e2, _, _⟩
  · cases r <;> rfl
  · subst e1
    cases m <;> (subst e2; rfl)
abbrev rIs2 : R2 := fun x y H Q => (y = .non ∧ Q (.bl (decide (x = .non))) H) ∨ rIsB x y H Q
theorem rs_isN {K : PySem.W.Frag} : RS2 K .isN rIs2 := by
  intro F Z H d e x y rv Q hF rx ry h q
  have h : isNf false d e = some rv := h
  unfold isNf at h
  split at h
  · cases h; cases ry.none
    exact .inl ⟨rfl, by rw [isNone_v rx]; exact ro_val q (.bl _)⟩
  · cases h; cases rx.bool; cases ry.bool
    exact .inr ⟨_, _, rfl, rfl, ro_val q (.bl _)⟩
  · cases h
theorem rs_notN {K : PySem.W.Frag} : RS2 K .notN (fun x y H Q => (y = .non ∧ Q (.bl (!decide (x = .non))) H) ∨ ∃ a b, x = .bl a ∧ y = .bl b ∧ Q (.bl (!decide (a = b))) H) := by
  intro F Z H d e x y rv Q hF rx ry h q
  have h : isNf true d e = some rv := h
  unfold isNf at h
  split at h
  · cases h; cases ry.none
    exact .inl ⟨rfl, by rw [isNone_v rx]; exact ro_val q (.bl _)⟩
  · cases h; cases rx.bool; cases ry.bool
    exact .inr ⟨_, _, rfl, rfl, ro_val q (.bl _)⟩
  · cases h
/-- in, not in: of a tuple -/
def rInTD (K : PySem.W.Frag) (neg : Bool) : R2 := fun x y H Q => ∃ d ds, Dp K H x d ∧ Dp K H y (.tuple ds) ∧ SeqAt.shaped d = true ∧ SeqAt.shaped (.list ds) = true ∧ Q (.bl (if neg then !ds.any fun z => PyData.eqv z d else ds.any fun z => PyData.eqv z d)) H
theorem canLay_tup {ds : List D} (h : SeqAt.shaped (.list ds) = true) : PyData.canLayAll0 ds = true := SeqAt.canLay_of_shaped h
theorem room_tup {A : Around} {d : D} {n : Nat} (h : SeqAt.shaped d = true) (hu : A.units + 65 < cLine) : A.units + 1 + min n d.depth < cLine := by
  have h1 := SeqAt.depth_of_shaped h
  have h2 : min n d.depth ≤ d.depth := Nat.min_le_right _ _
  omega
theorem or_inT (hu : X.A.units + 65 < cLine) : OpR X (compareOp .In) (rInTD X.K false) := by
  intro pins s σ H x y v u Q I rx ry h
  obtain ⟨d, ds, hd, he, sd, se, q⟩ := h
  obtain ⟨as, r1⟩ := Dp.reads I d x v hd rx
  obtain ⟨bs, r2⟩ := Dp.reads I (.tuple ds) y u he ry
  exact SeqAt.in_tuple_reads r2 r1 (canLay_tup se) (shaped_lay sd) (room_tup sd hu) ⟨.bl _, H, I, rfl, q⟩
theorem or_notInT (hu : X.A.units + 65 < cLine) : OpR X (compareOp .NotIn) (rInTD X.K true) := by
  intro pins s σ H x y v u Q I rx ry h
  obtain ⟨d, ds, hd, he, sd, se, q⟩ := h
  obtain ⟨as, r1⟩ := Dp.reads I d x v hd rx
  obtain ⟨bs, r2⟩ := Dp.reads I (.tuple ds) y u he ry
  exact SeqAt.notIn_tuple_reads r2 r1 (canLay_tup se) (shaped_lay sd) (room_tup sd hu) ⟨.bl _, H, I, rfl, q⟩
/-- in, not in: of a dict -/
def rInDk (neg : Bool) : R2 := fun x y H Q => ∃ a o, y = .ref a ∧ DGet H a x o ∧ Q (.bl (if neg then !o.isSome else o.isSome)) H
theorem or_inDk (hu : X.A.units + 65 < cLine) : OpR X (compareOp .In) (rInDk false) := by
  intro pins s σ H x y v u Q I rx ry h
  obtain ⟨a, o, rfl, g, q⟩ := h
  cases ry
  exact d_in (by omega) I g rx fun s' I' => ⟨.bl _, H, I', rfl, q⟩
theorem or_notInDk (hu : X.A.units + 65 < cLine) : OpR X (compareOp .NotIn) (rInDk true) := by
  intro pins s σ H x y v u Q I rx ry h
  obtain ⟨a, o, rfl, g, q⟩ := h
  cases ry
  exact d_notIn (by omega) I g rx fun s' I' => ⟨.bl _, H, I', rfl, q⟩
theorem has_key {hk : List (Key × V)} {ks : List Int} {i : Int} (h : hk.map (·.1) = ks.map Sum.inl) : (valV hk (.inl i)).isSome = decide (i ∈ ks) := by
  rw [← valV_any]
  have e : (hk.any fun kv => decide (kv.1 = Sum.inl i)) = (hk.map (·.1)).any fun k => decide (k = Sum.inl i) := by rw [List.any_map]; rfl
  rw [e, h, List.any_map, Bool.eq_iff_iff, List.any_eq_true, decide_eq_true_iff]
  constructor
  · rintro ⟨j, hj, e⟩
    have := of_decide_eq_true e
    cases this
    exact hj
  · intro hi
    exact ⟨i, hi, decide_eq_true rfl⟩
abbrev rIn3 (K : PySem.W.Frag) (neg : Bool) : R2 := fun x y H Q => (if neg then rNotInD K x y H Q else rInD K x y H Q) ∨ rInTD K neg x y H Q ∨ (∃ (c : Nat) (z : Str), x = .str ⟨#[c]⟩ ∧ y = .str z ∧ Q (.bl (if neg then !decide (c ∈ z.cps.toList) else decide (c ∈ z.cps.toList))) H) ∨ rInDk neg x y H Q
theorem or_in (hu : X.A.units + 65 < cLine) : OpR X (compareOp .In) (rIn3 X.K false) := (op_inD hu).or ((or_inT hu).or (op_in_sign.or (or_inDk hu)))
theorem or_notIn (hu : X.A.units + 65 < cLine) : OpR X (compareOp .NotIn) (rIn3 X.K true) := (op_notInD hu).or ((or_notInT hu).or (op_notIn_sign.or (or_notInDk hu)))
theorem rs_in' {K : PySem.W.Frag} {o : Op} {neg : Bool} (ho : ∀ a b, op2 o a b = inf neg a b) : RS2 K o (rIn3 K neg) := by
  intro F Z H d e x y rv Q hF rx ry h q
  rw [ho] at h
  unfold inf at h
  split at h
  · split at h
    · rename_i hz
      cases h
      have hq : Dp K H x d := rx.dp (shaped_lay hz.1)
      have hl := ry.dp (shaped_lay hz.2)
      cases neg
      · exact .inl ⟨_, _, hq, hl, hz.1, hz.2, ro_val q (.bl _)⟩
      · exact .inl ⟨_, _, hq, hl, hz.1, hz.2, ro_val q (.bl _)⟩
    · cases h
  · split at h
    · rename_i hz
      cases h
      have hq : Dp K H x d := rx.dp (shaped_lay hz.1)
      have hl := ry.dp (by simpa only [PyData.canLay0] using canLay_tup hz.2)
      exact .inr (.inl ⟨_, _, hq, hl, hz.1, hz.2, ro_val q (.bl _)⟩)
    · cases h
  · rename_i x1 y1
    split at h
    · rename_i c hc
      cases h; cases rx.str; cases ry.str
      refine .inr (.inr (.inl ⟨c, y1, ?_, rfl, ro_val q (.bl _)⟩))
      obtain ⟨⟨l⟩⟩ := x1
      simp only at hc
      rw [hc]
    · cases h
  · rename_i i kvs
    obtain ⟨ks, h1, h2⟩ := Option.map_eq_some_iff.mp h
    subst h2
    cases rx.int
    obtain ⟨a, hk, rfl, h3, h4⟩ := ry.dictI h1
    refine .inr (.inr (.inr ⟨a, _, rfl, DGet.k (k := .inl i) h3, ?_⟩))
    rw [has_key h4]
    exact ro_val q (.bl _)
  · cases h
theorem rs_in {K : PySem.W.Frag} : RS2 K .inn (rIn3 K false) := rs_in' fun _ _ => rfl
theorem rs_notIn {K : PySem.W.Frag} : RS2 K .notin (rIn3 K true) := rs_in' fun _ _ => rfl
/-! #### places, slices -/
theorem atI_rep {K : PySem.W.Frag} {F : Addr → Prop} {H : Hp} {ds : List D} {vs : List V} {i : Int} {d : D} (r : Reps K F H ds vs) (h : atI ds i = some d) : ∃ v, atI vs i = some v ∧ Rep K F H d v := by
  unfold atI at h ⊢
  rw [← r.length]
  cases e : ixN ds.length i with
  | none => rw [e] at h; cases h
  | some j => rw [e] at h; exact r.get h
theorem rs_idx {K : PySem.W.Frag} : RS2 K .idx (fun x y H Q => rIxL K x y H Q ∨ rIxT K x y H Q ∨ rIxS x y H Q) := by
  intro F Z H d e x y rv Q hF rx ry h q
  have h : idxf d e = some rv := h
  unfold idxf at h
  split at h
  · obtain ⟨z, hz, e⟩ := Option.map_eq_some_iff.mp h
    subst e
    cases ry.int
    obtain ⟨a, xs, rfl, hx, rx⟩ := rx.list
    obtain ⟨v, hv, rv⟩ := atI_rep rx hz
    exact .inl ⟨a, xs, _, v, rfl, rfl, .of hx, hv, ro_val q rv⟩
  · obtain ⟨z, hz, e⟩ := Option.map_eq_some_iff.mp h
    subst e
    cases ry.int
    obtain ⟨a, xs, rfl, hx, rx⟩ := rx.tuple
    obtain ⟨v, hv, rv⟩ := atI_rep rx hz
    exact .inr (.inl ⟨a, xs, _, v, rfl, rfl, hx, hv, ro_val q rv⟩)
  · obtain ⟨z, hz, e⟩ := Option.map_eq_some_iff.mp h
    subst e
    cases ry.int
    obtain ⟨a, xs, rfl, hx, rx⟩ := RepB.script rx
    obtain ⟨v, hv, rv⟩ := atI_rep rx hz
    exact .inl ⟨a, xs, _, v, rfl, rfl, hx.sq, hv, ro_val q rv⟩
  · split at h
    · rename_i hl
      obtain ⟨c, hz, e⟩ := Option.map_eq_some_iff.mp h
      subst e
      cases ry.int; cases rx.str
      exact .inr (.inr ⟨_, _, c, rfl, rfl, hl, hz, ro_val q (.str _)⟩)
    · cases h
  · cases h
abbrev rSl3 (K : PySem.W.Frag) : V → Option Int → Option Int → Hp → VK → Prop := fun x lo hi H Q => rSlL K x lo hi H Q ∨ rSlA K x lo hi H Q ∨ rSlS x lo hi H Q
theorem or_sl : SlR X (rSl3 X.K) := sl_list.or (sl_tupA.or sl_str)
theorem cut_rep {K : PySem.W.Frag} {F : Addr → Prop} {H : Hp} {ds : List D} {vs : List V} (lo hi : Option Int) (r : Reps K F H ds vs) : Reps K F H (cutD ds lo hi) (cutV vs lo hi) := by
  unfold cutD cutV
  rw [r.length]
  exact (r.drop _).take _
theorem rs_slc {K : PySem.W.Frag} {F Z : Addr → Prop} {H : Hp} {d : D} {x : V} {rv : Rv} {lo hi : Option Int} {Q : VK} (hF : ∀ a, F a → H a ≠ none) (rx : RepB K F Z H d x) (h : slcf lo hi d = some rv) (q : ∀ v H', Same H H' → RO K F H H' rv v → Q v H') : rSl3 K x lo hi H Q := by
  unfold slcf at h
  split at h
  · cases h
    obtain ⟨a, xs, rfl, hx, rx⟩ := rx.list
    exact .inl ⟨a, xs, rfl, .of hx, fun p np => ro_lst q hF (cut_rep lo hi rx) np⟩
  · cases h
    obtain ⟨a, xs, rfl, hx, rx⟩ := rx.tuple
    refine .inr (.inl ⟨a, xs, rfl, hx, fun ⟨w1, w2⟩ => ro_val q ?_, fun _ p np => ro_tup q hF (cut_rep lo hi rx) np⟩)
    refine .tup hx ?_
    have e := cut_rep lo hi rx
    unfold cutV at e
    rw [w1, w2] at e
    simpa using e
  · split at h
    · rename_i hz
      cases h; cases rx.str
      exact .inr (.inr ⟨_, rfl, hz, ro_val q (.str _)⟩)
    · cases h
  · cases h
end
end Pv

namespace Pv
open PySem PySem.Spec PyProof.Rows L2

/-! #### built-in calls: readings of one value, of two -/
section
variable {X : Cx}
abbrev rLen2 (K : PySem.W.Frag) : List V → Hp → VK → Prop := fun xs H Q => (∃ p ys, xs = [.ref p] ∧ (SqL K H p ys ∨ SqT K H p ys) ∧ Q (.int ys.length) H) ∨ (∃ z, xs = [.str z] ∧ z.length ≤ sizeLine ∧ Q (.int z.length) H)
theorem cr_len : CallR X (.builtin "len") (rLen2 X.K) := call_len_seq.or call_len_str
theorem rs_len {K : PySem.W.Frag} : RS1 K .len (fun x H Q => rLen2 K [x] H Q) := by
  intro F Z H d x rv Q hF rx h q
  have h : lenf d = some rv := h
  unfold lenf at h
  split at h
  · cases h
    obtain ⟨a, xs, rfl, hx, rx⟩ := rx.list
    refine .inl ⟨a, xs, rfl, .inl (.of hx), ?_⟩
    rw [← rx.length]; exact ro_val q (.int _)
  · cases h
    obtain ⟨a, xs, rfl, hx, rx⟩ := rx.tuple
    refine .inl ⟨a, xs, rfl, .inr hx, ?_⟩
    rw [← rx.length]; exact ro_val q (.int _)
  · cases h
    obtain ⟨a, xs, rfl, hx, rx⟩ := RepB.script rx
    refine .inl ⟨a, xs, rfl, .inl hx.sq, ?_⟩
    rw [← rx.length]; exact ro_val q (.int _)
  · split at h
    · rename_i hz
      cases h; cases rx.str
      exact .inr ⟨_, rfl, hz, ro_val q (.int _)⟩
    · cases h
  · cases h
theorem rs_abs {K : PySem.W.Frag} : RS1 K .abs (fun x H Q => ∃ i, [x] = [V.int i] ∧ Q (.int (if i < 0 then -i else i)) H) := by
  intro F Z H d x rv Q hF rx h q
  have h : absf d = some rv := h
  unfold absf at h
  split at h
  · cases h; cases rx.int
    exact ⟨_, rfl, ro_val q (.int _)⟩
  · cases h
theorem rs_neg {K : PySem.W.Frag} : RS1 K .neg (rU fun i => .int (-i)) := by
  intro F Z H d x rv Q hF rx h q
  have h : negf d = some rv := h
  unfold negf at h
  split at h
  · cases h; cases rx.int
    exact ⟨_, rfl, ro_val q (.int _)⟩
  · cases h
theorem rs_int {K : PySem.W.Frag} : RS1 K .int (fun x H Q => (∃ i, [x] = [V.int i] ∧ Q (.int i) H) ∨ ∃ k, [x] = [V.bl k] ∧ Q (.int (if k then 1 else 0)) H) := by
  intro F Z H d x rv Q hF rx h q
  have h : intf d = some rv := h
  unfold intf at h
  split at h
  · cases h; cases rx.int
    exact .inl ⟨_, rfl, ro_val q (.int _)⟩
  · cases h; cases rx.bool
    exact .inr ⟨_, rfl, ro_val q (.int _)⟩
  · cases h
theorem rs_gcd {K : PySem.W.Frag} : RS2 K .gcd (fun x y H Q => rGcd [x, y] H Q) := by
  intro F Z H d e x y rv Q hF rx ry h q
  have h : gcdf d e = some rv := h
  unfold gcdf at h
  split at h
  · cases h; cases rx.int; cases ry.int
    exact ⟨_, _, rfl, ro_val q (.int _)⟩
  · cases h
theorem maxI_is : ∀ (r : List Int) (x : Int), (r.foldl (fun m y => if m < y then y else m) x = x ∨ r.foldl (fun m y => if m < y then y else m) x ∈ r) ∧ x ≤ r.foldl (fun m y => if m < y then y else m) x ∧ ∀ y ∈ r, y ≤ r.foldl (fun m y => if m < y then y else m) x
  | [], x => ⟨.inl rfl, Int.le_refl _, fun _ h => absurd h (by simp)⟩
  | y :: r, x => by
    rw [List.foldl_cons]
    obtain ⟨h1, h2, h3⟩ := maxI_is r (if x < y then y else x)
    refine ⟨?_, ?_, fun z hz => ?_⟩
    · rcases h1 with h1 | h1
      · rw [h1]; split
        · exact .inr (by simp)
        · exact .inl rfl
      · exact .inr (List.mem_cons_of_mem _ h1)
    · refine Int.le_trans ?_ h2; split <;> omega
    · rcases List.mem_cons.mp hz with rfl | hz
      · refine Int.le_trans ?_ h2; split <;> omega
      · exact h3 z hz
theorem minI_is : ∀ (r : List Int) (x : Int), (r.foldl (fun m y => if y < m then y else m) x = x ∨ r.foldl (fun m y => if y < m then y else m) x ∈ r) ∧ r.foldl (fun m y => if y < m then y else m) x ≤ x ∧ ∀ y ∈ r, r.foldl (fun m y => if y < m then y else m) x ≤ y
  | [], x => ⟨.inl rfl, Int.le_refl _, fun _ h => absurd h (by simp)⟩
  | y :: r, x => by
    rw [List.foldl_cons]
    obtain ⟨h1, h2, h3⟩ := minI_is r (if y < x then y else x)
    refine ⟨?_, ?_, fun z hz => ?_⟩
    · rcases h1 with h1 | h1
      · rw [h1]; split
        · exact .inr (by simp)
        · exact .inl rfl
      · exact .inr (List.mem_cons_of_mem _ h1)
    · refine Int.le_trans h2 ?_; split <;> omega
    · rcases List.mem_cons.mp hz with rfl | hz
      · refine Int.le_trans h2 ?_; split <;> omega
      · exact h3 z hz
theorem maxI_spec {ns : List Int} {m : Int} (h : maxI ns = some m) : m ∈ ns ∧ ∀ y ∈ ns, y ≤ m := by
  cases ns with
  | nil => cases h
  | cons x r =>
    obtain ⟨h1, h2, h3⟩ := maxI_is r x
    cases h
    exact ⟨List.mem_cons.mpr h1, fun y hy => (List.mem_cons.mp hy).elim (fun e => e ▸ h2) (h3 y)⟩
theorem minI_spec {ns : List Int} {m : Int} (h : minI ns = some m) : m ∈ ns ∧ ∀ y ∈ ns, m ≤ y := by
  cases ns with
  | nil => cases h
  | cons x r =>
    obtain ⟨h1, h2, h3⟩ := minI_is r x
    cases h
    exact ⟨List.mem_cons.mpr h1, fun y hy => (List.mem_cons.mp hy).elim (fun e => e ▸ h2) (h3 y)⟩
theorem pos_of_mem {α : Type} {x : α} {l : List α} (h : x ∈ l) : 0 < l.length := List.length_pos_of_mem h
theorem RepB.seq {K : PySem.W.Frag} {F Z : Addr → Prop} {H : Hp} {d : D} {v : V} {ds : List D} (r : RepB K F Z H d v) (e : seq? d = some ds) : ∃ a vs, v = .ref a ∧ (SqL K H a vs ∨ SqT K H a vs) ∧ Reps K F H ds vs := by
  cases d <;> cases e
  · obtain ⟨a, vs, h1, h2, h3⟩ := r.list
    exact ⟨a, vs, h1, .inl (.of h2), h3⟩
  · obtain ⟨a, vs, h1, h2, h3⟩ := r.tuple
    exact ⟨a, vs, h1, .inr h2, h3⟩
theorem ints_eq : ∀ {ds : List D} {ns : List Int}, ints? ds = some ns → ds = ns.map .int
  | [], _, h => by cases h; rfl
  | .int i :: r, ns, h => by
    obtain ⟨ms, h1, h2⟩ := Option.map_eq_some_iff.mp (show (ints? r).map (i :: ·) = some ns from h)
    subst h2
    rw [ints_eq h1]; rfl
  | .none :: _, _, h => by cases h
  | .bool _ :: _, _, h => by cases h
  | .str _ :: _, _, h => by cases h
  | .list _ :: _, _, h => by cases h
  | .tuple _ :: _, _, h => by cases h
  | .dict _ :: _, _, h => by cases h
theorem alike_of_ints {ns : List Int} : PySem.W.AlikeAll (ns.map PyData.int) := by
  refine ⟨fun x hx y hy => ?_, fun x hx => ?_⟩
  · obtain ⟨i, _, rfl⟩ := List.mem_map.mp hx
    obtain ⟨j, _, rfl⟩ := List.mem_map.mp hy
    simp [PySem.W.alike]
  · obtain ⟨i, _, rfl⟩ := List.mem_map.mp hx
    exact fun z => nomatch z
theorem lay_of_ints : ∀ ns : List Int, PyData.canLayAll0 (ns.map PyData.int) = true
  | [] => by simp [PyData.canLayAll0]
  | n :: r => by simp [PyData.canLayAll0, PyData.canLay0, lay_of_ints r]
theorem best_of {ds : List D} (h : bestB ds = true) : PySem.W.AlikeAll ds ∧ PyData.canLayAll0 ds = true ∧ PyData.depthAll ds ≤ 50 := by
  unfold bestB alikeB at h
  simp only [Bool.and_eq_true, decide_eq_true_eq, List.all_eq_true] at h
  refine ⟨⟨fun x hx y hy => h.1.1.1 x hx y hy, fun x hx e => ?_⟩, h.1.2, h.2⟩
  have := h.1.1.2 x hx
  rw [e] at this
  cases this
/-- less, and so on: of ints, strings, tuples of data -/
abbrev rCmp (K : PySem.W.Frag) (p : Int → Int → Bool) (s : List Nat → List Nat → Bool) (r : D → D → Bool) : R2 := fun x y H Q => rI0 (fun i j => .bl (p i j)) x y H Q ∨ (∃ i j, x = .str i ∧ y = .str j ∧ Q (.bl (s i.cps.toList j.cps.toList)) H) ∨ rCmpD K r x y H Q
theorem rs_cmp {K : PySem.W.Frag} {o : Op} {p : Int → Int → Bool} {s : List Nat → List Nat → Bool} {r : D → D → Bool} (ho : ∀ a b, op2 o a b = cmpf p s r a b) : RS2 K o (rCmp K p s r) := by
  intro F Z H d e x y rv Q hF rx ry h q
  rw [ho] at h
  unfold cmpf at h
  split at h
  · cases h; cases rx.int; cases ry.int
    exact .inl ⟨_, _, rfl, rfl, ro_val q (.bl _)⟩
  · cases h; cases rx.str; cases ry.str
    exact .inr (.inl ⟨_, _, rfl, rfl, ro_val q (.bl _)⟩)
  · split at h
    · rename_i hb
      cases h
      obtain ⟨h1, h2, h3⟩ := best_of hb
      obtain ⟨a, xs, rfl, hx, rx⟩ := rx.tuple
      obtain ⟨b, ys, rfl, hy, ry⟩ := ry.tuple
      simp only [PyData.canLayAll0, PyData.canLay0, Bool.and_eq_true] at h2
      exact .inr (.inr ⟨_, _, .tup hx (rx.dp h2.1), .tup hy (ry.dp h2.2.1), h1, h3, ro_val q (.bl _)⟩)
    · cases h
  · cases h
section
variable {X : Cx}
theorem or_lt (hu : X.A.units + 65 < cLine) : OpR X (compareOp .Lt) (rCmp X.K (fun i j => decide (i < j)) (fun x y => decide (x < y)) dlt) := op_lt.or (op_lt_str.or (op_ltD hu))
theorem or_le (hu : X.A.units + 65 < cLine) : OpR X (compareOp .LtE) (rCmp X.K (fun i j => decide (i ≤ j)) (fun x y => !decide (y < x)) dle) := op_le.or (op_le_str.or (op_leD hu))
theorem or_gt (hu : X.A.units + 65 < cLine) : OpR X (compareOp .Gt) (rCmp X.K (fun i j => decide (j < i)) (fun x y => decide (y < x)) dgt) := op_gt.or (op_gt_str.or (op_gtD hu))
theorem or_ge (hu : X.A.units + 65 < cLine) : OpR X (compareOp .GtE) (rCmp X.K (fun i j => decide (j ≤ i)) (fun x y => !decide (x < y)) dge) := op_ge.or (op_ge_str.or (op_geD hu))
end
theorem rs_max2 {K : PySem.W.Frag} : RS2 K .max2 (fun x y H Q => (∃ i j, [x, y] = [V.int i, V.int j] ∧ Q (.int (if j > i then j else i)) H) ∨ rMin2D K true [x, y] H Q) := by
  intro F Z H d e x y rv Q hF rx ry h q
  have h : max2f d e = some rv := h
  unfold max2f at h
  split at h
  · cases h; cases rx.int; cases ry.int
    exact .inl ⟨_, _, rfl, ro_val q (.int _)⟩
  · split at h
    · rename_i hb
      cases h
      obtain ⟨h1, h2, h3⟩ := best_of hb
      obtain ⟨a, xs, rfl, hx, rx⟩ := rx.tuple
      obtain ⟨b, ys, rfl, hy, ry⟩ := ry.tuple
      simp only [PyData.canLayAll0, PyData.canLay0, Bool.and_eq_true] at h2
      refine .inr ⟨_, _, _, _, rfl, .tup hx (rx.dp h2.1), .tup hy (ry.dp h2.2.1), h1, h3, ?_⟩
      have g1 : Rep K F H _ _ := .tup hx rx
      have g2 : Rep K F H _ _ := .tup hy ry
      refine ro_val q ?_
      simp only [Bool.false_eq_true, if_true, if_false]
      split
      · exact g2
      · exact g1
    · cases h
  · cases h
theorem rs_min2 {K : PySem.W.Frag} : RS2 K .min2 (fun x y H Q => (∃ i j, [x, y] = [V.int i, V.int j] ∧ Q (.int (if j < i then j else i)) H) ∨ rMin2D K false [x, y] H Q) := by
  intro F Z H d e x y rv Q hF rx ry h q
  have h : min2f d e = some rv := h
  unfold min2f at h
  split at h
  · cases h; cases rx.int; cases ry.int
    exact .inl ⟨_, _, rfl, ro_val q (.int _)⟩
  · split at h
    · rename_i hb
      cases h
      obtain ⟨h1, h2, h3⟩ := best_of hb
      obtain ⟨a, xs, rfl, hx, rx⟩ := rx.tuple
      obtain ⟨b, ys, rfl, hy, ry⟩ := ry.tuple
      simp only [PyData.canLayAll0, PyData.canLay0, Bool.and_eq_true] at h2
      refine .inr ⟨_, _, _, _, rfl, .tup hx (rx.dp h2.1), .tup hy (ry.dp h2.2.1), h1, h3, ?_⟩
      have g1 : Rep K F H _ _ := .tup hx rx
      have g2 : Rep K F H _ _ := .tup hy ry
      refine ro_val q ?_
      simp only [Bool.false_eq_true, if_true, if_false]
      split
      · exact g2
      · exact g1
    · cases h
  · cases h
theorem fold_max (r : List Int) : ∀ x : Int, r.foldl max x = r.foldl (fun m y => if m < y then y else m) x := by
  induction r with
  | nil => intro x; rfl
  | cons y r ih =>
    intro x
    simp only [List.foldl_cons]
    rw [ih]
    congr 1
    rw [Int.max_def]
    split <;> split <;> omega
theorem fold_min (r : List Int) : ∀ x : Int, r.foldl min x = r.foldl (fun m y => if y < m then y else m) x := by
  induction r with
  | nil => intro x; rfl
  | cons y r ih =>
    intro x
    simp only [List.foldl_cons]
    rw [ih]
    congr 1
    rw [Int.min_def]
    split <;> split <;> omega
/-! #### sorted, max, min of alike data -/
section
variable {X : Cx}
/-- sorted(xs), xs a list of alike data -/
def rSortedD (K : PySem.W.Frag) : List V → Hp → VK → Prop := fun vs H Q => ∃ (a : Addr) (xs : List V) (ds : List D) (R : V → D → Prop), vs = [V.ref a] ∧ SqL K H a xs ∧ DpAll K H xs ds ∧ PySem.W.EachIs R xs ds ∧ PySem.W.AllAlike ds ∧ PySem.W.Sortable ds ∧ (∀ d, d ∈ ds → d.depth ≤ 50) ∧
  ∀ ys p, PySem.W.EachIs R ys (ds.mergeSort (PySem.W.dataLe false id)) → H p = none → Q (.ref p) (upd H p (.lst ys))
theorem each_two {A B C : Type} {R : A → B → Prop} {S : A → C → Prop} : ∀ {xs : List A} {ys : List B} {zs : List C}, PySem.W.EachIs R xs ys → Paired S xs zs → PySem.W.EachIs (fun z y => ∃ x, S x z ∧ R x y) zs ys
  | _, _, _, .nil, .nil => .nil
  | _, _, _, .cons h t, .cons h' t' => .cons ⟨_, h', h⟩ (each_two t t')
theorem each_back {A B C : Type} {R : A → B → Prop} {S : A → C → Prop} : ∀ {zs : List C} {ys : List B}, PySem.W.EachIs (fun z y => ∃ x, S x z ∧ R x y) zs ys → ∃ xs, Paired S xs zs ∧ PySem.W.EachIs R xs ys
  | _, _, .nil => ⟨[], .nil, .nil⟩
  | _, _, .cons ⟨x, h1, h2⟩ t => by
    obtain ⟨xs, g1, g2⟩ := each_back t
    exact ⟨x :: xs, .cons h1 g1, .cons h2 g2⟩
theorem each_reads {h : Heap} : ∀ {vs : List Value} {ds : List D} {as : List Addr}, ReadsAll h vs ds as → PySem.W.EachIs (fun v d => ∃ as, Reads h v d as) vs ds
  | _, _, _, .nil => .nil
  | _, _, _, .cons h1 h2 => .cons ⟨_, h1⟩ (each_reads h2)
theorem cr_sortedD (hu : X.A.units + 65 < cLine) : CallR X (.builtin "sorted") (rSortedD X.K) := by
  intro pins s σ H vs us Q I r h
  obtain ⟨a, xs, ds, R, rfl, hs, hd, he, hal, hk, hdep, q⟩ := h
  obtain ⟨its, rv, hl, hz⟩ := I.list hs
  rw [Vals.ref1 r]
  obtain ⟨as, hr⟩ := Dp.readsAll I ds xs its hd rv
  have e1 := each_two he rv
  have hn : ds.length ≤ sizeLine := by rw [← he.length]; exact hz
  refine PySem.W.sorted_data (enc := id) (bs := ds) (vs := its) hl.isList e1 (each_reads hr) (by rwa [List.map_id]) (by rwa [List.map_id]) hn (fun d m => ?_) fun out h1 h2 => ?_
  · have := hdep d m
    show X.A.units + 2 + d.depth < cLine
    omega
  · obtain ⟨ys, hv, hy⟩ := each_back h2
    obtain ⟨ep, he'⟩ := PyProof.Rows.sortedAll_at s.heap its out.toArray
    have hlen : ys.length ≤ sizeLine := by rw [Vals.length hv, h1]; exact hn
    exact ⟨.ref _, upd H (s.heap.objs.size + 1) (.lst ys), I.laid (t' := s.toks) (fun _ _ => PyProof.Rows.sortedAll_old) (Nat.le_succ _) ⟨hlen, out, ep, hv, he'⟩, rfl, q ys _ hy (I.hok.fresh (Nat.le_succ _))⟩
/-- max(xs), min(xs): the item itself -/
def rMaxD (K : PySem.W.Frag) (mx : D → List D → D) : List V → Hp → VK → Prop := fun vs H Q => ∃ (a : Addr) (xs : List V) (d : D) (ds : List D), vs = [V.ref a] ∧ (SqL K H a xs ∨ SqT K H a xs) ∧ DpAll K H xs (d :: ds) ∧ PySem.W.AlikeAll (d :: ds) ∧ PyData.canLayAll0 (d :: ds) = true ∧ PyData.depthAll (d :: ds) ≤ 50 ∧
  ∀ (i : Nat) v, xs[i]? = some v → (d :: ds)[i]? = some (mx d ds) → Q v H
theorem vals_back : ∀ {xs : List V} {us : List Value} {i : Nat} {u : Value}, Vals xs us → us[i]? = some u → ∃ x, xs[i]? = some x ∧ RelV x u
  | _, _, _, _, .nil, h => by simp at h
  | _, _, 0, _, .cons r _, h => by simp at h; subst h; exact ⟨_, rfl, r⟩
  | _, _, i + 1, _, .cons _ t, h => by
    obtain ⟨v, h1, h2⟩ := vals_back (i := i) t (by simpa using h)
    exact ⟨v, by simpa using h1, h2⟩
theorem lay_mem : ∀ {ds : List D} {d : D}, PyData.canLayAll0 ds = true → d ∈ ds → d.canLay0 = true
  | [], _, _, h => by simp at h
  | e :: r, d, h, m => by
    simp only [PyData.canLayAll0, Bool.and_eq_true] at h
    rcases List.mem_cons.mp m with rfl | m
    · exact h.1
    · exact lay_mem h.2 m
theorem best_at {h h' : Heap} {its : List Value} {ds : List D} {as bs : List Addr} {i : Nat} {v : Value} {m : D} (hr : ReadsAll h its ds as) (c : PyData.canLayAll0 ds = true) (hv : its[i]? = some v) (rm : Reads h' v m bs) (k : ∀ b o, h.get? b = some o → h'.get? b = some o) : ds[i]? = some m := by
  obtain ⟨cs, r1, hl, hm, _⟩ := PySem.W.readsAll_atA (vs := its.toArray) hr i v (by simpa using hv)
  have e := PySem.Reads.unique (PyProof.Rows.Reads.keeps k r1) _ _ rm
  rw [List.getElem?_eq_getElem hl, ← e.1]
  rw [List.getD_eq_getElem?_getD, List.getElem?_eq_getElem hl]
  rfl
theorem cr_maxD (hc : X.calm = true) (hu : X.A.units + 65 < cLine) : CallR X (.builtin "max") (rMaxD X.K PySem.W.maxD) := by
  intro pins s σ H vs us Q I r h
  obtain ⟨a, xs, d, ds, rfl, hs, hd, ha, hl0, hdep, q⟩ := h
  rw [Vals.ref1 r]
  rcases hs with hs | hs
  · obtain ⟨its, rv, hl, hz⟩ := I.list hs
    obtain ⟨as, hr⟩ := Dp.readsAll I _ _ its hd rv
    refine PySem.W.max_list_data (vs := its.toArray) (I.ok.hd hc) hl.isList hr ha (by omega) fun i v h' tk bs hi rm k => ?_
    have hi : its[i]? = some v := by simpa using hi
    obtain ⟨x, hx, rx⟩ := vals_back rv hi
    exact ⟨x, H, I.kept k, rx, q i x hx (best_at hr hl0 hi rm k)⟩
  · obtain ⟨its, rv, hl, hz⟩ := I.tuple hs
    obtain ⟨as, hr⟩ := Dp.readsAll I _ _ its hd rv
    refine PySem.W.max_tuple_data (vs := its.toArray) (I.ok.hd hc) hl hr ha (by omega) fun i v h' tk bs hi rm k => ?_
    have hi : its[i]? = some v := by simpa using hi
    obtain ⟨x, hx, rx⟩ := vals_back rv hi
    exact ⟨x, H, I.kept k, rx, q i x hx (best_at hr hl0 hi rm k)⟩
theorem cr_minD (hc : X.calm = true) (hu : X.A.units + 65 < cLine) : CallR X (.builtin "min") (rMaxD X.K PySem.W.minD) := by
  intro pins s σ H vs us Q I r h
  obtain ⟨a, xs, d, ds, rfl, hs, hd, ha, hl0, hdep, q⟩ := h
  rw [Vals.ref1 r]
  rcases hs with hs | hs
  · obtain ⟨its, rv, hl, hz⟩ := I.list hs
    obtain ⟨as, hr⟩ := Dp.readsAll I _ _ its hd rv
    refine PySem.W.min_list_data (vs := its.toArray) (I.ok.hd hc) hl.isList hr ha (by omega) fun i v h' tk bs hi rm k => ?_
    have hi : its[i]? = some v := by simpa using hi
    obtain ⟨x, hx, rx⟩ := vals_back rv hi
    exact ⟨x, H, I.kept k, rx, q i x hx (best_at hr hl0 hi rm k)⟩
  · obtain ⟨its, rv, hl, hz⟩ := I.tuple hs
    obtain ⟨as, hr⟩ := Dp.readsAll I _ _ its hd rv
    refine PySem.W.min_tuple_data (vs := its.toArray) (I.ok.hd hc) hl hr ha (by omega) fun i v h' tk bs hi rm k => ?_
    have hi : its[i]? = some v := by simpa using hi
    obtain ⟨x, hx, rx⟩ := vals_back rv hi
    exact ⟨x, H, I.kept k, rx, q i x hx (best_at hr hl0 hi rm k)⟩
end

theorem rs_max {K : PySem.W.Frag} : RS1 K .max (fun x H Q => rMaxD K PySem.W.maxD [x] H Q) := by
  intro F Z H d x rv Q hF rx h q
  obtain ⟨ds, e0, h⟩ := Option.bind_eq_some_iff.mp (show (seq? d).bind maxs = some rv from h)
  obtain ⟨a, xs, rfl, hx, rp⟩ := rx.seq e0
  unfold maxs at h
  cases e1 : ints? ds with
  | some ns =>
    rw [e1] at h
    obtain ⟨m, e2, e3⟩ := Option.map_eq_some_iff.mp h
    subst e3
    have ed := ints_eq e1
    subst ed
    cases ns with
    | nil => cases e2
    | cons n r =>
      refine ⟨a, xs, .int n, r.map .int, rfl, hx, rp.dp (lay_of_ints (n :: r)), alike_of_ints (ns := n :: r), lay_of_ints (n :: r), by rw [show (PyData.int n :: r.map PyData.int) = (n :: r).map PyData.int from rfl, PySem.W.depth_ints]; decide, fun i v hv hi => ?_⟩
      obtain ⟨v', hv', rv'⟩ := rp.get (i := i) hi
      rw [hv] at hv'
      cases hv'
      rw [PySem.W.maxD_ints, fold_max] at rv'
      cases e2
      exact ro_val q rv'
  | none =>
    rw [e1] at h
    cases ds with
    | nil => cases h
    | cons d ds =>
      have h : (if bestB (d :: ds) = true then some (Rv.val (PySem.W.maxD d ds)) else none) = some rv := h
      split at h
      · rename_i hb
        cases h
        obtain ⟨h1, h2, h3⟩ := best_of hb
        refine ⟨a, xs, d, ds, rfl, hx, rp.dp h2, h1, h2, h3, fun i v hv hi => ?_⟩
        obtain ⟨v', hv', rv'⟩ := rp.get (i := i) hi
        rw [hv] at hv'
        cases hv'
        exact ro_val q rv'
      · cases h
theorem rs_min {K : PySem.W.Frag} : RS1 K .min (fun x H Q => rMaxD K PySem.W.minD [x] H Q) := by
  intro F Z H d x rv Q hF rx h q
  obtain ⟨ds, e0, h⟩ := Option.bind_eq_some_iff.mp (show (seq? d).bind mins = some rv from h)
  obtain ⟨a, xs, rfl, hx, rp⟩ := rx.seq e0
  unfold mins at h
  cases e1 : ints? ds with
  | some ns =>
    rw [e1] at h
    obtain ⟨m, e2, e3⟩ := Option.map_eq_some_iff.mp h
    subst e3
    have ed := ints_eq e1
    subst ed
    cases ns with
    | nil => cases e2
    | cons n r =>
      refine ⟨a, xs, .int n, r.map .int, rfl, hx, rp.dp (lay_of_ints (n :: r)), alike_of_ints (ns := n :: r), lay_of_ints (n :: r), by rw [show (PyData.int n :: r.map PyData.int) = (n :: r).map PyData.int from rfl, PySem.W.depth_ints]; decide, fun i v hv hi => ?_⟩
      obtain ⟨v', hv', rv'⟩ := rp.get (i := i) hi
      rw [hv] at hv'
      cases hv'
      rw [PySem.W.minD_ints, fold_min] at rv'
      cases e2
      exact ro_val q rv'
  | none =>
    rw [e1] at h
    cases ds with
    | nil => cases h
    | cons d ds =>
      have h : (if bestB (d :: ds) = true then some (Rv.val (PySem.W.minD d ds)) else none) = some rv := h
      split at h
      · rename_i hb
        cases h
        obtain ⟨h1, h2, h3⟩ := best_of hb
        refine ⟨a, xs, d, ds, rfl, hx, rp.dp h2, h1, h2, h3, fun i v hv hi => ?_⟩
        obtain ⟨v', hv', rv'⟩ := rp.get (i := i) hi
        rw [hv] at hv'
        cases hv'
        exact ro_val q rv'
      · cases h
theorem rs_bits {K : PySem.W.Frag} : RS1 K .bits (fun x H Q => ∃ i, x = .int i ∧ Q (.int (Builtin.Int.intBits i : Nat)) H) := by
  intro F Z H d x rv Q hF rx h q
  have h : bitsf d = some rv := h
  unfold bitsf at h
  split at h
  · cases h; cases rx.int
    exact ⟨_, rfl, ro_val q (.int _)⟩
  · cases h
theorem rs_sum {K : PySem.W.Frag} : RS1 K .sum (fun x H Q => rSum K [x] H Q ∨ rSumT K [x] H Q) := by
  intro F Z H d x rv Q hF rx h q
  have h : sumf d = some rv := h
  unfold sumf at h
  split at h
  · obtain ⟨ns, e1, e3⟩ := Option.map_eq_some_iff.mp h
    subst e3
    obtain ⟨a, xs, rfl, hx, rx⟩ := rx.list
    exact .inl ⟨a, ns, rfl, .of (by rw [hx, reps_ints e1 rx]), ro_val q (.int _)⟩
  · obtain ⟨ns, e1, e3⟩ := Option.map_eq_some_iff.mp h
    subst e3
    obtain ⟨a, xs, rfl, hx, rx⟩ := rx.tuple
    exact .inr ⟨a, ns, rfl, by rw [← reps_ints e1 rx]; exact hx, ro_val q (.int _)⟩
  · cases h
theorem rs_any {K : PySem.W.Frag} : RS1 K .any (fun x H Q => rAny K [x] H Q) := by
  intro F Z H d x rv Q hF rx h q
  have h : anyf d = some rv := h
  unfold anyf at h
  split at h
  · obtain ⟨ns, e1, e3⟩ := Option.map_eq_some_iff.mp h
    subst e3
    obtain ⟨a, xs, rfl, hx, rx⟩ := rx.list
    exact ⟨a, ns, rfl, .of (by rw [hx, reps_bools e1 rx]), ro_val q (.bl _)⟩
  · cases h
theorem rs_all {K : PySem.W.Frag} : RS1 K .all (fun x H Q => rAll K [x] H Q) := by
  intro F Z H d x rv Q hF rx h q
  have h : allf d = some rv := h
  unfold allf at h
  split at h
  · obtain ⟨ns, e1, e3⟩ := Option.map_eq_some_iff.mp h
    subst e3
    obtain ⟨a, xs, rfl, hx, rx⟩ := rx.list
    exact ⟨a, ns, rfl, .of (by rw [hx, reps_bools e1 rx]), ro_val q (.bl _)⟩
  · cases h
theorem insI_perm (x : Int) : ∀ l : List Int, (insI x l).Perm (x :: l)
  | [] => .refl _
  | y :: r => by
    unfold insI
    split
    · exact .refl _
    · exact ((insI_perm x r).cons y).trans (.swap x y r)
theorem insI_sorted (x : Int) : ∀ {l : List Int}, l.Pairwise (· ≤ ·) → (insI x l).Pairwise (· ≤ ·)
  | [], _ => by simp [insI]
  | y :: r, h => by
    unfold insI
    rw [List.pairwise_cons] at h
    split
    · rename_i hx
      rw [List.pairwise_cons]
      refine ⟨fun z hz => ?_, List.pairwise_cons.mpr h⟩
      rcases List.mem_cons.mp hz with rfl | hz
      · exact hx
      · exact Int.le_trans hx (h.1 z hz)
    · rename_i hx
      rw [List.pairwise_cons]
      refine ⟨fun z hz => ?_, insI_sorted x h.2⟩
      rcases List.mem_cons.mp ((insI_perm x r).mem_iff.mp hz) with rfl | hz
      · omega
      · exact h.1 z hz
theorem sortI_perm : ∀ l : List Int, (sortI l).Perm l
  | [] => .refl _
  | x :: r => (insI_perm x (sortI r)).trans ((sortI_perm r).cons x)
theorem sortI_sorted : ∀ l : List Int, (sortI l).Pairwise (· ≤ ·)
  | [] => .nil
  | x :: r => insI_sorted x (sortI_sorted r)
theorem sort_same {a b : List Int} (hp : a.Perm b) (ha : a.Pairwise (· ≤ ·)) (hb : b.Pairwise (· ≤ ·)) : a = b := List.Perm.eq_of_pairwise (fun x y _ _ h1 h2 => Int.le_antisymm h1 h2) ha hb hp
theorem each_reps {K : PySem.W.Frag} {F : Addr → Prop} {H : Hp} : ∀ {ds : List D} {vs : List V}, Reps K F H ds vs → PySem.W.EachIs (fun v d => Rep K F H d v) vs ds
  | _, _, .nil => .nil
  | _, _, .cons h t => .cons h (each_reps t)
theorem reps_each {K : PySem.W.Frag} {F : Addr → Prop} {H : Hp} : ∀ {ds : List D} {vs : List V}, PySem.W.EachIs (fun v d => Rep K F H d v) vs ds → Reps K F H ds vs
  | _, _, .nil => .nil
  | _, _, .cons h t => .cons h (reps_each t)
theorem depth_mem : ∀ {ds : List D} {d : D}, d ∈ ds → d.depth ≤ PyData.depthAll ds
  | [], _, h => by simp at h
  | e :: r, d, h => by
    simp only [PyData.depthAll]
    rcases List.mem_cons.mp h with rfl | h
    · exact Nat.le_max_left _ _
    · exact Nat.le_trans (depth_mem h) (Nat.le_max_right _ _)
theorem sort_of {ds : List D} (h : sortB ds = true) : PySem.W.AllAlike ds ∧ PySem.W.Sortable ds ∧ PyData.canLayAll0 ds = true ∧ PyData.depthAll ds ≤ 50 := by
  unfold sortB alikeB at h
  simp only [Bool.and_eq_true, decide_eq_true_eq, List.all_eq_true, Bool.or_eq_true] at h
  refine ⟨fun x hx y hy => h.1.1.1 x hx y hy, ?_, h.1.2, h.2⟩
  rcases h.1.1.2 with g | g
  · unfold tupsB at g
    rw [List.all_eq_true] at g
    refine .inl fun d hd => ?_
    have := g d hd
    split at this
    · exact ⟨_, _, rfl⟩
    · cases this
  · unfold othersB at g
    rw [List.all_eq_true] at g
    refine .inr fun d hd => ⟨fun e => ?_, fun xs e => ?_⟩
    · have := g d hd; rw [e] at this; cases this
    · have := g d hd; rw [e] at this; cases this
theorem CallR.or' {X : Cx} {f : Value} {r1 r2 : List V → Hp → VK → Prop} (h1 : CallR X f r1) (h2 : CallR X f r2) : CallR X f (fun vs H Q => r1 vs H Q ∨ r2 vs H Q) := fun pins s σ H xs us Q I r h => h.elim (h1 pins s σ H xs us Q I r) (h2 pins s σ H xs us Q I r)
/-- sorted(d) of a dict whose keys are ints -/
def rSortedDI : List V → Hp → VK → Prop := fun xs H Q => ∃ (a : Addr) (kvs : List (Key × V)) (ks : List Int), xs = [.ref a] ∧ Rd H a (.dK kvs) ∧ kvs.map (·.1) = ks.map Sum.inl ∧ ks.length < 64 ∧
    ∀ (ys : List Int) (p : Addr), ys.Perm ks → ys.Pairwise (· ≤ ·) → H p = none → Q (.ref p) (upd H p (.lst (ys.map V.int)))
theorem rs_sorted {K : PySem.W.Frag} : RS1 K .sorted (fun x H Q => rSortedI K [x] H Q ∨ rSortedD K [x] H Q ∨ rSortedTI K [x] H Q ∨ rSortedDI [x] H Q) := by
  intro F Z H d x rv Q hF rx h q
  have h : sortedf d = some rv := h
  unfold sortedf at h
  split at h
  · obtain ⟨a, xs, rfl, hx, rx⟩ := rx.list
    unfold sorts at h
    split at h
    · rename_i ns e1
      cases h
      refine .inl ⟨a, ns, rfl, .of (by rw [hx, reps_ints e1 rx]), fun ns' p hp hs np => ?_⟩
      rw [sort_same (hp.trans (sortI_perm ns).symm) hs (sortI_sorted ns)]
      exact ro_lst q hF (Reps.ints _) np
    · split at h
      · rename_i hb
        cases h
        obtain ⟨h1, h2, h3, h4⟩ := sort_of hb
        exact .inr (.inl ⟨a, xs, _, _, rfl, .of hx, rx.dp h3, each_reps rx, h1, h2, fun d hd => Nat.le_trans (depth_mem hd) h4, fun ys p he np => ro_lst q hF (reps_each he) np⟩)
      · cases h
  · obtain ⟨a, xs, rfl, hx, rx⟩ := rx.tuple
    obtain ⟨ns, e1, e2⟩ := Option.map_eq_some_iff.mp h
    subst e2
    refine .inr (.inr (.inl ⟨a, ns, rfl, by rw [← reps_ints e1 rx]; exact hx, fun ns' p hp hs np => ?_⟩))
    rw [sort_same (hp.trans (sortI_perm ns).symm) hs (sortI_sorted ns)]
    exact ro_lst q hF (Reps.ints _) np
  · rename_i kvs
    obtain ⟨ks, h1, h2⟩ := Option.bind_eq_some_iff.mp h
    split at h2
    · rename_i h64
      cases h2
      obtain ⟨a, hk, rfl, h3, h4⟩ := rx.dictI h1
      refine .inr (.inr (.inr ⟨a, hk, ks, rfl, .inl h3, h4, h64, fun ys p hp hs np => ?_⟩))
      rw [sort_same (hp.trans (sortI_perm ks).symm) hs (sortI_sorted ks)]
      exact ro_lst q hF (Reps.ints _) np
    · cases h2
  · cases h
theorem rs_tuple {K : PySem.W.Frag} : RS1 K .tuple (fun x H Q => ∃ p ys, [x] = [V.ref p] ∧ ((SqL K H p ys ∧ ∀ l, H l = none → Q (.ref l) (upd H l (.tup ys))) ∨ (SqT K H p ys ∧ Q (.ref p) H))) := by
  intro F Z H d x rv Q hF rx h q
  have h : tuplef d = some rv := h
  unfold tuplef at h
  obtain ⟨ds, e1, e2⟩ := Option.map_eq_some_iff.mp h
  subst e2
  unfold items? at e1
  split at e1
  · cases e1
    obtain ⟨a, xs, rfl, hx, rx⟩ := rx.list
    exact ⟨a, xs, rfl, .inl ⟨.of hx, fun p np => ro_tup q hF rx np⟩⟩
  · cases e1
    obtain ⟨a, xs, rfl, hx, rx⟩ := RepB.script rx
    exact ⟨a, xs, rfl, .inl ⟨hx.sq, fun p np => ro_tup q hF rx np⟩⟩
  · cases e1
    obtain ⟨a, xs, rfl, hx, rx⟩ := rx.tuple
    exact ⟨a, xs, rfl, .inr ⟨hx, ro_val q (.tup hx rx)⟩⟩
  · cases e1
theorem rs_list {K : PySem.W.Frag} : RS1 K .list (fun x H Q => ∃ p ys, [x] = [V.ref p] ∧ (SqL K H p ys ∨ SqT K H p ys) ∧ ∀ l, H l = none → Q (.ref l) (upd H l (.lst ys))) := by
  intro F Z H d x rv Q hF rx h q
  have h : listf d = some rv := h
  unfold listf at h
  obtain ⟨ds, e1, e2⟩ := Option.map_eq_some_iff.mp h
  subst e2
  unfold items? at e1
  split at e1
  · cases e1
    obtain ⟨a, xs, rfl, hx, rx⟩ := rx.list
    exact ⟨a, xs, rfl, .inl (.of hx), fun p np => ro_lst q hF rx np⟩
  · cases e1
    obtain ⟨a, xs, rfl, hx, rx⟩ := RepB.script rx
    exact ⟨a, xs, rfl, .inl hx.sq, fun p np => ro_lst q hF rx np⟩
  · cases e1
    obtain ⟨a, xs, rfl, hx, rx⟩ := rx.tuple
    exact ⟨a, xs, rfl, .inr hx, fun p np => ro_lst q hF rx np⟩
  · cases e1
/-- isinstance(x, T) -/
abbrev rIs (K : PySem.W.Frag) (T : String) : V → Hp → VK → Prop := fun x H Q => rIsi K [x, .ty T] H Q
def tyName : D → String
  | .none => "NoneType"
  | .bool _ => "bool"
  | .int _ => "int"
  | .str _ => "str"
  | .list _ => "list"
  | .tuple _ => "tuple"
  | .dict _ => "dict"
theorem ty_of {K : PySem.W.Frag} {F Z : Addr → Prop} {H : Hp} {d : D} {x : V} (r : RepB K F Z H d x) (nd : ∀ kvs, d ≠ .dict kvs) : TyX K H x (.type (tyName d)) := by
  cases d with
  | none => cases r.none; exact .base .non
  | bool b => cases r.bool; exact .base (.bl _)
  | int i => cases r.int; exact .base (.int _)
  | str z => cases r.str; exact .base (.str _)
  | list ds => obtain ⟨a, xs, rfl, hx, _⟩ := r.list; exact .base (.lst hx)
  | tuple ds =>
    obtain ⟨a, xs, rfl, hx, _⟩ := r.tuple
    rcases hx with (h | ⟨o, h⟩) | ⟨o, its, n, h, c, _⟩
    · exact .base (.tup h)
    · exact .fTuple h
    · exact .kTuple h c
  | dict kvs => exact absurd rfl (nd kvs)
theorem rs_isI {K : PySem.W.Frag} : RS1 K .isI (rIs K "int") := by
  intro F Z H d x rv Q hF rx h q
  have h : isIf d = some rv := h
  cases d with
  | dict kvs => cases h
  | _ => cases h; exact ⟨_, _, _, _, _, rfl, .ty _, ty_of rx fun _ z => (nomatch z), by rfl, ro_val q (.bl _)⟩
theorem rs_isB {K : PySem.W.Frag} : RS1 K .isB (rIs K "bool") := by
  intro F Z H d x rv Q hF rx h q
  have h : isBf d = some rv := h
  cases d with
  | dict kvs => cases h
  | _ => cases h; exact ⟨_, _, _, _, _, rfl, .ty _, ty_of rx fun _ z => (nomatch z), by rfl, ro_val q (.bl _)⟩
theorem rs_isS {K : PySem.W.Frag} : RS1 K .isS (rIs K "str") := by
  intro F Z H d x rv Q hF rx h q
  have h : isSf d = some rv := h
  cases d with
  | dict kvs => cases h
  | _ => cases h; exact ⟨_, _, _, _, _, rfl, .ty _, ty_of rx fun _ z => (nomatch z), by rfl, ro_val q (.bl _)⟩
theorem rs_isT {K : PySem.W.Frag} : RS1 K .isT (rIs K "tuple") := by
  intro F Z H d x rv Q hF rx h q
  have h : isTf d = some rv := h
  cases d with
  | dict kvs => cases h
  | _ => cases h; exact ⟨_, _, _, _, _, rfl, .ty _, ty_of rx fun _ z => (nomatch z), by rfl, ro_val q (.bl _)⟩
theorem rs_rev {K : PySem.W.Frag} : RS1 K .rev (fun x H Q => rRevB K x H Q) := by
  intro F Z H d x rv Q hF rx h q
  have h : revf d = some rv := h
  unfold revf at h
  split at h
  · cases h
    obtain ⟨a, xs, rfl, hx, rx⟩ := rx.list
    exact .inl ⟨a, xs, rfl, .of hx, fun p np => ro_lst q hF rx.reverse np⟩
  · cases h
    obtain ⟨a, xs, rfl, hx, rx⟩ := rx.tuple
    exact .inr ⟨a, xs, rfl, hx, fun p np => ro_tup q hF rx.reverse np⟩
  · cases h
end

/-! #### ranges as values -/
section
variable {K : PySem.W.Frag}
theorem reps_map {K : PySem.W.Frag} {F : Addr → Prop} {H : Hp} {f : Nat → D} {g : Nat → V} (h : ∀ i, Rep K F H (f i) (g i)) : ∀ l : List Nat, Reps K F H (l.map f) (l.map g)
  | [] => .nil
  | x :: r => .cons (h x) (reps_map h r)
theorem reps_rg {K : PySem.W.Frag} {F : Addr → Prop} {H : Hp} (a b : Int) : Reps K F H (rgD a b) (rgV a b) := reps_map (fun i => .int _) _
theorem rg_ok {a b : Int} (h : rgOk a b) : RgOk a b := h
theorem rs_tupR1 : RS1 K .tupR (fun x H Q => ∃ n, x = .int n ∧ RgOk 0 n ∧ ∀ q, H q = none → Q (.ref q) (upd H q (.tup (rgV 0 n)))) := by
  intro F Z H d x rv Q hF rx h q
  have h : tupRf (.int 0) d = some rv := h
  cases d with
  | int n =>
    cases rx.int
    have h : (if rgOk 0 n then some (Rv.val (.tuple (rgD 0 n))) else none) = some rv := h
    split at h
    · rename_i hz
      cases h
      exact ⟨_, rfl, rg_ok hz, fun p np => ro_tup q hF (reps_rg _ _) np⟩
    · cases h
  | _ => cases h
theorem rs_lstR1 : RS1 K .lstR (fun x H Q => ∃ n, x = .int n ∧ RgOk 0 n ∧ ∀ q, H q = none → Q (.ref q) (upd H q (.lst (rgV 0 n)))) := by
  intro F Z H d x rv Q hF rx h q
  have h : lstRf (.int 0) d = some rv := h
  cases d with
  | int n =>
    cases rx.int
    have h : (if rgOk 0 n then some (Rv.new (.lst (rgD 0 n))) else none) = some rv := h
    split at h
    · rename_i hz
      cases h
      exact ⟨_, rfl, rg_ok hz, fun p np => ro_lst q hF (reps_rg _ _) np⟩
    · cases h
  | _ => cases h
theorem rs_tupR2 : RS2 K .tupR (fun x y H Q => ∃ i j, x = .int i ∧ y = .int j ∧ RgOk i j ∧ ∀ q, H q = none → Q (.ref q) (upd H q (.tup (rgV i j)))) := by
  intro F Z H d e x y rv Q hF rx ry h q
  have h : tupRf d e = some rv := h
  unfold tupRf at h
  split at h
  · split at h
    · rename_i hz
      cases h; cases rx.int; cases ry.int
      exact ⟨_, _, rfl, rfl, rg_ok hz, fun p np => ro_tup q hF (reps_rg _ _) np⟩
    · cases h
  · cases h
theorem rs_lstR2 : RS2 K .lstR (fun x y H Q => ∃ i j, x = .int i ∧ y = .int j ∧ RgOk i j ∧ ∀ q, H q = none → Q (.ref q) (upd H q (.lst (rgV i j)))) := by
  intro F Z H d e x y rv Q hF rx ry h q
  have h : lstRf d e = some rv := h
  unfold lstRf at h
  split at h
  · split at h
    · rename_i hz
      cases h; cases rx.int; cases ry.int
      exact ⟨_, _, rfl, rfl, rg_ok hz, fun p np => ro_lst q hF (reps_rg _ _) np⟩
    · cases h
  · cases h
end
/-! #### methods that change their list -/
/-- a method's reading does what mmf says -/
def RM (K : PySem.W.Frag) (m : Mm) (r : V → List V → Hp → VK → Prop) : Prop :=
  ∀ (F : Addr → Prop) (H : Hp) (a : Addr) (mo mo' : Mo) (ds : List D) (vs : List V) (d : D) (Q : VK), Reps K F H ds vs → MRep K F H a mo → ¬ F a → mmf m mo ds = some (mo', d) →
    (∀ v o, MRep K F (upd H a o) a mo' → Rep K F (upd H a o) d v → Q v (upd H a o)) → r (.ref a) vs H Q
section
variable {K : PySem.W.Frag} {F Z : Addr → Prop} {H : Hp}
theorem stay_at {a : Addr} {o o' : HO} (h : H a = some o) (nt : ∀ xs, o ≠ .tup xs) (nz : ∀ ob u, o ≠ .frz ob u) (hF : ¬ F a) : Stay F H (upd H a o') := .upd h nt nz hF
theorem lst_stay {a : Addr} {vs : List V} {o' : HO} (h : H a = some (.lst vs)) (hF : ¬ F a) : Stay F H (upd H a o') := stay_at h (fun _ z => nomatch z) (fun _ _ z => nomatch z) hF
theorem Rep.nonRef {d : D} {v : V} (r : Rep K F H d v) : Rep K F H d v := r
theorem reps1 {d : D} {vs : List V} (r : Reps K F H [d] vs) : ∃ v, vs = [v] ∧ Rep K F H d v := by
  cases r with
  | cons h t => cases t; exact ⟨_, rfl, h⟩
theorem reps2 {d e : D} {vs : List V} (r : Reps K F H [d, e] vs) : ∃ v w, vs = [v, w] ∧ Rep K F H d v ∧ Rep K F H e w := by
  cases r with
  | cons h t =>
    obtain ⟨w, e, q⟩ := reps1 t
    exact ⟨_, w, by rw [e], h, q⟩
theorem rep_int {i : Int} {v : V} (r : Rep K F H (.int i) v) : v = .int i := by cases r; rfl
theorem rm_append : RM K .append rAppend := by
  intro F H a mo mo' ds vs d Q rs hm hF h q
  replace h : appendf mo ds = some (mo', d) := h
  unfold appendf at h
  split at h <;> try (cases h; done)
  rename_i es x
  split at h
  · rename_i hz
    cases h
    obtain ⟨v, rfl, rv⟩ := reps1 rs
    obtain ⟨ws, h1, h2⟩ := hm
    have rx := rv
    have st : Stay F H (upd H a (.lst (ws ++ [v]))) := lst_stay h1 hF
    exact ⟨a, ws, v, rfl, rfl, h1, by rw [← h2.length]; exact hz, q .non _ ⟨_, upd_same, (h2.append (.cons rx .nil)).stay st fun _ x => x⟩ .non⟩
  · cases h
theorem rm_pop : RM K .pop rPop := by
  intro F H a mo mo' ds vs d Q rs hm hF h q
  replace h : popf mo ds = some (mo', d) := h
  unfold popf at h
  split at h <;> try (cases h; done)
  rename_i es
  obtain ⟨x, e1, e2⟩ := Option.map_eq_some_iff.mp h
  cases e2
  cases rs
  obtain ⟨ws, h1, h2⟩ := hm
  obtain ⟨v, hv, rv⟩ := h2.get e1
  have st : Stay F H (upd H a (.lst ws.dropLast)) := lst_stay h1 hF
  exact ⟨a, ws, v, rfl, rfl, h1, by rw [← h2.length]; exact hv, q v _ ⟨_, upd_same, h2.dropLast.stay st fun _ x => x⟩ (rv.stay st fun _ x => x)⟩
theorem rm_popAt : RM K .popAt rPopAt := by
  intro F H a mo mo' ds vs d Q rs hm hF h q
  replace h : popAtf mo ds = some (mo', d) := h
  unfold popAtf at h
  split at h <;> try (cases h; done)
  rename_i es i
  split at h
  · rename_i hz
    obtain ⟨k, e0, h⟩ := Option.bind_eq_some_iff.mp h
    obtain ⟨x, e1, e2⟩ := Option.map_eq_some_iff.mp h
    cases e2
    obtain ⟨v0, rfl, rv0⟩ := reps1 rs
    cases rep_int rv0
    obtain ⟨ws, h1, h2⟩ := hm
    obtain ⟨v, hv, rv⟩ := h2.get e1
    have st : Stay F H (upd H a (.lst (ws.eraseIdx k))) := lst_stay h1 hF
    exact ⟨a, ws, i, k, v, rfl, rfl, h1, by omega, by omega, (ixN_seq (by rw [← h2.length]; exact e0)).1, hv, q v _ ⟨_, upd_same, (h2.erase k).stay st fun _ x => x⟩ (rv.stay st fun _ x => x)⟩
  · cases h
theorem rm_reverse : RM K .reverse rReverse := by
  intro F H a mo mo' ds vs d Q rs hm hF h q
  replace h : reversef mo ds = some (mo', d) := h
  unfold reversef at h
  split at h
  rotate_left
  · cases h
  cases h
  cases rs
  obtain ⟨ws, h1, h2⟩ := hm
  have st : Stay F H (upd H a (.lst ws.reverse)) := lst_stay h1 hF
  exact ⟨a, ws, rfl, rfl, h1, q .non _ ⟨_, upd_same, h2.reverse.stay st fun _ x => x⟩ .non⟩
abbrev rIns : V → List V → Hp → VK → Prop := fun x vs H Q => ∃ (l : Addr) (xs : List V) (i : Int) (y : V), x = .ref l ∧ vs = [.int i, y] ∧ H l = some (.lst xs) ∧ xs.length < sizeLine ∧ 0 ≤ i ∧ i < 2 ^ 63 ∧
  Q .non (upd H l (.lst (xs.take i.toNat ++ [y] ++ xs.drop i.toNat)))
theorem rm_insert : RM K .insert rIns := by
  intro F H a mo mo' ds vs d Q rs hm hF h q
  replace h : insertf mo ds = some (mo', d) := h
  unfold insertf at h
  split at h <;> try (cases h; done)
  rename_i es i x
  split at h
  · rename_i hz
    cases h
    obtain ⟨v, w, rfl, rv, rw'⟩ := reps2 rs
    cases rep_int rv
    obtain ⟨ws, h1, h2⟩ := hm
    have rx := rw'
    have st : Stay F H (upd H a (.lst (ws.take i.toNat ++ [w] ++ ws.drop i.toNat))) := lst_stay h1 hF
    exact ⟨a, ws, i, w, rfl, rfl, h1, by rw [← h2.length]; exact hz.1, hz.2.1, by omega, q .non _ ⟨_, upd_same, (((h2.take _).append (.cons rx .nil)).append (h2.drop _)).stay st fun _ x => x⟩ .non⟩
  · cases h
/-- x[i] = v -/
def rSetDK : V → V → V → Hp → (Hp → Prop) → Prop := fun o i v H Q => ∃ p H', o = .ref p ∧ DPut H p i v H' ∧ Q H'
abbrev rSet2 : V → V → V → Hp → (Hp → Prop) → Prop := fun o i v H Q => rSetL o i v H Q ∨ rSetDK o i v H Q
theorem set_dict {X : Cx} (hu : X.A.units + 1 < cLine) : PSet X rSetDK := by
  intro pins s σ H o i v ov iv u Q I ro ri rv h
  obtain ⟨p, H', rfl, g, q⟩ := h
  cases ro
  exact d_setItem hu I g ri rv fun s' I' => ⟨_, I', q⟩
theorem set_2 {X : Cx} (hu : X.A.units + 65 < cLine) : PSet X rSet2 := fun pins s σ H o i v ov iv u Q I ro ri rv h => h.elim (set_list pins s σ H o i v ov iv u Q I ro ri rv) (set_dict (by omega) pins s σ H o i v ov iv u Q I ro ri rv)
theorem any_keys {α β : Type} {kvs : List (Key × α)} {hk : List (Key × β)} {k : Key} (h : hk.map (·.1) = kvs.map (·.1)) : (hk.any fun p => decide (p.1 = k)) = kvs.any fun p => decide (p.1 = k) := by
  have e1 : (hk.any fun p => decide (p.1 = k)) = (hk.map (·.1)).any fun x => decide (x = k) := by rw [List.any_map]; rfl
  have e2 : (kvs.any fun p => decide (p.1 = k)) = (kvs.map (·.1)).any fun x => decide (x = k) := by rw [List.any_map]; rfl
  rw [e1, e2, h]
theorem put_keys {kvs : List (Key × D)} {hk : List (Key × V)} {k : Key} {d : D} {v : V} (h : hk.map (·.1) = kvs.map (·.1)) : (putK hk k v).map (·.1) = (putD kvs k d).map (·.1) := by
  unfold putK putD
  rw [any_keys h]
  split
  · rw [List.map_map, List.map_map]
    have e1 : ((fun x : Key × V => x.1) ∘ fun kv => if kv.1 = k then (kv.1, v) else kv) = fun x => x.1 := by funext x; show (if x.1 = k then (x.1, v) else x).1 = x.1; split <;> rfl
    have e2 : ((fun x : Key × D => x.1) ∘ fun p => if p.1 = k then (p.1, d) else p) = fun x => x.1 := by funext x; show (if x.1 = k then (x.1, d) else x).1 = x.1; split <;> rfl
    rw [e1, e2, h]
  · rw [List.map_append, List.map_append, h]; rfl
theorem put_map {K : PySem.W.Frag} {F : Addr → Prop} {H : Hp} {k : Key} {d : D} {v : V} (rd : Rep K F H d v) : ∀ {kvs : List (Key × D)} {hk : List (Key × V)}, hk.map (·.1) = kvs.map (·.1) → Reps K F H (kvs.map (·.2)) (hk.map (·.2)) →
    Reps K F H ((kvs.map fun p => if p.1 = k then (p.1, d) else p).map (·.2)) ((hk.map fun p => if p.1 = k then (p.1, v) else p).map (·.2))
  | [], [], _, _ => .nil
  | [], _ :: _, h, _ => by cases h
  | _ :: _, [], h, _ => by cases h
  | (a, x) :: r, (b, y) :: s, h, q => by
    rw [List.map_cons, List.map_cons] at h
    injection h with h1 h2
    have h1 : b = a := h1
    subst h1
    cases q with
    | cons q1 q2 =>
      rw [List.map_cons, List.map_cons, List.map_cons, List.map_cons]
      refine .cons ?_ (put_map rd h2 q2)
      by_cases e : b = k
      · rw [if_pos e, if_pos e]; exact rd
      · rw [if_neg e, if_neg e]; exact q1
theorem put_vals {K : PySem.W.Frag} {F : Addr → Prop} {H : Hp} {kvs : List (Key × D)} {hk : List (Key × V)} {k : Key} {d : D} {v : V} (h : hk.map (·.1) = kvs.map (·.1)) (r : Reps K F H (kvs.map (·.2)) (hk.map (·.2))) (rd : Rep K F H d v) : Reps K F H ((putD kvs k d).map (·.2)) ((putK hk k v).map (·.2)) := by
  unfold putK putD
  rw [any_keys h]
  split
  · exact put_map rd h r
  · rw [List.map_append, List.map_append]
    exact r.append (.cons rd .nil)
theorem rm_set {a : Addr} {mo mo' : Mo} {k d : D} {x v : V} {Q : Hp → Prop} (rx : RepB K F Z H k x) (rd : Rep K F H d v) (hm : MRep K F H a mo) (hF : ¬ F a) (h : setf mo k d = some mo')
    (q : ∀ o, MRep K F (upd H a o) a mo' → Q (upd H a o)) : rSet2 (.ref a) x v H Q := by
  unfold setf at h
  split at h
  · obtain ⟨j, e1, e2⟩ := Option.map_eq_some_iff.mp h
    subst e2
    cases rx.int
    obtain ⟨ws, h1, h2⟩ := hm
    have st : Stay F H (upd H a (.lst (ws.set j v))) := lst_stay h1 hF
    exact .inl ⟨a, ws, _, j, rfl, rfl, h1, by rw [← h2.length]; exact e1, q _ ⟨_, upd_same, (h2.set rd j).stay st fun _ x => x⟩⟩
  · rename_i kvs i
    split at h
    · rename_i hl
      cases h
      cases rx.int
      obtain ⟨hk, h1, h2, h3⟩ := hm
      have el : hk.length = kvs.length := by
        have := congrArg List.length h2
        rwa [List.length_map, List.length_map] at this
      have st : Stay F H (upd H a (.dK (putK hk (.inl i) v))) := Stay.upd h1 (fun _ z => nomatch z) (fun _ _ z => nomatch z) hF
      refine .inr ⟨a, _, rfl, DPut.k (k := .inl i) h1 (by rw [el, sizeLine_eq]; exact hl), q _ ⟨_, upd_same, put_keys h2, ?_⟩⟩
      exact (put_vals h2 h3 rd).stay st fun _ x => x
    · cases h
  · cases h
end
end Pv

namespace Pv
open PySem PySem.Spec PyProof.Rows L2

/-! ### slots that belong to the caller keep their kind -/
def kd1 : Option Sl → Nat
  | some (.io _) => 1
  | some (.brw _) => 2
  | _ => 0
abbrev kd (env : Env') (j : Nat) : Nat := kd1 env[j]?
theorem kd_set (env : Env') (i j : Nat) (s : Sl) : kd (env.set i s) j = if j = i ∧ i < env.length then kd1 (some s) else kd env j := by
  unfold kd
  rw [List.getElem?_set]
  by_cases h : i = j
  · subst h
    by_cases hl : i < env.length
    · simp [hl]
    · simp [hl, kd1]
  · simp [h, Ne.symm h]
theorem kd_set0 {env : Env'} {i j : Nat} {s : Sl} (h : kd1 (some s) = kd env i) : kd (env.set i s) j = kd env j := by
  rw [kd_set]
  split
  · rename_i q; rw [h, q.1]
  · rfl
theorem free_kd {s : Sl} (h : s.free = true) : kd1 (some s) = 0 := by cases s <;> first | rfl | cases h
theorem setAt_kd {env env' : Env'} {i : Nat} {s : Sl} (h : setAt i s env = some env') (hs : kd1 (some s) = 0) (j : Nat) : kd env' j = kd env j := by
  unfold setAt at h
  split at h
  · rename_i t e
    split at h
    · rename_i hf
      cases h
      refine kd_set0 ?_
      show _ = kd1 env[i]?
      rw [hs, e, free_kd hf]
    · cases h
  · cases h
theorem setAll_kd : ∀ {is : List Nat} {ds : List D} {env env' : Env'}, setAll is ds env = some env' → ∀ j, kd env' j = kd env j
  | [], [], env, env', h, j => by cases h; rfl
  | i :: is, d :: ds, env, env', h, j => by
    unfold setAll at h
    obtain ⟨e1, h1, h2⟩ := Option.bind_eq_some_iff.mp h
    rw [setAll_kd h2 j, setAt_kd h1 rfl j]
  | [], _ :: _, _, _, h, _ => by cases h
  | _ :: _, [], _, _, h, _ => by cases h
theorem setTg_kd {tg : Tg} {d : D} {env env' : Env'} (h : setTg tg d env = some env') (j : Nat) : kd env' j = kd env j := by
  unfold setTg at h
  split at h
  · exact setAt_kd h rfl j
  · exact setAll_kd h j
  · exact setAll_kd h j
  · cases h
theorem unb_kd {env env' : Env'} (hl : env.length = env'.length) (h : ∀ j, kd env' j = kd env j ∨ kd env' j = 2) (j : Nat) : kd (unb env env') j = kd env j := by
  have q := h j
  unfold kd at q ⊢
  rw [unb_get]
  cases h1 : env[j]? with
  | none =>
    have : env'[j]? = none := by rw [List.getElem?_eq_none_iff, ← hl]; exact List.getElem?_eq_none_iff.mp h1
    rw [this]
  | some x =>
    cases h2 : env'[j]? with
    | none =>
      have h3 : env.length ≤ j := by rw [hl]; exact List.getElem?_eq_none_iff.mp h2
      rw [List.getElem?_eq_none h3] at h1; cases h1
    | some y =>
      rw [h1, h2] at q
      cases x <;> cases y <;> simp_all [unb1, kd1]
/-- the same length, the same kinds -/
def Kin (a b : Env') : Prop := b.length = a.length ∧ ∀ j, kd b j = kd a j
/-- .. but for marks -/
def Kin2 (a b : Env') : Prop := b.length = a.length ∧ ∀ j, kd b j = kd a j ∨ kd b j = 2
theorem Kin.refl (a : Env') : Kin a a := ⟨rfl, fun _ => rfl⟩
theorem Kin.trans {a b c : Env'} (x : Kin a b) (y : Kin b c) : Kin a c := ⟨y.1.trans x.1, fun j => (y.2 j).trans (x.2 j)⟩
theorem Kin.two {a b : Env'} (x : Kin a b) : Kin2 a b := ⟨x.1, fun j => .inl (x.2 j)⟩
theorem Kin2.trans {a b c : Env'} (x : Kin2 a b) (y : Kin2 b c) : Kin2 a c := ⟨y.1.trans x.1, fun j => by
  rcases y.2 j with q | q
  · rw [q]; exact x.2 j
  · exact .inr q⟩
theorem Kin2.unb {a b : Env'} (x : Kin2 a b) : Kin a (unb a b) := ⟨(unb_length _ _).trans x.1, unb_kd x.1.symm x.2⟩
theorem Kin.set {a : Env'} {i : Nat} {s : Sl} (h : kd1 (some s) = kd a i) : Kin a (a.set i s) := ⟨List.length_set, fun _ => kd_set0 h⟩
theorem Kin.mark {a : Env'} {i : Nat} {m : Mo} : Kin2 a (a.set i (.brw m)) := ⟨List.length_set, fun j => by
  rw [kd_set]; split
  · exact .inr rfl
  · exact .inl rfl⟩
theorem Kin.setAt {env env' : Env'} {i : Nat} {s : Sl} (h : setAt i s env = some env') (hs : kd1 (some s) = 0) : Kin env env' := by
  refine ⟨?_, setAt_kd h hs⟩
  unfold Pv.setAt at h
  split at h
  · split at h
    · cases h; exact List.length_set
    · cases h
  · cases h
theorem Kin.setAll : ∀ {is : List Nat} {ds : List D} {env env' : Env'}, setAll is ds env = some env' → Kin env env'
  | [], [], env, env', h => by cases h; exact .refl _
  | i :: is, d :: ds, env, env', h => by
    unfold Pv.setAll at h
    obtain ⟨e1, h1, h2⟩ := Option.bind_eq_some_iff.mp h
    exact (Kin.setAt h1 rfl).trans (Kin.setAll h2)
  | [], _ :: _, _, _, h => by cases h
  | _ :: _, [], _, _, h => by cases h
theorem Kin.setTg {tg : Tg} {d : D} {env env' : Env'} (h : setTg tg d env = some env') : Kin env env' := by
  unfold Pv.setTg at h
  split at h
  · exact .setAt h rfl
  · exact .setAll h
  · exact .setAll h
  · cases h
def quiet0 (env : Env') (own : List Nat) : Prop := ∀ v ∈ own, kd env v = 0
theorem Kin.quiet {a b : Env'} {own : List Nat} (k : Kin a b) (h : quiet0 a own) : quiet0 b own := fun v hv => (k.2 v).trans (h v hv)
theorem Kin.wipe {a : Env'} : ∀ {own : List Nat}, quiet0 a own → Kin a (wipeE a own)
  | [], _ => .refl _
  | v :: vs, h => by
    have k := Kin.wipe (own := vs) (a := a) fun w hw => h w (List.mem_cons_of_mem _ hw)
    exact k.trans (.set (s := .no) (by rw [k.2 v, h v List.mem_cons_self]; rfl))
theorem quiet_of {env : Env'} {own : List Nat} (h : quiet env own = true) : quiet0 env own := fun v hv => by
  have q := List.all_eq_true.mp h v hv
  unfold kd
  rw [List.getD_eq_getElem?_getD] at q
  cases e : env[v]? with
  | none => rfl
  | some s => rw [e] at q; cases s <;> first | rfl | cases q
theorem Kin.back {a b : Env'} : ∀ {own : List Nat}, Pv.quiet a own = true → Kin a b → Kin a (backE a b own)
  | [], _, k => k
  | v :: vs, h, k => by
    have hq : Pv.quiet a vs = true := List.all_eq_true.mpr fun w hw => List.all_eq_true.mp h w (List.mem_cons_of_mem _ hw)
    have k1 := Kin.back (own := vs) hq k
    have q0 := quiet_of h v List.mem_cons_self
    have q := List.all_eq_true.mp h v List.mem_cons_self
    refine k1.trans (.set (s := a.getD v .no) ?_)
    rw [k1.2 v, q0]
    rw [List.getD_eq_getElem?_getD] at q ⊢
    cases e : (a[v]?).getD .no with
    | no => rfl
    | val d => rfl
    | loc m => rw [e] at q; cases q
    | io m => rw [e] at q; cases q
    | brw m => rw [e] at q; cases q
theorem Kin.compL {own : List Nat} {tg : Tg} {body : Env' → Option (Option D × Env')} (hb : ∀ e o e', body e = some (o, e') → Kin e e') : ∀ {xs : List D} {env env' : Env'} {ys : List D}, quiet0 env own → compL own tg body xs env = some (ys, env') → Kin env env'
  | [], env, env', ys, _, h => by unfold Pv.compL at h; cases h; exact .refl _
  | x :: xs, env, env', ys, q, h => by
    unfold Pv.compL at h
    obtain ⟨e1, h1, h⟩ := Option.bind_eq_some_iff.mp h
    obtain ⟨⟨o, e2⟩, h2, h⟩ := Option.bind_eq_some_iff.mp h
    obtain ⟨⟨zs, e3⟩, h3, h⟩ := Option.bind_eq_some_iff.mp h
    cases h
    have k := ((Kin.wipe q).trans (Kin.setTg h1)).trans (hb _ _ _ h2)
    exact k.trans (Kin.compL hb (k.quiet q) h3)
theorem Kin.reAt {a b : Env'} {i : Nat} (hl : b.length = a.length) (h : ∀ j, j ≠ i → kd b j = kd a j) (hi : kd b i = kd a i ∨ kd b i = 2) : Kin a (reAt (some i) a b) := by
  unfold Pv.reAt
  simp only
  split
  · rename_i s t e1 e2
    have hi' : i < b.length := (List.getElem?_eq_some_iff.mp e2).1
    refine ⟨List.length_set.trans hl, fun j => ?_⟩
    rw [kd_set]
    by_cases hj : j = i
    · rw [if_pos ⟨hj, hi'⟩]
      subst hj
      unfold kd at hi ⊢
      rw [e1, e2] at hi
      rw [e1]
      cases s <;> cases t <;> simp_all [unb1, kd1]
    · rw [if_neg fun z => hj z.1]
      exact h j hj
  · rename_i hno
    refine ⟨hl, fun j => ?_⟩
    by_cases hj : j = i
    · subst hj
      unfold kd
      cases e1 : a[j]? with
      | none =>
        have : b[j]? = none := by rw [List.getElem?_eq_none_iff, hl]; exact List.getElem?_eq_none_iff.mp e1
        rw [this]
      | some x =>
        cases e2 : b[j]? with
        | none =>
          have h3 : a.length ≤ j := by rw [← hl]; exact List.getElem?_eq_none_iff.mp e2
          rw [List.getElem?_eq_none h3] at e1; cases e1
        | some y => exact absurd e2 (hno x y e1)
    · exact h j hj
theorem put_kd {s : Sl} {m : Mo} (h : kd1 (some s) ≠ 2) : kd1 (some (s.put m)) = kd1 (some s) := by
  cases s <;> first | rfl | exact absurd rfl h
theorem own_kd {s : Sl} {m : Mo} (h : s.own = some m) : kd1 (some s) ≠ 2 := by
  cases s <;> first | (cases h; done) | exact fun z => nomatch z
theorem putBack_kin : ∀ {ag : List Ag} {r : List Sl} {env env' : Env'}, (∀ i ∈ pends ag, ∃ s m, env[i]? = some s ∧ s.own = some m) → putBack ag r env = some env' → Kin env env'
  | [], _, env, env', _, h => by cases h; exact .refl _
  | .sl x :: ag, _ :: r, env, env', hp, h => putBack_kin (ag := ag) hp h
  | .pend i :: ag, .io m :: r, env, env', hp, h => by
    unfold putBack at h
    obtain ⟨x, hx, h⟩ := Option.bind_eq_some_iff.mp h
    obtain ⟨s, m0, h1, h2⟩ := hp i List.mem_cons_self
    rw [hx] at h1; cases h1
    have k : Kin env (env.set i (x.put m)) := .set (by unfold kd; rw [put_kd (own_kd h2), hx])
    refine k.trans (putBack_kin (fun j hj => ?_) h)
    obtain ⟨s', m', q1, q2⟩ := hp j (List.mem_cons_of_mem _ hj)
    by_cases e : j = i
    · subst e
      have hl := (List.getElem?_eq_some_iff.mp hx).1
      refine ⟨x.put m, m, by rw [List.getElem?_set_self hl], ?_⟩
      cases x <;> first | rfl | cases h2
    · exact ⟨s', m', by rw [List.getElem?_set_ne (Ne.symm e)]; exact q1, q2⟩
  | .sl _ :: _, [], _, _, _, h => by cases h
  | .pend _ :: _, [], _, _, _, h => by cases h
  | .pend _ :: _, .no :: _, _, _, _, h => by cases h
  | .pend _ :: _, .val _ :: _, _, _, _, h => by cases h
  | .pend _ :: _, .loc _ :: _, _, _, _, h => by cases h
  | .pend _ :: _, .brw _ :: _, _, _, _, h => by cases h
theorem getArgs_own {env : Env'} : ∀ {ag : List Ag} {sl : List Sl}, getArgs env ag = some sl → ∀ i ∈ pends ag, ∃ s m, env[i]? = some s ∧ s.own = some m
  | [], _, _, i, hi => absurd hi (by simp [pends])
  | .sl s :: r, sl, h, i, hi => by
    unfold getArgs at h
    obtain ⟨t, h1, h⟩ := Option.bind_eq_some_iff.mp h
    exact getArgs_own h1 i hi
  | .pend j :: r, sl, h, i, hi => by
    unfold getArgs at h
    obtain ⟨x, h1, h⟩ := Option.bind_eq_some_iff.mp h
    obtain ⟨m, h2, h⟩ := Option.bind_eq_some_iff.mp h
    obtain ⟨t, h3, h⟩ := Option.bind_eq_some_iff.mp h
    rcases List.mem_cons.mp hi with rfl | hi
    · exact ⟨x, m, h1, h2⟩
    · exact getArgs_own h3 i hi
theorem fg1_kin (i : Nat) (env : Env') : Kin env (fg1 i env) := by
  unfold fg1
  split
  · rename_i s hs
    split
    · rename_i hf
      exact .set (by unfold kd; rw [hs, free_kd hf]; rfl)
    · exact .refl _
  · exact .refl _
theorem fgE_kin : ∀ (is : List Nat) (env : Env'), Kin env (fgE is env)
  | [], env => .refl env
  | i :: r, env => (fg1_kin i env).trans (fgE_kin r (fg1 i env))
theorem fgC_kin (c : Ctl) (is : List Nat) (env : Env') : Kin env (fgC c is env) := by
  cases c <;> first | exact fgE_kin is env | exact .refl env
section
variable {gl : Nat → D} {cf : Nat → List Sl → Option (Rv × List Sl)}
mutual
theorem evE_kin : ∀ {e : E} {env env' : Env'} {rv : Rv}, evE gl cf e env = some (rv, env') → Kin env env' := by
  intro e env env' rv h
  cases e with
  | cst d => unfold evE at h; cases h; exact .refl _
  | var i =>
    unfold evE at h
    split at h
    · cases h; exact .refl _
    · rename_i e; cases h; exact .set (by unfold kd; rw [e]; rfl)
    · cases h
  | brw i => unfold evE at h; cases h
  | mov i =>
    unfold evE at h
    split at h
    · rename_i e; cases h; exact .set (by unfold kd; rw [e]; rfl)
    · cases h
  | glb g => unfold evE at h; cases h; exact .refl _
  | dct => unfold evE at h; cases h; exact .refl _
  | op o es =>
    unfold evE at h
    obtain ⟨⟨ds, e1⟩, h1, h⟩ := Option.bind_eq_some_iff.mp h
    obtain ⟨r, _, h⟩ := Option.bind_eq_some_iff.mp h
    cases h
    obtain ⟨k1, k2⟩ := evEs_kin h1
    split
    · exact k1.unb
    · rename_i hb; exact k2 (by simpa using hb)
  | tup es =>
    unfold evE at h
    obtain ⟨⟨ds, e1⟩, h1, h⟩ := Option.bind_eq_some_iff.mp h
    obtain ⟨k1, k2⟩ := evEs_kin h1
    dsimp only at h
    split at h
    · rename_i hb; cases h; exact k2 hb.1
    · cases h
  | lst es =>
    unfold evE at h
    obtain ⟨⟨ds, e1⟩, h1, h⟩ := Option.bind_eq_some_iff.mp h
    obtain ⟨k1, k2⟩ := evEs_kin h1
    dsimp only at h
    split at h
    · rename_i hb; cases h; exact k2 hb.1
    · cases h
  | and a b =>
    unfold evE at h
    obtain ⟨p, h1, h⟩ := Option.bind_eq_some_iff.mp h
    split at h
    · exact (evE_kin h1).trans (evE_kin h)
    · cases h; exact evE_kin h1
    · cases h
  | or a b =>
    unfold evE at h
    obtain ⟨p, h1, h⟩ := Option.bind_eq_some_iff.mp h
    split at h
    · cases h; exact evE_kin h1
    · exact (evE_kin h1).trans (evE_kin h)
    · cases h
  | not a =>
    unfold evE at h
    obtain ⟨p, h1, h⟩ := Option.bind_eq_some_iff.mp h
    split at h
    · cases h; exact evE_kin h1
    · cases h
  | ife c a b =>
    unfold evE at h
    obtain ⟨p, h1, h⟩ := Option.bind_eq_some_iff.mp h
    split at h
    · exact (evE_kin h1).trans (evE_kin h)
    · exact (evE_kin h1).trans (evE_kin h)
    · cases h
  | chn o1 o2 a b c =>
    unfold evE at h
    obtain ⟨⟨ra, e1⟩, h1, h⟩ := Option.bind_eq_some_iff.mp h
    obtain ⟨⟨rb, e2⟩, h2, h⟩ := Option.bind_eq_some_iff.mp h
    obtain ⟨q, _, h⟩ := Option.bind_eq_some_iff.mp h
    have k := (evE_kin h1).trans (evE_kin h2)
    split at h
    · obtain ⟨⟨rc, e3⟩, h3, h⟩ := Option.bind_eq_some_iff.mp h
      obtain ⟨r, _, h⟩ := Option.bind_eq_some_iff.mp h
      cases h
      exact k.trans (evE_kin h3)
    · cases h; exact k
    · cases h
  | call f es =>
    unfold evE at h
    obtain ⟨⟨ag, e1⟩, h1, h⟩ := Option.bind_eq_some_iff.mp h
    dsimp only at h
    split at h
    · obtain ⟨sl, h2, h⟩ := Option.bind_eq_some_iff.mp h
      obtain ⟨⟨r, sl'⟩, _, h⟩ := Option.bind_eq_some_iff.mp h
      obtain ⟨e2, h3, h⟩ := Option.bind_eq_some_iff.mp h
      cases h
      obtain ⟨k1, k2⟩ := evAs_kin h1
      have k := putBack_kin (getArgs_own h2) h3
      split
      · exact (k1.trans k.two).unb
      · rename_i hb; exact (k2 (by simpa using hb)).trans k
    · cases h
  | mth m i es =>
    unfold evE at h
    obtain ⟨s0, _, h⟩ := Option.bind_eq_some_iff.mp h
    obtain ⟨m0, _, h⟩ := Option.bind_eq_some_iff.mp h
    split at h
    · cases h
    · rename_i hb
      obtain ⟨⟨ds, e1⟩, h1, h⟩ := Option.bind_eq_some_iff.mp h
      obtain ⟨k1, k2⟩ := evEs_kin h1
      have k := k2 (by simp only [not_or] at hb; simpa using hb.2)
      obtain ⟨s, hs, h⟩ := Option.bind_eq_some_iff.mp h
      obtain ⟨mo, ho, h⟩ := Option.bind_eq_some_iff.mp h
      obtain ⟨⟨mo', d⟩, _, h⟩ := Option.bind_eq_some_iff.mp h
      cases h
      refine k.trans (.set ?_)
      have n2 : kd1 (some s) ≠ 2 := by cases s <;> first | (cases ho; done) | exact fun z => nomatch z
      unfold kd
      rw [put_kd n2, hs]
  | comp own tg it cs elt =>
    unfold evE at h
    obtain ⟨⟨xs, e1⟩, h1, h⟩ := Option.bind_eq_some_iff.mp h
    dsimp only at h
    split at h
    · rename_i hq
      obtain ⟨⟨ys, e2⟩, h2, h⟩ := Option.bind_eq_some_iff.mp h
      cases h
      have kb := Kin.back (b := e2) hq.1 (Kin.compL (fun e o e' hb => by
        obtain ⟨⟨b, e3⟩, h3, hb⟩ := Option.bind_eq_some_iff.mp hb
        dsimp only at hb
        split at hb
        · obtain ⟨⟨rv, e4⟩, h4, hb⟩ := Option.bind_eq_some_iff.mp hb
          cases hb
          exact (evCs_kin h3).trans (evE_kin h4)
        · cases hb; exact evCs_kin h3) (quiet_of hq.1) h2)
      rcases evI_kin h1 with ⟨hn, k⟩ | ⟨i, hn, hl, hne, hi⟩
      · rw [hn]; exact k.trans kb
      · rw [hn]
        exact .reAt (kb.1.trans hl) (fun j hj => (kb.2 j).trans (hne j hj)) (by rw [kb.2 i]; exact hi)
    · cases h
  | fz e =>
    unfold evE at h
    obtain ⟨⟨r0, e1⟩, h1, h⟩ := Option.bind_eq_some_iff.mp h
    cases h
    exact evE_kin h1
theorem evEs_kin : ∀ {es : Es} {env env' : Env'} {ds : List D}, evEs gl cf es env = some (ds, env') → Kin2 env env' ∧ (es.hasB = false → Kin env env') := by
  intro es env env' ds h
  cases es with
  | nil => unfold evEs at h; cases h; exact ⟨(Kin.refl _).two, fun _ => .refl _⟩
  | cons e es =>
    by_cases hb : ∃ i, e = .brw i
    · obtain ⟨i, rfl⟩ := hb
      unfold evEs at h
      split at h
      all_goals (first | (cases h; done) | skip)
      all_goals (
        obtain ⟨⟨ds', e2⟩, h2, h⟩ := Option.bind_eq_some_iff.mp h
        cases h
        obtain ⟨k1, k2⟩ := evEs_kin h2)
      · exact ⟨k1, fun z => absurd z (by simp [Es.hasB])⟩
      · exact ⟨Kin.mark.trans k1, fun z => absurd z (by simp [Es.hasB])⟩
      · exact ⟨Kin.mark.trans k1, fun z => absurd z (by simp [Es.hasB])⟩
      · exact ⟨k1, fun z => absurd z (by simp [Es.hasB])⟩
    · rw [evEs.eq_3 _ _ _ _ _ (fun i z => hb ⟨i, z⟩)] at h
      obtain ⟨⟨rv, e1⟩, h1, h⟩ := Option.bind_eq_some_iff.mp h
      obtain ⟨⟨ds', e2⟩, h2, h⟩ := Option.bind_eq_some_iff.mp h
      cases h
      obtain ⟨k1, k2⟩ := evEs_kin h2
      refine ⟨(evE_kin h1).two.trans k1, fun z => (evE_kin h1).trans (k2 ?_)⟩
      cases e <;> first | exact absurd ⟨_, rfl⟩ hb | exact z
theorem evAs_kin : ∀ {es : Es} {env env' : Env'} {ag : List Ag}, evAs gl cf es env = some (ag, env') → Kin2 env env' ∧ (es.hasB = false → Kin env env') := by
  intro es env env' ag h
  cases es with
  | nil => unfold evAs at h; cases h; exact ⟨(Kin.refl _).two, fun _ => .refl _⟩
  | cons e es =>
    by_cases hb : ∃ i, e = .brw i
    · obtain ⟨i, rfl⟩ := hb
      unfold evAs at h
      split at h
      all_goals (first | (cases h; done) | skip)
      all_goals (
        obtain ⟨⟨ds', e2⟩, h2, h⟩ := Option.bind_eq_some_iff.mp h
        cases h
        obtain ⟨k1, k2⟩ := evAs_kin h2)
      · exact ⟨k1, fun z => absurd z (by simp [Es.hasB])⟩
      · exact ⟨Kin.mark.trans k1, fun z => absurd z (by simp [Es.hasB])⟩
      · exact ⟨Kin.mark.trans k1, fun z => absurd z (by simp [Es.hasB])⟩
      · exact ⟨k1, fun z => absurd z (by simp [Es.hasB])⟩
    · by_cases hm : ∃ i, e = .mov i
      · obtain ⟨i, rfl⟩ := hm
        unfold evAs at h
        obtain ⟨s, _, h⟩ := Option.bind_eq_some_iff.mp h
        obtain ⟨m, _, h⟩ := Option.bind_eq_some_iff.mp h
        obtain ⟨⟨ds', e2⟩, h2, h⟩ := Option.bind_eq_some_iff.mp h
        cases h
        obtain ⟨k1, k2⟩ := evAs_kin h2
        exact ⟨k1, fun z => k2 z⟩
      · rw [evAs.eq_4 _ _ _ _ _ (fun i z => hb ⟨i, z⟩) (fun i z => hm ⟨i, z⟩)] at h
        obtain ⟨⟨rv, e1⟩, h1, h⟩ := Option.bind_eq_some_iff.mp h
        obtain ⟨⟨ds', e2⟩, h2, h⟩ := Option.bind_eq_some_iff.mp h
        cases h
        obtain ⟨k1, k2⟩ := evAs_kin h2
        refine ⟨(evE_kin h1).two.trans k1, fun z => (evE_kin h1).trans (k2 ?_)⟩
        cases e <;> first | exact absurd ⟨_, rfl⟩ hb | exact z
theorem evI_kin : ∀ {it : It} {env env' : Env'} {xs : List D}, evI gl cf it env = some (xs, env') → (it.bIx = none ∧ Kin env env') ∨ (∃ i, it.bIx = some i ∧ env'.length = env.length ∧ (∀ j, j ≠ i → kd env' j = kd env j) ∧ (kd env' i = kd env i ∨ kd env' i = 2)) := by
  intro it env env' xs h
  cases it with
  | of e =>
    by_cases hb : ∃ i, e = .brw i
    · obtain ⟨i, rfl⟩ := hb
      refine .inr ⟨i, rfl, ?_⟩
      unfold evI at h
      split at h
      all_goals (first | (cases h; done) | skip)
      all_goals (
        obtain ⟨ys, h2, h⟩ := Option.bind_eq_some_iff.mp h
        cases h)
      · exact ⟨rfl, fun _ _ => rfl, .inl rfl⟩
      · exact ⟨Kin.mark.1, fun j hj => by rw [kd_set, if_neg fun z => hj z.1], Kin.mark.2 i⟩
      · exact ⟨Kin.mark.1, fun j hj => by rw [kd_set, if_neg fun z => hj z.1], Kin.mark.2 i⟩
      · exact ⟨rfl, fun _ _ => rfl, .inl rfl⟩
    · rw [evI.eq_2 _ _ _ _ (fun i z => hb ⟨i, z⟩)] at h
      obtain ⟨⟨rv, e1⟩, h1, h⟩ := Option.bind_eq_some_iff.mp h
      obtain ⟨ys, h2, h⟩ := Option.bind_eq_some_iff.mp h
      cases h
      refine .inl ⟨?_, evE_kin h1⟩
      cases e <;> first | exact absurd ⟨_, rfl⟩ hb | rfl
  | rng es =>
    unfold evI at h
    obtain ⟨⟨ds, e1⟩, h1, h⟩ := Option.bind_eq_some_iff.mp h
    obtain ⟨ys, h2, h⟩ := Option.bind_eq_some_iff.mp h
    cases h
    obtain ⟨k1, k2⟩ := evEs_kin h1
    refine .inl ⟨rfl, ?_⟩
    split
    · exact k1.unb
    · rename_i hb; exact k2 (by simpa using hb)
theorem evCs_kin : ∀ {cs : Es} {env env' : Env'} {b : Bool}, evCs gl cf cs env = some (b, env') → Kin env env' := by
  intro cs env env' b h
  cases cs with
  | nil => unfold evCs at h; cases h; exact .refl _
  | cons e es =>
    cases es with
    | nil =>
      unfold evCs at h
      obtain ⟨p, h1, h⟩ := Option.bind_eq_some_iff.mp h
      split at h
      · cases h; exact evE_kin h1
      · cases h
    | cons e2 es2 => unfold evCs at h; cases h
end
theorem forL_kin {tg : Tg} {body : Env' → Option (Ctl × Env')} (hb : ∀ e c e', body e = some (c, e') → Kin e e') : ∀ {xs : List D} {env env' : Env'} {c : Ctl}, forL tg body xs env = some (c, env') → Kin env env'
  | [], env, env', c, h => by unfold forL at h; cases h; exact .refl _
  | x :: xs, env, env', c, h => by
    unfold forL at h
    obtain ⟨e1, h1, h⟩ := Option.bind_eq_some_iff.mp h
    obtain ⟨p, h2, h⟩ := Option.bind_eq_some_iff.mp h
    split at h
    · exact ((Kin.setTg h1).trans (hb _ _ _ h2)).trans (forL_kin hb h)
    · exact ((Kin.setTg h1).trans (hb _ _ _ h2)).trans (forL_kin hb h)
    · cases h; exact (Kin.setTg h1).trans (hb _ _ _ h2)
    · cases h; exact (Kin.setTg h1).trans (hb _ _ _ h2)
theorem whlL_kin {cond : Env' → Option (Rv × Env')} {body : Env' → Option (Ctl × Env')} (hc : ∀ e c e', cond e = some (c, e') → Kin e e') (hb : ∀ e c e', body e = some (c, e') → Kin e e') : ∀ {n : Nat} {env env' : Env'} {c : Ctl}, whlL cond body n env = some (c, env') → Kin env env'
  | 0, _, _, _, h => by unfold whlL at h; cases h
  | n + 1, env, env', c, h => by
    unfold whlL at h
    obtain ⟨p, h1, h⟩ := Option.bind_eq_some_iff.mp h
    split at h
    · obtain ⟨p, h2, h⟩ := Option.bind_eq_some_iff.mp h
      split at h
      · exact ((hc _ _ _ h1).trans (hb _ _ _ h2)).trans (whlL_kin hc hb h)
      · exact ((hc _ _ _ h1).trans (hb _ _ _ h2)).trans (whlL_kin hc hb h)
      · cases h; exact (hc _ _ _ h1).trans (hb _ _ _ h2)
      · cases h; exact (hc _ _ _ h1).trans (hb _ _ _ h2)
    · cases h; exact hc _ _ _ h1
    · cases h
theorem evS_kin {n : Nat} : ∀ {s : S} {env env' : Env'} {c : Ctl}, evS gl cf n s env = some (c, env') → Kin env env' := by
  intro s
  induction s with
  | pass => intro env env' c h; unfold evS at h; cases h; exact .refl _
  | seq a b iha ihb =>
    intro env env' c h
    unfold evS at h
    obtain ⟨p, h1, h⟩ := Option.bind_eq_some_iff.mp h
    split at h
    · exact (iha h1).trans (ihb h)
    · cases h; exact iha h1
  | set i e =>
    intro env env' c h
    unfold evS at h
    obtain ⟨p, h1, h⟩ := Option.bind_eq_some_iff.mp h
    split at h
    · obtain ⟨e2, h2, h⟩ := Option.bind_eq_some_iff.mp h; cases h; exact (evE_kin h1).trans (.setAt h2 rfl)
    · obtain ⟨e2, h2, h⟩ := Option.bind_eq_some_iff.mp h; cases h; exact (evE_kin h1).trans (.setAt h2 rfl)
  | unp is e =>
    intro env env' c h
    unfold evS at h
    obtain ⟨⟨rv, e1⟩, h1, h⟩ := Option.bind_eq_some_iff.mp h
    obtain ⟨e2, h2, h⟩ := Option.bind_eq_some_iff.mp h
    cases h
    exact (evE_kin h1).trans (.setTg h2)
  | par i j a b =>
    intro env env' c h
    unfold evS at h
    obtain ⟨⟨ra, e1⟩, h1, h⟩ := Option.bind_eq_some_iff.mp h
    obtain ⟨⟨rb, e2⟩, h2, h⟩ := Option.bind_eq_some_iff.mp h
    obtain ⟨e3, h3, h⟩ := Option.bind_eq_some_iff.mp h
    obtain ⟨e4, h4, h⟩ := Option.bind_eq_some_iff.mp h
    cases h
    exact (((evE_kin h1).trans (evE_kin h2)).trans (.setAt h3 rfl)).trans (.setAt h4 rfl)
  | st i ix e =>
    intro env env' c h
    unfold evS at h
    obtain ⟨⟨ra, e1⟩, h1, h⟩ := Option.bind_eq_some_iff.mp h
    obtain ⟨s0, hs0, h⟩ := Option.bind_eq_some_iff.mp h
    obtain ⟨m0, ho0, h⟩ := Option.bind_eq_some_iff.mp h
    obtain ⟨⟨rb, e2⟩, h2, h⟩ := Option.bind_eq_some_iff.mp h
    obtain ⟨s, hs, h⟩ := Option.bind_eq_some_iff.mp h
    obtain ⟨mo, ho, h⟩ := Option.bind_eq_some_iff.mp h
    obtain ⟨mo', _, h⟩ := Option.bind_eq_some_iff.mp h
    cases h
    refine ((evE_kin h1).trans (evE_kin h2)).trans (.set ?_)
    have n2 : kd1 (some s) ≠ 2 := by cases s <;> first | (cases ho; done) | exact fun z => nomatch z
    unfold kd
    rw [put_kd n2, hs]
  | ups i j ix e =>
    intro env env' c h
    unfold evS at h
    obtain ⟨⟨ra, e1⟩, h1, h⟩ := Option.bind_eq_some_iff.mp h
    obtain ⟨⟨d0, d1⟩, _, h⟩ := Option.bind_eq_some_iff.mp h
    obtain ⟨e2, h2, h⟩ := Option.bind_eq_some_iff.mp h
    obtain ⟨s0, hs0, h⟩ := Option.bind_eq_some_iff.mp h
    obtain ⟨m0, ho0, h⟩ := Option.bind_eq_some_iff.mp h
    obtain ⟨⟨rb, e3⟩, h3, h⟩ := Option.bind_eq_some_iff.mp h
    obtain ⟨s, hs, h⟩ := Option.bind_eq_some_iff.mp h
    obtain ⟨mo, ho, h⟩ := Option.bind_eq_some_iff.mp h
    obtain ⟨mo', _, h⟩ := Option.bind_eq_some_iff.mp h
    cases h
    refine (((evE_kin h1).trans (.setAt h2 rfl)).trans (evE_kin h3)).trans (.set ?_)
    have n2 : kd1 (some s) ≠ 2 := by cases s <;> first | (cases ho; done) | exact fun z => nomatch z
    unfold kd
    rw [put_kd n2, hs]
  | aug i o e =>
    intro env env' c h
    unfold evS at h
    split at h
    · obtain ⟨⟨ra, e1⟩, h1, h⟩ := Option.bind_eq_some_iff.mp h
      obtain ⟨p, h2, h⟩ := Option.bind_eq_some_iff.mp h
      obtain ⟨e2, h3, h⟩ := Option.bind_eq_some_iff.mp h
      cases h
      exact (evE_kin h1).trans (.setAt h3 rfl)
    · cases h
  | ex e =>
    intro env env' c h
    unfold evS at h
    obtain ⟨⟨ra, e1⟩, h1, h⟩ := Option.bind_eq_some_iff.mp h
    cases h; exact evE_kin h1
  | ret e =>
    intro env env' c h
    unfold evS at h
    obtain ⟨⟨ra, e1⟩, h1, h⟩ := Option.bind_eq_some_iff.mp h
    cases h; exact evE_kin h1
  | retn => intro env env' c h; unfold evS at h; cases h; exact .refl _
  | ife t a b iha ihb =>
    intro env env' c h
    unfold evS at h
    obtain ⟨p, h1, h⟩ := Option.bind_eq_some_iff.mp h
    split at h
    · exact (evE_kin h1).trans (iha h)
    · exact (evE_kin h1).trans (ihb h)
    · cases h
  | whl t b ihb =>
    intro env env' c h
    unfold evS at h
    exact whlL_kin (fun _ _ _ => evE_kin) (fun _ _ _ => ihb) h
  | «for» tg it b ihb =>
    intro env env' c h
    unfold evS at h
    obtain ⟨⟨xs, e1⟩, h1, h⟩ := Option.bind_eq_some_iff.mp h
    obtain ⟨⟨c', e2⟩, h2, h⟩ := Option.bind_eq_some_iff.mp h
    cases h
    have kb := forL_kin (fun _ _ _ => ihb) h2
    rcases evI_kin h1 with ⟨hn, k⟩ | ⟨i, hn, hl, hne, hi⟩
    · rw [hn]; exact k.trans kb
    · rw [hn]
      exact .reAt (kb.1.trans hl) (fun j hj => (kb.2 j).trans (hne j hj)) (by rw [kb.2 i]; exact hi)
  | brk => intro env env' c h; unfold evS at h; cases h; exact .refl _
  | fgt a b s ih =>
    intro env env' c h
    unfold evS at h
    obtain ⟨⟨c1, e1⟩, h1, h⟩ := Option.bind_eq_some_iff.mp h
    cases h
    exact ((fgE_kin a env).trans (ih h1)).trans (fgC_kin _ b e1)
  | agt i ix o e =>
    intro env env' c h
    unfold evS at h
    obtain ⟨s0, hs0, h⟩ := Option.bind_eq_some_iff.mp h
    obtain ⟨m0, ho0, h⟩ := Option.bind_eq_some_iff.mp h
    obtain ⟨⟨rb, e1⟩, h1, h⟩ := Option.bind_eq_some_iff.mp h
    obtain ⟨s1, hs1, h⟩ := Option.bind_eq_some_iff.mp h
    obtain ⟨m1, ho1, h⟩ := Option.bind_eq_some_iff.mp h
    obtain ⟨d0, hd0, h⟩ := Option.bind_eq_some_iff.mp h
    obtain ⟨⟨ra, e2⟩, h2, h⟩ := Option.bind_eq_some_iff.mp h
    obtain ⟨d', hd', h⟩ := Option.bind_eq_some_iff.mp h
    obtain ⟨s, hs, h⟩ := Option.bind_eq_some_iff.mp h
    obtain ⟨mo, ho, h⟩ := Option.bind_eq_some_iff.mp h
    obtain ⟨mo', _, h⟩ := Option.bind_eq_some_iff.mp h
    cases h
    refine ((evE_kin h1).trans (evE_kin h2)).trans (.set ?_)
    have n2 : kd1 (some s) ≠ 2 := by cases s <;> first | (cases ho; done) | exact fun z => nomatch z
    unfold kd
    rw [put_kd n2, hs]
  | par3 i j l a b d =>
    intro env env' c h
    unfold evS at h
    obtain ⟨⟨ra, e1⟩, h1, h⟩ := Option.bind_eq_some_iff.mp h
    obtain ⟨⟨rb, e2⟩, h2, h⟩ := Option.bind_eq_some_iff.mp h
    obtain ⟨⟨rd, e3⟩, h3, h⟩ := Option.bind_eq_some_iff.mp h
    obtain ⟨e4, h4, h⟩ := Option.bind_eq_some_iff.mp h
    obtain ⟨e5, h5, h⟩ := Option.bind_eq_some_iff.mp h
    obtain ⟨e6, h6, h⟩ := Option.bind_eq_some_iff.mp h
    cases h
    exact ((((((evE_kin h1).trans (evE_kin h2)).trans (evE_kin h3)).trans (.setAt h4 rfl)).trans (.setAt h5 rfl)).trans (.setAt h6 rfl))
  | ext i e =>
    intro env env' c h
    unfold evS at h
    obtain ⟨s0, hs0, h⟩ := Option.bind_eq_some_iff.mp h
    obtain ⟨m0, ho0, h⟩ := Option.bind_eq_some_iff.mp h
    obtain ⟨⟨rb, e1⟩, h1, h⟩ := Option.bind_eq_some_iff.mp h
    obtain ⟨s, hs, h⟩ := Option.bind_eq_some_iff.mp h
    obtain ⟨mo, ho, h⟩ := Option.bind_eq_some_iff.mp h
    obtain ⟨mo', _, h⟩ := Option.bind_eq_some_iff.mp h
    cases h
    refine (evE_kin h1).trans (.set ?_)
    have n2 : kd1 (some s) ≠ 2 := by cases s <;> first | (cases ho; done) | exact fun z => nomatch z
    unfold kd
    rw [put_kd n2, hs]
  | cnt => intro env env' c h; unfold evS at h; cases h; exact .refl _
end
end Pv

namespace Pv
open PySem PySem.Spec PyProof.Rows L2

/-! ### readings by the evaluator -/
section
variable (K : PySem.W.Frag) (gl : Nat → D) (cf : Nat → List Sl → Option (Rv × List Sl))
def tE (e : E) : TE := fun σ H Q => ∃ (F Z : Addr → Prop) (env : Env') (rv : Rv) (env' : Env'), ERel K F Z H env σ ∧ evE gl cf e env = some (rv, env') ∧
  ∀ (v : V) (H' : Hp) (F' : Addr → Prop), (∀ a, F a → F' a) → Stay (fun a => F a ∨ Z a) H H' → ERel K F' Z H' env' σ → RvRel K F' Z H' env' σ rv v → Q v H'
def tO : E → TE
  | .brw i => tVar i
  | e => tE K gl cf e
def tEs (es : Es) : TA := fun σ H Q => ∃ (F Z : Addr → Prop) (env : Env') (ds : List D) (env' : Env'), ERel K F Z H env σ ∧ evEs gl cf es env = some (ds, env') ∧
  ∀ (vs : List V) (H' : Hp) (F' Z' : Addr → Prop), (∀ a, F a → F' a) → (∀ a, Z a → Z' a) → Stay (fun a => F a ∨ Z a) H H' → ERel K F' Z' H' env' σ → RepBs K F' Z' H' ds vs → (es.hasB = false → Z' = Z ∧ Reps K F' H' ds vs) → Q vs H'
/-- what an operation is to reach -/
def OpEnd (o : Op) (vs : List V) (H : Hp) (Q : VK) : Prop := ∃ (F Z : Addr → Prop) (ds : List D) (rv : Rv), (∀ a, F a → H a ≠ none) ∧ RepBs K F Z H ds vs ∧ opf o ds = some rv ∧ ∀ (v : V) (H' : Hp), Same H H' → RO K F H H' rv v → Q v H'
end
section
variable {K : PySem.W.Frag} {gl : Nat → D} {cf : Nat → List Sl → Option (Rv × List Sl)} {σ : L2.St} {H H' : Hp} {Q Q' : VK} {F F' Z Z' : Addr → Prop} {env env' : Env'}
theorem tE_mono {e : E} (w : ∀ v H, Q v H → Q' v H) (h : tE K gl cf e σ H Q) : tE K gl cf e σ H Q' := by
  obtain ⟨F, Z, env, rv, env', r, ev, k⟩ := h
  exact ⟨F, Z, env, rv, env', r, ev, fun v H' F' a b c d => w _ _ (k v H' F' a b c d)⟩
theorem tO_mono {e : E} (w : ∀ v H, Q v H → Q' v H) (h : tO K gl cf e σ H Q) : tO K gl cf e σ H Q' := by
  cases e with
  | brw i => obtain ⟨v, e, q⟩ := h; exact ⟨v, e, w _ _ q⟩
  | _ => exact tE_mono w h
theorem tO_of {e : E} (hn : ∀ i, e ≠ .brw i) : tO K gl cf e = tE K gl cf e := by
  cases e <;> first | rfl | exact absurd rfl (hn _)
theorem RvRel.frz {rv : Rv} {v : V} (r : ERel K F Z H env σ) (q : RvRel K F Z H env σ rv v) : ∃ F', (∀ a, F a → F' a) ∧ ERel K F' Z H env σ ∧ Rep K F' H (frz rv) v := by
  cases rv with
  | val d => exact ⟨F, fun _ h => h, r, q⟩
  | new m =>
    obtain ⟨a, rfl, o, hm⟩ := q
    exact ⟨plus F a, fun _ => .inl, r.freeze o hm.dom, (hm.grow fun _ => .inl).rep (.inr rfl)⟩
theorem ro_rv {rv : Rv} {v : V} (r : ERel K F Z H env σ) (q : RO K F H H' rv v) : RvRel K F Z H' env σ rv v := by
  cases rv with
  | val d => exact q
  | new m => obtain ⟨p, e, np, hm⟩ := q; exact ⟨p, e, r.out_new np, hm⟩
theorem RvRel.back {Z0 F0 : Addr → Prop} {H0 : Hp} {rv : Rv} {v : V} (r0 : ERel K F0 Z0 H0 env σ) (r : ERel K F Z H env' σ) (hz : ∀ a, Z0 a → Z a) (q : RvRel K F Z H env' σ rv v) : RvRel K F Z0 H (unb env env') σ rv v := by
  cases rv with
  | val d => exact q
  | new m => obtain ⟨a, e, o, hm⟩ := q; exact ⟨a, e, o.back r0 r hz, hm⟩
theorem sub_stay {F F1 Z Z1 : Addr → Prop} {H H1 H2 : Hp} (s : Stay (fun a => F a ∨ Z a) H H1) (t : Stay (fun a => F1 a ∨ Z1 a) H1 H2) (f : ∀ a, F a → F1 a) (z : ∀ a, Z a → Z1 a) : Stay (fun a => F a ∨ Z a) H H2 :=
  s.trans (t.mono fun a h => h.elim (fun x => .inl (f a x)) fun x => .inr (z a x))
theorem tEs_nil {R : List V → Hp → Prop} (h : tEs K gl cf .nil σ H R) : R [] H := by
  obtain ⟨F, Z, env, ds, env', r, ev, k⟩ := h
  unfold evEs at ev
  cases ev
  exact k [] H F Z (fun _ h => h) (fun _ h => h) .refl r .nil fun _ => ⟨rfl, .nil⟩
theorem tEs_cons {e : E} {es : Es} {R : List V → Hp → Prop} (h : tEs K gl cf (.cons e es) σ H R) : tO K gl cf e σ H fun x H1 => tEs K gl cf es σ H1 fun xs H2 => R (x :: xs) H2 := by
  obtain ⟨F, Z, env, ds, env', r, ev, k⟩ := h
  by_cases hb : ∃ i, e = .brw i
  · obtain ⟨i, rfl⟩ := hb
    have lent : ∀ (s : Sl) (m : Mo) (ds' : List D), env[i]? = some s → s.own = some m → evEs gl cf es (env.set i (.brw m)) = some (ds', env') → ds = m.d :: ds' → tO K gl cf (.brw i) σ H fun x H1 => tEs K gl cf es σ H1 fun xs H2 => R (x :: xs) H2 := fun s m ds' hs ho h2 e => by
      subst e
      obtain ⟨a, h1, hm, r1⟩ := r.lend hs ho
      refine ⟨.ref a, h1, F, plus Z a, _, ds', env', r1, h2, fun vs H' F' Z' f z st r2 rs hb => ?_⟩
      refine k _ H' F' Z' f (fun b hz => z b (.inl hz)) (st.mono fun b q => q.imp_right .inl) r2 (.cons (.inr ⟨a, m, rfl, rfl, z a (.inr rfl), ?_⟩) rs) (fun z => absurd z (by simp [Es.hasB]))
      exact hm.stay (st.mono fun _ => .inl) f (st.kp a (.inr (.inr rfl)))
    unfold evEs at ev
    split at ev
    · rename_i d hs
      obtain ⟨⟨ds', e2⟩, h2, ev⟩ := Option.bind_eq_some_iff.mp ev
      cases ev
      obtain ⟨v, h1, hv⟩ := r.val i d hs
      refine ⟨v, h1, F, Z, env, ds', _, r, h2, fun vs H' F' Z' f z st r2 rs hb => ?_⟩
      exact k _ H' F' Z' f z st r2 (.cons (.inl (hv.stay (st.mono fun _ => .inl) f)) rs) (fun z => absurd z (by simp [Es.hasB]))
    · rename_i m hs
      obtain ⟨⟨ds', e2⟩, h2, ev⟩ := Option.bind_eq_some_iff.mp ev
      cases ev
      exact lent _ m ds' hs rfl h2 rfl
    · rename_i m hs
      obtain ⟨⟨ds', e2⟩, h2, ev⟩ := Option.bind_eq_some_iff.mp ev
      cases ev
      exact lent _ m ds' hs rfl h2 rfl
    · rename_i m hs
      obtain ⟨⟨ds', e2⟩, h2, ev⟩ := Option.bind_eq_some_iff.mp ev
      cases ev
      obtain ⟨a, h1, za, hm⟩ := r.brw i m hs
      refine ⟨.ref a, h1, F, Z, env, ds', _, r, h2, fun vs H' F' Z' f z st r2 rs hb => ?_⟩
      exact k _ H' F' Z' f z st r2 (.cons (.inr ⟨a, m, rfl, rfl, z a za, hm.stay (st.mono fun _ => .inl) f (st.kp a (.inr za))⟩) rs) (fun z => absurd z (by simp [Es.hasB]))
    · cases ev
  · rw [evEs.eq_3 _ _ _ _ _ (fun i z => hb ⟨i, z⟩)] at ev
    obtain ⟨⟨rv, e1⟩, h1, ev⟩ := Option.bind_eq_some_iff.mp ev
    obtain ⟨⟨ds', e2⟩, h2, ev⟩ := Option.bind_eq_some_iff.mp ev
    cases ev
    rw [tO_of fun i z => hb ⟨i, z⟩]
    refine ⟨F, Z, env, rv, e1, r, h1, fun v H1 F1 f1 st1 r1 q1 => ?_⟩
    obtain ⟨F2, f2, r2, q2⟩ := q1.frz r1
    refine ⟨F2, Z, e1, ds', _, r2, h2, fun vs H' F' Z' f z st r3 rs hb' => ?_⟩
    have qv := q2.stay (st.mono fun _ => .inl) f
    refine k _ H' F' Z' (fun a h => f a (f2 a (f1 a h))) z (sub_stay st1 st (fun a h => f2 a (f1 a h)) fun _ h => h) r3 (.cons (.inl qv) rs) (fun z => ?_)
    have eb : es.hasB = false := by cases e <;> first | exact absurd ⟨_, rfl⟩ hb | exact z
    exact ⟨(hb' eb).1, .cons qv (hb' eb).2⟩
theorem tEs1 {a : E} {R : List V → Hp → Prop} (h : tEs K gl cf (.cons a .nil) σ H R) : tO K gl cf a σ H fun x H1 => R [x] H1 := tO_mono (fun _ _ q => tEs_nil q) (tEs_cons h)
theorem tEs2 {a b : E} {R : List V → Hp → Prop} (h : tEs K gl cf (.cons a (.cons b .nil)) σ H R) : tO K gl cf a σ H fun x H1 => tO K gl cf b σ H1 fun y H2 => R [x, y] H2 :=
  tO_mono (fun _ _ q => tEs1 q) (tEs_cons h)
theorem tEs3 {a b c : E} {R : List V → Hp → Prop} (h : tEs K gl cf (.cons a (.cons b (.cons c .nil))) σ H R) : tO K gl cf a σ H fun x H1 => tO K gl cf b σ H1 fun y H2 => tO K gl cf c σ H2 fun z H3 => R [x, y, z] H3 :=
  tO_mono (fun _ _ q => tEs2 q) (tEs_cons h)
theorem fz_read {e : E} (h : tE K gl cf (.fz e) σ H Q) : tE K gl cf e σ H Q := by
  obtain ⟨F, Z, env, rv, env', r, ev, k⟩ := h
  unfold evE at ev
  obtain ⟨⟨r0, e1⟩, h1, ev⟩ := Option.bind_eq_some_iff.mp ev
  cases ev
  refine ⟨F, Z, env, r0, _, r, h1, fun v H1 F1 f1 st1 r1 q1 => ?_⟩
  obtain ⟨F2, f2, r2, q2⟩ := q1.frz r1
  exact k v H1 F2 (fun a h => f2 a (f1 a h)) st1 r2 q2
/-- an operation's operands, then its end -/
theorem op_read {o : Op} {es : Es} (h : tE K gl cf (.op o es) σ H Q) : tEs K gl cf es σ H fun vs H1 => OpEnd K o vs H1 Q := by
  obtain ⟨F, Z, env, rv, env', r, ev, k⟩ := h
  unfold evE at ev
  obtain ⟨⟨ds, e1⟩, h1, ev⟩ := Option.bind_eq_some_iff.mp ev
  obtain ⟨rv', h2, ev⟩ := Option.bind_eq_some_iff.mp ev
  cases ev
  refine ⟨F, Z, env, ds, e1, r, h1, fun vs H1 F1 Z1 f z st r1 rs hb => ?_⟩
  refine ⟨F1, Z1, ds, rv, r1.fd, rs, h2, fun v H2 sm ro => ?_⟩
  have r2 := r1.same sm
  have q2 := ro_rv r1 ro
  have st2 : Stay (fun a => F a ∨ Z a) H H2 := st.trans (.same sm fun a h => h.elim (fun h => r1.fd a (f a h)) fun h => r1.zd a (z a h))
  split at k
  · exact k v H2 F1 f st2 (r.back r2 z) (q2.back r r2 z)
  · rename_i hb'
    have e : Z1 = Z := (hb (by simpa using hb')).1
    subst e
    exact k v H2 F1 f st2 r2 q2
theorem op1_read {o : Op} {r : V → Hp → VK → Prop} (hr : RS1 K o r) {a : E} (h : tE K gl cf (.op o (.cons a .nil)) σ H Q) : tO K gl cf a σ H fun x H1 => r x H1 Q :=
  tO_mono (fun x H1 ⟨F, Z, ds, rv, fd, rs, ho, q⟩ => by
    have hl := rs.length
    match ds, rs, hl with
    | [d], rs, _ =>
      cases rs with
      | cons hd t => exact hr F Z H1 d x rv Q fd hd ho q) (tEs1 (op_read h))
theorem op2_read {o : Op} {r : R2} (hr : RS2 K o r) {a b : E} (h : tE K gl cf (.op o (.cons a (.cons b .nil))) σ H Q) : tO K gl cf a σ H fun x H1 => tO K gl cf b σ H1 fun y H2 => r x y H2 Q :=
  tO_mono (fun x H1 h => tO_mono (fun y H2 ⟨F, Z, ds, rv, fd, rs, ho, q⟩ => by
    have hl := rs.length
    match ds, rs, hl with
    | [d, e], rs, _ =>
      cases rs with
      | cons hd t =>
        cases t with
        | cons he t => exact hr F Z H2 d e x y rv Q fd hd he ho q) h) (tEs2 (op_read h))
/-- a display -/
theorem tup_read {es : Es} (h : tE K gl cf (.tup es) σ H Q) : tTup (tEs K gl cf es) σ H Q := by
  obtain ⟨F, Z, env, rv, env', r, ev, k⟩ := h
  unfold evE at ev
  obtain ⟨⟨ds, e1⟩, h1, ev⟩ := Option.bind_eq_some_iff.mp ev
  dsimp only at ev
  split at ev
  · rename_i hz
    cases ev
    refine ⟨F, Z, env, ds, _, r, h1, fun vs H1 F1 Z1 f z st r1 rs hb => ?_⟩
    obtain ⟨e, rr⟩ := hb hz.1
    subst e
    refine ⟨by rw [← rs.length]; exact hz.2, fun p np => ?_⟩
    have sm := same_upd (o := .tup vs) np
    exact k _ _ F1 f (st.trans (.same sm fun a h => h.elim (fun h => r1.fd a (f a h)) fun h => r1.zd a h)) (r1.same sm) (.tup (.inl (.inl upd_same)) (rr.stay (.same sm r1.fd) fun _ h => h))
  · cases ev
theorem lst_read {es : Es} (h : tE K gl cf (.lst es) σ H Q) : tLst (tEs K gl cf es) σ H Q := by
  obtain ⟨F, Z, env, rv, env', r, ev, k⟩ := h
  unfold evE at ev
  obtain ⟨⟨ds, e1⟩, h1, ev⟩ := Option.bind_eq_some_iff.mp ev
  dsimp only at ev
  split at ev
  · rename_i hz
    cases ev
    refine ⟨F, Z, env, ds, _, r, h1, fun vs H1 F1 Z1 f z st r1 rs hb => ?_⟩
    obtain ⟨e, rr⟩ := hb hz.1
    subst e
    refine ⟨by rw [← rs.length]; exact hz.2, fun p np => ?_⟩
    have sm := same_upd (o := .lst vs) np
    exact k _ _ F1 f (st.trans (.same sm fun a h => h.elim (fun h => r1.fd a (f a h)) fun h => r1.zd a h)) (r1.same sm) ⟨p, rfl, r1.out_new np, vs, upd_same, rr.stay (.same sm r1.fd) fun _ h => h⟩
  · cases ev
theorem dct_read (h : tE K gl cf .dct σ H Q) : tDNewK σ H Q := by
  obtain ⟨F, Z, env, rv, env', r, ev, k⟩ := h
  unfold evE at ev
  cases ev
  intro p np
  have sm := same_upd (o := .dK []) np
  exact k _ _ F (fun _ h => h) (.same sm fun a h => h.elim (r.fd a) (r.zd a)) (r.same sm) ⟨p, rfl, r.out_new np, [], upd_same, rfl, .nil⟩
/-- a then b, by the truth of a -/
theorem bool_rel {b : Bool} {v : V} (q : RvRel K F Z H env σ (.val (.bool b)) v) : v = .bl b := by cases q; rfl
theorem and_read {a b : E} (h : tE K gl cf (.and a b) σ H Q) : tE K gl cf a σ H fun x H1 => ∃ c, x = .bl c ∧ if c = true then tE K gl cf b σ H1 Q else Q (.bl false) H1 := by
  obtain ⟨F, Z, env, rv, env', r, ev, k⟩ := h
  unfold evE at ev
  obtain ⟨p, h1, ev⟩ := Option.bind_eq_some_iff.mp ev
  split at ev
  · refine ⟨F, Z, env, _, _, r, h1, fun v H1 F1 f1 st1 r1 q1 => ⟨true, bool_rel q1, ?_⟩⟩
    rw [if_pos rfl]
    exact ⟨F1, Z, _, rv, env', r1, ev, fun v H2 F2 f2 st2 r2 q2 => k v H2 F2 (fun a h => f2 a (f1 a h)) (sub_stay st1 st2 f1 fun _ h => h) r2 q2⟩
  · cases ev
    refine ⟨F, Z, env, _, _, r, h1, fun v H1 F1 f1 st1 r1 q1 => ⟨false, bool_rel q1, ?_⟩⟩
    rw [if_neg Bool.false_ne_true]
    exact k _ H1 F1 f1 st1 r1 (.bl false)
  · cases ev
theorem or_read {a b : E} (h : tE K gl cf (.or a b) σ H Q) : tE K gl cf a σ H fun x H1 => ∃ c, x = .bl c ∧ if c = true then Q (.bl true) H1 else tE K gl cf b σ H1 Q := by
  obtain ⟨F, Z, env, rv, env', r, ev, k⟩ := h
  unfold evE at ev
  obtain ⟨p, h1, ev⟩ := Option.bind_eq_some_iff.mp ev
  split at ev
  · cases ev
    refine ⟨F, Z, env, _, _, r, h1, fun v H1 F1 f1 st1 r1 q1 => ⟨true, bool_rel q1, ?_⟩⟩
    rw [if_pos rfl]
    exact k _ H1 F1 f1 st1 r1 (.bl true)
  · refine ⟨F, Z, env, _, _, r, h1, fun v H1 F1 f1 st1 r1 q1 => ⟨false, bool_rel q1, ?_⟩⟩
    rw [if_neg Bool.false_ne_true]
    exact ⟨F1, Z, _, rv, env', r1, ev, fun v H2 F2 f2 st2 r2 q2 => k v H2 F2 (fun a h => f2 a (f1 a h)) (sub_stay st1 st2 f1 fun _ h => h) r2 q2⟩
  · cases ev
theorem not_read {a : E} (h : tE K gl cf (.not a) σ H Q) : tE K gl cf a σ H fun x H1 => ∃ c, x = .bl c ∧ Q (.bl (!c)) H1 := by
  obtain ⟨F, Z, env, rv, env', r, ev, k⟩ := h
  unfold evE at ev
  obtain ⟨p, h1, ev⟩ := Option.bind_eq_some_iff.mp ev
  split at ev
  · cases ev
    exact ⟨F, Z, env, _, _, r, h1, fun v H1 F1 f1 st1 r1 q1 => ⟨_, bool_rel q1, k _ H1 F1 f1 st1 r1 (.bl _)⟩⟩
  · cases ev
theorem ife_read {c a b : E} (h : tE K gl cf (.ife c a b) σ H Q) : tE K gl cf c σ H fun x H1 => ∃ t, x = .bl t ∧ if t = true then tE K gl cf a σ H1 Q else tE K gl cf b σ H1 Q := by
  obtain ⟨F, Z, env, rv, env', r, ev, k⟩ := h
  unfold evE at ev
  obtain ⟨p, h1, ev⟩ := Option.bind_eq_some_iff.mp ev
  split at ev
  · refine ⟨F, Z, env, _, _, r, h1, fun v H1 F1 f1 st1 r1 q1 => ⟨true, bool_rel q1, ?_⟩⟩
    rw [if_pos rfl]
    exact ⟨F1, Z, _, rv, env', r1, ev, fun v H2 F2 f2 st2 r2 q2 => k v H2 F2 (fun a h => f2 a (f1 a h)) (sub_stay st1 st2 f1 fun _ h => h) r2 q2⟩
  · refine ⟨F, Z, env, _, _, r, h1, fun v H1 F1 f1 st1 r1 q1 => ⟨false, bool_rel q1, ?_⟩⟩
    rw [if_neg Bool.false_ne_true]
    exact ⟨F1, Z, _, rv, env', r1, ev, fun v H2 F2 f2 st2 r2 q2 => k v H2 F2 (fun a h => f2 a (f1 a h)) (sub_stay st1 st2 f1 fun _ h => h) r2 q2⟩
  · cases ev
/-- a op1 b op2 c -/
theorem chn_read {o1 o2 : Op} {r1 r2 : R2} (h1r : RS2 K o1 r1) (h2r : RS2 K o2 r2) {a b c : E} (h : tE K gl cf (.chn o1 o2 a b c) σ H Q) : tChain r1 r2 (tE K gl cf a) (tE K gl cf b) (tE K gl cf c) σ H Q := by
  obtain ⟨F, Z, env, rv, env', r, ev, k⟩ := h
  unfold evE at ev
  obtain ⟨⟨ra, e1⟩, h1, ev⟩ := Option.bind_eq_some_iff.mp ev
  obtain ⟨⟨rb, e2⟩, h2, ev⟩ := Option.bind_eq_some_iff.mp ev
  obtain ⟨p, h3, ev⟩ := Option.bind_eq_some_iff.mp ev
  refine ⟨F, Z, env, ra, e1, r, h1, fun x H1 F1 f1 st1 R1 q1 => ?_⟩
  obtain ⟨F2, f2, R2, q2⟩ := q1.frz R1
  refine ⟨F2, Z, e1, rb, e2, R2, h2, fun y H2 F3 f3 st3 R3 q3 => ?_⟩
  obtain ⟨F4, f4, R4, q4⟩ := q3.frz R3
  have q2' := (q2.stay (st3.mono fun _ => .inl) f3).stay .refl f4
  refine h1r F4 Z H2 _ _ x y p _ R4.fd (.inl q2') (.inl q4) h3 fun z H3 sm ro => ?_
  have R5 := R4.same sm
  have st5 : Stay (fun a => F a ∨ Z a) H H3 := (sub_stay st1 st3 (fun a h => f2 a (f1 a h)) fun _ h => h).trans (.same sm fun a h => h.elim (fun h => R4.fd a (f4 a (f3 a (f2 a (f1 a h))))) fun h => R4.zd a h)
  have sF4 : Stay F4 H2 H3 := .same sm R4.fd
  split at ev
  · obtain ⟨⟨rc, e3⟩, h4, ev⟩ := Option.bind_eq_some_iff.mp ev
    obtain ⟨rw', h5, ev⟩ := Option.bind_eq_some_iff.mp ev
    cases ev
    refine ⟨true, by cases ro; rfl, ?_⟩
    rw [if_pos rfl]
    refine ⟨F4, Z, e2, rc, _, R5, h4, fun w H4 F6 f6 st6 R6 q6 => ?_⟩
    obtain ⟨F7, f7, R7, q7⟩ := q6.frz R6
    have q4' := ((q4.stay sF4 fun _ h => h).stay (st6.mono fun _ => .inl) f6).stay .refl f7
    refine h2r F7 Z H4 _ _ y w _ _ R7.fd (.inl q4') (.inl q7) h5 fun z' H5 sm' ro' => ?_
    have R8 := R7.same sm'
    refine k z' H5 F7 (fun a h => f7 a (f6 a (f4 a (f3 a (f2 a (f1 a h)))))) ?_ R8 (ro_rv R7 ro')
    exact (sub_stay st5 st6 (fun a h => f4 a (f3 a (f2 a (f1 a h)))) fun _ h => h).trans (.same sm' fun a h => h.elim (fun h => R7.fd a (f7 a (f6 a (f4 a (f3 a (f2 a (f1 a h))))))) fun h => R7.zd a h)
  · cases ev
    refine ⟨false, by cases ro; rfl, ?_⟩
    rw [if_neg Bool.false_ne_true]
    exact k _ H3 F4 (fun a h => f4 a (f3 a (f2 a (f1 a h)))) st5 R5 (.bl false)
  · cases ev
/-- a method that changes its list -/
theorem mth_read {m : Mm} {i : Nat} {es : Es} {r : V → List V → Hp → VK → Prop} (hr : RM K m r) (h : tE K gl cf (.mth m i es) σ H Q) : ∃ v, σ[i]? = some (some v) ∧ tyV K "list" v H ∧ tEs K gl cf es σ H fun vs H1 => r v vs H1 Q := by
  obtain ⟨F, Z, env, rv, env', R, ev, k⟩ := h
  unfold evE at ev
  obtain ⟨s0, h0, ev⟩ := Option.bind_eq_some_iff.mp ev
  obtain ⟨m0, o0, ev⟩ := Option.bind_eq_some_iff.mp ev
  split at ev
  · cases ev
  · rename_i hb
    simp only [not_or, Bool.not_eq_false, Bool.not_eq_true] at hb
    obtain ⟨a, ha, nf, nz, hm⟩ := R.own i s0 m0 h0 o0
    obtain ⟨⟨ds, e1⟩, h1, ev⟩ := Option.bind_eq_some_iff.mp ev
    obtain ⟨s, hs, ev⟩ := Option.bind_eq_some_iff.mp ev
    obtain ⟨mo, ho, ev⟩ := Option.bind_eq_some_iff.mp ev
    obtain ⟨⟨mo', d⟩, hmm, ev⟩ := Option.bind_eq_some_iff.mp ev
    cases ev
    refine ⟨.ref a, ha, ?_, F, Z, env, ds, e1, R, h1, fun vs H1 F1 Z1 f z st R1 rs hb' => ?_⟩
    · cases m0 with
      | lst xs => obtain ⟨ws, q1, _⟩ := hm; exact .inl ⟨rfl, ws, .of q1⟩
      | dk _ => cases hb.1
    · obtain ⟨e, rr⟩ := hb' hb.2
      subst e
      obtain ⟨b, q1, q2, q3, q4⟩ := R1.own i s mo hs ho
      rw [ha] at q1; cases q1
      refine hr F1 H1 a mo mo' ds vs d Q rr q4 q2 hmm fun v o hmo rd => ?_
      obtain ⟨st2, R2⟩ := R1.write (s' := s.put mo') hs ho (put_own ho) ha hmo
      exact k v _ F1 f (sub_stay st st2 f fun _ h => h) R2 rd
end
end Pv

namespace Pv
open PySem PySem.Spec PyProof.Rows L2

/-! ### calls of defs -/
/-- arguments that stand -/
inductive ARs (K : PySem.W.Frag) (F Z : Addr → Prop) (H : Hp) (σ : L2.St) : List Ag → List V → Prop
  | nil : ARs K F Z H σ [] []
  | val {d : D} {v : V} {ag : List Ag} {vs : List V} : Rep K F H d v → ARs K F Z H σ ag vs → ARs K F Z H σ (.sl (.val d) :: ag) (v :: vs)
  | brw {m : Mo} {a : Addr} {ag : List Ag} {vs : List V} : Z a → MRep K F H a m → ARs K F Z H σ ag vs → ARs K F Z H σ (.sl (.brw m) :: ag) (.ref a :: vs)
  | pend {i : Nat} {v : V} {ag : List Ag} {vs : List V} : σ[i]? = some (some v) → ARs K F Z H σ ag vs → ARs K F Z H σ (.pend i :: ag) (v :: vs)
/-- lists lent to be changed, behind a call -/
def IoEnd (K : PySem.W.Frag) (F Z : Addr → Prop) (H : Hp) (sl : List Sl) (vs : List V) : Prop := ∀ (i : Nat) (m : Mo), sl[i]? = some (.io m) → ∃ a, vs[i]? = some (.ref a) ∧ ¬ F a ∧ ¬ Z a ∧ MRep K F H a m
def RvC (K : PySem.W.Frag) (F Z : Addr → Prop) (H : Hp) (sl : List Sl) (vs : List V) : Rv → V → Prop
  | .val d, v => Rep K F H d v
  | .new m, v => ∃ a, v = .ref a ∧ ¬ F a ∧ ¬ Z a ∧ MRep K F H a m ∧ ∀ (i : Nat) (m' : Mo), sl[i]? = some (.io m') → vs[i]? ≠ some (.ref a)
/-- the promise of a def: what its evaluation says -/
def spOf (K : PySem.W.Frag) (c : List Sl → Option (Rv × List Sl)) : Sp := fun vs H Q _ => ∃ (F Z : Addr → Prop) (sl : List Sl) (rv : Rv) (sl' : List Sl), ERel K F Z H sl (vs.map some) ∧ c sl = some (rv, sl') ∧
  ∀ (v : V) (H' : Hp) (F' : Addr → Prop), (∀ a, F a → F' a) → (∀ a, F' a → H' a ≠ none) → (∀ a, F' a → ¬ Z a) → Stay (fun a => F a ∨ Z a) H H' → IoEnd K F' Z H' sl' vs → RvC K F' Z H' sl' vs rv v → Q v H'
section
variable (K : PySem.W.Frag) (gl : Nat → D) (cf : Nat → List Sl → Option (Rv × List Sl))
def tP : E → TE
  | .brw i => tVar i
  | .mov i => tVar i
  | e => tE K gl cf e
def tAs (es : Es) : TA := fun σ H Q => ∃ (F Z : Addr → Prop) (env : Env') (ag : List Ag) (env' : Env'), ERel K F Z H env σ ∧ evAs gl cf es env = some (ag, env') ∧
  ∀ (vs : List V) (H' : Hp) (F' Z' : Addr → Prop), (∀ a, F a → F' a) → (∀ a, Z a → Z' a) → Stay (fun a => F a ∨ Z a) H H' → ERel K F' Z' H' env' σ → ARs K F' Z' H' σ ag vs → (es.hasB = false → Z' = Z) → Q vs H'
end
section
variable {K : PySem.W.Frag} {gl : Nat → D} {cf : Nat → List Sl → Option (Rv × List Sl)} {σ : L2.St} {H H' : Hp} {Q Q' : VK} {F F' Z Z' : Addr → Prop} {env env' : Env'}
theorem tP_of {e : E} (hn : ∀ i, e ≠ .brw i) (hm : ∀ i, e ≠ .mov i) : tP K gl cf e = tE K gl cf e := by
  cases e <;> first | rfl | exact absurd rfl (hn _) | exact absurd rfl (hm _)
theorem tAs_nil {R : List V → Hp → Prop} (h : tAs K gl cf .nil σ H R) : R [] H := by
  obtain ⟨F, Z, env, ds, env', r, ev, k⟩ := h
  unfold evAs at ev
  cases ev
  exact k [] H F Z (fun _ h => h) (fun _ h => h) .refl r .nil fun _ => rfl
theorem tAs_cons {e : E} {es : Es} {R : List V → Hp → Prop} (h : tAs K gl cf (.cons e es) σ H R) : tP K gl cf e σ H fun x H1 => tAs K gl cf es σ H1 fun xs H2 => R (x :: xs) H2 := by
  obtain ⟨F, Z, env, ds, env', r, ev, k⟩ := h
  by_cases hb : ∃ i, e = .brw i
  · obtain ⟨i, rfl⟩ := hb
    have lent : ∀ (s : Sl) (m : Mo) (ds' : List Ag), env[i]? = some s → s.own = some m → evAs gl cf es (env.set i (.brw m)) = some (ds', env') → ds = .sl (.brw m) :: ds' → tP K gl cf (.brw i) σ H fun x H1 => tAs K gl cf es σ H1 fun xs H2 => R (x :: xs) H2 := fun s m ds' hs ho h2 e => by
      subst e
      obtain ⟨a, h1, hm, r1⟩ := r.lend hs ho
      refine ⟨.ref a, h1, F, plus Z a, _, ds', env', r1, h2, fun vs H' F' Z' f z st r2 rs hb => ?_⟩
      refine k _ H' F' Z' f (fun b hz => z b (.inl hz)) (st.mono fun b q => q.imp_right .inl) r2 (.brw (z a (.inr rfl)) ?_ rs) (fun z => absurd z (by simp [Es.hasB]))
      exact hm.stay (st.mono fun _ => .inl) f (st.kp a (.inr (.inr rfl)))
    unfold evAs at ev
    split at ev
    · rename_i d hs
      obtain ⟨⟨ds', e2⟩, h2, ev⟩ := Option.bind_eq_some_iff.mp ev
      cases ev
      obtain ⟨v, h1, hv⟩ := r.val i d hs
      refine ⟨v, h1, F, Z, env, ds', _, r, h2, fun vs H' F' Z' f z st r2 rs hb => ?_⟩
      exact k _ H' F' Z' f z st r2 (.val (hv.stay (st.mono fun _ => .inl) f) rs) (fun z => absurd z (by simp [Es.hasB]))
    · rename_i m hs
      obtain ⟨⟨ds', e2⟩, h2, ev⟩ := Option.bind_eq_some_iff.mp ev
      cases ev
      exact lent _ m ds' hs rfl h2 rfl
    · rename_i m hs
      obtain ⟨⟨ds', e2⟩, h2, ev⟩ := Option.bind_eq_some_iff.mp ev
      cases ev
      exact lent _ m ds' hs rfl h2 rfl
    · rename_i m hs
      obtain ⟨⟨ds', e2⟩, h2, ev⟩ := Option.bind_eq_some_iff.mp ev
      cases ev
      obtain ⟨a, h1, za, hm⟩ := r.brw i m hs
      refine ⟨.ref a, h1, F, Z, env, ds', _, r, h2, fun vs H' F' Z' f z st r2 rs hb => ?_⟩
      exact k _ H' F' Z' f z st r2 (.brw (z a za) (hm.stay (st.mono fun _ => .inl) f (st.kp a (.inr za))) rs) (fun z => absurd z (by simp [Es.hasB]))
    · cases ev
  · by_cases hm : ∃ i, e = .mov i
    · obtain ⟨i, rfl⟩ := hm
      unfold evAs at ev
      obtain ⟨s, hs, ev⟩ := Option.bind_eq_some_iff.mp ev
      obtain ⟨m, ho, ev⟩ := Option.bind_eq_some_iff.mp ev
      obtain ⟨⟨ds', e2⟩, h2, ev⟩ := Option.bind_eq_some_iff.mp ev
      cases ev
      obtain ⟨a, h1, _⟩ := r.own i s m hs ho
      refine ⟨.ref a, h1, F, Z, env, ds', _, r, h2, fun vs H' F' Z' f z st r2 rs hb => ?_⟩
      exact k _ H' F' Z' f z st r2 (.pend h1 rs) (fun z => hb z)
    · rw [evAs.eq_4 _ _ _ _ _ (fun i z => hb ⟨i, z⟩) (fun i z => hm ⟨i, z⟩)] at ev
      obtain ⟨⟨rv, e1⟩, h1, ev⟩ := Option.bind_eq_some_iff.mp ev
      obtain ⟨⟨ds', e2⟩, h2, ev⟩ := Option.bind_eq_some_iff.mp ev
      cases ev
      rw [tP_of (fun i z => hb ⟨i, z⟩) fun i z => hm ⟨i, z⟩]
      refine ⟨F, Z, env, rv, e1, r, h1, fun v H1 F1 f1 st1 r1 q1 => ?_⟩
      obtain ⟨F2, f2, r2, q2⟩ := q1.frz r1
      refine ⟨F2, Z, e1, ds', _, r2, h2, fun vs H' F' Z' f z st r3 rs hb' => ?_⟩
      refine k _ H' F' Z' (fun a h => f a (f2 a (f1 a h))) z (sub_stay st1 st (fun a h => f2 a (f1 a h)) fun _ h => h) r3 (.val (q2.stay (st.mono fun _ => .inl) f) rs) (fun z => hb' ?_)
      cases e <;> first | exact absurd ⟨_, rfl⟩ hb | exact z
/-- the places of what is lent to be changed: at p the owner's slot i, the address a -/
theorem args_len : ∀ {ag : List Ag} {vs : List V} {sl : List Sl}, ARs K F Z H σ ag vs → getArgs env ag = some sl → sl.length = vs.length
  | _, _, _, .nil, h => by cases h; rfl
  | _, _, _, .val _ t, h => by
    unfold getArgs at h
    obtain ⟨t', h1, h⟩ := Option.bind_eq_some_iff.mp h
    cases h
    exact congrArg (· + 1) (args_len t h1)
  | _, _, _, .brw _ _ t, h => by
    unfold getArgs at h
    obtain ⟨t', h1, h⟩ := Option.bind_eq_some_iff.mp h
    cases h
    exact congrArg (· + 1) (args_len t h1)
  | _, _, _, .pend _ t, h => by
    unfold getArgs at h
    obtain ⟨x, _, h⟩ := Option.bind_eq_some_iff.mp h
    obtain ⟨m, _, h⟩ := Option.bind_eq_some_iff.mp h
    obtain ⟨t', h1, h⟩ := Option.bind_eq_some_iff.mp h
    cases h
    exact congrArg (· + 1) (args_len t h1)
/-- what stands at place p -/
theorem args_at : ∀ {ag : List Ag} {vs : List V} {sl : List Sl} {p : Nat} {s : Sl}, ARs K F Z H σ ag vs → getArgs env ag = some sl → sl[p]? = some s →
    (∃ d v, s = .val d ∧ vs[p]? = some v ∧ Rep K F H d v) ∨ (∃ m a, s = .brw m ∧ vs[p]? = some (.ref a) ∧ Z a ∧ MRep K F H a m) ∨ (∃ i x m v, s = .io m ∧ ag[p]? = some (.pend i) ∧ env[i]? = some x ∧ x.own = some m ∧ vs[p]? = some v ∧ σ[i]? = some (some v))
  | _, _, _, _, _, .nil, h, e => by cases h; simp at e
  | _, _, _, 0, _, .val r t, h, e => by
    unfold getArgs at h
    obtain ⟨t', h1, h⟩ := Option.bind_eq_some_iff.mp h
    cases h; cases e
    exact .inl ⟨_, _, rfl, rfl, r⟩
  | _, _, _, p + 1, _, .val r t, h, e => by
    unfold getArgs at h
    obtain ⟨t', h1, h⟩ := Option.bind_eq_some_iff.mp h
    cases h
    exact args_at (p := p) t h1 e
  | _, _, _, 0, _, .brw z m t, h, e => by
    unfold getArgs at h
    obtain ⟨t', h1, h⟩ := Option.bind_eq_some_iff.mp h
    cases h; cases e
    exact .inr (.inl ⟨_, _, rfl, rfl, z, m⟩)
  | _, _, _, p + 1, _, .brw z m t, h, e => by
    unfold getArgs at h
    obtain ⟨t', h1, h⟩ := Option.bind_eq_some_iff.mp h
    cases h
    exact args_at (p := p) t h1 e
  | _, _, _, 0, _, .pend q t, h, e => by
    unfold getArgs at h
    obtain ⟨x, hx, h⟩ := Option.bind_eq_some_iff.mp h
    obtain ⟨m, hm, h⟩ := Option.bind_eq_some_iff.mp h
    obtain ⟨t', h1, h⟩ := Option.bind_eq_some_iff.mp h
    cases h; cases e
    exact .inr (.inr ⟨_, _, _, _, rfl, rfl, hx, hm, rfl, q⟩)
  | _, _, _, p + 1, _, .pend q t, h, e => by
    unfold getArgs at h
    obtain ⟨x, _, h⟩ := Option.bind_eq_some_iff.mp h
    obtain ⟨m, _, h⟩ := Option.bind_eq_some_iff.mp h
    obtain ⟨t', h1, h⟩ := Option.bind_eq_some_iff.mp h
    cases h
    exact args_at (p := p) t h1 e
theorem mem_pends : ∀ {ag : List Ag} {p i : Nat}, ag[p]? = some (.pend i) → i ∈ pends ag
  | [], _, _, h => by simp at h
  | .sl _ :: r, 0, _, h => by cases h
  | .pend j :: r, 0, _, h => by cases h; exact List.mem_cons_self
  | .sl _ :: r, p + 1, _, h => mem_pends (ag := r) (p := p) h
  | .pend j :: r, p + 1, _, h => List.mem_cons_of_mem _ (mem_pends (ag := r) (p := p) h)
theorem nodup_pends : ∀ {ag : List Ag} {p q i : Nat}, nodupB (pends ag) = true → ag[p]? = some (.pend i) → ag[q]? = some (.pend i) → p = q
  | [], _, _, _, _, h, _ => by simp at h
  | .sl _ :: r, 0, _, _, _, h, _ => by cases h
  | .sl _ :: r, _ + 1, 0, _, _, _, h => by cases h
  | .sl _ :: r, p + 1, q + 1, i, n, h, h' => congrArg (· + 1) (nodup_pends (ag := r) n h h')
  | .pend j :: r, 0, 0, _, _, _, _ => rfl
  | .pend j :: r, 0, q + 1, i, n, h, h' => by
    cases h
    unfold pends nodupB at n
    rw [Bool.and_eq_true] at n
    have := mem_pends (ag := r) (p := q) h'
    simp_all
  | .pend j :: r, p + 1, 0, i, n, h, h' => by
    cases h'
    unfold pends nodupB at n
    rw [Bool.and_eq_true] at n
    have := mem_pends (ag := r) (p := p) h
    simp_all
  | .pend j :: r, p + 1, q + 1, i, n, h, h' => by
    unfold pends nodupB at n
    rw [Bool.and_eq_true] at n
    exact congrArg (· + 1) (nodup_pends (ag := r) n.2 h h')
/-- slots behind the giving back -/
theorem putBack_at : ∀ {ag : List Ag} {sl : List Sl} {env env' : Env'}, nodupB (pends ag) = true → putBack ag sl env = some env' → ∀ j,
    (j ∉ pends ag → env'[j]? = env[j]?) ∧ (∀ (p : Nat), ag[p]? = some (Ag.pend j) → ∃ (m : Mo) (x : Sl), sl[p]? = some (Sl.io m) ∧ env[j]? = some x ∧ env'[j]? = some (x.put m))
  | [], _, env, env', _, h, j => by cases h; exact ⟨fun _ => rfl, fun p z => by simp at z⟩
  | .sl x :: ag, s :: r, env, env', n, h, j => by
    obtain ⟨h1, h2⟩ := putBack_at (ag := ag) (sl := r) (env := env) (env' := env') n h j
    refine ⟨h1, fun p hp => ?_⟩
    cases p with
    | zero => cases hp
    | succ p => exact h2 p hp
  | .pend i :: ag, .io m :: r, env, env', n, h, j => by
    unfold putBack at h
    obtain ⟨x, hx, h⟩ := Option.bind_eq_some_iff.mp h
    unfold pends nodupB at n
    rw [Bool.and_eq_true] at n
    obtain ⟨h1, h2⟩ := putBack_at (ag := ag) n.2 h j
    have ni : i ∉ pends ag := by simpa using n.1
    refine ⟨fun hj => ?_, fun p hp => ?_⟩
    · have hj' : j ≠ i ∧ j ∉ pends ag := by simpa [pends] using hj
      rw [h1 hj'.2, List.getElem?_set_ne (Ne.symm hj'.1)]
    · cases p with
      | zero =>
        cases hp
        have hl := (List.getElem?_eq_some_iff.mp hx).1
        exact ⟨m, x, rfl, hx, by rw [h1 ni, List.getElem?_set_self hl]⟩
      | succ p =>
        obtain ⟨m', x', q1, q2, q3⟩ := h2 p hp
        have hj : j ≠ i := fun e => ni (e ▸ mem_pends hp)
        exact ⟨m', x', q1, by rw [← q2, List.getElem?_set_ne (Ne.symm hj)], q3⟩
  | .sl _ :: _, [], _, _, _, h, _ => by cases h
  | .pend _ :: _, [], _, _, _, h, _ => by cases h
  | .pend _ :: _, .no :: _, _, _, _, h, _ => by cases h
  | .pend _ :: _, .val _ :: _, _, _, _, h, _ => by cases h
  | .pend _ :: _, .loc _ :: _, _, _, _, h, _ => by cases h
  | .pend _ :: _, .brw _ :: _, _, _, _, h, _ => by cases h
theorem pend_place : ∀ {ag : List Ag} {i : Nat}, i ∈ pends ag → ∃ (p : Nat), ag[p]? = some (Ag.pend i)
  | [], _, h => by simp [pends] at h
  | .sl _ :: r, i, h => by
    obtain ⟨p, hp⟩ := pend_place (ag := r) h
    exact ⟨p + 1, hp⟩
  | .pend j :: r, i, h => by
    rcases List.mem_cons.mp h with rfl | h
    · exact ⟨0, rfl⟩
    · obtain ⟨p, hp⟩ := pend_place (ag := r) h
      exact ⟨p + 1, hp⟩
theorem pend_at : ∀ {ag : List Ag} {vs : List V} {p i : Nat}, ARs K F Z H σ ag vs → ag[p]? = some (Ag.pend i) → ∃ v, vs[p]? = some v ∧ σ[i]? = some (some v)
  | _, _, _, _, .nil, h => by simp at h
  | _, _, 0, _, .val _ _, h => by cases h
  | _, _, 0, _, .brw _ _ _, h => by cases h
  | _, _, 0, _, .pend q _, h => by cases h; exact ⟨_, rfl, q⟩
  | _, _, p + 1, _, .val _ t, h => pend_at (p := p) t h
  | _, _, p + 1, _, .brw _ _ t, h => pend_at (p := p) t h
  | _, _, p + 1, _, .pend _ t, h => pend_at (p := p) t h
theorem putBack_len : ∀ {ag : List Ag} {sl : List Sl} {env env' : Env'}, putBack ag sl env = some env' → env'.length = env.length
  | [], _, env, env', h => by cases h; rfl
  | .sl x :: ag, s :: r, env, env', h => putBack_len (ag := ag) (sl := r) h
  | .pend i :: ag, .io m :: r, env, env', h => by
    unfold putBack at h
    obtain ⟨x, hx, h⟩ := Option.bind_eq_some_iff.mp h
    rw [putBack_len h, List.length_set]
  | .sl _ :: _, [], _, _, h => by cases h
  | .pend _ :: _, [], _, _, h => by cases h
  | .pend _ :: _, .no :: _, _, _, h => by cases h
  | .pend _ :: _, .val _ :: _, _, _, h => by cases h
  | .pend _ :: _, .loc _ :: _, _, _, h => by cases h
  | .pend _ :: _, .brw _ :: _, _, _, h => by cases h
theorem io_own {s : Sl} {m : Mo} (h : s.own = some m) : s = .loc m ∨ s = .io m := by cases s <;> first | (cases h; done) | (cases h; exact .inl rfl) | (cases h; exact .inr rfl)
/-- a call: its arguments, then the promise of the def -/
theorem call_read {f : Nat} {es : Es} (h : tE K gl cf (.call f es) σ H Q) : tAs K gl cf es σ H fun vs H1 => spOf K (cf f) vs H1 Q fun _ _ _ => False := by
  obtain ⟨F, Z, env, rv, env', r, ev, k⟩ := h
  unfold evE at ev
  obtain ⟨⟨ag, e1⟩, h1, ev⟩ := Option.bind_eq_some_iff.mp ev
  dsimp only at ev
  split at ev
  · rename_i nd
    obtain ⟨sl, h2, ev⟩ := Option.bind_eq_some_iff.mp ev
    obtain ⟨⟨rv', sl'⟩, h3, ev⟩ := Option.bind_eq_some_iff.mp ev
    obtain ⟨e2, h4, ev⟩ := Option.bind_eq_some_iff.mp ev
    cases ev
    refine ⟨F, Z, env, ag, e1, r, h1, fun vs H1 F1 Z1 f1 z1 st1 R1 as hb => ?_⟩
    -- what the callee keeps: Z1, and the owners that are not lent
    let T : Addr → Prop := fun b => ∃ i ∈ pends ag, ∃ s m, e1[i]? = some s ∧ s.own = some m ∧ σ[i]? = some (some (.ref b))
    let Zc : Addr → Prop := fun b => Z1 b ∨ ∃ i s m, i ∉ pends ag ∧ e1[i]? = some s ∧ s.own = some m ∧ σ[i]? = some (some (.ref b))
    have own_at : ∀ {i : Nat} {s : Sl} {m : Mo} {v : V}, e1[i]? = some s → s.own = some m → σ[i]? = some (some v) → ∃ a, v = .ref a ∧ ¬ F1 a ∧ ¬ Z1 a ∧ MRep K F1 H1 a m := fun {i s m v} e o q => by
      obtain ⟨a, q1, q2, q3, q4⟩ := R1.own i s m e o
      rw [q] at q1; cases q1
      exact ⟨a, rfl, q2, q3, q4⟩
    have hlen := args_len as h2
    have nZc : ∀ {i : Nat} {s : Sl} {m : Mo} {a : Addr}, i ∈ pends ag → e1[i]? = some s → s.own = some m → σ[i]? = some (some (.ref a)) → ¬ Zc a := fun {i s m a} hi e o q z => by
      rcases z with z | ⟨j, s', m', hj, e', o', q'⟩
      · obtain ⟨b, q1, _, q3, _⟩ := R1.own i s m e o
        rw [q] at q1; cases q1
        exact q3 z
      · exact hj (R1.sep i j s s' m m' a e o e' o' q q' ▸ hi)
    have gm : ∀ {p : Nat} {v : V}, (vs.map some)[p]? = some (some v) ↔ vs[p]? = some v := fun {p v} => by
      rw [List.getElem?_map]
      cases vs[p]? <;> simp
    have RC : ERel K F1 Zc H1 sl (vs.map some) := by
      refine ⟨by rw [List.length_map]; exact hlen, R1.fd, fun b z => ?_, fun b hf z => ?_, fun p d e => ?_, fun p s m e o => ?_, fun p q s s' m m' a e o e' o' w w' => ?_, fun p m e => ?_⟩
      · rcases z with z | ⟨j, s', m', hj, e', o', q'⟩
        · exact R1.zd b z
        · obtain ⟨a, q1, _, _, q4⟩ := own_at e' o' q'
          cases q1; exact q4.dom
      · rcases z with z | ⟨j, s', m', hj, e', o', q'⟩
        · exact R1.dj b hf z
        · obtain ⟨a, q1, q2, _, _⟩ := own_at e' o' q'
          cases q1; exact q2 hf
      · rcases args_at as h2 e with ⟨d', v, q1, q2, q3⟩ | ⟨m, a, q1, q2, q3, q4⟩ | ⟨i, x, m, v, q1, _⟩
        · cases q1; exact ⟨v, gm.mpr q2, q3⟩
        · cases q1
        · cases q1
      · rcases args_at as h2 e with ⟨d', v, q1, q2, q3⟩ | ⟨m', a, q1, q2, q3, q4⟩ | ⟨i, x, m', v, q1, q2, q3, q4, q5, q6⟩
        · subst q1; cases o
        · subst q1; cases o
        · subst q1; cases o
          obtain ⟨a, w1, w2, w3, w4⟩ := own_at q3 q4 q6
          subst w1
          exact ⟨a, gm.mpr q5, w2, nZc (mem_pends q2) q3 q4 q6, w4⟩
      · rcases args_at as h2 e with ⟨d', v, q1, q2, q3⟩ | ⟨m', a', q1, q2, q3, q4⟩ | ⟨i, x, m1, v, q1, q2, q3, q4, q5, q6⟩
        · subst q1; cases o
        · subst q1; cases o
        · rcases args_at as h2 e' with ⟨d', v', p1, p2, p3⟩ | ⟨m', a', p1, p2, p3, p4⟩ | ⟨i', x', m2, v', p1, p2, p3, p4, p5, p6⟩
          · subst p1; cases o'
          · subst p1; cases o'
          · have e5 := gm.mp w
            have e6 := gm.mp w'
            rw [q5] at e5; cases e5
            rw [p5] at e6; cases e6
            have ei := R1.sep i i' x x' m1 m2 a q3 q4 p3 p4 q6 p6
            subst ei
            exact nodup_pends nd q2 p2
      · rcases args_at as h2 e with ⟨d', v, q1, q2, q3⟩ | ⟨m', a, q1, q2, q3, q4⟩ | ⟨i, x, m1, v, q1, _⟩
        · cases q1
        · cases q1; exact ⟨a, gm.mpr q2, .inl q3, q4⟩
        · cases q1
    refine ⟨F1, Zc, sl, _, sl', RC, h3, fun v H2 F2 f2 fd2 dj2 st2 io rc => ?_⟩
    have stF : Stay F1 H1 H2 := st2.mono fun _ => .inl
    have stZ : ∀ b, Zc b → H2 b = H1 b := fun b z => st2.kp b (.inr z)
    have pb := putBack_at nd h4
    -- an owner behind the call
    have ow : ∀ (i : Nat) (s : Sl) (m : Mo), e2[i]? = some s → s.own = some m → ∃ s0 m0 a, e1[i]? = some s0 ∧ s0.own = some m0 ∧ σ[i]? = some (some (.ref a)) ∧ ¬ F2 a ∧ ¬ Z1 a ∧ MRep K F2 H2 a m ∧ ((i ∉ pends ag ∧ Zc a) ∨ ∃ (p : Nat) (m' : Mo), ag[p]? = some (Ag.pend i) ∧ sl'[p]? = some (Sl.io m') ∧ vs[p]? = some (V.ref a)) := fun i s m e o => by
      by_cases hi : i ∈ pends ag
      · obtain ⟨p, hp⟩ := pend_place hi
        obtain ⟨m', x, q1, q2, q3⟩ := (pb i).2 p hp
        rw [e] at q3; cases q3
        obtain ⟨s0, m0, w1, w2⟩ := getArgs_own h2 i hi
        rw [q2] at w1; cases w1
        obtain ⟨a, w3, w4, w5, w6⟩ := R1.own i x m0 q2 w2
        obtain ⟨a', u1, u2, u3, u4⟩ := io p m' q1
        obtain ⟨v', e5, e6⟩ := pend_at as hp
        rw [w3] at e6; cases e6
        have ev : vs[p]? = some (V.ref a) := e5
        rw [u1] at ev; cases ev
        have em : m = m' := by rw [put_own w2] at o; exact (Option.some.inj o).symm
        subst em
        exact ⟨x, m0, a, q2, w2, w3, u2, fun z => u3 (.inl z), u4, .inr ⟨p, m, hp, q1, u1⟩⟩
      · have e' : e1[i]? = some s := by rw [← (pb i).1 hi]; exact e
        obtain ⟨a, w3, w4, w5, w6⟩ := R1.own i s m e' o
        have zc : Zc a := .inr ⟨i, s, m, hi, e', o, w3⟩
        exact ⟨s, m, a, e', o, w3, fun z => dj2 a z zc, w5, w6.stay stF f2 (stZ a zc), .inl ⟨hi, zc⟩⟩
    -- a slot that is no owner
    have keep : ∀ (i : Nat) (s : Sl), e2[i]? = some s → s.own = none → e1[i]? = some s := fun i s e o => by
      by_cases hi : i ∈ pends ag
      · obtain ⟨p, hp⟩ := pend_place hi
        obtain ⟨m', x, q1, q2, q3⟩ := (pb i).2 p hp
        rw [e] at q3; cases q3
        obtain ⟨s0, m0, w1, w2⟩ := getArgs_own h2 i hi
        rw [q2] at w1; cases w1
        rw [put_own w2] at o; cases o
      · rw [← (pb i).1 hi]; exact e
    have R2 : ERel K F2 Z1 H2 e2 σ := by
      refine ⟨(putBack_len h4).trans R1.len, fd2, fun b z => st2.dom b (R1.zd b z), fun b hf z => dj2 b hf (.inl z), fun i d e => ?_, fun i s m e o => ?_, fun i j s s' m m' a e o e' o' w w' => ?_, fun i m e => ?_⟩
      · obtain ⟨v, q1, q2⟩ := R1.val i d (keep i _ e rfl)
        exact ⟨v, q1, q2.stay stF f2⟩
      · obtain ⟨s0, m0, a, _, _, q1, q2, q3, q4, _⟩ := ow i s m e o
        exact ⟨a, q1, q2, q3, q4⟩
      · obtain ⟨s0, m0, b, w1, w2, w3, _⟩ := ow i s m e o
        obtain ⟨s0', m0', b', w1', w2', w3', _⟩ := ow j s' m' e' o'
        exact R1.sep i j s0 s0' m0 m0' a w1 w2 w1' w2' w w'
      · obtain ⟨a, q1, q2, q3⟩ := R1.brw i m (keep i _ e rfl)
        exact ⟨a, q1, q2, q3.stay stF f2 (stZ a (.inl q2))⟩
    have rel : RvRel K F2 Z1 H2 e2 σ rv' v := by
      cases rv' with
      | val d => exact rc
      | new m =>
        obtain ⟨a, q1, q2, q3, q4, q5⟩ := rc
        refine ⟨a, q1, ⟨q2, fun z => q3 (.inl z), fun i s m' e o w => ?_⟩, q4⟩
        obtain ⟨s0, m0, b, w1, w2, w3, _, _, _, w4⟩ := ow i s m' e o
        rw [w] at w3; cases w3
        rcases w4 with ⟨_, z⟩ | ⟨p, m'', u1, u2, u3⟩
        · exact q3 z
        · exact q5 p m'' u2 u3
    have stA : Stay (fun a => F a ∨ Z a) H H2 := sub_stay st1 st2 f1 fun a z => .inl (z1 a z)
    split at k
    · exact k v H2 F2 (fun a h => f2 a (f1 a h)) stA (r.back R2 z1) (rel.back r R2 z1)
    · rename_i hb'
      have e : Z1 = Z := hb (by simpa using hb')
      subst e
      exact k v H2 F2 (fun a h => f2 a (f1 a h)) stA R2 rel
  · cases ev
end
end Pv

namespace Pv
open PySem PySem.Spec PyProof.Rows L2

/-! ### stores to names -/
/-- the caller's slots are as they were -/
def Kept (env : Env') (σ σ' : L2.St) : Prop := ∀ j, kd env j ≠ 0 → σ'[j]? = σ[j]?
section
variable {K : PySem.W.Frag} {gl : Nat → D} {cf : Nat → List Sl → Option (Rv × List Sl)} {σ σ' σ'' : L2.St} {H H' : Hp} {Q Q' : VK} {F F' Z Z' : Addr → Prop} {env env' env'' : Env'}
theorem Kept.refl : Kept env σ σ := fun _ _ => rfl
theorem Kept.trans (k : Kin env env') (a : Kept env σ σ') (b : Kept env' σ' σ'') : Kept env σ σ'' := fun j h => (b j (by rw [k.2 j]; exact h)).trans (a j h)
theorem ERel.assign (r : ERel K F Z H env σ) {i : Nat} {s : Sl} {v : V} (h : setAt i s env = some env') (hs : (∃ d, s = .val d ∧ Rep K F H d v) ∨ (∃ m a, s = .loc m ∧ v = .ref a ∧ Out F Z env σ a ∧ MRep K F H a m)) :
    ERel K F Z H env' (σ.set i (some v)) ∧ Kept env σ (σ.set i (some v)) := by
  unfold setAt at h
  split at h
  · rename_i t et
    split at h
    · rename_i hf
      cases h
      have hi : i < σ.length := r.ix et
      have at_i : (σ.set i (some v))[i]? = some (some v) := List.getElem?_set_self hi
      have at_j : ∀ j, j ≠ i → (σ.set i (some v))[j]? = σ[j]? := fun j hj => List.getElem?_set_ne (Ne.symm hj)
      refine ⟨⟨by rw [List.length_set, List.length_set]; exact r.len, r.fd, r.zd, r.dj, fun j d ej => ?_, fun j t' n ej hj => ?_, fun j k t' t'' n n' b ej hj ek hk z1 z2 => ?_, fun j n ej => ?_⟩, fun j hj => at_j j fun e => hj ?_⟩
      · rcases get_set ej with ⟨e1, w⟩ | ⟨e1, w⟩
        · subst e1
          rcases hs with ⟨d', q1, q2⟩ | ⟨m, a, q1, _⟩
          · rw [q1] at w; cases w; exact ⟨v, at_i, q2⟩
          · rw [q1] at w; cases w
        · obtain ⟨u, q1, q2⟩ := r.val j d w
          exact ⟨u, by rw [at_j j e1]; exact q1, q2⟩
      · rcases get_set ej with ⟨e1, w⟩ | ⟨e1, w⟩
        · subst e1
          rcases hs with ⟨d', q1, q2⟩ | ⟨m, a, q1, q2, q3, q4⟩
          · rw [w, q1] at hj; cases hj
          · rw [w, q1] at hj; cases hj; exact ⟨a, by rw [at_i, q2], q3.1, q3.2.1, q4⟩
        · obtain ⟨b, q1, q2⟩ := r.own j t' n w hj
          exact ⟨b, by rw [at_j j e1]; exact q1, q2⟩
      · have one : ∀ (l : Nat) (x : Sl) (y : Mo), (env.set i s)[l]? = some x → x.own = some y → l ≠ i → (σ.set i (some v))[l]? = some (some (.ref b)) → env[l]? = some x ∧ σ[l]? = some (some (.ref b)) := fun l x y el hl ne z => by
          rcases get_set el with ⟨e1, _⟩ | ⟨_, w⟩
          · exact absurd e1 ne
          · exact ⟨w, by rw [← at_j l ne]; exact z⟩
        have new : ∀ (l : Nat) (x : Sl) (y : Mo), (env.set i s)[l]? = some x → x.own = some y → l ≠ i → (σ.set i (some v))[l]? = some (some (.ref b)) → ∀ (x' : Sl) (y' : Mo), (env.set i s)[i]? = some x' → x'.own = some y' → (σ.set i (some v))[i]? = some (some (.ref b)) → False := fun l x y el hl ne z x' y' ei hi' z' => by
          obtain ⟨w1, w2⟩ := one l x y el hl ne z
          rcases get_set ei with ⟨_, w⟩ | ⟨e1, _⟩
          · rcases hs with ⟨d', q1, q2⟩ | ⟨m, a, q1, q2, q3, q4⟩
            · rw [w, q1] at hi'; cases hi'
            · rw [at_i, q2] at z'; cases z'
              exact q3.2.2 l x y w1 hl w2
          · exact e1 rfl
        by_cases e1 : j = i
        · by_cases e2 : k = i
          · exact e1.trans e2.symm
          · subst e1; exact (new k t'' n' ek hk e2 z2 t' n ej hj z1).elim
        · by_cases e2 : k = i
          · subst e2; exact (new j t' n ej hj e1 z1 t'' n' ek hk z2).elim
          · obtain ⟨w1, w2⟩ := one j t' n ej hj e1 z1
            obtain ⟨w3, w4⟩ := one k t'' n' ek hk e2 z2
            exact r.sep j k t' t'' n n' b w1 hj w3 hk w2 w4
      · rcases get_set ej with ⟨e1, w⟩ | ⟨e1, w⟩
        · rcases hs with ⟨d', q1, q2⟩ | ⟨m, a, q1, _⟩
          · rw [q1] at w; cases w
          · rw [q1] at w; cases w
        · obtain ⟨b, q1, q2⟩ := r.brw j n w
          exact ⟨b, by rw [at_j j e1]; exact q1, q2⟩
      · subst e; unfold kd; rw [et]; exact free_kd hf
    · cases h
  · cases h
/-- targets -/
def gAll : List Nat → TGs
  | [] => gNil
  | i :: r => gCons (gName i) (gAll r)
def tG (K : PySem.W.Frag) : Tg → TG
  | .nm i => gName i
  | .tp is => fun v σ H Q => gTup K is.length (gAll is) v σ H Q ∨ gUnl K is.length (gAll is) v σ H Q
def Tg.ixs : Tg → List Nat
  | .nm i => [i]
  | .tp is => is
/-- the slots outside are as they were -/
def Off (is : List Nat) (σ σ' : L2.St) : Prop := σ'.length = σ.length ∧ ∀ j, j ∉ is → σ'[j]? = σ[j]?
theorem all_read : ∀ {is : List Nat} {ds : List D} {vs : List V} {env env' : Env'} {σ : L2.St} {R : L2.St → Hp → Prop}, ERel K F Z H env σ → Reps K F H ds vs → setAll is ds env = some env' →
    (∀ σ', ERel K F Z H env' σ' → Kept env σ σ' → Off is σ σ' → R σ' H) → gAll is vs σ H R
  | [], [], _, env, env', σ, R, r, .nil, h, k => by cases h; exact ⟨rfl, k σ r .refl ⟨rfl, fun _ _ => rfl⟩⟩
  | i :: is, d :: ds, _, env, env', σ, R, r, .cons rv rs, h, k => by
    unfold setAll at h
    obtain ⟨e1, h1, h2⟩ := Option.bind_eq_some_iff.mp h
    obtain ⟨r1, k1⟩ := r.assign h1 (.inl ⟨d, rfl, rv⟩)
    exact ⟨_, _, rfl, all_read r1 rs h2 fun σ' r2 k2 o2 => k σ' r2 (k1.trans (Kin.setAt h1 rfl) k2) ⟨o2.1.trans List.length_set, fun j hj => by
      simp only [List.mem_cons, not_or] at hj
      rw [o2.2 j hj.2, List.getElem?_set_ne (Ne.symm hj.1)]⟩⟩
  | [], _ :: _, _, _, _, _, _, _, _, h, _ => by cases h
  | _ :: _, [], _, _, _, _, _, _, _, h, _ => by cases h
theorem setAll_count : ∀ {is : List Nat} {ds : List D} {env env' : Env'}, setAll is ds env = some env' → ds.length = is.length
  | [], [], _, _, _ => rfl
  | i :: is, d :: ds, env, env', h => by
    unfold setAll at h
    obtain ⟨e1, h1, h2⟩ := Option.bind_eq_some_iff.mp h
    exact congrArg (· + 1) (setAll_count h2)
  | [], _ :: _, _, _, h => by cases h
  | _ :: _, [], _, _, h => by cases h
theorem tg_read {tg : Tg} {d : D} {v : V} {R : L2.St → Hp → Prop} (r : ERel K F Z H env σ) (q : Rep K F H d v) (h : setTg tg d env = some env') (k : ∀ σ', ERel K F Z H env' σ' → Kept env σ σ' → Off tg.ixs σ σ' → R σ' H) : tG K tg v σ H R := by
  cases tg with
  | nm i =>
    obtain ⟨r1, k1⟩ := r.assign h (.inl ⟨d, rfl, q⟩)
    exact k _ r1 k1 ⟨List.length_set, fun j hj => List.getElem?_set_ne (by simpa [Tg.ixs, eq_comm] using hj)⟩
  | tp is =>
    cases d with
    | tuple ds =>
      obtain ⟨a, vs, rfl, h1, rs⟩ := q.tuple
      exact .inl ⟨a, vs, rfl, h1, by rw [← rs.length]; exact setAll_count h, all_read r rs h k⟩
    | list ds =>
      obtain ⟨a, vs, rfl, h1, rs⟩ := q.list
      exact .inr ⟨a, vs, rfl, .of h1, by rw [← rs.length]; exact setAll_count h, all_read r rs h k⟩
    | _ => cases h

/-! ### what is walked -/
/-- a list that stays as it is -/
def Held (K : PySem.W.Frag) (F Z : Addr → Prop) (H : Hp) (a : Addr) (vs : List V) : Prop := (H a = some (.lst vs) ∧ (F a ∨ Z a)) ∨ ScrAt K H a vs
theorem Held.sq {a : Addr} {vs : List V} (h : Held K F Z H a vs) : SqL K H a vs := h.elim (fun h => .of h.1) ScrAt.sq
theorem Held.stay {a : Addr} {vs : List V} (h : Held K F Z H a vs) (s : Stay (fun a => F a ∨ Z a) H H') (f : ∀ a, F a → F' a) (z : ∀ a, Z a → Z' a) : Held K F' Z' H' a vs := by
  rcases h with ⟨h1, h2⟩ | (⟨o, h⟩ | h)
  · exact .inl ⟨(s.kp a h2).trans h1, h2.imp (f a) (z a)⟩
  · exact .inr (.inl ⟨o, s.frz _ _ _ h⟩)
  · exact .inr (.inr h)
/-- the items that a for goes over -/
theorem walk_src {d : D} {v : V} {xs : List D} (q : RepB K F Z H d v) (h : walked d = some xs) : ∃ a vs, v = .ref a ∧ Reps K F H xs vs ∧ (Held K F Z H a vs ∨ SqT K H a vs) := by
  unfold walked at h
  split at h
  · cases h
    rcases q with q | ⟨a, m, e1, e2, z, hm⟩
    · cases q with
      | lst h1 hf rs => exact ⟨_, _, rfl, rs, .inl (.inl ⟨h1, .inl hf⟩)⟩
    · cases m with
      | lst ds => cases e2; obtain ⟨vs, h1, h2⟩ := hm; exact ⟨a, vs, e1, h2, .inl (.inl ⟨h1, .inr z⟩)⟩
      | dk _ => cases e2
  · cases h
    obtain ⟨a, vs, rfl, h1, rs⟩ := RepB.script q
    exact ⟨a, vs, rfl, rs, .inl (.inr h1)⟩
  · cases h
    obtain ⟨a, vs, rfl, h1, rs⟩ := q.tuple
    exact ⟨a, vs, rfl, rs, .inr h1⟩
  · cases h
theorem walk_lst {d : D} {v : V} {xs : List D} (q : RepB K F Z H d v) (h : walked d = some xs) (nt : ∀ ds, d ≠ .tuple ds) : ∃ a vs, v = .ref a ∧ Reps K F H xs vs ∧ Held K F Z H a vs := by
  unfold walked at h
  split at h
  · cases h
    rcases q with q | ⟨a, m, e1, e2, z, hm⟩
    · cases q with
      | lst h1 hf rs => exact ⟨_, _, rfl, rs, .inl ⟨h1, .inl hf⟩⟩
    · cases m with
      | lst ds => cases e2; obtain ⟨vs, h1, h2⟩ := hm; exact ⟨a, vs, e1, h2, .inl ⟨h1, .inr z⟩⟩
      | dk _ => cases e2
  · cases h
    obtain ⟨a, vs, rfl, h1, rs⟩ := RepB.script q
    exact ⟨a, vs, rfl, rs, .inr h1⟩
  · exact absurd rfl (nt _)
  · cases h
/-- the walk J goes over xs -/
def Src (K : PySem.W.Frag) (Z : Addr → Prop) (J : L2.It) (xs : List D) (F : Addr → Prop) (H : Hp) : Prop :=
  (∃ a vs, J = Itl K a ∧ Held K F Z H a vs ∧ Reps K F H xs vs) ∨ (∃ a vs, J = Itt K a ∧ SqT K H a vs ∧ Reps K F H xs vs) ∨ (∃ (lo : Int) (n : Nat), J = Itr lo n ∧ xs = (List.range n).map fun (k : Nat) => .int (lo + (k : Int))) ∨ (∃ (lo c : Int) (n : Nat), J = Itc lo c n ∧ xs = (List.range n).map fun (k : Nat) => .int (lo + (k : Int) * c))
theorem Src.stay {J : L2.It} {xs : List D} (h : Src K Z J xs F H) (s : Stay (fun a => F a ∨ Z a) H H') (f : ∀ a, F a → F' a) : Src K Z J xs F' H' := by
  rcases h with ⟨a, vs, e, h1, h2⟩ | ⟨a, vs, e, h1, h2⟩ | h
  · exact .inl ⟨a, vs, e, h1.stay s f fun _ z => z, h2.stay (s.mono fun _ => .inl) f⟩
  · exact .inr (.inl ⟨a, vs, e, SqT.stay s h1, h2.stay (s.mono fun _ => .inl) f⟩)
  · exact .inr (.inr h)
theorem rng_get {f : Nat → D} {n i : Nat} {d : D} (hi : ((List.range n).map f)[i]? = some d) : i < n ∧ d = f i := by
  rw [List.getElem?_map] at hi
  have hin : i < n := by
    cases hr : (List.range n)[i]? with
    | none => rw [hr] at hi; cases hi
    | some k => have := (List.getElem?_eq_some_iff.mp hr).1; simpa using this
  rw [List.getElem?_range hin] at hi
  cases hi
  exact ⟨hin, rfl⟩
theorem Src.go {J : L2.It} {xs : List D} {i : Nat} {d : D} (h : Src K Z J xs F H) (hi : xs[i]? = some d) : J.go i H ∧ ∀ x H', J.yld i H x H' → H' = H ∧ Rep K F H d x := by
  rcases h with ⟨a, vs, rfl, h1, h2⟩ | ⟨a, vs, rfl, h1, h2⟩ | ⟨lo, n, rfl, rfl⟩ | ⟨lo, c, n, rfl, rfl⟩
  · obtain ⟨v, hv, rv⟩ := h2.get hi
    refine ⟨⟨vs, v, h1.sq, hv⟩, fun x H' y => ⟨y.1, ?_⟩⟩
    have e := y.2 vs h1.sq
    rw [hv] at e; cases e
    exact rv
  · obtain ⟨v, hv, rv⟩ := h2.get hi
    refine ⟨⟨vs, v, h1, hv⟩, fun x H' y => ⟨y.1, ?_⟩⟩
    have e := y.2 vs h1
    rw [hv] at e; cases e
    exact rv
  · obtain ⟨hin, rfl⟩ := rng_get hi
    exact ⟨hin, fun x H' y => ⟨y.1, by rw [y.2]; exact .int _⟩⟩
  · obtain ⟨hin, rfl⟩ := rng_get hi
    exact ⟨hin, fun x H' y => ⟨y.1, by rw [y.2]; exact .int _⟩⟩
theorem Src.stop {J : L2.It} {xs : List D} (h : Src K Z J xs F H) : J.stop xs.length H := by
  rcases h with ⟨a, vs, rfl, h1, h2⟩ | ⟨a, vs, rfl, h1, h2⟩ | ⟨lo, n, rfl, rfl⟩ | ⟨lo, c, n, rfl, rfl⟩
  · exact ⟨vs, h1.sq, by rw [h2.length]; exact Nat.le_refl _⟩
  · exact ⟨vs, h1, by rw [h2.length]; exact Nat.le_refl _⟩
  · show n ≤ _
    simp
  · show n ≤ _
    simp
def tI (K : PySem.W.Frag) (gl : Nat → D) (cf : Nat → List Sl → Option (Rv × List Sl)) : It → TI
  | .of e => fun σ H R => iList K (tO K gl cf e) σ H R ∨ iTup K (tO K gl cf e) σ H R
  | .rng (.cons a .nil) => iRng1 (tEs K gl cf (.cons a .nil))
  | .rng (.cons a (.cons b (.cons d .nil))) => iRng3 (tEs K gl cf (.cons a (.cons b (.cons d .nil))))
  | .rng es => iRng2 (tEs K gl cf es)
/-- one value that is walked -/
theorem src_of {d : D} {v : V} {xs : List D} {R : L2.It → Hp → Prop} (q : RepB K F Z H d v) (h : walked d = some xs) (k : ∀ J, Src K Z J xs F H → R J H) :
    (∃ a, v = .ref a ∧ (∃ xs, SqL K H a xs) ∧ R (Itl K a) H) ∨ (∃ a, v = .ref a ∧ (∃ xs, SqT K H a xs) ∧ R (Itt K a) H) := by
  obtain ⟨a, vs, e, rs, hh⟩ := walk_src q h
  rcases hh with hh | hh
  · exact .inl ⟨a, e, ⟨vs, hh.sq⟩, k _ (.inl ⟨a, vs, rfl, hh, rs⟩)⟩
  · exact .inr ⟨a, e, ⟨vs, hh⟩, k _ (.inr (.inl ⟨a, vs, rfl, hh, rs⟩))⟩
theorem walked_kind {d : D} {xs : List D} (h : walked d = some xs) : (∃ ds, d = .tuple ds) ∨ (∃ ds, d = .list ds) ∨ ∃ ds, d = scrD ds := by
  unfold walked at h
  split at h
  · exact .inr (.inl ⟨_, rfl⟩)
  · exact .inr (.inr ⟨_, rfl⟩)
  · exact .inl ⟨_, rfl⟩
  · cases h
def Es.count : Es → Nat
  | .nil => 0
  | .cons _ es => es.count + 1
theorem evEs_count : ∀ {es : Es} {env env' : Env'} {ds : List D}, evEs gl cf es env = some (ds, env') → ds.length = es.count
  | .nil, _, _, _, h => by unfold evEs at h; cases h; rfl
  | .cons e es, env, env', ds, h => by
    by_cases hb : ∃ i, e = .brw i
    · obtain ⟨i, rfl⟩ := hb
      unfold evEs at h
      split at h <;> first | (cases h; done) | (obtain ⟨⟨ds2, e3⟩, h3, h⟩ := Option.bind_eq_some_iff.mp h; cases h; exact congrArg (· + 1) (evEs_count h3))
    · rw [evEs.eq_3 _ _ _ _ _ (fun i z => hb ⟨i, z⟩)] at h
      obtain ⟨⟨rv, e3⟩, _, h⟩ := Option.bind_eq_some_iff.mp h
      obtain ⟨⟨ds2, e4⟩, h3, h⟩ := Option.bind_eq_some_iff.mp h
      cases h
      exact congrArg (· + 1) (evEs_count h3)
theorem it_read {it : It} {xs : List D} {R : L2.It → Hp → Prop} (r : ERel K F Z H env σ) (h : evI gl cf it env = some (xs, env'))
    (k : ∀ (J : L2.It) (H1 : Hp) (F1 Z1 : Addr → Prop), (∀ a, F a → F1 a) → (∀ a, Z a → Z1 a) → (it.bIx = none → Z1 = Z) → Stay (fun a => F a ∨ Z a) H H1 → ERel K F1 Z1 H1 env' σ → Src K Z1 J xs F1 H1 → R J H1) : tI K gl cf it σ H R := by
  cases it with
  | of e =>
    by_cases hb : ∃ i, e = .brw i
    · obtain ⟨i, rfl⟩ := hb
      have lent : ∀ (s : Sl) (m : Mo), env[i]? = some s → s.own = some m → walked m.d = some xs → env' = env.set i (.brw m) → tI K gl cf (.of (.brw i)) σ H R := fun s m hs ho hw e => by
        subst e
        obtain ⟨a, h1, hm, r1⟩ := r.lend hs ho
        have q : RepB K F (plus Z a) H m.d (.ref a) := .inr ⟨a, m, rfl, rfl, .inr rfl, hm⟩
        rcases src_of q hw (fun J s => k J H F (plus Z a) (fun _ h => h) (fun _ => .inl) (fun z => nomatch z) .refl r1 s) with q | q
        · exact .inl ⟨.ref a, h1, q⟩
        · exact .inr ⟨.ref a, h1, q⟩
      unfold evI at h
      split at h
      · rename_i d hs
        obtain ⟨ys, h2, h⟩ := Option.bind_eq_some_iff.mp h
        cases h
        obtain ⟨v, h1, hv⟩ := r.val i d hs
        rcases src_of (.inl hv : RepB K F Z H d v) h2 (fun J s => k J H F Z (fun _ h => h) (fun _ h => h) (fun z => nomatch z) .refl r s) with q | q
        · exact .inl ⟨v, h1, q⟩
        · exact .inr ⟨v, h1, q⟩
      · rename_i m hs
        obtain ⟨ys, h2, h⟩ := Option.bind_eq_some_iff.mp h
        cases h
        exact lent _ m hs rfl h2 rfl
      · rename_i m hs
        obtain ⟨ys, h2, h⟩ := Option.bind_eq_some_iff.mp h
        cases h
        exact lent _ m hs rfl h2 rfl
      · rename_i m hs
        obtain ⟨ys, h2, h⟩ := Option.bind_eq_some_iff.mp h
        cases h
        obtain ⟨a, h1, za, hm⟩ := r.brw i m hs
        have q : RepB K F Z H m.d (.ref a) := .inr ⟨a, m, rfl, rfl, za, hm⟩
        rcases src_of q h2 (fun J s => k J H F Z (fun _ h => h) (fun _ h => h) (fun z => nomatch z) .refl r s) with q | q
        · exact .inl ⟨.ref a, h1, q⟩
        · exact .inr ⟨.ref a, h1, q⟩
      · cases h
    · rw [evI.eq_2 _ _ _ _ (fun i z => hb ⟨i, z⟩)] at h
      obtain ⟨⟨rv, e1⟩, h1, h⟩ := Option.bind_eq_some_iff.mp h
      obtain ⟨ys, h2, h⟩ := Option.bind_eq_some_iff.mp h
      cases h
      show iList K (tO K gl cf e) σ H R ∨ iTup K (tO K gl cf e) σ H R
      rw [tO_of fun i z => hb ⟨i, z⟩]
      have bn : (It.of e).bIx = none := by cases e <;> first | exact absurd ⟨_, rfl⟩ hb | rfl
      by_cases ht : ∃ ds, frz rv = .tuple ds
      · obtain ⟨ds, hd⟩ := ht
        refine .inr ⟨F, Z, env, rv, env', r, h1, fun v H1 F1 f1 st1 r1 q1 => ?_⟩
        obtain ⟨F2, f2, r2, q2⟩ := q1.frz r1
        rw [hd] at q2 h2
        obtain ⟨a, vs, ev, hq, rs⟩ := q2.tuple
        cases h2
        exact ⟨a, ev, ⟨vs, hq⟩, k _ H1 F2 Z (fun a h => f2 a (f1 a h)) (fun _ h => h) (fun _ => rfl) st1 r2 (.inr (.inl ⟨a, vs, rfl, hq, rs⟩))⟩
      · refine .inl ⟨F, Z, env, rv, env', r, h1, fun v H1 F1 f1 st1 r1 q1 => ?_⟩
        obtain ⟨F2, f2, r2, q2⟩ := q1.frz r1
        obtain ⟨a, vs, ev, rs, hq⟩ := walk_lst (.inl q2 : RepB K F2 Z H1 _ v) h2 fun ds z => ht ⟨ds, z⟩
        exact ⟨a, ev, ⟨vs, hq.sq⟩, k _ H1 F2 Z (fun a h => f2 a (f1 a h)) (fun _ h => h) (fun _ => rfl) st1 r2 (.inl ⟨a, vs, rfl, hq, rs⟩)⟩
  | rng es =>
    unfold evI at h
    obtain ⟨⟨ds, e1⟩, h1, h⟩ := Option.bind_eq_some_iff.mp h
    obtain ⟨ys, h2, h⟩ := Option.bind_eq_some_iff.mp h
    cases h
    have fin : ∀ (vs : List V) (H1 : Hp) (F1 Z1 : Addr → Prop) (J : L2.It), (∀ a, F a → F1 a) → (∀ a, Z a → Z1 a) → Stay (fun a => F a ∨ Z a) H H1 → ERel K F1 Z1 H1 e1 σ → (es.hasB = false → Z1 = Z ∧ Reps K F1 H1 ds vs) → (∀ Z, Src K Z J xs F1 H1) → R J H1 := fun vs H1 F1 Z1 J f1 z1 st r1 hb s => by
      split at k
      · exact k J H1 F1 Z f1 (fun _ h => h) (fun _ => rfl) st (r.back r1 z1) (s Z)
      · rename_i hb'
        have e : Z1 = Z := (hb (by simpa using hb')).1
        subst e
        exact k J H1 F1 Z1 f1 (fun _ h => h) (fun _ => rfl) st r1 (s Z1)
    by_cases h1a : ∃ a, es = .cons a .nil
    · obtain ⟨a, rfl⟩ := h1a
      obtain ⟨d, hd⟩ : ∃ d, ds = [d] := by
        have l := evEs_count h1
        match ds, l with
        | [d], _ => exact ⟨d, rfl⟩
      subst hd
      refine ⟨F, Z, env, [d], e1, r, h1, fun vs H1 F1 Z1 f1 z1 st r1 rs hb => ?_⟩
      unfold rngf at h2
      split at h2
      · rename_i j heq
        cases heq
        split at h2
        · rename_i hj
          cases h2
          obtain ⟨v, rfl, rv⟩ := repBs1 rs
          cases rv.int
          exact ⟨j, rfl, hj.1, hj.2, fin _ H1 F1 Z1 _ f1 z1 st r1 hb fun Z => .inr (.inr (.inl ⟨0, j.toNat, rfl, rfl⟩))⟩
        · cases h2
      · rename_i heq; cases heq
      · rename_i heq; cases heq
      · cases h2
    · by_cases h3a : ∃ a b d, es = .cons a (.cons b (.cons d .nil))
      · obtain ⟨a, b, d, rfl⟩ := h3a
        obtain ⟨x, y, z, hd⟩ : ∃ x y z, ds = [x, y, z] := by
          have l := evEs_count h1
          match ds, l with
          | [x, y, z], _ => exact ⟨x, y, z, rfl⟩
        subst hd
        refine ⟨F, Z, env, [x, y, z], e1, r, h1, fun vs H1 F1 Z1 f1 z1 st r1 rs hb => ?_⟩
        unfold rngf at h2
        split at h2
        · rename_i heq; cases heq
        · rename_i heq; cases heq
        · rename_i i j c heq
          cases heq
          split at h2
          · rename_i hj
            cases h2
            obtain ⟨v, w, u, rfl, rv, rw', ru⟩ := repBs3 rs
            cases rv.int; cases rw'.int; cases ru.int
            exact ⟨i, j, c, _, rfl, ⟨hj.1, hj.2.1, hj.2.2.1, (Int.toNat_of_nonneg hj.2.2.2).symm⟩, fin _ H1 F1 Z1 _ f1 z1 st r1 hb fun Z => .inr (.inr (.inr ⟨_, _, _, rfl, rfl⟩))⟩
          · cases h2
        · cases h2
      have hn3 : ¬ ∃ x y z, ds = [x, y, z] := fun ⟨x, y, z, hd⟩ => by
        have l := evEs_count h1
        rw [hd] at l
        cases es with
        | nil => cases l
        | cons a es =>
          cases es with
          | nil => simp [Es.count] at l
          | cons b es =>
            cases es with
            | nil => simp [Es.count] at l
            | cons d es =>
              cases es with
              | nil => exact h3a ⟨a, b, d, rfl⟩
              | cons e es => simp [Es.count] at l
      have hn : ¬ ∃ d, ds = [d] := fun ⟨d, hd⟩ => by
        have l := evEs_count h1
        rw [hd] at l
        cases es with
        | nil => cases l
        | cons a es =>
          cases es with
          | nil => exact h1a ⟨a, rfl⟩
          | cons b es => simp [Es.count] at l
      have es2 : tI K gl cf (.rng es) = iRng2 (tEs K gl cf es) := by
        cases es with
        | nil => rfl
        | cons a es =>
          cases es with
          | nil => exact absurd ⟨a, rfl⟩ h1a
          | cons b es =>
            cases es with
            | nil => rfl
            | cons d es =>
              cases es with
              | nil => exact absurd ⟨a, b, d, rfl⟩ h3a
              | cons e es => rfl
      rw [es2]
      refine ⟨F, Z, env, ds, e1, r, h1, fun vs H1 F1 Z1 f1 z1 st r1 rs hb => ?_⟩
      unfold rngf at h2
      split at h2
      · exact absurd ⟨_, rfl⟩ hn
      · split at h2
        · rename_i i j hj
          cases h2
          obtain ⟨v, w, rfl, rv, rw'⟩ := repBs2 rs
          cases rv.int; cases rw'.int
          exact ⟨_, _, rfl, hj, fin _ H1 F1 Z1 _ f1 z1 st r1 hb fun Z => .inr (.inr (.inl ⟨_, _, rfl, rfl⟩))⟩
        · cases h2
      · exact absurd ⟨_, _, _, rfl⟩ hn3
      · cases h2
end
end Pv

namespace Pv
open PySem PySem.Spec PyProof.Rows L2
section
variable {K : PySem.W.Frag} {gl : Nat → D} {cf : Nat → List Sl → Option (Rv × List Sl)} {σ σ' σ'' : L2.St} {H H' : Hp} {Q Q' : VK} {F F' Z Z' Z1 : Addr → Prop} {env env' env'' env1 env2 : Env'}
theorem kd_brw {env : Env'} {j : Nat} (h : kd env j = 2) : ∃ m, env[j]? = some (.brw m) := by
  unfold kd at h
  cases e : env[j]? with
  | none => rw [e] at h; cases h
  | some s => rw [e] at h; cases s <;> first | exact ⟨_, rfl⟩ | cases h
theorem brw_kd {env : Env'} {j : Nat} {m : Mo} (h : env[j]? = some (.brw m)) : kd env j = 2 := by unfold kd; rw [h]; rfl
/-- the list that was walked is given back -/
theorem ERel.reAt {i : Nat} {F0 : Addr → Prop} {H0 : Hp} (r0 : ERel K F0 Z H0 env σ) (r : ERel K F' Z1 H' env2 σ') (z : ∀ a, Z a → Z1 a) (ks : ∀ j, kd env2 j = 2 → σ'[j]? = σ[j]?) (kj : ∀ j, j ≠ i → kd env2 j = kd env j) (hl : env.length = env2.length) :
    ERel K F' Z H' (Pv.reAt (some i) env env2) σ' ∧ ∀ a, Out F' Z1 env2 σ' a → Out F' Z (Pv.reAt (some i) env env2) σ' a := by
  have rl : (Pv.reAt (some i) env env2).length = env2.length := by
    unfold Pv.reAt
    simp only
    split
    · exact List.length_set
    · rfl
  have g : ∀ (j : Nat) (s : Sl), (Pv.reAt (some i) env env2)[j]? = some s → (j ≠ i ∧ env2[j]? = some s) ∨ (j = i ∧ ∃ x y, env[i]? = some x ∧ env2[i]? = some y ∧ s = unb1 x y) := fun j s e => by
    by_cases hj : j = i
    · subst hj
      have hlt : j < env2.length := by rw [← rl]; exact (List.getElem?_eq_some_iff.mp e).1
      have e1 : env[j]? = some env[j] := List.getElem?_eq_getElem (by rw [hl]; exact hlt)
      have e2 : env2[j]? = some env2[j] := List.getElem?_eq_getElem hlt
      refine .inr ⟨rfl, _, _, e1, e2, ?_⟩
      unfold Pv.reAt at e
      simp only [e1, e2] at e
      rw [List.getElem?_set_self hlt] at e
      exact (Option.some.inj e).symm
    · refine .inl ⟨hj, ?_⟩
      unfold Pv.reAt at e
      simp only at e
      split at e
      · rw [List.getElem?_set_ne (Ne.symm hj)] at e; exact e
      · exact e
  -- an owner behind the giving back
  have ow : ∀ (j : Nat) (s : Sl) (m : Mo), (Pv.reAt (some i) env env2)[j]? = some s → s.own = some m → (∃ t, env2[j]? = some t ∧ t.own = some m) ∨ (j = i ∧ env2[i]? = some (.brw m) ∧ ∃ x m0, env[i]? = some x ∧ x.own = some m0) := fun j s m e ho => by
    rcases g j s e with ⟨_, e⟩ | ⟨e0, x, y, e1, e2, e3⟩
    · exact .inl ⟨s, e, ho⟩
    · subst e0 e3
      cases y with
      | no => cases x <;> cases ho
      | val d => cases x <;> cases ho
      | loc n => exact .inl ⟨_, e2, by cases x <;> exact ho⟩
      | io n => exact .inl ⟨_, e2, by cases x <;> exact ho⟩
      | brw n =>
        cases x with
        | no => cases ho
        | val d => cases ho
        | brw d => cases ho
        | loc d => cases ho; exact .inr ⟨rfl, e2, _, _, e1, rfl⟩
        | io d => cases ho; exact .inr ⟨rfl, e2, _, _, e1, rfl⟩
  have od : ∀ (m m0 : Mo) (x : Sl), env2[i]? = some (.brw m) → env[i]? = some x → x.own = some m0 → ∃ a, σ'[i]? = some (some (.ref a)) ∧ ¬ F' a ∧ ¬ Z a ∧ Z1 a ∧ MRep K F' H' a m := fun m m0 x e e1 hx => by
    obtain ⟨b, h1, h2, h3⟩ := r.brw i m e
    obtain ⟨c, k1, k2, k3, k4⟩ := r0.own i x m0 e1 hx
    rw [← ks i (brw_kd e), h1] at k1; cases k1
    exact ⟨b, h1, fun f => r.dj b f h2, k3, h2, h3⟩
  refine ⟨⟨by rw [rl]; exact r.len, r.fd, fun a h => r.zd a (z a h), fun a f h => r.dj a f (z a h), fun j d e => ?_, fun j s m e ho => ?_, fun j k s s' m m' b e ho e' ho' z1 z2 => ?_, fun j m e => ?_⟩, fun a o => ⟨o.1, fun h => o.2.1 (z a h), fun j s m e ho w => ?_⟩⟩
  · rcases g j _ e with ⟨_, e⟩ | ⟨e0, x, y, e1, e2, e3⟩
    · exact r.val j d e
    · subst e0
      cases y with
      | val d' => cases x <;> (cases e3; exact r.val j d e2)
      | no => cases x <;> cases e3
      | loc n => cases x <;> cases e3
      | io n => cases x <;> cases e3
      | brw n => cases x <;> cases e3
  · rcases ow j s m e ho with ⟨t, e2, h2⟩ | ⟨e0, e2, x, m0, e1, hx⟩
    · obtain ⟨b, h1, h2, h3, h4⟩ := r.own j t m e2 h2
      exact ⟨b, h1, h2, fun h => h3 (z _ h), h4⟩
    · subst e0
      obtain ⟨a, q1, q2, q3, q4, q5⟩ := od m m0 x e2 e1 hx
      exact ⟨a, q1, q2, q3, q5⟩
  · rcases ow j s m e ho with ⟨t, e2, h2⟩ | ⟨e0, e2, x, m0, e1, hx⟩
    · rcases ow k s' m' e' ho' with ⟨t', e2', h2'⟩ | ⟨e0', e2', x', m0', e1', hx'⟩
      · exact r.sep j k t t' m m' b e2 h2 e2' h2' z1 z2
      · subst e0'
        obtain ⟨c, h1, h3, h4, _⟩ := r.own j t m e2 h2
        obtain ⟨a, q1, q2, q3, q4, q5⟩ := od m' m0' x' e2' e1' hx'
        rw [z1] at h1; cases h1
        rw [z2] at q1; cases q1
        exact absurd q4 h4
    · subst e0
      rcases ow k s' m' e' ho' with ⟨t', e2', h2'⟩ | ⟨e0', e2', x', m0', e1', hx'⟩
      · obtain ⟨c, h1, h3, h4, _⟩ := r.own k t' m' e2' h2'
        obtain ⟨a, q1, q2, q3, q4, q5⟩ := od m m0 x e2 e1 hx
        rw [z2] at h1; cases h1
        rw [z1] at q1; cases q1
        exact absurd q4 h4
      · exact e0'.symm
  · rcases g j _ e with ⟨hj, e⟩ | ⟨e0, x, y, e1, e2, e3⟩
    · have hk := kj j hj
      rw [brw_kd e] at hk
      obtain ⟨m0, e0⟩ := kd_brw hk.symm
      obtain ⟨b, h1, h2, h3⟩ := r.brw j m e
      obtain ⟨c, k1, k2, k3⟩ := r0.brw j m0 e0
      rw [← ks j (brw_kd e), h1] at k1; cases k1
      exact ⟨b, h1, k2, h3⟩
    · subst e0
      cases y with
      | brw n =>
        cases x with
        | brw n0 =>
          cases e3
          obtain ⟨b, h1, h2, h3⟩ := r.brw j m e2
          obtain ⟨c, k1, k2, k3⟩ := r0.brw j n0 e1
          rw [← ks j (brw_kd e2), h1] at k1; cases k1
          exact ⟨b, h1, k2, h3⟩
        | no => cases e3
        | val _ => cases e3
        | loc _ => cases e3
        | io _ => cases e3
      | no => cases x <;> cases e3
      | val d' => cases x <;> cases e3
      | loc n => cases x <;> cases e3
      | io n => cases x <;> cases e3
  · rcases ow j s m e ho with ⟨t, e2, h2⟩ | ⟨e0, e2, x, m0, e1, hx⟩
    · exact o.2.2 j t m e2 h2 w
    · subst e0
      obtain ⟨b, q1, q2, q3, q4, q5⟩ := od m m0 x e2 e1 hx
      rw [q1] at w; cases w
      exact o.2.1 q4
/-- fewer kept addresses -/
theorem ERel.shrink {F0 Z0 : Addr → Prop} {H0 : Hp} {env0 : Env'} {σ0 : L2.St} (r0 : ERel K F0 Z0 H0 env0 σ0) (r : ERel K F Z H env σ) (z : ∀ a, Z0 a → Z a) (ks : ∀ j, kd env j = 2 → kd env0 j = 2 ∧ σ[j]? = σ0[j]?) : ERel K F Z0 H env σ := by
  refine ⟨r.len, r.fd, fun a h => r.zd a (z a h), fun a f h => r.dj a f (z a h), r.val, fun j s m e o => ?_, r.sep, fun j m e => ?_⟩
  · obtain ⟨a, q1, q2, q3, q4⟩ := r.own j s m e o
    exact ⟨a, q1, q2, fun h => q3 (z a h), q4⟩
  · obtain ⟨k0, es⟩ := ks j (brw_kd e)
    obtain ⟨m0, e0⟩ := kd_brw k0
    obtain ⟨a, q1, q2, q3⟩ := r.brw j m e
    obtain ⟨b, w1, w2, w3⟩ := r0.brw j m0 e0
    rw [← es, q1] at w1; cases w1
    exact ⟨a, q1, w2, q3⟩
/-- an object that nobody knows is written -/
theorem ERel.upd_free {a : Addr} {o o' : HO} (r : ERel K F Z H env σ) (out : Out F Z env σ a) (h : H a = some o) (nt : ∀ xs, o ≠ .tup xs) (nz : ∀ ob u, o ≠ .frz ob u) :
    Stay (fun a => F a ∨ Z a) H (upd H a o') ∧ ERel K F Z (upd H a o') env σ := by
  have st : Stay (fun a => F a ∨ Z a) H (upd H a o') := .upd h nt nz fun z => z.elim out.1 out.2.1
  have sF : Stay F H (upd H a o') := st.mono fun _ => .inl
  refine ⟨st, r.len, fun b f => st.dom b (r.fd b f), fun b z => st.dom b (r.zd b z), r.dj, fun j d e => ?_, fun j s m e ho => ?_, r.sep, fun j m e => ?_⟩
  · obtain ⟨v, q1, q2⟩ := r.val j d e
    exact ⟨v, q1, q2.stay sF fun _ h => h⟩
  · obtain ⟨b, q1, q2, q3, q4⟩ := r.own j s m e ho
    refine ⟨b, q1, q2, q3, q4.stay sF (fun _ h => h) (upd_ne fun z => ?_)⟩
    subst z
    exact out.2.2 j s m e ho q1
  · obtain ⟨b, q1, q2, q3⟩ := r.brw j m e
    exact ⟨b, q1, q2, q3.stay sF (fun _ h => h) (upd_ne fun z => out.2.1 (z ▸ q2))⟩
/-! ### comprehensions -/
theorem wipe_get (σ : L2.St) : ∀ (vs : List Nat) (j : Nat), (wipe σ vs)[j]? = if j ∈ vs ∧ j < σ.length then some none else σ[j]?
  | [], j => by simp [wipe]
  | v :: vs, j => by
    unfold wipe
    rw [List.getElem?_set, wipe_length]
    by_cases h : v = j
    · subst h
      by_cases hl : v < σ.length
      · simp [hl]
      · simp [hl, List.getElem?_eq_none (Nat.le_of_not_lt hl)]
    · rw [if_neg h, wipe_get σ vs j]
      simp [Ne.symm h]
theorem wipeE_len (env : Env') : ∀ vs : List Nat, (wipeE env vs).length = env.length
  | [] => rfl
  | v :: vs => by unfold wipeE; rw [List.length_set, wipeE_len env vs]
theorem backE_len (env0 env : Env') : ∀ vs : List Nat, (backE env0 env vs).length = env.length
  | [] => rfl
  | v :: vs => by unfold backE; rw [List.length_set, backE_len env0 env vs]
theorem wipeE_get (env : Env') : ∀ (vs : List Nat) (j : Nat), (wipeE env vs)[j]? = if j ∈ vs ∧ j < env.length then some .no else env[j]?
  | [], j => by simp [wipeE]
  | v :: vs, j => by
    unfold wipeE
    have l : (wipeE env vs).length = env.length := wipeE_len env vs
    rw [List.getElem?_set, l]
    by_cases h : v = j
    · subst h
      by_cases hl : v < env.length
      · simp [hl]
      · simp [hl, List.getElem?_eq_none (Nat.le_of_not_lt hl)]
    · rw [if_neg h, wipeE_get env vs j]
      simp [Ne.symm h]
theorem backE_get (env0 env : Env') : ∀ (vs : List Nat) (j : Nat), (backE env0 env vs)[j]? = if j ∈ vs ∧ j < env.length then some (env0.getD j .no) else env[j]?
  | [], j => by simp [backE]
  | v :: vs, j => by
    unfold backE
    have l : (backE env0 env vs).length = env.length := backE_len env0 env vs
    rw [List.getElem?_set, l]
    by_cases h : v = j
    · subst h
      by_cases hl : v < env.length
      · simp [hl]
      · simp [hl, List.getElem?_eq_none (Nat.le_of_not_lt hl)]
    · rw [if_neg h, backE_get env0 env vs j]
      simp [Ne.symm h]
theorem wipe_eq {vs : List Nat} {σ σ2 : L2.St} (hl : σ2.length = σ.length) (h : ∀ j, j ∉ vs → σ2[j]? = σ[j]?) : wipe σ2 vs = wipe σ vs := by
  apply List.ext_getElem?
  intro j
  rw [wipe_get, wipe_get, hl]
  by_cases hj : j ∈ vs
  · by_cases hlt : j < σ.length
    · simp [hj, hlt]
    · simp [hj, hlt, List.getElem?_eq_none (Nat.le_of_not_lt hlt), List.getElem?_eq_none (hl ▸ Nat.le_of_not_lt hlt)]
  · simp [hj, h j hj]
theorem ERel.wipe (r : ERel K F Z H env σ) (vs : List Nat) : ERel K F Z H (wipeE env vs) (L2.wipe σ vs) := by
  have ge : ∀ (j : Nat) (s : Sl), (wipeE env vs)[j]? = some s → s ≠ .no → env[j]? = some s ∧ (L2.wipe σ vs)[j]? = σ[j]? := fun j s e hs => by
    rw [wipeE_get] at e
    split at e
    · cases e; exact absurd rfl hs
    · rename_i hn
      refine ⟨e, ?_⟩
      rw [wipe_get, if_neg]
      rw [← r.len]; exact hn
  refine ⟨?_, r.fd, r.zd, r.dj, fun j d e => ?_, fun j s m e o => ?_, fun j k s s' m m' a e o e' o' z1 z2 => ?_, fun j m e => ?_⟩
  · have l1 : (wipeE env vs).length = env.length := wipeE_len env vs
    rw [l1, wipe_length]; exact r.len
  · obtain ⟨q1, q2⟩ := ge j _ e fun z => nomatch z
    obtain ⟨v, w1, w2⟩ := r.val j d q1
    exact ⟨v, by rw [q2]; exact w1, w2⟩
  · obtain ⟨q1, q2⟩ := ge j _ e fun z => by subst z; cases o
    obtain ⟨a, w1, w2⟩ := r.own j s m q1 o
    exact ⟨a, by rw [q2]; exact w1, w2⟩
  · obtain ⟨q1, q2⟩ := ge j _ e fun z => by subst z; cases o
    obtain ⟨q1', q2'⟩ := ge k _ e' fun z => by subst z; cases o'
    rw [q2] at z1; rw [q2'] at z2
    exact r.sep j k s s' m m' a q1 o q1' o' z1 z2
  · obtain ⟨q1, q2⟩ := ge j _ e fun z => nomatch z
    obtain ⟨a, w1, w2⟩ := r.brw j m q1
    exact ⟨a, by rw [q2]; exact w1, w2⟩
/-- behind the block: its own slots are as ahead of it -/
theorem ERel.unwipe {own : List Nat} {F0 : Addr → Prop} {H0 : Hp} (r0 : ERel K F0 Z H0 env1 σ) (hq : quiet env1 own = true) (st : Stay F0 H0 H) (f : ∀ a, F0 a → F a) (r : ERel K F Z H (wipeE env2 own) (L2.wipe σ own)) :
    ERel K F Z H (backE env1 env2 own) σ := by
  have l0 : env2.length = σ.length := by
    have l1 : (wipeE env2 own).length = env2.length := wipeE_len env2 own
    rw [← l1, r.len, wipe_length]
  have lb : (backE env1 env2 own).length = env2.length := backE_len env1 env2 own
  have qk : ∀ j ∈ own, j < env2.length → env1.getD j .no = .no ∨ ∃ d, env1.getD j .no = .val d ∧ env1[j]? = some (.val d) := fun j hj hlt => by
    have q := List.all_eq_true.mp hq j hj
    have hlt1 : j < env1.length := by rw [r0.len, ← l0]; exact hlt
    have e1 : env1[j]? = some env1[j] := List.getElem?_eq_getElem hlt1
    rw [List.getD_eq_getElem?_getD] at q ⊢
    cases e : (env1[j]?).getD .no with
    | no => exact .inl rfl
    | val d => rw [e1] at e; exact .inr ⟨d, rfl, by rw [e1]; exact congrArg some e⟩
    | loc m => rw [e] at q; cases q
    | io m => rw [e] at q; cases q
    | brw m => rw [e] at q; cases q
  have ge : ∀ (j : Nat) (s : Sl), (backE env1 env2 own)[j]? = some s → (j ∈ own ∧ (s = .no ∨ ∃ d, s = .val d ∧ env1[j]? = some (.val d))) ∨ (j ∉ own ∧ (wipeE env2 own)[j]? = some s ∧ (L2.wipe σ own)[j]? = σ[j]?) := fun j s e => by
    rw [backE_get] at e
    split at e
    · rename_i hj
      cases e
      refine .inl ⟨hj.1, ?_⟩
      rcases qk j hj.1 hj.2 with q | ⟨d, q1, q2⟩
      · exact .inl q
      · exact .inr ⟨d, q1, q2⟩
    · rename_i hn
      have hlt : j < env2.length := (List.getElem?_eq_some_iff.mp e).1
      have hj : j ∉ own := fun z => hn ⟨z, hlt⟩
      refine .inr ⟨hj, ?_, ?_⟩
      · rw [wipeE_get, if_neg hn]; exact e
      · rw [wipe_get, if_neg fun z => hj z.1]
  refine ⟨by rw [lb]; exact l0, r.fd, r.zd, r.dj, fun j d e => ?_, fun j s m e o => ?_, fun j k s s' m m' a e o e' o' z1 z2 => ?_, fun j m e => ?_⟩
  · rcases ge j _ e with ⟨_, q⟩ | ⟨_, q1, q2⟩
    · rcases q with q | ⟨d', q, q1⟩
      · cases q
      · cases q
        obtain ⟨v, w1, w2⟩ := r0.val j d q1
        exact ⟨v, w1, w2.stay st f⟩
    · obtain ⟨v, w1, w2⟩ := r.val j d q1
      exact ⟨v, by rw [← q2]; exact w1, w2⟩
  · rcases ge j _ e with ⟨_, q⟩ | ⟨_, q1, q2⟩
    · rcases q with q | ⟨d', q, q1⟩
      · subst q; cases o
      · subst q; cases o
    · obtain ⟨a, w1, w2⟩ := r.own j s m q1 o
      exact ⟨a, by rw [← q2]; exact w1, w2⟩
  · rcases ge j _ e with ⟨_, q⟩ | ⟨_, q1, q2⟩
    · rcases q with q | ⟨d', q, q1⟩
      · subst q; cases o
      · subst q; cases o
    · rcases ge k _ e' with ⟨_, q'⟩ | ⟨_, q1', q2'⟩
      · rcases q' with q' | ⟨d', q', q1'⟩
        · subst q'; cases o'
        · subst q'; cases o'
      · rw [← q2] at z1; rw [← q2'] at z2
        exact r.sep j k s s' m m' a q1 o q1' o' z1 z2
  · rcases ge j _ e with ⟨_, q⟩ | ⟨_, q1, q2⟩
    · rcases q with q | ⟨d', q, q1⟩
      · cases q
      · cases q
    · obtain ⟨a, w1, w2⟩ := r.brw j m q1
      exact ⟨a, by rw [← q2]; exact w1, w2⟩
end
end Pv

namespace Pv
open PySem PySem.Spec PyProof.Rows L2
section
variable (K : PySem.W.Frag) (gl : Nat → D) (cf : Nat → List Sl → Option (Rv × List Sl))
def tCs (cs : Es) : TT := fun σ H R => ∃ (F Z : Addr → Prop) (env : Env') (b : Bool) (env' : Env'), ERel K F Z H env σ ∧ evCs gl cf cs env = some (b, env') ∧
  ∀ (H' : Hp) (F' : Addr → Prop), (∀ a, F a → F' a) → Stay (fun a => F a ∨ Z a) H H' → ERel K F' Z H' env' σ → R b H'
end
section
variable {K : PySem.W.Frag} {gl : Nat → D} {cf : Nat → List Sl → Option (Rv × List Sl)} {σ σ' σ'' : L2.St} {H H' : Hp} {Q Q' : VK} {F F' Z Z' Z1 : Addr → Prop} {env env' env'' env1 env2 : Env'}
theorem cs_nil {R : Bool → Hp → Prop} (h : tCs K gl cf .nil σ H R) : R true H := by
  obtain ⟨F, Z, env, b, env', r, ev, k⟩ := h
  unfold evCs at ev
  cases ev
  exact k H F (fun _ h => h) .refl r
theorem cs_one {c : E} {R : Bool → Hp → Prop} (h : tCs K gl cf (.cons c .nil) σ H R) : tB (tE K gl cf c) σ H R := by
  obtain ⟨F, Z, env, b, env', r, ev, k⟩ := h
  unfold evCs at ev
  obtain ⟨p, h1, ev⟩ := Option.bind_eq_some_iff.mp ev
  split at ev
  · cases ev
    exact ⟨F, Z, env, _, _, r, h1, fun v H1 F1 f1 st1 r1 q1 => ⟨_, bool_rel q1, k H1 F1 f1 st1 r1⟩⟩
  · cases ev
theorem it_kj {it : It} {i : Nat} {xs : List D} (h : evI gl cf it env = some (xs, env1)) (hi : it.bIx = some i) : env1.length = env.length ∧ ∀ j, j ≠ i → kd env1 j = kd env j := by
  rcases evI_kin h with ⟨hn, _⟩ | ⟨i', hn, hl, hne, _⟩
  · rw [hi] at hn; cases hn
  · rw [hi] at hn; cases hn; exact ⟨hl, hne⟩
/-- behind a walk: what was lent to it is given back -/
theorem ERel.behind {it : It} {xs : List D} {F0 : Addr → Prop} {H0 : Hp} (r0 : ERel K F0 Z H0 env σ) (h : evI gl cf it env = some (xs, env1)) (r : ERel K F' Z1 H' env2 σ') (z : ∀ a, Z a → Z1 a) (hz : it.bIx = none → Z1 = Z) (kin : Kin env1 env2)
    (ks : Kept env1 σ σ') : ERel K F' Z H' (Pv.reAt it.bIx env env2) σ' ∧ ∀ a, Out F' Z1 env2 σ' a → Out F' Z (Pv.reAt it.bIx env env2) σ' a := by
  cases hb : it.bIx with
  | none =>
    have e := hz hb
    subst e
    exact ⟨r, fun _ o => o⟩
  | some i =>
    obtain ⟨hl, hne⟩ := it_kj h hb
    exact r0.reAt r z (fun j hj => ks j (by rw [← kin.2 j, hj]; decide)) (fun j hj => (kin.2 j).trans (hne j hj)) (hl.symm.trans kin.1.symm)
theorem comp_read {own : List Nat} {tg : Tg} {it : It} {cs : Es} {elt : E} (ht : ∀ i ∈ tg.ixs, i ∈ own) (h : tE K gl cf (.comp own tg it cs elt) σ H Q) : tLc (tI K gl cf it) (tG K tg) (tCs K gl cf cs) (tE K gl cf elt) own σ H Q := by
  obtain ⟨F, Z, env, rv, env', r, ev, k⟩ := h
  unfold evE at ev
  obtain ⟨⟨xs, e1⟩, h1, ev⟩ := Option.bind_eq_some_iff.mp ev
  dsimp only at ev
  split at ev
  · rename_i hq
    obtain ⟨⟨ys, e2⟩, h2, ev⟩ := Option.bind_eq_some_iff.mp ev
    cases ev
    refine it_read r h1 fun J H1 F1 Z1 f1 z1 hz st1 R1 S1 => ?_
    intro D nD
    have nFD : ∀ a, F1 a ∨ Z1 a → H1 a ≠ none := fun a q => q.elim (R1.fd a) (R1.zd a)
    generalize hbody : (fun e1 => (evCs gl cf cs e1).bind fun (b, e2) => if b = true then (evE gl cf elt e2).bind fun (rv, e3) => some (some (frz rv), e3) else some (none, e2)) = body at h2
    refine ⟨fun i m H => m = xs.length - i ∧ i ≤ xs.length ∧ ∃ (F : Addr → Prop) (e : Env') (done rest : List PyData) (acc : List V), ys = done ++ rest ∧ compL own tg body (xs.drop i) e = some (rest, e2) ∧
      ERel K F Z1 H (wipeE e own) (wipe σ own) ∧ (∀ a, F1 a → F a) ∧ Stay (fun a => F1 a ∨ Z1 a) H1 H ∧ Src K Z1 J xs F H ∧ H D = some (.lst acc) ∧ Reps K F H done acc ∧ Out F Z1 (wipeE e own) (wipe σ own) D ∧ Kin e1 e ∧ done.length ≤ i, ?_, ?_⟩
    · have sm := same_upd (o := .lst []) nD
      refine ⟨xs.length, rfl, Nat.zero_le _, F1, e1, [], ys, [], rfl, h2, (R1.wipe own).same sm, fun _ h => h, .same sm nFD, S1.stay (.same sm nFD) fun _ h => h, upd_same, .nil, (R1.wipe own).out_new nD, .refl _, Nat.zero_le _⟩
    · rintro i m H ⟨rfl, hi, F, e, done, rest, acc, ey, hc, R, f, st, S, hD, rs, out, kin, hdl⟩
      by_cases hlt : i < xs.length
      · have hx : xs[i]? = some xs[i] := List.getElem?_eq_getElem hlt
        obtain ⟨go, yld⟩ := S.go hx
        rw [List.drop_eq_getElem_cons hlt] at hc
        unfold compL at hc
        obtain ⟨ea, ha, hc⟩ := Option.bind_eq_some_iff.mp hc
        obtain ⟨⟨o, eb⟩, hb, hc⟩ := Option.bind_eq_some_iff.mp hc
        obtain ⟨⟨rest', ec⟩, hr, hc⟩ := Option.bind_eq_some_iff.mp hc
        cases hc
        refine .inr ⟨go, fun H' => ∃ m', m' < xs.length - i ∧ (m' = xs.length - (i + 1) ∧ i + 1 ≤ xs.length ∧ ∃ (F : Addr → Prop) (e : Env') (done rest : List PyData) (acc : List V), ys = done ++ rest ∧ compL own tg body (xs.drop (i + 1)) e = some (rest, e2) ∧
          ERel K F Z1 H' (wipeE e own) (wipe σ own) ∧ (∀ a, F1 a → F a) ∧ Stay (fun a => F1 a ∨ Z1 a) H1 H' ∧ Src K Z1 J xs F H' ∧ H' D = some (.lst acc) ∧ Reps K F H' done acc ∧ Out F Z1 (wipeE e own) (wipe σ own) D ∧ Kin e1 e ∧ done.length ≤ i + 1), fun H' h => h, fun x H' hy => ?_⟩
        obtain ⟨rfl, rep⟩ := yld x H' hy
        have Dd : H' D ≠ none := by rw [hD]; exact fun z => nomatch z
        have Rh := R.hold out Dd
        have q0 : quiet0 (wipeE e own) own := fun v hv => by
          unfold kd
          rw [wipeE_get]
          by_cases hl : v < e.length
          · rw [if_pos ⟨hv, hl⟩]; rfl
          · rw [if_neg fun z => hl z.2, List.getElem?_eq_none (Nat.le_of_not_lt hl)]; rfl
        refine tg_read Rh rep ha fun σ2 R2 kept off => ?_
        have ew : wipe σ2 own = wipe σ own := by
          rw [wipe_eq (σ := wipe σ own) off.1 fun j hj => off.2 j fun z => hj (ht j z)]
          exact wipe_eq (wipe_length _ _) fun j hj => by rw [wipe_get, if_neg fun z => hj z.1]
        have eww : wipe (wipe σ own) own = wipe σ own := wipe_eq (wipe_length _ _) fun j hj => by rw [wipe_get, if_neg fun z => hj z.1]
        refine ⟨ew, ?_⟩
        have kinA : Kin (wipeE e own) ea := .setTg ha
        -- what is left behind the turn, from a state in which the item (if any) stands
        have fin : ∀ (H4 : Hp) (F4 : Addr → Prop) (e4 : Env'), (∀ a, F a → F4 a) → Stay (fun a => F a ∨ plus Z1 D a) H' H4 → ERel K F4 (plus Z1 D) H4 e4 σ2 → Kin ea e4 →
            ERel K F4 Z1 H4 e4 σ2 ∧ Out F4 Z1 e4 σ2 D ∧ H4 D = some (.lst acc) ∧ Stay (fun a => F1 a ∨ Z1 a) H1 H4 ∧ Reps K F4 H4 done acc ∧ Src K Z1 J xs F4 H4 := fun H4 F4 e4 f4 st4 R4 k4 => by
          refine ⟨R.shrink R4 (fun _ => .inl) fun j hj => ?_, ⟨fun z => R4.dj D z (.inr rfl), out.2.1, fun j s m ej ho w => ?_⟩, (st4.kp D (.inr (.inr rfl))).trans hD, st.trans (st4.mono fun a q => q.imp (f a) .inl), rs.stay (st4.mono fun _ => .inl) f4, S.stay (st4.mono fun a q => q.imp_right .inl) f4⟩
          · have k0 : kd (wipeE e own) j = 2 := by rw [← kinA.2 j, ← k4.2 j]; exact hj
            exact ⟨k0, kept j (by rw [k0]; decide)⟩
          · obtain ⟨b, q1, q2, q3, q4⟩ := R4.own j s m ej ho
            rw [w] at q1; cases q1
            exact q3 (.inr rfl)
        rw [← hbody] at hb
        obtain ⟨⟨b, e3⟩, h3, hb⟩ := Option.bind_eq_some_iff.mp hb
        refine ⟨F, plus Z1 D, ea, b, e3, R2, h3, fun H3 F3 f3 st3 R3 => ?_⟩
        cases b with
        | false =>
          simp only [Bool.false_eq_true, if_false] at hb ⊢
          cases hb
          obtain ⟨w1, w2, w3, w4, w5, w6⟩ := fin H3 F3 _ f3 st3 R3 (evCs_kin h3)
          have R5 := w1.wipe own
          rw [ew] at R5
          have o5 : Out F3 Z1 (wipeE eb own) (wipe σ own) D := ⟨w2.1, w2.2.1, fun j s m ej ho w => by
            rw [wipeE_get] at ej
            split at ej
            · cases ej; cases ho
            · rename_i hn
              refine w2.2.2 j s m ej ho ?_
              rw [← ew, ] at w
              rw [wipe_get] at w
              split at w
              · cases w
              · exact w⟩
          exact ⟨xs.length - (i + 1), by omega, rfl, hlt, F3, eb, done, rest', acc, by rw [ey]; rfl, hr, R5, fun a h => f3 a (f a h), w4, w6, w3, w5, o5, ((kin.trans (Kin.wipe ((kin.quiet (quiet_of hq.1))))).trans kinA).trans (evCs_kin h3), by omega⟩
        | true =>
          simp only [if_true] at hb ⊢
          obtain ⟨⟨rv, e4⟩, h4, hb⟩ := Option.bind_eq_some_iff.mp hb
          cases hb
          refine ⟨F3, plus Z1 D, e3, rv, _, R3, h4, fun y H4 F4 f4 st4 R4 q4 => ?_⟩
          obtain ⟨F5, f5, R5, q5⟩ := q4.frz R4
          have kin4 : Kin ea e4 := (evCs_kin h3).trans (evE_kin h4)
          obtain ⟨w1, w2, w3, w4, w5, w6⟩ := fin H4 F5 _ (fun a h => f5 a (f4 a (f3 a h))) (sub_stay st3 st4 f3 fun _ h => h) R5 kin4
          have al : acc.length = done.length := w5.length.symm
          refine ⟨acc, w3, ?_, ?_⟩
          · have : xs.length ≤ 16777216 := hq.2
            rw [sizeLine_eq]; omega
          · obtain ⟨st6, R6⟩ := w1.upd_free (o' := .lst (acc ++ [y])) w2 w3 (fun _ z => nomatch z) (fun _ _ z => nomatch z)
            have sF : Stay F5 H4 (upd H4 D (.lst (acc ++ [y]))) := st6.mono fun _ => .inl
            have R7 := R6.wipe own
            rw [ew] at R7
            have o5 : Out F5 Z1 (wipeE e4 own) (wipe σ own) D := ⟨w2.1, w2.2.1, fun j s m ej ho w => by
              rw [wipeE_get] at ej
              split at ej
              · cases ej; cases ho
              · rename_i hn
                refine w2.2.2 j s m ej ho ?_
                rw [← ew] at w
                rw [wipe_get] at w
                split at w
                · cases w
                · exact w⟩
            refine ⟨xs.length - (i + 1), by omega, rfl, hlt, F5, e4, done ++ [frz rv], rest', acc ++ [y], by rw [ey]; simp, hr, R7, fun a h => f5 a (f4 a (f3 a (f a h))), w4.trans (st6.mono fun a q => q.imp (fun h => f5 a (f4 a (f3 a (f a h)))) id), w6.stay st6 fun _ h => h, upd_same, (w5.append (.cons q5 .nil)).stay sF fun _ h => h, o5, ((kin.trans (Kin.wipe ((kin.quiet (quiet_of hq.1))))).trans kinA).trans kin4, by rw [List.length_append]; simp; omega⟩
      · have e0 : i = xs.length := by omega
        subst e0
        rw [List.drop_length] at hc
        unfold compL at hc
        cases hc
        refine .inl ⟨S.stop, ?_⟩
        rw [List.append_nil] at ey
        subst ey
        have R2 := R1.unwipe hq.1 (st.mono fun _ => .inl) f R
        have kb : Kin e1 (backE e1 e2 own) := Kin.back hq.1 kin
        obtain ⟨R3, o3⟩ := r.behind h1 R2 z1 hz kb .refl
        refine k (.ref D) H F (fun a h => f a (f1 a h)) (sub_stay st1 st f1 z1) R3 ⟨D, rfl, o3 D ⟨out.1, out.2.1, fun j s m ej ho w => ?_⟩, acc, hD, rs⟩
        rw [backE_get] at ej
        split at ej
        · rename_i hj
          have q := List.all_eq_true.mp hq.1 j hj.1
          cases ej
          cases hg : e1.getD j .no <;> rw [hg] at q ho <;> first | (cases ho; done) | (cases q; done)
        · rename_i hn
          have hlt' : j < e2.length := (List.getElem?_eq_some_iff.mp ej).1
          have hj : j ∉ own := fun z => hn ⟨z, hlt'⟩
          refine out.2.2 j s m (by rw [wipeE_get, if_neg hn]; exact ej) ho ?_
          rw [wipe_get, if_neg fun z => hj z.1]; exact w
  · cases ev
end
end Pv

namespace Pv
open PySem PySem.Spec PyProof.Rows L2
section
variable (K : PySem.W.Frag) (gl : Nat → D) (cf : Nat → List Sl → Option (Rv × List Sl)) (n : Nat)
/-- what is wanted behind a statement that ends by c -/
def CEnd (De : Ends) (F Z : Addr → Prop) (H : Hp) (env : Env') (σ : L2.St) : Ctl → Prop
  | .nx => De.nx σ H
  | .bk => De.bk σ H
  | .ct => De.ct σ H
  | .ret rv => ∀ v, RvRel K F Z H env σ rv v → De.rt v H
def tS (s : S) : TS := fun De σ H => ∃ (F Z : Addr → Prop) (env : Env') (c : Ctl) (env' : Env'), ERel K F Z H env σ ∧ evS gl cf n s env = some (c, env') ∧
  ∀ (σ' : L2.St) (H' : Hp) (F' : Addr → Prop), (∀ a, F a → F' a) → Stay (fun a => F a ∨ Z a) H H' → ERel K F' Z H' env' σ' → Kept env σ σ' → CEnd K De F' Z H' env' σ' c
end
section
variable {K : PySem.W.Frag} {gl : Nat → D} {cf : Nat → List Sl → Option (Rv × List Sl)} {n : Nat} {σ σ' σ'' : L2.St} {H H' : Hp} {Q Q' : VK} {F F' Z Z' Z1 : Addr → Prop} {env env' env'' env1 env2 : Env'} {De : Ends}
theorem s_pass (h : tS K gl cf n .pass De σ H) : tNext De σ H := by
  obtain ⟨F, Z, env, c, env', r, ev, k⟩ := h
  unfold evS at ev; cases ev
  exact k σ H F (fun _ h => h) .refl r .refl
theorem s_brk (h : tS K gl cf n .brk De σ H) : tBreak De σ H := by
  obtain ⟨F, Z, env, c, env', r, ev, k⟩ := h
  unfold evS at ev; cases ev
  exact k σ H F (fun _ h => h) .refl r .refl
theorem s_cnt (h : tS K gl cf n .cnt De σ H) : tCont De σ H := by
  obtain ⟨F, Z, env, c, env', r, ev, k⟩ := h
  unfold evS at ev; cases ev
  exact k σ H F (fun _ h => h) .refl r .refl
theorem s_retn (h : tS K gl cf n .retn De σ H) : tRetN De σ H := by
  obtain ⟨F, Z, env, c, env', r, ev, k⟩ := h
  unfold evS at ev; cases ev
  exact k σ H F (fun _ h => h) .refl r .refl .non Rep.non
theorem s_ret {e : E} (h : tS K gl cf n (.ret e) De σ H) : tRet (tE K gl cf e) De σ H := by
  obtain ⟨F, Z, env, c, env', r, ev, k⟩ := h
  unfold evS at ev
  obtain ⟨⟨rv, e1⟩, h1, ev⟩ := Option.bind_eq_some_iff.mp ev
  cases ev
  exact ⟨F, Z, env, rv, _, r, h1, fun v H1 F1 f1 st1 r1 q1 => k σ H1 F1 f1 st1 r1 .refl v q1⟩
theorem s_ex {e : E} (h : tS K gl cf n (.ex e) De σ H) : tDrop (tE K gl cf e) De σ H := by
  obtain ⟨F, Z, env, c, env', r, ev, k⟩ := h
  unfold evS at ev
  obtain ⟨⟨rv, e1⟩, h1, ev⟩ := Option.bind_eq_some_iff.mp ev
  cases ev
  exact ⟨F, Z, env, rv, _, r, h1, fun v H1 F1 f1 st1 r1 q1 => k σ H1 F1 f1 st1 r1 .refl⟩
theorem s_seq {a b : S} (h : tS K gl cf n (.seq a b) De σ H) : tSeq (tS K gl cf n a) (tS K gl cf n b) De σ H := by
  obtain ⟨F, Z, env, c, env', r, ev, k⟩ := h
  unfold evS at ev
  obtain ⟨⟨c1, e1⟩, h1, ev⟩ := Option.bind_eq_some_iff.mp ev
  refine ⟨F, Z, env, c1, e1, r, h1, fun σ1 H1 F1 f1 st1 r1 k1 => ?_⟩
  cases c1 with
  | nx => exact ⟨F1, Z, e1, c, env', r1, ev, fun σ2 H2 F2 f2 st2 r2 k2 => k σ2 H2 F2 (fun a h => f2 a (f1 a h)) (sub_stay st1 st2 f1 fun _ h => h) r2 (k1.trans (evS_kin h1) k2)⟩
  | bk => cases ev; exact k σ1 H1 F1 f1 st1 r1 k1
  | ct => cases ev; exact k σ1 H1 F1 f1 st1 r1 k1
  | ret rv => cases ev; exact k σ1 H1 F1 f1 st1 r1 k1
theorem ERel.empty (r : ERel K F Z H env σ) (i : Nat) : ERel K F Z H (env.set i .no) σ := by
  refine ⟨by rw [List.length_set]; exact r.len, r.fd, r.zd, r.dj, fun j d ej => ?_, fun j t m ej hj => ?_, fun j k t t' m m' b ej hj ek hk z1 z2 => ?_, fun j m ej => ?_⟩
  · rcases get_set ej with ⟨_, w⟩ | ⟨_, w⟩
    · cases w
    · exact r.val j d w
  · rcases get_set ej with ⟨_, w⟩ | ⟨_, w⟩
    · subst w; cases hj
    · exact r.own j t m w hj
  · rcases get_set ej with ⟨_, w⟩ | ⟨_, w⟩
    · subst w; cases hj
    · rcases get_set ek with ⟨_, w'⟩ | ⟨_, w'⟩
      · subst w'; cases hk
      · exact r.sep j k t t' m m' b w hj w' hk z1 z2
  · rcases get_set ej with ⟨_, w⟩ | ⟨_, w⟩
    · cases w
    · exact r.brw j m w
theorem ERel.fg1 (r : ERel K F Z H env σ) (i : Nat) : ERel K F Z H (fg1 i env) σ := by
  unfold Pv.fg1
  split
  · split
    · exact r.empty i
    · exact r
  · exact r
theorem ERel.fgE : ∀ (is : List Nat) {env : Env'}, ERel K F Z H env σ → ERel K F Z H (fgE is env) σ
  | [], _, r => r
  | i :: is, _, r => ERel.fgE is (r.fg1 i)
theorem s_fgt {a b : List Nat} {s : S} (h : tS K gl cf n (.fgt a b s) De σ H) : tS K gl cf n s De σ H := by
  obtain ⟨F, Z, env, c, env', r, ev, k⟩ := h
  unfold evS at ev
  obtain ⟨⟨c1, e1⟩, h1, ev⟩ := Option.bind_eq_some_iff.mp ev
  cases ev
  refine ⟨F, Z, fgE a env, c, e1, r.fgE a, h1, fun σ1 H1 F1 f1 st1 r1 k1 => ?_⟩
  have k2 : Kept env σ σ1 := fun j hj => k1 j (by rw [(fgE_kin a env).2 j]; exact hj)
  cases c with
  | nx => exact k σ1 H1 F1 f1 st1 (r1.fgE b) k2
  | bk => exact k σ1 H1 F1 f1 st1 (r1.fgE b) k2
  | ct => exact k σ1 H1 F1 f1 st1 (r1.fgE b) k2
  | ret rv => exact k σ1 H1 F1 f1 st1 r1 k2
theorem s_set {i : Nat} {e : E} (h : tS K gl cf n (.set i e) De σ H) : tAsg (tE K gl cf e) (gName i) De σ H := by
  obtain ⟨F, Z, env, c, env', r, ev, k⟩ := h
  unfold evS at ev
  obtain ⟨⟨rv, e1⟩, h1, ev⟩ := Option.bind_eq_some_iff.mp ev
  refine ⟨F, Z, env, rv, e1, r, h1, fun v H1 F1 f1 st1 r1 q1 => ?_⟩
  cases rv with
  | val d =>
    obtain ⟨e2, h2, ev⟩ := Option.bind_eq_some_iff.mp ev
    cases ev
    obtain ⟨r2, k2⟩ := r1.assign h2 (.inl ⟨d, rfl, q1⟩)
    exact k _ H1 F1 f1 st1 r2 (Kept.trans (evE_kin h1) .refl k2)
  | new m =>
    obtain ⟨e2, h2, ev⟩ := Option.bind_eq_some_iff.mp ev
    cases ev
    obtain ⟨a, w1, w2, w3⟩ := q1
    obtain ⟨r2, k2⟩ := r1.assign h2 (.inr ⟨m, a, rfl, w1, w2, w3⟩)
    exact k _ H1 F1 f1 st1 r2 (Kept.trans (evE_kin h1) .refl k2)
theorem s_unp {is : List Nat} {e : E} (h : tS K gl cf n (.unp is e) De σ H) : tAsg (tE K gl cf e) (tG K (.tp is)) De σ H := by
  obtain ⟨F, Z, env, c, env', r, ev, k⟩ := h
  unfold evS at ev
  obtain ⟨⟨rv, e1⟩, h1, ev⟩ := Option.bind_eq_some_iff.mp ev
  refine ⟨F, Z, env, rv, e1, r, h1, fun v H1 F1 f1 st1 r1 q1 => ?_⟩
  obtain ⟨e2, h2, ev⟩ := Option.bind_eq_some_iff.mp ev
  cases ev
  obtain ⟨F2, f2, r2, q2⟩ := q1.frz r1
  exact tg_read r2 q2 h2 fun σ' r3 k3 _ => k σ' H1 F2 (fun a h => f2 a (f1 a h)) st1 r3 (Kept.trans (evE_kin h1) .refl k3)
theorem s_par {i j : Nat} {a b : E} (h : tS K gl cf n (.par i j a b) De σ H) : tPar i j (tEs K gl cf (.cons a (.cons b .nil))) De σ H := by
  obtain ⟨F, Z, env, c, env', r, ev, k⟩ := h
  unfold evS at ev
  obtain ⟨⟨ra, e1⟩, h1, ev⟩ := Option.bind_eq_some_iff.mp ev
  obtain ⟨⟨rb, e2⟩, h2, ev⟩ := Option.bind_eq_some_iff.mp ev
  obtain ⟨e3, h3, ev⟩ := Option.bind_eq_some_iff.mp ev
  obtain ⟨e4, h4, ev⟩ := Option.bind_eq_some_iff.mp ev
  cases ev
  have na : ∀ i, a ≠ .brw i := fun i z => by subst z; unfold evE at h1; cases h1
  have nb : ∀ i, b ≠ .brw i := fun i z => by subst z; unfold evE at h2; cases h2
  have ha : (Es.cons a (.cons b .nil)).hasB = false := by
    cases a <;> first | exact absurd rfl (na _) | (cases b <;> first | exact absurd rfl (nb _) | rfl)
  refine ⟨F, Z, env, [frz ra, frz rb], e2, r, ?_, fun vs H1 F1 Z1 f1 z1 st1 r1 rs hb => ?_⟩
  · rw [evEs.eq_3 _ _ _ _ _ na, h1]
    simp only [Option.bind_some]
    rw [evEs.eq_3 _ _ _ _ _ nb, h2]
    simp only [Option.bind_some]
    rw [evEs]
    rfl
  · obtain ⟨e, rr⟩ := hb ha
    subst e
    cases rr with
    | cons q1 t =>
      cases t with
      | cons q2 t =>
        cases t
        refine ⟨_, _, rfl, ?_⟩
        obtain ⟨r3, k3⟩ := r1.assign h3 (.inl ⟨_, rfl, q1⟩)
        obtain ⟨r4, k4⟩ := r3.assign h4 (.inl ⟨_, rfl, q2⟩)
        exact k _ H1 F1 f1 st1 r4 (Kept.trans ((evE_kin h1).trans (evE_kin h2)) .refl (k3.trans (.setAt h3 rfl) k4))
theorem s_par3 {i j l : Nat} {a b d : E} (h : tS K gl cf n (.par3 i j l a b d) De σ H) : tPar3 i j l (tEs K gl cf (.cons a (.cons b (.cons d .nil)))) De σ H := by
  obtain ⟨F, Z, env, c, env', r, ev, k⟩ := h
  unfold evS at ev
  obtain ⟨⟨ra, e1⟩, h1, ev⟩ := Option.bind_eq_some_iff.mp ev
  obtain ⟨⟨rb, e2⟩, h2, ev⟩ := Option.bind_eq_some_iff.mp ev
  obtain ⟨⟨rd, e3⟩, h3, ev⟩ := Option.bind_eq_some_iff.mp ev
  obtain ⟨e4, h4, ev⟩ := Option.bind_eq_some_iff.mp ev
  obtain ⟨e5, h5, ev⟩ := Option.bind_eq_some_iff.mp ev
  obtain ⟨e6, h6, ev⟩ := Option.bind_eq_some_iff.mp ev
  cases ev
  have na : ∀ i, a ≠ .brw i := fun i z => by subst z; unfold evE at h1; cases h1
  have nb : ∀ i, b ≠ .brw i := fun i z => by subst z; unfold evE at h2; cases h2
  have nd : ∀ i, d ≠ .brw i := fun i z => by subst z; unfold evE at h3; cases h3
  have hb1 : ∀ {x : E} {es : Es}, (∀ i, x ≠ .brw i) → es.hasB = false → (Es.cons x es).hasB = false := fun {x es} nx he => by
    cases x <;> first | exact absurd rfl (nx _) | exact he
  have ha : (Es.cons a (.cons b (.cons d .nil))).hasB = false := hb1 na (hb1 nb (hb1 nd rfl))
  refine ⟨F, Z, env, [frz ra, frz rb, frz rd], e3, r, ?_, fun vs H1 F1 Z1 f1 z1 st1 r1 rs hb => ?_⟩
  · rw [evEs.eq_3 _ _ _ _ _ na, h1]
    simp only [Option.bind_some]
    rw [evEs.eq_3 _ _ _ _ _ nb, h2]
    simp only [Option.bind_some]
    rw [evEs.eq_3 _ _ _ _ _ nd, h3]
    simp only [Option.bind_some]
    rw [evEs]
    rfl
  · obtain ⟨e, rr⟩ := hb ha
    subst e
    cases rr with
    | cons q1 t =>
      cases t with
      | cons q2 t =>
        cases t with
        | cons q3 t =>
          cases t
          refine ⟨_, _, _, rfl, ?_⟩
          obtain ⟨r4, k4⟩ := r1.assign h4 (.inl ⟨_, rfl, q1⟩)
          obtain ⟨r5, k5⟩ := r4.assign h5 (.inl ⟨_, rfl, q2⟩)
          obtain ⟨r6, k6⟩ := r5.assign h6 (.inl ⟨_, rfl, q3⟩)
          exact k _ H1 F1 f1 st1 r6 (Kept.trans (((evE_kin h1).trans (evE_kin h2)).trans (evE_kin h3)) .refl ((k4.trans (.setAt h4 rfl) k5).trans ((Kin.setAt h4 rfl).trans (.setAt h5 rfl)) k6))
theorem s_st {i : Nat} {ix e : E} (h : tS K gl cf n (.st i ix e) De σ H) : tAsg (tE K gl cf e) (gSub (tVar i) (tE K gl cf ix) rSet2) De σ H := by
  obtain ⟨F, Z, env, c, env', r, ev, k⟩ := h
  unfold evS at ev
  obtain ⟨⟨rv, e1⟩, h1, ev⟩ := Option.bind_eq_some_iff.mp ev
  obtain ⟨s0, hs0, ev⟩ := Option.bind_eq_some_iff.mp ev
  obtain ⟨m0, ho0, ev⟩ := Option.bind_eq_some_iff.mp ev
  obtain ⟨⟨rk, e2⟩, h2, ev⟩ := Option.bind_eq_some_iff.mp ev
  obtain ⟨s, hs, ev⟩ := Option.bind_eq_some_iff.mp ev
  obtain ⟨mo, ho, ev⟩ := Option.bind_eq_some_iff.mp ev
  obtain ⟨mo', hm, ev⟩ := Option.bind_eq_some_iff.mp ev
  cases ev
  refine ⟨F, Z, env, rv, e1, r, h1, fun v H1 F1 f1 st1 r1 q1 => ?_⟩
  obtain ⟨F2, f2, r2, q2⟩ := q1.frz r1
  -- the slot's address is the state's
  obtain ⟨a, ha, _⟩ := r2.own i s0 m0 hs0 ho0
  refine ⟨.ref a, ha, F2, Z, e1, rk, e2, r2, h2, fun x H2 F3 f3 st3 r3 q3 => ?_⟩
  obtain ⟨F4, f4, r4, q4⟩ := q3.frz r3
  obtain ⟨b, w1, w2, w3, w4⟩ := r4.own i s mo hs ho
  rw [ha] at w1; cases w1
  refine rm_set (F := F4) (Z := Z) (.inl q4) ((q2.stay (st3.mono fun _ => .inl) f3).stay .refl f4) w4 w2 hm fun o hmo => ?_
  obtain ⟨st5, r5⟩ := r4.write (s' := s.put mo') hs ho (put_own ho) ha hmo
  refine k σ _ F4 (fun a h => f4 a (f3 a (f2 a (f1 a h)))) ?_ r5 .refl
  exact (sub_stay st1 st3 (fun a h => f2 a (f1 a h)) fun _ h => h).trans (st5.mono fun a q => q.imp (fun h => f4 a (f3 a (f2 a (f1 a h)))) id)
theorem pair_eq {d d0 d1 : D} (h : pair? d = some (d0, d1)) : d = .tuple [d0, d1] := by
  unfold pair? at h
  split at h
  · cases h; rfl
  · cases h
theorem s_ups {i j : Nat} {ix e : E} (h : tS K gl cf n (.ups i j ix e) De σ H) : tAsg (tE K gl cf e) (gTup K 2 (gCons (gName i) (gCons (gSub (tVar j) (tE K gl cf ix) rSet2) gNil))) De σ H := by
  obtain ⟨F, Z, env, c, env', r, ev, k⟩ := h
  unfold evS at ev
  obtain ⟨⟨rv, e1⟩, h1, ev⟩ := Option.bind_eq_some_iff.mp ev
  obtain ⟨⟨d0, d1⟩, hp, ev⟩ := Option.bind_eq_some_iff.mp ev
  obtain ⟨e2, h2, ev⟩ := Option.bind_eq_some_iff.mp ev
  obtain ⟨s0, hs0, ev⟩ := Option.bind_eq_some_iff.mp ev
  obtain ⟨m0, ho0, ev⟩ := Option.bind_eq_some_iff.mp ev
  obtain ⟨⟨rk, e3⟩, h3, ev⟩ := Option.bind_eq_some_iff.mp ev
  obtain ⟨s, hs, ev⟩ := Option.bind_eq_some_iff.mp ev
  obtain ⟨mo, ho, ev⟩ := Option.bind_eq_some_iff.mp ev
  obtain ⟨mo', hm, ev⟩ := Option.bind_eq_some_iff.mp ev
  cases ev
  have hp := pair_eq hp
  refine ⟨F, Z, env, rv, e1, r, h1, fun v H1 F1 f1 st1 r1 q1 => ?_⟩
  obtain ⟨F2, f2, r2, q2⟩ := q1.frz r1
  rw [hp] at q2
  cases q2 with
  | tup hq hr =>
    cases hr with
    | cons q0 t =>
      cases t with
      | cons qd t =>
        cases t
        refine ⟨_, _, rfl, hq, rfl, _, _, rfl, ?_⟩
        obtain ⟨r3, k3⟩ := r2.assign h2 (.inl ⟨d0, rfl, q0⟩)
        refine ⟨_, _, rfl, ?_⟩
        obtain ⟨a, ha, _⟩ := r3.own j s0 m0 hs0 ho0
        refine ⟨.ref a, ha, F2, Z, e2, rk, e3, r3, h3, fun x H2 F3 f3 st3 r4 q3 => ?_⟩
        obtain ⟨F4, f4, r5, q4⟩ := q3.frz r4
        obtain ⟨b, w1, w2, w3, w4⟩ := r5.own j s mo hs ho
        rw [ha] at w1; cases w1
        refine rm_set (F := F4) (Z := Z) (.inl q4) ((qd.stay (st3.mono fun _ => .inl) f3).stay .refl f4) w4 w2 hm fun o hmo => ?_
        obtain ⟨st5, r6⟩ := r5.write (s' := s.put mo') hs ho (put_own ho) ha hmo
        refine ⟨rfl, k _ _ F4 (fun a h => f4 a (f3 a (f2 a (f1 a h)))) ?_ r6 (Kept.trans (evE_kin h1) .refl k3)⟩
        exact (sub_stay st1 st3 (fun a h => f2 a (f1 a h)) fun _ h => h).trans (st5.mono fun a q => q.imp (fun h => f4 a (f3 a (f2 a (f1 a h)))) id)
/-- a reading of a op= b does what augf says -/
def RAug (K : PySem.W.Frag) (o : Op) (r : R2) : Prop :=
  ∀ (F : Addr → Prop) (H : Hp) (d e d' : D) (x y : V) (Q : VK), (∀ a, F a → H a ≠ none) → Rep K F H d x → Rep K F H e y → augf o d e = some d' → (∀ v H', Same H H' → Rep K F H' d' v → Q v H') → r x y H Q
theorem s_aug {i : Nat} {o : Op} {e : E} {r2 : R2} (hr : RAug K o r2) (h : tS K gl cf n (.aug i o e) De σ H) : tAug i (tE K gl cf e) r2 De σ H := by
  obtain ⟨F, Z, env, c, env', r, ev, k⟩ := h
  unfold evS at ev
  split at ev
  · rename_i d0 hd
    obtain ⟨⟨rv, e1⟩, h1, ev⟩ := Option.bind_eq_some_iff.mp ev
    obtain ⟨d', h2, ev⟩ := Option.bind_eq_some_iff.mp ev
    obtain ⟨e2, h3, ev⟩ := Option.bind_eq_some_iff.mp ev
    cases ev
    obtain ⟨x, hx, qx⟩ := r.val i d0 hd
    refine ⟨x, hx, F, Z, env, rv, e1, r, h1, fun y H1 F1 f1 st1 r1 q1 => ?_⟩
    obtain ⟨F2, f2, r2', q2⟩ := q1.frz r1
    refine hr F2 H1 _ _ d' x y _ r2'.fd ((qx.stay (st1.mono fun _ => .inl) f1).stay .refl f2) q2 h2 fun z H2 sm ro => ?_
    obtain ⟨r4, k4⟩ := (r2'.same sm).assign h3 (.inl ⟨d', rfl, ro⟩)
    exact k _ H2 F2 (fun a h => f2 a (f1 a h)) (st1.trans (.same sm fun a h => h.elim (fun h => r2'.fd a (f2 a (f1 a h))) fun h => r2'.zd a h)) r4 (Kept.trans (evE_kin h1) .refl k4)
  · cases ev
theorem s_agt {i : Nat} {ix : E} {o : Op} {e : E} {r2 : R2} (hr : RAug K o r2) (h : tS K gl cf n (.agt i ix o e) De σ H) : tAugS (tVar i) (tE K gl cf ix) (tE K gl cf e) (rIxL K) r2 rSet2 De σ H := by
  obtain ⟨F, Z, env, c, env', r, ev, k⟩ := h
  unfold evS at ev
  obtain ⟨s0, hs0, ev⟩ := Option.bind_eq_some_iff.mp ev
  obtain ⟨m0, ho0, ev⟩ := Option.bind_eq_some_iff.mp ev
  obtain ⟨⟨rk, e1⟩, h1, ev⟩ := Option.bind_eq_some_iff.mp ev
  obtain ⟨s1, hs1, ev⟩ := Option.bind_eq_some_iff.mp ev
  obtain ⟨m1, ho1, ev⟩ := Option.bind_eq_some_iff.mp ev
  obtain ⟨d0, hg, ev⟩ := Option.bind_eq_some_iff.mp ev
  obtain ⟨⟨rv, e2⟩, h2, ev⟩ := Option.bind_eq_some_iff.mp ev
  obtain ⟨d', h3, ev⟩ := Option.bind_eq_some_iff.mp ev
  obtain ⟨s, hs, ev⟩ := Option.bind_eq_some_iff.mp ev
  obtain ⟨mo, ho, ev⟩ := Option.bind_eq_some_iff.mp ev
  obtain ⟨mo', hm, ev⟩ := Option.bind_eq_some_iff.mp ev
  cases ev
  obtain ⟨a, ha, _⟩ := r.own i s0 m0 hs0 ho0
  refine ⟨.ref a, ha, F, Z, env, rk, e1, r, h1, fun x H1 F1 f1 st1 r1 q1 => ?_⟩
  obtain ⟨F2, f2, r2', q2⟩ := q1.frz r1
  obtain ⟨b, w1, w2, w3, w4⟩ := r2'.own i s1 m1 hs1 ho1
  rw [ha] at w1; cases w1
  generalize hkk : frz rk = kk at hg q2 hm
  cases m1 with
  | lst ds =>
    cases kk with
    | int j =>
      obtain ⟨vs, hv, rs⟩ := w4
      obtain ⟨v, hat, qv⟩ := atI_rep rs (show atI ds j = some d0 from hg)
      have ex := rep_int q2
      subst ex
      refine ⟨a, vs, j, v, rfl, rfl, SqL.of hv, hat, F2, Z, e1, rv, e2, r2', h2, fun y H2 F3 f3 st3 r3 q3 => ?_⟩
      obtain ⟨F4, f4, r4, q4⟩ := q3.frz r3
      refine hr F4 H2 d0 (frz rv) d' v y _ r4.fd ((qv.stay (st3.mono fun _ => .inl) f3).stay .refl f4) q4 h3 fun z H3 sm ro => ?_
      have r4s := r4.same sm
      obtain ⟨b, u1, u2, u3, u4⟩ := r4s.own i s mo hs ho
      rw [ha] at u1; cases u1
      refine rm_set (F := F4) (Z := Z) (.inl (.int j)) ro u4 u2 hm fun o hmo => ?_
      obtain ⟨st5, r5⟩ := r4s.write (s' := s.put mo') hs ho (put_own ho) ha hmo
      refine k σ _ F4 (fun a h => f4 a (f3 a (f2 a (f1 a h)))) ?_ r5 .refl
      have st4 := (sub_stay st1 st3 (fun a h => f2 a (f1 a h)) fun _ h => h).trans (.same sm fun a h => h.elim (fun h => r4.fd a (f4 a (f3 a (f2 a (f1 a h))))) fun h => r4.zd a h)
      exact st4.trans (st5.mono fun a q => q.imp (fun h => f4 a (f3 a (f2 a (f1 a h)))) id)
    | _ => cases hg
  | _ => cases hg
theorem s_ext {i : Nat} {e : E} (h : tS K gl cf n (.ext i e) De σ H) : tAug i (tE K gl cf e) rExt2 De σ H := by
  obtain ⟨F, Z, env, c, env', r, ev, k⟩ := h
  unfold evS at ev
  obtain ⟨s0, hs0, ev⟩ := Option.bind_eq_some_iff.mp ev
  obtain ⟨m0, ho0, ev⟩ := Option.bind_eq_some_iff.mp ev
  obtain ⟨⟨rv, e1⟩, h1, ev⟩ := Option.bind_eq_some_iff.mp ev
  obtain ⟨s, hs, ev⟩ := Option.bind_eq_some_iff.mp ev
  obtain ⟨mo, ho, ev⟩ := Option.bind_eq_some_iff.mp ev
  obtain ⟨mo', hm, ev⟩ := Option.bind_eq_some_iff.mp ev
  cases ev
  obtain ⟨a, ha, _⟩ := r.own i s0 m0 hs0 ho0
  refine ⟨.ref a, ha, F, Z, env, rv, e1, r, h1, fun y H1 F1 f1 st1 r1 q1 => ?_⟩
  obtain ⟨F2, f2, r2, q2⟩ := q1.frz r1
  obtain ⟨b, w1, w2, w3, w4⟩ := r2.own i s mo hs ho
  rw [ha] at w1; cases w1
  generalize frz rv = kk at q2 hm
  unfold extf at hm
  split at hm
  · split at hm
    · rename_i ds es hl
      cases hm
      obtain ⟨vs, hv, rs⟩ := w4
      obtain ⟨b, ws, rfl, hb, rb⟩ := q2.list
      refine ⟨a, b, vs, ws, rfl, rfl, hv, hb, by rw [← rs.length, ← rb.length]; exact hl, ?_⟩
      have sF : Stay F2 H1 (upd H1 a (.lst (vs ++ ws))) := lst_stay hv w2
      obtain ⟨st5, r5⟩ := r2.write (s' := s.put (.lst (ds ++ es))) hs ho (put_own ho) ha ⟨_, upd_same, (rs.stay sF fun _ x => x).append (rb.stay sF fun _ x => x)⟩
      have es : σ.set i (some (.ref a)) = σ := by
        obtain ⟨hi, e⟩ := List.getElem?_eq_some_iff.mp ha
        rw [← e, List.set_getElem_self]
      show De.nx (List.set σ i (some (.ref a))) _
      rw [es]
      exact k σ _ F2 (fun a h => f2 a (f1 a h)) (st1.trans (st5.mono fun a q => q.imp (fun h => f2 a (f1 a h)) id)) r5 .refl
    · cases hm
  · cases hm
theorem s_ife {c : E} {a b : S} (h : tS K gl cf n (.ife c a b) De σ H) : tIfS (tB (tE K gl cf c)) (tS K gl cf n a) (tS K gl cf n b) De σ H := by
  obtain ⟨F, Z, env, cc, env', r, ev, k⟩ := h
  unfold evS at ev
  obtain ⟨p, h1, ev⟩ := Option.bind_eq_some_iff.mp ev
  split at ev
  · refine ⟨F, Z, env, _, _, r, h1, fun v H1 F1 f1 st1 r1 q1 => ⟨true, bool_rel q1, ?_⟩⟩
    show if true = true then _ else _
    rw [if_pos rfl]
    exact ⟨F1, Z, _, cc, env', r1, ev, fun σ2 H2 F2 f2 st2 r2 k2 => k σ2 H2 F2 (fun a h => f2 a (f1 a h)) (sub_stay st1 st2 f1 fun _ h => h) r2 (Kept.trans (evE_kin h1) .refl k2)⟩
  · refine ⟨F, Z, env, _, _, r, h1, fun v H1 F1 f1 st1 r1 q1 => ⟨false, bool_rel q1, ?_⟩⟩
    show if false = true then _ else _
    rw [if_neg Bool.false_ne_true]
    exact ⟨F1, Z, _, cc, env', r1, ev, fun σ2 H2 F2 f2 st2 r2 k2 => k σ2 H2 F2 (fun a h => f2 a (f1 a h)) (sub_stay st1 st2 f1 fun _ h => h) r2 (Kept.trans (evE_kin h1) .refl k2)⟩
  · cases ev
theorem s_whl {c : E} {b : S} (h : tS K gl cf n (.whl c b) De σ H) : tWhile (tB (tE K gl cf c)) (tS K gl cf n b) De σ H := by
  obtain ⟨F, Z, env, cc, env', r, ev, k⟩ := h
  unfold evS at ev
  refine ⟨fun m σ H => ∃ (F Z : Addr → Prop) (env : Env'), ERel K F Z H env σ ∧ whlL (evE gl cf c) (evS gl cf n b) m env = some (cc, env') ∧
    ∀ (σ' : L2.St) (H' : Hp) (F' : Addr → Prop), (∀ a, F a → F' a) → Stay (fun a => F a ∨ Z a) H H' → ERel K F' Z H' env' σ' → Kept env σ σ' → CEnd K De F' Z H' env' σ' cc, ⟨n, F, Z, env, r, ev, k⟩, ?_⟩
  rintro m σ H ⟨F, Z, env, r, ev, k⟩
  cases m with
  | zero => unfold whlL at ev; cases ev
  | succ m =>
    unfold whlL at ev
    obtain ⟨p, h1, ev⟩ := Option.bind_eq_some_iff.mp ev
    split at ev
    · rename_i e1
      obtain ⟨⟨cb, e2⟩, h2, ev⟩ := Option.bind_eq_some_iff.mp ev
      refine ⟨F, Z, env, _, _, r, h1, fun v H1 F1 f1 st1 r1 q1 => ⟨true, bool_rel q1, ?_⟩⟩
      show if true = true then _ else _
      rw [if_pos rfl]
      refine ⟨fun σ' H' => ∃ (F Z : Addr → Prop) (env : Env'), ERel K F Z H' env σ' ∧ whlL (evE gl cf c) (evS gl cf n b) m env = some (cc, env') ∧
        ∀ (σ'' : L2.St) (H'' : Hp) (F' : Addr → Prop), (∀ a, F a → F' a) → Stay (fun a => F a ∨ Z a) H' H'' → ERel K F' Z H'' env' σ'' → Kept env σ' σ'' → CEnd K De F' Z H'' env' σ'' cc, fun σ' H' w => ⟨m, Nat.lt_succ_self m, w⟩, ?_⟩
      refine ⟨F1, Z, e1, cb, e2, r1, h2, fun σ2 H2 F2 f2 st2 r2 k2 => ?_⟩
      have kk : Kept env σ σ2 := Kept.trans (evE_kin h1) .refl k2
      have kin : Kin env e2 := (evE_kin h1).trans (evS_kin h2)
      have st : Stay (fun a => F a ∨ Z a) H H2 := sub_stay st1 st2 f1 fun _ h => h
      have go : whlL (evE gl cf c) (evS gl cf n b) m e2 = some (cc, env') → ∃ (F Z : Addr → Prop) (env : Env'), ERel K F Z H2 env σ2 ∧ whlL (evE gl cf c) (evS gl cf n b) m env = some (cc, env') ∧
        ∀ (σ'' : L2.St) (H'' : Hp) (F' : Addr → Prop), (∀ a, F a → F' a) → Stay (fun a => F a ∨ Z a) H2 H'' → ERel K F' Z H'' env' σ'' → Kept env σ2 σ'' → CEnd K De F' Z H'' env' σ'' cc := fun w =>
        ⟨F2, Z, e2, r2, w, fun σ3 H3 F3 f3 st3 r3 k3 => k σ3 H3 F3 (fun a h => f3 a (f2 a (f1 a h))) (sub_stay st st3 (fun a h => f2 a (f1 a h)) fun _ h => h) r3 (kk.trans kin k3)⟩
      cases cb with
      | nx => exact go ev
      | ct => exact go ev
      | bk => cases ev; exact k σ2 H2 F2 (fun a h => f2 a (f1 a h)) st r2 kk
      | ret rv => cases ev; exact k σ2 H2 F2 (fun a h => f2 a (f1 a h)) st r2 kk
    · cases ev
      refine ⟨F, Z, env, _, _, r, h1, fun v H1 F1 f1 st1 r1 q1 => ⟨false, bool_rel q1, ?_⟩⟩
      show if false = true then _ else _
      rw [if_neg Bool.false_ne_true]
      exact k σ H1 F1 f1 st1 r1 .refl
    · cases ev
theorem s_for {tg : Tg} {it : It} {b : S} (h : tS K gl cf n (.for tg it b) De σ H) : tFor (tI K gl cf it) (tG K tg) (tS K gl cf n b) De σ H := by
  obtain ⟨F, Z, env, c, env', r, ev, k⟩ := h
  unfold evS at ev
  obtain ⟨⟨xs, e1⟩, h1, ev⟩ := Option.bind_eq_some_iff.mp ev
  obtain ⟨⟨c2, e2⟩, h2, ev⟩ := Option.bind_eq_some_iff.mp ev
  cases ev
  refine it_read r h1 fun J H1 F1 Z1 f1 z1 hz st1 R1 S1 => ?_
  -- the end of the loop
  have fin : ∀ (σ' : L2.St) (H' : Hp) (F' : Addr → Prop), (∀ a, F1 a → F' a) → Stay (fun a => F1 a ∨ Z1 a) H1 H' → ERel K F' Z1 H' e2 σ' → Kept e1 σ σ' → Kin e1 e2 →
      (∀ rv v, RvRel K F' Z1 H' e2 σ' rv v → RvRel K F' Z H' (Pv.reAt it.bIx env e2) σ' rv v) ∧ CEnd K De F' Z H' (Pv.reAt it.bIx env e2) σ' c := fun σ' H' F' f' st' R' kp kin => by
    obtain ⟨R3, o3⟩ := r.behind h1 R' z1 hz kin kp
    refine ⟨fun rv v q => ?_, k σ' H' F' (fun a h => f' a (f1 a h)) (sub_stay st1 st' f1 z1) R3 ?_⟩
    · cases rv with
      | val d => exact q
      | new m => obtain ⟨a, q1, q2, q3⟩ := q; exact ⟨a, q1, o3 a q2, q3⟩
    · intro j hj
      cases hb : it.bIx with
      | none =>
        rcases evI_kin h1 with ⟨_, kin0⟩ | ⟨i', hn, _⟩
        · exact kp j (by rw [kin0.2 j]; exact hj)
        · rw [hb] at hn; cases hn
      | some i =>
        rcases evI_kin h1 with ⟨hn, _⟩ | ⟨i', hn, hl, hne, hi⟩
        · rw [hb] at hn; cases hn
        · rw [hb] at hn; cases hn
          refine kp j ?_
          by_cases hji : j = i
          · subst hji
            rcases hi with hi | hi
            · rw [hi]; exact hj
            · rw [hi]; decide
          · rw [hne j hji]; exact hj
  refine ⟨fun i m σ' H' => m = xs.length - i ∧ i ≤ xs.length ∧ ∃ (F' : Addr → Prop) (e : Env'), ERel K F' Z1 H' e σ' ∧ (∀ a, F1 a → F' a) ∧ Stay (fun a => F1 a ∨ Z1 a) H1 H' ∧ Src K Z1 J xs F' H' ∧ Kept e1 σ σ' ∧ Kin e1 e ∧
    forL tg (evS gl cf n b) (xs.drop i) e = some (c, e2), ⟨xs.length, rfl, Nat.zero_le _, F1, e1, R1, fun _ h => h, .refl, S1, .refl, .refl _, h2⟩, ?_⟩
  rintro i m σ' H' ⟨rfl, hi, F', e, R', f', st', S', kp, kin, hw⟩
  by_cases hlt : i < xs.length
  · have hx : xs[i]? = some xs[i] := List.getElem?_eq_getElem hlt
    obtain ⟨go, yld⟩ := S'.go hx
    rw [List.drop_eq_getElem_cons hlt] at hw
    unfold forL at hw
    obtain ⟨ea, ha, hw⟩ := Option.bind_eq_some_iff.mp hw
    obtain ⟨⟨cb, eb⟩, hb, hw⟩ := Option.bind_eq_some_iff.mp hw
    refine .inr ⟨go, fun σ' H' => i + 1 ≤ xs.length ∧ ∃ (F' : Addr → Prop) (e : Env'), ERel K F' Z1 H' e σ' ∧ (∀ a, F1 a → F' a) ∧ Stay (fun a => F1 a ∨ Z1 a) H1 H' ∧ Src K Z1 J xs F' H' ∧ Kept e1 σ σ' ∧ Kin e1 e ∧
      forL tg (evS gl cf n b) (xs.drop (i + 1)) e = some (c, e2), fun σ' H' w => ⟨xs.length - (i + 1), by omega, rfl, w⟩, fun x H' hy => ?_⟩
    obtain ⟨rfl, rep⟩ := yld x H' hy
    refine tg_read R' rep ha fun σ2 R2 kp2 _ => ?_
    refine ⟨F', Z1, ea, cb, eb, R2, hb, fun σ3 H3 F3 f3 st3 R3 kp3 => ?_⟩
    have kA : Kept e1 σ σ3 := kp.trans kin (kp2.trans (.setTg ha) kp3)
    have kinA : Kin e1 eb := (kin.trans (.setTg ha)).trans (evS_kin hb)
    have stA : Stay (fun a => F1 a ∨ Z1 a) H1 H3 := sub_stay st' st3 f' fun _ h => h
    have again : forL tg (evS gl cf n b) (xs.drop (i + 1)) eb = some (c, e2) → i + 1 ≤ xs.length ∧ ∃ (F' : Addr → Prop) (e : Env'), ERel K F' Z1 H3 e σ3 ∧ (∀ a, F1 a → F' a) ∧ Stay (fun a => F1 a ∨ Z1 a) H1 H3 ∧ Src K Z1 J xs F' H3 ∧ Kept e1 σ σ3 ∧ Kin e1 e ∧
      forL tg (evS gl cf n b) (xs.drop (i + 1)) e = some (c, e2) := fun w => ⟨hlt, F3, eb, R3, fun a h => f3 a (f' a h), stA, S'.stay st3 f3, kA, kinA, w⟩
    cases cb with
    | nx => exact again hw
    | ct => exact again hw
    | bk => cases hw; exact (fin σ3 H3 F3 (fun a h => f3 a (f' a h)) stA R3 kA kinA).2
    | ret rv =>
      cases hw
      intro v q
      obtain ⟨g1, g2⟩ := fin σ3 H3 F3 (fun a h => f3 a (f' a h)) stA R3 kA kinA
      exact g2 v (g1 rv v q)
  · have e0 : i = xs.length := by omega
    subst e0
    rw [List.drop_length] at hw
    unfold forL at hw
    cases hw
    exact .inl ⟨S'.stop, (fin σ' H' F' f' st' R' kp kin).2⟩
end
end Pv

namespace Pv
open PySem PySem.Spec PyProof.Rows L2

/-! ### the check: does the small program tell the written one? -/
/-- the names that stand in the slots, the scope, the cells that may be stored, the defs, the module's values, the builtins that are not hidden -/
structure Cc where
  N : List Str
  sc : Scope
  fn : Str → Bool
  fns : List Str
  gls : List Str
  blt : List Str
  gcd : Bool
def visK : Option NameKind → Bool
  | some .local => true
  | some .cell => true
  | some .free => true
  | _ => false
def Cc.var (c : Cc) (i : Nat) (x : Str) : Bool := decide (c.N[i]? = some x) && visK (c.sc.names.lookup x) && !(x == ("__debug__" : Str)) && !(x == ("__classdict__" : Str))
def Cc.store (c : Cc) (i : Nat) (x : Str) : Bool := decide (c.N[i]? = some x) && (decide (c.sc.names.lookup x = some .local) || (decide (c.sc.names.lookup x = some .cell) && c.fn x))
def Cc.glob (c : Cc) (x : Str) : Bool := decide (c.sc.names.lookup x = some .globalImplicit) && !(x == ("__debug__" : Str))
def Cc.built (c : Cc) (x y : Str) : Bool := decide (x = y) && c.glob x && decide (x ∈ c.blt)
def Cc.blk (c : Cc) (scope : Scope) : Cc := { c with sc := relS scope c.sc, fn := fun x => scope.names.lookup x == some .cell }
def cstB : D → Const → Bool
  | .none, .none => true
  | .bool b, .bool b' => b == b'
  | .int i, .int j => decide (i = j)
  | .str x, .str y => decide (x = y)
  | _, _ => false
def binB : Op → Operator → Bool
  | .add, .Add => true
  | .sub, .Sub => true
  | .mul, .Mult => true
  | .fdiv, .FloorDiv => true
  | .mod, .Mod => true
  | .pow, .Pow => true
  | .xor, .BitXor => true
  | _, _ => false
def augB : Op → Operator → Bool
  | .add, .Add => true
  | .sub, .Sub => true
  | .mul, .Mult => true
  | .fdiv, .FloorDiv => true
  | .xor, .BitXor => true
  | _, _ => false
def cmpB : Op → CmpOp → Bool
  | .eq, .Eq => true
  | .ne, .NotEq => true
  | .lt, .Lt => true
  | .le, .LtE => true
  | .gt, .Gt => true
  | .ge, .GtE => true
  | .isN, .Is => true
  | .notN, .IsNot => true
  | .inn, .In => true
  | .notin, .NotIn => true
  | _, _ => false
/-- one argument: the builtin's name -/
def fn1 : Op → Option Str
  | .len => some "len"
  | .abs => some "abs"
  | .max => some "max"
  | .min => some "min"
  | .sum => some "sum"
  | .any => some "any"
  | .all => some "all"
  | .sorted => some "sorted"
  | .int => some "int"
  | .tuple => some "tuple"
  | .list => some "list"
  | _ => none
def fn2B (c : Cc) (f : Str) : Op → Bool
  | .gcd => decide (f = ("gcd" : Str)) && c.glob f && c.gcd
  | .max2 => c.built f "max"
  | .min2 => c.built f "min"
  | _ => false
def isa : Op → Option Str
  | .isI => some "int"
  | .isB => some "bool"
  | .isS => some "str"
  | .isT => some "tuple"
  | _ => none
def mtdB : Mm → Option Str
  | .append => some "append"
  | .pop => some "pop"
  | .popAt => some "pop"
  | .reverse => some "reverse"
  | .insert => some "insert"
def noStar : Expr → Bool
  | .Starred _ _ => false
  | _ => true
def noSlice : Expr → Bool
  | .Slice _ _ _ _ => false
  | _ => true
def noSet : Expr → Bool
  | .Set _ _ _ => false
  | _ => true
/-- no test of its own -/
def isLit : Expr → Bool
  | .ListComp _ _ _ _ => true
  | .List _ _ => true
  | .Call _ _ _ _ => true
  | .Subscript _ _ _ => true
  | .BinOp _ _ _ _ => true
  | _ => false
def mt2B : Op → Str → Bool
  | .count, n => decide (n = ("count" : Str))
  | .index, n => decide (n = ("index" : Str))
  | _, _ => false
def isTup : Expr → Bool
  | .Tuple _ _ _ => true
  | _ => false
/-- a tuple that is put together at once (or no tuple) -/
def notSwp : Expr → Bool
  | .Tuple vs _ _ => vs.all (foldedForSure 8) || !(vs.length == 2 || vs.length == 3)
  | _ => true
/-- some of the names is held in a cell -/
def cellN (c : Cc) : Expr → Bool
  | .Name x _ => decide (c.sc.names.lookup x = some .cell)
  | _ => false
def isLC : Expr → Bool
  | .ListComp _ _ _ _ => true
  | .SetComp _ _ _ _ => true
  | .DictComp _ _ _ _ _ => true
  | _ => false
def mNames (c : Cc) : List Nat → List Expr → Bool
  | [], [] => true
  | i :: is, .Name x _ :: es => c.store i x && mNames c is es
  | _, _ => false
def mTg (c : Cc) : Tg → Expr → Bool
  | .nm i, .Name x _ => c.store i x
  | .tp is, .Tuple es _ _ => mNames c is es
  | _, _ => false
mutual
def mE (c : Cc) : E → Expr → Bool
  | .cst d, .Constant k _ _ => cstB d k
  | .var i, .Name x _ => c.var i x
  | .brw i, .Name x _ => c.var i x
  | .mov i, .Name x _ => c.var i x
  | .glb g, .Name x _ => decide (c.gls[g]? = some x) && c.glob x
  | .op o (.cons a .nil), .UnaryOp uo x _ => (match o, uo with | .neg, .USub => true | _, _ => false) && mE c a x
  | .op o (.cons a (.cons b .nil)), .BinOp x bo y _ => binB o bo && mE c a x && mE c b y
  | .op o (.cons a (.cons b .nil)), .Compare x [co] [y] _ => cmpB o co && !behindInMarks co y && mE c a x && mE c b y
  | .op .idx (.cons a (.cons b .nil)), .Subscript x y _ => noSlice y && mE c a x && mE c b y
  | .op (.slc false false) (.cons a .nil), .Subscript x (.Slice none none none _) _ => mE c a x
  | .op (.slc true false) (.cons a (.cons b .nil)), .Subscript x (.Slice (some y) none none _) _ => mE c a x && mE c b y
  | .op (.slc false true) (.cons a (.cons b .nil)), .Subscript x (.Slice none (some y) none _) _ => mE c a x && mE c b y
  | .op (.slc true true) (.cons a (.cons b (.cons d .nil))), .Subscript x (.Slice (some y) (some z) none _) _ => mE c a x && mE c b y && mE c d z
  | .op .rev (.cons a .nil), .Subscript x (.Slice none none (some (.UnaryOp .USub (.Constant (.int 1) _ _) _)) _) _ => mE c a x
  | .op .tupR (.cons a .nil), .Call (.Name f _) [.Call (.Name g _) [x] [] _] [] _ => c.built f "tuple" && c.built g "range" && noStar x && mE c a x
  | .op .lstR (.cons a .nil), .Call (.Name f _) [.Call (.Name g _) [x] [] _] [] _ => c.built f "list" && c.built g "range" && noStar x && mE c a x
  | .op .tupR (.cons a (.cons b .nil)), .Call (.Name f _) [.Call (.Name g _) [x, y] [] _] [] _ => c.built f "tuple" && c.built g "range" && noStar x && noStar y && mE c a x && mE c b y
  | .op .lstR (.cons a (.cons b .nil)), .Call (.Name f _) [.Call (.Name g _) [x, y] [] _] [] _ => c.built f "list" && c.built g "range" && noStar x && noStar y && mE c a x && mE c b y
  | .op .lenset (.cons a .nil), .Call (.Name f _) [.Call (.Name g _) [x] [] _] [] _ => c.built f "len" && c.built g "set" && noStar x && mE c a x
  | .op .sortset (.cons a .nil), .Call (.Name f _) [.Call (.Name g _) [x] [] _] [] _ => c.built f "sorted" && c.built g "set" && noStar x && mE c a x
  | .op o (.cons a .nil), .Call (.Name f _) [x] [] _ => (match fn1 o with | some g => c.built f g | none => false) && noStar x && mE c a x
  | .op o (.cons a (.cons b .nil)), .Call (.Name f _) [x, y] [] _ => fn2B c f o && noStar x && noStar y && mE c a x && mE c b y
  | .op o (.cons a .nil), .Call (.Name f _) [x, .Name t _] [] _ => c.built f "isinstance" && (match isa o with | some g => c.built t g | none => false) && noStar x && mE c a x
  | .op .bits (.cons a .nil), .Call (.Attribute (.Name x p1) n ap) [] [] cp => decide (n = ("bit_length" : Str)) && (ap.endLine == cp.line) && mE c a (.Name x p1)
  | .op o (.cons a (.cons b .nil)), .Call (.Attribute (.Name x p1) n ap) [y] [] cp => mt2B o n && (ap.endLine == cp.line) && noStar y && mE c a (.Name x p1) && mE c b y
  | .tup es, .Tuple xs _ _ => mEs c es xs
  | .lst es, .List xs _ => mEs c es xs
  | .dct, .Dict [] [] _ => true
  | .and a b, .BoolOp .And (x :: y :: r) p => mE c a x && (match r with | [] => mE c b y | z :: r => mE c b (.BoolOp .And (y :: z :: r) p))
  | .or a b, .BoolOp .Or (x :: y :: r) p => mE c a x && (match r with | [] => mE c b y | z :: r => mE c b (.BoolOp .Or (y :: z :: r) p))
  | .not a, .UnaryOp uo x _ => (match uo with | .Not => true | _ => false) && mE c a x
  | .ife t a b, .IfExp x y z _ => mE c t x && mE c a y && mE c b z
  | .chn o1 o2 a b d, .Compare x [c1, c2] [y, z] _ => cmpB o1 c1 && cmpB o2 c2 && !lastMarks [c1, c2] [y, z] && mE c a x && mE c b y && mE c d z
  | .call f (.cons a es), .Call (.Name x _) (y :: ys) [] _ => decide (c.fns[f]? = some x) && c.glob x && noStar y && mE c a y && mEs c es ys
  | .call f .nil, .Call (.Name x _) [] [] _ => decide (c.fns[f]? = some x) && c.glob x
  | .mth m i .nil, .Call (.Attribute (.Name x _) a ap) [] [] cp => (match m with | .pop => decide (a = ("pop" : Str)) | .reverse => decide (a = ("reverse" : Str)) | _ => false) && c.var i x && (ap.endLine == cp.line)
  | .mth m i (.cons a .nil), .Call (.Attribute (.Name x _) n ap) [y] [] cp => (match m with | .append => decide (n = ("append" : Str)) | .popAt => decide (n = ("pop" : Str)) | _ => false) && c.var i x && (ap.endLine == cp.line) && noStar y && mE c a y
  | .mth m i (.cons a (.cons b .nil)), .Call (.Attribute (.Name x _) n ap) [y, z] [] cp => (match m with | .insert => decide (n = ("insert" : Str)) | _ => false) && c.var i x && (ap.endLine == cp.line) && noStar y && noStar z && mE c a y && mE c b z
  | .comp own tg it cs elt, .ListComp el [⟨t, i, ifs, 0⟩] scope _ => blkC c.N c.sc scope (own.map fun v => (c.N.getD v "", v)) && noSet i && (tg.ixs.all fun j => own.contains j) && mI c it i && mTg (c.blk scope) tg t && mCs (c.blk scope) cs ifs && mE (c.blk scope) elt el
  | .fz e, x => isLit x && mE c e x
  | _, _ => false
def mEs (c : Cc) : Es → List Expr → Bool
  | .nil, [] => true
  | .cons e es, x :: xs => noStar x && mE c e x && mEs c es xs
  | _, _ => false
def mCs (c : Cc) : Es → List Expr → Bool
  | .nil, [] => true
  | .cons e .nil, [x] => mE c e x
  | _, _ => false
def mI (c : Cc) : It → Expr → Bool
  | .of e, x => mE c e x
  | .rng (.cons a .nil), .Call (.Name f _) [x] [] _ => c.built f "range" && noStar x && mE c a x
  | .rng (.cons a (.cons b .nil)), .Call (.Name f _) [x, y] [] _ => c.built f "range" && noStar x && noStar y && mE c a x && mE c b y
  | .rng (.cons a (.cons b (.cons d .nil))), .Call (.Name f _) [x, y, z] [] _ => c.built f "range" && noStar x && noStar y && noStar z && mE c a x && mE c b y && mE c d z
  | _, _ => false
end
/-- a pair of names, stored from the right -/
def parB (c : Cc) (i j : Nat) (x y : Str) (px py : Pos) (a b : Expr) : Bool :=
  decide (c.N[i]? = some x) && decide (c.N[j]? = some y) && decide (i ≠ j) && decide (x ≠ y) && decide (c.sc.names.lookup x = some .local) && decide (c.sc.names.lookup y = some .local) && decide (c.sc.kind = .function) && (py.line == px.line) &&
    noStar a && noStar b && !(foldedForSure 8 a && foldedForSure 8 b) && !(constantsAlone 8 a && constantsAlone 8 b)
def parB3 (c : Cc) (i j l : Nat) (x y z : Str) (px py pz : Pos) (a b d : Expr) : Bool :=
  decide (c.N[i]? = some x) && decide (c.N[j]? = some y) && decide (c.N[l]? = some z) && decide (i ≠ j) && decide (i ≠ l) && decide (j ≠ l) && decide (x ≠ y) && decide (x ≠ z) && decide (y ≠ z) &&
    decide (c.sc.names.lookup x = some .local) && decide (c.sc.names.lookup y = some .local) && decide (c.sc.names.lookup z = some .local) && decide (c.sc.kind = .function) && (py.line == px.line) && (pz.line == px.line) &&
    noStar a && noStar b && noStar d && !(foldedForSure 8 a && (foldedForSure 8 b && foldedForSure 8 d)) && !(constantsAlone 8 a && (constantsAlone 8 b && constantsAlone 8 d))
def mS (c : Cc) : S → List Stmt → Bool
  | .fgt _ _ s, sts => mS c s sts
  | .pass, [] => true
  | .pass, [.Pass _] => true
  | .seq a b, st :: r :: rs => mS c a [st] && mS c b (r :: rs)
  | .set i e, [.Assign [.Name x px] v p] => c.store i x && mE c e v && (match v with
      | .ListComp _ _ scope q => decide (c.sc.names.lookup x = some .cell) || (decide (c.sc.names.lookup x = some .local) && decide (c.sc.kind = .function) && (px.line == q.line) && !(scope.names.any fun (n, k) => n == x && (k == .local || k == .cell)))
      | _ => !isLC v)
  | .unp is e, [.Assign [.Tuple ts _ _] v _] => mNames c is ts && (notSwp v || ts.any (cellN c)) && !isLC v && mE c e v
  | .par i j a b, [.Assign [.Tuple [.Name x px, .Name y py] _ _] (.Tuple [v, w] _ _) _] => parB c i j x y px py v w && mE c a v && mE c b w
  | .par3 i j l a b d, [.Assign [.Tuple [.Name x px, .Name y py, .Name z pz] _ _] (.Tuple [u, v, w] _ _) _] => parB3 c i j l x y z px py pz u v w && mE c a u && mE c b v && mE c d w
  | .st i ix e, [.Assign [.Subscript (.Name x _) y _] v _] => c.var i x && noSlice y && !isLC v && mE c ix y && mE c e v
  | .ups i j ix e, [.Assign [.Tuple [.Name x _, .Subscript (.Name y _) z _] _ _] v _] => c.store i x && c.var j y && noSlice z && !isLC v && mE c ix z && mE c e v
  | .aug i o e, [.AugAssign (.Name x _) ao v _] => augB o ao && c.var i x && c.store i x && mE c e v
  | .agt i ix o e, [.AugAssign (.Subscript (.Name x _) y _) ao v _] => augB o ao && c.var i x && noSlice y && mE c ix y && mE c e v
  | .ext i e, [.AugAssign (.Name x _) ao v _] => (match ao with | .Add => true | _ => false) && c.var i x && c.store i x && mE c e v
  | .ex e, [.Expr v _] => !isLC v && mE c e v
  | .ret e, [.Return (some v) _] => mE c e v
  | .retn, [.Return none _] => true
  | .ife t a b, [.If x ys zs _] => mE c t x && mS c a ys && mS c b zs
  | .whl t b, [.While x ys [] _] => mE c t x && mS c b ys
  | .for tg it b, [.For t i ys [] _] => noSet i && mI c it i && mTg c tg t && mS c b ys
  | .brk, [.Break _] => true
  | .cnt, [.Continue _] => true
  | _, _ => false
end Pv

namespace Pv
open PySem PySem.Spec PyProof.Rows L2

structure Good (gl : Nat → D) (cf : Nat → List Sl → Option (Rv × List Sl)) (c : Cc) (X : Cx) : Prop where
  calm : X.calm = true
  nm : X.N = c.N
  nd : X.N.Nodup
  sc : X.env.scope = c.sc
  fn : ∀ x, c.fn x = true → X.fn x = true
  xe : X.xe = fun _ _ => False
  un : X.A.units + 65 < cLine
  fns : ∀ (f : Nat) (x : Str), c.fns[f]? = some x → ∃ k a fd ps, FnOk X.prog X.w X.K X.mg X.base CX0 k a fd ps (spOf X.K (cf f)) ∧ Room k X.A ∧ X.mg x = some (.ref a) ∧ PySem.W.keepIn X.K (.ref a) = true ∧ Binds X.K fd ps []
  gls : ∀ (g : Nat) (x : Str), c.gls[g]? = some x → ∃ u v, X.mg x = some u ∧ RelV v u ∧ ∀ F H, Rep X.K F H (gl g) v
  blt : ∀ x, x ∈ c.blt → X.mg x = none
  gcd : c.gcd = true → X.mg "gcd" = some (.builtin "math.gcd")
section
variable {X : Cx} {c : Cc} {gl : Nat → D} {cf : Nat → List Sl → Option (Rv × List Sl)} {σ : L2.St} {H : Hp}
theorem _root_.L2.PE.imp {e : Expr} {t t' : TE} (h : PE X e t) (w : ∀ σ H Q, t' σ H Q → t σ H Q) : PE X e t' := ⟨fun pins s σ H Q I q => h.run pins s σ H Q I (w σ H Q q)⟩
theorem _root_.L2.PT.imp {e : Expr} {t t' : TT} (h : PT X e t) (w : ∀ σ H Q, t' σ H Q → t σ H Q) : PT X e t' := ⟨fun pins s σ H Q I q => h.run pins s σ H Q I (w σ H Q q)⟩
theorem _root_.L2.PW.imp {e : Expr} {t t' : TT} (h : PW X e t) (w : ∀ σ H Q, t' σ H Q → t σ H Q) : PW X e t' := ⟨fun wh pins s σ H Q I q => h.run wh pins s σ H Q I (w σ H Q q)⟩
theorem _root_.L2.PTs.imp {e : List Expr} {t t' : TT} (h : PTs X e t) (w : ∀ σ H Q, t' σ H Q → t σ H Q) : PTs X e t' := ⟨fun pins s σ H Q I q => h.run pins s σ H Q I (w σ H Q q)⟩
theorem _root_.L2.PA.imp {e : List Expr} {t t' : TA} (h : PA X e t) (w : ∀ σ H Q, t' σ H Q → t σ H Q) : PA X e t' := ⟨fun pos pins s σ H Q I q => h.run pos pins s σ H Q I (w σ H Q q)⟩
theorem _root_.L2.PI.imp {tg e : Expr} {t t' : TI} (h : PI X tg e t) (w : ∀ σ H Q, t' σ H Q → t σ H Q) : PI X tg e t' := ⟨fun pins s σ H Q I q => h.run pins s σ H Q I (w σ H Q q)⟩
theorem _root_.L2.PS.imp {e : Stmt} {t t' : TS} (h : PS X e t) (w : ∀ De σ H, t' De σ H → t De σ H) : PS X e t' := ⟨fun pins s σ H De I q => h.run pins s σ H De I (w De σ H q)⟩
theorem _root_.L2.PSs.imp {e : List Stmt} {t t' : TS} (h : PSs X e t) (w : ∀ De σ H, t' De σ H → t De σ H) : PSs X e t' := ⟨fun pins s σ H De I q => h.run pins s σ H De I (w De σ H q)⟩
theorem visK_of {X : Cx} {x : Str} (h : visK (X.env.scope.names.lookup x) = true) : Vis X.env.scope x := by
  unfold Vis
  cases e : X.env.scope.names.lookup x with
  | none => rw [e] at h; cases h
  | some k => rw [e] at h; cases k <;> first | exact .inl rfl | exact .inr (.inl rfl) | exact .inr (.inr rfl) | cases h
theorem Good.var (G : Good gl cf c X) {i : Nat} {x : Str} {pos : Pos} (h : c.var i x = true) : PE X (.Name x pos) (tVar i) := by
  unfold Cc.var at h
  simp only [Bool.and_eq_true, decide_eq_true_eq, Bool.not_eq_true'] at h
  obtain ⟨⟨⟨h1, h2⟩, h3⟩, h4⟩ := h
  exact pe_var (by rw [G.nm]; exact h1) (visK_of (by rw [G.sc]; exact h2)) h3 h4
theorem Good.store (G : Good gl cf c X) {i : Nat} {x : Str} (h : c.store i x = true) : X.N[i]? = some x ∧ Loc X.env.scope x ∧ (X.fn x = true ∨ X.env.scope.names.lookup x = some .local) := by
  unfold Cc.store at h
  simp only [Bool.and_eq_true, Bool.or_eq_true, decide_eq_true_eq] at h
  obtain ⟨h1, h2⟩ := h
  rw [G.nm, G.sc]
  rcases h2 with h2 | ⟨h2, h3⟩
  · exact ⟨h1, .inl h2, .inr h2⟩
  · exact ⟨h1, .inr h2, .inl (G.fn x h3)⟩
theorem Good.glob (G : Good gl cf c X) {x : Str} (h : c.glob x = true) : Gl X x ∧ (x == ("__debug__" : Str)) = false := by
  unfold Cc.glob at h
  simp only [Bool.and_eq_true, Bool.not_eq_true', decide_eq_true_eq] at h
  refine ⟨?_, h.2⟩
  unfold Gl Env.kindOf
  rw [G.sc]; exact h.1
theorem Good.built (G : Good gl cf c X) {x y : Str} (h : c.built x y = true) : x = y ∧ Gl X y ∧ X.mg y = none := by
  unfold Cc.built at h
  simp only [Bool.and_eq_true, decide_eq_true_eq] at h
  obtain ⟨⟨h1, h2⟩, h3⟩ := h
  subst h1
  exact ⟨rfl, (G.glob h2).1, G.blt _ h3⟩
theorem star_cons {env : Env} {x : Expr} {xs : List Expr} (h : noStar x = true) : starEach (x :: xs) env = (false, eval x env) :: starEach xs env := by
  cases x <;> first | rfl | cases h
theorem mEs_star : ∀ {es : Es} {xs : List Expr} {c : Cc} {env : Env}, mEs c es xs = true → (starEach xs env).all (fun x => !x.1) = true
  | .nil, [], _, _, _ => rfl
  | .cons e es, x :: xs, c, env, h => by
    unfold mEs at h
    simp only [Bool.and_eq_true] at h
    rw [star_cons h.1.1]
    simp only [List.all_cons, Bool.not_false, Bool.true_and]
    exact mEs_star h.2
  | .nil, _ :: _, _, _, h => by unfold mEs at h; cases h
  | .cons _ _, [], _, _, h => by unfold mEs at h; cases h
theorem back_none {pos : Pos} {l : List (Bool × Sem Value)} (h : l.all (fun x => !x.1) = true) : (backTo pos l).any (·.1) = false := by
  unfold backTo
  induction l with
  | nil => rfl
  | cons a r ih =>
    simp only [List.all_cons, Bool.and_eq_true] at h
    simp only [List.map_cons, List.any_cons, ih h.2, Bool.or_false]
    simpa using h.1
theorem back_all {pos : Pos} {l : List (Bool × Sem Value)} (h : l.all (fun x => !x.1) = true) : (backTo pos l).all (fun x => !x.1) = true := by
  unfold backTo
  induction l with
  | nil => rfl
  | cons a r ih =>
    simp only [List.all_cons, Bool.and_eq_true] at h
    simp only [List.map_cons, List.all_cons, ih h.2, Bool.and_true]
    exact h.1
/-! ### operations -/
theorem bin_ok {o : Op} {b : Operator} (h : binB o b = true) : ∃ r, OpR X (binaryOp b) r ∧ RS2 X.K o r := by
  unfold binB at h
  split at h
  · exact ⟨_, or_add, rs_add⟩
  · exact ⟨_, op_sub, rs_sub⟩
  · exact ⟨_, or_mul2, rs_mul⟩
  · exact ⟨_, or_fdiv, rs_fdiv⟩
  · exact ⟨_, op_modN, rs_mod⟩
  · exact ⟨_, op_pow, rs_pow⟩
  · exact ⟨_, op_xor, rs_xor⟩
  · cases h
theorem cmp_ok (G : Good gl cf c X) {o : Op} {b : CmpOp} (h : cmpB o b = true) : ∃ r, OpR X (compareOp b) r ∧ RS2 X.K o r := by
  have u1 : X.A.units + 64 < cLine := by have := G.un; omega
  unfold cmpB at h
  split at h
  · exact ⟨_, op_eqD u1, rs_eq⟩
  · exact ⟨_, op_neD u1, rs_ne⟩
  · exact ⟨_, or_lt G.un, rs_cmp fun _ _ => rfl⟩
  · exact ⟨_, or_le G.un, rs_cmp fun _ _ => rfl⟩
  · exact ⟨_, or_gt G.un, rs_cmp fun _ _ => rfl⟩
  · exact ⟨_, or_ge G.un, rs_cmp fun _ _ => rfl⟩
  · exact ⟨_, op_isN.or op_isBl, rs_isN⟩
  · exact ⟨_, op_notN.or op_isnot_bl, rs_notN⟩
  · exact ⟨_, or_in G.un, rs_in⟩
  · exact ⟨_, or_notIn G.un, rs_notIn⟩
  · cases h
theorem b_abs : bootBuiltins "abs" = some (.builtin "abs") := by decide +kernel
theorem b_max : bootBuiltins "max" = some (.builtin "max") := by decide +kernel
theorem b_min : bootBuiltins "min" = some (.builtin "min") := by decide +kernel
theorem b_sum : bootBuiltins "sum" = some (.builtin "sum") := by decide +kernel
theorem b_any : bootBuiltins "any" = some (.builtin "any") := by decide +kernel
theorem b_all : bootBuiltins "all" = some (.builtin "all") := by decide +kernel
theorem b_sorted : bootBuiltins "sorted" = some (.builtin "sorted") := by decide +kernel
theorem b_int : bootBuiltins "int" = some (.type "int") := by decide +kernel
theorem b_tuple : bootBuiltins "tuple" = some (.type "tuple") := by decide +kernel
theorem b_list : bootBuiltins "list" = some (.type "list") := by decide +kernel
theorem b_bool : bootBuiltins "bool" = some (.type "bool") := by decide +kernel
theorem b_str : bootBuiltins "str" = some (.type "str") := by decide +kernel
theorem b_isinstance : bootBuiltins "isinstance" = some (.builtin "isinstance") := by decide +kernel
variable {x y z : Expr} {p pos : Pos} {f : Str}
theorem fn1_ok (G : Good gl cf c X) {o : Op} {a : E} (h : (match fn1 o with | some g => c.built f g | none => false) = true) (hs : noStar x = true) (ha : PE X x (tO X.K gl cf a)) : PE X (.Call (.Name f p) [x] [] pos) (tE X.K gl cf (.op o (.cons a .nil))) := by
  have pa : PA X [x] (tCons (tO X.K gl cf a) tNil) := pa_cons ha pa_nil (star_cons hs)
  have e0 : starEach [x] X.env = (false, eval x X.env) :: starEach [] X.env := star_cons hs
  cases o <;> first | (cases h; done) | skip
  all_goals
    obtain ⟨rfl, g, m⟩ := G.built h
  · exact (pe_callB cr_len g m PySem.boot_len pa (he := e0)).imp fun σ H Q q => op1_read rs_len q
  · exact (pe_callB call_abs g m b_abs pa (he := e0)).imp fun σ H Q q => op1_read rs_abs q
  · exact (pe_callTy call_int1 g m b_int pa (he := e0)).imp fun σ H Q q => op1_read rs_int q
  · exact (pe_callB (cr_maxD G.calm G.un) g m b_max pa (he := e0)).imp fun σ H Q q => op1_read rs_max q
  · exact (pe_callB (cr_minD G.calm G.un) g m b_min pa (he := e0)).imp fun σ H Q q => op1_read rs_min q
  · exact (pe_callB (CallR.or' (cr_sum G.calm) (cr_sumT G.calm)) g m b_sum pa (he := e0)).imp fun σ H Q q => op1_read rs_sum q
  · exact (pe_callB (cr_any G.calm) g m b_any pa (he := e0)).imp fun σ H Q q => op1_read rs_any q
  · exact (pe_callB (cr_all G.calm) g m b_all pa (he := e0)).imp fun σ H Q q => op1_read rs_all q
  · exact (pe_callB (CallR.or' cr_sortedI (CallR.or' (cr_sortedD G.un) (CallR.or' cr_sortedTI (call_sortedDI G.calm)))) g m b_sorted pa (he := e0)).imp fun σ H Q q => op1_read rs_sorted q
  · exact (pe_callTy call_tuple_of g m b_tuple pa (he := e0)).imp fun σ H Q q => op1_read rs_tuple q
  · exact (pe_callTy call_list_of g m b_list pa (he := e0)).imp fun σ H Q q => op1_read rs_list q
theorem fn2_ok (G : Good gl cf c X) {o : Op} {a b : E} (h : fn2B c f o = true) (hs : noStar x = true) (hs2 : noStar y = true)
    (ha : PE X x (tO X.K gl cf a)) (hb : PE X y (tO X.K gl cf b)) : PE X (.Call (.Name f p) [x, y] [] pos) (tE X.K gl cf (.op o (.cons a (.cons b .nil)))) := by
  have pa : PA X [x, y] (tCons (tO X.K gl cf a) (tCons (tO X.K gl cf b) tNil)) := pa_cons ha (pa_cons hb pa_nil (star_cons hs2)) (star_cons hs)
  have e0 : starEach [x, y] X.env = (false, eval x X.env) :: starEach [y] X.env := star_cons hs
  have e1 : (backTo pos (starEach [y] X.env)).any (·.1) = false := by rw [star_cons hs2]; rfl
  cases o <;> first | (cases h; done) | skip
  · obtain ⟨rfl, g, m⟩ := G.built (show c.built f "max" = true from h)
    exact (pe_callB (CallR.or' (call_max2 G.calm) (cr_max2D G.calm G.un)) g m b_max pa (he := e0) (hpl := e1)).imp fun σ H Q q => op2_read rs_max2 q
  · obtain ⟨rfl, g, m⟩ := G.built (show c.built f "min" = true from h)
    exact (pe_callB (CallR.or' (call_min2 G.calm) (cr_min2D G.calm G.un)) g m b_min pa (he := e0) (hpl := e1)).imp fun σ H Q q => op2_read rs_min2 q
  · unfold fn2B at h
    simp only [Bool.and_eq_true, decide_eq_true_eq] at h
    obtain ⟨⟨rfl, g⟩, m⟩ := h
    exact (pe_callBfun cr_gcd (G.glob g).1 (G.gcd m) pa (he := e0) (hpl := e1)).imp fun σ H Q q => op2_read rs_gcd q
theorem isa_ok (G : Good gl cf c X) {o : Op} {a : E} {t : Str} {p2 : Pos} (h1 : c.built f "isinstance" = true) (h2 : (match isa o with | some g => c.built t g | none => false) = true) (hs : noStar x = true) (ha : PE X x (tO X.K gl cf a)) :
    PE X (.Call (.Name f p) [x, .Name t p2] [] pos) (tE X.K gl cf (.op o (.cons a .nil))) := by
  obtain ⟨rfl, g, m⟩ := G.built h1
  have e0 : starEach [x, .Name t p2] X.env = (false, eval x X.env) :: starEach [.Name t p2] X.env := star_cons hs
  cases o <;> first | (cases h2; done) | skip
  all_goals
    obtain ⟨rfl, g2, m2⟩ := G.built h2
  · have pa : PA X [x, .Name "int" p2] (tCons (tO X.K gl cf a) (tCons (tC (.ty "int")) tNil)) := pa_cons ha (pa_cons (pe_bltn g2 m2 b_int rfl) pa_nil) e0
    exact (pe_callB call_isi g m b_isinstance pa (he := e0)).imp fun σ H Q q => op1_read rs_isI q
  · have pa : PA X [x, .Name "bool" p2] (tCons (tO X.K gl cf a) (tCons (tC (.ty "bool")) tNil)) := pa_cons ha (pa_cons (pe_bltn g2 m2 b_bool rfl) pa_nil) e0
    exact (pe_callB call_isi g m b_isinstance pa (he := e0)).imp fun σ H Q q => op1_read rs_isB q
  · have pa : PA X [x, .Name "str" p2] (tCons (tO X.K gl cf a) (tCons (tC (.ty "str")) tNil)) := pa_cons ha (pa_cons (pe_bltn g2 m2 b_str rfl) pa_nil) e0
    exact (pe_callB call_isi g m b_isinstance pa (he := e0)).imp fun σ H Q q => op1_read rs_isS q
  · have pa : PA X [x, .Name "tuple" p2] (tCons (tO X.K gl cf a) (tCons (tC (.ty "tuple")) tNil)) := pa_cons ha (pa_cons (pe_bltn g2 m2 b_tuple rfl) pa_nil) e0
    exact (pe_callB call_isi g m b_isinstance pa (he := e0)).imp fun σ H Q q => op1_read rs_isT q
end
section
variable {gl : Nat → D} {cf : Nat → List Sl → Option (Rv × List Sl)}
def tEsP (K : PySem.W.Frag) (gl : Nat → D) (cf : Nat → List Sl → Option (Rv × List Sl)) (P : List D → Prop) (es : Es) : TA := fun σ H Q => ∃ (F Z : Addr → Prop) (env : Env') (ds : List D) (env' : Env'), ERel K F Z H env σ ∧ evEs gl cf es env = some (ds, env') ∧ P ds ∧
  ∀ (vs : List V) (H' : Hp) (F' Z' : Addr → Prop), (∀ a, F a → F' a) → (∀ a, Z a → Z' a) → Stay (fun a => F a ∨ Z a) H H' → ERel K F' Z' H' env' σ → RepBs K F' Z' H' ds vs → (es.hasB = false → Z' = Z ∧ Reps K F' H' ds vs) → Q vs H'
/-- the first of the operands, with what is known of all -/
theorem tEsP_cons {K : PySem.W.Frag} {σ : L2.St} {H : Hp} {P : List D → Prop} {e : E} {es : Es} {R : List V → Hp → Prop} (h : tEsP K gl cf P (.cons e es) σ H R) :
    tO K gl cf e σ H fun x H1 => ∃ d, (∃ ds, P (d :: ds)) ∧ (∃ F Z, RepB K F Z H1 d x) ∧ tEsP K gl cf (fun ds => P (d :: ds)) es σ H1 fun xs H2 => R (x :: xs) H2 := by
  obtain ⟨F, Z, env, ds, env', r, ev, p, k⟩ := h
  by_cases hb : ∃ i, e = .brw i
  · obtain ⟨i, rfl⟩ := hb
    have lent : ∀ (s : Sl) (m : Mo) (ds' : List D), env[i]? = some s → s.own = some m → evEs gl cf es (env.set i (.brw m)) = some (ds', env') → ds = m.d :: ds' →
        tO K gl cf (.brw i) σ H fun x H1 => ∃ d, (∃ ds, P (d :: ds)) ∧ (∃ F Z, RepB K F Z H1 d x) ∧ tEsP K gl cf (fun ds => P (d :: ds)) es σ H1 fun xs H2 => R (x :: xs) H2 := fun s m ds' hs ho h2 e => by
      subst e
      obtain ⟨a, h1, hm, r1⟩ := r.lend hs ho
      refine ⟨.ref a, h1, m.d, ⟨_, p⟩, ⟨F, plus Z a, .inr ⟨a, m, rfl, rfl, .inr rfl, hm⟩⟩, F, plus Z a, _, ds', env', r1, h2, p, fun vs H' F' Z' f z st r2 rs hb => ?_⟩
      refine k _ H' F' Z' f (fun b hz => z b (.inl hz)) (st.mono fun b q => q.imp_right .inl) r2 (.cons (.inr ⟨a, m, rfl, rfl, z a (.inr rfl), ?_⟩) rs) (fun z => absurd z (by simp [Es.hasB]))
      exact hm.stay (st.mono fun _ => .inl) f (st.kp a (.inr (.inr rfl)))
    unfold evEs at ev
    split at ev
    · rename_i d hs
      obtain ⟨⟨ds', e2⟩, h2, ev⟩ := Option.bind_eq_some_iff.mp ev
      cases ev
      obtain ⟨v, h1, hv⟩ := r.val i d hs
      refine ⟨v, h1, d, ⟨_, p⟩, ⟨F, Z, .inl hv⟩, F, Z, env, ds', _, r, h2, p, fun vs H' F' Z' f z st r2 rs hb => ?_⟩
      exact k _ H' F' Z' f z st r2 (.cons (.inl (hv.stay (st.mono fun _ => .inl) f)) rs) (fun z => absurd z (by simp [Es.hasB]))
    · rename_i m hs
      obtain ⟨⟨ds', e2⟩, h2, ev⟩ := Option.bind_eq_some_iff.mp ev
      cases ev
      exact lent _ m ds' hs rfl h2 rfl
    · rename_i m hs
      obtain ⟨⟨ds', e2⟩, h2, ev⟩ := Option.bind_eq_some_iff.mp ev
      cases ev
      exact lent _ m ds' hs rfl h2 rfl
    · rename_i m hs
      obtain ⟨⟨ds', e2⟩, h2, ev⟩ := Option.bind_eq_some_iff.mp ev
      cases ev
      obtain ⟨a, h1, za, hm⟩ := r.brw i m hs
      refine ⟨.ref a, h1, m.d, ⟨_, p⟩, ⟨F, Z, .inr ⟨a, m, rfl, rfl, za, hm⟩⟩, F, Z, env, ds', _, r, h2, p, fun vs H' F' Z' f z st r2 rs hb => ?_⟩
      exact k _ H' F' Z' f z st r2 (.cons (.inr ⟨a, m, rfl, rfl, z a za, hm.stay (st.mono fun _ => .inl) f (st.kp a (.inr za))⟩) rs) (fun z => absurd z (by simp [Es.hasB]))
    · cases ev
  · rw [evEs.eq_3 _ _ _ _ _ (fun i z => hb ⟨i, z⟩)] at ev
    obtain ⟨⟨rv, e1⟩, h1, ev⟩ := Option.bind_eq_some_iff.mp ev
    obtain ⟨⟨ds', e2⟩, h2, ev⟩ := Option.bind_eq_some_iff.mp ev
    cases ev
    rw [tO_of fun i z => hb ⟨i, z⟩]
    refine ⟨F, Z, env, rv, e1, r, h1, fun v H1 F1 f1 st1 r1 q1 => ?_⟩
    obtain ⟨F2, f2, r2, q2⟩ := q1.frz r1
    refine ⟨frz rv, ⟨_, p⟩, ⟨F2, Z, .inl q2⟩, F2, Z, e1, ds', _, r2, h2, p, fun vs H' F' Z' f z st r3 rs hb' => ?_⟩
    have qv := q2.stay (st.mono fun _ => .inl) f
    refine k _ H' F' Z' (fun a h => f a (f2 a (f1 a h))) z (sub_stay st1 st (fun a h => f2 a (f1 a h)) fun _ h => h) r3 (.cons (.inl qv) rs) (fun z => ?_)
    have eb : es.hasB = false := by cases e <;> first | exact absurd ⟨_, rfl⟩ hb | exact z
    exact ⟨(hb' eb).1, .cons qv (hb' eb).2⟩
end
section
variable {X : Cx} {c : Cc} {gl : Nat → D} {cf : Nat → List Sl → Option (Rv × List Sl)} {σ : L2.St} {H : Hp}
variable {x y z : Expr} {p pos : Pos} {f : Str}
/-! set(xs), xs.count(x), xs.index(x) -/
theorem tEsP_drop {K : PySem.W.Frag} {P : List D → Prop} {es : Es} {R : List V → Hp → Prop} (h : tEsP K gl cf P es σ H R) : tEs K gl cf es σ H R := by
  obtain ⟨F, Z, env, ds, env', r, ev, p, k⟩ := h
  exact ⟨F, Z, env, ds, env', r, ev, k⟩
/-- a method that changes nothing: its list, its argument -/
theorem mth2_read {K : PySem.W.Frag} {Q : VK} {o : Op} {a b : E} {r : V → List V → Hp → VK → Prop} (hr : RS2 K o fun x y H Q => r x [y] H Q) (hP : ∀ u v rv, op2 o u v = some rv → ∃ xs, u = .list xs) (h : tE K gl cf (.op o (.cons a (.cons b .nil))) σ H Q) :
    tBM K "list" r (tO K gl cf a) (tEs K gl cf (.cons b .nil)) σ H Q := by
  obtain ⟨F, Z, env, rv, env', r0, ev, k⟩ := h
  unfold evE at ev
  obtain ⟨⟨ds, e1⟩, h1, ev⟩ := Option.bind_eq_some_iff.mp ev
  obtain ⟨rv', h2, ev⟩ := Option.bind_eq_some_iff.mp ev
  cases ev
  have t0 : tEsP K gl cf (fun ds => ∃ xs y, ds = [.list xs, y]) (.cons a (.cons b .nil)) σ H fun vs H1 => OpEnd K o vs H1 Q := by
    refine ⟨F, Z, env, ds, e1, r0, h1, ?_, fun vs H1 F1 Z1 f z st r1 rs hb => ?_⟩
    · have hl := evEs_count h1
      match ds, hl, h2 with
      | [x, y], _, h2 =>
        obtain ⟨xs, rfl⟩ := hP x y rv h2
        exact ⟨xs, y, rfl⟩
    · refine ⟨F1, Z1, ds, rv, r1.fd, rs, h2, fun v H2 sm ro => ?_⟩
      have r2 := r1.same sm
      have q2 := ro_rv r1 ro
      have st2 : Stay (fun a => F a ∨ Z a) H H2 := st.trans (.same sm fun a h => h.elim (fun h => r1.fd a (f a h)) fun h => r1.zd a (z a h))
      split at k
      · exact k v H2 F1 f st2 (r0.back r2 z) (q2.back r0 r2 z)
      · rename_i hb'
        have e : Z1 = Z := (hb (by simpa using hb')).1
        subst e
        exact k v H2 F1 f st2 r2 q2
  refine tO_mono (fun x H1 w => ?_) (tEsP_cons t0)
  obtain ⟨d1, ⟨ds1, xs, y, e1⟩, ⟨F1, Z1, q1⟩, t1⟩ := w
  cases e1
  obtain ⟨a1, vs1, rfl, hl1, _⟩ := q1.list
  refine ⟨.inl ⟨rfl, _, SqL.of hl1⟩, ?_⟩
  obtain ⟨F, Z, env, ds, env', r, ev, p, k⟩ := t1
  refine ⟨F, Z, env, ds, env', r, ev, fun vs H' F' Z' f z st r2 rs hb => ?_⟩
  obtain ⟨F3, Z3, ds3, rv3, fd, rs3, ho, q⟩ := k vs H' F' Z' f z st r2 rs hb
  have hl := evEs_count ev
  have hl2 := rs.length
  match vs, ds, hl, hl2, rs3 with
  | [y'], [_], _, _, .cons r1 (.cons r2 .nil) => exact hr F3 Z3 H' _ _ _ _ rv3 Q fd r1 r2 ho q
theorem rs_count {K : PySem.W.Frag} : RS2 K .count fun x y H Q => rCntI K x [y] H Q := by
  intro F Z H d e x y rv Q hF rx ry h q
  have h : countf d e = some rv := h
  unfold countf at h
  split at h
  · obtain ⟨ns, h1, h2⟩ := Option.map_eq_some_iff.mp h
    subst h2
    obtain ⟨a, vs, rfl, hl, rs⟩ := rx.list
    cases ry.int
    have ev := reps_ints h1 rs
    subst ev
    exact ⟨a, ns, _, rfl, rfl, SqL.of hl, ro_val q (.int _)⟩
  · cases h
theorem rs_index {K : PySem.W.Frag} : RS2 K .index fun x y H Q => rIndexD K x [y] H Q := by
  intro F Z H d e x y rv Q hF rx ry h q
  have h : indexf d e = some rv := h
  unfold indexf at h
  split at h
  · rename_i ds a
    split at h
    · rename_i hs
      obtain ⟨j, h1, h2⟩ := Option.map_eq_some_iff.mp h
      subst h2
      have dx := rx.dp (shaped_lay hs.2)
      have dy := ry.dp (shaped_lay hs.1)
      obtain ⟨a', vs, rfl, hl, rs⟩ := rx.list
      obtain ⟨hj, hp, hno⟩ := List.findIdx?_eq_some_iff_getElem.mp h1
      refine ⟨a', y, _, ds, j, ds[j], rfl, rfl, dx, dy, hs.2, hs.1, List.getElem?_eq_getElem hj, hp, fun m z hm hz => ?_, ro_val q (.int _)⟩
      obtain ⟨hm', e⟩ := List.getElem?_eq_some_iff.mp hz
      subst e
      simpa using hno m hm
    · cases h
  · cases h
theorem b_set : bootBuiltins "set" = some (.type "set") := by decide +kernel
theorem mt2_ok (G : Good gl cf c X) {o : Op} {a b : E} {x y : Expr} {n : Str} {ap cp : Pos} (h : mt2B o n = true) (h2 : (ap.endLine == cp.line) = true) (hbase : ∀ nm, attributeBase x nm X.env (eval x X.env) = eval x X.env) (hs : noStar y = true) (ha : PE X x (tO X.K gl cf a)) (hb : PA X [y] (tEs X.K gl cf (.cons b .nil))) :
    PE X (.Call (.Attribute x n ap) [y] [] cp) (tE X.K gl cf (.op o (.cons a (.cons b .nil)))) := by
  have e0 : starEach [y] X.env = (false, eval y X.env) :: starEach [] X.env := star_cons hs
  have few : ((backTo cp (starEach [y] X.env)).all (fun x => !x.1) && (backToKw cp (keywordEach [] X.env)).all (fun x => x.1.isSome) && decide (([y] : List Expr).length + ([] : List Keyword).length + (if ([] : List Keyword).isEmpty then 0 else 1) < 30)) = true := by
    rw [e0]; rfl
  have ul : ∀ u v rv, op2 .count u v = some rv → ∃ xs, u = .list xs := fun u v rv hh => by
    have hh : countf u v = some rv := hh
    unfold countf at hh
    split at hh
    · exact ⟨_, rfl⟩
    · cases hh
  have ul2 : ∀ u v rv, op2 .index u v = some rv → ∃ xs, u = .list xs := fun u v rv hh => by
    have hh : indexf u v = some rv := hh
    unfold indexf at hh
    split at hh
    · exact ⟨_, rfl⟩
    · cases hh
  cases o <;> first | (cases h; done) | skip
  · have e : n = _ := of_decide_eq_true h
    subst e
    exact (pe_bm PySem.F.plainAttrs_list PySem.F.slot_list_count PySem.F.type_list_count mt_lcount ha hb (hbase _) few h2 e0 rfl).imp fun σ H Q q => mth2_read rs_count ul q
  · have e : n = _ := of_decide_eq_true h
    subst e
    exact (pe_bm PySem.F.plainAttrs_list PySem.F.slot_list_index PySem.F.type_list_index (mt_indexD G.un) ha hb (hbase _) few h2 e0 rfl).imp fun σ H Q q => mth2_read rs_index ul2 q
theorem rs_lenset {K : PySem.W.Frag} : RS1 K .lenset (fun x H Q => ∃ (l : Addr) (ns : List Int), x = .ref l ∧ (SqL K H l (ns.map V.int) ∨ SqT K H l (ns.map V.int)) ∧ ns.length ≤ 4000 ∧ Q (.int ((setI ns).length : Nat)) H) := by
  intro F Z H d x rv Q hF rx h q
  have h : lensetf d = some rv := h
  unfold lensetf at h
  obtain ⟨ds, h0, h⟩ := Option.bind_eq_some_iff.mp h
  · obtain ⟨ns, h1, h2⟩ := Option.bind_eq_some_iff.mp h
    split at h2
    · rename_i hl
      cases h2
      obtain ⟨a, vs, rfl, hv, rs⟩ := rx.seq h0
      have ev := reps_ints h1 rs
      subst ev
      exact ⟨a, ns, rfl, hv, hl, ro_val q (.int _)⟩
    · cases h2
theorem reps_rows {F : Addr → Prop} {H : Hp} {K : PySem.W.Frag} : ∀ {ds : List D} {rs : List (List Int)} {vs : List V}, rows? ds = some rs → Reps K F H ds vs → ∃ ks : List (Addr × List Int), vs = ks.map (fun p => V.ref p.1) ∧ rs = ks.map (·.2) ∧ ∀ p ∈ ks, SqT K H p.1 (p.2.map V.int)
  | [], rs, _, h, .nil => by cases h; exact ⟨[], rfl, rfl, by simp⟩
  | .tuple xs :: r, rs, _, h, .cons q t => by
    unfold rows? at h
    obtain ⟨ns, h1, h2⟩ := Option.bind_eq_some_iff.mp h
    obtain ⟨t', h3, h4⟩ := Option.map_eq_some_iff.mp h2
    subst h4
    obtain ⟨ks, e1, e2, e3⟩ := reps_rows h3 t
    obtain ⟨a, vs, rfl, hs, hr⟩ := q.tuple
    have ev := reps_ints h1 hr
    subst ev
    refine ⟨(a, ns) :: ks, by rw [e1]; rfl, by rw [e2]; rfl, fun p hp => ?_⟩
    rcases List.mem_cons.mp hp with rfl | hp
    · exact hs
    · exact e3 p hp
  | .none :: _, _, _, h, _ => by cases h
  | .bool _ :: _, _, _, h, _ => by cases h
  | .int _ :: _, _, _, h, _ => by cases h
  | .str _ :: _, _, _, h, _ => by cases h
  | .list _ :: _, _, _, h, _ => by cases h
  | .dict _ :: _, _, _, h, _ => by cases h
theorem reps_of_rows {F : Addr → Prop} {H : Hp} {K : PySem.W.Frag} (hF : ∀ (p : Addr × List Int), SqT K H p.1 (p.2.map V.int) → Rep K F H (.tuple (p.2.map .int)) (.ref p.1)) : ∀ {L : List (Addr × List Int)}, (∀ p ∈ L, SqT K H p.1 (p.2.map V.int)) → Reps K F H ((L.map (·.2)).map fun r => .tuple (r.map .int)) (L.map fun q => V.ref q.1)
  | [], _ => .nil
  | p :: r, h => .cons (hF p (h p List.mem_cons_self)) (reps_of_rows hF fun q hq => h q (List.mem_cons_of_mem _ hq))
theorem rs_sortset {K : PySem.W.Frag} : RS1 K .sortset (fun x H Q => rSortSetB K x H Q) := by
  intro F Z H d x rv Q hF rx h q
  have h : sortsetf d = some rv := h
  unfold sortsetf at h
  split at h
  · rename_i rv' e
    cases h
    have h := e
    unfold intsetf at h
    obtain ⟨ds, h0, h⟩ := Option.bind_eq_some_iff.mp h
    obtain ⟨ns, h1, h2⟩ := Option.bind_eq_some_iff.mp h
    split at h2
    · rename_i hl
      cases h2
      obtain ⟨a, vs, rfl, hv, rs⟩ := rx.seq h0
      have ev := reps_ints h1 rs
      subst ev
      exact .inl ⟨a, ns, rfl, hv, hl, fun p np => ro_lst q hF (Reps.ints _) np⟩
    · cases h2
  · unfold rowsetf at h
    split at h
    · rename_i ds
      obtain ⟨rs, h1, h2⟩ := Option.bind_eq_some_iff.mp h
      split at h2
      · rename_i hl
        cases h2
        obtain ⟨a, vs, rfl, hv, rr⟩ := rx.list
        obtain ⟨ks, rfl, rfl, hk⟩ := reps_rows h1 rr
        obtain ⟨hl1, hl2⟩ := hl
        refine .inr ⟨a, ks, rfl, .of hv, hk, by simpa using hl1, fun p hp e => ?_, fun L b eL hL nb => ?_⟩
        · have := List.all_eq_true.mp hl2 p.2 (List.mem_map.mpr ⟨p, hp, rfl⟩)
          rw [e] at this; cases this
        · rw [← eL] at q
          exact ro_lst q hF (reps_of_rows (fun p hp => .tup hp (Reps.ints _)) fun p hp => hk p (hL p hp)) nb
      · cases h2
    · cases h
/-! slices -/
variable {K : PySem.W.Frag} {Q : VK}
theorem slc_end {lo hi : Bool} {vs : List V} (h : OpEnd K (.slc lo hi) vs H Q) : (lo = false ∧ hi = false → ∀ v, vs = [v] → rSl3 K v none none H Q) ∧ (lo = true ∧ hi = false → ∀ v w, vs = [v, w] → ∃ i, w = .int i ∧ rSl3 K v (some i) none H Q) ∧
    (lo = false ∧ hi = true → ∀ v w, vs = [v, w] → ∃ i, w = .int i ∧ rSl3 K v none (some i) H Q) ∧ (lo = true ∧ hi = true → ∀ v w u, vs = [v, w, u] → ∃ i j, w = .int i ∧ u = .int j ∧ rSl3 K v (some i) (some j) H Q) := by
  obtain ⟨F, Z, ds, rv, fd, rs, ho, q⟩ := h
  refine ⟨fun ⟨e1, e2⟩ v ev => ?_, fun ⟨e1, e2⟩ v w ev => ?_, fun ⟨e1, e2⟩ v w ev => ?_, fun ⟨e1, e2⟩ v w u ev => ?_⟩
  · subst e1 e2 ev
    cases rs with
    | cons r1 t =>
      cases t
      exact rs_slc fd r1 ho q
  · subst e1 e2 ev
    cases rs with
    | cons r1 t =>
      cases t with
      | cons r2 t =>
        cases t
        have ho : slc1 true _ _ = some rv := ho
        unfold slc1 at ho
        split at ho
        · cases r2.int
          exact ⟨_, rfl, rs_slc fd r1 ho q⟩
        · cases ho
  · subst e1 e2 ev
    cases rs with
    | cons r1 t =>
      cases t with
      | cons r2 t =>
        cases t
        have ho : slc1 false _ _ = some rv := ho
        unfold slc1 at ho
        split at ho
        · cases r2.int
          exact ⟨_, rfl, rs_slc fd r1 ho q⟩
        · cases ho
  · subst e1 e2 ev
    cases rs with
    | cons r1 t =>
      cases t with
      | cons r2 t =>
        cases t with
        | cons r3 t =>
          cases t
          have ho : slc2 _ _ _ = some rv := ho
          unfold slc2 at ho
          split at ho
          · cases r2.int
            cases r3.int
            exact ⟨_, _, rfl, rfl, rs_slc fd r1 ho q⟩
          · cases ho
theorem item_ok {b : Expr} (h : noSlice b = true) : PlainIx b := by
  intro o i
  cases b <;> first | rfl | cases h
theorem setless {iter : Expr} {env : Env} (h : noSet iter = true) (v : Value) : foldedSetIterable iter env v = pure v := by
  cases iter <;> first | rfl | cases h
end
end Pv

namespace Pv
open PySem PySem.Spec PyProof.Rows L2
section
variable {gl : Nat → D} {cf : Nat → List Sl → Option (Rv × List Sl)}
theorem plain_pt {X : Cx} {x : Expr} {t : TE} (h : PE X x t) (hn : ∀ op vs p, x ≠ .BoolOp op vs p) (hc : ∀ l o r p, x ≠ .Compare l o r p) (hi : ∀ a b c p, x ≠ .IfExp a b c p) (hu : ∀ a p, x ≠ .UnaryOp .Not a p) : PT X x (tB t) := by
  refine pt_val h fun whole => ?_
  cases x with
  | BoolOp op vs p => exact absurd rfl (hn _ _ _)
  | Compare l o r p => exact absurd rfl (hc _ _ _ _)
  | IfExp a b c p => exact absurd rfl (hi _ _ _ _)
  | UnaryOp u a p => cases u <;> first | rfl | exact absurd rfl (hu _ _)
  | _ => rfl
/-- a plain expression that is no test of its own -/
theorem Good.blk {c : Cc} {X : Cx} (G : Good gl cf c X) (scope : Scope) (s : Shared) (H : Hp) (C : Addr) (cl : List (Str × Addr)) (fp : List Addr) : Good gl cf (c.blk scope) (X.blk s H scope (compEnvC scope cl C X.env) fp) := by
  refine ⟨G.calm, G.nm, G.nd, ?_, fun x h => h, rfl, G.un, G.fns, G.gls, G.blt, G.gcd⟩
  show relabel scope X.env = relS scope c.sc
  rw [← G.sc]; rfl
theorem sO {c : Cc} {X : Cx} {e : E} {x : Expr} (G : Good gl cf c X) (h : mE c e x = true) (hE : PE X x (tE X.K gl cf e)) : PE X x (tO X.K gl cf e) := by
  cases e with
  | brw i =>
    cases x with
    | Name x p => exact G.var (by unfold mE at h; exact h)
    | _ => unfold mE at h; cases h
  | _ => exact hE
theorem sP {c : Cc} {X : Cx} {e : E} {x : Expr} (G : Good gl cf c X) (h : mE c e x = true) (hE : PE X x (tE X.K gl cf e)) : PE X x (tP X.K gl cf e) := by
  cases e with
  | brw i =>
    cases x with
    | Name x p => exact G.var (by unfold mE at h; exact h)
    | _ => unfold mE at h; cases h
  | mov i =>
    cases x with
    | Name x p => exact G.var (by unfold mE at h; exact h)
    | _ => unfold mE at h; cases h
  | _ => exact hE
theorem var_read {K : PySem.W.Frag} {σ : L2.St} {H : Hp} {Q : VK} {i : Nat} (h : tE K gl cf (.var i) σ H Q) : tVar i σ H Q := by
  obtain ⟨F, Z, env, rv, env', r, ev, k⟩ := h
  unfold evE at ev
  split at ev
  · rename_i d hs
    cases ev
    obtain ⟨v, h1, hv⟩ := r.val i d hs
    exact ⟨v, h1, k v H F (fun _ h => h) .refl r hv⟩
  · rename_i m hs
    cases ev
    obtain ⟨a, h1, hm, o, r1⟩ := r.take hs rfl rfl
    have r2 := r1.freeze o hm.dom
    have q : Rep K (plus F a) H m.d (.ref a) := (hm.grow fun _ => .inl).rep (.inr rfl)
    have r3 := r2.put_val h1 q
    rw [List.set_set] at r3
    exact ⟨.ref a, h1, k _ H _ (fun _ => .inl) .refl r3 q⟩
  · cases ev
theorem mov_read {K : PySem.W.Frag} {σ : L2.St} {H : Hp} {Q : VK} {i : Nat} (h : tE K gl cf (.mov i) σ H Q) : tVar i σ H Q := by
  obtain ⟨F, Z, env, rv, env', r, ev, k⟩ := h
  unfold evE at ev
  split at ev
  · rename_i m hs
    cases ev
    obtain ⟨a, h1, hm, o, r1⟩ := r.take hs rfl rfl
    exact ⟨.ref a, h1, k _ H F (fun _ h => h) .refl r1 ⟨a, rfl, o, hm⟩⟩
  · cases ev
theorem brw_read {K : PySem.W.Frag} {σ : L2.St} {H : Hp} {Q : VK} {i : Nat} (h : tE K gl cf (.brw i) σ H Q) : tVar i σ H Q := by
  obtain ⟨F, Z, env, rv, env', r, ev, k⟩ := h
  unfold evE at ev
  cases ev
theorem cst_pe {X : Cx} {d : D} {k : Const} {n : Nat} {p : Pos} (h : cstB d k = true) : PE X (.Constant k n p) (tE X.K gl cf (.cst d)) := by
  have go : ∀ {σ H Q v}, (∀ F, Rep X.K F H d v) → tE X.K gl cf (.cst d) σ H Q → Q v H := fun {σ H Q v} hv h => by
    obtain ⟨F, Z, env, rv, env', r, ev, k⟩ := h
    unfold evE at ev
    cases ev
    exact k v H F (fun _ h => h) .refl r (hv F)
  unfold cstB at h
  split at h
  · exact pe_non.imp fun σ H Q q => go (fun _ => .non) q
  · have e := eq_of_beq h
    subst e
    exact pe_bl.imp fun σ H Q q => go (fun _ => .bl _) q
  · have e := of_decide_eq_true h
    subst e
    exact pe_int.imp fun σ H Q q => go (fun _ => .int _) q
  · have e := of_decide_eq_true h
    subst e
    exact pe_str.imp fun σ H Q q => go (fun _ => .str _) q
  · cases h
theorem glb_pe {c : Cc} {X : Cx} {g : Nat} {x : Str} {p : Pos} (G : Good gl cf c X) (h : (decide (c.gls[g]? = some x) && c.glob x) = true) : PE X (.Name x p) (tE X.K gl cf (.glb g)) := by
  simp only [Bool.and_eq_true, decide_eq_true_eq] at h
  obtain ⟨u, v, h1, h2, h3⟩ := G.gls g x h.1
  refine (pe_glob (G.glob h.2).1 h1 h2 (G.glob h.2).2).imp fun σ H Q q => ?_
  obtain ⟨F, Z, env, rv, env', r, ev, k⟩ := q
  unfold evE at ev
  cases ev
  exact k v H F (fun _ h => h) .refl r (h3 F H)
/-- x[lo:hi] -/
theorem slc3_read {K : PySem.W.Frag} {σ : L2.St} {H : Hp} {Q : VK} {a b d : E} (h : tE K gl cf (.op (.slc true true) (.cons a (.cons b (.cons d .nil)))) σ H Q) :
    tO K gl cf a σ H fun x H1 => tO K gl cf b σ H1 fun y H2 => ∃ i, y = .int i ∧ tO K gl cf d σ H2 fun z H3 => ∃ j, z = .int j ∧ rSl3 K x (some i) (some j) H3 Q := by
  obtain ⟨F, Z, env, rv, env', r, ev, k⟩ := h
  unfold evE at ev
  obtain ⟨⟨ds, e1⟩, h1, ev⟩ := Option.bind_eq_some_iff.mp ev
  obtain ⟨rv', h2, ev⟩ := Option.bind_eq_some_iff.mp ev
  cases ev
  have t0 : tEsP K gl cf (fun ds => ∃ x i j, ds = [x, .int i, .int j]) (.cons a (.cons b (.cons d .nil))) σ H fun vs H1 => OpEnd K (.slc true true) vs H1 Q := by
    refine ⟨F, Z, env, ds, e1, r, h1, ?_, fun vs H1 F1 Z1 f z st r1 rs hb => ?_⟩
    · have hl := evEs_count h1
      match ds, hl, h2 with
      | [x, y, z], _, h2 =>
        have h2 : slc2 x y z = some rv := h2
        unfold slc2 at h2
        split at h2
        · exact ⟨_, _, _, rfl⟩
        · cases h2
    · refine ⟨F1, Z1, ds, rv, r1.fd, rs, h2, fun v H2 sm ro => ?_⟩
      have r2 := r1.same sm
      have q2 := ro_rv r1 ro
      have st2 : Stay (fun a => F a ∨ Z a) H H2 := st.trans (.same sm fun a h => h.elim (fun h => r1.fd a (f a h)) fun h => r1.zd a (z a h))
      split at k
      · exact k v H2 F1 f st2 (r.back r2 z) (q2.back r r2 z)
      · rename_i hb'
        have e : Z1 = Z := (hb (by simpa using hb')).1
        subst e
        exact k v H2 F1 f st2 r2 q2
  refine tO_mono (fun x H1 w => ?_) (tEsP_cons t0)
  obtain ⟨d1, _, _, t1⟩ := w
  refine tO_mono (fun y H2 w => ?_) (tEsP_cons t1)
  obtain ⟨d2, ⟨_, _, i, _, e2⟩, ⟨_, _, q2⟩, t2⟩ := w
  cases e2
  refine ⟨i, q2.int, ?_⟩
  refine tO_mono (fun z H3 w => ?_) (tEsP_cons t2)
  obtain ⟨d3, ⟨_, _, _, j, e3⟩, ⟨_, _, q3⟩, F, Z, env, ds, env', r, ev, p, k⟩ := w
  cases e3
  unfold evEs at ev
  cases ev
  have w := k [] H3 F Z (fun _ h => h) (fun _ h => h) .refl r .nil fun _ => ⟨rfl, .nil⟩
  obtain ⟨i', j', e1, e2, w⟩ := (slc_end w).2.2.2 ⟨rfl, rfl⟩ x y z rfl
  refine ⟨j, q3.int, ?_⟩
  have ei := q2.int.symm.trans e1
  have ej := q3.int.symm.trans e2
  cases ei; cases ej
  exact w
theorem b_range : bootBuiltins "range" = some (.type "range") := by decide +kernel
/-- what the check gives of expressions below a size -/
structure Snd (gl : Nat → D) (cf : Nat → List Sl → Option (Rv × List Sl)) (n : Nat) : Prop where
  e : ∀ (e : E) (c : Cc) (X : Cx) (x : Expr), sizeOf e < n → Good gl cf c X → mE c e x = true → PE X x (tE X.K gl cf e)
  t : ∀ (e : E) (c : Cc) (X : Cx) (x : Expr), sizeOf e < n → Good gl cf c X → mE c e x = true → PT X x (tB (tE X.K gl cf e))
  w : ∀ (e : E) (c : Cc) (X : Cx) (op : BoolOp) (xs : List Expr) (p : Pos), sizeOf e < n → Good gl cf c X → mE c e (.BoolOp op xs p) = true → PW X (.BoolOp op xs p) (tB (tE X.K gl cf e))
  a : ∀ (es : Es) (c : Cc) (X : Cx) (xs : List Expr), sizeOf es < n → Good gl cf c X → mEs c es xs = true → PA X xs (tEs X.K gl cf es) ∧ PA X xs (tAs X.K gl cf es)
  i : ∀ (it : It) (c : Cc) (X : Cx) (x tg : Expr), sizeOf it < n → Good gl cf c X → mI c it x = true → PI X tg x (tI X.K gl cf it)
theorem pe_if2 {r : List Expr} {b : E} {y : Expr} {c : Cc} {X : Cx} {p : Pos} {op : BoolOp} (h : (match r with | [] => mE c b y | z :: r => mE c b (.BoolOp op (y :: z :: r) p)) = true) (hb : ∀ x, mE c b x = true → PE X x (tE X.K gl cf b)) : PE X (.BoolOp op (y :: r) p) (tE X.K gl cf b) := by
  cases r with
  | nil => exact pe_one (hb _ h)
  | cons z r => exact hb _ h
theorem names_pgs {c : Cc} {X : Cx} (G : Good gl cf c X) : ∀ {is : List Nat} {es : List Expr}, mNames c is es = true → PGs X es (gAll is) ∧ (assignEach es X.env).length = is.length ∧ (assignEach es X.env).findIdx? (·.1) = none
  | [], [], _ => ⟨pgs_nil, rfl, rfl⟩
  | i :: is, .Name x p :: es, h => by
    unfold mNames at h
    simp only [Bool.and_eq_true] at h
    obtain ⟨h1, h2, h3⟩ := names_pgs G h.2
    obtain ⟨w1, w2, w3⟩ := G.store h.1
    refine ⟨pgs_cons (pg_name G.nd w1 w2 w3) h1, congrArg (· + 1) h2, ?_⟩
    show List.findIdx? _ ((false, assign (.Name x p) X.env) :: assignEach es X.env) = none
    rw [List.findIdx?_cons, h3]; rfl
  | [], _ :: _, h => by cases h
  | _ :: _, [], h => by cases h
  | _ :: _, e :: _, h => by
    cases e <;> first | (cases h; done) | (rename_i x p; unfold mNames at h; simp only [Bool.and_eq_true] at h; obtain ⟨h1, h2, h3⟩ := names_pgs G h.2; obtain ⟨w1, w2, w3⟩ := G.store h.1; refine ⟨pgs_cons (pg_name G.nd w1 w2 w3) h1, congrArg (· + 1) h2, ?_⟩; show List.findIdx? _ ((false, assign (.Name x p) X.env) :: assignEach _ X.env) = none; rw [List.findIdx?_cons, h3]; rfl)
theorem tg_pg {c : Cc} {X : Cx} (G : Good gl cf c X) {tg : Tg} {x : Expr} (h : mTg c tg x = true) : PG X x (tG X.K tg) := by
  unfold mTg at h
  split at h
  · obtain ⟨w1, w2, w3⟩ := G.store h
    exact pg_name G.nd w1 w2 w3
  · obtain ⟨h1, h2, h3⟩ := names_pgs G h
    exact ⟨fun pins s σ H v u Q I r q => q.elim ((pg_tup G.calm h1 h2 h3).run pins s σ H v u Q I r) ((pg_unl G.calm h1 h2 h3).run pins s σ H v u Q I r)⟩
  · cases h
theorem cs_pts {c : Cc} {X : Cx} (G : Good gl cf c X) {cs : Es} {xs : List Expr} (h : mCs c cs xs = true) (hi : ∀ e x, sizeOf e < sizeOf cs → mE c e x = true → PT X x (tB (tE X.K gl cf e))) : PTs X xs (tCs X.K gl cf cs) := by
  unfold mCs at h
  split at h
  · exact pts_nil.imp fun σ H Q q => cs_nil q
  · exact (pts_one (hi _ _ (by simp only [Es.cons.sizeOf_spec]; omega) h)).imp fun σ H Q q => cs_one q
  · cases h
variable {n : Nat}
theorem snd_e (ih : Snd gl cf n) : ∀ (e : E) (c : Cc) (X : Cx) (x : Expr), sizeOf e < n + 1 → Good gl cf c X → mE c e x = true → PE X x (tE X.K gl cf e) := by
  intro e c X x hs G h
  have so : ∀ (e : E) (x : Expr), sizeOf e < n → mE c e x = true → PE X x (tO X.K gl cf e) := fun e x hs h => sO G h (ih.e e c X x hs G h)
  unfold mE at h
  split at h
  · exact cst_pe h
  · exact (G.var h).imp fun σ H Q q => var_read q
  · exact (G.var h).imp fun σ H Q q => brw_read q
  · exact (G.var h).imp fun σ H Q q => mov_read q
  · exact glb_pe G h
  · -- - a
    rename_i o a uo x p
    simp only [Bool.and_eq_true] at h
    obtain ⟨h0, h1⟩ := h
    cases o <;> cases uo <;> first | (cases h0; done) | skip
    simp only [E.op.sizeOf_spec, Es.cons.sizeOf_spec] at hs
    exact (pe_un un_neg (so a x (by omega) h1)).imp fun σ H Q q => op1_read rs_neg q
  · rename_i o a b x bo y p
    simp only [Bool.and_eq_true] at h
    obtain ⟨⟨h0, h1⟩, h2⟩ := h
    simp only [E.op.sizeOf_spec, Es.cons.sizeOf_spec] at hs
    obtain ⟨r, hr, hr2⟩ := bin_ok (X := X) h0
    exact (pe_op hr (so a x (by omega) h1) (so b y (by omega) h2)).imp fun σ H Q q => op2_read hr2 q
  · rename_i o a b x co y p
    simp only [Bool.and_eq_true, Bool.not_eq_true'] at h
    obtain ⟨⟨⟨h0, hm⟩, h1⟩, h2⟩ := h
    simp only [E.op.sizeOf_spec, Es.cons.sizeOf_spec] at hs
    obtain ⟨r, hr, hr2⟩ := cmp_ok G h0
    exact (pe_cmpR hr (so a x (by omega) h1) (so b y (by omega) h2) hm).imp fun σ H Q q => op2_read hr2 q
  · rename_i a b x y p
    simp only [Bool.and_eq_true] at h
    obtain ⟨⟨h0, h1⟩, h2⟩ := h
    simp only [E.op.sizeOf_spec, Es.cons.sizeOf_spec] at hs
    exact (pe_ix ix_seq (so a x (by omega) h1) (so b y (by omega) h2) (item_ok h0)).imp fun σ H Q q => op2_read rs_idx q
  · rename_i a x p2 p
    simp only [E.op.sizeOf_spec, Es.cons.sizeOf_spec] at hs
    exact (pe_slice or_sl (so a x (by omega) h) po_none po_none).imp fun σ H Q q => tO_mono (fun v H1 w => (slc_end w).1 ⟨rfl, rfl⟩ v rfl) (tEs1 (op_read q))
  · rename_i a b x y p2 p
    simp only [Bool.and_eq_true] at h
    simp only [E.op.sizeOf_spec, Es.cons.sizeOf_spec] at hs
    exact (pe_slice or_sl (so a x (by omega) h.1) (po_some (so b y (by omega) h.2)) po_none).imp fun σ H Q q => tO_mono (fun v H1 w => tO_mono (fun u H2 w => (slc_end w).2.1 ⟨rfl, rfl⟩ v u rfl) w) (tEs2 (op_read q))
  · rename_i a b x y p2 p
    simp only [Bool.and_eq_true] at h
    simp only [E.op.sizeOf_spec, Es.cons.sizeOf_spec] at hs
    exact (pe_slice or_sl (so a x (by omega) h.1) po_none (po_some (so b y (by omega) h.2))).imp fun σ H Q q => tO_mono (fun v H1 w => tO_mono (fun u H2 w => (slc_end w).2.2.1 ⟨rfl, rfl⟩ v u rfl) w) (tEs2 (op_read q))
  · rename_i a b d x y z p2 p
    simp only [Bool.and_eq_true] at h
    simp only [E.op.sizeOf_spec, Es.cons.sizeOf_spec] at hs
    exact (pe_slice or_sl (so a x (by omega) h.1.1) (po_some (so b y (by omega) h.1.2)) (po_some (so d z (by omega) h.2))).imp fun σ H Q q => slc3_read q
  · rename_i a x k p1 p2 p3 p
    simp only [E.op.sizeOf_spec, Es.cons.sizeOf_spec] at hs
    exact (pe_revB (so a x (by omega) h)).imp fun σ H Q q => op1_read rs_rev q
  · rename_i a f p1 g p2 x p3 p4
    simp only [Bool.and_eq_true] at h
    simp only [E.op.sizeOf_spec, Es.cons.sizeOf_spec] at hs
    obtain ⟨rfl, gf, mf⟩ := G.built h.1.1.1
    obtain ⟨rfl, gg, mg⟩ := G.built h.1.1.2
    exact (pe_tupRg G.calm gf mf (prg_1 gg mg (so a x (by omega) h.2) (star_cons h.1.2))).imp fun σ H Q q => op1_read rs_tupR1 q
  · rename_i a f p1 g p2 x p3 p4
    simp only [Bool.and_eq_true] at h
    simp only [E.op.sizeOf_spec, Es.cons.sizeOf_spec] at hs
    obtain ⟨rfl, gf, mf⟩ := G.built h.1.1.1
    obtain ⟨rfl, gg, mg⟩ := G.built h.1.1.2
    exact (pe_listRg G.calm gf mf (prg_1 gg mg (so a x (by omega) h.2) (star_cons h.1.2))).imp fun σ H Q q => op1_read rs_lstR1 q
  · rename_i a b f p1 g p2 x y p3 p4
    simp only [Bool.and_eq_true] at h
    simp only [E.op.sizeOf_spec, Es.cons.sizeOf_spec] at hs
    obtain ⟨rfl, gf, mf⟩ := G.built h.1.1.1.1.1
    obtain ⟨rfl, gg, mg⟩ := G.built h.1.1.1.1.2
    exact (pe_tupRg G.calm gf mf (prg_2 gg mg (so a x (by omega) h.1.2) (so b y (by omega) h.2) (star_cons h.1.1.1.2) (star_cons h.1.1.2) (by rw [star_cons h.1.1.2]; rfl))).imp fun σ H Q q => op2_read rs_tupR2 q
  · rename_i a b f p1 g p2 x y p3 p4
    simp only [Bool.and_eq_true] at h
    simp only [E.op.sizeOf_spec, Es.cons.sizeOf_spec] at hs
    obtain ⟨rfl, gf, mf⟩ := G.built h.1.1.1.1.1
    obtain ⟨rfl, gg, mg⟩ := G.built h.1.1.1.1.2
    exact (pe_listRg G.calm gf mf (prg_2 gg mg (so a x (by omega) h.1.2) (so b y (by omega) h.2) (star_cons h.1.1.1.2) (star_cons h.1.1.2) (by rw [star_cons h.1.1.2]; rfl))).imp fun σ H Q q => op2_read rs_lstR2 q
  · rename_i a f p1 g p2 x p3 p4
    simp only [Bool.and_eq_true] at h
    simp only [E.op.sizeOf_spec, Es.cons.sizeOf_spec] at hs
    obtain ⟨rfl, gf, mf⟩ := G.built h.1.1.1
    obtain ⟨rfl, gg, mg⟩ := G.built h.1.1.2
    exact (pe_lenSetA gf mf gg mg (so a x (by omega) h.2) G.calm (star_cons h.1.2)).imp fun σ H Q q => op1_read rs_lenset q
  · rename_i a f p1 g p2 x p3 p4
    simp only [Bool.and_eq_true] at h
    simp only [E.op.sizeOf_spec, Es.cons.sizeOf_spec] at hs
    obtain ⟨rfl, gf, mf⟩ := G.built h.1.1.1
    obtain ⟨rfl, gg, mg⟩ := G.built h.1.1.2
    exact (pe_sortSetB gf mf gg mg (so a x (by omega) h.2) G.calm G.un (star_cons h.1.2)).imp fun σ H Q q => op1_read rs_sortset q
  · rename_i o a f p1 x p n1 n2 n3 n4
    simp only [Bool.and_eq_true] at h
    simp only [E.op.sizeOf_spec, Es.cons.sizeOf_spec] at hs
    exact fn1_ok G h.1.1 h.1.2 (so a x (by omega) h.2)
  · rename_i o a b f p1 x y p
    simp only [Bool.and_eq_true] at h
    simp only [E.op.sizeOf_spec, Es.cons.sizeOf_spec] at hs
    exact fn2_ok G h.1.1.1.1 h.1.1.1.2 h.1.1.2 (so a x (by omega) h.1.2) (so b y (by omega) h.2)
  · rename_i o a f p1 x t p2 p
    simp only [Bool.and_eq_true] at h
    simp only [E.op.sizeOf_spec, Es.cons.sizeOf_spec] at hs
    exact isa_ok G h.1.1.1 h.1.1.2 h.1.2 (so a x (by omega) h.2)
  · rename_i a x p1 n ap cp
    simp only [Bool.and_eq_true, decide_eq_true_eq] at h
    simp only [E.op.sizeOf_spec, Es.cons.sizeOf_spec] at hs
    obtain ⟨⟨rfl, h2⟩, h3⟩ := h
    exact (pe_bits (so a (.Name x p1) (by omega) h3) rfl h2).imp fun σ H Q q => op1_read rs_bits q
  · rename_i o a b x p1 nm ap y cp
    simp only [Bool.and_eq_true] at h
    simp only [E.op.sizeOf_spec, Es.cons.sizeOf_spec] at hs
    obtain ⟨⟨⟨⟨h0, h1⟩, h2⟩, h3⟩, h4⟩ := h
    have hxs : mEs c (.cons b .nil) [y] = true := by unfold mEs; simp only [h2, h4, Bool.and_self, Bool.true_and]; unfold mEs; rfl
    exact mt2_ok G h0 h1 (fun _ => rfl) h2 (so a (.Name x p1) (by omega) h3) (ih.a (.cons b .nil) c X [y] (by simp only [Es.cons.sizeOf_spec]; omega) G hxs).1
  · rename_i es xs k p
    simp only [E.tup.sizeOf_spec] at hs
    exact (pe_tup (ih.a es c X xs (by omega) G h).1).imp fun σ H Q q => tup_read q
  · rename_i es xs p
    simp only [E.lst.sizeOf_spec] at hs
    exact (pe_lst (ih.a es c X xs (by omega) G h).1).imp fun σ H Q q => lst_read q
  · exact pe_dnewK.imp fun σ H Q q => dct_read q
  · rename_i a b x y r p
    simp only [Bool.and_eq_true] at h
    simp only [E.and.sizeOf_spec] at hs
    exact (pe_and (ih.e a c X x (by omega) G h.1) (pe_if2 h.2 fun x hx => ih.e b c X x (by omega) G hx)).imp fun σ H Q q => and_read q
  · rename_i a b x y r p
    simp only [Bool.and_eq_true] at h
    simp only [E.or.sizeOf_spec] at hs
    exact (pe_or (ih.e a c X x (by omega) G h.1) (pe_if2 h.2 fun x hx => ih.e b c X x (by omega) G hx)).imp fun σ H Q q => or_read q
  · rename_i a uo x p
    simp only [Bool.and_eq_true] at h
    simp only [E.not.sizeOf_spec] at hs
    obtain ⟨h0, h1⟩ := h
    cases uo <;> first | (cases h0; done) | skip
    exact (pe_not (ih.e a c X x (by omega) G h1)).imp fun σ H Q q => not_read q
  · rename_i t a b x y z p
    simp only [Bool.and_eq_true] at h
    simp only [E.ife.sizeOf_spec] at hs
    refine (pe_ifExp (ih.t t c X x (by omega) G h.1.1) (ih.e a c X y (by omega) G h.1.2) (ih.e b c X z (by omega) G h.2)).imp fun σ H Q q => ?_
    exact tE_mono (fun v H1 ⟨k, e, w⟩ => ⟨k, e, w⟩) (ife_read q)
  · rename_i o1 o2 a b d x c1 c2 y z p
    simp only [Bool.and_eq_true, Bool.not_eq_true'] at h
    simp only [E.chn.sizeOf_spec] at hs
    obtain ⟨⟨⟨⟨⟨h0, h1⟩, hm⟩, h2⟩, h3⟩, h4⟩ := h
    obtain ⟨r1, hr1, hs1⟩ := cmp_ok G h0
    obtain ⟨r2, hr2, hs2⟩ := cmp_ok G h1
    exact (pe_chain hr1 hr2 (ih.e a c X x (by omega) G h2) (ih.e b c X y (by omega) G h3) (ih.e d c X z (by omega) G h4) hm).imp fun σ H Q q => chn_read hs1 hs2 q
  · rename_i f a es x p1 y ys p
    simp only [Bool.and_eq_true, decide_eq_true_eq] at h
    obtain ⟨⟨⟨⟨h0, h1⟩, h2⟩, h3⟩, h4⟩ := h
    simp only [E.call.sizeOf_spec] at hs
    obtain ⟨k, ad, fd, ps, F, hr, hm, hk, hb⟩ := G.fns f x h0
    have hxs : mEs c (.cons a es) (y :: ys) = true := by unfold mEs; simp only [h2, h3, h4, Bool.and_self]
    have pa := (ih.a (.cons a es) c X (y :: ys) (by omega) G hxs).2
    refine (pe_call F hr (G.glob h1).1 hm hk hb .nil (pass0 (X := X)) pa (G.glob h1).2 (star_cons h2) (back_none (mEs_star h4))).imp fun σ H Q q => ?_
    have q := call_read q
    unfold tCall
    simp only [List.append_nil]
    exact q
  · rename_i f x p1 p
    simp only [Bool.and_eq_true, decide_eq_true_eq] at h
    obtain ⟨k, ad, fd, ps, F, hr, hm, hk, hb⟩ := G.fns f x h.1
    refine (pe_call0 F hr (G.glob h.2).1 hm hk hb .nil (pass0 (X := X)) (G.glob h.2).2).imp fun σ H Q q => ?_
    exact tAs_nil (call_read q)
  · rename_i m i x p1 nm ap cp
    simp only [Bool.and_eq_true] at h
    obtain ⟨⟨h0, h1⟩, h2⟩ := h
    cases m <;> first | (cases h0; done) | skip
    · have e : nm = _ := of_decide_eq_true h0
      subst e
      refine (pe_bm0 PySem.F.plainAttrs_list PySem.F.slot_list_pop PySem.F.type_list_pop mt_pop (G.var h1) rfl h2).imp fun σ H Q q => ?_
      obtain ⟨v, w1, w2, w3⟩ := mth_read rm_pop q
      exact ⟨v, w1, w2, tEs_nil w3⟩
    · have e : nm = _ := of_decide_eq_true h0
      subst e
      refine (pe_bm0 PySem.F.plainAttrs_list PySem.F.slot_list_reverse PySem.F.type_list_reverse mt_reverse (G.var h1) rfl h2).imp fun σ H Q q => ?_
      obtain ⟨v, w1, w2, w3⟩ := mth_read rm_reverse q
      exact ⟨v, w1, w2, tEs_nil w3⟩
  · rename_i m i a x p1 nm ap y cp
    simp only [Bool.and_eq_true] at h
    obtain ⟨⟨⟨⟨h0, h1⟩, h2⟩, h3⟩, h4⟩ := h
    simp only [E.mth.sizeOf_spec] at hs
    have hxs : mEs c (.cons a .nil) [y] = true := by unfold mEs; simp only [h3, h4, Bool.and_self, Bool.true_and]; unfold mEs; rfl
    have pa := (ih.a (.cons a .nil) c X [y] (by omega) G hxs).1
    have e0 : starEach [y] X.env = (false, eval y X.env) :: starEach [] X.env := star_cons h3
    have few : ((backTo cp (starEach [y] X.env)).all (fun x => !x.1) && (backToKw cp (keywordEach [] X.env)).all (fun x => x.1.isSome) && decide (([y] : List Expr).length + ([] : List Keyword).length + (if ([] : List Keyword).isEmpty then 0 else 1) < 30)) = true := by
      rw [back_all (mEs_star hxs)]; rfl
    cases m <;> first | (cases h0; done) | skip
    · have e : nm = _ := of_decide_eq_true h0
      subst e
      exact (pe_bm PySem.F.plainAttrs_list PySem.F.slot_list_append PySem.F.type_list_append mt_append (G.var h1) pa rfl few h2 e0 rfl).imp fun σ H Q q => mth_read rm_append q
    · have e : nm = _ := of_decide_eq_true h0
      subst e
      exact (pe_bm PySem.F.plainAttrs_list PySem.F.slot_list_pop PySem.F.type_list_pop mt_popAt (G.var h1) pa rfl few h2 e0 rfl).imp fun σ H Q q => mth_read rm_popAt q
  · rename_i m i a b x p1 nm ap y z cp
    simp only [Bool.and_eq_true] at h
    obtain ⟨⟨⟨⟨⟨⟨h0, h1⟩, h2⟩, h3⟩, h4⟩, h5⟩, h6⟩ := h
    simp only [E.mth.sizeOf_spec] at hs
    have hx1 : mEs c (.cons b .nil) [z] = true := by unfold mEs; simp only [h4, h6, Bool.and_self, Bool.true_and]; unfold mEs; rfl
    have hxs : mEs c (.cons a (.cons b .nil)) [y, z] = true := by unfold mEs; simp only [h3, h5, hx1, Bool.and_self]
    have pa := (ih.a (.cons a (.cons b .nil)) c X [y, z] (by omega) G hxs).1
    have e0 : starEach [y, z] X.env = (false, eval y X.env) :: starEach [z] X.env := star_cons h3
    have few : ((backTo cp (starEach [y, z] X.env)).all (fun x => !x.1) && (backToKw cp (keywordEach [] X.env)).all (fun x => x.1.isSome) && decide (([y, z] : List Expr).length + ([] : List Keyword).length + (if ([] : List Keyword).isEmpty then 0 else 1) < 30)) = true := by
      rw [back_all (mEs_star hxs)]; rfl
    cases m <;> first | (cases h0; done) | skip
    have e : nm = _ := of_decide_eq_true h0
    subst e
    exact (pe_bm PySem.F.plainAttrs_list PySem.F.slot_list_insert PySem.F.type_list_insert mt_insert (G.var h1) pa rfl few h2 e0 (back_none (mEs_star hx1))).imp fun σ H Q q => mth_read rm_insert q
  · rename_i own tg it cs elt el t i ifs scope p
    simp only [Bool.and_eq_true] at h
    obtain ⟨⟨⟨⟨⟨⟨h0, h1⟩, h2⟩, h3⟩, h4⟩, h5⟩, h6⟩ := h
    simp only [E.comp.sizeOf_spec] at hs
    have ok : BlkOk X.N X.env.scope scope (own.map fun v => (c.N.getD v "", v)) := blkOk_by (by rw [G.nm, G.sc]; exact h0)
    have em : (own.map fun v => (c.N.getD v "", v)).map (·.2) = own := by rw [List.map_map]; exact List.map_id _
    have Gb := fun (s : Shared) (H : Hp) (C : Addr) (cl : List (Str × Addr)) (fp : List Addr) => G.blk scope s H C cl fp
    have w := pe_lc (pos := p) (elt := el) (te := tE X.K gl cf elt) G.calm G.nd (ih.i it c X i t (by omega) G h3) ok (g := tG X.K tg) (tt := tCs X.K gl cf cs) (fun s H C cl fp => tg_pg (Gb s H C cl fp) h4) (fun s H C cl fp => cs_pts (Gb s H C cl fp) h5 fun e x he hx => ih.t e _ _ x (by have := he; omega) (Gb s H C cl fp) hx)
      (fun s H C cl fp => ih.e elt _ _ el (by omega) (Gb s H C cl fp) h6) (setless h1)
    rw [em] at w
    exact w.imp fun σ H Q q => comp_read (fun j hj => by simpa using List.all_eq_true.mp h2 j hj) q
  · rename_i e0
    simp only [Bool.and_eq_true] at h
    simp only [E.fz.sizeOf_spec] at hs
    exact (ih.e e0 c X x (by omega) G h.2).imp fun σ H Q q => fz_read q
  · cases h
theorem pt_ifExp {X : Cx} {t a b : Expr} {p : Pos} {tt ta tb : TT} (ht : PT X t tt) (ha : PT X a ta) (hb : PT X b tb) : PT X (.IfExp t a b p) (fun σ H Q => tt σ H fun k H1 => if k = true then ta σ H1 Q else tb σ H1 Q) := by
  refine ⟨fun pins s σ H Q I h => ?_⟩
  refine isTrue_IfExp (thn (ht.run pins s σ H _ I h) fun d s1 ⟨H1, I1, q1⟩ => ?_)
  cases d with
  | true => exact ha.run pins s1 σ H1 Q I1 q1
  | false => exact hb.run pins s1 σ H1 Q I1 q1
theorem pw_and_of {X : Cx} {a b : E} {x y : Expr} {r : List Expr} {p : Pos} (ha : PT X x (tB (tE X.K gl cf a))) (hb : PW X (.BoolOp .And (y :: r) p) (tB (tE X.K gl cf b))) : PW X (.BoolOp .And (x :: y :: r) p) (tB (tE X.K gl cf (.and a b))) := by
  refine (pw_and ha hb).imp fun σ H Q q => ?_
  refine tE_mono (fun v H1 w => ?_) (and_read (Q := fun x H => ∃ c, x = .bl c ∧ Q c H) q)
  obtain ⟨k, e, w⟩ := w
  refine ⟨k, e, ?_⟩
  cases k with
  | true => exact w
  | false => obtain ⟨k', e', w⟩ := w; cases e'; exact w
theorem pw_or_of {X : Cx} {a b : E} {x y : Expr} {r : List Expr} {p : Pos} (ha : PT X x (tB (tE X.K gl cf a))) (hb : PW X (.BoolOp .Or (y :: r) p) (tB (tE X.K gl cf b))) : PW X (.BoolOp .Or (x :: y :: r) p) (tB (tE X.K gl cf (.or a b))) := by
  refine (pw_or ha hb).imp fun σ H Q q => ?_
  refine tE_mono (fun v H1 w => ?_) (or_read (Q := fun x H => ∃ c, x = .bl c ∧ Q c H) q)
  obtain ⟨k, e, w⟩ := w
  refine ⟨k, e, ?_⟩
  cases k with
  | true => obtain ⟨k', e', w⟩ := w; cases e'; exact w
  | false => exact w
theorem snd_w (ih : Snd gl cf n) : ∀ (e : E) (c : Cc) (X : Cx) (op : BoolOp) (xs : List Expr) (p : Pos), sizeOf e < n + 1 → Good gl cf c X → mE c e (.BoolOp op xs p) = true → PW X (.BoolOp op xs p) (tB (tE X.K gl cf e)) := by
  intro e c X op xs p hs G h
  generalize hx : Expr.BoolOp op xs p = x at h
  unfold mE at h
  split at h <;> first | (cases hx; done) | skip
  · rename_i a b x y r p'
    simp only [Bool.and_eq_true] at h
    simp only [E.and.sizeOf_spec] at hs
    cases hx
    refine pw_and_of (ih.t a c X x (by omega) G h.1) ?_
    cases r with
    | nil => exact pw_and1 (ih.t b c X y (by omega) G h.2)
    | cons z r => exact ih.w b c X .And _ p (by omega) G h.2
  · rename_i a b x y r p'
    simp only [Bool.and_eq_true] at h
    simp only [E.or.sizeOf_spec] at hs
    cases hx
    refine pw_or_of (ih.t a c X x (by omega) G h.1) ?_
    cases r with
    | nil => exact pw_or1 (ih.t b c X y (by omega) G h.2)
    | cons z r => exact ih.w b c X .Or _ p (by omega) G h.2
  · cases hx; cases h
  · cases h
theorem snd_t (ih : Snd gl cf n) (ie : ∀ (e : E) (c : Cc) (X : Cx) (x : Expr), sizeOf e < n + 1 → Good gl cf c X → mE c e x = true → PE X x (tE X.K gl cf e)) (iw : ∀ (e : E) (c : Cc) (X : Cx) (op : BoolOp) (xs : List Expr) (p : Pos), sizeOf e < n + 1 → Good gl cf c X → mE c e (.BoolOp op xs p) = true → PW X (.BoolOp op xs p) (tB (tE X.K gl cf e))) :
    ∀ (e : E) (c : Cc) (X : Cx) (x : Expr), sizeOf e < n + 1 → Good gl cf c X → mE c e x = true → PT X x (tB (tE X.K gl cf e)) := by
  intro e c X x hs G h
  have so : ∀ (e : E) (x : Expr), sizeOf e < n → mE c e x = true → PE X x (tO X.K gl cf e) := fun e x hs h => sO G h (ih.e e c X x hs G h)
  have he := ie e c X x hs G h
  cases x with
  | BoolOp op vs p => exact (iw e c X op vs p hs G h).pt
  | Compare l os r p =>
    generalize hx : Expr.Compare l os r p = x at h
    unfold mE at h
    split at h <;> first | (cases hx; done) | skip
    · rename_i o a b x co y p
      simp only [Bool.and_eq_true, Bool.not_eq_true'] at h
      obtain ⟨⟨⟨h0, hm⟩, h1⟩, h2⟩ := h
      simp only [E.op.sizeOf_spec, Es.cons.sizeOf_spec] at hs
      cases hx
      obtain ⟨r, hr, hr2⟩ := cmp_ok G h0
      exact (pt_cmpR hr (so a _ (by omega) h1) (so b _ (by omega) h2) hm).imp fun σ H Q q => op2_read hr2 q
    · rename_i o1 o2 a b d x c1 c2 y z p
      simp only [Bool.and_eq_true, Bool.not_eq_true'] at h
      simp only [E.chn.sizeOf_spec] at hs
      obtain ⟨⟨⟨⟨⟨h0, h1⟩, hm⟩, h2⟩, h3⟩, h4⟩ := h
      cases hx
      obtain ⟨r1, hr1, hs1⟩ := cmp_ok G h0
      obtain ⟨r2, hr2, hs2⟩ := cmp_ok G h1
      exact (pt_chain hr1 hr2 (ih.e a c X _ (by omega) G h2) (ih.e b c X _ (by omega) G h3) (ih.e d c X _ (by omega) G h4) hm).imp fun σ H Q q => chn_read hs1 hs2 q
    · cases hx; cases h
    · cases h
  | IfExp t1 a1 b1 p =>
    generalize hx : Expr.IfExp t1 a1 b1 p = x at h
    unfold mE at h
    split at h <;> first | (cases hx; done) | skip
    · rename_i t a b x y z p
      simp only [Bool.and_eq_true] at h
      simp only [E.ife.sizeOf_spec] at hs
      cases hx
      refine (pt_ifExp (ih.t t c X _ (by omega) G h.1.1) (ih.t a c X _ (by omega) G h.1.2) (ih.t b c X _ (by omega) G h.2)).imp fun σ H Q q => ?_
      refine tE_mono (fun v H1 w => ?_) (ife_read (Q := fun x H => ∃ c, x = .bl c ∧ Q c H) q)
      obtain ⟨k, e, w⟩ := w
      exact ⟨k, e, w⟩
    · cases hx; cases h
    · cases h
  | UnaryOp uo x1 p =>
    cases uo with
    | Not =>
      generalize hx : Expr.UnaryOp .Not x1 p = x at h
      unfold mE at h
      split at h <;> first | (cases hx; done) | skip
      · rename_i o a uo x p
        cases hx
        simp only [Bool.and_eq_true] at h
        cases o <;> cases h.1
      · rename_i a uo x p
        simp only [Bool.and_eq_true] at h
        simp only [E.not.sizeOf_spec] at hs
        cases hx
        refine (pt_not (ih.t a c X _ (by omega) G h.2)).imp fun σ H Q q => ?_
        refine tE_mono (fun v H1 w => ?_) (not_read (Q := fun x H => ∃ c, x = .bl c ∧ Q c H) q)
        obtain ⟨k, e, k', e', w⟩ := w
        cases e'
        exact ⟨k, e, w⟩
      · cases hx; cases h
      · cases h
    | _ => exact plain_pt he (fun _ _ _ z => nomatch z) (fun _ _ _ _ z => nomatch z) (fun _ _ _ _ z => nomatch z) (fun _ _ z => nomatch z)
  | _ => exact plain_pt he (fun _ _ _ z => nomatch z) (fun _ _ _ _ z => nomatch z) (fun _ _ _ _ z => nomatch z) (fun _ _ z => nomatch z)
theorem snd_a (ih : Snd gl cf n) : ∀ (es : Es) (c : Cc) (X : Cx) (xs : List Expr), sizeOf es < n + 1 → Good gl cf c X → mEs c es xs = true → PA X xs (tEs X.K gl cf es) ∧ PA X xs (tAs X.K gl cf es) := by
  intro es c X xs hs G h
  unfold mEs at h
  split at h
  · exact ⟨pa_nil.imp fun σ H Q q => tEs_nil q, pa_nil.imp fun σ H Q q => tAs_nil q⟩
  · rename_i e es x xs
    simp only [Bool.and_eq_true] at h
    simp only [Es.cons.sizeOf_spec] at hs
    obtain ⟨w1, w2⟩ := ih.a es c X xs (by omega) G h.2
    have he := ih.e e c X x (by omega) G h.1.2
    exact ⟨(pa_cons (sO G h.1.2 he) w1 (star_cons h.1.1)).imp fun σ H Q q => tEs_cons q, (pa_cons (sP G h.1.2 he) w2 (star_cons h.1.1)).imp fun σ H Q q => tAs_cons q⟩
  · cases h
theorem snd_i (ih : Snd gl cf n) : ∀ (it : It) (c : Cc) (X : Cx) (x tg : Expr), sizeOf it < n + 1 → Good gl cf c X → mI c it x = true → PI X tg x (tI X.K gl cf it) := by
  intro it c X x tg hs G h
  unfold mI at h
  split at h
  · rename_i e
    simp only [It.of.sizeOf_spec] at hs
    have he := sO G h (ih.e e c X _ (by omega) G h)
    refine ⟨fun pins s σ H R I q => ?_⟩
    rcases q with q | q
    · exact (pi_list he).run pins s σ H R I q
    · exact (pi_tup he).run pins s σ H R I q
  · rename_i a f p x p2
    simp only [Bool.and_eq_true] at h
    simp only [It.rng.sizeOf_spec, Es.cons.sizeOf_spec] at hs
    obtain ⟨⟨h0, h1⟩, h2⟩ := h
    obtain ⟨rfl, g, m⟩ := G.built h0
    have hxs : mEs c (.cons a .nil) [x] = true := by unfold mEs; simp only [h1, h2, Bool.and_self, Bool.true_and]; unfold mEs; rfl
    exact pi_range1 g m (ih.a (.cons a .nil) c X [x] (by simp only [Es.cons.sizeOf_spec]; omega) G hxs).1 (star_cons h1)
  · rename_i a b f p x y p2
    simp only [Bool.and_eq_true] at h
    simp only [It.rng.sizeOf_spec, Es.cons.sizeOf_spec] at hs
    obtain ⟨⟨⟨⟨h0, h1⟩, h2⟩, h3⟩, h4⟩ := h
    obtain ⟨rfl, g, m⟩ := G.built h0
    have hx1 : mEs c (.cons b .nil) [y] = true := by unfold mEs; simp only [h2, h4, Bool.and_self, Bool.true_and]; unfold mEs; rfl
    have hxs : mEs c (.cons a (.cons b .nil)) [x, y] = true := by unfold mEs; simp only [h1, h3, hx1, Bool.and_self]
    exact pi_range2 g m (ih.a (.cons a (.cons b .nil)) c X [x, y] (by simp only [Es.cons.sizeOf_spec]; omega) G hxs).1 (by rw [star_cons h1, star_cons h2]; rfl) (star_cons h2)
  · rename_i a b d f p x y z p2
    simp only [Bool.and_eq_true] at h
    simp only [It.rng.sizeOf_spec, Es.cons.sizeOf_spec] at hs
    obtain ⟨⟨⟨⟨⟨⟨h0, h1⟩, h2⟩, h3⟩, h4⟩, h5⟩, h6⟩ := h
    obtain ⟨rfl, g, m⟩ := G.built h0
    have hx2 : mEs c (.cons d .nil) [z] = true := by unfold mEs; simp only [h3, h6, Bool.and_self, Bool.true_and]; unfold mEs; rfl
    have hx1 : mEs c (.cons b (.cons d .nil)) [y, z] = true := by unfold mEs; simp only [h2, h5, hx2, Bool.and_self]
    have hxs : mEs c (.cons a (.cons b (.cons d .nil))) [x, y, z] = true := by unfold mEs; simp only [h1, h4, hx1, Bool.and_self]
    exact pi_range3 g m (ih.a (.cons a (.cons b (.cons d .nil))) c X [x, y, z] (by simp only [Es.cons.sizeOf_spec]; omega) G hxs).1 (by rw [star_cons h1]) (by rw [star_cons h2, star_cons h3]; rfl)
  · cases h
theorem snd (gl : Nat → D) (cf : Nat → List Sl → Option (Rv × List Sl)) : ∀ n, Snd gl cf n
  | 0 => ⟨fun _ _ _ _ h => absurd h (Nat.not_lt_zero _), fun _ _ _ _ h => absurd h (Nat.not_lt_zero _), fun _ _ _ _ _ _ h => absurd h (Nat.not_lt_zero _), fun _ _ _ _ h => absurd h (Nat.not_lt_zero _), fun _ _ _ _ _ h => absurd h (Nat.not_lt_zero _)⟩
  | n + 1 => by
    have ih := snd gl cf n
    exact ⟨snd_e ih, snd_t ih (snd_e ih) (snd_w ih), snd_w ih, snd_a ih, snd_i ih⟩
theorem sE {c : Cc} {X : Cx} {e : E} {x : Expr} (G : Good gl cf c X) (h : mE c e x = true) : PE X x (tE X.K gl cf e) := (snd gl cf (sizeOf e + 1)).e e c X x (Nat.lt_succ_self _) G h
theorem sT {c : Cc} {X : Cx} {e : E} {x : Expr} (G : Good gl cf c X) (h : mE c e x = true) : PT X x (tB (tE X.K gl cf e)) := (snd gl cf (sizeOf e + 1)).t e c X x (Nat.lt_succ_self _) G h
theorem sI {c : Cc} {X : Cx} {it : It} {x tg : Expr} (G : Good gl cf c X) (h : mI c it x = true) : PI X tg x (tI X.K gl cf it) := (snd gl cf (sizeOf it + 1)).i it c X x tg (Nat.lt_succ_self _) G h
end
end Pv

namespace Pv
open PySem PySem.Spec PyProof.Rows L2
section
variable {gl : Nat → D} {cf : Nat → List Sl → Option (Rv × List Sl)} {n : Nat} {c : Cc} {X : Cx}
theorem pss_cat {st : Stmt} {rest : List Stmt} {t u : TS} (h1 : PS X st t) (h2 : PSs X rest u) : PSs X (st :: rest) (tSeq t u) := pss_cons h1 h2
theorem noswap {v : Expr} {o : Option Expr} {l : Nat} {env : Env} (h : isLC v = false) : swapsWith v o l env = pure false := by
  cases v <;> first | rfl | cases h
theorem swapsWith_cell {el : Expr} {gs : List Comprehension} {sc : Scope} {q px : Pos} {x : Str} {l : Nat} {env : Env} (h : env.scope.names.lookup x = some .cell) : swapsWith (.ListComp el gs sc q) (some (.Name x px)) l env = pure false := by
  have k : env.kindOf x = some .cell := h
  unfold swapsWith
  dsimp only
  rw [k]
  simp [show (NameKind.cell == NameKind.local) = false from rfl]
theorem iop_mulB : OpR X (inplaceOp .Mult) rMulB := opI fun _ _ _ _ _ _ _ hc q => imul_int q hc
theorem iop_fdivB : OpR X (inplaceOp .FloorDiv) rDivB := opI fun _ _ _ _ _ _ _ hc q => ifloordiv_int hc.1 q (.inl (PyProof.noPylong_of_log2 hc.2))
theorem rep_str' {K : PySem.W.Frag} {F : Addr → Prop} {H : Hp} {i : Str} {v : V} (r : Rep K F H (.str i) v) : v = .str i := by cases r; rfl
theorem aug_ok {o : Op} {b : Operator} (h : augB o b = true) : ∃ r, OpR X (inplaceOp b) r ∧ RAug X.K o r := by
  unfold augB at h
  split at h
  · refine ⟨_, iop_add.or (iop_add_str.or iop_catA), fun F H d e d' x y Q hF rx ry h q => ?_⟩
    unfold augf at h
    split at h <;> first | (rename_i z; cases z; done) | skip
    · cases h; cases rep_int rx; cases rep_int ry
      exact .inl ⟨_, _, rfl, rfl, q _ _ (Same.refl _) (.int _)⟩
    · split at h
      · rename_i hz
        cases h; cases rep_str' rx; cases rep_str' ry
        exact .inr (.inl ⟨_, _, rfl, rfl, hz, q _ _ (Same.refl _) (.str _)⟩)
      · cases h
    · split at h
      · rename_i hz
        cases h
        obtain ⟨a, xs, rfl, hx, rx⟩ := rx.tuple
        obtain ⟨b, ys, rfl, hy, ry⟩ := ry.tuple
        refine .inr (.inr ⟨a, b, xs, ys, rfl, rfl, hx, hy, by rw [← rx.length, ← ry.length]; exact hz, fun e => ?_, fun _ e => ?_, fun _ _ p np => ?_⟩)
        · refine q _ _ (Same.refl _) (.tup hy ?_)
          have e1 := rx.length
          rw [e, List.length_nil] at e1
          rw [List.eq_nil_of_length_eq_zero e1]
          exact ry
        · refine q _ _ (Same.refl _) (.tup hx ?_)
          have e1 := ry.length
          rw [e, List.length_nil] at e1
          rw [List.eq_nil_of_length_eq_zero e1, List.append_nil]
          exact rx
        · exact ro_tup (fun v H' sm ro => q v H' sm ro) hF (rx.append ry) np
      · cases h
    · cases h
  · refine ⟨_, iop_sub, fun F H d e d' x y Q hF rx ry h q => ?_⟩
    unfold augf at h
    split at h <;> first | (rename_i z; cases z; done) | skip
    · cases h; cases rep_int rx; cases rep_int ry
      exact ⟨_, _, rfl, rfl, q _ _ (Same.refl _) (.int _)⟩
    · cases h
  · refine ⟨_, iop_mulB, fun F H d e d' x y Q hF rx ry h q => ?_⟩
    unfold augf at h
    split at h <;> first | (rename_i z; cases z; done) | skip
    · split at h
      · rename_i hz
        cases h; cases rep_int rx; cases rep_int ry
        exact ⟨_, _, rfl, rfl, mul_ok hz.1 hz.2, q _ _ (Same.refl _) (.int _)⟩
      · cases h
    · cases h
  · refine ⟨_, iop_fdivB, fun F H d e d' x y Q hF rx ry h q => ?_⟩
    unfold augf at h
    split at h <;> first | (rename_i z; cases z; done) | skip
    · split at h
      · rename_i hz
        cases h; cases rep_int rx; cases rep_int ry
        exact ⟨_, _, rfl, rfl, hz, q _ _ (Same.refl _) (.int _)⟩
      · cases h
    · cases h
  · refine ⟨_, iop_xor, fun F H d e d' x y Q hF rx ry h q => ?_⟩
    unfold augf at h
    split at h <;> first | (rename_i z; cases z; done) | skip
    · cases h; cases rep_int rx; cases rep_int ry
      exact ⟨_, _, rfl, rfl, q _ _ (Same.refl _) (.int _)⟩
    · cases h
  · cases h
theorem par_stores {i j : Nat} {x y : Str} {px py p1 p2 : Pos} {k1 k2 : Nat} {a b : Expr} (hs : X.env.scope = c.sc) (h : parB c i j x y px py a b = true) : swappedStores [.Tuple [.Name x px, .Name y py] k1 p1] (.Tuple [a, b] k2 p2) X.env = pure (some [x, y]) := by
  unfold parB at h
  simp only [Bool.and_eq_true, decide_eq_true_eq, Bool.not_eq_true'] at h
  obtain ⟨⟨⟨⟨⟨⟨⟨⟨⟨⟨⟨h1, h2⟩, h3⟩, h4⟩, h5⟩, h6⟩, h7⟩, h8⟩, h9⟩, h10⟩, h11⟩, h12⟩ := h
  have kx : X.env.kindOf x = some .local := by unfold Env.kindOf; rw [hs]; exact h5
  have ky : X.env.kindOf y = some .local := by unfold Env.kindOf; rw [hs]; exact h6
  have bk : X.env.blockKind = .function := by unfold Env.blockKind; rw [hs, h7]; rfl
  have l1 : (py.line == px.line) = true := h8
  have nx : (y == x) = false := by simpa using Ne.symm h4
  have nx2 : (x == y) = false := by simpa using h4
  unfold swappedStores
  simp [bk, kx, ky, h9, h10, h11, h12, Expr.pos, List.eraseDups, nx, nx2]
  have s1 : ∀ e : Expr, noStar e = true → ¬ (match e with | .Starred .. => true | _ => false) = true := fun e he z => by cases e <;> first | (cases z; done) | (cases he; done)
  rw [if_neg (fun z => z.elim (s1 a h9) (s1 b h10))]
  have l2 : py.line = px.line := by simpa using h8
  have fm : ∀ f : Expr → Option Str, f (.Name y py) = some y → List.filterMap f [Expr.Name y py] = [y] := fun f hf => by simp [hf]
  rw [fm _ (by simp [ky, l2])]
  simp [List.eraseDupsBy, List.eraseDupsBy.loop, nx, nx2]
/-- what the check gives of statements below a size -/
structure SndS (gl : Nat → D) (cf : Nat → List Sl → Option (Rv × List Sl)) (n : Nat) (c : Cc) (X : Cx) (m : Nat) : Prop where
  one : ∀ (s : S) (st : Stmt), sizeOf s < m → mS c s [st] = true → PS X st (tS X.K gl cf n s)
  all : ∀ (s : S) (sts : List Stmt), sizeOf s < m → mS c s sts = true → PSs X sts (tS X.K gl cf n s)
variable {m : Nat}
theorem never (G : Good gl cf c X) : PassesOwn (model X.prog X.w) X.A X.env X.xe := by
  rw [G.xe]; exact PassesOwn.never
theorem tE_asg {K : PySem.W.Frag} {e : E} {g : TG} {De : Ends} {σ : L2.St} {H : Hp} (h : tAsg (tE K gl cf (.fz e)) g De σ H) : tAsg (tE K gl cf e) g De σ H := fz_read h
theorem set_lc (G : Good gl cf c X) {i : Nat} {x : Str} {px p q : Pos} {e : E} {el : Expr} {gs : List Comprehension} {scope : Scope} (h0 : c.store i x = true) (h : mE c e (.ListComp el gs scope q) = true)
    (h1 : c.sc.names.lookup x = some .local) (h2 : c.sc.kind = .function) (h3 : (px.line == q.line) = true) (h4 : (scope.names.any fun (n, k) => n == x && (k == .local || k == .cell)) = false) :
    PS X (.Assign [.Name x px] (.ListComp el gs scope q) p) (tAsg (tE X.K gl cf e) (gName i)) := by
  obtain ⟨w1, w2, w3⟩ := G.store h0
  generalize hx : Expr.ListComp el gs scope q = z at h
  unfold mE at h
  split at h <;> first | (cases hx; done) | skip
  · rename_i own tg it cs elt el t ib ifs scope p2
    cases hx
    simp only [Bool.and_eq_true] at h
    obtain ⟨⟨⟨⟨⟨⟨k0, k1⟩, k2⟩, k3⟩, k4⟩, k5⟩, k6⟩ := h
    have ok : BlkOk X.N X.env.scope scope (own.map fun v => (c.N.getD v "", v)) := blkOk_by (by rw [G.nm, G.sc]; exact k0)
    have em : (own.map fun v => (c.N.getD v "", v)).map (·.2) = own := by rw [List.map_map]; exact List.map_id _
    have Gb := fun (s : Shared) (H : Hp) (C : Addr) (cl : List (Str × Addr)) (fp : List Addr) => G.blk scope s H C cl fp
    have lx : X.env.scope.names.lookup x = some .local := by rw [G.sc]; exact h1
    have w := ps_setLc (py := px) (spos := p) (pos := q) (elt := el) (te := tE X.K gl cf elt) G.calm G.nd w1 lx (sw_true (by rw [G.sc]; exact h2) lx h3 h4) (sI (tg := t) G k3) ok (g := tG X.K tg) (tt := tCs X.K gl cf cs) (fun s H C cl fp => tg_pg (Gb s H C cl fp) k4)
      (fun s H C cl fp => cs_pts (Gb s H C cl fp) k5 fun e x _ hx => sT (Gb s H C cl fp) hx) (fun s H C cl fp => sE (Gb s H C cl fp) k6) (setless k1)
    rw [em] at w
    exact w.imp fun De σ H q => comp_read (fun j hj => by simpa using List.all_eq_true.mp k2 j hj) q
  · rename_i e0
    cases hx
    simp only [Bool.and_eq_true] at h
    exact (set_lc G h0 h.2 h1 h2 h3 h4).imp fun De σ H q => tE_asg q
  · cases h
termination_by sizeOf e
decreasing_by all_goals (subst_vars; simp_wf; try omega)
theorem unswapped {ts : List Expr} {k p1} {v : Expr} {env : Env} (h : notSwp v = true) : swappedStores [.Tuple ts k p1] v env = pure none := by
  cases v <;> first | rfl | skip
  rename_i vs k2 p2
  have h : (vs.all (foldedForSure 8) || !(vs.length == 2 || vs.length == 3)) = true := h
  unfold swappedStores
  dsimp only
  by_cases h1 : (!(ts.length == 2 || ts.length == 3) || vs.length != ts.length || env.blockKind != .function) = true
  · rw [if_pos h1]
  · rw [if_neg h1]
    have hv : vs.all (foldedForSure 8) = true := by
      simp only [Bool.or_eq_true, Bool.not_eq_true', not_or, bne_iff_ne, ne_eq, Bool.not_eq_false, Decidable.not_not, beq_iff_eq] at h1 h
      rcases h with h | h
      · exact h
      · simp only [Bool.or_eq_false_iff, beq_eq_false_iff_ne, ne_eq] at h
        omega
    split
    · rfl
    · split
      · rfl
      · first | rfl | rw [if_pos hv]
theorem swapped_sub {x : Str} {o z : Expr} {p1 p3 k p4} {v : Expr} {env : Env} : swappedStores [.Tuple [.Name x p1, .Subscript o z p3] k p4] v env = pure none := by
  cases v <;> first | rfl | skip
  rename_i vs k2 p2
  unfold swappedStores
  dsimp only
  by_cases h1 : (!([Expr.Name x p1, Expr.Subscript o z p3].length == 2 || [Expr.Name x p1, Expr.Subscript o z p3].length == 3) || vs.length != [Expr.Name x p1, Expr.Subscript o z p3].length || env.blockKind != .function) = true
  · rw [if_pos h1]
  · rw [if_neg h1]
    split
    · rfl
    · have hn : ∀ (f : Expr → Option Str), f (.Subscript o z p3) = none → ((([Expr.Name x p1, Expr.Subscript o z p3].filterMap f).length != [Expr.Name x p1, Expr.Subscript o z p3].length) = true) := fun f hf => by
        simp only [List.filterMap_cons, hf, List.filterMap_nil]
        cases f (.Name x p1) <;> rfl
      rw [if_pos (by rw [hn _ rfl]; rfl)]
theorem par3_stores {i j l : Nat} {x y z : Str} {px py pz p1 p2 : Pos} {k1 k2 : Nat} {a b d : Expr} (hs : X.env.scope = c.sc) (h : parB3 c i j l x y z px py pz a b d = true) : swappedStores [.Tuple [.Name x px, .Name y py, .Name z pz] k1 p1] (.Tuple [a, b, d] k2 p2) X.env = pure (some [x, y, z]) := by
  unfold parB3 at h
  simp only [Bool.and_eq_true, decide_eq_true_eq, Bool.not_eq_true'] at h
  obtain ⟨⟨⟨⟨⟨⟨⟨⟨⟨⟨⟨⟨⟨⟨⟨⟨⟨⟨⟨h1, h2⟩, h3⟩, h4⟩, h5⟩, h6⟩, h7⟩, h8⟩, h9⟩, h10⟩, h11⟩, h12⟩, h13⟩, h14⟩, h15⟩, h16⟩, h17⟩, h18⟩, h19⟩, h20⟩ := h
  have kx : X.env.kindOf x = some .local := by unfold Env.kindOf; rw [hs]; exact h10
  have ky : X.env.kindOf y = some .local := by unfold Env.kindOf; rw [hs]; exact h11
  have kz : X.env.kindOf z = some .local := by unfold Env.kindOf; rw [hs]; exact h12
  have bk : X.env.blockKind = .function := by unfold Env.blockKind; rw [hs, h13]; rfl
  have n1 : (y == x) = false := by simpa using Ne.symm h7
  have n2 : (z == x) = false := by simpa using Ne.symm h8
  have n3 : (z == y) = false := by simpa using Ne.symm h9
  have n4 : (x == y) = false := by simpa using h7
  have n5 : (x == z) = false := by simpa using h8
  have n6 : (y == z) = false := by simpa using h9
  have l1 : py.line = px.line := by simpa using h14
  have l2 : pz.line = px.line := by simpa using h15
  unfold swappedStores
  simp [bk, kx, ky, kz, h16, h17, h18, h19, h20, Expr.pos, List.eraseDups, n1, n2, n3, n4, n5, n6]
  have s1 : ∀ e : Expr, noStar e = true → ¬ (match e with | .Starred .. => true | _ => false) = true := fun e he z => by cases e <;> first | (cases z; done) | (cases he; done)
  rw [if_neg (fun q => q.elim (s1 a h16) fun q => q.elim (s1 b h17) (s1 d h18))]
  have fm : ∀ f : Expr → Option Str, f (.Name y py) = some y → f (.Name z pz) = some z → List.filterMap f [Expr.Name y py, Expr.Name z pz] = [y, z] := fun f hf hf2 => by simp [hf, hf2]
  rw [fm _ (by simp [ky, l1]) (by simp [kz, l2])]
  simp [List.eraseDupsBy, List.eraseDupsBy.loop, n1, n2, n3, n4, n5, n6]
theorem unswapped_cell {ts : List Expr} {k : Nat} {p1 : Pos} {v : Expr} (hs : X.env.scope = c.sc) (h : ts.any (cellN c) = true) : swappedStores [.Tuple ts k p1] v X.env = pure none := by
  have less : ∀ (f : Expr → Option Str), (∀ e, cellN c e = true → f e = none) → ((ts.filterMap f).length != ts.length) = true := fun f hf => by
    obtain ⟨e, he, hc⟩ := List.any_eq_true.mp h
    have : ∀ l : List Expr, e ∈ l → (l.filterMap f).length + 1 ≤ l.length := by
      intro l
      induction l with
      | nil => intro hm; cases hm
      | cons y r ih =>
        intro hm
        rw [List.filterMap_cons]
        rcases List.mem_cons.mp hm with rfl | hm
        · rw [hf _ hc]
          exact Nat.succ_le_succ (List.length_filterMap_le _ _)
        · have := ih hm
          split
          · rw [List.length_cons]; omega
          · rw [List.length_cons, List.length_cons]; omega
    have := this ts he
    rw [bne_iff_ne]; omega
  unfold swappedStores
  cases v <;> first | rfl | skip
  rename_i vs k2 p2
  dsimp only
  generalize env : X.env = E at *
  by_cases h1 : (!(ts.length == 2 || ts.length == 3) || vs.length != ts.length || E.blockKind != .function) = true
  · rw [if_pos h1]
  · rw [if_neg h1]
    split
    · rfl
    · have hf : ∀ e : Expr, cellN c e = true → (match e with | .Name id pos => if (E.kindOf id == some .local && pos.line == (ts.head?.map (·.pos.line)).getD 0) = true then some id else none | _ => none) = none := fun e hc => by
        unfold cellN at hc
        split at hc
        · rename_i x q
          have kx : E.kindOf x = some .cell := by unfold Env.kindOf; rw [hs]; exact of_decide_eq_true hc
          simp [kx]
        · cases hc
      exact if_pos (by rw [Bool.or_eq_true]; exact Or.inl (less _ hf))
theorem snds_one (G : Good gl cf c X) (ih : SndS gl cf n c X m) : ∀ (s : S) (st : Stmt), sizeOf s < m + 1 → mS c s [st] = true → PS X st (tS X.K gl cf n s) := by
  intro s st hs h
  generalize hl : [st] = sts at h
  unfold mS at h
  split at h <;> first | (cases hl; done) | skip
  · cases hl
    simp only [S.fgt.sizeOf_spec] at hs
    exact (ih.one _ _ (by omega) h).imp fun De σ H q => s_fgt q
  · cases hl
    exact ps_pass.imp fun De σ H q => s_pass q
  · rename_i i e x px v p
    cases hl
    simp only [Bool.and_eq_true] at h
    obtain ⟨⟨h0, h1⟩, h2⟩ := h
    obtain ⟨w1, w2, w3⟩ := G.store h0
    split at h2
    · rename_i el gs scope q
      simp only [Bool.or_eq_true, Bool.and_eq_true, decide_eq_true_eq, Bool.not_eq_true'] at h2
      rcases h2 with h2 | h2
      · have lx : X.env.scope.names.lookup x = some .cell := by rw [G.sc]; exact h2
        exact (ps_set G.nd w1 w2 (sE G h1) (swapsWith_cell lx) w3).imp fun De σ H q => s_set q
      · exact (set_lc G h0 h1 h2.1.1.1 h2.1.1.2 h2.1.2 h2.2).imp fun De σ H q => s_set q
    · exact (ps_set G.nd w1 w2 (sE G h1) (noswap (by simpa using h2)) w3).imp fun De σ H q => s_set q
  · rename_i is e ts k p1 v p
    cases hl
    simp only [Bool.and_eq_true, Bool.not_eq_true'] at h
    obtain ⟨⟨⟨h0, h1⟩, h2⟩, h3⟩ := h
    have hg : PG X (.Tuple ts k p1) (tG X.K (.tp is)) := tg_pg (tg := .tp is) G (by unfold mTg; exact h0)
    have hw : swappedStores [.Tuple ts k p1] v X.env = pure none := (Bool.or_eq_true _ _ ▸ h1).elim unswapped (unswapped_cell G.sc)
    exact (ps_asg (sE G h3) hg (show swapsWith v (some (.Tuple ts k p1)) p.line X.env = pure false from noswap h2) hw).imp fun De σ H q => s_unp q
  · rename_i i j a b x px y py k1 p1 v w k2 p2 p
    cases hl
    simp only [Bool.and_eq_true] at h
    obtain ⟨⟨h0, h1⟩, h2⟩ := h
    have hw := par_stores (k1 := k1) (k2 := k2) (p1 := p1) (p2 := p2) (X := X) G.sc h0
    unfold parB at h0
    simp only [Bool.and_eq_true, decide_eq_true_eq, Bool.not_eq_true'] at h0
    obtain ⟨⟨⟨⟨⟨⟨⟨⟨⟨⟨⟨k1, k2⟩, k3⟩, k4⟩, k5⟩, k6⟩, k7⟩, k8⟩, k9⟩, k10⟩, k11⟩, k12⟩ := h0
    have hx : mEs c (.cons b .nil) [w] = true := by unfold mEs; simp only [k10, h2, Bool.and_self, Bool.true_and]; unfold mEs; rfl
    have hxs : mEs c (.cons a (.cons b .nil)) [v, w] = true := by unfold mEs; simp only [k9, h1, hx, Bool.and_self]
    have pa := ((snd gl cf (sizeOf (Es.cons a (.cons b .nil)) + 1)).a (.cons a (.cons b .nil)) c X [v, w] (Nat.lt_succ_self _) G hxs).1
    exact (ps_par G.calm G.nd (by rw [G.nm]; exact k1) (by rw [G.nm]; exact k2) k3 (by rw [G.sc]; exact k5) (by rw [G.sc]; exact k6) pa hw rfl).imp fun De σ H q => s_par q
  · rename_i i j l a b d x px y py z pz k1 p1 u v w k2 p2 p
    cases hl
    simp only [Bool.and_eq_true] at h
    obtain ⟨⟨⟨h0, h1⟩, h2⟩, h3⟩ := h
    have hw := par3_stores (k1 := k1) (k2 := k2) (p1 := p1) (p2 := p2) (X := X) G.sc h0
    unfold parB3 at h0
    simp only [Bool.and_eq_true, decide_eq_true_eq, Bool.not_eq_true'] at h0
    obtain ⟨⟨⟨⟨⟨⟨⟨⟨⟨⟨⟨⟨⟨⟨⟨⟨⟨⟨⟨g1, g2⟩, g3⟩, g4⟩, g5⟩, g6⟩, g7⟩, g8⟩, g9⟩, g10⟩, g11⟩, g12⟩, g13⟩, g14⟩, g15⟩, g16⟩, g17⟩, g18⟩, g19⟩, g20⟩ := h0
    have hd : mEs c (.cons d .nil) [w] = true := by unfold mEs; simp only [g18, h3, Bool.and_self, Bool.true_and]; unfold mEs; rfl
    have hb : mEs c (.cons b (.cons d .nil)) [v, w] = true := by unfold mEs; simp only [g17, h2, hd, Bool.and_self]
    have hxs : mEs c (.cons a (.cons b (.cons d .nil))) [u, v, w] = true := by unfold mEs; simp only [g16, h1, hb, Bool.and_self]
    have pa := ((snd gl cf (sizeOf (Es.cons a (.cons b (.cons d .nil))) + 1)).a (.cons a (.cons b (.cons d .nil))) c X [u, v, w] (Nat.lt_succ_self _) G hxs).1
    exact (ps_par3 G.calm G.nd (by rw [G.nm]; exact g1) (by rw [G.nm]; exact g2) (by rw [G.nm]; exact g3) g4 g5 g6 (by rw [G.sc]; exact g10) (by rw [G.sc]; exact g11) (by rw [G.sc]; exact g12) pa hw rfl).imp fun De σ H q => s_par3 q
  · rename_i i ix e x p1 y p2 v p
    cases hl
    simp only [Bool.and_eq_true, Bool.not_eq_true'] at h
    obtain ⟨⟨⟨⟨h0, h1⟩, h2⟩, h3⟩, h4⟩ := h
    have hg : PG X (.Subscript (.Name x p1) y p2) (gSub (tVar i) (tE X.K gl cf ix) rSet2) := pg_sub (G.var h0) (sE G h3) (set_2 G.un) (fun v => by cases y <;> first | rfl | cases h1)
    exact (ps_asg (sE G h4) hg (show swapsWith v (some (.Subscript (.Name x p1) y p2)) p.line X.env = pure false from noswap h2) (by cases v <;> rfl)).imp fun De σ H q => s_st q
  · rename_i i j ix e x p1 y p2 z p3 k p4 v p
    cases hl
    simp only [Bool.and_eq_true, Bool.not_eq_true'] at h
    obtain ⟨⟨⟨⟨⟨h0, h1⟩, h2⟩, h3⟩, h4⟩, h5⟩ := h
    obtain ⟨w1, w2, w3⟩ := G.store h0
    have hg : PG X (.Subscript (.Name y p2) z p3) (gSub (tVar j) (tE X.K gl cf ix) rSet2) := pg_sub (G.var h1) (sE G h4) (set_2 G.un) (fun v => by cases z <;> first | rfl | cases h2)
    have hgs : PG X (.Tuple [.Name x p1, .Subscript (.Name y p2) z p3] k p4) (gTup X.K 2 (gCons (gName i) (gCons (gSub (tVar j) (tE X.K gl cf ix) rSet2) gNil))) := pg_tup G.calm (pgs_cons (pg_name G.nd w1 w2 w3) (pgs_cons hg pgs_nil))
    have hw : swappedStores [.Tuple [.Name x p1, .Subscript (.Name y p2) z p3] k p4] v X.env = pure none := swapped_sub
    exact (ps_asg (sE G h5) hgs (show swapsWith v (some (.Tuple [.Name x p1, .Subscript (.Name y p2) z p3] k p4)) p.line X.env = pure false from noswap h3) hw).imp fun De σ H q => s_ups q
  · rename_i i o e x p1 ao v p
    cases hl
    simp only [Bool.and_eq_true] at h
    obtain ⟨⟨⟨h0, h1⟩, h2⟩, h3⟩ := h
    obtain ⟨w1, w2, w3⟩ := G.store h2
    obtain ⟨r, hr, hr2⟩ := aug_ok (X := X) h0
    exact (ps_aug G.nd w1 w2 (sE G h3) hr w3).imp fun De σ H q => s_aug hr2 q
  · rename_i i ix o e x p1 y p2 ao v p
    cases hl
    simp only [Bool.and_eq_true] at h
    obtain ⟨⟨⟨⟨h0, h1⟩, h2⟩, h3⟩, h4⟩ := h
    obtain ⟨r, hr, hr2⟩ := aug_ok (X := X) h0
    exact (ps_augS (G.var h1) (sE G h3) get_list (sE G h4) hr (set_2 G.un) (fun ov iv nw => by cases y <;> first | rfl | cases h2)).imp fun De σ H q => s_agt hr2 q
  · rename_i i e x p1 ao v p
    cases hl
    simp only [Bool.and_eq_true] at h
    obtain ⟨⟨⟨h0, h1⟩, h2⟩, h3⟩ := h
    obtain ⟨w1, w2, w3⟩ := G.store h2
    cases ao <;> first | (cases h0; done) | skip
    exact (ps_aug G.nd w1 w2 (sE G h3) iop_ext w3).imp fun De σ H q => s_ext q
  · rename_i e v p
    cases hl
    simp only [Bool.and_eq_true, Bool.not_eq_true'] at h
    exact (ps_expr (sE G h.2) (noswap h.1)).imp fun De σ H q => s_ex q
  · rename_i e v p
    cases hl
    exact (ps_ret (sE G h)).imp fun De σ H q => s_ret q
  · cases hl
    exact ps_retN.imp fun De σ H q => s_retn q
  · rename_i t a b x ys zs p
    cases hl
    simp only [Bool.and_eq_true] at h
    simp only [S.ife.sizeOf_spec] at hs
    exact (ps_if (sT G h.1.1) (ih.all a ys (by omega) h.1.2) (ih.all b zs (by omega) h.2)).imp fun De σ H q => s_ife q
  · rename_i t b x ys p
    cases hl
    simp only [Bool.and_eq_true] at h
    simp only [S.whl.sizeOf_spec] at hs
    exact (ps_while (never G) (sT G h.1) (ih.all b ys (by omega) h.2)).imp fun De σ H q => s_whl q
  · rename_i tg it b t i ys p
    cases hl
    simp only [Bool.and_eq_true] at h
    simp only [S.for.sizeOf_spec] at hs
    obtain ⟨⟨⟨h0, h1⟩, h2⟩, h3⟩ := h
    exact (ps_for (never G) G.calm (sI G h1) (tg_pg G h2) (ih.all b ys (by omega) h3) (setless h0)).imp fun De σ H q => s_for q
  · cases hl
    exact ps_break.imp fun De σ H q => s_brk q
  · cases hl
    exact ps_continue.imp fun De σ H q => s_cnt q
  · cases h
theorem snds_all (G : Good gl cf c X) (ih : SndS gl cf n c X m) : ∀ (s : S) (sts : List Stmt), sizeOf s < m + 1 → mS c s sts = true → PSs X sts (tS X.K gl cf n s) := by
  intro s sts hs h
  match sts, h with
  | [], h =>
    generalize hl : ([] : List Stmt) = sts at h
    unfold mS at h
    split at h <;> first | (cases hl; done) | skip
    · cases hl
      simp only [S.fgt.sizeOf_spec] at hs
      exact (ih.all _ _ (by omega) h).imp fun De σ H q => s_fgt q
    · exact pss_nil.imp fun De σ H q => s_pass q
    · cases h
  | [st], h => exact pss_one (snds_one G ih s st hs h)
  | st :: r :: rs, h =>
    generalize hl : st :: r :: rs = sts at h
    unfold mS at h
    split at h <;> first | (cases hl; done) | skip
    · cases hl
      simp only [S.fgt.sizeOf_spec] at hs
      exact (ih.all _ _ (by omega) h).imp fun De σ H q => s_fgt q
    · simp only [Bool.and_eq_true] at h
      simp only [S.seq.sizeOf_spec] at hs
      cases hl
      exact (pss_cons (ih.one _ _ (by omega) h.1) (ih.all _ _ (by omega) h.2)).imp fun De σ H q => s_seq q
    · cases h
theorem snds (G : Good gl cf c X) : ∀ m, SndS gl cf n c X m
  | 0 => ⟨fun _ _ h => absurd h (Nat.not_lt_zero _), fun _ _ h => absurd h (Nat.not_lt_zero _)⟩
  | m + 1 => ⟨snds_one G (snds G m), snds_all G (snds G m)⟩
theorem sS (G : Good gl cf c X) {s : S} {sts : List Stmt} (h : mS c s sts = true) : PSs X sts (tS X.K gl cf n s) := (snds G (sizeOf s + 1)).all s sts (Nat.lt_succ_self _) h
end
end Pv

namespace Pv
open PySem PySem.Spec PyProof.Rows L2

/-! ### defs -/
/-- a def: its name, its text, the names in its slots, its small program -/
structure Df where
  name : Str
  st : Stmt
  N : List Str
  fn : Fn
/-- the whole text: the defs, the module's values (by name), the builtins it uses, whether gcd stands in the module -/
structure Tx where
  dfs : List Df
  gls : List (Str × D)
  blt : List Str
  gcd : Bool
def Df.ps (d : Df) : List Str := d.N.take d.fn.params
def Tx.cc (t : Tx) (d : Df) : Cc := ⟨d.N, defScope d.st, fun _ => true, t.dfs.map (·.name), t.gls.map (·.1), t.blt, t.gcd⟩
def Tx.gl (t : Tx) (g : Nat) : D := ((t.gls[g]?).map (·.2)).getD .none
def Tx.tb (t : Tx) (f : Nat) : Option Fn := (t.dfs[f]?).map (·.fn)
def Tx.call (t : Tx) (n k f : Nat) : List Sl → Option (Rv × List Sl) := Pv.call t.gl t.tb n k f
def Tx.okD (t : Tx) (d : Df) : Bool := decide (d.N.length = d.fn.slots) && decide (d.fn.params ≤ d.fn.slots) && C8.scC d.N d.ps (defScope d.st) && mS (t.cc d) d.fn.body (defBody d.st)
def Tx.ok (t : Tx) : Bool := t.dfs.all t.okD
section
variable {P : Program} {w : World} {K : PySem.W.Frag} {mg : Str → Option Value} {base : Heap} {F Z : Addr → Prop} {H : Hp}
theorem ERel.pad {sl : List Sl} {σ : L2.St} (r : ERel K F Z H sl σ) (n : Nat) : ERel K F Z H (sl ++ List.replicate n .no) (σ ++ List.replicate n none) := by
  have at_ : ∀ {i : Nat} {s : Sl}, (sl ++ List.replicate n .no)[i]? = some s → s ≠ .no → sl[i]? = some s ∧ i < sl.length := fun {i s} e hn => by
    by_cases hi : i < sl.length
    · rw [List.getElem?_append_left hi] at e; exact ⟨e, hi⟩
    · rw [List.getElem?_append_right (by omega), List.getElem?_replicate] at e
      split at e
      · cases e; exact absurd rfl hn
      · cases e
  have st : ∀ {i : Nat}, i < sl.length → (σ ++ List.replicate n none)[i]? = σ[i]? := fun {i} hi => List.getElem?_append_left (by rw [← r.len]; exact hi)
  refine ⟨by rw [List.length_append, List.length_append, r.len, List.length_replicate, List.length_replicate], r.fd, r.zd, r.dj, fun i d e => ?_, fun i s m e o => ?_, fun i j s s' m m' a e o e' o' q q' => ?_, fun i m e => ?_⟩
  · obtain ⟨e, hi⟩ := at_ e (fun z => nomatch z)
    rw [st hi]; exact r.val i d e
  · obtain ⟨e, hi⟩ := at_ e (fun z => by subst z; cases o)
    rw [st hi]; exact r.own i s m e o
  · obtain ⟨e, hi⟩ := at_ e (fun z => by subst z; cases o)
    obtain ⟨e', hj⟩ := at_ e' (fun z => by subst z; cases o')
    rw [st hi] at q
    rw [st hj] at q'
    exact r.sep i j s s' m m' a e o e' o' q q'
  · obtain ⟨e, hi⟩ := at_ e (fun z => nomatch z)
    rw [st hi]; exact r.brw i m e
/-- what the top has written -/
structure TxOk (K : PySem.W.Frag) (mg : Str → Option Value) (t : Tx) : Prop where
  df : ∀ (f : Nat) (d : Df), t.dfs[f]? = some d → ∃ a fd, Fun K d.name d.name d.st a fd ∧ mg d.name = some (.ref a) ∧ Binds K fd d.ps []
  gl : ∀ (g : Nat) (x : Str) (e : D), t.gls[g]? = some (x, e) → ∃ u v, mg x = some u ∧ RelV v u ∧ ∀ F H, Rep K F H e v
  bl : ∀ x ∈ t.blt, mg x = none
  gc : t.gcd = true → mg "gcd" = some (.builtin "math.gcd")
theorem def_ok {t : Tx} (hc : t.ok = true) (T : TxOk K mg t) (n : Nat) : ∀ (k f : Nat) (d : Df) (a : Addr) (fd : FuncData), t.dfs[f]? = some d → Fun K d.name d.name d.st a fd → FnOk P w K mg base CX0 k a fd d.ps (spOf K (t.call n k f))
  | 0, f, d, a, fd, hd, Fu => by
    have no : ∀ vs H Q E, ¬ spOf K (t.call n 0 f) vs H Q E := fun vs H Q E ⟨_, _, _, _, _, _, h, _⟩ => by cases h
    exact ⟨fun vs H Q E q => absurd q (no _ _ _ _), fun A outer s H args us vs Q E hr he hb hv q => absurd q (no _ _ _ _)⟩
  | k + 1, f, d, a, fd, hd, Fu => by
    have dok : t.okD d = true := List.all_eq_true.mp hc d (List.mem_of_getElem? hd)
    unfold Tx.okD at dok
    simp only [Bool.and_eq_true, decide_eq_true_eq] at dok
    obtain ⟨⟨⟨d1, d2⟩, d3⟩, d4⟩ := dok
    have S := C8.fnScope_by d3
    have hps : d.ps.length = d.fn.params := by
      unfold Df.ps
      rw [List.length_take, d1]; omega
    have ecall : ∀ sl, t.call n (k + 1) f sl = runF t.gl (t.call n k) n d.fn sl := fun sl => by
      show Pv.call t.gl t.tb n (k + 1) f sl = _
      unfold Pv.call
      show ((t.dfs[f]?).map (·.fn)).bind _ = _
      rw [hd]; rfl
    refine Fu.ok S (fun vs H Q E h => ?_) (fun cdv A outer s H vs Q E hr h => ?_)
    · obtain ⟨F, Z, sl, rv, sl', r, h, _⟩ := h
      rw [ecall] at h
      unfold runF at h
      split at h
      · rename_i hl
        have := r.len
        rw [List.length_map] at this
        omega
      · cases h
    · obtain ⟨F, Z, sl, rv, sl', r, h, kq⟩ := h
      rw [ecall] at h
      unfold runF at h
      split at h
      · rename_i hl
        have hlv : vs.length = d.fn.params := by
          have := r.len
          rw [List.length_map] at this
          omega
        obtain ⟨⟨c, env'⟩, h1, h2⟩ := Option.bind_eq_some_iff.mp h
        have G : Good t.gl (t.call n k) (t.cc d) (cxOf CX0 P w K mg base d.N d.name (defScope d.st) a cdv A outer s H E).nox := by
          refine ⟨rfl, rfl, S.nd, rfl, fun _ _ => rfl, rfl, ?_, fun g x hg => ?_, fun g x hg => ?_, fun x hx => T.bl x hx, T.gc⟩
          · have := hr.un
            show (A.deeper _).units + 65 < cLine
            omega
          · have hg : (t.dfs.map (·.name))[g]? = some x := hg
            rw [List.getElem?_map] at hg
            obtain ⟨e, he, hx⟩ := Option.map_eq_some_iff.mp hg
            subst hx
            obtain ⟨b, fe, w1, w2, w3⟩ := T.df g e he
            exact ⟨k, b, fe, e.ps, def_ok hc T n k g e b fe he w1, hr, w2, w1.kp, w3⟩
          · have hg : (t.gls.map (·.1))[g]? = some x := hg
            rw [List.getElem?_map] at hg
            obtain ⟨⟨y, e⟩, he, hx⟩ := Option.map_eq_some_iff.mp hg
            cases hx
            obtain ⟨u, v, w1, w2, w3⟩ := T.gl g y e he
            refine ⟨u, v, w1, w2, fun F H => ?_⟩
            have : t.gl g = e := by unfold Tx.gl; rw [he]; rfl
            rw [this]; exact w3 F H
        refine ⟨_, sS G (n := n) d4, ?_⟩
        have hst : L2.start d.N vs = vs.map some ++ List.replicate (d.fn.slots - d.fn.params) none := by
          unfold L2.start
          rw [d1, hlv]
        rw [hst]
        refine ⟨F, Z, _, c, env', r.pad _, h1, fun σ' H' F' f' st' R' kp => ?_⟩
        have kin := evS_kin h1
        have io : ∀ rv' : Rv, IoEnd K F' Z H' (env'.take d.fn.params) vs := fun _ i m e => by
          rw [List.getElem?_take] at e
          split at e
          · rename_i hi
            obtain ⟨b, q1, q2, q3, q4⟩ := R'.own i _ m e rfl
            have kd' : kd (sl ++ List.replicate (d.fn.slots - d.fn.params) .no) i ≠ 0 := by
              rw [← kin.2 i]
              show kd1 env'[i]? ≠ 0
              rw [e]; exact fun z => nomatch z
            rw [kp i kd', List.getElem?_append_left (by rw [List.length_map]; omega), List.getElem?_map] at q1
            refine ⟨b, ?_, q2, q3, q4⟩
            cases hv : vs[i]? with
            | none => rw [hv] at q1; cases q1
            | some v => rw [hv] at q1; cases q1; rfl
          · cases e
        have fin : ∀ (rv' : Rv) (v : V), RvRel K F' Z H' env' σ' rv' v → RvC K F' Z H' (env'.take d.fn.params) vs rv' v := fun rv' v q => by
          cases rv' with
          | val d => exact q
          | new m =>
            obtain ⟨b, w1, w2, w3⟩ := q
            refine ⟨b, w1, w2.1, w2.2.1, w3, fun i m' e z => ?_⟩
            rw [List.getElem?_take] at e
            split at e
            · rename_i hi
              have kd' : kd (sl ++ List.replicate (d.fn.slots - d.fn.params) .no) i ≠ 0 := by
                rw [← kin.2 i]
                show kd1 env'[i]? ≠ 0
                rw [e]; exact fun z => nomatch z
              refine w2.2.2 i _ m' e rfl ?_
              rw [kp i kd', List.getElem?_append_left (by rw [List.length_map]; omega), List.getElem?_map, z]; rfl
            · cases e
        cases c with
        | nx =>
          cases h2
          exact kq .non H' F' f' R'.fd R'.dj st' (io (.val .none)) Rep.non
        | ret rv' =>
          cases h2
          exact fun v q => kq v H' F' f' R'.fd R'.dj st' (io rv) (fin rv v q)
        | bk => cases h2
        | ct => cases h2
      · cases h
/-- a def as it stands behind the top -/
def DfAt (K : PySem.W.Frag) (mg : Str → Option Value) (d : Df) : Prop := ∃ a fd, Fun K d.name d.name d.st a fd ∧ mg d.name = some (.ref a) ∧ ∀ us : List Value, us.length = d.ps.length → bindArgs fd ⟨us, []⟩ = pure (d.ps.zip us)
theorem df_mk {d : Df} {h : Heap} {x : Str} (X : K.In h) (G : h.Ns mainGlobals mg) (hx : d.name = x) {f : Addr} {oc : Value} {od an : Option Addr} {osl : Array (Option Value)} {kV doc pm cdv ct : Value} (a1 : PySem.W.nsIn K mainGlobals x = some (some (.ref f)))
    (l : K.lookup f = some ⟨oc, od, .func (PySem.W.fnOf x x (defArgs d.st) (defBody d.st) (defScope d.st) .none kV doc pm an cdv ct), osl⟩) (c : PySem.W.codeIn K cdv x = true) (k : PySem.W.keepIn K (.ref f) = true)
    (hb : ∀ (kV doc pm : Value) (an : Option Addr) (cdv ct : Value) (us : List Value), us.length = d.ps.length → bindArgs (PySem.W.fnOf x x (defArgs d.st) (defBody d.st) (defScope d.st) .none kV doc pm an cdv ct) ⟨us, []⟩ = pure (d.ps.zip us)) : DfAt K mg d := by
  subst hx
  have F := fun_mk l c k
  exact ⟨f, _, F, PySem.W.mg_of X G a1, hb kV doc pm an cdv ct⟩
def AllAt (K : PySem.W.Frag) (mg : Str → Option Value) : List Df → Prop
  | [] => True
  | d :: ds => DfAt K mg d ∧ AllAt K mg ds
/-- .. where the written part is known -/
abbrev AllIn {K : PySem.W.Frag} {h : Heap} (_ : K.In h) (mg : Str → Option Value) (ds : List Df) : Prop := AllAt K mg ds
abbrev GlsIn {K : PySem.W.Frag} {h : Heap} (_ : K.In h) (mg : Str → Option Value) (gls : List (Str × D)) : Prop := ∀ (g : Nat) (x : Str) (e : D), gls[g]? = some (x, e) → ∃ u v, mg x = some u ∧ RelV v u ∧ ∀ F H, Rep K F H e v
/-- a module's constant that is a tuple -/
theorem gl_tup {K : PySem.W.Frag} {h : Heap} {mg : Str → Option Value} {x : Str} {u : Value} {a : Addr} {o : Obj} {its : Array Value} {n : Nat} {vs : List V} {ds : List D} (KX : K.In h) (G : h.Ns mainGlobals mg) (e : PySem.W.nsIn K mainGlobals x = some (some u)) (eu : u = .ref a)
    (l : K.lookup a = some o) (hc : o.cls = .type "tuple") (hd : o.data = .seq its n) (hs : its.size ≤ sizeLine) (hv : Vals vs its.toList) (hr : ∀ F H, Reps K F H ds vs) : ∃ u v, mg x = some u ∧ RelV v u ∧ ∀ F H, Rep K F H (.tuple ds) v := by
  subst eu
  exact ⟨.ref a, .ref a, PySem.W.mg_of KX G e, rfl, fun F H => .tup (.inr ⟨o, its, n, l, hc, hd, hs, hv⟩) (hr F H)⟩
theorem AllAt.get : ∀ {ds : List Df} {f : Nat} {d : Df}, AllAt K mg ds → ds[f]? = some d → DfAt K mg d
  | _ :: _, 0, _, h, e => by cases e; exact h.1
  | _ :: ds, f + 1, _, h, e => AllAt.get (ds := ds) (f := f) h.2 e
def NoneAt (mg : Str → Option Value) : List Str → Prop
  | [] => True
  | x :: xs => mg x = none ∧ NoneAt mg xs
theorem NoneAt.get : ∀ {xs : List Str} {x : Str}, NoneAt mg xs → x ∈ xs → mg x = none
  | y :: ys, x, h, e => by
    rcases List.mem_cons.mp e with rfl | e
    · exact h.1
    · exact NoneAt.get h.2 e
/-! ### the law -/
/-- numbers of a script: at most 2^20 binary signs each -/
def Sc (ns : List Int) : Prop := ns.length ≤ 63 ∧ ∀ z ∈ ns, z.natAbs.log2 ≤ 1048576
/-- the law's promise: true, on every script -/
def spLaw (K : PySem.W.Frag) : Sp := fun vs H Q _ => ∃ (a : Addr) (ns : List Int), vs = [.ref a] ∧ SqL K H a (ns.map V.int) ∧ Sc ns ∧ Only H ∧ ∀ H', Q (.bl true) H'
/-- the mathematics of a law: its small program answers true -/
def Tx.Says (t : Tx) (f : Nat) (n k : Nat) : Prop := ∀ ns : List Int, Sc ns → ∃ sl, t.call n k f [.val (scrD (ns.map .int))] = some (.val (.bool true), sl)
theorem sc_of {n : Nat} {ns : List Int} (hn : n ≤ 63) (h : ns.length ≤ n) (hb : ∀ z ∈ ns, Builtin.Int.intBits z ≤ 1048576) : Sc ns := by
  refine ⟨by omega, fun z hz => ?_⟩
  have := hb z hz
  unfold Builtin.Int.intBits at this
  split at this
  · rename_i h0
    have : z = 0 := by simpa using h0
    subst this
    decide
  · omega
theorem reps_of_ints {ns : List Int} : Reps K F H (ns.map .int) (ns.map V.int) := by
  induction ns with
  | nil => exact .nil
  | cons n r ih => exact .cons (.int n) ih
theorem law_ok {t : Tx} (hc : t.ok = true) (T : TxOk K mg t) {n k f : Nat} {d : Df} {a : Addr} {fd : FuncData} (hd : t.dfs[f]? = some d) (Fu : Fun K d.name d.name d.st a fd) (hm : t.Says f n k) : FnOk P w K mg base CX0 k a fd d.ps (spLaw K) := by
  refine (def_ok hc T n k f d a fd hd Fu).imp fun vs H Q E h => ?_
  obtain ⟨b, ns, rfl, hS, hl, hO, q⟩ := h
  obtain ⟨sl', he⟩ := hm ns hl
  have hsc : ScrAt K H b (ns.map V.int) := by
    rcases hS with (h | ⟨o, h⟩) | h
    · rcases hO b with z | ⟨o, xs, z⟩
      · rw [z] at h; cases h
      · rw [z] at h; cases h
    · exact .inl ⟨o, h⟩
    · exact .inr h
  refine ⟨fun _ => False, fun _ => False, [.val (scrD (ns.map .int))], _, sl', ⟨rfl, fun _ h => h.elim, fun _ h => h.elim, fun _ h => h.elim, fun i d e => ?_, fun i s m e o => ?_, fun i j s s' m m' a e o _ _ _ _ => ?_, fun i m e => ?_⟩, he, fun v H' F' _ _ _ _ _ rc => ?_⟩
  · match i, e with
    | 0, e => cases e; exact ⟨.ref b, rfl, .scr hsc reps_of_ints⟩
  · match i, e with
    | 0, e => cases e; cases o
  · match i, e with
    | 0, e => cases e; cases o
  · match i, e with
    | 0, e => cases e
  · cases rc
    exact q H'
/-- the law's def, for the end -/
theorem law_mk {t : Tx} (hc : t.ok = true) {n k f : Nat} {d : Df} {x : Str} {fa : Addr} (hd : t.dfs[f]? = some d) (hx : d.ps = [x]) (hfa : mg d.name = some (.ref fa)) (hm : t.Says f n k) (hA : AllAt K mg t.dfs) (hB : NoneAt mg t.blt)
    (hG : ∀ (g : Nat) (x : Str) (e : D), t.gls[g]? = some (x, e) → ∃ u v, mg x = some u ∧ RelV v u ∧ ∀ F H, Rep K F H e v) (hC : t.gcd = true → mg "gcd" = some (.builtin "math.gcd")) :
    ∃ fd : FuncData, (∀ (s : Shared) (v : Value), BindsTo s fd ⟨[v], []⟩ [(x, v)]) ∧ ∀ (P : Program) (w : World) (base : Heap), FnOk P w K mg base CX0 k fa fd [x] (spLaw K) := by
  obtain ⟨a, fd, w1, w2, w3⟩ := hA.get hd
  have e := hfa.symm.trans w2
  cases e
  have T : TxOk K mg t := ⟨fun f d h => let ⟨a, fd, w1, w2, w3⟩ := hA.get h; ⟨a, fd, w1, w2, .all w3⟩, hG, fun x h => hB.get h, hC⟩
  refine ⟨fd, fun s v => ?_, fun P w base => ?_⟩
  · have := w3 [v] (by rw [hx]; rfl)
    rw [hx] at this
    exact .of_eq this
  · have := law_ok (P := P) (w := w) (base := base) hc T hd w1 hm
    rw [hx] at this
    exact this
end
end Pv

namespace Pv
open PySem PySem.Spec PyProof.Rows

/-! ### what an evaluation reaches -/
section
variable (gl : Nat → D) (cf : Nat → List Sl → Option (Rv × List Sl)) (n : Nat)
def WE (e : E) (env : Env') (Q : Rv → Env' → Prop) : Prop := ∃ rv env', evE gl cf e env = some (rv, env') ∧ Q rv env'
def WEs (es : Es) (env : Env') (Q : List D → Env' → Prop) : Prop := ∃ ds env', evEs gl cf es env = some (ds, env') ∧ Q ds env'
def WAs (es : Es) (env : Env') (Q : List Ag → Env' → Prop) : Prop := ∃ ds env', evAs gl cf es env = some (ds, env') ∧ Q ds env'
def WI (it : It) (env : Env') (Q : List D → Env' → Prop) : Prop := ∃ xs env', evI gl cf it env = some (xs, env') ∧ Q xs env'
def WCs (cs : Es) (env : Env') (Q : Bool → Env' → Prop) : Prop := ∃ b env', evCs gl cf cs env = some (b, env') ∧ Q b env'
def WS (s : S) (env : Env') (Q : Ctl → Env' → Prop) : Prop := ∃ c env', evS gl cf n s env = some (c, env') ∧ Q c env'
/-- a call of a def -/
def WC (f : Nat) (sl : List Sl) (Q : Rv → List Sl → Prop) : Prop := ∃ rv sl', cf f sl = some (rv, sl') ∧ Q rv sl'
end
def WO (o : Op) (ds : List D) (Q : Rv → Prop) : Prop := ∃ rv, opf o ds = some rv ∧ Q rv
/-- a bool -/
def WB (rv : Rv) (Q : Bool → Prop) : Prop := match rv with
  | .val (.bool b) => Q b
  | _ => False
section
variable {gl : Nat → D} {cf : Nat → List Sl → Option (Rv × List Sl)} {n : Nat} {env : Env'}
theorem WE.mono {e : E} {Q Q' : Rv → Env' → Prop} (h : WE gl cf e env Q) (w : ∀ a b, Q a b → Q' a b) : WE gl cf e env Q' := by
  obtain ⟨a, b, h, q⟩ := h; exact ⟨a, b, h, w _ _ q⟩
theorem WS.mono {s : S} {Q Q' : Ctl → Env' → Prop} (h : WS gl cf n s env Q) (w : ∀ a b, Q a b → Q' a b) : WS gl cf n s env Q' := by
  obtain ⟨a, b, h, q⟩ := h; exact ⟨a, b, h, w _ _ q⟩
theorem WC.mono {f : Nat} {sl : List Sl} {Q Q' : Rv → List Sl → Prop} (h : WC cf f sl Q) (w : ∀ a b, Q a b → Q' a b) : WC cf f sl Q' := by
  obtain ⟨a, b, h, q⟩ := h; exact ⟨a, b, h, w _ _ q⟩
theorem ex_eq {α β : Type} {x : α} {y : β} {Q : α → β → Prop} : (∃ a b, some (x, y) = some (a, b) ∧ Q a b) ↔ Q x y := ⟨fun ⟨_, _, h, q⟩ => by (cases h; exact q), fun q => ⟨x, y, rfl, q⟩⟩
theorem ex_no {α β : Type} {Q : α → β → Prop} : (∃ a b, (none : Option (α × β)) = some (a, b) ∧ Q a b) ↔ False := ⟨fun ⟨_, _, h, _⟩ => (nomatch h), False.elim⟩
theorem bind_ex {α β : Type} {x : Option (List α × β)} {a : α} {Q : List α → β → Prop} : (∃ ds e, (x.bind fun (p : List α × β) => some (a :: p.1, p.2)) = some (ds, e) ∧ Q ds e) ↔ ∃ ds e, x = some (ds, e) ∧ Q (a :: ds) e := by
  constructor
  · rintro ⟨ds, e', h, q⟩
    obtain ⟨⟨ds', e1⟩, h1, h⟩ := Option.bind_eq_some_iff.mp h
    cases h
    exact ⟨ds', _, h1, q⟩
  · rintro ⟨ds, e', h, q⟩
    exact ⟨_, _, by rw [h]; rfl, q⟩
theorem w_cst {d : D} {Q : Rv → Env' → Prop} : WE gl cf (.cst d) env Q ↔ Q (.val d) env := by unfold WE evE; exact ex_eq
theorem w_var {i : Nat} {Q : Rv → Env' → Prop} : WE gl cf (.var i) env Q ↔ (match env[i]? with | some (.val d) => Q (.val d) env | some (.loc m) => Q (.val m.d) (env.set i (.val m.d)) | _ => False) := by
  unfold WE
  rw [evE]
  generalize env[i]? = o
  cases o with
  | none => exact ex_no
  | some s => cases s <;> first | exact ex_no | exact ex_eq
theorem w_mov {i : Nat} {Q : Rv → Env' → Prop} : WE gl cf (.mov i) env Q ↔ (match env[i]? with | some (.loc m) => Q (.new m) (env.set i .no) | _ => False) := by
  unfold WE
  rw [evE]
  generalize env[i]? = o
  cases o with
  | none => exact ex_no
  | some s => cases s <;> first | exact ex_no | exact ex_eq
theorem w_glb {i : Nat} {Q : Rv → Env' → Prop} : WE gl cf (.glb i) env Q ↔ Q (.val (gl i)) env := by unfold WE evE; exact ex_eq
theorem w_op {o : Op} {es : Es} {Q : Rv → Env' → Prop} : WE gl cf (.op o es) env Q ↔ WEs gl cf es env fun ds env1 => WO o ds fun rv => Q rv (if es.hasB then unb env env1 else env1) := by
  unfold WE WEs WO
  rw [evE]
  constructor
  · rintro ⟨rv, e', h, q⟩
    obtain ⟨⟨ds, e1⟩, h1, h⟩ := Option.bind_eq_some_iff.mp h
    obtain ⟨rv', h2, h⟩ := Option.bind_eq_some_iff.mp h
    cases h
    exact ⟨ds, e1, h1, rv, h2, q⟩
  · rintro ⟨ds, e1, h1, rv, h2, q⟩
    exact ⟨rv, _, by rw [h1]; simp only [Option.bind_some]; rw [h2]; rfl, q⟩
theorem w_tup {es : Es} {Q : Rv → Env' → Prop} : WE gl cf (.tup es) env Q ↔ WEs gl cf es env fun ds env1 => (es.hasB = false ∧ ds.length ≤ line) ∧ Q (.val (.tuple ds)) env1 := by
  unfold WE WEs
  rw [evE]
  constructor
  · rintro ⟨rv, e', h, q⟩
    obtain ⟨⟨ds, e1⟩, h1, h⟩ := Option.bind_eq_some_iff.mp h
    dsimp only at h
    split at h
    · rename_i hh; cases h; exact ⟨ds, _, h1, hh, q⟩
    · cases h
  · rintro ⟨ds, e1, h1, hh, q⟩
    exact ⟨_, _, by rw [h1]; simp only [Option.bind_some]; rw [if_pos hh], q⟩
theorem w_dct {Q : Rv → Env' → Prop} : WE gl cf .dct env Q ↔ Q (.new (.dk [])) env := by
  unfold WE
  rw [evE]
  exact ⟨fun ⟨_, _, h, q⟩ => by cases h; exact q, fun q => ⟨_, _, rfl, q⟩⟩
theorem w_lst {es : Es} {Q : Rv → Env' → Prop} : WE gl cf (.lst es) env Q ↔ WEs gl cf es env fun ds env1 => (es.hasB = false ∧ ds.length ≤ line) ∧ Q (.new (.lst ds)) env1 := by
  unfold WE WEs
  rw [evE]
  constructor
  · rintro ⟨rv, e', h, q⟩
    obtain ⟨⟨ds, e1⟩, h1, h⟩ := Option.bind_eq_some_iff.mp h
    dsimp only at h
    split at h
    · rename_i hh; cases h; exact ⟨ds, _, h1, hh, q⟩
    · cases h
  · rintro ⟨ds, e1, h1, hh, q⟩
    exact ⟨_, _, by rw [h1]; simp only [Option.bind_some]; rw [if_pos hh], q⟩
theorem w_and {a b : E} {Q : Rv → Env' → Prop} : WE gl cf (.and a b) env Q ↔ WE gl cf a env fun rv env1 => WB rv fun k => if k = true then WE gl cf b env1 Q else Q (.val (.bool false)) env1 := by
  unfold WE WB
  rw [evE]
  constructor
  · rintro ⟨rv, e', h, q⟩
    obtain ⟨p, h1, h⟩ := Option.bind_eq_some_iff.mp h
    split at h
    · exact ⟨_, _, h1, _, _, h, q⟩
    · cases h; exact ⟨_, _, h1, q⟩
    · cases h
  · rintro ⟨rv, e1, h1, q⟩
    split at q
    · rename_i k
      cases k
      · exact ⟨_, _, by rw [h1]; rfl, q⟩
      · obtain ⟨rv', e', h, q⟩ := q; exact ⟨rv', e', by rw [h1]; exact h, q⟩
    · exact q.elim
theorem w_or {a b : E} {Q : Rv → Env' → Prop} : WE gl cf (.or a b) env Q ↔ WE gl cf a env fun rv env1 => WB rv fun k => if k = true then Q (.val (.bool true)) env1 else WE gl cf b env1 Q := by
  unfold WE WB
  rw [evE]
  constructor
  · rintro ⟨rv, e', h, q⟩
    obtain ⟨p, h1, h⟩ := Option.bind_eq_some_iff.mp h
    split at h
    · cases h; exact ⟨_, _, h1, q⟩
    · exact ⟨_, _, h1, _, _, h, q⟩
    · cases h
  · rintro ⟨rv, e1, h1, q⟩
    split at q
    · rename_i k
      cases k
      · obtain ⟨rv', e', h, q⟩ := q; exact ⟨rv', e', by rw [h1]; exact h, q⟩
      · exact ⟨_, _, by rw [h1]; rfl, q⟩
    · exact q.elim
theorem w_not {a : E} {Q : Rv → Env' → Prop} : WE gl cf (.not a) env Q ↔ WE gl cf a env fun rv env1 => WB rv fun k => Q (.val (.bool (!k))) env1 := by
  unfold WE WB
  rw [evE]
  constructor
  · rintro ⟨rv, e', h, q⟩
    obtain ⟨p, h1, h⟩ := Option.bind_eq_some_iff.mp h
    split at h
    · cases h; exact ⟨_, _, h1, q⟩
    · cases h
  · rintro ⟨rv, e1, h1, q⟩
    split at q
    · exact ⟨_, _, by rw [h1]; rfl, q⟩
    · exact q.elim
theorem w_ife {c a b : E} {Q : Rv → Env' → Prop} : WE gl cf (.ife c a b) env Q ↔ WE gl cf c env fun rv env1 => WB rv fun k => if k = true then WE gl cf a env1 Q else WE gl cf b env1 Q := by
  unfold WE WB
  rw [evE]
  constructor
  · rintro ⟨rv, e', h, q⟩
    obtain ⟨p, h1, h⟩ := Option.bind_eq_some_iff.mp h
    split at h
    · exact ⟨_, _, h1, _, _, h, q⟩
    · exact ⟨_, _, h1, _, _, h, q⟩
    · cases h
  · rintro ⟨rv, e1, h1, q⟩
    split at q
    · rename_i k
      cases k <;> (obtain ⟨rv', e', h, q⟩ := q; exact ⟨rv', e', by rw [h1]; exact h, q⟩)
    · exact q.elim
theorem w_chn {o1 o2 : Op} {a b c : E} {Q : Rv → Env' → Prop} : WE gl cf (.chn o1 o2 a b c) env Q ↔ WE gl cf a env fun ra e1 => WE gl cf b e1 fun rb e2 => WO o1 [frz ra, frz rb] fun rv => WB rv fun k => if k = true then WE gl cf c e2 fun rc e3 => WO o2 [frz rb, frz rc] fun rv => Q rv e3 else Q (.val (.bool false)) e2 := by
  unfold WE WB WO
  rw [evE]
  constructor
  · rintro ⟨rv, e', h, q⟩
    obtain ⟨⟨ra, e1⟩, h1, h⟩ := Option.bind_eq_some_iff.mp h
    obtain ⟨⟨rb, e2⟩, h2, h⟩ := Option.bind_eq_some_iff.mp h
    obtain ⟨p, h3, h⟩ := Option.bind_eq_some_iff.mp h
    split at h
    · obtain ⟨⟨rc, e3⟩, h4, h⟩ := Option.bind_eq_some_iff.mp h
      obtain ⟨p, h5, h⟩ := Option.bind_eq_some_iff.mp h
      cases h
      exact ⟨_, _, h1, _, _, h2, _, h3, _, _, h4, _, h5, q⟩
    · cases h; exact ⟨_, _, h1, _, _, h2, _, h3, q⟩
    · cases h
  · rintro ⟨ra, e1, h1, rb, e2, h2, p, h3, q⟩
    replace h3 : op2 o1 (frz ra) (frz rb) = some p := h3
    split at q
    · rename_i k
      cases k
      · exact ⟨_, _, by rw [h1]; simp only [Option.bind_some]; rw [h2]; simp only [Option.bind_some]; rw [h3]; rfl, q⟩
      · obtain ⟨rc, e3, h4, p, h5, q⟩ := q
        replace h5 : op2 o2 (frz rb) (frz rc) = some p := h5
        exact ⟨_, _, by rw [h1]; simp only [Option.bind_some]; rw [h2]; simp only [Option.bind_some]; rw [h3]; simp only [Option.bind_some]; rw [h4]; simp only [Option.bind_some]; rw [h5]; rfl, q⟩
    · exact q.elim
theorem w_call {f : Nat} {es : Es} {Q : Rv → Env' → Prop} : WE gl cf (.call f es) env Q ↔ WAs gl cf es env fun ag env1 => nodupB (pends ag) = true ∧ ∃ sl, getArgs env1 ag = some sl ∧ WC cf f sl fun rv sl' => ∃ env2, putBack ag sl' env1 = some env2 ∧ Q rv (if es.hasB then unb env env2 else env2) := by
  unfold WE WAs WC
  rw [evE]
  constructor
  · rintro ⟨rv, e', h, q⟩
    obtain ⟨⟨ag, e1⟩, h1, h⟩ := Option.bind_eq_some_iff.mp h
    dsimp only at h
    split at h
    · rename_i nd
      obtain ⟨sl, h2, h⟩ := Option.bind_eq_some_iff.mp h
      obtain ⟨⟨rv', sl'⟩, h3, h⟩ := Option.bind_eq_some_iff.mp h
      obtain ⟨e2, h4, h⟩ := Option.bind_eq_some_iff.mp h
      cases h
      exact ⟨ag, e1, h1, nd, sl, h2, _, sl', h3, e2, h4, q⟩
    · cases h
  · rintro ⟨ag, e1, h1, nd, sl, h2, rv, sl', h3, e2, h4, q⟩
    exact ⟨rv, _, by rw [h1]; simp only [Option.bind_some]; rw [if_pos nd, h2]; simp only [Option.bind_some]; rw [h3]; simp only [Option.bind_some]; rw [h4]; rfl, q⟩
theorem w_mth {m : Mm} {i : Nat} {es : Es} {Q : Rv → Env' → Prop} : WE gl cf (.mth m i es) env Q ↔ ∃ s0 m0, env[i]? = some s0 ∧ s0.own = some m0 ∧ (m0.isL = true ∧ es.hasB = false) ∧ WEs gl cf es env fun ds env1 => ∃ s mo mo' d, env1[i]? = some s ∧ s.own = some mo ∧ mmf m mo ds = some (mo', d) ∧ Q (.val d) (env1.set i (s.put mo')) := by
  unfold WE WEs
  rw [evE]
  constructor
  · rintro ⟨rv, e', h, q⟩
    obtain ⟨s0, h0, h⟩ := Option.bind_eq_some_iff.mp h
    obtain ⟨m0, ho, h⟩ := Option.bind_eq_some_iff.mp h
    split at h
    · cases h
    · rename_i hb
      obtain ⟨⟨ds, e1⟩, h1, h⟩ := Option.bind_eq_some_iff.mp h
      obtain ⟨s, hs, h⟩ := Option.bind_eq_some_iff.mp h
      obtain ⟨mo, hm, h⟩ := Option.bind_eq_some_iff.mp h
      obtain ⟨⟨mo', d⟩, hmm, h⟩ := Option.bind_eq_some_iff.mp h
      cases h
      simp only [not_or, Bool.not_eq_false, Bool.not_eq_true] at hb
      exact ⟨s0, m0, h0, ho, hb, ds, e1, h1, s, mo, mo', d, hs, hm, hmm, q⟩
  · rintro ⟨s0, m0, h0, ho, hb, ds, e1, h1, s, mo, mo', d, hs, hm, hmm, q⟩
    refine ⟨_, _, ?_, q⟩
    rw [h0]; simp only [Option.bind_some]
    rw [ho]; simp only [Option.bind_some]
    rw [if_neg (by simp [hb.1, hb.2]), h1]; simp only [Option.bind_some]
    rw [hs]; simp only [Option.bind_some]
    rw [hm]; simp only [Option.bind_some]
    rw [hmm]; rfl
theorem w_nil {Q : List D → Env' → Prop} : WEs gl cf .nil env Q ↔ Q [] env := by unfold WEs evEs; exact ex_eq
theorem w_brw {i : Nat} {es : Es} {Q : List D → Env' → Prop} : WEs gl cf (.cons (.brw i) es) env Q ↔ (match env[i]? with | some (.val d) => WEs gl cf es env (fun ds e => Q (d :: ds) e) | some (.loc m) => WEs gl cf es (env.set i (.brw m)) (fun ds e => Q (m.d :: ds) e) | some (.io m) => WEs gl cf es (env.set i (.brw m)) (fun ds e => Q (m.d :: ds) e) | some (.brw m) => WEs gl cf es env (fun ds e => Q (m.d :: ds) e) | _ => False) := by
  unfold WEs
  rw [evEs]
  generalize env[i]? = o
  cases o with
  | none => exact ex_no
  | some s => cases s <;> first | exact ex_no | exact bind_ex
theorem w_cons {e : E} {es : Es} {Q : List D → Env' → Prop} (hn : ∀ i, e ≠ .brw i) : WEs gl cf (.cons e es) env Q ↔ WE gl cf e env fun rv e1 => WEs gl cf es e1 fun ds e2 => Q (frz rv :: ds) e2 := by
  unfold WEs WE
  rw [evEs.eq_3 _ _ _ _ _ hn]
  constructor
  · rintro ⟨ds, e', h, q⟩
    obtain ⟨⟨rv, e1⟩, h1, h⟩ := Option.bind_eq_some_iff.mp h
    obtain ⟨⟨ds', e2⟩, h2, h⟩ := Option.bind_eq_some_iff.mp h
    cases h
    exact ⟨rv, e1, h1, ds', _, h2, q⟩
  · rintro ⟨rv, e1, h1, ds', e2, h2, q⟩
    exact ⟨_, _, by rw [h1]; simp only [Option.bind_some]; rw [h2]; rfl, q⟩
theorem a_nil {Q : List Ag → Env' → Prop} : WAs gl cf .nil env Q ↔ Q [] env := by unfold WAs evAs; exact ex_eq
theorem a_brw {i : Nat} {es : Es} {Q : List Ag → Env' → Prop} : WAs gl cf (.cons (.brw i) es) env Q ↔ (match env[i]? with | some (.val d) => WAs gl cf es env (fun ds e => Q (.sl (.val d) :: ds) e) | some (.loc m) => WAs gl cf es (env.set i (.brw m)) (fun ds e => Q (.sl (.brw m) :: ds) e) | some (.io m) => WAs gl cf es (env.set i (.brw m)) (fun ds e => Q (.sl (.brw m) :: ds) e) | some (.brw m) => WAs gl cf es env (fun ds e => Q (.sl (.brw m) :: ds) e) | _ => False) := by
  unfold WAs
  rw [evAs]
  generalize env[i]? = o
  cases o with
  | none => exact ex_no
  | some s => cases s <;> first | exact ex_no | exact bind_ex
theorem a_mov0 {i : Nat} {es : Es} {Q : List Ag → Env' → Prop} : WAs gl cf (.cons (.mov i) es) env Q ↔ (∃ s m, env[i]? = some s ∧ s.own = some m) ∧ WAs gl cf es env fun ds e => Q (.pend i :: ds) e := by
  unfold WAs
  rw [evAs]
  constructor
  · rintro ⟨ds, e', h, q⟩
    obtain ⟨s, hs, h⟩ := Option.bind_eq_some_iff.mp h
    obtain ⟨m, hm, h⟩ := Option.bind_eq_some_iff.mp h
    obtain ⟨⟨ds', e1⟩, h1, h⟩ := Option.bind_eq_some_iff.mp h
    cases h
    exact ⟨⟨s, m, hs, hm⟩, ds', _, h1, q⟩
  · rintro ⟨⟨s, m, hs, hm⟩, ds', e1, h1, q⟩
    exact ⟨_, _, by rw [hs]; simp only [Option.bind_some]; rw [hm]; simp only [Option.bind_some]; rw [h1]; rfl, q⟩
theorem a_cons {e : E} {es : Es} {Q : List Ag → Env' → Prop} (hn : ∀ i, e ≠ .brw i) (hm : ∀ i, e ≠ .mov i) : WAs gl cf (.cons e es) env Q ↔ WE gl cf e env fun rv e1 => WAs gl cf es e1 fun ds e2 => Q (.sl (.val (frz rv)) :: ds) e2 := by
  unfold WAs WE
  rw [evAs.eq_4 _ _ _ _ _ hn hm]
  constructor
  · rintro ⟨ds, e', h, q⟩
    obtain ⟨⟨rv, e1⟩, h1, h⟩ := Option.bind_eq_some_iff.mp h
    obtain ⟨⟨ds', e2⟩, h2, h⟩ := Option.bind_eq_some_iff.mp h
    cases h
    exact ⟨rv, e1, h1, ds', _, h2, q⟩
  · rintro ⟨rv, e1, h1, ds', e2, h2, q⟩
    exact ⟨_, _, by rw [h1]; simp only [Option.bind_some]; rw [h2]; rfl, q⟩
end
end Pv

namespace Pv
open PySem PySem.Spec PyProof.Rows

def Wset (i : Nat) (s : Sl) (env : Env') (Q : Env' → Prop) : Prop := ∃ e, setAt i s env = some e ∧ Q e
def Wall (is : List Nat) (ds : List D) (env : Env') (Q : Env' → Prop) : Prop := ∃ e, setAll is ds env = some e ∧ Q e
def Wtg (tg : Tg) (d : D) (env : Env') (Q : Env' → Prop) : Prop := ∃ e, setTg tg d env = some e ∧ Q e
def Wown (env : Env') (i : Nat) (Q : Sl → Mo → Prop) : Prop := ∃ s m, env[i]? = some s ∧ s.own = some m ∧ Q s m
def Wmm (m : Mm) (mo : Mo) (ds : List D) (Q : Mo → D → Prop) : Prop := ∃ mo' d, mmf m mo ds = some (mo', d) ∧ Q mo' d
def Wst (mo : Mo) (k d : D) (Q : Mo → Prop) : Prop := ∃ mo', setf mo k d = some mo' ∧ Q mo'
def Wpr (d : D) (Q : D → D → Prop) : Prop := ∃ a b, pair? d = some (a, b) ∧ Q a b
def Wwk (d : D) (Q : List D → Prop) : Prop := ∃ xs, walked d = some xs ∧ Q xs
def Wrg (ds : List D) (Q : List D → Prop) : Prop := ∃ xs, rngf ds = some xs ∧ Q xs
def Wga (env : Env') (ag : List Ag) (Q : List Sl → Prop) : Prop := ∃ sl, getArgs env ag = some sl ∧ Q sl
def Wpb (ag : List Ag) (sl : List Sl) (env : Env') (Q : Env' → Prop) : Prop := ∃ e, putBack ag sl env = some e ∧ Q e
def Wat (xs : List D) (i : Int) (Q : D → Prop) : Prop := ∃ d, L2.atI xs i = some d ∧ Q d
def Wix (n : Nat) (i : Int) (Q : Nat → Prop) : Prop := ∃ k, L2.ixN n i = some k ∧ Q k
def Wpop (xs : List D) (Q : D → Prop) : Prop := ∃ d, xs[xs.length - 1]? = some d ∧ Q d
section
variable {gl : Nat → D} {cf : Nat → List Sl → Option (Rv × List Sl)} {n : Nat} {env : Env'} {Q : Ctl → Env' → Prop}
theorem wset {i : Nat} {s : Sl} {Q : Env' → Prop} : Wset i s env Q ↔ (match env[i]? with | some t => t.free = true ∧ Q (env.set i s) | none => False) := by
  unfold Wset setAt
  cases env[i]? with
  | none => exact ⟨fun ⟨_, h, _⟩ => (nomatch h), False.elim⟩
  | some t =>
    dsimp only
    constructor
    · rintro ⟨e, h, q⟩
      split at h
      · cases h; exact ⟨by assumption, q⟩
      · cases h
    · rintro ⟨h, q⟩
      exact ⟨_, if_pos h, q⟩
theorem wall_nil {Q : Env' → Prop} : Wall [] [] env Q ↔ Q env := ⟨fun ⟨_, h, q⟩ => by (cases h; exact q), fun q => ⟨_, rfl, q⟩⟩
theorem wall_cons {i : Nat} {is : List Nat} {d : D} {ds : List D} {Q : Env' → Prop} : Wall (i :: is) (d :: ds) env Q ↔ Wset i (.val d) env fun e => Wall is ds e Q := by
  unfold Wall Wset
  rw [setAll]
  constructor
  · rintro ⟨e, h, q⟩
    obtain ⟨e1, h1, h2⟩ := Option.bind_eq_some_iff.mp h
    exact ⟨e1, h1, e, h2, q⟩
  · rintro ⟨e1, h1, e, h2, q⟩
    exact ⟨e, by rw [h1]; exact h2, q⟩
theorem wtg_nm {i : Nat} {d : D} {Q : Env' → Prop} : Wtg (.nm i) d env Q ↔ Wset i (.val d) env Q := Iff.rfl
theorem wtg_tl {is : List Nat} {ds : List D} {Q : Env' → Prop} : Wtg (.tp is) (.list ds) env Q ↔ Wall is ds env Q := Iff.rfl
theorem wtg_tp {is : List Nat} {ds : List D} {Q : Env' → Prop} : Wtg (.tp is) (.tuple ds) env Q ↔ Wall is ds env Q := Iff.rfl
theorem wown {i : Nat} {Q : Sl → Mo → Prop} : Wown env i Q ↔ (match env[i]? with | some (.loc m) => Q (.loc m) m | some (.io m) => Q (.io m) m | _ => False) := by
  unfold Wown
  cases env[i]? with
  | none => exact ⟨fun ⟨_, _, h, _⟩ => (nomatch h), False.elim⟩
  | some s =>
    cases s <;> first
      | exact ⟨fun ⟨_, _, h, h2, q⟩ => by (cases h; cases h2), False.elim⟩
      | exact ⟨fun ⟨_, _, h, h2, q⟩ => by (cases h; cases h2; exact q), fun q => ⟨_, _, rfl, rfl, q⟩⟩
theorem wga_nil {Q : List Sl → Prop} : Wga env [] Q ↔ Q [] := ⟨fun ⟨_, h, q⟩ => by (cases h; exact q), fun q => ⟨_, rfl, q⟩⟩
theorem wga_sl {s : Sl} {ag : List Ag} {Q : List Sl → Prop} : Wga env (.sl s :: ag) Q ↔ Wga env ag fun t => Q (s :: t) := by
  unfold Wga
  rw [getArgs]
  constructor
  · rintro ⟨e, h, q⟩
    obtain ⟨e1, h1, h2⟩ := Option.bind_eq_some_iff.mp h
    cases h2
    exact ⟨e1, h1, q⟩
  · rintro ⟨e1, h1, q⟩
    exact ⟨_, by rw [h1]; rfl, q⟩
theorem wga_pend {i : Nat} {ag : List Ag} {Q : List Sl → Prop} : Wga env (.pend i :: ag) Q ↔ Wown env i fun _ m => Wga env ag fun t => Q (.io m :: t) := by
  unfold Wga Wown
  rw [getArgs]
  constructor
  · rintro ⟨e, h, q⟩
    obtain ⟨x, h0, h⟩ := Option.bind_eq_some_iff.mp h
    obtain ⟨m, hm, h⟩ := Option.bind_eq_some_iff.mp h
    obtain ⟨e1, h1, h2⟩ := Option.bind_eq_some_iff.mp h
    cases h2
    exact ⟨x, m, h0, hm, e1, h1, q⟩
  · rintro ⟨x, m, h0, hm, e1, h1, q⟩
    exact ⟨_, by rw [h0]; simp only [Option.bind_some]; rw [hm]; simp only [Option.bind_some]; rw [h1]; rfl, q⟩
theorem wpb_nil {sl : List Sl} {Q : Env' → Prop} : Wpb [] sl env Q ↔ Q env := by
  unfold Wpb
  rw [putBack]
  exact ⟨fun ⟨_, h, q⟩ => by (cases h; exact q), fun q => ⟨_, rfl, q⟩⟩
theorem wpb_sl {s t : Sl} {ag : List Ag} {sl : List Sl} {Q : Env' → Prop} : Wpb (.sl s :: ag) (t :: sl) env Q ↔ Wpb ag sl env Q := Iff.rfl
theorem wpb_pend {i : Nat} {m : Mo} {ag : List Ag} {sl : List Sl} {Q : Env' → Prop} : Wpb (.pend i :: ag) (.io m :: sl) env Q ↔ (match env[i]? with | some x => Wpb ag sl (env.set i (x.put m)) Q | none => False) := by
  unfold Wpb
  rw [putBack]
  cases env[i]? with
  | none => exact ⟨fun ⟨_, h, _⟩ => (nomatch h), False.elim⟩
  | some x => exact Iff.rfl
theorem a_mov {i : Nat} {es : Es} {Q : List Ag → Env' → Prop} : WAs gl cf (.cons (.mov i) es) env Q ↔ Wown env i fun _ _ => WAs gl cf es env fun ds e => Q (.pend i :: ds) e := by
  rw [a_mov0]
  exact ⟨fun ⟨⟨s, m, h1, h2⟩, q⟩ => ⟨s, m, h1, h2, q⟩, fun ⟨s, m, h1, h2, q⟩ => ⟨⟨s, m, h1, h2⟩, q⟩⟩
theorem w_call' {f : Nat} {es : Es} {Q : Rv → Env' → Prop} : WE gl cf (.call f es) env Q ↔ WAs gl cf es env fun ag env1 => nodupB (pends ag) = true ∧ Wga env1 ag fun sl => WC cf f sl fun rv sl' => Wpb ag sl' env1 fun env2 => Q rv (if es.hasB then unb env env2 else env2) := w_call
theorem w_mth' {m : Mm} {i : Nat} {es : Es} {Q : Rv → Env' → Prop} : WE gl cf (.mth m i es) env Q ↔ Wown env i fun _ m0 => (m0.isL = true ∧ es.hasB = false) ∧ WEs gl cf es env fun ds env1 => Wown env1 i fun s mo => Wmm m mo ds fun mo' d => Q (.val d) (env1.set i (s.put mo')) := by
  rw [w_mth]
  constructor
  · rintro ⟨s0, m0, h0, ho, hb, ds, e1, h1, s, mo, mo', d, hs, hm, hmm, q⟩
    exact ⟨s0, m0, h0, ho, hb, ds, e1, h1, s, mo, hs, hm, mo', d, hmm, q⟩
  · rintro ⟨s0, m0, h0, ho, hb, ds, e1, h1, s, mo, hs, hm, mo', d, hmm, q⟩
    exact ⟨s0, m0, h0, ho, hb, ds, e1, h1, s, mo, mo', d, hs, hm, hmm, q⟩
theorem s_pass' : WS gl cf n .pass env Q ↔ Q .nx env := by unfold WS; rw [evS]; exact ex_eq
theorem s_brk' : WS gl cf n .brk env Q ↔ Q .bk env := by unfold WS; rw [evS]; exact ex_eq
theorem s_cnt' : WS gl cf n .cnt env Q ↔ Q .ct env := by unfold WS; rw [evS]; exact ex_eq
theorem s_retn' : WS gl cf n .retn env Q ↔ Q (.ret (.val .none)) env := by unfold WS; rw [evS]; exact ex_eq
/-- what goes on behind a statement -/
def CK (c : Ctl) (a b : Prop) : Prop := match c with
  | .nx => a
  | _ => b
theorem ck_nx {a b : Prop} : CK .nx a b ↔ a := Iff.rfl
theorem ck_ret {a b : Prop} {r : Rv} : CK (.ret r) a b ↔ b := Iff.rfl
theorem ck_bk {a b : Prop} : CK .bk a b ↔ b := Iff.rfl
theorem ck_ct {a b : Prop} : CK .ct a b ↔ b := Iff.rfl
theorem s_seq' {a b : S} : WS gl cf n (.seq a b) env Q ↔ WS gl cf n a env fun c e1 => CK c (WS gl cf n b e1 Q) (Q c e1) := by
  unfold WS CK
  rw [evS]
  constructor
  · rintro ⟨c, e, h, q⟩
    obtain ⟨⟨c1, e1⟩, h1, h⟩ := Option.bind_eq_some_iff.mp h
    refine ⟨c1, e1, h1, ?_⟩
    cases c1 with
    | nx => exact ⟨c, e, h, q⟩
    | _ => cases h; exact q
  · rintro ⟨c1, e1, h1, q⟩
    cases c1 with
    | nx => obtain ⟨c, e, h, q⟩ := q; exact ⟨c, e, by rw [h1]; exact h, q⟩
    | _ => exact ⟨_, _, by rw [h1]; rfl, q⟩
/-- a result is stored -/
def Wput (i : Nat) (rv : Rv) (env : Env') (Q : Env' → Prop) : Prop := match rv with
  | .val d => Wset i (.val d) env Q
  | .new m => Wset i (.loc m) env Q
theorem wput_val {i : Nat} {d : D} {Q : Env' → Prop} : Wput i (.val d) env Q ↔ Wset i (.val d) env Q := Iff.rfl
theorem wput_new {i : Nat} {m : Mo} {Q : Env' → Prop} : Wput i (.new m) env Q ↔ Wset i (.loc m) env Q := Iff.rfl
theorem s_set' {i : Nat} {e : E} : WS gl cf n (.set i e) env Q ↔ WE gl cf e env fun rv e1 => Wput i rv e1 fun e2 => Q .nx e2 := by
  unfold WS WE Wput Wset
  rw [evS]
  constructor
  · rintro ⟨c, e', h, q⟩
    obtain ⟨⟨rv, e1⟩, h1, h⟩ := Option.bind_eq_some_iff.mp h
    refine ⟨rv, e1, h1, ?_⟩
    cases rv <;> (obtain ⟨e2, h2, h⟩ := Option.bind_eq_some_iff.mp h; cases h; exact ⟨_, h2, q⟩)
  · rintro ⟨rv, e1, h1, q⟩
    cases rv <;> (obtain ⟨e2, h2, q⟩ := q; exact ⟨_, _, by rw [h1]; simp only [Option.bind_some]; rw [h2]; rfl, q⟩)
theorem s_unp' {is : List Nat} {e : E} : WS gl cf n (.unp is e) env Q ↔ WE gl cf e env fun rv e1 => Wtg (.tp is) (frz rv) e1 fun e2 => Q .nx e2 := by
  unfold WS WE Wtg
  rw [evS]
  constructor
  · rintro ⟨c, e', h, q⟩
    obtain ⟨⟨rv, e1⟩, h1, h⟩ := Option.bind_eq_some_iff.mp h
    obtain ⟨e2, h2, h⟩ := Option.bind_eq_some_iff.mp h
    cases h
    exact ⟨rv, e1, h1, _, h2, q⟩
  · rintro ⟨rv, e1, h1, e2, h2, q⟩
    exact ⟨_, _, by rw [h1]; simp only [Option.bind_some]; rw [h2]; rfl, q⟩
theorem s_par' {i j : Nat} {a b : E} : WS gl cf n (.par i j a b) env Q ↔ WE gl cf a env fun ra e1 => WE gl cf b e1 fun rb e2 => Wset i (.val (frz ra)) e2 fun e3 => Wset j (.val (frz rb)) e3 fun e4 => Q .nx e4 := by
  unfold WS WE Wset
  rw [evS]
  constructor
  · rintro ⟨c, e', h, q⟩
    obtain ⟨⟨ra, e1⟩, h1, h⟩ := Option.bind_eq_some_iff.mp h
    obtain ⟨⟨rb, e2⟩, h2, h⟩ := Option.bind_eq_some_iff.mp h
    obtain ⟨e3, h3, h⟩ := Option.bind_eq_some_iff.mp h
    obtain ⟨e4, h4, h⟩ := Option.bind_eq_some_iff.mp h
    cases h
    exact ⟨_, _, h1, _, _, h2, _, h3, _, h4, q⟩
  · rintro ⟨ra, e1, h1, rb, e2, h2, e3, h3, e4, h4, q⟩
    exact ⟨_, _, by rw [h1]; simp only [Option.bind_some]; rw [h2]; simp only [Option.bind_some]; rw [h3]; simp only [Option.bind_some]; rw [h4]; rfl, q⟩
theorem s_par3' {i j l : Nat} {a b d : E} : WS gl cf n (.par3 i j l a b d) env Q ↔ WE gl cf a env fun ra e1 => WE gl cf b e1 fun rb e2 => WE gl cf d e2 fun rd e3 => Wset i (.val (frz ra)) e3 fun e4 => Wset j (.val (frz rb)) e4 fun e5 => Wset l (.val (frz rd)) e5 fun e6 => Q .nx e6 := by
  unfold WS WE Wset
  rw [evS]
  constructor
  · rintro ⟨c, e', h, q⟩
    obtain ⟨⟨ra, e1⟩, h1, h⟩ := Option.bind_eq_some_iff.mp h
    obtain ⟨⟨rb, e2⟩, h2, h⟩ := Option.bind_eq_some_iff.mp h
    obtain ⟨⟨rd, e3⟩, h3, h⟩ := Option.bind_eq_some_iff.mp h
    obtain ⟨e4, h4, h⟩ := Option.bind_eq_some_iff.mp h
    obtain ⟨e5, h5, h⟩ := Option.bind_eq_some_iff.mp h
    obtain ⟨e6, h6, h⟩ := Option.bind_eq_some_iff.mp h
    cases h
    exact ⟨_, _, h1, _, _, h2, _, _, h3, _, h4, _, h5, _, h6, q⟩
  · rintro ⟨ra, e1, h1, rb, e2, h2, rd, e3, h3, e4, h4, e5, h5, e6, h6, q⟩
    exact ⟨_, _, by rw [h1]; simp only [Option.bind_some]; rw [h2]; simp only [Option.bind_some]; rw [h3]; simp only [Option.bind_some]; rw [h4]; simp only [Option.bind_some]; rw [h5]; simp only [Option.bind_some]; rw [h6]; rfl, q⟩
theorem s_st' {i : Nat} {ix e : E} : WS gl cf n (.st i ix e) env Q ↔ WE gl cf e env fun rv e1 => Wown e1 i fun _ _ => WE gl cf ix e1 fun rk e2 => Wown e2 i fun s mo => Wst mo (frz rk) (frz rv) fun mo' => Q .nx (e2.set i (s.put mo')) := by
  unfold WS WE Wown Wst
  rw [evS]
  constructor
  · rintro ⟨c, e', h, q⟩
    obtain ⟨⟨rv, e1⟩, h1, h⟩ := Option.bind_eq_some_iff.mp h
    obtain ⟨s0, h2, h⟩ := Option.bind_eq_some_iff.mp h
    obtain ⟨m0, h3, h⟩ := Option.bind_eq_some_iff.mp h
    obtain ⟨⟨rk, e2⟩, h4, h⟩ := Option.bind_eq_some_iff.mp h
    obtain ⟨s, h5, h⟩ := Option.bind_eq_some_iff.mp h
    obtain ⟨mo, h6, h⟩ := Option.bind_eq_some_iff.mp h
    obtain ⟨mo', h7, h⟩ := Option.bind_eq_some_iff.mp h
    cases h
    exact ⟨_, _, h1, _, _, h2, h3, _, _, h4, _, _, h5, h6, _, h7, q⟩
  · rintro ⟨rv, e1, h1, s0, m0, h2, h3, rk, e2, h4, s, mo, h5, h6, mo', h7, q⟩
    refine ⟨_, _, ?_, q⟩
    rw [h1]; simp only [Option.bind_some]
    rw [h2]; simp only [Option.bind_some]
    rw [h3]; simp only [Option.bind_some]
    rw [h4]; simp only [Option.bind_some]
    rw [h5]; simp only [Option.bind_some]
    rw [h6]; simp only [Option.bind_some]
    rw [h7]; rfl
theorem s_ups' {i j : Nat} {ix e : E} : WS gl cf n (.ups i j ix e) env Q ↔ WE gl cf e env fun rv e1 => Wpr (frz rv) fun d0 d1 => Wset i (.val d0) e1 fun e2 => Wown e2 j fun _ _ => WE gl cf ix e2 fun rk e3 => Wown e3 j fun s mo => Wst mo (frz rk) d1 fun mo' => Q .nx (e3.set j (s.put mo')) := by
  unfold WS WE Wown Wst Wset Wpr
  rw [evS]
  constructor
  · rintro ⟨c, e', h, q⟩
    obtain ⟨⟨rv, e1⟩, h1, h⟩ := Option.bind_eq_some_iff.mp h
    obtain ⟨⟨d0, d1⟩, hp, h⟩ := Option.bind_eq_some_iff.mp h
    obtain ⟨e2, h1', h⟩ := Option.bind_eq_some_iff.mp h
    obtain ⟨s0, h2, h⟩ := Option.bind_eq_some_iff.mp h
    obtain ⟨m0, h3, h⟩ := Option.bind_eq_some_iff.mp h
    obtain ⟨⟨rk, e3⟩, h4, h⟩ := Option.bind_eq_some_iff.mp h
    obtain ⟨s, h5, h⟩ := Option.bind_eq_some_iff.mp h
    obtain ⟨mo, h6, h⟩ := Option.bind_eq_some_iff.mp h
    obtain ⟨mo', h7, h⟩ := Option.bind_eq_some_iff.mp h
    cases h
    exact ⟨_, _, h1, _, _, hp, _, h1', _, _, h2, h3, _, _, h4, _, _, h5, h6, _, h7, q⟩
  · rintro ⟨rv, e1, h1, d0, d1, hp, e2, h1', s0, m0, h2, h3, rk, e3, h4, s, mo, h5, h6, mo', h7, q⟩
    refine ⟨_, _, ?_, q⟩
    rw [h1]; simp only [Option.bind_some]
    rw [hp]; simp only [Option.bind_some]
    rw [h1']; simp only [Option.bind_some]
    rw [h2]; simp only [Option.bind_some]
    rw [h3]; simp only [Option.bind_some]
    rw [h4]; simp only [Option.bind_some]
    rw [h5]; simp only [Option.bind_some]
    rw [h6]; simp only [Option.bind_some]
    rw [h7]; rfl
def Wau (o : Op) (a b : D) (Q : D → Prop) : Prop := ∃ d, augf o a b = some d ∧ Q d
theorem s_aug' {i : Nat} {o : Op} {e : E} : WS gl cf n (.aug i o e) env Q ↔ (match env[i]? with | some (.val d0) => WE gl cf e env (fun rv e1 => Wau o d0 (frz rv) fun d => Wset i (.val d) e1 fun e2 => Q .nx e2) | _ => False) := by
  unfold WS WE Wau Wset
  rw [evS]
  cases env[i]? with
  | none => exact ex_no
  | some s =>
    cases s with
    | val d0 =>
      constructor
      · rintro ⟨c, e', h, q⟩
        obtain ⟨⟨rv, e1⟩, h1, h⟩ := Option.bind_eq_some_iff.mp h
        obtain ⟨d, h2, h⟩ := Option.bind_eq_some_iff.mp h
        obtain ⟨e2, h3, h⟩ := Option.bind_eq_some_iff.mp h
        cases h
        exact ⟨_, _, h1, _, h2, _, h3, q⟩
      · rintro ⟨rv, e1, h1, d, h2, e2, h3, q⟩
        refine ⟨_, _, ?_, q⟩
        show (evE gl cf e env).bind _ = _
        rw [h1]; simp only [Option.bind_some]
        rw [h2]; simp only [Option.bind_some]
        rw [h3]; rfl
    | _ => exact ex_no
theorem s_ex' {e : E} : WS gl cf n (.ex e) env Q ↔ WE gl cf e env fun _ e1 => Q .nx e1 := by
  unfold WS WE
  rw [evS]
  constructor
  · rintro ⟨c, e', h, q⟩
    obtain ⟨⟨rv, e1⟩, h1, h⟩ := Option.bind_eq_some_iff.mp h
    cases h
    exact ⟨_, _, h1, q⟩
  · rintro ⟨rv, e1, h1, q⟩
    exact ⟨_, _, by rw [h1]; rfl, q⟩
theorem s_ret' {e : E} : WS gl cf n (.ret e) env Q ↔ WE gl cf e env fun rv e1 => Q (.ret rv) e1 := by
  unfold WS WE
  rw [evS]
  constructor
  · rintro ⟨c, e', h, q⟩
    obtain ⟨⟨rv, e1⟩, h1, h⟩ := Option.bind_eq_some_iff.mp h
    cases h
    exact ⟨_, _, h1, q⟩
  · rintro ⟨rv, e1, h1, q⟩
    exact ⟨_, _, by rw [h1]; rfl, q⟩
theorem s_ife' {c : E} {a b : S} : WS gl cf n (.ife c a b) env Q ↔ WE gl cf c env fun rv e1 => WB rv fun k => if k = true then WS gl cf n a e1 Q else WS gl cf n b e1 Q := by
  unfold WS WE WB
  rw [evS]
  constructor
  · rintro ⟨c, e', h, q⟩
    obtain ⟨p, h1, h⟩ := Option.bind_eq_some_iff.mp h
    split at h
    · exact ⟨_, _, h1, _, _, h, q⟩
    · exact ⟨_, _, h1, _, _, h, q⟩
    · cases h
  · rintro ⟨rv, e1, h1, q⟩
    split at q
    · rename_i k
      cases k <;> (obtain ⟨c', e', h, q⟩ := q; exact ⟨c', e', by rw [h1]; exact h, q⟩)
    · exact q.elim
theorem w_fz {e : E} {Q : Rv → Env' → Prop} : WE gl cf (.fz e) env Q ↔ WE gl cf e env fun rv e1 => Q (.val (frz rv)) e1 := by
  unfold WE
  rw [evE]
  constructor
  · rintro ⟨rv, e', h, q⟩
    obtain ⟨⟨r0, e1⟩, h1, h⟩ := Option.bind_eq_some_iff.mp h
    cases h
    exact ⟨_, _, h1, q⟩
  · rintro ⟨rv, e1, h1, q⟩
    exact ⟨_, _, by rw [h1]; rfl, q⟩
theorem s_fgt' {a b : List Nat} {s : S} : WS gl cf n (.fgt a b s) env Q ↔ WS gl cf n s (fgE a env) fun c e => Q c (fgC c b e) := by
  unfold WS
  rw [evS]
  constructor
  · rintro ⟨c, e', h, q⟩
    obtain ⟨⟨c1, e1⟩, h1, h⟩ := Option.bind_eq_some_iff.mp h
    cases h
    exact ⟨_, _, h1, q⟩
  · rintro ⟨c, e1, h1, q⟩
    exact ⟨_, _, by rw [h1]; rfl, q⟩
def Wgt (mo : Mo) (k : D) (Q : D → Prop) : Prop := ∃ d, getf mo k = some d ∧ Q d
def Wext (mo : Mo) (d : D) (Q : Mo → Prop) : Prop := ∃ m, extf mo d = some m ∧ Q m
theorem s_ext' {i : Nat} {e : E} : WS gl cf n (.ext i e) env Q ↔ Wown env i fun _ _ => WE gl cf e env fun rv e1 => Wown e1 i fun s mo => Wext mo (frz rv) fun mo' => Q .nx (e1.set i (s.put mo')) := by
  unfold WS WE Wown Wext
  rw [evS]
  constructor
  · rintro ⟨c, e', h, q⟩
    obtain ⟨s0, h2, h⟩ := Option.bind_eq_some_iff.mp h
    obtain ⟨m0, h3, h⟩ := Option.bind_eq_some_iff.mp h
    obtain ⟨⟨rv, e1⟩, h1, h⟩ := Option.bind_eq_some_iff.mp h
    obtain ⟨s, h5, h⟩ := Option.bind_eq_some_iff.mp h
    obtain ⟨mo, h6, h⟩ := Option.bind_eq_some_iff.mp h
    obtain ⟨mo', h7, h⟩ := Option.bind_eq_some_iff.mp h
    cases h
    exact ⟨_, _, h2, h3, _, _, h1, _, _, h5, h6, _, h7, q⟩
  · rintro ⟨s0, m0, h2, h3, rv, e1, h1, s, mo, h5, h6, mo', h7, q⟩
    refine ⟨_, _, ?_, q⟩
    rw [h2]; simp only [Option.bind_some]
    rw [h3]; simp only [Option.bind_some]
    rw [h1]; simp only [Option.bind_some]
    rw [h5]; simp only [Option.bind_some]
    rw [h6]; simp only [Option.bind_some]
    rw [h7]; rfl
theorem s_agt' {i : Nat} {ix : E} {o : Op} {e : E} : WS gl cf n (.agt i ix o e) env Q ↔ Wown env i fun _ _ => WE gl cf ix env fun rk e1 => Wown e1 i fun _ m1 => Wgt m1 (frz rk) fun d0 => WE gl cf e e1 fun rv e2 => Wau o d0 (frz rv) fun d' => Wown e2 i fun s mo => Wst mo (frz rk) d' fun mo' => Q .nx (e2.set i (s.put mo')) := by
  unfold WS WE Wown Wst Wau Wgt
  rw [evS]
  constructor
  · rintro ⟨c, e', h, q⟩
    obtain ⟨s0, h2, h⟩ := Option.bind_eq_some_iff.mp h
    obtain ⟨m0, h3, h⟩ := Option.bind_eq_some_iff.mp h
    obtain ⟨⟨rk, e1⟩, h4, h⟩ := Option.bind_eq_some_iff.mp h
    obtain ⟨s1, g2, h⟩ := Option.bind_eq_some_iff.mp h
    obtain ⟨m1, g3, h⟩ := Option.bind_eq_some_iff.mp h
    obtain ⟨d0, g4, h⟩ := Option.bind_eq_some_iff.mp h
    obtain ⟨⟨rv, e2⟩, h1, h⟩ := Option.bind_eq_some_iff.mp h
    obtain ⟨d', g5, h⟩ := Option.bind_eq_some_iff.mp h
    obtain ⟨s, h5, h⟩ := Option.bind_eq_some_iff.mp h
    obtain ⟨mo, h6, h⟩ := Option.bind_eq_some_iff.mp h
    obtain ⟨mo', h7, h⟩ := Option.bind_eq_some_iff.mp h
    cases h
    exact ⟨_, _, h2, h3, _, _, h4, _, _, g2, g3, _, g4, _, _, h1, _, g5, _, _, h5, h6, _, h7, q⟩
  · rintro ⟨s0, m0, h2, h3, rk, e1, h4, s1, m1, g2, g3, d0, g4, rv, e2, h1, d', g5, s, mo, h5, h6, mo', h7, q⟩
    refine ⟨_, _, ?_, q⟩
    rw [h2]; simp only [Option.bind_some]
    rw [h3]; simp only [Option.bind_some]
    rw [h4]; simp only [Option.bind_some]
    rw [g2]; simp only [Option.bind_some]
    rw [g3]; simp only [Option.bind_some]
    rw [g4]; simp only [Option.bind_some]
    rw [h1]; simp only [Option.bind_some]
    rw [g5]; simp only [Option.bind_some]
    rw [h5]; simp only [Option.bind_some]
    rw [h6]; simp only [Option.bind_some]
    rw [h7]; rfl
/-! ### walks -/
theorem i_brw {i : Nat} {Q : List D → Env' → Prop} : WI gl cf (.of (.brw i)) env Q ↔ (match env[i]? with | some (.val d) => Wwk d (fun xs => Q xs env) | some (.loc m) => Wwk m.d (fun xs => Q xs (env.set i (.brw m))) | some (.io m) => Wwk m.d (fun xs => Q xs (env.set i (.brw m))) | some (.brw m) => Wwk m.d (fun xs => Q xs env) | _ => False) := by
  have go : ∀ {x : Option (List D)} {e : Env'}, (∃ xs env', (x.bind fun xs => some (xs, e)) = some (xs, env') ∧ Q xs env') ↔ ∃ xs, x = some xs ∧ Q xs e := fun {x e} => by
    constructor
    · rintro ⟨xs, e', h, q⟩
      obtain ⟨ys, h1, h⟩ := Option.bind_eq_some_iff.mp h
      cases h
      exact ⟨_, h1, q⟩
    · rintro ⟨xs, h, q⟩
      exact ⟨_, _, by rw [h]; rfl, q⟩
  unfold WI Wwk
  rw [evI]
  generalize env[i]? = o
  cases o with
  | none => exact ex_no
  | some s => cases s <;> first | exact ex_no | exact go
theorem i_of {e : E} {Q : List D → Env' → Prop} (hn : ∀ i, e ≠ .brw i) : WI gl cf (.of e) env Q ↔ WE gl cf e env fun rv e1 => Wwk (frz rv) fun xs => Q xs e1 := by
  unfold WI WE Wwk
  rw [evI.eq_2 _ _ _ _ hn]
  constructor
  · rintro ⟨xs, e', h, q⟩
    obtain ⟨⟨rv, e1⟩, h1, h⟩ := Option.bind_eq_some_iff.mp h
    obtain ⟨ys, h2, h⟩ := Option.bind_eq_some_iff.mp h
    cases h
    exact ⟨_, _, h1, _, h2, q⟩
  · rintro ⟨rv, e1, h1, xs, h2, q⟩
    exact ⟨_, _, by rw [h1]; simp only [Option.bind_some]; rw [h2]; rfl, q⟩
theorem i_rng {es : Es} {Q : List D → Env' → Prop} : WI gl cf (.rng es) env Q ↔ WEs gl cf es env fun ds e1 => Wrg ds fun xs => Q xs (if es.hasB then unb env e1 else e1) := by
  unfold WI WEs Wrg
  rw [evI]
  constructor
  · rintro ⟨xs, e', h, q⟩
    obtain ⟨⟨ds, e1⟩, h1, h⟩ := Option.bind_eq_some_iff.mp h
    obtain ⟨ys, h2, h⟩ := Option.bind_eq_some_iff.mp h
    cases h
    exact ⟨_, _, h1, _, h2, q⟩
  · rintro ⟨ds, e1, h1, xs, h2, q⟩
    exact ⟨_, _, by rw [h1]; simp only [Option.bind_some]; rw [h2]; rfl, q⟩
theorem wwk_list {ds : List D} {Q : List D → Prop} : Wwk (.list ds) Q ↔ Q ds := ⟨fun ⟨_, h, q⟩ => by (cases h; exact q), fun q => ⟨_, rfl, q⟩⟩
theorem wwk_tuple {ds : List D} {Q : List D → Prop} : Wwk (.tuple ds) Q ↔ Q ds := ⟨fun ⟨_, h, q⟩ => by (cases h; exact q), fun q => ⟨_, rfl, q⟩⟩
theorem wwk_scr {ds : List D} {Q : List D → Prop} : Wwk (scrD ds) Q ↔ Q ds := ⟨fun ⟨_, h, q⟩ => by (cases h; exact q), fun q => ⟨_, rfl, q⟩⟩
theorem ite_ex {α : Type} {c : Prop} [Decidable c] {a : α} {Q : α → Prop} : (∃ x, (if c then some a else none) = some x ∧ Q x) ↔ c ∧ Q a := by
  constructor
  · rintro ⟨x, h, q⟩
    split at h
    · cases h; exact ⟨by assumption, q⟩
    · cases h
  · rintro ⟨h, q⟩
    exact ⟨_, if_pos h, q⟩
theorem some_ex {α : Type} {a : α} {Q : α → Prop} : (∃ x, some a = some x ∧ Q x) ↔ Q a := ⟨fun ⟨_, h, q⟩ => by (cases h; exact q), fun q => ⟨_, rfl, q⟩⟩
theorem map_ex {α β : Type} {o : Option α} {f : α → β} {Q : β → Prop} : (∃ x, o.map f = some x ∧ Q x) ↔ ∃ y, o = some y ∧ Q (f y) := by
  constructor
  · rintro ⟨x, h, q⟩
    obtain ⟨y, h1, h2⟩ := Option.map_eq_some_iff.mp h
    subst h2
    exact ⟨y, h1, q⟩
  · rintro ⟨y, h, q⟩
    exact ⟨_, by rw [h]; rfl, q⟩
def rgL (i : Int) (n : Nat) : List D := (List.range n).map fun (k : Nat) => .int (i + (k : Int))
theorem wrg1 {j : Int} {Q : List D → Prop} : Wrg [.int j] Q ↔ (-(2 ^ 62) ≤ j ∧ j < 2 ^ 62) ∧ Q (rgL 0 j.toNat) := ite_ex
theorem wrg2 {i j : Int} {Q : List D → Prop} : Wrg [.int i, .int j] Q ↔ (-(2 ^ 62) ≤ i ∧ i < 2 ^ 62 ∧ -(2 ^ 62) ≤ j ∧ j < 2 ^ 62) ∧ Q (rgL i (j - i).toNat) := ite_ex
def rgC (i c : Int) (n : Nat) : List D := (List.range n).map fun (k : Nat) => .int (i + (k : Int) * c)
theorem wrg3 {i j c : Int} {Q : List D → Prop} : Wrg [.int i, .int j, .int c] Q ↔ rg3 i j c ∧ Q (rgC i c (PySem.Builtin.Range.rangeSize i j c).toNat) := ite_ex
theorem rgC_get {i c : Int} {n k : Nat} {x : D} : (rgC i c n)[k]? = some x ↔ k < n ∧ x = .int (i + (k : Int) * c) := by
  unfold rgC
  rw [List.getElem?_map]
  by_cases h : k < n
  · rw [List.getElem?_range h]
    simp [h, eq_comm]
  · rw [List.getElem?_eq_none (by simpa using h)]
    simp [h]
theorem rgC_len {i c : Int} {n : Nat} : (rgC i c n).length = n := by simp [rgC]
theorem rgL_get {i : Int} {n k : Nat} {x : D} : (rgL i n)[k]? = some x ↔ k < n ∧ x = .int (i + (k : Int)) := by
  unfold rgL
  rw [List.getElem?_map]
  by_cases h : k < n
  · rw [List.getElem?_range h]
    simp [h, eq_comm]
  · rw [List.getElem?_eq_none (by simpa using h)]
    simp [h]
theorem rgL_len {i : Int} {n : Nat} : (rgL i n).length = n := by unfold rgL; simp
/-! ### loops -/
/-- behind a turn -/
def CL (c : Ctl) (a : Prop) (b : Ctl → Prop) : Prop := match c with
  | .nx => a
  | .ct => a
  | .bk => b .nx
  | .ret r => b (.ret r)
theorem cl_nx {a : Prop} {b : Ctl → Prop} : CL .nx a b ↔ a := Iff.rfl
theorem cl_ct {a : Prop} {b : Ctl → Prop} : CL .ct a b ↔ a := Iff.rfl
theorem cl_bk {a : Prop} {b : Ctl → Prop} : CL .bk a b ↔ b .nx := Iff.rfl
theorem cl_ret {a : Prop} {b : Ctl → Prop} {r : Rv} : CL (.ret r) a b ↔ b (.ret r) := Iff.rfl
theorem forL_inv {tg : Tg} {b : S} {Q : Ctl → Env' → Prop} (I : Nat → Env' → Prop) : ∀ (xs : List D) (i : Nat) (all : List D) (env : Env'), i ≤ all.length → all.drop i = xs → I i env →
    (∀ i x e, all[i]? = some x → I i e → Wtg tg x e fun e' => WS gl cf n b e' fun c e'' => CL c (I (i + 1) e'') fun c => Q c e'') → (∀ e, I all.length e → Q .nx e) → ∃ c e, forL tg (evS gl cf n b) xs env = some (c, e) ∧ Q c e
  | [], i, all, env, hl, hd, h0, step, fin => by
    unfold forL
    have : all.length ≤ i := by
      have := congrArg List.length hd
      rw [List.length_drop] at this
      simp at this
      omega
    have e : i = all.length := by omega
    subst e; exact ⟨_, _, rfl, fin _ h0⟩
  | x :: xs, i, all, env, hl, hd, h0, step, fin => by
    have hi : all[i]? = some x := by
      have := congrArg (·[0]?) hd
      simpa [List.getElem?_drop] using this
    have hd' : all.drop (i + 1) = xs := by
      have := congrArg List.tail hd
      simpa [List.tail_drop] using this
    obtain ⟨e1, h1, c, e2, h2, q⟩ := step i x env hi h0
    unfold forL
    rw [h1]
    simp only [Option.bind_some]
    rw [h2]
    cases c with
    | nx => exact forL_inv I xs (i + 1) all e2 (by have := (List.getElem?_eq_some_iff.mp hi).1; omega) hd' q step fin
    | ct => exact forL_inv I xs (i + 1) all e2 (by have := (List.getElem?_eq_some_iff.mp hi).1; omega) hd' q step fin
    | bk => exact ⟨_, _, rfl, q⟩
    | ret r => exact ⟨_, _, rfl, q⟩
/-- a for, by its invariant -/
theorem s_for' {tg : Tg} {it : It} {b : S} (I : List D → Env' → Nat → Env' → Prop) (h : WI gl cf it env fun xs e1 => I xs e1 0 e1 ∧
    (∀ i x e, xs[i]? = some x → I xs e1 i e → Wtg tg x e fun e' => WS gl cf n b e' fun c e'' => CL c (I xs e1 (i + 1) e'') fun c => Q c (reAt it.bIx env e'')) ∧ (∀ e, I xs e1 xs.length e → Q .nx (reAt it.bIx env e))) : WS gl cf n (.for tg it b) env Q := by
  obtain ⟨xs, e1, h1, h0, step, fin⟩ := h
  obtain ⟨c, e, h2, q⟩ := forL_inv (Q := fun c e => Q c (reAt it.bIx env e)) (I xs e1) xs 0 xs e1 (Nat.zero_le _) rfl h0 step fin
  unfold WS
  rw [evS]
  exact ⟨c, _, by rw [h1]; simp only [Option.bind_some]; rw [h2]; rfl, q⟩
/-- a while, by its invariant with a measure -/
theorem s_whl' {t : E} {b : S} (I : Nat → Env' → Prop) (h0 : ∃ m, m < n ∧ I m env) (step : ∀ m e, I m e → WE gl cf t e fun rv e1 => WB rv fun k => if k = true then WS gl cf n b e1 fun c e2 => CL c (∃ m', m' < m ∧ I m' e2) (fun c => Q c e2) else Q .nx e1) : WS gl cf n (.whl t b) env Q := by
  have go : ∀ (k m : Nat) (env : Env'), m < k → I m env → ∃ c e, whlL (evE gl cf t) (evS gl cf n b) k env = some (c, e) ∧ Q c e := by
    intro k
    induction k with
    | zero => intro m env h; exact absurd h (Nat.not_lt_zero _)
    | succ k ih =>
      intro m env hm hI
      obtain ⟨rv, e1, h1, h2⟩ := step m env hI
      unfold whlL
      rw [h1]
      unfold WB at h2
      split at h2
      · rename_i bb
        cases bb with
        | false => exact ⟨_, _, rfl, h2⟩
        | true =>
          obtain ⟨c, e2, h3, q⟩ := h2
          simp only [Option.bind_some]
          rw [h3]
          cases c with
          | nx => obtain ⟨m', hm', hI'⟩ := q; exact ih m' e2 (by omega) hI'
          | ct => obtain ⟨m', hm', hI'⟩ := q; exact ih m' e2 (by omega) hI'
          | bk => exact ⟨_, _, rfl, q⟩
          | ret r => exact ⟨_, _, rfl, q⟩
      · exact h2.elim
  obtain ⟨m, hm, hI⟩ := h0
  obtain ⟨c, e, h, q⟩ := go n m env hm hI
  unfold WS
  rw [evS]
  exact ⟨c, e, h, q⟩
/-- tests of a comprehension -/
theorem c_nil {Q : Bool → Env' → Prop} : WCs gl cf .nil env Q ↔ Q true env := by unfold WCs; rw [evCs]; exact ex_eq
theorem c_one {e : E} {Q : Bool → Env' → Prop} : WCs gl cf (.cons e .nil) env Q ↔ WE gl cf e env fun rv e1 => WB rv fun k => Q k e1 := by
  unfold WCs WE WB
  rw [evCs]
  constructor
  · rintro ⟨c, e', h, q⟩
    obtain ⟨p, h1, h⟩ := Option.bind_eq_some_iff.mp h
    split at h
    · cases h; exact ⟨_, _, h1, q⟩
    · cases h
  · rintro ⟨rv, e1, h1, q⟩
    split at q
    · exact ⟨_, _, by rw [h1]; rfl, q⟩
    · exact q.elim
theorem compL_inv {own : List Nat} {tg : Tg} {body : Env' → Option (Option D × Env')} (I : Nat → List D → Env' → Prop) : ∀ (xs : List D) (i : Nat) (all ys : List D) (env : Env'), i ≤ all.length → all.drop i = xs → I i ys env →
    (∀ i x ys e, all[i]? = some x → I i ys e → Wtg tg x (wipeE e own) fun e1 => ∃ o e2, body e1 = some (o, e2) ∧ I (i + 1) (ys ++ o.toList) e2) → ∃ zs e, compL own tg body xs env = some (zs, e) ∧ I all.length (ys ++ zs) e
  | [], i, all, ys, env, hl, hd, h0, step => by
    have : all.length ≤ i := by
      have := congrArg List.length hd
      rw [List.length_drop] at this
      simp at this
      omega
    have e : i = all.length := by omega
    subst e
    exact ⟨[], env, rfl, by rw [List.append_nil]; exact h0⟩
  | x :: xs, i, all, ys, env, hl, hd, h0, step => by
    have hi : all[i]? = some x := by
      have := congrArg (·[0]?) hd
      simpa [List.getElem?_drop] using this
    have hd' : all.drop (i + 1) = xs := by
      have := congrArg List.tail hd
      simpa [List.tail_drop] using this
    obtain ⟨e1, h1, o, e2, h2, q⟩ := step i x ys env hi h0
    obtain ⟨zs, e3, h3, q3⟩ := compL_inv I xs (i + 1) all _ e2 (by have := (List.getElem?_eq_some_iff.mp hi).1; omega) hd' q step
    refine ⟨o.toList ++ zs, e3, ?_, by rw [← List.append_assoc]; exact q3⟩
    unfold compL
    rw [h1]; simp only [Option.bind_some]
    rw [h2]; simp only [Option.bind_some]
    rw [h3]; rfl
/-- a comprehension, by its invariant -/
theorem w_comp {own : List Nat} {tg : Tg} {it : It} {cs : Es} {elt : E} {Q : Rv → Env' → Prop} (I : List D → Env' → Nat → List D → Env' → Prop) (h : WI gl cf it env fun xs e1 => (quiet e1 own = true ∧ xs.length ≤ line) ∧ I xs e1 0 [] e1 ∧
    (∀ i x ys e, xs[i]? = some x → I xs e1 i ys e → Wtg tg x (wipeE e own) fun e' => WCs gl cf cs e' fun k e2 => if k = true then WE gl cf elt e2 fun rv e3 => I xs e1 (i + 1) (ys ++ [frz rv]) e3 else I xs e1 (i + 1) ys e2) ∧
    (∀ ys e, I xs e1 xs.length ys e → Q (.new (.lst ys)) (reAt it.bIx env (backE e1 e own)))) : WE gl cf (.comp own tg it cs elt) env Q := by
  obtain ⟨xs, e1, h1, hq, h0, step, fin⟩ := h
  obtain ⟨zs, e, h2, q⟩ := compL_inv (own := own) (tg := tg) (body := fun e1 => (evCs gl cf cs e1).bind fun (b, e2) => if b then (evE gl cf elt e2).bind fun (rv, e3) => some (some (frz rv), e3) else some (none, e2)) (I xs e1) xs 0 xs [] e1 (Nat.zero_le _) rfl h0 (fun i x ys e hx hI => by
    obtain ⟨e', g1, b, e2, g2, q⟩ := step i x ys e hx hI
    refine ⟨e', g1, ?_⟩
    cases b with
    | false => exact ⟨none, e2, by rw [g2]; rfl, by simpa using q⟩
    | true =>
      obtain ⟨rv, e3, g3, q⟩ := q
      exact ⟨some (frz rv), e3, by rw [g2]; simp only [Option.bind_some, if_true]; rw [g3]; rfl, q⟩)
  unfold WE
  rw [evE]
  refine ⟨_, _, ?_, fin zs e q⟩
  rw [h1]; simp only [Option.bind_some]
  rw [if_pos hq, h2]; rfl
end
end Pv

namespace Pv
open PySem PySem.Spec PyProof.Rows L2

/-! ### operations by values -/
section
variable {Q : Rv → Prop} {i j k : Int} {x y : Str} {xs ys ds : List D} {a b d e : D} {p q : Bool}
theorem wo_add : WO .add [.int i, .int j] Q ↔ Q (.val (.int (i + j))) := some_ex
theorem wo_adds : WO .add [.str x, .str y] Q ↔ x.length + y.length ≤ line ∧ Q (.val (.str (x ++ y))) := ite_ex
theorem wo_addl : WO .add [.list xs, .list ys] Q ↔ xs.length + ys.length ≤ line ∧ Q (.new (.lst (xs ++ ys))) := ite_ex
theorem wo_addt : WO .add [.tuple xs, .tuple ys] Q ↔ xs.length + ys.length ≤ line ∧ Q (.val (.tuple (xs ++ ys))) := ite_ex
theorem wo_sub : WO .sub [.int i, .int j] Q ↔ Q (.val (.int (i - j))) := some_ex
theorem wo_mul : WO .mul [.int i, .int j] Q ↔ (bitsOk i = true ∧ bitsOk j = true) ∧ Q (.val (.int (i * j))) := ite_ex
theorem wo_mull : WO .mul [.list xs, .int j] Q ↔ (xs.length * j.toNat ≤ line ∧ -(2 ^ 62) < j ∧ j < 2 ^ 62) ∧ Q (.new (.lst (List.replicate j.toNat xs).flatten)) := ite_ex
theorem wo_mult : WO .mul [.tuple xs, .int j] Q ↔ (-(2 ^ 62) < j ∧ j ≤ 1000 ∧ xs.length ≤ 1000) ∧ Q (.val (.tuple (List.replicate j.toNat xs).flatten)) := ite_ex
theorem wo_fdiv : WO .fdiv [.int i, .int j] Q ↔ (j ≠ 0 ∧ j.natAbs.log2 < 9000) ∧ Q (.val (.int (i.fdiv j))) := ite_ex
theorem wo_mod : WO .mod [.int i, .int j] Q ↔ j ≠ 0 ∧ Q (.val (.int (i.fmod j))) := ite_ex
theorem wo_pow : WO .pow [.int i, .int j] Q ↔ (0 ≤ j ∧ j ≤ 1000000 ∧ -18446744073709551616 < i ∧ i < 18446744073709551616) ∧ Q (.val (.int (i ^ j.toNat))) := by
  refine (ite_ex (c := 0 ≤ j ∧ j ≤ 1000000 ∧ i.natAbs < 2 ^ 64)).trans ?_
  have : i.natAbs < 2 ^ 64 ↔ -18446744073709551616 < i ∧ i < 18446744073709551616 := by
    rw [show (2 : Nat) ^ 64 = 18446744073709551616 from rfl]
    omega
  rw [this]
theorem wo_xor : WO .xor [.int i, .int j] Q ↔ Q (.val (.int (Builtin.bitXor i j))) := some_ex
theorem wo_neg : WO .neg [.int i] Q ↔ Q (.val (.int (-i))) := some_ex
theorem wo_lt : WO .lt [.int i, .int j] Q ↔ Q (.val (.bool (decide (i < j)))) := some_ex
theorem wo_le : WO .le [.int i, .int j] Q ↔ Q (.val (.bool (decide (i ≤ j)))) := some_ex
theorem wo_gt : WO .gt [.int i, .int j] Q ↔ Q (.val (.bool (decide (j < i)))) := some_ex
theorem wo_ge : WO .ge [.int i, .int j] Q ↔ Q (.val (.bool (decide (j ≤ i)))) := some_ex
theorem wo_eq : WO .eq [a, b] Q ↔ (SeqAt.shaped a = true ∧ SeqAt.shaped b = true) ∧ Q (.val (.bool (PyData.eqv a b))) := ite_ex
theorem wo_ne : WO .ne [a, b] Q ↔ (SeqAt.shaped a = true ∧ SeqAt.shaped b = true) ∧ Q (.val (.bool (!PyData.eqv a b))) := ite_ex
theorem wo_isN : WO .isN [a, .none] Q ↔ Q (.val (.bool (isNone a))) := by cases a <;> exact some_ex
theorem wo_isB : WO .isN [.bool p, .bool q] Q ↔ Q (.val (.bool (decide (p = q)))) := some_ex
theorem wo_notB {p q : Bool} : WO .notN [.bool p, .bool q] Q ↔ Q (.val (.bool (!decide (p = q)))) := some_ex
theorem wo_notN : WO .notN [a, .none] Q ↔ Q (.val (.bool (!isNone a))) := by cases a <;> exact some_ex
theorem wo_in : WO .inn [a, .list xs] Q ↔ (SeqAt.shaped a = true ∧ SeqAt.shaped (.list xs) = true) ∧ Q (.val (.bool (xs.any fun z => PyData.eqv z a))) := by
  have e : inf false a (.list xs) = if SeqAt.shaped a = true ∧ SeqAt.shaped (.list xs) = true then some (.val (.bool (xs.any fun z => PyData.eqv z a))) else none := by cases a <;> rfl
  show (∃ rv, inf false a (.list xs) = some rv ∧ Q rv) ↔ _
  rw [e]; exact ite_ex
theorem wo_int' : WO .inn [a, .tuple xs] Q ↔ (SeqAt.shaped a = true ∧ SeqAt.shaped (.list xs) = true) ∧ Q (.val (.bool (xs.any fun z => PyData.eqv z a))) := by
  have e : inf false a (.tuple xs) = if SeqAt.shaped a = true ∧ SeqAt.shaped (.list xs) = true then some (.val (.bool (xs.any fun z => PyData.eqv z a))) else none := by cases a <;> rfl
  show (∃ rv, inf false a (.tuple xs) = some rv ∧ Q rv) ↔ _
  rw [e]; exact ite_ex
theorem wo_notin : WO .notin [a, .list xs] Q ↔ (SeqAt.shaped a = true ∧ SeqAt.shaped (.list xs) = true) ∧ Q (.val (.bool (!xs.any fun z => PyData.eqv z a))) := by
  have e : inf true a (.list xs) = if SeqAt.shaped a = true ∧ SeqAt.shaped (.list xs) = true then some (.val (.bool (!xs.any fun z => PyData.eqv z a))) else none := by cases a <;> rfl
  show (∃ rv, inf true a (.list xs) = some rv ∧ Q rv) ↔ _
  rw [e]; exact ite_ex
theorem wo_notint : WO .notin [a, .tuple xs] Q ↔ (SeqAt.shaped a = true ∧ SeqAt.shaped (.list xs) = true) ∧ Q (.val (.bool (!xs.any fun z => PyData.eqv z a))) := by
  have e : inf true a (.tuple xs) = if SeqAt.shaped a = true ∧ SeqAt.shaped (.list xs) = true then some (.val (.bool (!xs.any fun z => PyData.eqv z a))) else none := by cases a <;> rfl
  show (∃ rv, inf true a (.tuple xs) = some rv ∧ Q rv) ↔ _
  rw [e]; exact ite_ex
theorem wo_idxl : WO .idx [.list xs, .int i] Q ↔ Wat xs i fun d => Q (.val d) := map_ex
theorem wo_idxt : WO .idx [.tuple xs, .int i] Q ↔ Wat xs i fun d => Q (.val d) := map_ex
theorem wo_idxs : WO .idx [scrD xs, .int i] Q ↔ Wat xs i fun d => Q (.val d) := map_ex
theorem wo_slcl {lo : Int} : WO (.slc true false) [.list xs, .int lo] Q ↔ Q (.new (.lst (cutD xs (some lo) none))) := some_ex
theorem wo_slcr {hi : Int} : WO (.slc false true) [.list xs, .int hi] Q ↔ Q (.new (.lst (cutD xs none (some hi)))) := some_ex
theorem wo_slc {lo hi : Int} : WO (.slc true true) [.list xs, .int lo, .int hi] Q ↔ Q (.new (.lst (cutD xs (some lo) (some hi)))) := some_ex
theorem wo_slc0 : WO (.slc false false) [.list xs] Q ↔ Q (.new (.lst (cutD xs none none))) := some_ex
theorem wo_slcl' {lo : Int} : WO (.slc true false) [.tuple xs, .int lo] Q ↔ Q (.val (.tuple (cutD xs (some lo) none))) := some_ex
theorem wo_slcr' {hi : Int} : WO (.slc false true) [.tuple xs, .int hi] Q ↔ Q (.val (.tuple (cutD xs none (some hi)))) := some_ex
theorem wo_slc' {lo hi : Int} : WO (.slc true true) [.tuple xs, .int lo, .int hi] Q ↔ Q (.val (.tuple (cutD xs (some lo) (some hi)))) := some_ex
theorem wo_rev' : WO .rev [.tuple xs] Q ↔ Q (.val (.tuple xs.reverse)) := some_ex
theorem wo_rev : WO .rev [.list xs] Q ↔ Q (.new (.lst xs.reverse)) := some_ex
theorem wo_lenl : WO .len [.list xs] Q ↔ Q (.val (.int xs.length)) := some_ex
theorem wo_lent : WO .len [.tuple xs] Q ↔ Q (.val (.int xs.length)) := some_ex
theorem wo_lenr : WO .len [scrD xs] Q ↔ Q (.val (.int xs.length)) := some_ex
theorem wo_lens : WO .len [.str x] Q ↔ x.length ≤ line ∧ Q (.val (.int x.length)) := ite_ex
theorem wo_abs : WO .abs [.int i] Q ↔ Q (.val (.int (if i < 0 then -i else i))) := some_ex
theorem wo_int : WO .int [.int i] Q ↔ Q (.val (.int i)) := some_ex
theorem wo_intb : WO .int [.bool p] Q ↔ Q (.val (.int (if p then 1 else 0))) := some_ex
theorem wo_max2 : WO .max2 [.int i, .int j] Q ↔ Q (.val (.int (if j > i then j else i))) := some_ex
theorem wo_min2 : WO .min2 [.int i, .int j] Q ↔ Q (.val (.int (if j < i then j else i))) := some_ex
theorem wo_gcd : WO .gcd [.int i, .int j] Q ↔ Q (.val (.int (Nat.gcd i.natAbs j.natAbs : Nat))) := some_ex
theorem wo_tuplel : WO .tuple [.list xs] Q ↔ Q (.val (.tuple xs)) := some_ex
theorem wo_tuplet : WO .tuple [.tuple xs] Q ↔ Q (.val (.tuple xs)) := some_ex
theorem wo_tupler : WO .tuple [scrD xs] Q ↔ Q (.val (.tuple xs)) := some_ex
theorem wo_listl : WO .list [.list xs] Q ↔ Q (.new (.lst xs)) := some_ex
theorem wo_listt : WO .list [.tuple xs] Q ↔ Q (.new (.lst xs)) := some_ex
theorem wo_listr : WO .list [scrD xs] Q ↔ Q (.new (.lst xs)) := some_ex
theorem wisI_int : WO .isI [(.int i)] Q ↔ Q (.val (.bool true)) := some_ex
theorem wisI_bool : WO .isI [(.bool p)] Q ↔ Q (.val (.bool true)) := some_ex
theorem wisI_str : WO .isI [(.str x)] Q ↔ Q (.val (.bool false)) := some_ex
theorem wisI_none : WO .isI [.none] Q ↔ Q (.val (.bool false)) := some_ex
theorem wisI_tuple : WO .isI [(.tuple xs)] Q ↔ Q (.val (.bool false)) := some_ex
theorem wisI_list : WO .isI [(.list xs)] Q ↔ Q (.val (.bool false)) := some_ex
theorem wisB_int : WO .isB [(.int i)] Q ↔ Q (.val (.bool false)) := some_ex
theorem wisB_bool : WO .isB [(.bool p)] Q ↔ Q (.val (.bool true)) := some_ex
theorem wisB_str : WO .isB [(.str x)] Q ↔ Q (.val (.bool false)) := some_ex
theorem wisB_none : WO .isB [.none] Q ↔ Q (.val (.bool false)) := some_ex
theorem wisB_tuple : WO .isB [(.tuple xs)] Q ↔ Q (.val (.bool false)) := some_ex
theorem wisB_list : WO .isB [(.list xs)] Q ↔ Q (.val (.bool false)) := some_ex
theorem wisS_int : WO .isS [(.int i)] Q ↔ Q (.val (.bool false)) := some_ex
theorem wisS_bool : WO .isS [(.bool p)] Q ↔ Q (.val (.bool false)) := some_ex
theorem wisS_str : WO .isS [(.str x)] Q ↔ Q (.val (.bool true)) := some_ex
theorem wisS_none : WO .isS [.none] Q ↔ Q (.val (.bool false)) := some_ex
theorem wisS_tuple : WO .isS [(.tuple xs)] Q ↔ Q (.val (.bool false)) := some_ex
theorem wisS_list : WO .isS [(.list xs)] Q ↔ Q (.val (.bool false)) := some_ex
theorem wisT_int : WO .isT [(.int i)] Q ↔ Q (.val (.bool false)) := some_ex
theorem wisT_bool : WO .isT [(.bool p)] Q ↔ Q (.val (.bool false)) := some_ex
theorem wisT_str : WO .isT [(.str x)] Q ↔ Q (.val (.bool false)) := some_ex
theorem wisT_none : WO .isT [.none] Q ↔ Q (.val (.bool false)) := some_ex
theorem wisT_tuple : WO .isT [(.tuple xs)] Q ↔ Q (.val (.bool true)) := some_ex
theorem wisT_list : WO .isT [(.list xs)] Q ↔ Q (.val (.bool false)) := some_ex
theorem wb {b : Bool} {P : Bool → Prop} : WB (.val (.bool b)) P ↔ P b := Iff.rfl
theorem ints_map : ∀ {ns : List Int}, ints? (ns.map .int) = some ns
  | [] => rfl
  | n :: r => by
    show (ints? (r.map .int)).map (n :: ·) = _
    rw [ints_map]; rfl
theorem wo_sum {ns : List Int} : WO .sum [.list (ns.map .int)] Q ↔ Q (.val (.int ns.sum)) := by
  show (∃ rv, (ints? (ns.map .int)).map _ = some rv ∧ Q rv) ↔ _
  rw [ints_map]; exact some_ex
theorem wo_tupR1 : WO .tupR [.int j] Q ↔ rgOk 0 j ∧ Q (.val (.tuple (rgL 0 j.toNat))) := by
  have : rgL 0 j.toNat = rgD 0 j := by unfold rgD rgL; rw [Int.sub_zero]
  rw [this]; exact ite_ex
theorem wo_tupR2 : WO .tupR [.int i, .int j] Q ↔ rgOk i j ∧ Q (.val (.tuple (rgL i (j - i).toNat))) := ite_ex
theorem wo_lstR1 : WO .lstR [.int j] Q ↔ rgOk 0 j ∧ Q (.new (.lst (rgL 0 j.toNat))) := by
  have : rgL 0 j.toNat = rgD 0 j := by unfold rgD rgL; rw [Int.sub_zero]
  rw [this]; exact ite_ex
theorem wo_lstR2 : WO .lstR [.int i, .int j] Q ↔ rgOk i j ∧ Q (.new (.lst (rgL i (j - i).toNat))) := ite_ex
/-- what an operation gives, still to be told -/
def Wopt (o : Option Rv) (Q : Rv → Prop) : Prop := ∃ rv, o = some rv ∧ Q rv
theorem wopt0 {o : Option Rv} {rv : Rv} (h : o = some rv) : Wopt o Q ↔ Q rv := by unfold Wopt; rw [h]; exact some_ex
theorem wo_max : WO .max [.list xs] Q ↔ Wopt (maxf (.list xs)) Q := Iff.rfl
theorem wo_min : WO .min [.list xs] Q ↔ Wopt (minf (.list xs)) Q := Iff.rfl
theorem wo_sum' : WO .sum [.list xs] Q ↔ Wopt (sumf (.list xs)) Q := Iff.rfl
theorem wo_any : WO .any [.list xs] Q ↔ Wopt (anyf (.list xs)) Q := Iff.rfl
theorem wo_all : WO .all [.list xs] Q ↔ Wopt (allf (.list xs)) Q := Iff.rfl
theorem wo_sorted' : WO .sorted [.list xs] Q ↔ Wopt (sortedf (.list xs)) Q := Iff.rfl
theorem maxs_some {ns : List Int} {m : Int} (h : xs = ns.map .int) (hm : maxI ns = some m) : maxs xs = some (.val (.int m)) := by
  subst h
  unfold maxs
  rw [ints_map]
  show (maxI ns).map _ = _
  rw [hm]; rfl
theorem mins_some {ns : List Int} {m : Int} (h : xs = ns.map .int) (hm : minI ns = some m) : mins xs = some (.val (.int m)) := by
  subst h
  unfold mins
  rw [ints_map]
  show (minI ns).map _ = _
  rw [hm]; rfl
theorem maxf_some {ns : List Int} {m : Int} (h : xs = ns.map .int) (hm : maxI ns = some m) : maxf (.list xs) = some (.val (.int m)) := maxs_some h hm
theorem minf_some {ns : List Int} {m : Int} (h : xs = ns.map .int) (hm : minI ns = some m) : minf (.list xs) = some (.val (.int m)) := mins_some h hm
theorem maxt_some {ns : List Int} {m : Int} (h : xs = ns.map .int) (hm : maxI ns = some m) : maxf (.tuple xs) = some (.val (.int m)) := maxs_some h hm
theorem mint_some {ns : List Int} {m : Int} (h : xs = ns.map .int) (hm : minI ns = some m) : minf (.tuple xs) = some (.val (.int m)) := mins_some h hm
theorem sortd_some (h : ints? xs = none) (hb : sortB xs = true) : sortedf (.list xs) = some (.new (.lst (xs.mergeSort (PySem.W.dataLe false id)))) := by
  show sorts xs = _
  unfold sorts
  rw [h]
  exact if_pos hb
theorem mind_some {d : D} (h : ints? (d :: xs) = none) (hb : bestB (d :: xs) = true) : minf (.list (d :: xs)) = some (.val (PySem.W.minD d xs)) := by
  show mins (d :: xs) = _
  unfold mins
  rw [h]
  exact if_pos hb
theorem maxd_some {d : D} (h : ints? (d :: xs) = none) (hb : bestB (d :: xs) = true) : maxf (.list (d :: xs)) = some (.val (PySem.W.maxD d xs)) := by
  show maxs (d :: xs) = _
  unfold maxs
  rw [h]
  exact if_pos hb
theorem sumf_some {ns : List Int} (h : xs = ns.map .int) : sumf (.list xs) = some (.val (.int ns.sum)) := by
  subst h
  show (ints? (ns.map .int)).map _ = _
  rw [ints_map]; rfl
theorem sortedt_some {ns : List Int} (h : xs = ns.map .int) : sortedf (.tuple xs) = some (.new (.lst ((sortI ns).map .int))) := by
  subst h
  show (ints? (ns.map .int)).map _ = _
  rw [ints_map]; rfl
theorem sortedf_some {ns : List Int} (h : xs = ns.map .int) : sortedf (.list xs) = some (.new (.lst ((sortI ns).map .int))) := by
  subst h
  show sorts _ = _
  unfold sorts
  rw [ints_map]
theorem bools_map : ∀ {bs : List Bool}, bools? (bs.map .bool) = some bs
  | [] => rfl
  | n :: r => by
    show (bools? (r.map .bool)).map (n :: ·) = _
    rw [bools_map]; rfl
theorem anyf_some {bs : List Bool} (h : xs = bs.map .bool) : anyf (.list xs) = some (.val (.bool (bs.any id))) := by
  subst h
  show (bools? (bs.map .bool)).map _ = _
  rw [bools_map]; rfl
theorem allf_some {bs : List Bool} (h : xs = bs.map .bool) : allf (.list xs) = some (.val (.bool (bs.all id))) := by
  subst h
  show (bools? (bs.map .bool)).map _ = _
  rw [bools_map]; rfl
/-! methods -/
variable {R : Mo → D → Prop}
theorem wm_append : Wmm .append (.lst xs) [d] R ↔ xs.length < line ∧ R (.lst (xs ++ [d])) .none := by
  constructor
  · rintro ⟨mo, e, h, q⟩
    have h : (if xs.length < line then some (Mo.lst (xs ++ [d]), PyData.none) else none) = some (mo, e) := h
    split at h
    · cases h; exact ⟨by assumption, q⟩
    · cases h
  · rintro ⟨h, q⟩
    exact ⟨_, _, if_pos h, q⟩
theorem wm_reverse : Wmm .reverse (.lst xs) [] R ↔ R (.lst xs.reverse) .none := ⟨fun ⟨_, _, h, q⟩ => by (cases h; exact q), fun q => ⟨_, _, rfl, q⟩⟩
theorem wm_pop : Wmm .pop (.lst xs) [] R ↔ Wpop xs fun d => R (.lst xs.dropLast) d := by
  constructor
  · rintro ⟨mo, e, h, q⟩
    obtain ⟨y, h1, h2⟩ := Option.map_eq_some_iff.mp (show (xs[xs.length - 1]?).map (fun d => (Mo.lst xs.dropLast, d)) = some (mo, e) from h)
    cases h2; exact ⟨_, h1, q⟩
  · rintro ⟨d, h, q⟩
    exact ⟨_, _, (show (xs[xs.length - 1]?).map (fun d => (Mo.lst xs.dropLast, d)) = some _ by rw [h]; rfl), q⟩
theorem wm_popAt {k : Nat} (h : ixN xs.length i = some k) (h2 : xs[k]? = some d) (hb : -(2 ^ 62) < i ∧ i < 2 ^ 62) : Wmm .popAt (.lst xs) [.int i] R ↔ R (.lst (xs.eraseIdx k)) d := by
  have e : mmf .popAt (.lst xs) [.int i] = some (.lst (xs.eraseIdx k), d) := by
    show (if -(2 ^ 62) < i ∧ i < 2 ^ 62 then (ixN xs.length i).bind fun k => (xs[k]?).map fun d => (Mo.lst (xs.eraseIdx k), d) else none) = _
    rw [if_pos hb, h]
    simp only [Option.bind_some]
    rw [h2]
    rfl
  constructor
  · rintro ⟨mo, e', h, q⟩
    rw [e] at h
    cases h; exact q
  · intro q
    exact ⟨_, _, e, q⟩
theorem wst {R : Mo → Prop} : Wst (.lst xs) (.int i) d R ↔ Wix xs.length i fun k => R (.lst (xs.set k d)) := map_ex
variable {P : D → Prop}
theorem wau_add : Wau .add (.int i) (.int j) P ↔ P (.int (i + j)) := some_ex
theorem wau_sub : Wau .sub (.int i) (.int j) P ↔ P (.int (i - j)) := some_ex
theorem wau_mul : Wau .mul (.int i) (.int j) P ↔ (bitsOk i = true ∧ bitsOk j = true) ∧ P (.int (i * j)) := ite_ex
theorem wau_fdiv : Wau .fdiv (.int i) (.int j) P ↔ (j ≠ 0 ∧ j.natAbs.log2 < 9000) ∧ P (.int (i.fdiv j)) := ite_ex
theorem wau_addt : Wau .add (.tuple xs) (.tuple ys) P ↔ xs.length + ys.length ≤ line ∧ P (.tuple (xs ++ ys)) := ite_ex
theorem wau_adds : Wau .add (.str x) (.str y) P ↔ x.length + y.length ≤ line ∧ P (.str (x ++ y)) := ite_ex
end
/-! ### shapes -/
theorem sh_int {i : Int} : SeqAt.shaped (.int i) = true := by simp [SeqAt.shaped, PyData.canLay0, PyData.depth]
theorem sh_bool {i : Bool} : SeqAt.shaped (.bool i) = true := by simp [SeqAt.shaped, PyData.canLay0, PyData.depth]
theorem sh_none : SeqAt.shaped .none = true := by simp [SeqAt.shaped, PyData.canLay0, PyData.depth]
theorem eqv_int {i j : Int} : PyData.eqv (.int i) (.int j) = decide (i = j) := by
  unfold PyData.eqv
  by_cases h : i = j <;> simp [h]
theorem eqv_bool {i j : Bool} : PyData.eqv (.bool i) (.bool j) = decide (i = j) := by
  unfold PyData.eqv
  by_cases h : i = j <;> simp [h]
/-! ### defs -/
/-- a def's end -/
def CR (c : Ctl) (env : Env') (p : Nat) (Q : Rv → List Sl → Prop) : Prop := match c with
  | .nx => Q (.val .none) (env.take p)
  | .ret rv => Q rv (env.take p)
  | _ => False
theorem cr_nx {env : Env'} {p : Nat} {Q : Rv → List Sl → Prop} : CR .nx env p Q ↔ Q (.val .none) (env.take p) := Iff.rfl
theorem cr_ret {env : Env'} {p : Nat} {Q : Rv → List Sl → Prop} {rv : Rv} : CR (.ret rv) env p Q ↔ Q rv (env.take p) := Iff.rfl
/-- into a def -/
theorem wc_in {t : Tx} {n k f : Nat} {d : Df} {sl : List Sl} {env : Env'} {Q : Rv → List Sl → Prop} (hd : t.dfs[f]? = some d) (hl : sl.length = d.fn.params) (he : sl ++ List.replicate (d.fn.slots - d.fn.params) .no = env)
    (h : WS t.gl (t.call n k) n d.fn.body env fun c e => CR c e d.fn.params Q) : WC (t.call n (k + 1)) f sl Q := by
  subst he
  obtain ⟨c, e, h1, q⟩ := h
  have ec : t.call n (k + 1) f sl = runF t.gl (t.call n k) n d.fn sl := by
    show Pv.call t.gl t.tb n (k + 1) f sl = _
    unfold Pv.call
    show ((t.dfs[f]?).map (·.fn)).bind _ = _
    rw [hd]; rfl
  unfold WC
  rw [ec]
  unfold runF
  rw [if_pos hl, h1]
  unfold CR at q
  cases c with
  | nx => exact ⟨_, _, rfl, q⟩
  | ret rv => exact ⟨_, _, rfl, q⟩
  | bk => exact q.elim
  | ct => exact q.elim
theorem wat0 {xs : List D} {i : Int} {d : D} {Q : D → Prop} (h : atI xs i = some d) : Wat xs i Q ↔ Q d := by unfold Wat; rw [h]; exact some_ex
theorem wix0 {n : Nat} {i : Int} {k : Nat} {Q : Nat → Prop} (h : ixN n i = some k) : Wix n i Q ↔ Q k := by unfold Wix; rw [h]; exact some_ex
theorem wpop0 {xs : List D} {d : D} {Q : D → Prop} (h : xs[xs.length - 1]? = some d) : Wpop xs Q ↔ Q d := by unfold Wpop; rw [h]; exact some_ex
class K0 where
  k : Prop
class K1 (α : Type) where
  k : α → Prop
class K2 (α β : Type) where
  k : α → β → Prop
def Wif0 (k : Bool) [A : K0] [B : K0] : Prop := match k with
  | true => A.k
  | false => B.k
/-- three things that are looked at later -/
abbrev Three [A : K0] [B : K0] [C : K0] : Prop := A.k ∧ B.k ∧ C.k
section
variable {gl : Nat → D} {cf : Nat → List Sl → Option (Rv × List Sl)} {n : Nat} {env : Env'}
/-- a for, by its invariant, when what it walks is known later -/
theorem s_forI {tg : Tg} {it : It} {b : S} {Q : Ctl → Env' → Prop} (I : List D → Env' → Nat → Env' → Prop) (h : WI gl cf it env fun xs e1 => @Three ⟨I xs e1 0 e1⟩
    ⟨∀ i x e, xs[i]? = some x → I xs e1 i e → Wtg tg x e fun e' => WS gl cf n b e' fun c e'' => CL c (I xs e1 (i + 1) e'') fun c => Q c (reAt it.bIx env e'')⟩ ⟨∀ e, I xs e1 xs.length e → Q .nx (reAt it.bIx env e)⟩) : WS gl cf n (.for tg it b) env Q := by
  refine s_for' I ?_
  obtain ⟨a, b, h, q⟩ := h
  exact ⟨a, b, h, q.1, q.2.1, q.2.2⟩
/-- a for, by its invariant, part by part -/
theorem s_for3 {tg : Tg} {it : It} {b : S} {Q : Ctl → Env' → Prop} (I : Nat → Env' → Prop) (xs : List D) (e1 : Env') (hI : WI gl cf it env fun a b => a = xs ∧ b = e1) (h0 : I 0 e1)
    (step : ∀ i x e, xs[i]? = some x → I i e → Wtg tg x e fun e' => WS gl cf n b e' fun c e'' => CL c (I (i + 1) e'') fun c => Q c (reAt it.bIx env e'')) (fin : ∀ e, I xs.length e → Q .nx (reAt it.bIx env e)) : WS gl cf n (.for tg it b) env Q := by
  refine s_for' (fun _ _ => I) ?_
  obtain ⟨a, b, h, rfl, rfl⟩ := hI
  exact ⟨_, _, h, h0, step, fin⟩
/-- a while, by its invariant with a measure -/
theorem s_whlW {t : E} {b : S} {Q : Ctl → Env' → Prop} (I : Nat → Env' → Prop) (h0 : ∃ m, m < n ∧ I m env) (step : ∀ m e, I m e → WE gl cf t e fun rv e1 => WB rv fun k => @Wif0 k ⟨WS gl cf n b e1 fun c e2 => CL c (∃ m', m' < m ∧ I m' e2) (fun c => Q c e2)⟩ ⟨Q .nx e1⟩) : WS gl cf n (.whl t b) env Q := by
  refine s_whl' I h0 (fun m e h => ?_)
  obtain ⟨rv, e1, h1, q⟩ := step m e h
  refine ⟨rv, e1, h1, ?_⟩
  unfold WB at *
  split at q
  · rename_i k
    cases k <;> exact q
  · exact q.elim
/-- a comprehension, part by part -/
theorem w_comp3 {own : List Nat} {tg : Tg} {it : It} {cs : Es} {elt : E} {Q : Rv → Env' → Prop} (I : Nat → List D → Env' → Prop) (xs : List D) (e1 : Env') (hI : WI gl cf it env fun a b => a = xs ∧ b = e1) (hq : quiet e1 own = true) (hl : xs.length ≤ line) (h0 : I 0 [] e1)
    (step : ∀ i x ys e, xs[i]? = some x → I i ys e → Wtg tg x (wipeE e own) fun e' => WCs gl cf cs e' fun k e2 => if k = true then WE gl cf elt e2 fun rv e3 => I (i + 1) (ys ++ [frz rv]) e3 else I (i + 1) ys e2)
    (fin : ∀ ys e, I xs.length ys e → Q (.new (.lst ys)) (reAt it.bIx env (backE e1 e own))) : WE gl cf (.comp own tg it cs elt) env Q := by
  refine w_comp (fun _ _ => I) ?_
  obtain ⟨a, b, h, rfl, rfl⟩ := hI
  exact ⟨_, _, h, ⟨hq, hl⟩, h0, step, fin⟩
/-- a comprehension with a test, part by part -/
theorem w_compW {own : List Nat} {tg : Tg} {it : It} {cs : Es} {elt : E} {Q : Rv → Env' → Prop} (I : Nat → List D → Env' → Prop) (xs : List D) (e1 : Env') (hI : WI gl cf it env fun a b => a = xs ∧ b = e1) (hq : quiet e1 own = true) (hl : xs.length ≤ line) (h0 : I 0 [] e1)
    (step : ∀ i x ys e, xs[i]? = some x → I i ys e → Wtg tg x (wipeE e own) fun e' => WCs gl cf cs e' fun k e2 => @Wif0 k ⟨WE gl cf elt e2 fun rv e3 => I (i + 1) (ys ++ [frz rv]) e3⟩ ⟨I (i + 1) ys e2⟩)
    (fin : ∀ ys e, I xs.length ys e → Q (.new (.lst ys)) (reAt it.bIx env (backE e1 e own))) : WE gl cf (.comp own tg it cs elt) env Q := by
  refine w_comp3 I xs e1 hI hq hl h0 (fun i x ys e hx h => ?_) fin
  obtain ⟨e', g1, k, e2, g2, q⟩ := step i x ys e hx h
  refine ⟨e', g1, k, e2, g2, ?_⟩
  cases k <;> exact q
/-- [f(x) for x in xs if p(x)]: Sm tells how the slots stand meanwhile -/
theorem w_fm {own : List Nat} {tg : Tg} {it : It} {cs : Es} {elt : E} {Q : Rv → Env' → Prop} (Sm : Env' → Prop) (p : D → Bool) (f : D → D) (xs : List D) (e1 : Env') (hI : WI gl cf it env fun a b => a = xs ∧ b = e1) (hq : quiet e1 own = true) (hl : xs.length ≤ line) (h0 : Sm e1)
    (step : ∀ x e, x ∈ xs → Sm e → Wtg tg x (wipeE e own) fun e' => WCs gl cf cs e' fun k e2 => @Wif0 k ⟨p x = true ∧ WE gl cf elt e2 fun rv e3 => frz rv = f x ∧ Sm e3⟩ ⟨p x = false ∧ Sm e2⟩)
    (fin : ∀ e, Sm e → Q (.new (.lst ((xs.filter p).map f))) (reAt it.bIx env (backE e1 e own))) : WE gl cf (.comp own tg it cs elt) env Q := by
  refine w_comp3 (fun i ys e => ys = ((xs.take i).filter p).map f ∧ Sm e) xs e1 hI hq hl ⟨by simp, h0⟩ (fun i x ys e hx ⟨h1, h2⟩ => ?_) (fun ys e ⟨h1, h2⟩ => ?_)
  · subst h1
    obtain ⟨e', g1, k, e2, g2, q⟩ := step x e (List.mem_of_getElem? hx) h2
    refine ⟨e', g1, k, e2, g2, ?_⟩
    cases k with
    | true =>
      obtain ⟨hp, rv, e3, g3, g4, g5⟩ := q
      rw [if_pos rfl]
      refine ⟨rv, e3, g3, ?_, g5⟩
      rw [List.take_add_one, hx, g4]
      simp [List.filter_append, hp]
    | false =>
      obtain ⟨hp, g5⟩ := q
      rw [if_neg (by simp)]
      refine ⟨?_, g5⟩
      rw [List.take_add_one, hx]
      simp [List.filter_append, hp]
  · subst h1
    rw [List.take_length]
    exact fin e h2
/-- [f(x) for x in xs]: Sm tells how the slots stand meanwhile -/
theorem w_mp {own : List Nat} {tg : Tg} {it : It} {elt : E} {Q : Rv → Env' → Prop} (Sm : Env' → Prop) (f : D → D) (xs : List D) (e1 : Env') (hI : WI gl cf it env fun a b => a = xs ∧ b = e1) (hq : quiet e1 own = true) (hl : xs.length ≤ line) (h0 : Sm e1)
    (step : ∀ x e, x ∈ xs → Sm e → Wtg tg x (wipeE e own) fun e' => WE gl cf elt e' fun rv e3 => frz rv = f x ∧ Sm e3)
    (fin : ∀ e, Sm e → Q (.new (.lst (xs.map f))) (reAt it.bIx env (backE e1 e own))) : WE gl cf (.comp own tg it .nil elt) env Q := by
  refine w_fm Sm (fun _ => true) f xs e1 hI hq hl h0 (fun x e hx he => ?_) (fun e he => by rw [List.filter_eq_self.mpr (fun _ _ => rfl)]; exact fin e he)
  obtain ⟨e', g1, g2⟩ := step x e hx he
  exact ⟨e', g1, true, e', by rw [evCs], rfl, g2⟩
/-- [f(x) for x in xs] where the rest stays as it is -/
theorem w_map {v : Nat} {it : It} {elt : E} {Q : Rv → Env' → Prop} (f : D → D) (xs : List D) (e1 : Env') (hI : WI gl cf it env fun a b => a = xs ∧ b = e1) (hq : quiet e1 [v] = true) (hl : xs.length ≤ line) (hv : v < e1.length)
    (step : ∀ x, x ∈ xs → WE gl cf elt (e1.set v (.val x)) fun rv e' => frz rv = f x ∧ e' = e1.set v (.val x)) (fin : Q (.new (.lst (xs.map f))) (reAt it.bIx env e1)) : WE gl cf (.comp [v] (.nm v) it .nil elt) env Q := by
  have hg : ∀ s : Sl, (e1.set v s).set v (e1.getD v .no) = e1 := fun s => by
    rw [List.set_set]
    refine List.ext_getElem? fun j => ?_
    rw [List.getElem?_set]
    split
    · rename_i h; subst h
      rw [List.getD_eq_getElem?_getD, List.getElem?_eq_getElem hv]; simp
    · rfl
  refine w_comp3 (fun i ys e => ys = (xs.take i).map f ∧ ∃ s, e = e1.set v s) xs e1 hI hq hl ⟨by simp, e1.getD v .no, by have := hg (e1.getD v .no); rw [List.set_set] at this; exact this.symm⟩ (fun i x ys e hx ⟨h1, s, h2⟩ => ?_) (fun ys e ⟨h1, s, h2⟩ => ?_)
  · subst h1 h2
    rw [wtg_nm, wset]
    show match ((e1.set v s).set v .no)[v]? with | some t => _ | none => False
    rw [List.set_set, List.getElem?_set_self hv]
    refine ⟨rfl, c_nil.mpr ?_⟩
    rw [if_pos rfl]
    show WE gl cf elt (((e1.set v s).set v .no).set v (.val x)) _
    rw [List.set_set, List.set_set]
    refine (step x (List.mem_of_getElem? hx)).mono fun rv e' ⟨g1, g2⟩ => ?_
    refine ⟨?_, _, g2⟩
    rw [List.take_add_one, hx, g1]
    simp
  · subst h1 h2
    show Q _ (reAt it.bIx env ((e1.set v s).set v (e1.getD v .no)))
    rw [hg, List.take_length]
    exact fin
end
/-- what is looked at later -/
def Ltr [A : K0] : Prop := A.k
theorem ltr {A : K0} (h : A.k) : @Ltr A := h
/-- some slots by themselves -/
def puts : Env' → List Nat → List Sl → Env'
  | e, i :: is, s :: ss => puts (e.set i s) is ss
  | e, _, _ => e
def pick (e : Env') (vs : List Nat) : List Sl := vs.map fun i => e.getD i .no
theorem puts_nil {e : Env'} {ss : List Sl} : puts e [] ss = e := by cases ss <;> rfl
theorem puts_cons {e : Env'} {i : Nat} {is : List Nat} {s : Sl} {ss : List Sl} : puts e (i :: is) (s :: ss) = puts (e.set i s) is ss := rfl
theorem pick_nil {e : Env'} : pick e [] = [] := rfl
theorem pick_cons {e : Env'} {i : Nat} {is : List Nat} : pick e (i :: is) = e.getD i .no :: pick e is := rfl
theorem set_getD {e : Env'} {i : Nat} : e.set i (e.getD i .no) = e := by
  refine List.ext_getElem? fun j => ?_
  rw [List.getElem?_set]
  split
  · rename_i h; subst h
    split
    · rename_i hl
      rw [List.getD_eq_getElem?_getD, List.getElem?_eq_getElem hl]; rfl
    · rename_i hl
      rw [List.getElem?_eq_none (by omega)]
  · rfl
theorem puts_pick {e : Env'} : ∀ {vs : List Nat}, puts e vs (pick e vs) = e
  | [] => rfl
  | i :: is => by rw [pick_cons, puts_cons, set_getD, puts_pick]
theorem back_set {e : Env'} {a b : Env'} : ∀ {own : List Nat}, (∀ v, v ∉ own → a[v]? = b[v]?) → a.length = b.length → backE e a own = backE e b own
  | [], h, hl => by
    show a = b
    exact List.ext_getElem? fun j => h j (by simp)
  | v :: vs, h, hl => by
    show (backE e a vs).set v _ = (backE e b vs).set v _
    refine List.ext_getElem? fun j => ?_
    rw [List.getElem?_set, List.getElem?_set]
    have l1 : (backE e a vs).length = a.length := backE_len e a vs
    have l2 : (backE e b vs).length = b.length := backE_len e b vs
    by_cases hj : v = j
    · rw [if_pos hj, if_pos hj, l1, l2, hl]
    · rw [if_neg hj, if_neg hj, backE_get, backE_get, hl]
      by_cases hm : j ∈ vs ∧ j < b.length
      · rw [if_pos hm, if_pos hm]
      · rw [if_neg hm, if_neg hm]
        by_cases hm2 : j ∈ vs
        · have : b.length ≤ j := by
            by_cases q : j < b.length
            · exact absurd ⟨hm2, q⟩ hm
            · omega
          rw [List.getElem?_eq_none (by omega), List.getElem?_eq_none this]
        · exact h j (fun z => by rcases List.mem_cons.mp z with z | z; exact hj z.symm; exact hm2 z)
theorem back_wipe {e a : Env'} {own : List Nat} : backE e (wipeE a own) own = backE e a own :=
  back_set (fun v hv => by rw [wipeE_get, if_neg fun z => hv z.1]) (wipeE_len a own)
theorem back_of {e a b : Env'} {own : List Nat} (h : wipeE a own = wipeE b own) : backE e a own = backE e b own := by rw [← back_wipe, h, back_wipe]
theorem wipe_set {a : Env'} {v : Nat} {s : Sl} : ∀ {own : List Nat}, v ∈ own → wipeE (a.set v s) own = wipeE a own := fun {own} hv => by
  refine List.ext_getElem? fun j => ?_
  rw [wipeE_get, wipeE_get, List.length_set]
  by_cases hj : j ∈ own ∧ j < a.length
  · rw [if_pos hj, if_pos hj]
  · rw [if_neg hj, if_neg hj, List.getElem?_set]
    by_cases e : v = j
    · subst e
      have : ¬ v < a.length := fun q => hj ⟨hv, q⟩
      rw [if_pos rfl, if_neg this, List.getElem?_eq_none (by omega)]
    · rw [if_neg e]
theorem wipe_wipe {a : Env'} {own : List Nat} : wipeE (wipeE a own) own = wipeE a own := by
  refine List.ext_getElem? fun j => ?_
  rw [wipeE_get, wipeE_len]
  split
  · rename_i h; rw [wipeE_get, if_pos h]
  · rfl
section
variable {gl : Nat → D} {cf : Nat → List Sl → Option (Rv × List Sl)} {n : Nat} {env : Env'}
/-- [F y for y in ys if p y]: nothing but the block's own slots is touched -/
theorem w_fmT {α : Type} {own : List Nat} {tg : Tg} {it : It} {cs : Es} {elt : E} {Q : Rv → Env' → Prop} (ys : List α) (g : α → D) (p : α → Bool) (F : α → D)
    (h : WI gl cf it env fun xs e1 => xs = ys.map g ∧ (quiet e1 own = true ∧ ys.length ≤ line) ∧ @Ltr ⟨∀ y, y ∈ ys → Wtg tg (g y) (wipeE e1 own) fun e' => WCs gl cf cs e' fun k e2 => @Wif0 k ⟨p y = true ∧ WE gl cf elt e2 fun rv e3 => frz rv = F y ∧ wipeE e3 own = wipeE e1 own⟩ ⟨p y = false ∧ wipeE e2 own = wipeE e1 own⟩⟩ ∧
      @Ltr ⟨Q (.new (.lst ((ys.filter p).map F))) (reAt it.bIx env (backE e1 (wipeE e1 own) own))⟩) : WE gl cf (.comp own tg it cs elt) env Q := by
  refine w_comp (fun _ e1 i zs e => zs = ((ys.take i).filter p).map F ∧ wipeE e own = wipeE e1 own) ?_
  obtain ⟨xs, e1, hI, rfl, ⟨hq, hl⟩, step, fin⟩ := h
  refine ⟨_, e1, hI, ⟨hq, by rw [List.length_map]; exact hl⟩, ⟨by simp, rfl⟩, fun i x zs e hx ⟨h1, h2⟩ => ?_, fun zs e ⟨h1, h2⟩ => ?_⟩
  · rw [List.getElem?_map] at hx
    obtain ⟨y, hy, rfl⟩ := Option.map_eq_some_iff.mp hx
    subst h1
    rw [h2]
    obtain ⟨e', g1, k, e2, g2, q⟩ := step y (List.mem_of_getElem? hy)
    refine ⟨e', g1, k, e2, g2, ?_⟩
    cases k with
    | true =>
      obtain ⟨hp, rv, e3, g3, g4, g5⟩ := q
      rw [if_pos rfl]
      refine ⟨rv, e3, g3, ?_, g5⟩
      rw [List.take_add_one, hy, g4]
      simp [List.filter_append, hp]
    | false =>
      obtain ⟨hp, g5⟩ := q
      rw [if_neg (by simp)]
      refine ⟨?_, g5⟩
      rw [List.take_add_one, hy]
      simp [List.filter_append, hp]
  · subst h1
    have ee : backE e1 e own = backE e1 (wipeE e1 own) own := back_of (by rw [h2, wipe_wipe])
    rw [List.length_map, List.take_length, ee]
    exact fin
/-- [F y for y in ys] -/
theorem w_mapT {α : Type} {own : List Nat} {tg : Tg} {it : It} {elt : E} {Q : Rv → Env' → Prop} (ys : List α) (g : α → D) (F : α → D)
    (h : WI gl cf it env fun xs e1 => xs = ys.map g ∧ (quiet e1 own = true ∧ ys.length ≤ line) ∧ @Ltr ⟨∀ y, y ∈ ys → Wtg tg (g y) (wipeE e1 own) fun e' => WE gl cf elt e' fun rv e3 => frz rv = F y ∧ wipeE e3 own = wipeE e1 own⟩ ∧
      @Ltr ⟨Q (.new (.lst (ys.map F))) (reAt it.bIx env (backE e1 (wipeE e1 own) own))⟩) : WE gl cf (.comp own tg it .nil elt) env Q := by
  refine w_fmT ys g (fun _ => true) F ?_
  obtain ⟨xs, e1, hI, h1, h2, step, fin⟩ := h
  refine ⟨xs, e1, hI, h1, h2, fun y hy => ?_, ?_⟩
  · obtain ⟨e', g1, g2⟩ := step y hy
    exact ⟨e', g1, true, e', by rw [evCs], rfl, g2⟩
  · rw [List.filter_eq_self.mpr (fun _ _ => rfl)]; exact fin
/-- a comprehension that changes some slots -/
theorem w_compV {own : List Nat} {tg : Tg} {it : It} {cs : Es} {elt : E} {Q : Rv → Env' → Prop} (vs : List Nat) (I : Nat → List D → List Sl → Prop)
    (h : WI gl cf it env fun xs e1 => (quiet e1 own = true ∧ xs.length ≤ line) ∧ I 0 [] (pick e1 vs) ∧ @Ltr ⟨∀ i x ys ss, xs[i]? = some x → I i ys ss → Wtg tg x (wipeE (puts e1 vs ss) own) fun e' => WCs gl cf cs e' fun k e2 => @Wif0 k ⟨WE gl cf elt e2 fun rv e3 => wipeE (puts e1 vs (pick e3 vs)) own = wipeE e3 own ∧ I (i + 1) (ys ++ [frz rv]) (pick e3 vs)⟩ ⟨wipeE (puts e1 vs (pick e2 vs)) own = wipeE e2 own ∧ I (i + 1) ys (pick e2 vs)⟩⟩ ∧
      @Ltr ⟨∀ ys ss, I xs.length ys ss → Q (.new (.lst ys)) (reAt it.bIx env (backE e1 (puts e1 vs ss) own))⟩) : WE gl cf (.comp own tg it cs elt) env Q := by
  refine w_comp (fun _ e1 i zs e => ∃ ss, wipeE e own = wipeE (puts e1 vs ss) own ∧ I i zs ss) ?_
  obtain ⟨xs, e1, hI, ⟨hq, hl⟩, h0, step, fin⟩ := h
  refine ⟨_, e1, hI, ⟨hq, hl⟩, ⟨_, by rw [puts_pick], h0⟩, fun i x zs e hx ⟨ss, h1, h2⟩ => ?_, fun zs e ⟨ss, h1, h2⟩ => ?_⟩
  · rw [h1]
    obtain ⟨e', g1, k, e2, g2, q⟩ := step i x zs ss hx h2
    refine ⟨e', g1, k, e2, g2, ?_⟩
    cases k with
    | true =>
      obtain ⟨rv, e3, g3, g4, g5⟩ := q
      rw [if_pos rfl]
      exact ⟨rv, e3, g3, _, g4.symm, g5⟩
    | false =>
      rw [if_neg (by simp)]
      exact ⟨_, q.1.symm, q.2⟩
  · rw [back_of h1]
    exact fin zs ss h2
/-- a for over typed items, by an invariant of some slots -/
theorem s_forT {α : Type} {tg : Tg} {it : It} {b : S} {Q : Ctl → Env' → Prop} (ys : List α) (g : α → D) (vs : List Nat) (I : Nat → List Sl → Prop)
    (h : WI gl cf it env fun xs e1 => xs = ys.map g ∧ @Ltr ⟨I 0 (pick e1 vs)⟩ ∧ @Ltr ⟨∀ i y ss, ys[i]? = some y → I i ss → Wtg tg (g y) (puts e1 vs ss) fun e' => WS gl cf n b e' fun c e'' => CL c (puts e1 vs (pick e'' vs) = e'' ∧ I (i + 1) (pick e'' vs)) fun c => Q c (reAt it.bIx env e'')⟩ ∧
      @Ltr ⟨∀ ss, I ys.length ss → Q .nx (reAt it.bIx env (puts e1 vs ss))⟩) : WS gl cf n (.for tg it b) env Q := by
  refine s_for' (fun _ e1 i e => ∃ ss, e = puts e1 vs ss ∧ I i ss) ?_
  obtain ⟨xs, e1, hI, rfl, h0, step, fin⟩ := h
  refine ⟨_, e1, hI, ⟨_, puts_pick.symm, h0⟩, fun i x e hx ⟨ss, h1, h2⟩ => ?_, fun e ⟨ss, h1, h2⟩ => ?_⟩
  · subst h1
    rw [List.getElem?_map] at hx
    obtain ⟨y, hy, rfl⟩ := Option.map_eq_some_iff.mp hx
    obtain ⟨e', g1, c, e'', g2, q⟩ := step i y ss hy h2
    refine ⟨e', g1, c, e'', g2, ?_⟩
    cases c with
    | nx => exact ⟨_, q.1.symm, q.2⟩
    | ct => exact ⟨_, q.1.symm, q.2⟩
    | bk => exact q
    | ret r => exact q
  · subst h1
    rw [List.length_map] at h2
    exact fin ss h2
/-- a for, by an invariant of some slots -/
theorem s_forV {tg : Tg} {it : It} {b : S} {Q : Ctl → Env' → Prop} (vs : List Nat) (I : Nat → List Sl → Prop)
    (h : WI gl cf it env fun xs e1 => @Ltr ⟨I 0 (pick e1 vs)⟩ ∧ @Ltr ⟨∀ i x ss, xs[i]? = some x → I i ss → Wtg tg x (puts e1 vs ss) fun e' => WS gl cf n b e' fun c e'' => CL c (puts e1 vs (pick e'' vs) = e'' ∧ I (i + 1) (pick e'' vs)) fun c => Q c (reAt it.bIx env e'')⟩ ∧
      @Ltr ⟨∀ ss, I xs.length ss → Q .nx (reAt it.bIx env (puts e1 vs ss))⟩) : WS gl cf n (.for tg it b) env Q := by
  refine s_for' (fun _ e1 i e => ∃ ss, e = puts e1 vs ss ∧ I i ss) ?_
  obtain ⟨xs, e1, hI, h0, step, fin⟩ := h
  refine ⟨_, e1, hI, ⟨_, puts_pick.symm, h0⟩, fun i x e hx ⟨ss, h1, h2⟩ => ?_, fun e ⟨ss, h1, h2⟩ => ?_⟩
  · subst h1
    obtain ⟨e', g1, c, e'', g2, q⟩ := step i x ss hx h2
    refine ⟨e', g1, c, e'', g2, ?_⟩
    cases c with
    | nx => exact ⟨_, q.1.symm, q.2⟩
    | ct => exact ⟨_, q.1.symm, q.2⟩
    | bk => exact q
    | ret r => exact q
  · subst h1
    exact fin ss h2
/-- a while, by an invariant of some slots with a measure -/
theorem s_whlV {t : E} {b : S} {Q : Ctl → Env' → Prop} (vs : List Nat) (I : Nat → List Sl → Prop) (h0 : ∃ m, m < n ∧ I m (pick env vs))
    (step : ∀ m ss, I m ss → WE gl cf t (puts env vs ss) fun rv e1 => WB rv fun k => @Wif0 k ⟨WS gl cf n b e1 fun c e2 => CL c (puts env vs (pick e2 vs) = e2 ∧ ∃ m', m' < m ∧ I m' (pick e2 vs)) (fun c => Q c e2)⟩ ⟨Q .nx e1⟩) : WS gl cf n (.whl t b) env Q := by
  refine s_whlW (fun m e => ∃ ss, e = puts env vs ss ∧ I m ss) (by obtain ⟨m, hm, hI⟩ := h0; exact ⟨m, hm, _, puts_pick.symm, hI⟩) (fun m e ⟨ss, h1, h2⟩ => ?_)
  subst h1
  obtain ⟨rv, e1, g1, q⟩ := step m ss h2
  refine ⟨rv, e1, g1, ?_⟩
  unfold WB at *
  split at q
  · rename_i k
    cases k with
    | false => exact q
    | true =>
      obtain ⟨c, e2, g2, q⟩ := q
      refine ⟨c, e2, g2, ?_⟩
      cases c with
      | nx => obtain ⟨q1, m', hm, q2⟩ := q; exact ⟨m', hm, _, q1.symm, q2⟩
      | ct => obtain ⟨q1, m', hm, q2⟩ := q; exact ⟨m', hm, _, q1.symm, q2⟩
      | bk => exact q
      | ret r => exact q
  · exact q.elim
end
/-! forgetting, by what stands there -/
def fg2 (o : Option Sl) (i : Nat) (env : Env') : Env' := match o with
  | some s => if s.free then env.set i .no else env
  | none => env
theorem fg1_eq {i : Nat} {env : Env'} : fg1 i env = fg2 env[i]? i env := by unfold fg1 fg2; cases env[i]? <;> rfl
theorem fg2_no {i : Nat} {env : Env'} : fg2 (some .no) i env = env.set i .no := rfl
theorem fg2_val {i : Nat} {d : D} {env : Env'} : fg2 (some (.val d)) i env = env.set i .no := rfl
theorem fg2_loc {i : Nat} {m : Mo} {env : Env'} : fg2 (some (.loc m)) i env = env.set i .no := rfl
theorem fg2_io {i : Nat} {m : Mo} {env : Env'} : fg2 (some (.io m)) i env = env := rfl
theorem fg2_brw {i : Nat} {m : Mo} {env : Env'} : fg2 (some (.brw m)) i env = env := rfl
theorem fg2_out {i : Nat} {env : Env'} : fg2 none i env = env := rfl
theorem fg2_free {i : Nat} {s : Sl} {env : Env'} (h : s.free = true) : fg2 (some s) i env = env.set i .no := by show (if s.free = true then _ else _) = _; rw [if_pos h]
theorem fgE_nil {env : Env'} : fgE [] env = env := rfl
theorem fgE_cons {i : Nat} {is : List Nat} {env : Env'} : fgE (i :: is) env = fgE is (fg1 i env) := rfl
theorem fgC_nx {is : List Nat} {env : Env'} : fgC .nx is env = fgE is env := rfl
theorem fgC_bk {is : List Nat} {env : Env'} : fgC .bk is env = fgE is env := rfl
theorem fgC_ct {is : List Nat} {env : Env'} : fgC .ct is env = fgE is env := rfl
theorem fgC_ret {r : Rv} {is : List Nat} {env : Env'} : fgC (.ret r) is env = env := rfl
theorem wc_go {t : Tx} {n k f slots p : Nat} {b : S} {d : Df} {sl : List Sl} {env : Env'} {Q : Rv → List Sl → Prop} (hd : t.dfs[f]? = some d) (hf : d.fn = ⟨slots, p, b⟩) (hl : sl.length = p) (he : sl ++ List.replicate (slots - p) .no = env)
    (h : WS t.gl (t.call n k) n b env fun c e => CR c e p Q) : WC (t.call n (k + 1)) f sl Q := by
  refine wc_in hd (by rw [hf]; exact hl) (env := env) (by rw [hf]; exact he) ?_
  rw [hf]
  exact h
theorem unb1_l {m m' : Mo} : unb1 (.loc m) (.brw m') = .loc m' := rfl
theorem unb1_i {m m' : Mo} : unb1 (.io m) (.brw m') = .io m' := rfl
theorem unb1_b {m m' : Mo} : unb1 (.brw m) (.brw m') = .brw m' := rfl
theorem unb1_s {s : Sl} : unb1 s s = s := by cases s <;> rfl
theorem unb1_v {s : Sl} {d : D} : unb1 s (.val d) = .val d := by cases s <;> rfl
theorem unb1_n {s : Sl} : unb1 s .no = .no := by cases s <;> rfl
theorem unb1_o {s : Sl} {m : Mo} : unb1 s (.loc m) = .loc m := by cases s <;> rfl
theorem unb1_p {s : Sl} {m : Mo} : unb1 s (.io m) = .io m := by cases s <;> rfl
theorem free_n : Sl.free .no = true := rfl
theorem free_v {d : D} : Sl.free (.val d) = true := rfl
theorem free_l {m : Mo} : Sl.free (.loc m) = true := rfl
theorem frz_val {d : D} : frz (.val d) = d := rfl
theorem frz_new {m : Mo} : frz (.new m) = m.d := rfl
theorem d_lst {xs : List D} : (Mo.lst xs).d = .list xs := rfl

/-! ### a driver: rules that run from the front; what comes behind stands where it is not looked at -/
theorem k0_mk {p : Prop} : @K0.k ⟨p⟩ ↔ p := Iff.rfl
theorem k1_mk {α : Type} {f : α → Prop} {a : α} : @K1.k α ⟨f⟩ a ↔ f a := Iff.rfl
theorem k2_mk {α β : Type} {f : α → β → Prop} {a : α} {b : β} : @K2.k α β ⟨f⟩ a b ↔ f a b := Iff.rfl
def Wif (k : Bool) [A : K0] [B : K0] : Prop := if k = true then A.k else B.k
def WEi (gl : Nat → D) (cf : Nat → List Sl → Option (Rv × List Sl)) (e : E) (env : Env') [Q : K2 Rv Env'] : Prop := WE gl cf e env Q.k
def WEsi (gl : Nat → D) (cf : Nat → List Sl → Option (Rv × List Sl)) (es : Es) (env : Env') [Q : K2 (List D) Env'] : Prop := WEs gl cf es env Q.k
def WAsi (gl : Nat → D) (cf : Nat → List Sl → Option (Rv × List Sl)) (es : Es) (env : Env') [Q : K2 (List Ag) Env'] : Prop := WAs gl cf es env Q.k
def WIi (gl : Nat → D) (cf : Nat → List Sl → Option (Rv × List Sl)) (it : It) (env : Env') [Q : K2 (List D) Env'] : Prop := WI gl cf it env Q.k
def WCsi (gl : Nat → D) (cf : Nat → List Sl → Option (Rv × List Sl)) (cs : Es) (env : Env') [Q : K2 Bool Env'] : Prop := WCs gl cf cs env Q.k
def WSi (gl : Nat → D) (cf : Nat → List Sl → Option (Rv × List Sl)) (n : Nat) (s : S) (env : Env') [Q : K2 Ctl Env'] : Prop := WS gl cf n s env Q.k
def WCi (cf : Nat → List Sl → Option (Rv × List Sl)) (f : Nat) (sl : List Sl) [Q : K2 Rv (List Sl)] : Prop := WC cf f sl Q.k
def WOi (o : Op) (ds : List D) [Q : K1 Rv] : Prop := WO o ds Q.k
def WBi (rv : Rv) [Q : K1 Bool] : Prop := WB rv Q.k
def Wseti (i : Nat) (s : Sl) (env : Env') [Q : K1 Env'] : Prop := Wset i s env Q.k
def Walli (is : List Nat) (ds : List D) (env : Env') [Q : K1 Env'] : Prop := Wall is ds env Q.k
def Wtgi (tg : Tg) (d : D) (env : Env') [Q : K1 Env'] : Prop := Wtg tg d env Q.k
def Wowni (env : Env') (i : Nat) [Q : K2 Sl Mo] : Prop := Wown env i Q.k
def Wmmi (m : Mm) (mo : Mo) (ds : List D) [Q : K2 Mo D] : Prop := Wmm m mo ds Q.k
def Wsti (mo : Mo) (a d : D) [Q : K1 Mo] : Prop := Wst mo a d Q.k
def Wpri (d : D) [Q : K2 D D] : Prop := Wpr d Q.k
def Wwki (d : D) [Q : K1 (List D)] : Prop := Wwk d Q.k
def Wrgi (ds : List D) [Q : K1 (List D)] : Prop := Wrg ds Q.k
def Wgai (env : Env') (ag : List Ag) [Q : K1 (List Sl)] : Prop := Wga env ag Q.k
def Wpbi (ag : List Ag) (sl : List Sl) (env : Env') [Q : K1 Env'] : Prop := Wpb ag sl env Q.k
def Wati (xs : List D) (i : Int) [Q : K1 D] : Prop := Wat xs i Q.k
def Wixi (n : Nat) (i : Int) [Q : K1 Nat] : Prop := Wix n i Q.k
def Wpopi (xs : List D) [Q : K1 D] : Prop := Wpop xs Q.k
def Wputi (i : Nat) (rv : Rv) (env : Env') [Q : K1 Env'] : Prop := Wput i rv env Q.k
def Waui (o : Op) (a b : D) [Q : K1 D] : Prop := Wau o a b Q.k
def Wgti (mo : Mo) (k : D) [Q : K1 D] : Prop := Wgt mo k Q.k
def Wexti (mo : Mo) (d : D) [Q : K1 Mo] : Prop := Wext mo d Q.k
def Wopti (o : Option Rv) [Q : K1 Rv] : Prop := Wopt o Q.k
def Wvar (i : Nat) (o : Option Sl) (env : Env') [Q : K2 Rv Env'] : Prop := match o with | some (.val d) => Q.k (.val d) env | some (.loc m) => Q.k (.val m.d) (env.set i (.val m.d)) | _ => False
def Wmov (i : Nat) (o : Option Sl) (env : Env') [Q : K2 Rv Env'] : Prop := match o with | some (.loc m) => Q.k (.new m) (env.set i .no) | _ => False
def Wbr (i : Nat) (o : Option Sl) (env : Env') [Q : K2 D Env'] : Prop := match o with | some (.val d) => Q.k d env | some (.loc m) => Q.k m.d (env.set i (.brw m)) | some (.io m) => Q.k m.d (env.set i (.brw m)) | some (.brw m) => Q.k m.d env | _ => False
def Wab (i : Nat) (o : Option Sl) (env : Env') [Q : K2 Sl Env'] : Prop := match o with | some (.val d) => Q.k (.val d) env | some (.loc m) => Q.k (.brw m) (env.set i (.brw m)) | some (.io m) => Q.k (.brw m) (env.set i (.brw m)) | some (.brw m) => Q.k (.brw m) env | _ => False
def Wfre (o : Option Sl) [A : K0] : Prop := match o with | some t => t.free = true ∧ A.k | none => False
def Wow (o : Option Sl) [Q : K2 Sl Mo] : Prop := match o with | some (.loc m) => Q.k (.loc m) m | some (.io m) => Q.k (.io m) m | _ => False
def Wvl (o : Option Sl) [Q : K1 D] : Prop := match o with | some (.val d) => Q.k d | _ => False
def Wpp (o : Option Sl) [Q : K1 Sl] : Prop := match o with | some x => Q.k x | none => False
theorem in_WE (gl : Nat → D) (cf : Nat → List Sl → Option (Rv × List Sl)) (e : E) (env : Env') {f : Rv → Env' → Prop} : WE gl cf e env f ↔ @WEi gl cf e env ⟨f⟩ := Iff.rfl
theorem in_WEs (gl : Nat → D) (cf : Nat → List Sl → Option (Rv × List Sl)) (es : Es) (env : Env') {f : List D → Env' → Prop} : WEs gl cf es env f ↔ @WEsi gl cf es env ⟨f⟩ := Iff.rfl
theorem in_WAs (gl : Nat → D) (cf : Nat → List Sl → Option (Rv × List Sl)) (es : Es) (env : Env') {f : List Ag → Env' → Prop} : WAs gl cf es env f ↔ @WAsi gl cf es env ⟨f⟩ := Iff.rfl
theorem in_WI (gl : Nat → D) (cf : Nat → List Sl → Option (Rv × List Sl)) (it : It) (env : Env') {f : List D → Env' → Prop} : WI gl cf it env f ↔ @WIi gl cf it env ⟨f⟩ := Iff.rfl
theorem in_WCs (gl : Nat → D) (cf : Nat → List Sl → Option (Rv × List Sl)) (cs : Es) (env : Env') {f : Bool → Env' → Prop} : WCs gl cf cs env f ↔ @WCsi gl cf cs env ⟨f⟩ := Iff.rfl
theorem in_WS (gl : Nat → D) (cf : Nat → List Sl → Option (Rv × List Sl)) (n : Nat) (s : S) (env : Env') {f : Ctl → Env' → Prop} : WS gl cf n s env f ↔ @WSi gl cf n s env ⟨f⟩ := Iff.rfl
theorem in_WC (cf : Nat → List Sl → Option (Rv × List Sl)) (f : Nat) (sl : List Sl) {g : Rv → List Sl → Prop} : WC cf f sl g ↔ @WCi cf f sl ⟨g⟩ := Iff.rfl
theorem in_WO (o : Op) (ds : List D) {f : Rv → Prop} : WO o ds f ↔ @WOi o ds ⟨f⟩ := Iff.rfl
theorem in_WB (rv : Rv) {f : Bool → Prop} : WB rv f ↔ @WBi rv ⟨f⟩ := Iff.rfl
theorem in_Wset (i : Nat) (s : Sl) (env : Env') {f : Env' → Prop} : Wset i s env f ↔ @Wseti i s env ⟨f⟩ := Iff.rfl
theorem in_Wall (is : List Nat) (ds : List D) (env : Env') {f : Env' → Prop} : Wall is ds env f ↔ @Walli is ds env ⟨f⟩ := Iff.rfl
theorem in_Wtg (tg : Tg) (d : D) (env : Env') {f : Env' → Prop} : Wtg tg d env f ↔ @Wtgi tg d env ⟨f⟩ := Iff.rfl
theorem in_Wown (env : Env') (i : Nat) {f : Sl → Mo → Prop} : Wown env i f ↔ @Wowni env i ⟨f⟩ := Iff.rfl
theorem in_Wmm (m : Mm) (mo : Mo) (ds : List D) {f : Mo → D → Prop} : Wmm m mo ds f ↔ @Wmmi m mo ds ⟨f⟩ := Iff.rfl
theorem in_Wst (mo : Mo) (a d : D) {f : Mo → Prop} : Wst mo a d f ↔ @Wsti mo a d ⟨f⟩ := Iff.rfl
theorem in_Wpr (d : D) {f : D → D → Prop} : Wpr d f ↔ @Wpri d ⟨f⟩ := Iff.rfl
theorem in_Wwk (d : D) {f : List D → Prop} : Wwk d f ↔ @Wwki d ⟨f⟩ := Iff.rfl
theorem in_Wrg (ds : List D) {f : List D → Prop} : Wrg ds f ↔ @Wrgi ds ⟨f⟩ := Iff.rfl
theorem in_Wga (env : Env') (ag : List Ag) {f : List Sl → Prop} : Wga env ag f ↔ @Wgai env ag ⟨f⟩ := Iff.rfl
theorem in_Wpb (ag : List Ag) (sl : List Sl) (env : Env') {f : Env' → Prop} : Wpb ag sl env f ↔ @Wpbi ag sl env ⟨f⟩ := Iff.rfl
theorem in_Wat (xs : List D) (i : Int) {f : D → Prop} : Wat xs i f ↔ @Wati xs i ⟨f⟩ := Iff.rfl
theorem in_Wix (n : Nat) (i : Int) {f : Nat → Prop} : Wix n i f ↔ @Wixi n i ⟨f⟩ := Iff.rfl
theorem in_Wpop (xs : List D) {f : D → Prop} : Wpop xs f ↔ @Wpopi xs ⟨f⟩ := Iff.rfl
theorem in_Wput (i : Nat) (rv : Rv) (env : Env') {f : Env' → Prop} : Wput i rv env f ↔ @Wputi i rv env ⟨f⟩ := Iff.rfl
theorem in_Wgt (mo : Mo) (k : D) {f : D → Prop} : Wgt mo k f ↔ @Wgti mo k ⟨f⟩ := Iff.rfl
theorem in_Wext (mo : Mo) (d : D) {f : Mo → Prop} : Wext mo d f ↔ @Wexti mo d ⟨f⟩ := Iff.rfl
theorem in_Wau (o : Op) (a b : D) {f : D → Prop} : Wau o a b f ↔ @Waui o a b ⟨f⟩ := Iff.rfl
section
variable {gl : Nat → D} {cf : Nat → List Sl → Option (Rv × List Sl)} {n : Nat} {env : Env'} {i : Nat} {d : D} {m : Mo}
theorem wif_00 {k : Bool} {A B : K0} : @Wif0 k A B ↔ @Wif k A B := by cases k <;> simp [Wif0, Wif]
theorem wif_t {A B : K0} : @Wif true A B ↔ A.k := by unfold Wif; rw [if_pos rfl]
theorem wif_f {A B : K0} : @Wif false A B ↔ B.k := by unfold Wif; rw [if_neg Bool.false_ne_true]
theorem wif {k : Bool} {A B : K0} (h1 : k = true → A.k) (h2 : k = false → B.k) : @Wif k A B := by cases k; exact wif_f.mpr (h2 rfl); exact wif_t.mpr (h1 rfl)
theorem wif_pos {k : Bool} {A B : K0} (h : k = true) : @Wif k A B ↔ A.k := by rw [h]; exact wif_t
theorem wif_neg {k : Bool} {A B : K0} (h : k = false) : @Wif k A B ↔ B.k := by rw [h]; exact wif_f
theorem wvar_val {Q : K2 Rv Env'} : @Wvar i (some (.val d)) env Q ↔ Q.k (.val d) env := Iff.rfl
theorem wvar_loc {Q : K2 Rv Env'} : @Wvar i (some (.loc m)) env Q ↔ Q.k (.val m.d) (env.set i (.val m.d)) := Iff.rfl
theorem wmov_loc {Q : K2 Rv Env'} : @Wmov i (some (.loc m)) env Q ↔ Q.k (.new m) (env.set i .no) := Iff.rfl
theorem wbr_val {Q : K2 D Env'} : @Wbr i (some (.val d)) env Q ↔ Q.k d env := Iff.rfl
theorem wbr_loc {Q : K2 D Env'} : @Wbr i (some (.loc m)) env Q ↔ Q.k m.d (env.set i (.brw m)) := Iff.rfl
theorem wbr_io {Q : K2 D Env'} : @Wbr i (some (.io m)) env Q ↔ Q.k m.d (env.set i (.brw m)) := Iff.rfl
theorem wbr_brw {Q : K2 D Env'} : @Wbr i (some (.brw m)) env Q ↔ Q.k m.d env := Iff.rfl
theorem wab_val {Q : K2 Sl Env'} : @Wab i (some (.val d)) env Q ↔ Q.k (.val d) env := Iff.rfl
theorem wab_loc {Q : K2 Sl Env'} : @Wab i (some (.loc m)) env Q ↔ Q.k (.brw m) (env.set i (.brw m)) := Iff.rfl
theorem wab_io {Q : K2 Sl Env'} : @Wab i (some (.io m)) env Q ↔ Q.k (.brw m) (env.set i (.brw m)) := Iff.rfl
theorem wab_brw {Q : K2 Sl Env'} : @Wab i (some (.brw m)) env Q ↔ Q.k (.brw m) env := Iff.rfl
theorem wfre {t : Sl} {A : K0} : @Wfre (some t) A ↔ t.free = true ∧ A.k := Iff.rfl
theorem wow_loc {Q : K2 Sl Mo} : @Wow (some (.loc m)) Q ↔ Q.k (.loc m) m := Iff.rfl
theorem wow_io {Q : K2 Sl Mo} : @Wow (some (.io m)) Q ↔ Q.k (.io m) m := Iff.rfl
theorem wvl {Q : K1 D} : @Wvl (some (.val d)) Q ↔ Q.k d := Iff.rfl
theorem wpp {x : Sl} {Q : K1 Sl} : @Wpp (some x) Q ↔ Q.k x := Iff.rfl
theorem r_cst {Q : K2 Rv Env'} : @WEi gl cf (.cst d) env Q ↔ Q.k (.val d) env := w_cst
theorem r_glb {Q : K2 Rv Env'} : @WEi gl cf (.glb i) env Q ↔ Q.k (.val (gl i)) env := w_glb
theorem r_var {Q : K2 Rv Env'} : @WEi gl cf (.var i) env Q ↔ @Wvar i env[i]? env Q := w_var
theorem r_mov {Q : K2 Rv Env'} : @WEi gl cf (.mov i) env Q ↔ @Wmov i env[i]? env Q := w_mov
theorem r_op {o : Op} {es : Es} {Q : K2 Rv Env'} : @WEi gl cf (.op o es) env Q ↔ @WEsi gl cf es env ⟨fun ds env1 => @WOi o ds ⟨fun rv => Q.k rv (if es.hasB then unb env env1 else env1)⟩⟩ := w_op
theorem r_tup {es : Es} {Q : K2 Rv Env'} : @WEi gl cf (.tup es) env Q ↔ @WEsi gl cf es env ⟨fun ds env1 => (es.hasB = false ∧ ds.length ≤ line) ∧ Q.k (.val (.tuple ds)) env1⟩ := w_tup
theorem r_lst {es : Es} {Q : K2 Rv Env'} : @WEi gl cf (.lst es) env Q ↔ @WEsi gl cf es env ⟨fun ds env1 => (es.hasB = false ∧ ds.length ≤ line) ∧ Q.k (.new (.lst ds)) env1⟩ := w_lst
theorem r_dct {Q : K2 Rv Env'} : @WEi gl cf .dct env Q ↔ Q.k (.new (.dk [])) env := w_dct
theorem r_and {a b : E} {Q : K2 Rv Env'} : @WEi gl cf (.and a b) env Q ↔ @WEi gl cf a env ⟨fun rv env1 => @WBi rv ⟨fun k => @Wif k ⟨@WEi gl cf b env1 Q⟩ ⟨Q.k (.val (.bool false)) env1⟩⟩⟩ := w_and
theorem r_or {a b : E} {Q : K2 Rv Env'} : @WEi gl cf (.or a b) env Q ↔ @WEi gl cf a env ⟨fun rv env1 => @WBi rv ⟨fun k => @Wif k ⟨Q.k (.val (.bool true)) env1⟩ ⟨@WEi gl cf b env1 Q⟩⟩⟩ := w_or
theorem r_not {a : E} {Q : K2 Rv Env'} : @WEi gl cf (.not a) env Q ↔ @WEi gl cf a env ⟨fun rv env1 => @WBi rv ⟨fun k => Q.k (.val (.bool (!k))) env1⟩⟩ := w_not
theorem r_ife {c a b : E} {Q : K2 Rv Env'} : @WEi gl cf (.ife c a b) env Q ↔ @WEi gl cf c env ⟨fun rv env1 => @WBi rv ⟨fun k => @Wif k ⟨@WEi gl cf a env1 Q⟩ ⟨@WEi gl cf b env1 Q⟩⟩⟩ := w_ife
theorem r_chn {o1 o2 : Op} {a b c : E} {Q : K2 Rv Env'} : @WEi gl cf (.chn o1 o2 a b c) env Q ↔ @WEi gl cf a env ⟨fun ra e1 => @WEi gl cf b e1 ⟨fun rb e2 => @WOi o1 [frz ra, frz rb] ⟨fun rv => @WBi rv ⟨fun k => @Wif k ⟨@WEi gl cf c e2 ⟨fun rc e3 => @WOi o2 [frz rb, frz rc] ⟨fun rv => Q.k rv e3⟩⟩⟩ ⟨Q.k (.val (.bool false)) e2⟩⟩⟩⟩⟩ := w_chn
theorem r_call {f : Nat} {es : Es} {Q : K2 Rv Env'} : @WEi gl cf (.call f es) env Q ↔ @WAsi gl cf es env ⟨fun ag env1 => nodupB (pends ag) = true ∧ @Wgai env1 ag ⟨fun sl => @WCi cf f sl ⟨fun rv sl' => @Wpbi ag sl' env1 ⟨fun env2 => Q.k rv (if es.hasB then unb env env2 else env2)⟩⟩⟩⟩ := w_call
theorem r_mth {m : Mm} {i : Nat} {es : Es} {Q : K2 Rv Env'} : @WEi gl cf (.mth m i es) env Q ↔ @Wowni env i ⟨fun _ m0 => (m0.isL = true ∧ es.hasB = false) ∧ @WEsi gl cf es env ⟨fun ds env1 => @Wowni env1 i ⟨fun s mo => @Wmmi m mo ds ⟨fun mo' d => Q.k (.val d) (env1.set i (s.put mo'))⟩⟩⟩⟩ := w_mth'
theorem r_nil {Q : K2 (List D) Env'} : @WEsi gl cf .nil env Q ↔ Q.k [] env := w_nil
theorem r_brw {es : Es} {Q : K2 (List D) Env'} : @WEsi gl cf (.cons (.brw i) es) env Q ↔ @Wbr i env[i]? env ⟨fun d e => @WEsi gl cf es e ⟨fun ds e => Q.k (d :: ds) e⟩⟩ := w_brw
theorem r_cons {e : E} {es : Es} {Q : K2 (List D) Env'} (hn : ∀ i, e ≠ .brw i) : @WEsi gl cf (.cons e es) env Q ↔ @WEi gl cf e env ⟨fun rv e1 => @WEsi gl cf es e1 ⟨fun ds e2 => Q.k (frz rv :: ds) e2⟩⟩ := w_cons hn
theorem r_anil {Q : K2 (List Ag) Env'} : @WAsi gl cf .nil env Q ↔ Q.k [] env := a_nil
theorem r_abrw {es : Es} {Q : K2 (List Ag) Env'} : @WAsi gl cf (.cons (.brw i) es) env Q ↔ @Wab i env[i]? env ⟨fun s e => @WAsi gl cf es e ⟨fun ds e => Q.k (.sl s :: ds) e⟩⟩ := a_brw
theorem r_amov {es : Es} {Q : K2 (List Ag) Env'} : @WAsi gl cf (.cons (.mov i) es) env Q ↔ @Wowni env i ⟨fun _ _ => @WAsi gl cf es env ⟨fun ds e => Q.k (.pend i :: ds) e⟩⟩ := a_mov
theorem r_acons {e : E} {es : Es} {Q : K2 (List Ag) Env'} (hn : ∀ i, e ≠ .brw i) (hm : ∀ i, e ≠ .mov i) : @WAsi gl cf (.cons e es) env Q ↔ @WEi gl cf e env ⟨fun rv e1 => @WAsi gl cf es e1 ⟨fun ds e2 => Q.k (.sl (.val (frz rv)) :: ds) e2⟩⟩ := a_cons hn hm
theorem r_set {s : Sl} {Q : K1 Env'} : @Wseti i s env Q ↔ @Wfre env[i]? ⟨Q.k (env.set i s)⟩ := wset
theorem r_alln {Q : K1 Env'} : @Walli [] [] env Q ↔ Q.k env := wall_nil
theorem r_allc {is : List Nat} {ds : List D} {Q : K1 Env'} : @Walli (i :: is) (d :: ds) env Q ↔ @Wseti i (.val d) env ⟨fun e => @Walli is ds e Q⟩ := wall_cons
theorem r_tnm {Q : K1 Env'} : @Wtgi (.nm i) d env Q ↔ @Wseti i (.val d) env Q := Iff.rfl
theorem r_ttl {is : List Nat} {ds : List D} {Q : K1 Env'} : @Wtgi (.tp is) (.list ds) env Q ↔ @Walli is ds env Q := Iff.rfl
theorem r_ttp {is : List Nat} {ds : List D} {Q : K1 Env'} : @Wtgi (.tp is) (.tuple ds) env Q ↔ @Walli is ds env Q := Iff.rfl
theorem r_own {Q : K2 Sl Mo} : @Wowni env i Q ↔ @Wow env[i]? Q := wown
theorem r_pval {Q : K1 Env'} : @Wputi i (.val d) env Q ↔ @Wseti i (.val d) env Q := Iff.rfl
theorem r_pnew {Q : K1 Env'} : @Wputi i (.new m) env Q ↔ @Wseti i (.loc m) env Q := Iff.rfl
theorem r_gan {Q : K1 (List Sl)} : @Wgai env [] Q ↔ Q.k [] := wga_nil
theorem r_gas {s : Sl} {ag : List Ag} {Q : K1 (List Sl)} : @Wgai env (.sl s :: ag) Q ↔ @Wgai env ag ⟨fun t => Q.k (s :: t)⟩ := wga_sl
theorem r_gap {ag : List Ag} {Q : K1 (List Sl)} : @Wgai env (.pend i :: ag) Q ↔ @Wowni env i ⟨fun _ m => @Wgai env ag ⟨fun t => Q.k (.io m :: t)⟩⟩ := wga_pend
theorem r_pbn {sl : List Sl} {Q : K1 Env'} : @Wpbi [] sl env Q ↔ Q.k env := wpb_nil
theorem r_pbs {s t : Sl} {ag : List Ag} {sl : List Sl} {Q : K1 Env'} : @Wpbi (.sl s :: ag) (t :: sl) env Q ↔ @Wpbi ag sl env Q := Iff.rfl
theorem r_pbp {ag : List Ag} {sl : List Sl} {Q : K1 Env'} : @Wpbi (.pend i :: ag) (.io m :: sl) env Q ↔ @Wpp env[i]? ⟨fun x => @Wpbi ag sl (env.set i (x.put m)) Q⟩ := wpb_pend
theorem r_pass {Q : K2 Ctl Env'} : @WSi gl cf n .pass env Q ↔ Q.k .nx env := s_pass'
theorem r_bk {Q : K2 Ctl Env'} : @WSi gl cf n .brk env Q ↔ Q.k .bk env := s_brk'
theorem r_ct {Q : K2 Ctl Env'} : @WSi gl cf n .cnt env Q ↔ Q.k .ct env := s_cnt'
theorem r_retn {Q : K2 Ctl Env'} : @WSi gl cf n .retn env Q ↔ Q.k (.ret (.val .none)) env := s_retn'
theorem r_seq {a b : S} {Q : K2 Ctl Env'} : @WSi gl cf n (.seq a b) env Q ↔ @WSi gl cf n a env ⟨fun c e1 => CK c (@WSi gl cf n b e1 Q) (Q.k c e1)⟩ := s_seq'
theorem r_sset {e : E} {Q : K2 Ctl Env'} : @WSi gl cf n (.set i e) env Q ↔ @WEi gl cf e env ⟨fun rv e1 => @Wputi i rv e1 ⟨fun e2 => Q.k .nx e2⟩⟩ := s_set'
theorem r_unp {is : List Nat} {e : E} {Q : K2 Ctl Env'} : @WSi gl cf n (.unp is e) env Q ↔ @WEi gl cf e env ⟨fun rv e1 => @Wtgi (.tp is) (frz rv) e1 ⟨fun e2 => Q.k .nx e2⟩⟩ := s_unp'
theorem r_par {i j : Nat} {a b : E} {Q : K2 Ctl Env'} : @WSi gl cf n (.par i j a b) env Q ↔ @WEi gl cf a env ⟨fun ra e1 => @WEi gl cf b e1 ⟨fun rb e2 => @Wseti i (.val (frz ra)) e2 ⟨fun e3 => @Wseti j (.val (frz rb)) e3 ⟨fun e4 => Q.k .nx e4⟩⟩⟩⟩ := s_par'
theorem r_par3 {i j l : Nat} {a b d : E} {Q : K2 Ctl Env'} : @WSi gl cf n (.par3 i j l a b d) env Q ↔ @WEi gl cf a env ⟨fun ra e1 => @WEi gl cf b e1 ⟨fun rb e2 => @WEi gl cf d e2 ⟨fun rd e3 => @Wseti i (.val (frz ra)) e3 ⟨fun e4 => @Wseti j (.val (frz rb)) e4 ⟨fun e5 => @Wseti l (.val (frz rd)) e5 ⟨fun e6 => Q.k .nx e6⟩⟩⟩⟩⟩⟩ := s_par3'
theorem r_ups {j : Nat} {ix e : E} {Q : K2 Ctl Env'} : @WSi gl cf n (.ups i j ix e) env Q ↔ @WEi gl cf e env ⟨fun rv e1 => @Wpri (frz rv) ⟨fun d0 d1 => @Wseti i (.val d0) e1 ⟨fun e2 => @Wowni e2 j ⟨fun _ _ => @WEi gl cf ix e2 ⟨fun rk e3 => @Wowni e3 j ⟨fun s mo => @Wsti mo (frz rk) d1 ⟨fun mo' => Q.k .nx (e3.set j (s.put mo'))⟩⟩⟩⟩⟩⟩⟩ := s_ups'
theorem r_pr {a b : D} {Q : K2 D D} : @Wpri (.tuple [a, b]) Q ↔ Q.k a b := ⟨fun ⟨_, _, h, q⟩ => by (cases h; exact q), fun q => ⟨_, _, rfl, q⟩⟩
theorem r_st {ix e : E} {Q : K2 Ctl Env'} : @WSi gl cf n (.st i ix e) env Q ↔ @WEi gl cf e env ⟨fun rv e1 => @Wowni e1 i ⟨fun _ _ => @WEi gl cf ix e1 ⟨fun rk e2 => @Wowni e2 i ⟨fun s mo => @Wsti mo (frz rk) (frz rv) ⟨fun mo' => Q.k .nx (e2.set i (s.put mo'))⟩⟩⟩⟩⟩ := s_st'
theorem r_aug {o : Op} {e : E} {Q : K2 Ctl Env'} : @WSi gl cf n (.aug i o e) env Q ↔ @Wvl env[i]? ⟨fun d0 => @WEi gl cf e env ⟨fun rv e1 => @Waui o d0 (frz rv) ⟨fun d => @Wseti i (.val d) e1 ⟨fun e2 => Q.k .nx e2⟩⟩⟩⟩ := s_aug'
theorem r_ex {e : E} {Q : K2 Ctl Env'} : @WSi gl cf n (.ex e) env Q ↔ @WEi gl cf e env ⟨fun _ e1 => Q.k .nx e1⟩ := s_ex'
theorem r_ret {e : E} {Q : K2 Ctl Env'} : @WSi gl cf n (.ret e) env Q ↔ @WEi gl cf e env ⟨fun rv e1 => Q.k (.ret rv) e1⟩ := s_ret'
theorem r_sife {c : E} {a b : S} {Q : K2 Ctl Env'} : @WSi gl cf n (.ife c a b) env Q ↔ @WEi gl cf c env ⟨fun rv e1 => @WBi rv ⟨fun k => @Wif k ⟨@WSi gl cf n a e1 Q⟩ ⟨@WSi gl cf n b e1 Q⟩⟩⟩ := s_ife'
theorem r_ibrw {Q : K2 (List D) Env'} : @WIi gl cf (.of (.brw i)) env Q ↔ @Wbr i env[i]? env ⟨fun d e => @Wwki d ⟨fun xs => Q.k xs e⟩⟩ := i_brw
theorem r_iof {e : E} {Q : K2 (List D) Env'} (hn : ∀ i, e ≠ .brw i) : @WIi gl cf (.of e) env Q ↔ @WEi gl cf e env ⟨fun rv e1 => @Wwki (frz rv) ⟨fun xs => Q.k xs e1⟩⟩ := i_of hn
theorem r_irng {es : Es} {Q : K2 (List D) Env'} : @WIi gl cf (.rng es) env Q ↔ @WEsi gl cf es env ⟨fun ds e1 => @Wrgi ds ⟨fun xs => Q.k xs (if es.hasB then unb env e1 else e1)⟩⟩ := i_rng
theorem r_wkl {ds : List D} {Q : K1 (List D)} : @Wwki (.list ds) Q ↔ Q.k ds := wwk_list
theorem r_wkt {ds : List D} {Q : K1 (List D)} : @Wwki (.tuple ds) Q ↔ Q.k ds := wwk_tuple
theorem r_wks {ds : List D} {Q : K1 (List D)} : @Wwki (scrD ds) Q ↔ Q.k ds := wwk_scr
theorem r_rg1 {j : Int} {Q : K1 (List D)} : @Wrgi [.int j] Q ↔ (-(2 ^ 62) ≤ j ∧ j < 2 ^ 62) ∧ Q.k (rgL 0 j.toNat) := wrg1
theorem r_rg2 {a j : Int} {Q : K1 (List D)} : @Wrgi [.int a, .int j] Q ↔ (-(2 ^ 62) ≤ a ∧ a < 2 ^ 62 ∧ -(2 ^ 62) ≤ j ∧ j < 2 ^ 62) ∧ Q.k (rgL a (j - a).toNat) := wrg2
theorem r_rg3 {a j c : Int} {Q : K1 (List D)} : @Wrgi [.int a, .int j, .int c] Q ↔ rg3 a j c ∧ Q.k (rgC a c (PySem.Builtin.Range.rangeSize a j c).toNat) := wrg3
theorem r_cn {Q : K2 Bool Env'} : @WCsi gl cf .nil env Q ↔ Q.k true env := c_nil
theorem r_c1 {e : E} {Q : K2 Bool Env'} : @WCsi gl cf (.cons e .nil) env Q ↔ @WEi gl cf e env ⟨fun rv e1 => @WBi rv ⟨fun k => Q.k k e1⟩⟩ := c_one
theorem r_b {b : Bool} {P : K1 Bool} : @WBi (.val (.bool b)) P ↔ P.k b := Iff.rfl
theorem r_cret {p : Nat} {rv : Rv} {Q : Rv → List Sl → Prop} : CR (.ret rv) env p Q ↔ Q rv (env.take p) := Iff.rfl
theorem r_cnx {p : Nat} {Q : Rv → List Sl → Prop} : CR .nx env p Q ↔ Q (.val .none) (env.take p) := Iff.rfl
theorem owo_add {Q : K1 Rv} {i : Int} {j : Int} : @WOi .add [.int i, .int j] Q ↔ Q.k (.val (.int (i + j))) := wo_add
theorem owo_adds {Q : K1 Rv} {x : Str} {y : Str} : @WOi .add [.str x, .str y] Q ↔ x.length + y.length ≤ line ∧ Q.k (.val (.str (x ++ y))) := wo_adds
theorem owo_addl {Q : K1 Rv} {xs : List D} {ys : List D} : @WOi .add [.list xs, .list ys] Q ↔ xs.length + ys.length ≤ line ∧ Q.k (.new (.lst (xs ++ ys))) := wo_addl
theorem owo_addt {Q : K1 Rv} {xs : List D} {ys : List D} : @WOi .add [.tuple xs, .tuple ys] Q ↔ xs.length + ys.length ≤ line ∧ Q.k (.val (.tuple (xs ++ ys))) := wo_addt
theorem owo_sub {Q : K1 Rv} {i : Int} {j : Int} : @WOi .sub [.int i, .int j] Q ↔ Q.k (.val (.int (i - j))) := wo_sub
theorem owo_mul {Q : K1 Rv} {i : Int} {j : Int} : @WOi .mul [.int i, .int j] Q ↔ (bitsOk i = true ∧ bitsOk j = true) ∧ Q.k (.val (.int (i * j))) := wo_mul
theorem owo_mull {Q : K1 Rv} {j : Int} {xs : List D} : @WOi .mul [.list xs, .int j] Q ↔ (xs.length * j.toNat ≤ line ∧ -(2 ^ 62) < j ∧ j < 2 ^ 62) ∧ Q.k (.new (.lst (List.replicate j.toNat xs).flatten)) := wo_mull
theorem owo_mult {Q : K1 Rv} {j : Int} {xs : List D} : @WOi .mul [.tuple xs, .int j] Q ↔ (-(2 ^ 62) < j ∧ j ≤ 1000 ∧ xs.length ≤ 1000) ∧ Q.k (.val (.tuple (List.replicate j.toNat xs).flatten)) := wo_mult
theorem owo_fdiv {Q : K1 Rv} {i : Int} {j : Int} : @WOi .fdiv [.int i, .int j] Q ↔ (j ≠ 0 ∧ j.natAbs.log2 < 9000) ∧ Q.k (.val (.int (i.fdiv j))) := wo_fdiv
theorem owo_mod {Q : K1 Rv} {i : Int} {j : Int} : @WOi .mod [.int i, .int j] Q ↔ j ≠ 0 ∧ Q.k (.val (.int (i.fmod j))) := wo_mod
theorem owo_pow {Q : K1 Rv} {i : Int} {j : Int} : @WOi .pow [.int i, .int j] Q ↔ (0 ≤ j ∧ j ≤ 1000000 ∧ -18446744073709551616 < i ∧ i < 18446744073709551616) ∧ Q.k (.val (.int (i ^ j.toNat))) := wo_pow
theorem owo_xor {Q : K1 Rv} {i : Int} {j : Int} : @WOi .xor [.int i, .int j] Q ↔ Q.k (.val (.int (Builtin.bitXor i j))) := wo_xor
theorem owo_neg {Q : K1 Rv} {i : Int} : @WOi .neg [.int i] Q ↔ Q.k (.val (.int (-i))) := wo_neg
theorem owo_lt {Q : K1 Rv} {i : Int} {j : Int} : @WOi .lt [.int i, .int j] Q ↔ Q.k (.val (.bool (decide (i < j)))) := wo_lt
theorem owo_le {Q : K1 Rv} {i : Int} {j : Int} : @WOi .le [.int i, .int j] Q ↔ Q.k (.val (.bool (decide (i ≤ j)))) := wo_le
theorem owo_gt {Q : K1 Rv} {i : Int} {j : Int} : @WOi .gt [.int i, .int j] Q ↔ Q.k (.val (.bool (decide (j < i)))) := wo_gt
theorem owo_ge {Q : K1 Rv} {i : Int} {j : Int} : @WOi .ge [.int i, .int j] Q ↔ Q.k (.val (.bool (decide (j ≤ i)))) := wo_ge
theorem owo_eq {Q : K1 Rv} {a : D} {b : D} : @WOi .eq [a, b] Q ↔ (SeqAt.shaped a = true ∧ SeqAt.shaped b = true) ∧ Q.k (.val (.bool (PyData.eqv a b))) := wo_eq
theorem owo_ne {Q : K1 Rv} {a : D} {b : D} : @WOi .ne [a, b] Q ↔ (SeqAt.shaped a = true ∧ SeqAt.shaped b = true) ∧ Q.k (.val (.bool (!PyData.eqv a b))) := wo_ne
theorem owo_isN {Q : K1 Rv} {a : D} : @WOi .isN [a, .none] Q ↔ Q.k (.val (.bool (isNone a))) := wo_isN
theorem owo_isB {Q : K1 Rv} {p q : Bool} : @WOi .isN [.bool p, .bool q] Q ↔ Q.k (.val (.bool (decide (p = q)))) := wo_isB
theorem owo_notB {Q : K1 Rv} {p q : Bool} : @WOi .notN [.bool p, .bool q] Q ↔ Q.k (.val (.bool (!decide (p = q)))) := wo_notB
theorem owo_notN {Q : K1 Rv} {a : D} : @WOi .notN [a, .none] Q ↔ Q.k (.val (.bool (!isNone a))) := wo_notN
theorem owo_in {Q : K1 Rv} {xs : List D} {a : D} : @WOi .inn [a, .list xs] Q ↔ (SeqAt.shaped a = true ∧ SeqAt.shaped (.list xs) = true) ∧ Q.k (.val (.bool (xs.any fun z => PyData.eqv z a))) := wo_in
theorem owo_int' {Q : K1 Rv} {xs : List D} {a : D} : @WOi .inn [a, .tuple xs] Q ↔ (SeqAt.shaped a = true ∧ SeqAt.shaped (.list xs) = true) ∧ Q.k (.val (.bool (xs.any fun z => PyData.eqv z a))) := wo_int'
theorem owo_notin {Q : K1 Rv} {xs : List D} {a : D} : @WOi .notin [a, .list xs] Q ↔ (SeqAt.shaped a = true ∧ SeqAt.shaped (.list xs) = true) ∧ Q.k (.val (.bool (!xs.any fun z => PyData.eqv z a))) := wo_notin
theorem owo_notint {Q : K1 Rv} {xs : List D} {a : D} : @WOi .notin [a, .tuple xs] Q ↔ (SeqAt.shaped a = true ∧ SeqAt.shaped (.list xs) = true) ∧ Q.k (.val (.bool (!xs.any fun z => PyData.eqv z a))) := wo_notint
theorem owo_idxl {Q : K1 Rv} {i : Int} {xs : List D} : @WOi .idx [.list xs, .int i] Q ↔ @Wati xs i ⟨fun d => Q.k (.val d)⟩ := wo_idxl
theorem owo_idxt {Q : K1 Rv} {i : Int} {xs : List D} : @WOi .idx [.tuple xs, .int i] Q ↔ @Wati xs i ⟨fun d => Q.k (.val d)⟩ := wo_idxt
theorem owo_idxs {Q : K1 Rv} {i : Int} {xs : List D} : @WOi .idx [scrD xs, .int i] Q ↔ @Wati xs i ⟨fun d => Q.k (.val d)⟩ := wo_idxs
theorem owo_slcl {lo : Int} {Q : K1 Rv} {xs : List D} : @WOi (.slc true false) [.list xs, .int lo] Q ↔ Q.k (.new (.lst (cutD xs (some lo) none))) := wo_slcl
theorem owo_slcr {hi : Int} {Q : K1 Rv} {xs : List D} : @WOi (.slc false true) [.list xs, .int hi] Q ↔ Q.k (.new (.lst (cutD xs none (some hi)))) := wo_slcr
theorem owo_slc {lo hi : Int} {Q : K1 Rv} {xs : List D} : @WOi (.slc true true) [.list xs, .int lo, .int hi] Q ↔ Q.k (.new (.lst (cutD xs (some lo) (some hi)))) := wo_slc
theorem owo_slc0 {Q : K1 Rv} {xs : List D} : @WOi (.slc false false) [.list xs] Q ↔ Q.k (.new (.lst (cutD xs none none))) := wo_slc0
theorem owo_slcl' {lo : Int} {Q : K1 Rv} {xs : List D} : @WOi (.slc true false) [.tuple xs, .int lo] Q ↔ Q.k (.val (.tuple (cutD xs (some lo) none))) := wo_slcl'
theorem owo_slcr' {hi : Int} {Q : K1 Rv} {xs : List D} : @WOi (.slc false true) [.tuple xs, .int hi] Q ↔ Q.k (.val (.tuple (cutD xs none (some hi)))) := wo_slcr'
theorem owo_slc' {lo hi : Int} {Q : K1 Rv} {xs : List D} : @WOi (.slc true true) [.tuple xs, .int lo, .int hi] Q ↔ Q.k (.val (.tuple (cutD xs (some lo) (some hi)))) := wo_slc'
theorem owo_rev' {Q : K1 Rv} {xs : List D} : @WOi .rev [.tuple xs] Q ↔ Q.k (.val (.tuple xs.reverse)) := wo_rev'
theorem owo_rev {Q : K1 Rv} {xs : List D} : @WOi .rev [.list xs] Q ↔ Q.k (.new (.lst xs.reverse)) := wo_rev
theorem owo_lenl {Q : K1 Rv} {xs : List D} : @WOi .len [.list xs] Q ↔ Q.k (.val (.int xs.length)) := wo_lenl
theorem owo_lent {Q : K1 Rv} {xs : List D} : @WOi .len [.tuple xs] Q ↔ Q.k (.val (.int xs.length)) := wo_lent
theorem owo_lenr {Q : K1 Rv} {xs : List D} : @WOi .len [scrD xs] Q ↔ Q.k (.val (.int xs.length)) := wo_lenr
theorem owo_lens {Q : K1 Rv} {x : Str} : @WOi .len [.str x] Q ↔ x.length ≤ line ∧ Q.k (.val (.int x.length)) := wo_lens
theorem owo_abs {Q : K1 Rv} {i : Int} : @WOi .abs [.int i] Q ↔ Q.k (.val (.int (if i < 0 then -i else i))) := wo_abs
theorem owo_int {Q : K1 Rv} {i : Int} : @WOi .int [.int i] Q ↔ Q.k (.val (.int i)) := wo_int
theorem owo_intb {Q : K1 Rv} {p : Bool} : @WOi .int [.bool p] Q ↔ Q.k (.val (.int (if p then 1 else 0))) := wo_intb
theorem owo_ltt {Q : K1 Rv} {xs ys : List D} : @WOi .lt [.tuple xs, .tuple ys] Q ↔ @Wopti (op2 .lt (.tuple xs) (.tuple ys)) Q := Iff.rfl
theorem owo_let {Q : K1 Rv} {xs ys : List D} : @WOi .le [.tuple xs, .tuple ys] Q ↔ @Wopti (op2 .le (.tuple xs) (.tuple ys)) Q := Iff.rfl
theorem owo_gtt {Q : K1 Rv} {xs ys : List D} : @WOi .gt [.tuple xs, .tuple ys] Q ↔ @Wopti (op2 .gt (.tuple xs) (.tuple ys)) Q := Iff.rfl
theorem owo_get {Q : K1 Rv} {xs ys : List D} : @WOi .ge [.tuple xs, .tuple ys] Q ↔ @Wopti (op2 .ge (.tuple xs) (.tuple ys)) Q := Iff.rfl
theorem owo_max2t {Q : K1 Rv} {xs ys : List D} : @WOi .max2 [.tuple xs, .tuple ys] Q ↔ @Wopti (max2f (.tuple xs) (.tuple ys)) Q := Iff.rfl
theorem owo_min2t {Q : K1 Rv} {xs ys : List D} : @WOi .min2 [.tuple xs, .tuple ys] Q ↔ @Wopti (min2f (.tuple xs) (.tuple ys)) Q := Iff.rfl
theorem owo_max2 {Q : K1 Rv} {i : Int} {j : Int} : @WOi .max2 [.int i, .int j] Q ↔ Q.k (.val (.int (if j > i then j else i))) := wo_max2
theorem owo_min2 {Q : K1 Rv} {i : Int} {j : Int} : @WOi .min2 [.int i, .int j] Q ↔ Q.k (.val (.int (if j < i then j else i))) := wo_min2
theorem owo_gcd {Q : K1 Rv} {i : Int} {j : Int} : @WOi .gcd [.int i, .int j] Q ↔ Q.k (.val (.int (Nat.gcd i.natAbs j.natAbs : Nat))) := wo_gcd
theorem owo_tuplel {Q : K1 Rv} {xs : List D} : @WOi .tuple [.list xs] Q ↔ Q.k (.val (.tuple xs)) := wo_tuplel
theorem owo_tuplet {Q : K1 Rv} {xs : List D} : @WOi .tuple [.tuple xs] Q ↔ Q.k (.val (.tuple xs)) := wo_tuplet
theorem owo_tupler {Q : K1 Rv} {xs : List D} : @WOi .tuple [scrD xs] Q ↔ Q.k (.val (.tuple xs)) := wo_tupler
theorem owo_listl {Q : K1 Rv} {xs : List D} : @WOi .list [.list xs] Q ↔ Q.k (.new (.lst xs)) := wo_listl
theorem owo_listt {Q : K1 Rv} {xs : List D} : @WOi .list [.tuple xs] Q ↔ Q.k (.new (.lst xs)) := wo_listt
theorem owo_listr {Q : K1 Rv} {xs : List D} : @WOi .list [scrD xs] Q ↔ Q.k (.new (.lst xs)) := wo_listr
theorem owo_tupR1 {Q : K1 Rv} {j : Int} : @WOi .tupR [.int j] Q ↔ rgOk 0 j ∧ Q.k (.val (.tuple (rgL 0 j.toNat))) := wo_tupR1
theorem owo_tupR2 {Q : K1 Rv} {i j : Int} : @WOi .tupR [.int i, .int j] Q ↔ rgOk i j ∧ Q.k (.val (.tuple (rgL i (j - i).toNat))) := wo_tupR2
theorem owo_lstR1 {Q : K1 Rv} {j : Int} : @WOi .lstR [.int j] Q ↔ rgOk 0 j ∧ Q.k (.new (.lst (rgL 0 j.toNat))) := wo_lstR1
theorem owo_lstR2 {Q : K1 Rv} {i j : Int} : @WOi .lstR [.int i, .int j] Q ↔ rgOk i j ∧ Q.k (.new (.lst (rgL i (j - i).toNat))) := wo_lstR2
theorem owo_max {Q : K1 Rv} {xs : List D} : @WOi .max [.list xs] Q ↔ @Wopti (maxf (.list xs)) Q := Iff.rfl
theorem owo_min {Q : K1 Rv} {xs : List D} : @WOi .min [.list xs] Q ↔ @Wopti (minf (.list xs)) Q := Iff.rfl
theorem owo_maxt {Q : K1 Rv} {xs : List D} : @WOi .max [.tuple xs] Q ↔ @Wopti (maxf (.tuple xs)) Q := Iff.rfl
theorem owo_mint {Q : K1 Rv} {xs : List D} : @WOi .min [.tuple xs] Q ↔ @Wopti (minf (.tuple xs)) Q := Iff.rfl
theorem owo_bits {Q : K1 Rv} {i : Int} : @WOi .bits [.int i] Q ↔ Q.k (.val (.int (Builtin.Int.intBits i : Nat))) := some_ex
theorem owo_sumt {Q : K1 Rv} {xs : List D} : @WOi .sum [.tuple xs] Q ↔ @Wopti (sumf (.tuple xs)) Q := Iff.rfl
theorem sumt_some {xs : List D} {ns : List Int} (h : xs = ns.map .int) : sumf (.tuple xs) = some (.val (.int ns.sum)) := by
  subst h
  show (ints? (ns.map .int)).map _ = _
  rw [ints_map]; rfl
theorem owo_sum {Q : K1 Rv} {xs : List D} : @WOi .sum [.list xs] Q ↔ @Wopti (sumf (.list xs)) Q := Iff.rfl
theorem owo_any {Q : K1 Rv} {xs : List D} : @WOi .any [.list xs] Q ↔ @Wopti (anyf (.list xs)) Q := Iff.rfl
theorem owo_all {Q : K1 Rv} {xs : List D} : @WOi .all [.list xs] Q ↔ @Wopti (allf (.list xs)) Q := Iff.rfl
theorem owo_sortedt {Q : K1 Rv} {xs : List D} : @WOi .sorted [.tuple xs] Q ↔ @Wopti (sortedf (.tuple xs)) Q := Iff.rfl
theorem owo_sortedd {Q : K1 Rv} {kvs : List (Key × D)} : @WOi .sorted [(Mo.dk kvs).d] Q ↔ @Wopti (sortedf (Mo.dk kvs).d) Q := Iff.rfl
theorem owo_ind {Q : K1 Rv} {i : Int} {kvs : List (Key × D)} : @WOi .inn [.int i, (Mo.dk kvs).d] Q ↔ @Wopti (inf false (.int i) (Mo.dk kvs).d) Q := Iff.rfl
theorem owo_notind {Q : K1 Rv} {i : Int} {kvs : List (Key × D)} : @WOi .notin [.int i, (Mo.dk kvs).d] Q ↔ @Wopti (inf true (.int i) (Mo.dk kvs).d) Q := Iff.rfl
/-- a dict that says True at some ints -/
def tset (ks : List Int) : List (Key × D) := ks.map fun k => (.inl k, .bool true)
theorem keysI_tset : ∀ ks : List Int, keysI? ((tset ks).map fun p => (kD p.1, p.2)) = some ks
  | [] => rfl
  | k :: r => by
    show (keysI? ((tset r).map fun p => (kD p.1, p.2))).map (k :: ·) = _
    rw [keysI_tset r]; rfl
theorem sortedk_some {ks : List Int} (h : ks.length < 64) : sortedf (Mo.dk (tset ks)).d = some (.new (.lst ((sortI ks).map .int))) := by
  show (keysI? ((tset ks).map fun p => (kD p.1, p.2))).bind _ = _
  rw [keysI_tset]
  exact if_pos h
theorem ink_some {neg : Bool} {i : Int} {ks : List Int} : inf neg (.int i) (Mo.dk (tset ks)).d = some (.val (.bool (if neg then !decide (i ∈ ks) else decide (i ∈ ks)))) := by
  show (keysI? ((tset ks).map fun p => (kD p.1, p.2))).map _ = _
  rw [keysI_tset]; rfl
theorem putD_tset {ks : List Int} {i : Int} : putD (tset ks) (.inl i) (.bool true) = tset (if i ∈ ks then ks else ks ++ [i]) := by
  unfold putD
  have e : ((tset ks).any fun p => decide (p.1 = Sum.inl i)) = decide (i ∈ ks) := by
    unfold tset
    rw [List.any_map, Bool.eq_iff_iff, List.any_eq_true, decide_eq_true_iff]
    constructor
    · rintro ⟨j, hj, e⟩
      have := of_decide_eq_true e
      cases this
      exact hj
    · intro hi
      exact ⟨i, hi, decide_eq_true rfl⟩
  rw [e]
  by_cases h : i ∈ ks
  · rw [if_pos (decide_eq_true h), if_pos h]
    unfold tset
    rw [List.map_map]
    refine List.map_congr_left fun k _ => ?_
    show (if (Sum.inl k : Key) = Sum.inl i then ((Sum.inl k : Key), PyData.bool true) else (Sum.inl k, .bool true)) = _
    split <;> rfl
  · rw [if_neg (by simpa using h), if_neg h]
    unfold tset
    rw [List.map_append]; rfl
theorem tset_len {ks : List Int} : (tset ks).length = ks.length := by unfold tset; rw [List.length_map]
theorem owo_sorted {Q : K1 Rv} {xs : List D} : @WOi .sorted [.list xs] Q ↔ @Wopti (sortedf (.list xs)) Q := Iff.rfl
theorem wopt {o : Option Rv} {rv : Rv} {Q : K1 Rv} (h : o = some rv) : @Wopti o Q ↔ Q.k rv := wopt0 h
theorem owisI_int {Q : K1 Rv} {i : Int} : @WOi .isI [(.int i)] Q ↔ Q.k (.val (.bool true)) := wisI_int
theorem owisI_bool {Q : K1 Rv} {p : Bool} : @WOi .isI [(.bool p)] Q ↔ Q.k (.val (.bool true)) := wisI_bool
theorem owisI_str {Q : K1 Rv} {x : Str} : @WOi .isI [(.str x)] Q ↔ Q.k (.val (.bool false)) := wisI_str
theorem owisI_none {Q : K1 Rv} : @WOi .isI [.none] Q ↔ Q.k (.val (.bool false)) := wisI_none
theorem owisI_tuple {Q : K1 Rv} {xs : List D} : @WOi .isI [(.tuple xs)] Q ↔ Q.k (.val (.bool false)) := wisI_tuple
theorem owisI_list {Q : K1 Rv} {xs : List D} : @WOi .isI [(.list xs)] Q ↔ Q.k (.val (.bool false)) := wisI_list
theorem owisB_int {Q : K1 Rv} {i : Int} : @WOi .isB [(.int i)] Q ↔ Q.k (.val (.bool false)) := wisB_int
theorem owisB_bool {Q : K1 Rv} {p : Bool} : @WOi .isB [(.bool p)] Q ↔ Q.k (.val (.bool true)) := wisB_bool
theorem owisB_str {Q : K1 Rv} {x : Str} : @WOi .isB [(.str x)] Q ↔ Q.k (.val (.bool false)) := wisB_str
theorem owisB_none {Q : K1 Rv} : @WOi .isB [.none] Q ↔ Q.k (.val (.bool false)) := wisB_none
theorem owisB_tuple {Q : K1 Rv} {xs : List D} : @WOi .isB [(.tuple xs)] Q ↔ Q.k (.val (.bool false)) := wisB_tuple
theorem owisB_list {Q : K1 Rv} {xs : List D} : @WOi .isB [(.list xs)] Q ↔ Q.k (.val (.bool false)) := wisB_list
theorem owisS_int {Q : K1 Rv} {i : Int} : @WOi .isS [(.int i)] Q ↔ Q.k (.val (.bool false)) := wisS_int
theorem owisS_bool {Q : K1 Rv} {p : Bool} : @WOi .isS [(.bool p)] Q ↔ Q.k (.val (.bool false)) := wisS_bool
theorem owisS_str {Q : K1 Rv} {x : Str} : @WOi .isS [(.str x)] Q ↔ Q.k (.val (.bool true)) := wisS_str
theorem owisS_none {Q : K1 Rv} : @WOi .isS [.none] Q ↔ Q.k (.val (.bool false)) := wisS_none
theorem owisS_tuple {Q : K1 Rv} {xs : List D} : @WOi .isS [(.tuple xs)] Q ↔ Q.k (.val (.bool false)) := wisS_tuple
theorem owisS_list {Q : K1 Rv} {xs : List D} : @WOi .isS [(.list xs)] Q ↔ Q.k (.val (.bool false)) := wisS_list
theorem owisT_int {Q : K1 Rv} {i : Int} : @WOi .isT [(.int i)] Q ↔ Q.k (.val (.bool false)) := wisT_int
theorem owisT_bool {Q : K1 Rv} {p : Bool} : @WOi .isT [(.bool p)] Q ↔ Q.k (.val (.bool false)) := wisT_bool
theorem owisT_str {Q : K1 Rv} {x : Str} : @WOi .isT [(.str x)] Q ↔ Q.k (.val (.bool false)) := wisT_str
theorem owisT_none {Q : K1 Rv} : @WOi .isT [.none] Q ↔ Q.k (.val (.bool false)) := wisT_none
theorem owisT_tuple {Q : K1 Rv} {xs : List D} : @WOi .isT [(.tuple xs)] Q ↔ Q.k (.val (.bool true)) := wisT_tuple
theorem owisT_list {Q : K1 Rv} {xs : List D} : @WOi .isT [(.list xs)] Q ↔ Q.k (.val (.bool false)) := wisT_list
theorem r_app {xs : List D} {R : K2 Mo D} : @Wmmi .append (.lst xs) [d] R ↔ xs.length < line ∧ R.k (.lst (xs ++ [d])) .none := wm_append
theorem r_rvs {xs : List D} {R : K2 Mo D} : @Wmmi .reverse (.lst xs) [] R ↔ R.k (.lst xs.reverse) .none := wm_reverse
theorem r_pop {xs : List D} {R : K2 Mo D} : @Wmmi .pop (.lst xs) [] R ↔ @Wpopi xs ⟨fun d => R.k (.lst xs.dropLast) d⟩ := wm_pop
theorem r_popAt {xs : List D} {i : Int} {k : Nat} {R : K2 Mo D} (h : ixN xs.length i = some k) (h2 : xs[k]? = some d) (hb : -(2 ^ 62) < i ∧ i < 2 ^ 62) : @Wmmi .popAt (.lst xs) [.int i] R ↔ R.k (.lst (xs.eraseIdx k)) d := wm_popAt h h2 hb
theorem r_wstd {kvs : List (Key × D)} {j : Int} {R : K1 Mo} : @Wsti (.dk kvs) (.int j) d R ↔ kvs.length < line ∧ R.k (.dk (putD kvs (.inl j) d)) := by
  show (∃ m, (if kvs.length < line then some (Mo.dk (putD kvs (.inl j) d)) else none) = some m ∧ R.k m) ↔ _
  exact ite_ex
theorem r_wst {xs : List D} {j : Int} {R : K1 Mo} : @Wsti (.lst xs) (.int j) d R ↔ @Wixi xs.length j ⟨fun k => R.k (.lst (xs.set k d))⟩ := wst
theorem r_au1 {a b : Int} {P : K1 D} : @Waui .add (.int a) (.int b) P ↔ P.k (.int (a + b)) := wau_add
theorem r_au2 {a b : Int} {P : K1 D} : @Waui .sub (.int a) (.int b) P ↔ P.k (.int (a - b)) := wau_sub
theorem r_au3 {a b : Int} {P : K1 D} : @Waui .mul (.int a) (.int b) P ↔ (bitsOk a = true ∧ bitsOk b = true) ∧ P.k (.int (a * b)) := wau_mul
theorem r_au4 {a b : Int} {P : K1 D} : @Waui .fdiv (.int a) (.int b) P ↔ (b ≠ 0 ∧ b.natAbs.log2 < 9000) ∧ P.k (.int (a.fdiv b)) := wau_fdiv
theorem r_au5 {a b : Str} {P : K1 D} : @Waui .add (.str a) (.str b) P ↔ a.length + b.length ≤ line ∧ P.k (.str (a ++ b)) := wau_adds
theorem r_fz {e : E} {Q : K2 Rv Env'} : @WEi gl cf (.fz e) env Q ↔ @WEi gl cf e env ⟨fun rv e1 => Q.k (.val (frz rv)) e1⟩ := w_fz
theorem r_fgt {a b : List Nat} {s : S} {Q : K2 Ctl Env'} : @WSi gl cf n (.fgt a b s) env Q ↔ @WSi gl cf n s (fgE a env) ⟨fun c e => Q.k c (fgC c b e)⟩ := s_fgt'
theorem r_agt {i : Nat} {ix : E} {o : Op} {e : E} {Q : K2 Ctl Env'} : @WSi gl cf n (.agt i ix o e) env Q ↔ @Wowni env i ⟨fun _ _ => WE gl cf ix env fun rk e1 => Wown e1 i fun _ m1 => Wgt m1 (frz rk) fun d0 => WE gl cf e e1 fun rv e2 => Wau o d0 (frz rv) fun d' => Wown e2 i fun s mo => Wst mo (frz rk) d' fun mo' => Q.k .nx (e2.set i (s.put mo'))⟩ := s_agt'
theorem r_ext {i : Nat} {e : E} {Q : K2 Ctl Env'} : @WSi gl cf n (.ext i e) env Q ↔ @Wowni env i ⟨fun _ _ => WE gl cf e env fun rv e1 => Wown e1 i fun s mo => Wext mo (frz rv) fun mo' => Q.k .nx (e1.set i (s.put mo'))⟩ := s_ext'
theorem wext {xs ys : List D} {Q : K1 Mo} : @Wexti (.lst xs) (.list ys) Q ↔ xs.length + ys.length ≤ line ∧ Q.k (.lst (xs ++ ys)) := by
  show (∃ m, (if xs.length + ys.length ≤ line then some (Mo.lst (xs ++ ys)) else none) = some m ∧ Q.k m) ↔ _
  constructor
  · rintro ⟨m, h, q⟩
    split at h
    · cases h; exact ⟨by assumption, q⟩
    · cases h
  · rintro ⟨h, q⟩
    exact ⟨_, if_pos h, q⟩
theorem r_gt {xs : List D} {j : Int} {Q : K1 D} : @Wgti (.lst xs) (.int j) Q ↔ @Wati xs j Q := Iff.rfl
theorem owo_lenset {Q : K1 Rv} {xs : List D} : @WOi .lenset [.list xs] Q ↔ @Wopti (lensetf (.list xs)) Q := Iff.rfl
theorem owo_lensett {Q : K1 Rv} {xs : List D} : @WOi .lenset [.tuple xs] Q ↔ @Wopti (lensetf (.tuple xs)) Q := Iff.rfl
theorem owo_sortsett {Q : K1 Rv} {xs : List D} : @WOi .sortset [.tuple xs] Q ↔ @Wopti (sortsetf (.tuple xs)) Q := Iff.rfl
theorem owo_sortset {Q : K1 Rv} {xs : List D} : @WOi .sortset [.list xs] Q ↔ @Wopti (sortsetf (.list xs)) Q := Iff.rfl
theorem owo_count {Q : K1 Rv} {xs : List D} {d : D} : @WOi .count [.list xs, d] Q ↔ @Wopti (countf (.list xs) d) Q := Iff.rfl
theorem owo_index {Q : K1 Rv} {xs : List D} {d : D} : @WOi .index [.list xs, d] Q ↔ @Wopti (indexf (.list xs) d) Q := Iff.rfl
theorem lensetf_some {xs : List D} {ns : List Int} (h : xs = ns.map .int) (hl : ns.length ≤ 4000) : lensetf (.list xs) = some (.val (.int ((setI ns).length : Nat))) := by
  subst h
  show (ints? (ns.map .int)).bind _ = _
  rw [ints_map]
  exact if_pos hl
theorem sortsetf_some {xs : List D} {ns : List Int} (h : xs = ns.map .int) (hl : ns.length ≤ 4000) : sortsetf (.list xs) = some (.new (.lst ((setI ns).map .int))) := by
  subst h
  have e : intsetf (.list (ns.map .int)) = some (.new (.lst ((setI ns).map .int))) := by
    show (ints? (ns.map .int)).bind _ = _
    rw [ints_map]
    exact if_pos hl
  show (match intsetf (.list (ns.map .int)) with | some rv => some rv | none => rowsetf (.list (ns.map .int))) = _
  rw [e]
theorem lensett_some {xs : List D} {ns : List Int} (h : xs = ns.map .int) (hl : ns.length ≤ 4000) : lensetf (.tuple xs) = some (.val (.int ((setI ns).length : Nat))) := by
  subst h
  show (ints? (ns.map .int)).bind _ = _
  rw [ints_map]
  exact if_pos hl
theorem sortsett_some {xs : List D} {ns : List Int} (h : xs = ns.map .int) (hl : ns.length ≤ 4000) : sortsetf (.tuple xs) = some (.new (.lst ((setI ns).map .int))) := by
  subst h
  have e : intsetf (.tuple (ns.map .int)) = some (.new (.lst ((setI ns).map .int))) := by
    show (ints? (ns.map .int)).bind _ = _
    rw [ints_map]
    exact if_pos hl
  show (match intsetf (.tuple (ns.map .int)) with | some rv => some rv | none => rowsetf (.tuple (ns.map .int))) = _
  rw [e]
theorem rows_map : ∀ rs : List (List Int), rows? (rs.map fun (r : List Int) => PyData.tuple (r.map .int)) = some rs
  | [] => rfl
  | r :: t => by
    show (ints? (r.map .int)).bind _ = _
    rw [ints_map]
    show (rows? (t.map fun (r : List Int) => PyData.tuple (r.map .int))).map _ = _
    rw [rows_map t]; rfl
/-- sorted(set(rows)) of rows of ints, fewer than 64, none of them empty -/
theorem sortsetrows_some {xs : List D} {rs : List (List Int)} (h : xs = rs.map fun (r : List Int) => PyData.tuple (r.map .int)) (hl : rs.length < 64) (hr : ∀ r ∈ rs, r ≠ []) : sortsetf (.list xs) = some (.new (.lst ((setT rs).map fun (r : List Int) => PyData.tuple (r.map .int)))) := by
  subst h
  cases rs with
  | nil => rfl
  | cons r t =>
    have e : intsetf (.list ((r :: t).map fun (r : List Int) => PyData.tuple (r.map .int))) = none := rfl
    show (match intsetf (.list ((r :: t).map fun (r : List Int) => PyData.tuple (r.map .int))) with | some rv => some rv | none => rowsetf (.list ((r :: t).map fun (r : List Int) => PyData.tuple (r.map .int)))) = _
    rw [e]
    show (rows? ((r :: t).map fun (r : List Int) => PyData.tuple (r.map .int))).bind _ = _
    rw [rows_map]
    refine if_pos ⟨hl, List.all_eq_true.mpr fun q hq => ?_⟩
    have := hr q hq
    cases q with
    | nil => exact absurd rfl this
    | cons _ _ => rfl
theorem countf_some {xs : List D} {ns : List Int} {i : Int} (h : xs = ns.map .int) : countf (.list xs) (.int i) = some (.val (.int (ns.count i : Nat))) := by
  subst h
  show (ints? (ns.map .int)).map _ = _
  rw [ints_map]; rfl
theorem indexf_some {xs : List D} {d : D} {j : Nat} (h1 : SeqAt.shaped d = true) (h2 : SeqAt.shaped (.list xs) = true) (h : (xs.findIdx? fun z => PyData.eqv z d) = some j) : indexf (.list xs) d = some (.val (.int (j : Nat))) := by
  show (if _ then _ else _) = _
  rw [if_pos ⟨h1, h2⟩, h]; rfl
def noPend : List Ag → Bool
  | [] => true
  | .sl _ :: r => noPend r
  | .pend _ :: _ => false
theorem wpbl {ag : List Ag} {sl : List Sl} {Q : K1 Env'} (hp : noPend ag = true) (hl : sl.length = ag.length) : @Wpbi ag sl env Q ↔ Q.k env := by
  show Wpb ag sl env Q.k ↔ _
  induction ag generalizing sl with
  | nil => exact wpb_nil
  | cons a r ih =>
    cases sl with
    | nil => cases hl
    | cons s t =>
      cases a with
      | sl z => rw [wpb_sl]; exact ih hp (by simpa using hl)
      | pend z => cases hp
theorem r_au6 {xs ys : List D} {P : K1 D} : @Waui .add (.tuple xs) (.tuple ys) P ↔ xs.length + ys.length ≤ line ∧ P.k (.tuple (xs ++ ys)) := wau_addt
theorem wat {xs : List D} {j : Int} {Q : K1 D} (h : atI xs j = some d) : @Wati xs j Q ↔ Q.k d := wat0 h
theorem wopf {o : Op} {ds : List D} {rv : Rv} {Q : K1 Rv} (h : opf o ds = some rv) : @WOi o ds Q ↔ Q.k rv := wopt0 (o := opf o ds) h
theorem wwkf {d : D} {xs : List D} {Q : K1 (List D)} (h : walked d = some xs) : @Wwki d Q ↔ Q.k xs := ⟨fun ⟨_, g, q⟩ => by (rw [h] at g; cases g; exact q), fun q => ⟨_, h, q⟩⟩
theorem wat_0 {x : D} {xs : List D} {Q : K1 D} : @Wati (x :: xs) 0 Q ↔ Q.k x := wat0 (atI_nat (j := 0) rfl)
theorem wat_1 {x y : D} {xs : List D} {Q : K1 D} : @Wati (x :: y :: xs) 1 Q ↔ Q.k y := wat0 (atI_nat (j := 1) rfl)
theorem wat_2 {x y z : D} {xs : List D} {Q : K1 D} : @Wati (x :: y :: z :: xs) 2 Q ↔ Q.k z := wat0 (atI_nat (j := 2) rfl)
theorem wat_3 {x y z u : D} {xs : List D} {Q : K1 D} : @Wati (x :: y :: z :: u :: xs) 3 Q ↔ Q.k u := wat0 (atI_nat (j := 3) rfl)
theorem wix {a : Nat} {j : Int} {b : Nat} {Q : K1 Nat} (h : ixN a j = some b) : @Wixi a j Q ↔ Q.k b := wix0 h
theorem wpop {xs : List D} {Q : K1 D} (h : xs[xs.length - 1]? = some d) : @Wpopi xs Q ↔ Q.k d := wpop0 h
end
end Pv
local macro_rules | `(tactic| walk_at "ev") => `(tactic| simp only [↓Pv.k0_mk, ↓Pv.k1_mk, ↓Pv.k2_mk, ↓Pv.in_WE, ↓Pv.in_WEs, ↓Pv.in_WAs, ↓Pv.in_WI, ↓Pv.in_WCs, ↓Pv.in_WS, ↓Pv.in_WC, ↓Pv.in_WO, ↓Pv.in_WB, ↓Pv.in_Wset, ↓Pv.in_Wall, ↓Pv.in_Wtg, ↓Pv.in_Wown, ↓Pv.in_Wmm, ↓Pv.in_Wst, ↓Pv.in_Wpr, ↓Pv.in_Wwk, ↓Pv.in_Wrg, ↓Pv.in_Wga, ↓Pv.in_Wpb, ↓Pv.in_Wat, ↓Pv.in_Wix, ↓Pv.in_Wpop, ↓Pv.in_Wput, ↓Pv.in_Wext, ↓Pv.in_Wau, ↓Pv.in_Wgt, ↓Pv.ck_nx, ↓Pv.ck_ret, ↓Pv.ck_bk, ↓Pv.ck_ct, ↓Pv.cl_nx, ↓Pv.cl_ct, ↓Pv.cl_bk, ↓Pv.cl_ret, ↓Pv.r_cnx, ↓Pv.r_cret,
  Pv.wif_00, Pv.wif_t, Pv.wif_f, Pv.wvar_val, Pv.wvar_loc, Pv.wmov_loc, Pv.wbr_val, Pv.wbr_loc, Pv.wbr_io, Pv.wbr_brw, Pv.wab_val, Pv.wab_loc, Pv.wab_io, Pv.wab_brw, Pv.wfre, Pv.wow_loc, Pv.wow_io, Pv.wvl, Pv.wpp, Pv.r_cst, Pv.r_glb, Pv.r_var, Pv.r_mov, Pv.r_op, Pv.r_tup, Pv.r_lst, Pv.r_dct, Pv.r_and, Pv.r_or, Pv.r_not, Pv.r_ife, Pv.r_chn, Pv.r_call, Pv.r_mth, Pv.r_nil, Pv.r_brw, Pv.r_cons, Pv.r_anil, Pv.r_abrw, Pv.r_amov, Pv.r_acons, Pv.r_set, Pv.r_alln, Pv.r_allc, Pv.r_tnm, Pv.r_ttp, Pv.r_ttl, Pv.r_own, Pv.r_pval, Pv.r_pnew, Pv.r_gan, Pv.r_gas, Pv.r_gap, Pv.r_pbn, Pv.r_pbs, Pv.r_pbp, Pv.r_pass, Pv.r_bk, Pv.r_ct, Pv.r_retn, Pv.r_seq, Pv.r_sset, Pv.r_unp, Pv.r_par, Pv.r_par3, Pv.r_st, Pv.r_ups, Pv.r_pr, Pv.r_aug, Pv.r_ex, Pv.r_ret, Pv.r_sife, Pv.r_ibrw, Pv.r_iof, Pv.r_irng, Pv.r_wkl, Pv.r_wkt, Pv.r_wks, Pv.r_rg1, Pv.r_rg2, Pv.r_rg3, Pv.r_cn, Pv.r_c1, Pv.r_b, Pv.r_app, Pv.r_rvs, Pv.r_pop, Pv.r_wst, Pv.r_wstd, Pv.r_au1, Pv.r_au2, Pv.r_au3, Pv.r_au4, Pv.r_au5, Pv.r_au6, Pv.owo_add, Pv.owo_adds, Pv.owo_addl, Pv.owo_addt, Pv.owo_sub, Pv.owo_mul, Pv.owo_mull, Pv.owo_mult, Pv.owo_fdiv, Pv.owo_mod, Pv.owo_pow, Pv.owo_xor, Pv.owo_neg, Pv.owo_lt, Pv.owo_le, Pv.owo_gt, Pv.owo_ge, Pv.owo_eq, Pv.owo_ne, Pv.owo_isN, Pv.owo_isB, Pv.owo_notN, Pv.owo_notB, Pv.owo_in, Pv.owo_int', Pv.owo_notin, Pv.owo_notint, Pv.owo_idxl, Pv.owo_idxt, Pv.owo_idxs, Pv.owo_slcl, Pv.owo_slcr, Pv.owo_slc, Pv.owo_slc0, Pv.owo_slcl', Pv.owo_slcr', Pv.owo_slc', Pv.owo_rev, Pv.owo_rev', Pv.owo_lenl, Pv.owo_lent, Pv.owo_lenr, Pv.owo_lens, Pv.owo_abs, Pv.owo_int, Pv.owo_intb, Pv.owo_ltt, Pv.owo_let, Pv.owo_gtt, Pv.owo_get, Pv.owo_max2, Pv.owo_max2t, Pv.owo_min2t, Pv.owo_min2, Pv.owo_gcd, Pv.owo_tuplel, Pv.owo_tuplet, Pv.owo_tupler, Pv.owo_listl, Pv.owo_listt, Pv.owo_listr, Pv.owo_tupR1, Pv.owo_tupR2, Pv.owo_lstR1, Pv.owo_lstR2, Pv.owo_max, Pv.owo_min, Pv.owo_maxt, Pv.owo_mint, Pv.owo_bits, Pv.owo_sum, Pv.owo_sumt, Pv.owo_any, Pv.owo_all, Pv.owo_sorted, Pv.owo_sortedd, Pv.owo_ind, Pv.owo_notind, Pv.owo_sortedt, Pv.owo_lenset, Pv.owo_sortset, Pv.owo_lensett, Pv.owo_sortsett, Pv.owo_count, Pv.owo_index, Pv.r_fz, Pv.r_fgt, Pv.r_agt, Pv.r_ext, Pv.wext, Pv.r_gt, Pv.fgE_nil, Pv.fgE_cons, Pv.fg1_eq, Pv.fg2_no, Pv.fg2_val, Pv.fg2_loc, Pv.fg2_io, Pv.fg2_brw, Pv.fg2_out, Pv.fgC_nx, Pv.fgC_bk, Pv.fgC_ct, Pv.fgC_ret, Pv.puts_nil, Pv.puts_cons, Pv.pick_nil, Pv.pick_cons, Pv.wat_0, Pv.wat_1, Pv.wat_2, Pv.wat_3, Pv.owisI_int, Pv.owisI_bool, Pv.owisI_str, Pv.owisI_none, Pv.owisI_tuple, Pv.owisI_list, Pv.owisB_int, Pv.owisB_bool, Pv.owisB_str, Pv.owisB_none, Pv.owisB_tuple, Pv.owisB_list, Pv.owisS_int, Pv.owisS_bool, Pv.owisS_str, Pv.owisS_none, Pv.owisS_tuple, Pv.owisS_list, Pv.owisT_int, Pv.owisT_bool, Pv.owisT_str, Pv.owisT_none, Pv.owisT_tuple, Pv.owisT_list,
  Pv.sh_int, Pv.sh_bool, Pv.sh_none, Pv.eqv_int, Pv.eqv_bool, Pv.isNone, ↓Pv.some_ex,
  Pv.frz_val, Pv.frz_new, Pv.d_lst, Pv.line, Pv.Mo.isL, Pv.free_n, Pv.free_v, Pv.free_l, Pv.Sl.put, Pv.Sl.own, Pv.Es.hasB, Pv.It.bIx, Pv.reAt, Pv.unb, Pv.unb1_l, Pv.unb1_i, Pv.unb1_b, Pv.unb1_s, Pv.unb1_v, Pv.unb1_n, Pv.unb1_o, Pv.unb1_p, Pv.wipeE, Pv.backE, Pv.quiet, Pv.pends, Pv.nodupB, List.contains_nil, List.contains_cons, List.all_cons, List.all_nil, List.getD_cons_zero, List.getD_cons_succ, List.getElem?_cons_zero, List.getElem?_cons_succ, List.getElem?_nil, List.set_cons_zero, List.set_cons_succ, List.take_succ_cons, List.take_zero, List.take_nil,
  Option.some.injEq, ne_eq, reduceCtorEq, not_false_eq_true, not_true_eq_false, implies_true, ↓reduceIte, if_true, if_false, Nat.reduceAdd, Nat.reduceSub, Nat.reduceLeDiff, Nat.reducePow, Nat.reduceLT, Int.reduceLT, Int.reduceLE, Int.reduceNeg, Int.reduceToNat, Int.reducePow, Int.toNat_natCast, Int.zero_add, Int.reduceNe, Int.reduceEq, Int.reduceAdd, Int.reduceSub, Int.reduceMul, Nat.reduceEqDiff, decide_true, decide_false, true_and, and_true, Bool.and_true, Bool.true_and, Bool.not_true, Bool.not_false, Bool.false_eq_true, Bool.or_false, Bool.false_or, Bool.and_self, and_self, List.length_cons, List.length_nil])


namespace Pv
open PySem PySem.Spec PyProof.Rows L2

/-! ### numbers -/
theorem atI_some {α : Type} {xs : List α} {i : Int} {j : Nat} (h : i = (j : Int)) (hj : j < xs.length) : atI xs i = some xs[j] := by
  subst h
  exact atI_nat (List.getElem?_eq_getElem hj)
theorem ixN_some {n : Nat} {i : Int} {j : Nat} (h : i = (j : Int)) (hj : j < n) : ixN n i = some j := by
  subst h
  unfold ixN
  rw [if_pos (by omega), if_pos (by omega)]
  rfl
/-- of few binary signs -/
def Bnd (i : Int) (n : Nat) : Prop := i.natAbs < 2 ^ n
theorem Bnd.mono {i : Int} {m n : Nat} (h : Bnd i m) (hn : m ≤ n) : Bnd i n := Nat.lt_of_lt_of_le h (Nat.pow_le_pow_right (by decide) hn)
theorem Bnd.log {i : Int} {n : Nat} (h : Bnd i n) : i.natAbs.log2 ≤ n := by
  by_cases h0 : i.natAbs = 0
  · rw [h0]; exact Nat.zero_le _
  · exact Nat.le_of_lt ((Nat.log2_lt h0).mpr h)
theorem Bnd.bits {i : Int} {n : Nat} (h : Bnd i n) (hn : n < 60000000) : bitsOk i = true := by
  unfold bitsOk
  have := h.log
  exact decide_eq_true (by omega)
theorem Bnd.mul {i j : Int} {m n : Nat} (h : Bnd i m) (h' : Bnd j n) : Bnd (i * j) (m + n) := by
  unfold Bnd at *
  rw [Int.natAbs_mul, Nat.pow_add]
  exact Nat.mul_lt_mul'' h h'
theorem Bnd.add {i j : Int} {m n : Nat} (h : Bnd i m) (h' : Bnd j n) : Bnd (i + j) (max m n + 1) := by
  unfold Bnd at *
  have h1 : i.natAbs < 2 ^ max m n := Nat.lt_of_lt_of_le h (Nat.pow_le_pow_right (by decide) (Nat.le_max_left _ _))
  have h2 : j.natAbs < 2 ^ max m n := Nat.lt_of_lt_of_le h' (Nat.pow_le_pow_right (by decide) (Nat.le_max_right _ _))
  rw [Nat.pow_succ]
  have := Int.natAbs_add_le i j
  omega
theorem Bnd.neg {i : Int} {m : Nat} (h : Bnd i m) : Bnd (-i) m := by unfold Bnd at *; rwa [Int.natAbs_neg]
theorem Bnd.sub {i j : Int} {m n : Nat} (h : Bnd i m) (h' : Bnd j n) : Bnd (i - j) (max m n + 1) := by rw [Int.sub_eq_add_neg]; exact h.add h'.neg
theorem bnd_of {i : Int} {n : Nat} (h : i.natAbs.log2 < n) : Bnd i n := by
  unfold Bnd
  by_cases h0 : i.natAbs = 0
  · rw [h0]; exact Nat.two_pow_pos n
  · exact (Nat.log2_lt h0).mp h
theorem bnd_lit {i : Int} {n : Nat} (h : i.natAbs < 2 ^ n) : Bnd i n := h
theorem bnd_mod {i j : Int} {n : Nat} (h : Bnd j n) (h0 : 0 < j) : Bnd (i.fmod j) n := by
  unfold Bnd at *
  have h1 := Int.fmod_nonneg_of_pos i h0
  have h2 := Int.fmod_lt_of_pos i h0
  omega
/-! ### the helpers that all laws have -/
def FTake : Fn := ⟨2, 2, (.seq (.ife (.op .eq (.cons (.op .len (.cons (.brw 0) .nil)) (.cons (.cst (.int 0)) .nil))) (.ret (.cst (.int 0))) .pass)
    (.ret (.op .mod (.cons (.op .int (.cons (.mth .pop 0 .nil) .nil)) (.cons (.var 1) .nil)))))⟩
/-- numbers still to be drawn -/
def Drw (m : Mo) : Prop := ∃ ds : List Int, m = .lst (ds.map .int)
theorem take_ok {t : Tx} {n k i : Nat} {d : Df} (hd : t.dfs[i]? = some d) (hf : d.fn = FTake) {m : Mo} {many : Int} (hm : Drw m) (h0 : 0 < many) :
    WC (t.call n (k + 1)) i [.io m, .val (.int many)] fun rv sl => ∃ v m', rv = .val (.int v) ∧ 0 ≤ v ∧ v < many ∧ Drw m' ∧ sl = [.io m', .val (.int many)] := by
  obtain ⟨ds, rfl⟩ := hm
  refine wc_in (env := [.io (.lst (ds.map .int)), .val (.int many)]) hd (by rw [hf]; rfl) (by rw [hf]; rfl) ?_
  rw [hf]
  unfold FTake
  walk_at "ev"
  by_cases he : ds = []
  · subst he
    rw [wif_pos (by rfl)]
    walk_at "ev"
    exact ⟨0, _, rfl, by omega, h0, ⟨[], rfl⟩, rfl⟩
  · have hl : 0 < ds.length := List.length_pos_iff.mpr he
    rw [wif_neg (by simpa using he)]
    walk_at "ev"
    rw [wpop (d := .int (ds[ds.length - 1]'(by omega))) (by simp)]
    walk_at "ev"
    exact ⟨by omega, _, _, rfl, Int.fmod_nonneg_of_pos _ h0, Int.fmod_lt_of_pos _ h0, ⟨ds.dropLast, by rw [List.map_dropLast]⟩, rfl⟩
def FCell (tk : Nat) : Fn := ⟨3, 2, (.seq (.ife (.op .eq (.cons (.op .len (.cons (.var 0) .nil)) (.cons (.cst (.int 0)) .nil))) (.ret (.cst (.int 0))) .pass)
    (.seq (.set 2 (.op .int (.cons (.op .idx (.cons (.var 0) (.cons (.call tk (.cons (.mov 1) (.cons (.op .len (.cons (.var 0) .nil)) .nil))) .nil))) .nil)))
    (.ret (.op .mul (.cons (.op .mod (.cons (.op .abs (.cons (.var 2) .nil)) (.cons (.op .pow (.cons (.cst (.int 10)) (.cons (.cst (.int 60)) .nil))) .nil))) (.cons (.op .idx (.cons (.lst (.cons (.cst (.int 1)) (.cons (.op .neg (.cons (.cst (.int 1)) .nil)) .nil))) (.cons (.op .int (.cons (.op .lt (.cons (.var 2) (.cons (.cst (.int 0)) .nil))) .nil)) .nil))) .nil))))))⟩
theorem cell_ok {t : Tx} {n k i tk : Nat} {d dt : Df} (hd : t.dfs[i]? = some d) (hf : d.fn = FCell tk) (ht : t.dfs[tk]? = some dt) (htf : dt.fn = FTake) {ns : List Int} {m : Mo} (hm : Drw m) :
    WC (t.call n (k + 2)) i [.val (scrD (ns.map .int)), .io m] fun rv sl => ∃ v m', rv = .val (.int v) ∧ v.natAbs < 10 ^ 60 ∧ Drw m' ∧ sl = [.val (scrD (ns.map .int)), .io m'] := by
  refine wc_in (env := [.val (scrD (ns.map .int)), .io m, .no]) hd (by rw [hf]; rfl) (by rw [hf]; rfl) ?_
  rw [hf]
  unfold FCell
  walk_at "ev"
  by_cases he : ns = []
  · subst he
    rw [wif_pos (by rfl)]
    walk_at "ev"
    exact ⟨0, m, rfl, by decide, hm, rfl⟩
  · have hl : 0 < ns.length := List.length_pos_iff.mpr he
    rw [wif_neg (by simpa using he)]
    walk_at "ev"
    have hl' : (0 : Int) < ((ns.map PyData.int).length : Nat) := by simp only [List.length_map]; omega
    refine (take_ok ht htf hm hl').mono ?_
    rintro rv sl ⟨v, m', rfl, h0, h1, hm', rfl⟩
    walk_at "ev"
    have hv : v.toNat < ns.length := by simp at h1; omega
    rw [wat (d := .int ns[v.toNat]) (by rw [atI_some (j := v.toNat) (by omega) (by simpa using hv)]; simp)]
    walk_at "ev"
    have e10 : (0 : Int) < 1000000000000000000000000000000000000000000000000000000000000 := by decide
    generalize hA : (if ns[v.toNat] < 0 then -ns[v.toNat] else ns[v.toNat]).fmod 1000000000000000000000000000000000000000000000000000000000000 = A
    have a0 : 0 ≤ A := by rw [← hA]; exact Int.fmod_nonneg_of_pos _ e10
    have a1 : A < 1000000000000000000000000000000000000000000000000000000000000 := by rw [← hA]; exact Int.fmod_lt_of_pos _ e10
    have bA : Bnd A 200 := by
      unfold Bnd
      have : (1000000000000000000000000000000000000000000000000000000000000 : Nat) ≤ 2 ^ 200 := by decide
      omega
    by_cases hc : ns[v.toNat] < 0
    · rw [if_pos (by simpa using hc), wat (d := .int (-1)) rfl]
      walk_at "ev"
      exact ⟨⟨bA.bits (by decide), by decide⟩, _, _, rfl, by omega, hm', rfl⟩
    · rw [if_neg (by simpa using hc), wat (d := .int 1) rfl]
      walk_at "ev"
      exact ⟨⟨bA.bits (by decide), by decide⟩, _, _, rfl, by omega, hm', rfl⟩
def sDrawsOne : S := (.seq (.set 6 (.op .mod (.cons (.var 5) (.cons (.op .len (.cons (.brw 2) .nil)) .nil))))
    (.ife (.and (.op .ge (.cons (.op .idx (.cons (.brw 2) (.cons (.var 6) .nil))) (.cons (.op .pow (.cons (.cst (.int 10)) (.cons (.cst (.int 18)) .nil))) .nil))) (.op .gt (.cons (.op .idx (.cons (.brw 3) (.cons (.var 6) .nil))) (.cons (.cst (.int 0)) .nil)))) (.seq (.ex (.mth .append 4 (.cons (.op .mod (.cons (.op .int (.cons (.op .idx (.cons (.brw 3) (.cons (.var 6) .nil))) .nil)) (.cons (.cst (.int 1000)) .nil))) .nil)))
    (.st 3 (.var 6) (.op .fdiv (.cons (.op .idx (.cons (.brw 3) (.cons (.var 6) .nil))) (.cons (.cst (.int 1000)) .nil))))) (.seq (.set 8 (.op .mod (.cons (.op .int (.cons (.op .add (.cons (.op .add (.cons (.op .mul (.cons (.op .idx (.cons (.brw 2) (.cons (.var 6) .nil))) (.cons (.cst (.int 48271)) .nil))) (.cons (.op .mul (.cons (.var 5) (.cons (.cst (.int 69621)) .nil))) .nil))) (.cons (.cst (.int 11)) .nil))) .nil)) (.cons (.cst (.int 2147483647)) .nil))))
    (.ex (.mth .append 4 (.cons (.op .mod (.cons (.op .int (.cons (.op .add (.cons (.op .add (.cons (.op .mul (.cons (.var 8) (.cons (.var 8) .nil))) (.cons (.op .mul (.cons (.cst (.int 3)) (.cons (.var 8) .nil))) .nil))) (.cons (.var 5) .nil))) .nil)) (.cons (.cst (.int 1000003)) .nil))) .nil))))))
def sDrawsRest : S := (.seq (.set 3 (.op .list (.cons (.brw 2) .nil)))
    (.seq (.set 4 (.lst .nil))
    (.seq (.for (.nm 5) (.rng (.cons (.var 1) .nil)) sDrawsOne)
    (.seq (.ex (.mth .reverse 4 .nil))
    (.ret (.mov 4))))))
def FDraws : Fn := ⟨9, 2, (.seq (.set 2 (.comp [7] (.nm 7) (.of (.var 0)) .nil (.op .int (.cons (.var 7) .nil))))
    (.seq (.ife (.op .eq (.cons (.op .len (.cons (.brw 2) .nil)) (.cons (.cst (.int 0)) .nil))) (.ex (.mth .append 2 (.cons (.cst (.int 0)) .nil))) .pass) sDrawsRest))⟩
theorem draws_rest {gl : Nat → D} {cf : Nat → List Sl → Option (Rv × List Sl)} {n many : Nat} {cs : List Int} {scr : D} (h0 : cs ≠ []) (hb : ∀ z ∈ cs, z.natAbs.log2 ≤ 1048576) (hl : cs.length ≤ 64) (hm : many ≤ 1000000) :
    WS gl cf n sDrawsRest [.val scr, .val (.int many), .loc (.lst (cs.map .int)), .no, .no, .no, .no, .no, .no] fun c e => CR c e 2 fun rv sl => ∃ m, rv = .new m ∧ Drw m ∧ sl = [.val scr, .val (.int many)] := by
  unfold sDrawsRest
  walk_at "ev"
  have hl0 : 0 < cs.length := List.length_pos_iff.mpr h0
  refine s_for3 (fun i e => ∃ (rs ds : List Int) (s5 s6 s8 : Sl), e = [.val scr, .val (.int many), .loc (.lst (cs.map .int)), .loc (.lst (rs.map .int)), .loc (.lst (ds.map .int)), s5, s6, .no, s8] ∧ rs.length = cs.length ∧ ds.length = i ∧ s5.free = true ∧ s6.free = true ∧ s8.free = true)
    (rgL 0 many) _ ?_ ⟨cs, [], .no, .no, .no, rfl, rfl, rfl, rfl, rfl, rfl⟩ (fun i x e hx ⟨rs, ds, s5, s6, s8, he, h1, h2, h5, h6, h8⟩ => ?_) (fun e ⟨rs, ds, s5, s6, s8, he, h1, h2, h5, h6, h8⟩ => ?_)
  · walk_at "ev"
    exact ⟨by omega, rfl⟩
  · subst he
    obtain ⟨hi, rfl⟩ := rgL_get.mp hx
    unfold sDrawsOne
    walk_at "ev"
    have hL : (0 : Int) < ((cs.map PyData.int).length : Nat) := by rw [List.length_map]; omega
    refine ⟨h5, by omega, h6, ?_⟩
    generalize hA : (i : Int).fmod ((cs.map PyData.int).length : Nat) = A
    have a0 : 0 ≤ A := by rw [← hA]; exact Int.fmod_nonneg_of_pos _ hL
    have a1 : A < ((cs.map PyData.int).length : Nat) := by rw [← hA]; exact Int.fmod_lt_of_pos _ hL
    rw [List.length_map] at a1
    obtain ⟨j, rfl⟩ := Int.eq_ofNat_of_zero_le a0
    have hj : j < cs.length := by omega
    have gc : atI (cs.map PyData.int) (j : Int) = some (.int cs[j]) := by rw [atI_some (j := j) rfl (by simpa using hj)]; simp
    have gr : atI (rs.map PyData.int) (j : Int) = some (.int (rs[j]'(by omega))) := by rw [atI_some (j := j) rfl (by simp; omega)]; simp
    have bc : Bnd cs[j] 1048577 := bnd_of (by have := hb cs[j] (List.getElem_mem hj); omega)
    rw [wat gc]
    walk_at "ev"
    have other : WS gl cf n (.seq (.set 8 (.op .mod (.cons (.op .int (.cons (.op .add (.cons (.op .add (.cons (.op .mul (.cons (.op .idx (.cons (.brw 2) (.cons (.var 6) .nil))) (.cons (.cst (.int 48271)) .nil))) (.cons (.op .mul (.cons (.var 5) (.cons (.cst (.int 69621)) .nil))) .nil))) (.cons (.cst (.int 11)) .nil))) .nil)) (.cons (.cst (.int 2147483647)) .nil))))
        (.ex (.mth .append 4 (.cons (.op .mod (.cons (.op .int (.cons (.op .add (.cons (.op .add (.cons (.op .mul (.cons (.var 8) (.cons (.var 8) .nil))) (.cons (.op .mul (.cons (.cst (.int 3)) (.cons (.var 8) .nil))) .nil))) (.cons (.var 5) .nil))) .nil)) (.cons (.cst (.int 1000003)) .nil))) .nil))))
        [.val scr, .val (.int many), .loc (.lst (cs.map .int)), .loc (.lst (rs.map .int)), .loc (.lst (ds.map .int)), .val (.int i), .val (.int j), .no, s8]
        fun c e => c = .nx ∧ ∃ (rs ds : List Int) (s5 s6 s8 : Sl), e = [.val scr, .val (.int many), .loc (.lst (cs.map .int)), .loc (.lst (rs.map .int)), .loc (.lst (ds.map .int)), s5, s6, .no, s8] ∧ rs.length = cs.length ∧ ds.length = i + 1 ∧ s5.free = true ∧ s6.free = true ∧ s8.free = true := by
      walk_at "ev"
      rw [wat gc]
      walk_at "ev"
      have bi : Bnd (i : Int) 20 := by
        unfold Bnd
        have : (1000000 : Nat) < 2 ^ 20 := by decide
        omega
      generalize hM : (cs[j] * 48271 + (i : Int) * 69621 + 11).fmod 2147483647 = M
      have bM : Bnd M 31 := by rw [← hM]; exact bnd_mod (bnd_lit (by decide)) (by decide)
      refine ⟨⟨bc.bits (by decide), by decide⟩, ⟨bi.bits (by decide), by decide⟩, h8, bM.bits (by decide), ⟨by decide, bM.bits (by decide)⟩, by simp; omega, rs, ds ++ [(M * M + 3 * M + (i : Int)).fmod 1000003], .val (.int i), .val (.int j), .val (.int M), ?_, h1, by simp; omega, rfl, rfl, rfl⟩
      rw [List.map_append]; rfl
    refine wif (fun hg => ?_) (fun hg => ?_)
    · walk_at "ev"
      rw [wat gr]
      walk_at "ev"
      refine wif (fun hp => ?_) (fun hp => ?_)
      · walk_at "ev"
        rw [wat gr]
        walk_at "ev"
        refine ⟨by simp; omega, ?_⟩
        rw [wat gr]
        walk_at "ev"
        refine ⟨by decide, ?_⟩
        rw [wix (b := j) (ixN_some rfl (by simp; omega))]
        walk_at "ev"
        refine ⟨rs.set j ((rs[j]'(by omega)).fdiv 1000), ds ++ [(rs[j]'(by omega)).fmod 1000], .val (.int i), .val (.int j), s8, ?_, by simp [h1], by simp; omega, rfl, rfl, h8⟩
        rw [List.map_append, List.map_set]; rfl
      · refine other.mono ?_
        rintro c e ⟨rfl, h⟩
        exact h
    · refine other.mono ?_
      rintro c e ⟨rfl, h⟩
      exact h
  · subst he
    walk_at "ev"
    exact ⟨_, rfl, ds.reverse, by rw [List.map_reverse]⟩
theorem draws_ok {t : Tx} {n k i : Nat} {d : Df} (hd : t.dfs[i]? = some d) (hf : d.fn = FDraws) {ns : List Int} {many : Nat} (hS : Sc ns) (hm : many ≤ 1000000) :
    WC (t.call n (k + 1)) i [.val (scrD (ns.map .int)), .val (.int many)] fun rv sl => ∃ m, rv = .new m ∧ Drw m ∧ sl = [.val (scrD (ns.map .int)), .val (.int many)] := by
  refine wc_in (env := [.val (scrD (ns.map .int)), .val (.int many), .no, .no, .no, .no, .no, .no, .no]) hd (by rw [hf]; rfl) (by rw [hf]; rfl) ?_
  rw [hf]
  unfold FDraws
  walk_at "ev"
  refine w_map id (ns.map .int) [.val (scrD (ns.map .int)), .val (.int many), .no, .no, .no, .no, .no, .no, .no] ?_ rfl (by have := hS.1; simp [line]; omega) (by simp only [List.length_cons]; omega) (fun x hx => ?_) ?_
  · walk_at "ev"
  · obtain ⟨z, _, rfl⟩ := List.mem_map.mp hx
    walk_at "ev"
    exact rfl
  · walk_at "ev"
    by_cases he : ns = []
    · subst he
      rw [wif_pos (by rfl)]
      walk_at "ev"
      exact ⟨by decide, draws_rest (cs := [0]) (by simp) (by simp) (by decide) hm⟩
    · rw [wif_neg (by simpa using he)]
      walk_at "ev"
      rw [List.map_id]
      exact draws_rest he hS.2 (by have := hS.1; omega) hm
/-! the laws' own test of sameness -/
def FSame (me : Nat) : Fn := ⟨3, 2, (.seq (.ife (.op .isB (.cons (.var 1) .nil)) (.ret (.and (.op .isB (.cons (.var 0) .nil)) (.op .eq (.cons (.var 0) (.cons (.var 1) .nil))))) .pass)
    (.seq (.ife (.op .isI (.cons (.var 1) .nil)) (.ret (.and (.op .isI (.cons (.var 0) .nil)) (.and (.not (.op .isB (.cons (.var 0) .nil))) (.op .eq (.cons (.var 0) (.cons (.var 1) .nil)))))) .pass)
    (.seq (.ife (.op .isS (.cons (.var 1) .nil)) (.ret (.and (.op .isS (.cons (.var 0) .nil)) (.op .eq (.cons (.var 0) (.cons (.var 1) .nil))))) .pass)
    (.seq (.ife (.op .isN (.cons (.var 1) (.cons (.cst .none) .nil))) (.ret (.op .isN (.cons (.var 0) (.cons (.cst .none) .nil)))) .pass)
    (.seq (.ife (.or (.not (.op .isT (.cons (.var 0) .nil))) (.op .ne (.cons (.op .len (.cons (.var 0) .nil)) (.cons (.op .len (.cons (.var 1) .nil)) .nil)))) (.ret (.cst (.bool false))) .pass)
    (.seq (.for (.nm 2) (.rng (.cons (.op .len (.cons (.var 1) .nil)) .nil)) (.ife (.not (.call me (.cons (.op .idx (.cons (.var 0) (.cons (.var 2) .nil))) (.cons (.op .idx (.cons (.var 1) (.cons (.var 2) .nil))) .nil)))) (.ret (.cst (.bool false))) .pass))
    (.ret (.cst (.bool true)))))))))⟩
/-- values that the test goes through, so many layers deep -/
inductive Pl : Nat → D → Prop
  | none {k} : Pl k .none
  | bool {k b} : Pl k (.bool b)
  | int {k i} : Pl k (.int i)
  | str {k x} : SeqAt.shaped (.str x) = true → Pl k (.str x)
  | tup {k xs} : xs.length ≤ line → (∀ x, x ∈ xs → Pl k x) → Pl (k + 1) (.tuple xs)
theorem eqv_str {x : Str} : PyData.eqv (.str x) (.str x) = true := by unfold PyData.eqv; simp
theorem same_ok {t : Tx} {n i : Nat} {d : Df} (hd : t.dfs[i]? = some d) (hf : d.fn = FSame i) : ∀ (k : Nat) (a : D), Pl k a → WC (t.call n (k + 1)) i [.val a, .val a] fun rv sl => rv = .val (.bool true) ∧ sl = [.val a, .val a] := by
  intro k
  induction k with
  | zero =>
    intro a h
    refine wc_in (env := [.val a, .val a, .no]) hd (by rw [hf]; rfl) (by rw [hf]; rfl) ?_
    rw [hf]
    unfold FSame
    cases h with
    | none => walk_at "ev"
    | bool => walk_at "ev"
    | int => walk_at "ev"
    | str h => walk_at "ev"; exact ⟨h, by rw [eqv_str]⟩
  | succ k ih =>
    intro a h
    refine wc_in (env := [.val a, .val a, .no]) hd (by rw [hf]; rfl) (by rw [hf]; rfl) ?_
    rw [hf]
    unfold FSame
    cases h with
    | none => walk_at "ev"
    | bool => walk_at "ev"
    | int => walk_at "ev"
    | str h => walk_at "ev"; exact ⟨h, by rw [eqv_str]⟩
    | @tup _ xs hl hx =>
      walk_at "ev"
      refine s_for3 (fun j e => ∃ s, e = [.val (.tuple xs), .val (.tuple xs), s] ∧ s.free = true) (rgL 0 xs.length) [.val (.tuple xs), .val (.tuple xs), .no] ?_ ⟨.no, rfl, rfl⟩ (fun j x e hj ⟨s, he, hs⟩ => ?_) (fun e ⟨s, he, hs⟩ => ?_)
      · walk_at "ev"
        have : xs.length ≤ 16777216 := hl
        omega
      · subst he
        obtain ⟨hi, rfl⟩ := rgL_get.mp hj
        walk_at "ev"
        refine ⟨hs, ?_⟩
        rw [wat (atI_some (j := j) rfl hi)]
        walk_at "ev"
        rw [wat (atI_some (j := j) rfl hi)]
        walk_at "ev"
        refine (ih _ (hx _ (List.getElem_mem hi))).mono ?_
        rintro rv sl ⟨rfl, rfl⟩
        walk_at "ev"
        exact ⟨_, rfl, rfl⟩
      · subst he
        walk_at "ev"
end Pv

namespace Pv
open PySem PySem.Spec PyProof.Rows L2

/-! ### lists of numbers -/
theorem lay_ints : ∀ ns : List Int, PyData.canLayAll0 (ns.map PyData.int) = true
  | [] => by simp [PyData.canLayAll0]
  | n :: r => by simp [PyData.canLayAll0, PyData.canLay0, lay_ints r]
theorem dep_ints : ∀ ns : List Int, PyData.depthAll (ns.map PyData.int) = 0
  | [] => by simp [PyData.depthAll]
  | n :: r => by simp [PyData.depthAll, PyData.depth, dep_ints r]
theorem sh_ints {ns : List Int} : SeqAt.shaped (.list (ns.map PyData.int)) = true := by simp [SeqAt.shaped, PyData.canLay0, PyData.depth, lay_ints, dep_ints]
theorem sh_intt {ns : List Int} : SeqAt.shaped (.tuple (ns.map PyData.int)) = true := by simp [SeqAt.shaped, PyData.canLay0, PyData.depth, lay_ints, dep_ints]
theorem eqv_all : ∀ ns ms : List Int, PyData.eqvAll (ns.map PyData.int) (ms.map PyData.int) = decide (ns = ms)
  | [], [] => by simp [PyData.eqvAll]
  | [], _ :: _ => by simp [PyData.eqvAll]
  | _ :: _, [] => by simp [PyData.eqvAll]
  | n :: r, m :: s => by
    simp only [List.map_cons, PyData.eqvAll, eqv_int, eqv_all r s]
    by_cases h1 : n = m <;> by_cases h2 : r = s <;> simp [h1, h2]
theorem eqv_ints {ns ms : List Int} : PyData.eqv (.list (ns.map PyData.int)) (.list (ms.map PyData.int)) = decide (ns = ms) := by unfold PyData.eqv; exact eqv_all ns ms
theorem eqv_intt {ns ms : List Int} : PyData.eqv (.tuple (ns.map PyData.int)) (.tuple (ms.map PyData.int)) = decide (ns = ms) := by unfold PyData.eqv; exact eqv_all ns ms
theorem any_ints {ns : List Int} {a : Int} : ((ns.map PyData.int).any fun z => PyData.eqv z (.int a)) = decide (a ∈ ns) := by
  induction ns with
  | nil => simp
  | cons n r ih =>
    simp only [List.map_cons, List.any_cons, eqv_int, ih]
    by_cases h : a = n <;> by_cases h2 : a ∈ r <;> simp [h, h2, eq_comm]
    all_goals (intro z; exact absurd z.symm h)
theorem sh_bb {a b : Bool} : SeqAt.shaped (.tuple [.bool a, .bool b]) = true := by simp [SeqAt.shaped, PyData.canLay0, PyData.canLayAll0, PyData.depth, PyData.depthAll]
theorem eqv_bb {a b c d : Bool} : PyData.eqv (.tuple [.bool a, .bool b]) (.tuple [.bool c, .bool d]) = (a == c && b == d) := by simp [PyData.eqv, PyData.eqvAll]
theorem rgL_mem {a : Int} {n : Nat} {x : D} (h : x ∈ rgL a n) : ∃ i, i < n ∧ x = .int (a + (i : Int)) := by
  obtain ⟨i, hi, rfl⟩ := List.mem_map.mp h
  exact ⟨i, by simpa using hi, rfl⟩
def natD (xs : List Nat) : List D := xs.map fun (x : Nat) => .int (x : Int)
theorem natD_len {xs : List Nat} : (natD xs).length = xs.length := by unfold natD; rw [List.length_map]
theorem natD_app {xs : List Nat} {x : Nat} : natD (xs ++ [x]) = natD xs ++ [.int (x : Int)] := by unfold natD; rw [List.map_append]; rfl
theorem rg_natD {n : Nat} : rgL 0 n = natD (List.range n) := by
  unfold natD rgL
  refine List.map_congr_left fun x _ => ?_
  simp
theorem fil_rg {p : D → Bool} {q : Nat → Bool} {n : Nat} (h : ∀ i, i < n → p (.int (i : Int)) = q i) : (rgL 0 n).filter p = natD ((List.range n).filter q) := by
  rw [rg_natD]
  unfold natD
  rw [List.filter_map]
  congr 1
  exact List.filter_congr fun x hx => h x (List.mem_range.mp hx)
theorem map_rg {f : D → D} {g : Nat → Nat} {n : Nat} (h : ∀ i, i < n → f (.int (i : Int)) = .int (g i : Int)) : (rgL 0 n).map f = natD ((List.range n).map g) := by
  rw [rg_natD]
  unfold natD
  rw [List.map_map, List.map_map]
  exact List.map_congr_left fun x hx => h x (List.mem_range.mp hx)
theorem natD_ints (xs : List Nat) : natD xs = (xs.map fun (x : Nat) => (x : Int)).map .int := by unfold natD; rw [List.map_map]; rfl
theorem pl_nat {k : Nat} {xs : List Nat} (h : xs.length ≤ line) : Pl (k + 1) (.tuple (natD xs)) := by
  refine .tup (by rwa [natD_len]) fun x hx => ?_
  obtain ⟨i, _, rfl⟩ := List.mem_map.mp hx
  exact .int
theorem fdiv_nat (a b : Nat) : ((a : Int)).fdiv (b : Int) = ((a / b : Nat) : Int) := by rw [Int.fdiv_eq_ediv_of_nonneg _ (by omega)]; exact (Int.natCast_ediv a b).symm
theorem fmod_nat (a b : Nat) : ((a : Int)).fmod (b : Int) = ((a % b : Nat) : Int) := by rw [Int.fmod_eq_emod_of_nonneg _ (by omega)]; exact (Int.natCast_emod a b).symm
theorem atI_last {α : Type} {xs : List α} {y : α} : atI (xs ++ [y]) (-1) = some y := by
  unfold atI ixN
  rw [if_neg (by decide), if_pos (by simp; omega)]
  simp only [Option.bind_some]
  rw [show (-1 + ((xs ++ [y]).length : Int)).toNat = xs.length by simp; omega]
  simp
theorem pl_rg {k : Nat} {a : Int} {n : Nat} (h : n ≤ line) : Pl (k + 1) (.tuple (rgL a n)) := by
  refine .tup (by rwa [rgL_len]) fun x hx => ?_
  obtain ⟨i, _, rfl⟩ := rgL_mem hx
  exact .int
theorem insI_le {x : Int} {xs : List Int} (h : ∀ y ∈ xs, x ≤ y) : insI x xs = x :: xs := by
  cases xs with
  | nil => rfl
  | cons y r => unfold insI; rw [if_pos (h y (by simp))]
theorem sortI_id {xs : List Int} (h : xs.Pairwise (· ≤ ·)) : sortI xs = xs := by
  induction h with
  | nil => rfl
  | cons h1 _ ih => show insI _ (sortI _) = _; rw [ih]; exact insI_le h1
theorem maxI_mem {xs : List Int} (h : xs ≠ []) : ∃ m, maxI xs = some m ∧ m ∈ xs ∧ ∀ x ∈ xs, x ≤ m := by
  cases xs with
  | nil => exact absurd rfl h
  | cons x r =>
    refine ⟨_, rfl, ?_⟩
    clear h
    induction r generalizing x with
    | nil => simp
    | cons y r ih =>
      simp only [List.foldl_cons]
      obtain ⟨h1, h2⟩ := ih (if x < y then y else x)
      generalize List.foldl (fun m y => if m < y then y else m) (if x < y then y else x) r = m at *
      have hx : (if x < y then y else x) ≤ m := h2 _ (by simp)
      refine ⟨?_, fun z hz => ?_⟩
      · rcases List.mem_cons.mp h1 with h | h
        · rw [h]; split <;> simp
        · simp [h]
      · rcases List.mem_cons.mp hz with h | h
        · subst h; split at hx <;> omega
        · rcases List.mem_cons.mp h with h | h
          · subst h; split at hx <;> omega
          · exact h2 z (by simp [h])
theorem pl_ints {k : Nat} {ns : List Int} (h : ns.length ≤ line) : Pl (k + 1) (.tuple (ns.map .int)) := by
  refine .tup (by simpa using h) fun x hx => ?_
  obtain ⟨z, _, rfl⟩ := List.mem_map.mp hx
  exact .int
theorem atI_map {α : Type} {f : α → D} {xs : List α} {i : Int} {j : Nat} (h : i = (j : Int)) (hj : j < xs.length) : atI (xs.map f) i = some (f xs[j]) := by
  rw [atI_some (j := j) h (by simpa using hj)]; simp
theorem cut_from {α : Type} (xs : List α) (n : Nat) : cutD xs (some (n : Int)) none = xs.drop n := by
  unfold cutD HT.sIx
  dsimp only
  rw [if_neg (by omega)]
  simp only [Int.toNat_natCast]
  by_cases h : n ≤ xs.length
  · rw [Nat.min_eq_left h, List.take_of_length_le (by rw [List.length_drop]; omega)]
  · rw [Nat.min_eq_right (by omega), List.drop_eq_nil_of_le (Nat.le_refl _), List.drop_eq_nil_of_le (by omega), List.take_nil]
theorem cut_to {α : Type} (xs : List α) (n : Nat) : cutD xs none (some (n : Int)) = xs.take n := by
  unfold cutD HT.sIx
  dsimp only
  rw [if_neg (by omega)]
  simp only [Int.toNat_natCast]
  by_cases h : n ≤ xs.length
  · rw [Nat.min_eq_left h]; rfl
  · rw [Nat.min_eq_right (by omega), Nat.sub_zero, List.drop_zero, List.take_of_length_le (Nat.le_refl _), List.take_of_length_le (by omega)]
/-- nothing, or a value that never changes -/
def Qt (s : Sl) : Prop := s = .no ∨ ∃ d, s = .val d
theorem Qt.free {s : Sl} (h : Qt s) : s.free = true := by rcases h with rfl | ⟨d, rfl⟩ <;> rfl
theorem Qt.val {d : D} : Qt (.val d) := .inr ⟨d, rfl⟩
theorem Qt.no : Qt .no := .inl rfl
/-! the other way to draw -/
def sDraws2One : S := (.seq (.set 6 (.op .mod (.cons (.var 5) (.cons (.op .len (.cons (.var 2) .nil)) .nil))))
    (.ife (.and (.op .ge (.cons (.op .idx (.cons (.var 2) (.cons (.var 6) .nil))) (.cons (.op .pow (.cons (.cst (.int 10)) (.cons (.cst (.int 18)) .nil))) .nil))) (.op .gt (.cons (.op .idx (.cons (.brw 3) (.cons (.var 6) .nil))) (.cons (.cst (.int 0)) .nil)))) (.seq (.ex (.mth .append 4 (.cons (.op .mod (.cons (.op .int (.cons (.op .idx (.cons (.brw 3) (.cons (.var 6) .nil))) .nil)) (.cons (.cst (.int 1000)) .nil))) .nil)))
    (.st 3 (.var 6) (.op .fdiv (.cons (.op .idx (.cons (.brw 3) (.cons (.var 6) .nil))) (.cons (.cst (.int 1000)) .nil))))) (.seq (.set 7 (.op .mod (.cons (.op .int (.cons (.op .add (.cons (.op .add (.cons (.op .mul (.cons (.op .idx (.cons (.var 2) (.cons (.var 6) .nil))) (.cons (.cst (.int 48271)) .nil))) (.cons (.op .mul (.cons (.var 5) (.cons (.cst (.int 69621)) .nil))) .nil))) (.cons (.cst (.int 11)) .nil))) .nil)) (.cons (.cst (.int 2147483647)) .nil))))
    (.ex (.mth .append 4 (.cons (.op .mod (.cons (.op .int (.cons (.op .add (.cons (.op .add (.cons (.op .mul (.cons (.var 7) (.cons (.var 7) .nil))) (.cons (.op .mul (.cons (.cst (.int 3)) (.cons (.var 7) .nil))) .nil))) (.cons (.var 5) .nil))) .nil)) (.cons (.cst (.int 1000003)) .nil))) .nil))))))
def sDraws2Rest : S := (.seq (.set 3 (.op .list (.cons (.var 2) .nil)))
    (.seq (.set 4 (.lst .nil))
    (.seq (.for (.nm 5) (.rng (.cons (.var 1) .nil)) sDraws2One)
    (.seq (.ex (.mth .reverse 4 .nil))
    (.ret (.mov 4))))))
def FDraws2 : Fn := ⟨9, 2, (.seq (.set 2 (.op .add (.cons (.comp [8] (.nm 8) (.of (.var 0)) .nil (.op .int (.cons (.var 8) .nil))) (.cons (.op .mul (.cons (.lst (.cons (.cst (.int 0)) .nil)) (.cons (.op .int (.cons (.op .eq (.cons (.op .len (.cons (.var 0) .nil)) (.cons (.cst (.int 0)) .nil))) .nil)) .nil))) .nil))))
     sDraws2Rest)⟩
theorem draws2_rest {gl : Nat → D} {cf : Nat → List Sl → Option (Rv × List Sl)} {n many : Nat} {cs : List Int} {scr : D} (h0 : cs ≠ []) (hb : ∀ z ∈ cs, z.natAbs.log2 ≤ 1048576) (hl : cs.length ≤ 64) (hm : many ≤ 1000000) :
    WS gl cf n sDraws2Rest [.val scr, .val (.int many), .loc (.lst (cs.map .int)), .no, .no, .no, .no, .no, .no] fun c e => CR c e 2 fun rv sl => ∃ m, rv = .new m ∧ Drw m ∧ sl = [.val scr, .val (.int many)] := by
  unfold sDraws2Rest
  walk_at "ev"
  have hl0 : 0 < cs.length := List.length_pos_iff.mpr h0
  refine s_for3 (fun i e => ∃ (rs ds : List Int) (s5 s6 s7 : Sl), e = [.val scr, .val (.int many), .val (.list (cs.map .int)), .loc (.lst (rs.map .int)), .loc (.lst (ds.map .int)), s5, s6, s7, .no] ∧ rs.length = cs.length ∧ ds.length = i ∧ s5.free = true ∧ s6.free = true ∧ s7.free = true)
    (rgL 0 many) _ ?_ ⟨cs, [], .no, .no, .no, rfl, rfl, rfl, rfl, rfl, rfl⟩ (fun i x e hx ⟨rs, ds, s5, s6, s8, he, h1, h2, h5, h6, h8⟩ => ?_) (fun e ⟨rs, ds, s5, s6, s8, he, h1, h2, h5, h6, h8⟩ => ?_)
  · walk_at "ev"
    exact ⟨by omega, rfl⟩
  · subst he
    obtain ⟨hi, rfl⟩ := rgL_get.mp hx
    unfold sDraws2One
    walk_at "ev"
    have hL : (0 : Int) < ((cs.map PyData.int).length : Nat) := by rw [List.length_map]; omega
    refine ⟨h5, by omega, h6, ?_⟩
    generalize hA : (i : Int).fmod ((cs.map PyData.int).length : Nat) = A
    have a0 : 0 ≤ A := by rw [← hA]; exact Int.fmod_nonneg_of_pos _ hL
    have a1 : A < ((cs.map PyData.int).length : Nat) := by rw [← hA]; exact Int.fmod_lt_of_pos _ hL
    rw [List.length_map] at a1
    obtain ⟨j, rfl⟩ := Int.eq_ofNat_of_zero_le a0
    have hj : j < cs.length := by omega
    have gc : atI (cs.map PyData.int) (j : Int) = some (.int cs[j]) := by rw [atI_some (j := j) rfl (by simpa using hj)]; simp
    have gr : atI (rs.map PyData.int) (j : Int) = some (.int (rs[j]'(by omega))) := by rw [atI_some (j := j) rfl (by simp; omega)]; simp
    have bc : Bnd cs[j] 1048577 := bnd_of (by have := hb cs[j] (List.getElem_mem hj); omega)
    rw [wat gc]
    walk_at "ev"
    have other : WS gl cf n (.seq (.set 7 (.op .mod (.cons (.op .int (.cons (.op .add (.cons (.op .add (.cons (.op .mul (.cons (.op .idx (.cons (.var 2) (.cons (.var 6) .nil))) (.cons (.cst (.int 48271)) .nil))) (.cons (.op .mul (.cons (.var 5) (.cons (.cst (.int 69621)) .nil))) .nil))) (.cons (.cst (.int 11)) .nil))) .nil)) (.cons (.cst (.int 2147483647)) .nil))))
    (.ex (.mth .append 4 (.cons (.op .mod (.cons (.op .int (.cons (.op .add (.cons (.op .add (.cons (.op .mul (.cons (.var 7) (.cons (.var 7) .nil))) (.cons (.op .mul (.cons (.cst (.int 3)) (.cons (.var 7) .nil))) .nil))) (.cons (.var 5) .nil))) .nil)) (.cons (.cst (.int 1000003)) .nil))) .nil))))
        [.val scr, .val (.int many), .val (.list (cs.map .int)), .loc (.lst (rs.map .int)), .loc (.lst (ds.map .int)), .val (.int i), .val (.int j), s8, .no]
        fun c e => c = .nx ∧ ∃ (rs ds : List Int) (s5 s6 s8 : Sl), e = [.val scr, .val (.int many), .val (.list (cs.map .int)), .loc (.lst (rs.map .int)), .loc (.lst (ds.map .int)), s5, s6, s8, .no] ∧ rs.length = cs.length ∧ ds.length = i + 1 ∧ s5.free = true ∧ s6.free = true ∧ s8.free = true := by
      walk_at "ev"
      rw [wat gc]
      walk_at "ev"
      have bi : Bnd (i : Int) 20 := by
        unfold Bnd
        have : (1000000 : Nat) < 2 ^ 20 := by decide
        omega
      generalize hM : (cs[j] * 48271 + (i : Int) * 69621 + 11).fmod 2147483647 = M
      have bM : Bnd M 31 := by rw [← hM]; exact bnd_mod (bnd_lit (by decide)) (by decide)
      refine ⟨⟨bc.bits (by decide), by decide⟩, ⟨bi.bits (by decide), by decide⟩, h8, bM.bits (by decide), ⟨by decide, bM.bits (by decide)⟩, by simp; omega, rs, ds ++ [(M * M + 3 * M + (i : Int)).fmod 1000003], .val (.int i), .val (.int j), .val (.int M), ?_, h1, by simp; omega, rfl, rfl, rfl⟩
      rw [List.map_append]; rfl
    refine wif (fun hg => ?_) (fun hg => ?_)
    · walk_at "ev"
      rw [wat gr]
      walk_at "ev"
      refine wif (fun hp => ?_) (fun hp => ?_)
      · walk_at "ev"
        rw [wat gr]
        walk_at "ev"
        refine ⟨by simp; omega, ?_⟩
        rw [wat gr]
        walk_at "ev"
        refine ⟨by decide, ?_⟩
        rw [wix (b := j) (ixN_some rfl (by simp; omega))]
        walk_at "ev"
        refine ⟨rs.set j ((rs[j]'(by omega)).fdiv 1000), ds ++ [(rs[j]'(by omega)).fmod 1000], .val (.int i), .val (.int j), s8, ?_, by simp [h1], by simp; omega, rfl, rfl, h8⟩
        rw [List.map_append, List.map_set]; rfl
      · refine other.mono ?_
        rintro c e ⟨rfl, h⟩
        exact h
    · refine other.mono ?_
      rintro c e ⟨rfl, h⟩
      exact h
  · subst he
    walk_at "ev"
    exact ⟨_, rfl, ds.reverse, by rw [List.map_reverse]⟩
theorem draws2_ok {t : Tx} {n k i : Nat} {d : Df} (hd : t.dfs[i]? = some d) (hf : d.fn = FDraws2) {ns : List Int} {many : Nat} (hS : Sc ns) (hm : many ≤ 1000000) :
    WC (t.call n (k + 1)) i [.val (scrD (ns.map .int)), .val (.int many)] fun rv sl => ∃ m, rv = .new m ∧ Drw m ∧ sl = [.val (scrD (ns.map .int)), .val (.int many)] := by
  refine wc_in (env := [.val (scrD (ns.map .int)), .val (.int many), .no, .no, .no, .no, .no, .no, .no]) hd (by rw [hf]; rfl) (by rw [hf]; rfl) ?_
  rw [hf]
  unfold FDraws2
  walk_at "ev"
  refine w_map id (ns.map .int) [.val (scrD (ns.map .int)), .val (.int many), .no, .no, .no, .no, .no, .no, .no] ?_ rfl (by have := hS.1; simp [line]; omega) (by simp only [List.length_cons]; omega) (fun x hx => ?_) ?_
  · walk_at "ev"
  · obtain ⟨z, _, rfl⟩ := List.mem_map.mp hx
    walk_at "ev"
    exact rfl
  · walk_at "ev"
    have hl := hS.1
    by_cases he : ns = []
    · subst he
      have e0 : (if decide (((([] : List Int).map PyData.int).length : Int) = 0) = true then (1 : Int) else 0) = 1 := rfl
      rw [e0]
      exact ⟨by decide, by decide, draws2_rest (cs := [0]) (by simp) (by simp) (by decide) hm⟩
    · have h0 : ns.length ≠ 0 := fun z => he (List.length_eq_zero_iff.mp z)
      have e0 : (if decide (((ns.map PyData.int).length : Int) = 0) = true then (1 : Int) else 0) = 0 := by
        rw [List.length_map, if_neg (by simp; omega)]
      rw [e0]
      walk_at "ev"
      refine ⟨by decide, by simp; omega, ?_⟩
      rw [List.map_id]
      have e1 : ns.map PyData.int ++ (List.replicate 0 [PyData.int 0]).flatten = ns.map .int := by simp
      rw [e1]
      exact draws2_rest he hS.2 (by omega) hm
def FSame2 (me : Nat) : Fn := ⟨3, 2, (.seq (.ife (.op .isN (.cons (.var 1) (.cons (.cst .none) .nil))) (.ret (.op .isN (.cons (.var 0) (.cons (.cst .none) .nil)))) .pass)
    (.seq (.ife (.op .isB (.cons (.var 1) .nil)) (.ret (.and (.op .isB (.cons (.var 0) .nil)) (.op .eq (.cons (.var 0) (.cons (.var 1) .nil))))) .pass)
    (.seq (.ife (.op .isI (.cons (.var 1) .nil)) (.ret (.and (.op .isI (.cons (.var 0) .nil)) (.and (.not (.op .isB (.cons (.var 0) .nil))) (.op .eq (.cons (.var 0) (.cons (.var 1) .nil)))))) .pass)
    (.seq (.ife (.op .isS (.cons (.var 1) .nil)) (.ret (.and (.op .isS (.cons (.var 0) .nil)) (.op .eq (.cons (.var 0) (.cons (.var 1) .nil))))) .pass)
    (.seq (.ife (.or (.not (.op .isT (.cons (.var 0) .nil))) (.op .ne (.cons (.op .len (.cons (.var 0) .nil)) (.cons (.op .len (.cons (.var 1) .nil)) .nil)))) (.ret (.cst (.bool false))) .pass)
    (.seq (.for (.nm 2) (.rng (.cons (.op .len (.cons (.var 1) .nil)) .nil)) (.ife (.not (.call me (.cons (.op .idx (.cons (.var 0) (.cons (.var 2) .nil))) (.cons (.op .idx (.cons (.var 1) (.cons (.var 2) .nil))) .nil)))) (.ret (.cst (.bool false))) .pass))
    (.ret (.cst (.bool true)))))))))⟩
theorem same2_ok {t : Tx} {n i : Nat} {d : Df} (hd : t.dfs[i]? = some d) (hf : d.fn = FSame2 i) : ∀ (k : Nat) (a : D), Pl k a → WC (t.call n (k + 1)) i [.val a, .val a] fun rv sl => rv = .val (.bool true) ∧ sl = [.val a, .val a] := by
  intro k
  induction k with
  | zero =>
    intro a h
    refine wc_in (env := [.val a, .val a, .no]) hd (by rw [hf]; rfl) (by rw [hf]; rfl) ?_
    rw [hf]
    unfold FSame2
    cases h with
    | none => walk_at "ev"
    | bool => walk_at "ev"
    | int => walk_at "ev"
    | str h => walk_at "ev"; exact ⟨h, by rw [eqv_str]⟩
  | succ k ih =>
    intro a h
    refine wc_in (env := [.val a, .val a, .no]) hd (by rw [hf]; rfl) (by rw [hf]; rfl) ?_
    rw [hf]
    unfold FSame2
    cases h with
    | none => walk_at "ev"
    | bool => walk_at "ev"
    | int => walk_at "ev"
    | str h => walk_at "ev"; exact ⟨h, by rw [eqv_str]⟩
    | @tup _ xs hl hx =>
      walk_at "ev"
      refine s_for3 (fun j e => ∃ s, e = [.val (.tuple xs), .val (.tuple xs), s] ∧ s.free = true) (rgL 0 xs.length) [.val (.tuple xs), .val (.tuple xs), .no] ?_ ⟨.no, rfl, rfl⟩ (fun j x e hj ⟨s, he, hs⟩ => ?_) (fun e ⟨s, he, hs⟩ => ?_)
      · walk_at "ev"
        have : xs.length ≤ 16777216 := hl
        omega
      · subst he
        obtain ⟨hi, rfl⟩ := rgL_get.mp hj
        walk_at "ev"
        refine ⟨hs, ?_⟩
        rw [wat (atI_some (j := j) rfl hi)]
        walk_at "ev"
        rw [wat (atI_some (j := j) rfl hi)]
        walk_at "ev"
        refine (ih _ (hx _ (List.getElem_mem hi))).mono ?_
        rintro rv sl ⟨rfl, rfl⟩
        walk_at "ev"
        exact ⟨_, rfl, rfl⟩
      · subst he
        walk_at "ev"
/-! a cell at a place -/
def FCell2 : Fn := ⟨3, 2, (.seq (.ife (.op .eq (.cons (.op .len (.cons (.var 0) .nil)) (.cons (.cst (.int 0)) .nil))) (.ret (.cst (.int 0))) .pass)
    (.seq (.set 2 (.op .int (.cons (.op .idx (.cons (.var 0) (.cons (.op .mod (.cons (.op .int (.cons (.var 1) .nil)) (.cons (.op .len (.cons (.var 0) .nil)) .nil))) .nil))) .nil)))
    (.ret (.op .mul (.cons (.op .mod (.cons (.op .abs (.cons (.var 2) .nil)) (.cons (.op .pow (.cons (.cst (.int 10)) (.cons (.cst (.int 60)) .nil))) .nil))) (.cons (.op .idx (.cons (.lst (.cons (.cst (.int 1)) (.cons (.op .neg (.cons (.cst (.int 1)) .nil)) .nil))) (.cons (.op .int (.cons (.op .lt (.cons (.var 2) (.cons (.cst (.int 0)) .nil))) .nil)) .nil))) .nil))))))⟩
theorem cell2_ok {t : Tx} {n k i : Nat} {d : Df} (hd : t.dfs[i]? = some d) (hf : d.fn = FCell2) {ns : List Int} {a : Int} :
    WC (t.call n (k + 1)) i [.val (scrD (ns.map .int)), .val (.int a)] fun rv sl => ∃ v, rv = .val (.int v) ∧ v.natAbs < 10 ^ 60 ∧ sl = [.val (scrD (ns.map .int)), .val (.int a)] := by
  refine wc_in (env := [.val (scrD (ns.map .int)), .val (.int a), .no]) hd (by rw [hf]; rfl) (by rw [hf]; rfl) ?_
  rw [hf]
  unfold FCell2
  walk_at "ev"
  by_cases he : ns = []
  · subst he
    rw [wif_pos (by rfl)]
    walk_at "ev"
    exact ⟨0, rfl, by decide⟩
  · have hl : 0 < ns.length := List.length_pos_iff.mpr he
    rw [wif_neg (by simpa using he)]
    walk_at "ev"
    rw [List.length_map]
    have hl' : (0 : Int) < (ns.length : Nat) := by omega
    generalize hV : a.fmod (ns.length : Nat) = v
    have v0 : 0 ≤ v := by rw [← hV]; exact Int.fmod_nonneg_of_pos _ hl'
    have v1 : v < (ns.length : Nat) := by rw [← hV]; exact Int.fmod_lt_of_pos _ hl'
    refine ⟨by omega, ?_⟩
    have hv : v.toNat < ns.length := by omega
    rw [wat (atI_map (j := v.toNat) (by omega) hv)]
    walk_at "ev"
    have e10 : (0 : Int) < 1000000000000000000000000000000000000000000000000000000000000 := by decide
    generalize hA : (if ns[v.toNat] < 0 then -ns[v.toNat] else ns[v.toNat]).fmod 1000000000000000000000000000000000000000000000000000000000000 = A
    have a0 : 0 ≤ A := by rw [← hA]; exact Int.fmod_nonneg_of_pos _ e10
    have a1 : A < 1000000000000000000000000000000000000000000000000000000000000 := by rw [← hA]; exact Int.fmod_lt_of_pos _ e10
    have bA : Bnd A 200 := by
      unfold Bnd
      have : (1000000000000000000000000000000000000000000000000000000000000 : Nat) ≤ 2 ^ 200 := by decide
      omega
    by_cases hc : ns[v.toNat] < 0
    · rw [if_pos (by simpa using hc), wat (d := .int (-1)) rfl]
      walk_at "ev"
      exact ⟨⟨bA.bits (by decide), by decide⟩, _, rfl, by omega⟩
    · rw [if_neg (by simpa using hc), wat (d := .int 1) rfl]
      walk_at "ev"
      exact ⟨⟨bA.bits (by decide), by decide⟩, _, rfl, by omega⟩
/-! sizes -/
def FSize (tk : Nat) : Fn := ⟨4, 2, (.seq (.set 2 (.call tk (.cons (.mov 0) (.cons (.cst (.int 4)) .nil))))
    (.seq (.set 3 (.call tk (.cons (.mov 0) (.cons (.cst (.int 1000)) .nil))))
    (.seq (.ife (.op .eq (.cons (.var 2) (.cons (.cst (.int 1)) .nil))) (.set 3 (.op .add (.cons (.var 3) (.cons (.op .mul (.cons (.op .add (.cons (.cst (.int 1)) (.cons (.call tk (.cons (.mov 0) (.cons (.cst (.int 1000)) .nil))) .nil))) (.cons (.op .pow (.cons (.cst (.int 10)) (.cons (.cst (.int 15)) .nil))) .nil))) .nil)))) .pass)
    (.seq (.ife (.and (.op .eq (.cons (.var 2) (.cons (.cst (.int 2)) .nil))) (.op .gt (.cons (.op .len (.cons (.var 1) .nil)) (.cons (.cst (.int 0)) .nil)))) (.set 3 (.op .add (.cons (.var 3) (.cons (.op .mod (.cons (.op .int (.cons (.op .abs (.cons (.op .int (.cons (.op .idx (.cons (.var 1) (.cons (.call tk (.cons (.mov 0) (.cons (.op .len (.cons (.var 1) .nil)) .nil))) .nil))) .nil)) .nil)) .nil)) (.cons (.op .pow (.cons (.cst (.int 10)) (.cons (.cst (.int 60)) .nil))) .nil))) .nil)))) .pass)
    (.seq (.ife (.op .eq (.cons (.var 2) (.cons (.cst (.int 3)) .nil))) (.set 3 (.op .add (.cons (.op .mul (.cons (.var 3) (.cons (.cst (.int 1000)) .nil))) (.cons (.call tk (.cons (.mov 0) (.cons (.cst (.int 1000)) .nil))) .nil)))) .pass)
    (.ret (.var 3)))))))⟩
theorem size_ok {t : Tx} {n k i tk : Nat} {d dt : Df} (hd : t.dfs[i]? = some d) (hf : d.fn = FSize tk) (ht : t.dfs[tk]? = some dt) (htf : dt.fn = FTake) {ns : List Int} {m : Mo} (hm : Drw m) :
    WC (t.call n (k + 2)) i [.io m, .val (scrD (ns.map .int))] fun rv sl => ∃ v m', rv = .val (.int v) ∧ 0 ≤ v ∧ v < 2 ^ 200 ∧ Drw m' ∧ sl = [.io m', .val (scrD (ns.map .int))] := by
  have big : (2 : Int) ^ 200 = 1606938044258990275541962092341162602522202993782792835301376 := by decide
  rw [big]
  refine wc_in (env := [.io m, .val (scrD (ns.map .int)), .no, .no]) hd (by rw [hf]; rfl) (by rw [hf]; rfl) ?_
  rw [hf]
  unfold FSize
  walk_at "ev"
  refine (take_ok ht htf hm (by decide)).mono ?_
  rintro rv sl ⟨kd, m1, rfl, a0, a1, hm1, rfl⟩
  walk_at "ev"
  refine (take_ok ht htf hm1 (by decide)).mono ?_
  rintro rv sl ⟨b, m2, rfl, b0, b1, hm2, rfl⟩
  walk_at "ev"
  have bb : Bnd b 20 := by unfold Bnd; have : (1000 : Nat) < 2 ^ 20 := by decide
                           omega
  have : kd = 0 ∨ kd = 1 ∨ kd = 2 ∨ kd = 3 := by omega
  rcases this with rfl | rfl | rfl | rfl
  · walk_at "ev"
    exact ⟨b, m2, rfl, by omega, by omega, hm2, rfl⟩
  · walk_at "ev"
    refine (take_ok ht htf hm2 (by decide)).mono ?_
    rintro rv sl ⟨c, m3, rfl, c0, c1, hm3, rfl⟩
    walk_at "ev"
    have bc : Bnd (1 + c) 20 := by unfold Bnd; have : (1000 : Nat) < 2 ^ 20 := by decide
                                   omega
    refine ⟨⟨bc.bits (by decide), by decide⟩, ?_⟩
    exact ⟨_, m3, rfl, by omega, by omega, hm3, rfl⟩
  · walk_at "ev"
    by_cases he : ns = []
    · subst he
      rw [wif_neg (by rfl)]
      walk_at "ev"
      exact ⟨b, m2, rfl, by omega, by omega, hm2, rfl⟩
    · have hl : 0 < ns.length := List.length_pos_iff.mpr he
      rw [wif_pos (by simpa using hl)]
      walk_at "ev"
      have hl' : (0 : Int) < ((ns.map PyData.int).length : Nat) := by simp only [List.length_map]; omega
      refine (take_ok ht htf hm2 hl').mono ?_
      rintro rv sl ⟨v, m', rfl, h0, h1, hm', rfl⟩
      walk_at "ev"
      have hv : v.toNat < ns.length := by simp at h1; omega
      rw [wat ((atI_map (j := v.toNat) (by omega) hv))]
      walk_at "ev"
      have e10 : (0 : Int) < 1000000000000000000000000000000000000000000000000000000000000 := by decide
      generalize hA : (if ns[v.toNat] < 0 then -ns[v.toNat] else ns[v.toNat]).fmod 1000000000000000000000000000000000000000000000000000000000000 = A
      have a0 : 0 ≤ A := by rw [← hA]; exact Int.fmod_nonneg_of_pos _ e10
      have a1 : A < 1000000000000000000000000000000000000000000000000000000000000 := by rw [← hA]; exact Int.fmod_lt_of_pos _ e10
      exact ⟨_, m', rfl, by omega, by omega, hm', rfl⟩
  · walk_at "ev"
    refine ⟨⟨bb.bits (by decide), by decide⟩, ?_⟩
    refine (take_ok ht htf hm2 (by decide)).mono ?_
    rintro rv sl ⟨c, m3, rfl, c0, c1, hm3, rfl⟩
    walk_at "ev"
    exact ⟨_, m3, rfl, by omega, by omega, hm3, rfl⟩
/-- the numbers below n, from the greatest on -/
theorem down_ok {n : Nat} (h : n ≤ 1000000) : rg3 ((n : Int) - 1) (-1) (-1) ∧ (PySem.Builtin.Range.rangeSize ((n : Int) - 1) (-1) (-1)).toNat = n := by
  have e : PySem.Builtin.Range.rangeSize ((n : Int) - 1) (-1) (-1) = (n : Int) := by
    unfold PySem.Builtin.Range.rangeSize
    rw [if_neg (by decide)]
    by_cases z : (n : Int) - 1 > -1
    · rw [if_pos z]
      simp
    · rw [if_neg z]
      omega
  refine ⟨⟨by decide, by decide, ?_, by rw [e]; omega⟩, by rw [e]; omega⟩
  unfold PySem.Builtin.Range.small
  rw [e]
  unfold PySem.Builtin.Range.rangeFitsLong
  simp
  omega
end Pv

namespace Pv
open PySem PySem.Spec PyProof.Rows L2

/-! ### rows of ints in order -/
/-- a tuple of ints -/
abbrev tpI (xs : List Int) : D := .tuple (xs.map .int)
def leL (a b : List Int) : Bool := !decide (b < a)
def sortL (xss : List (List Int)) : List (List Int) := xss.mergeSort leL
theorem lt_tpI (xs ys : List Int) : PySem.W.dataLt (tpI xs) (tpI ys) = decide (xs < ys) := (PySem.W.dataLt_tuple _ _).trans (PySem.W.dataLt_ints xs ys)
theorem le_tpI (xs ys : List Int) : PySem.W.dataLe false id (tpI xs) (tpI ys) = leL xs ys := by
  show (!PySem.W.dataLt (tpI ys) (tpI xs)) = _
  rw [lt_tpI]; rfl
theorem leL_iff {a b : List Int} : leL a b = true ↔ a ≤ b := by
  unfold leL
  rw [Bool.not_eq_true', decide_eq_false_iff_not]
  exact List.not_lt
theorem leL_trans (a b c : List Int) (h : leL a b = true) (h2 : leL b c = true) : leL a c = true := leL_iff.mpr (List.le_trans (leL_iff.mp h) (leL_iff.mp h2))
theorem leL_total (a b : List Int) : (leL a b || leL b a) = true := by
  rw [Bool.or_eq_true, leL_iff, leL_iff]
  exact List.le_total a b
theorem sortL_perm (xss : List (List Int)) : (sortL xss).Perm xss := List.mergeSort_perm _ _
theorem sortL_sorted (xss : List (List Int)) : (sortL xss).Pairwise (· ≤ ·) := (List.pairwise_mergeSort leL_trans leL_total xss).imp leL_iff.mp
theorem map_tpI (xss : List (List Int)) : (xss.map tpI).mergeSort (PySem.W.dataLe false id) = (sortL xss).map tpI :=
  (List.map_mergeSort fun a _ b _ => (le_tpI a b).symm).symm
theorem alike_ints : ∀ (xs ys : List Int), xs.length = ys.length → PySem.W.alikeAll (xs.map .int) (ys.map .int) = true
  | [], [], _ => by simp [PySem.W.alikeAll]
  | x :: xs, y :: ys, h => by simp [PySem.W.alikeAll, PySem.W.alike, alike_ints xs ys (by simpa using h)]
theorem lay_rows : ∀ xss : List (List Int), PyData.canLayAll0 (xss.map tpI) = true
  | [] => by simp [PyData.canLayAll0]
  | x :: r => by simp [PyData.canLayAll0, PyData.canLay0, lay_ints, lay_rows r]
theorem dep_rows : ∀ xss : List (List Int), PyData.depthAll (xss.map tpI) ≤ 1
  | [] => by simp [PyData.depthAll]
  | x :: r => by
    have := dep_rows r
    simp [PyData.depthAll, PyData.depth, dep_ints]
    omega
/-- rows of one length -/
def Even (n : Nat) (xss : List (List Int)) : Prop := 0 < n ∧ ∀ x ∈ xss, x.length = n
theorem alikeB_rows {n : Nat} {xss : List (List Int)} (h : Even n xss) : alikeB (xss.map tpI) = true := by
  unfold alikeB
  rw [List.all_eq_true]
  intro x hx
  rw [List.all_eq_true]
  intro y hy
  obtain ⟨a, ha, rfl⟩ := List.mem_map.mp hx
  obtain ⟨b, hb, rfl⟩ := List.mem_map.mp hy
  have := alike_ints a b ((h.2 a ha).trans (h.2 b hb).symm)
  simpa [PySem.W.alike] using this
theorem sortB_rows {n : Nat} {xss : List (List Int)} (h : Even n xss) : sortB (xss.map tpI) = true := by
  have ht : tupsB (xss.map tpI) = true := by
    unfold tupsB
    rw [List.all_eq_true]
    intro x hx
    obtain ⟨a, ha, rfl⟩ := List.mem_map.mp hx
    have hl := h.2 a ha
    cases a with
    | nil => have := h.1; simp at hl; omega
    | cons z r => rfl
  have := dep_rows xss
  unfold sortB
  rw [alikeB_rows h, ht, lay_rows]
  simp
  omega
theorem bestB_rows {n : Nat} {xss : List (List Int)} (h : Even n xss) : bestB (xss.map tpI) = true := by
  have := dep_rows xss
  unfold bestB
  rw [alikeB_rows h, lay_rows]
  simp [isNone]
  omega
/-- sorted(rows) -/
theorem sortrows_some {xs : List D} {xss : List (List Int)} {n : Nat} (e : xs = xss.map tpI) (h : Even n xss) : sortedf (.list xs) = some (.new (.lst ((sortL xss).map tpI))) := by
  subst e
  cases xss with
  | nil =>
    have e : sortL [] = [] := by unfold sortL; simp
    rw [e]; rfl
  | cons x r => rw [sortd_some rfl (sortB_rows h), map_tpI]
def minL (x : List Int) (xss : List (List Int)) : List Int := xss.foldl (fun a y => if y < a then y else a) x
def maxL (x : List Int) (xss : List (List Int)) : List Int := xss.foldl (fun a y => if a < y then y else a) x
theorem minD_tpI : ∀ (xss : List (List Int)) (x : List Int), PySem.W.minD (tpI x) (xss.map tpI) = tpI (minL x xss)
  | [], x => rfl
  | y :: r, x => by
    have : PySem.W.minD (tpI x) ((y :: r).map tpI) = PySem.W.minD (if PySem.W.dataLt (tpI y) (tpI x) then tpI y else tpI x) (r.map tpI) := rfl
    rw [this, lt_tpI]
    show _ = tpI (minL (if y < x then y else x) r)
    by_cases h : y < x
    · simp only [h, decide_true, if_true]; exact minD_tpI r y
    · simp only [h, decide_false, if_false, Bool.false_eq_true]; exact minD_tpI r x
theorem maxD_tpI : ∀ (xss : List (List Int)) (x : List Int), PySem.W.maxD (tpI x) (xss.map tpI) = tpI (maxL x xss)
  | [], x => rfl
  | y :: r, x => by
    have : PySem.W.maxD (tpI x) ((y :: r).map tpI) = PySem.W.maxD (if PySem.W.dataLt (tpI x) (tpI y) then tpI y else tpI x) (r.map tpI) := rfl
    rw [this, lt_tpI]
    show _ = tpI (maxL (if x < y then y else x) r)
    by_cases h : x < y
    · simp only [h, decide_true, if_true]; exact maxD_tpI r y
    · simp only [h, decide_false, if_false, Bool.false_eq_true]; exact maxD_tpI r x
theorem minL_spec : ∀ (xss : List (List Int)) (x : List Int), (minL x xss = x ∨ minL x xss ∈ xss) ∧ minL x xss ≤ x ∧ ∀ y ∈ xss, minL x xss ≤ y
  | [], x => ⟨.inl rfl, List.le_refl _, by simp⟩
  | y :: r, x => by
    have e : minL x (y :: r) = minL (if y < x then y else x) r := rfl
    rw [e]
    by_cases h : y < x
    · rw [if_pos h]
      obtain ⟨a, b, c⟩ := minL_spec r y
      exact ⟨.inr (a.elim (fun z => by rw [z]; exact List.mem_cons_self) (List.mem_cons_of_mem _)), List.le_trans b (List.le_of_lt h), fun z hz => by rcases List.mem_cons.mp hz with rfl | hz; exact b; exact c z hz⟩
    · rw [if_neg h]
      obtain ⟨a, b, c⟩ := minL_spec r x
      exact ⟨a.imp id (List.mem_cons_of_mem _), b, fun z hz => by rcases List.mem_cons.mp hz with rfl | hz; exact List.le_trans b (List.not_lt.mp h); exact c z hz⟩
theorem maxL_spec : ∀ (xss : List (List Int)) (x : List Int), (maxL x xss = x ∨ maxL x xss ∈ xss) ∧ x ≤ maxL x xss ∧ ∀ y ∈ xss, y ≤ maxL x xss
  | [], x => ⟨.inl rfl, List.le_refl _, by simp⟩
  | y :: r, x => by
    have e : maxL x (y :: r) = maxL (if x < y then y else x) r := rfl
    rw [e]
    by_cases h : x < y
    · rw [if_pos h]
      obtain ⟨a, b, c⟩ := maxL_spec r y
      exact ⟨.inr (a.elim (fun z => by rw [z]; exact List.mem_cons_self) (List.mem_cons_of_mem _)), List.le_trans (List.le_of_lt h) b, fun z hz => by rcases List.mem_cons.mp hz with rfl | hz; exact b; exact c z hz⟩
    · rw [if_neg h]
      obtain ⟨a, b, c⟩ := maxL_spec r x
      exact ⟨a.imp id (List.mem_cons_of_mem _), b, fun z hz => by rcases List.mem_cons.mp hz with rfl | hz; exact List.le_trans (List.not_lt.mp h) b; exact c z hz⟩
theorem ints_tup {x : List Int} {xs : List D} : ints? (tpI x :: xs) = none := rfl
/-- min(rows), max(rows) -/
theorem minrows_some {xs : List D} {x : List Int} {xss : List (List Int)} {n : Nat} (e : xs = (x :: xss).map tpI) (h : Even n (x :: xss)) : minf (.list xs) = some (.val (tpI (minL x xss))) := by
  subst e
  rw [List.map_cons, mind_some rfl (bestB_rows (xss := x :: xss) h), minD_tpI]
theorem maxrows_some {xs : List D} {x : List Int} {xss : List (List Int)} {n : Nat} (e : xs = (x :: xss).map tpI) (h : Even n (x :: xss)) : maxf (.list xs) = some (.val (tpI (maxL x xss))) := by
  subst e
  rw [List.map_cons, maxd_some rfl (bestB_rows (xss := x :: xss) h), maxD_tpI]
/-- pairs of ints in order -/
theorem pair_lt {a b c d : Int} : ([a, b] : List Int) < [c, d] ↔ a < c ∨ (a = c ∧ b < d) := by
  rw [List.cons_lt_cons_iff, List.cons_lt_cons_iff]
  simp
theorem pair_le {a b c d : Int} : ([a, b] : List Int) ≤ [c, d] ↔ a < c ∨ (a = c ∧ b ≤ d) := by
  rw [← List.not_lt, pair_lt]
  omega
theorem row3_lt {a b c d e f : Int} : ([a, b, c] : List Int) < [d, e, f] ↔ a < d ∨ (a = d ∧ (b < e ∨ (b = e ∧ c < f))) := by
  rw [List.cons_lt_cons_iff, pair_lt]
theorem row3_le {a b c d e f : Int} : ([a, b, c] : List Int) ≤ [d, e, f] ↔ a < d ∨ (a = d ∧ (b < e ∨ (b = e ∧ c ≤ f))) := by
  rw [← List.not_lt, row3_lt]
  omega
/-- rows in strict order with the same members are the same -/
theorem strict_eq {α : Type} {R : α → α → Prop} (ir : ∀ a, ¬ R a a) (as : ∀ a b, R a b → R b a → False) : ∀ {xs ys : List α}, xs.Perm ys → xs.Pairwise R → ys.Pairwise R → xs = ys
  | [], ys, h, _, _ => (h.symm.eq_nil).symm
  | x :: xs, [], h, _, _ => absurd h.length_eq (by simp)
  | x :: xs, y :: ys, h, h1, h2 => by
    obtain ⟨a1, a2⟩ := List.pairwise_cons.mp h1
    obtain ⟨b1, b2⟩ := List.pairwise_cons.mp h2
    have e : x = y := by
      rcases List.mem_cons.mp (h.mem_iff.mp List.mem_cons_self : x ∈ y :: ys) with e | hx
      · exact e
      · rcases List.mem_cons.mp (h.mem_iff.mpr List.mem_cons_self : y ∈ x :: xs) with e | hy
        · exact e.symm
        · exact (as _ _ (b1 x hx) (a1 y hy)).elim
    subst e
    rw [strict_eq ir as ((List.perm_cons x).mp h) a2 b2]
theorem rg0 {n : Nat} : rgL 0 n = (List.range n).map fun (k : Nat) => .int (k : Int) := by
  unfold rgL
  exact List.map_congr_left fun k _ => by rw [Int.zero_add]
theorem rg0m {α β : Type} {f : α → β} {xs : List α} : rgL 0 (xs.map f).length = (List.range xs.length).map fun (k : Nat) => .int (k : Int) := by rw [List.length_map]; exact rg0
theorem rgA {a n : Nat} : rgL (a : Int) n = (List.range n).map fun (k : Nat) => .int ((a + k : Nat) : Int) := by
  unfold rgL
  exact List.map_congr_left fun k _ => by rw [Int.natCast_add]
theorem range_get {n i y : Nat} (h : (List.range n)[i]? = some y) : i < n ∧ i = y := by
  obtain ⟨h, e⟩ := List.getElem?_eq_some_iff.mp h
  rw [List.length_range] at h
  exact ⟨h, by rw [← e]; simp⟩
/-! the values asked of -/
/-- a def's answer by values: a value, a new list -/
abbrev FV (cf : Nat → List Sl → Option (Rv × List Sl)) (f : Nat) (as : List D) (r : D) : Prop := WC cf f (as.map .val) fun rv sl => rv = .val r ∧ sl.length = as.length
abbrev FN (cf : Nat → List Sl → Option (Rv × List Sl)) (f : Nat) (as : List D) (r : List D) : Prop := WC cf f (as.map .val) fun rv sl => rv = .new (.lst r) ∧ sl.length = as.length
theorem sortI_mem {z : Int} : ∀ {xs : List Int}, z ∈ sortI xs ↔ z ∈ xs
  | [] => by simp [sortI]
  | x :: r => by
    have ins : ∀ ys : List Int, z ∈ insI x ys ↔ z = x ∨ z ∈ ys := by
      intro ys
      induction ys with
      | nil => simp [insI]
      | cons y t ih =>
        unfold insI
        split
        · simp
        · rw [List.mem_cons, ih, List.mem_cons]
          constructor
          · rintro (h | h | h)
            · exact .inr (.inl h)
            · exact .inl h
            · exact .inr (.inr h)
          · rintro (h | h | h)
            · exact .inr (.inl h)
            · exact .inl h
            · exact .inr (.inr h)
    show z ∈ insI x (sortI r) ↔ _
    rw [ins, sortI_mem, List.mem_cons]
theorem sortI_len (xs : List Int) : (sortI xs).length = xs.length := by
  have ins : ∀ (y : Int) (zs : List Int), (insI y zs).length = zs.length + 1 := by
    intro y zs
    induction zs with
    | nil => rfl
    | cons z r ih => unfold insI; split; rfl; simp [ih]
  induction xs with
  | nil => rfl
  | cons y r ih => exact (ins y (sortI r)).trans (by rw [ih]; rfl)
/-! rows compared -/
theorem bestB_two {n : Nat} {a b : List Int} (h0 : 0 < n) (ha : a.length = n) (hb : b.length = n) : bestB [tpI a, tpI b] = true :=
  bestB_rows (xss := [a, b]) ⟨h0, fun x hx => by
    simp only [List.mem_cons, List.not_mem_nil, or_false] at hx
    rcases hx with rfl | rfl
    · exact ha
    · exact hb⟩
theorem ltrow_some {n : Nat} {a b : List Int} (h0 : 0 < n) (ha : a.length = n) (hb : b.length = n) : op2 .lt (tpI a) (tpI b) = some (.val (.bool (decide (a < b)))) := by
  show (if bestB [tpI a, tpI b] = true then some (Rv.val (.bool (dlt (tpI a) (tpI b)))) else none) = _
  rw [if_pos (bestB_two h0 ha hb)]
  unfold dlt
  rw [lt_tpI]
theorem gtrow_some {n : Nat} {a b : List Int} (h0 : 0 < n) (ha : a.length = n) (hb : b.length = n) : op2 .gt (tpI a) (tpI b) = some (.val (.bool (decide (b < a)))) := by
  show (if bestB [tpI a, tpI b] = true then some (Rv.val (.bool (dgt (tpI a) (tpI b)))) else none) = _
  rw [if_pos (bestB_two h0 ha hb)]
  unfold dgt
  rw [lt_tpI]
/-- min(row, row) -/
theorem min2row_some {n : Nat} {a b : List Int} (h0 : 0 < n) (ha : a.length = n) (hb : b.length = n) : min2f (tpI a) (tpI b) = some (.val (tpI (if b < a then b else a))) := by
  show (if bestB [tpI a, tpI b] = true then some (Rv.val (if PySem.W.dataLt (tpI b) (tpI a) = true then tpI b else tpI a)) else none) = _
  rw [if_pos (bestB_two h0 ha hb), lt_tpI]
  by_cases h : b < a
  · rw [if_pos (by simpa using h), if_pos h]
  · rw [if_neg (by simpa using h), if_neg h]
end Pv

namespace Nw
open PySem PySem.Spec PyProof.Rows L2 Pv
/-! ### nets: ways, fewest cables -/
abbrev Cb := Nat × Nat × Int
def adj (cs : List Cb) (a b : Nat) : Prop := ∃ c ∈ cs, (c.1 = a ∧ c.2.1 = b) ∨ (c.2.1 = a ∧ c.1 = b)
theorem adj_symm {cs : List Cb} {a b : Nat} (h : adj cs a b) : adj cs b a := by
  obtain ⟨c, hc, h | h⟩ := h
  · exact ⟨c, hc, Or.inr ⟨h.2, h.1⟩⟩
  · exact ⟨c, hc, Or.inl ⟨h.2, h.1⟩⟩
inductive Wk (cs : List Cb) (s : Nat) : Nat → Nat → Prop
  | nil : Wk cs s s 0
  | snoc {u t k : Nat} : Wk cs s u k → adj cs u t → Wk cs s t (k + 1)
theorem Wk.cons {cs : List Cb} {r s : Nat} (h : adj cs r s) : ∀ {t k : Nat}, Wk cs s t k → Wk cs r t (k + 1) := by
  intro t k w
  induction w with
  | nil => exact .snoc .nil h
  | snoc _ h2 ih => exact .snoc ih h2
theorem Wk.symm {cs : List Cb} {s : Nat} : ∀ {t k : Nat}, Wk cs s t k → Wk cs t s k := by
  intro t k w
  induction w with
  | nil => exact .nil
  | snoc _ h2 ih => exact Wk.cons (adj_symm h2) ih
theorem Wk.app {cs : List Cb} {s u j : Nat} (h : Wk cs s u j) : ∀ {t k : Nat}, Wk cs u t k → Wk cs s t (j + k) := by
  intro t k w
  induction w with
  | nil => exact h
  | snoc _ h2 ih => exact .snoc ih h2
theorem Wk.mono {cs ds : List Cb} (hm : ∀ c ∈ cs, c ∈ ds) {s : Nat} : ∀ {t k : Nat}, Wk cs s t k → Wk ds s t k := by
  intro t k w
  induction w with
  | nil => exact .nil
  | snoc _ h2 ih => obtain ⟨c, hc, h⟩ := h2; exact .snoc ih ⟨c, hm c hc, h⟩
theorem ex_min {P : Nat → Prop} (h : ∃ k, P k) : ∃ k, P k ∧ ∀ j, P j → k ≤ j := by
  obtain ⟨k, hk⟩ := h
  induction k using Nat.strongRecOn with
  | _ k ih =>
    by_cases hj : ∃ j, j < k ∧ P j
    · obtain ⟨j, hj, hp⟩ := hj; exact ih j hj hp
    · exact ⟨k, hk, fun j hp => Nat.le_of_not_lt fun z => hj ⟨j, z, hp⟩⟩
open Classical in
noncomputable def dst (cs : List Cb) (s t : Nat) : Option Nat := if h : ∃ k, Wk cs s t k then some (Classical.choose (ex_min h)) else none
theorem dst_some {cs : List Cb} {s t d : Nat} : dst cs s t = some d ↔ Wk cs s t d ∧ ∀ k, Wk cs s t k → d ≤ k := by
  unfold dst
  split
  · rename_i h
    have hs := Classical.choose_spec (ex_min h)
    constructor
    · intro e; rw [← Option.some.inj e]; exact hs
    · intro ⟨h1, h2⟩
      have := hs.2 d h1; have := h2 _ hs.1
      rw [show Classical.choose (ex_min h) = d by omega]
  · rename_i h
    exact ⟨fun e => (nomatch e), fun ⟨h1, _⟩ => absurd ⟨d, h1⟩ h⟩
theorem dst_none {cs : List Cb} {s t : Nat} : dst cs s t = none ↔ ∀ k, ¬Wk cs s t k := by
  unfold dst
  split
  · rename_i h
    exact ⟨fun e => (nomatch e), fun h2 => by obtain ⟨k, hk⟩ := h; exact absurd hk (h2 k)⟩
  · rename_i h
    exact ⟨fun _ k hk => h ⟨k, hk⟩, fun _ => rfl⟩
theorem dst_of {cs : List Cb} {s t k : Nat} (h : Wk cs s t k) : ∃ d, d ≤ k ∧ dst cs s t = some d := by
  cases e : dst cs s t with
  | none => exact absurd h (dst_none.mp e k)
  | some d => exact ⟨d, (dst_some.mp e).2 k h, rfl⟩
theorem dst_symm {cs : List Cb} {s t : Nat} : dst cs s t = dst cs t s := by
  cases e : dst cs s t with
  | none => exact (dst_none.mpr fun k hk => dst_none.mp e k hk.symm).symm
  | some d =>
    obtain ⟨h1, h2⟩ := dst_some.mp e
    exact (dst_some.mpr ⟨h1.symm, fun k hk => h2 k hk.symm⟩).symm
/-- what tells the fewest cables -/
structure Crt (cs : List Cb) (s : Nat) (f : Nat → Option Nat) : Prop where
  z : f s = some 0
  up : ∀ a b d, adj cs a b → f a = some d → ∃ e, e ≤ d + 1 ∧ f b = some e
  w : ∀ t d, f t = some d → Wk cs s t d
theorem Crt.is {cs : List Cb} {s : Nat} {f : Nat → Option Nat} (h : Crt cs s f) (t : Nat) : f t = dst cs s t := by
  have up : ∀ {t k : Nat}, Wk cs s t k → ∃ e, e ≤ k ∧ f t = some e := by
    intro t k w
    induction w with
    | nil => exact ⟨0, Nat.le_refl _, h.z⟩
    | snoc _ h2 ih =>
      obtain ⟨e, he, h3⟩ := ih
      obtain ⟨e', he', h4⟩ := h.up _ _ _ h2 h3
      exact ⟨e', by omega, h4⟩
  cases e : f t with
  | none =>
    refine (dst_none.mpr fun k hk => ?_).symm
    obtain ⟨d, _, h2⟩ := up hk
    rw [e] at h2; cases h2
  | some d =>
    refine (dst_some.mpr ⟨h.w t d e, fun k hk => ?_⟩).symm
    obtain ⟨d', h1, h2⟩ := up hk
    rw [e] at h2; cases h2; exact h1
theorem crt_dst {cs : List Cb} {s : Nat} : Crt cs s (dst cs s) where
  z := dst_some.mpr ⟨.nil, fun _ _ => Nat.zero_le _⟩
  up a b d h e := by
    obtain ⟨d', h1, h2⟩ := dst_of (.snoc (dst_some.mp e).1 h)
    exact ⟨d', h1, h2⟩
  w t d e := (dst_some.mp e).1
/-! going round by round -/
def gd (fs : List (Option Nat)) (t : Nat) : Option Nat := fs.getD t none
theorem gd_set {fs : List (Option Nat)} {i : Nat} {x : Option Nat} (h : i < fs.length) (t : Nat) : gd (fs.set i x) t = if t = i then x else gd fs t := by
  unfold gd
  rw [List.getD_eq_getElem?_getD, List.getD_eq_getElem?_getD, List.getElem?_set]
  by_cases e : i = t
  · subst e; simp [h]
  · rw [if_neg e, if_neg fun z => e z.symm]
def nn (fs : List (Option Nat)) : Nat := fs.countP Option.isNone
structure Md (cs : List Cb) (s n r : Nat) (edge : List Nat) (c0 : Nat) (fs : List (Option Nat)) (later : List Nat) (C : Nat → Nat → Prop) : Prop where
  l : fs.length = n
  z : gd fs s = some 0
  w : ∀ t d, gd fs t = some d → Wk cs s t d ∧ d ≤ r + 1
  la : ∀ t, t ∈ later ↔ gd fs t = some (r + 1)
  ed : ∀ t, t ∈ edge ↔ gd fs t = some r
  up : ∀ a b d, C a b → d ≤ r → gd fs a = some d → ∃ e, e ≤ d + 1 ∧ gd fs b = some e
  c : nn fs + later.length = c0
theorem Md.weak {cs : List Cb} {s n r c0 : Nat} {edge : List Nat} {fs : List (Option Nat)} {later : List Nat} {C C' : Nat → Nat → Prop} (h : Md cs s n r edge c0 fs later C) (hC : ∀ a b, C' a b → C a b) : Md cs s n r edge c0 fs later C' :=
  ⟨h.l, h.z, h.w, h.la, h.ed, fun a b d hc => h.up a b d (hC a b hc), h.c⟩
theorem Md.keep {cs : List Cb} {s n r c0 : Nat} {edge : List Nat} {fs : List (Option Nat)} {later : List Nat} {C : Nat → Nat → Prop} (h : Md cs s n r edge c0 fs later C) {x y : Nat} (hx : x ∈ edge) {e : Nat} (hy : gd fs y = some e) :
    Md cs s n r edge c0 fs later (fun a b => C a b ∨ (a = x ∧ b = y)) :=
  ⟨h.l, h.z, h.w, h.la, h.ed, fun a b d hc hr ha => by
    rcases hc with hc | ⟨rfl, rfl⟩
    · exact h.up a b d hc hr ha
    · rw [(h.ed a).mp hx] at ha; cases ha
      exact ⟨e, (h.w _ _ hy).2, hy⟩, h.c⟩
theorem Md.new {cs : List Cb} {s n r c0 : Nat} {edge : List Nat} {fs : List (Option Nat)} {later : List Nat} {C : Nat → Nat → Prop} (h : Md cs s n r edge c0 fs later C) {x y : Nat} (hx : x ∈ edge) (ha : adj cs x y) (hn : y < n) (hy : gd fs y = none) :
    Md cs s n r edge c0 (fs.set y (some (r + 1))) (later ++ [y]) (fun a b => C a b ∨ (a = x ∧ b = y)) := by
  have hl : y < fs.length := by rw [h.l]; exact hn
  have g := fun t => gd_set (x := some (r + 1)) hl t
  have up : ∀ a d, gd fs a = some d → gd (fs.set y (some (r + 1))) a = some d := fun a d e => by
    rw [g, if_neg fun z => ?_]; exact e
    subst z; rw [hy] at e; cases e
  refine ⟨by rw [List.length_set]; exact h.l, up _ _ h.z, fun t d e => ?_, fun t => ?_, fun t => ?_, fun a b d hc hr e => ?_, ?_⟩
  · rw [g] at e
    split at e
    · rename_i ht; subst ht; cases e
      exact ⟨.snoc (h.w _ _ ((h.ed x).mp hx)).1 ha, Nat.le_refl _⟩
    · exact h.w t d e
  · rw [List.mem_append, List.mem_singleton, g]
    split
    · rename_i ht; exact ⟨fun _ => rfl, fun _ => Or.inr ht⟩
    · rename_i ht; rw [h.la t]; exact ⟨fun z => z.resolve_right ht, Or.inl⟩
  · rw [g]
    split
    · rename_i ht; subst ht
      rw [h.ed t, hy]
      exact ⟨fun z => (by cases z), fun z => by have := Option.some.inj z; omega⟩
    · exact h.ed t
  · rw [g] at e
    rcases hc with hc | ⟨rfl, rfl⟩
    · split at e
      · have := Option.some.inj e; omega
      · obtain ⟨e', h1, h2⟩ := h.up a b d hc hr e
        exact ⟨e', h1, up _ _ h2⟩
    · split at e
      · rename_i z; subst z; rw [(h.ed a).mp hx] at hy; cases hy
      · rw [(h.ed a).mp hx] at e; cases e
        exact ⟨r + 1, Nat.le_refl _, by rw [g, if_pos rfl]⟩
  · have hc := h.c
    have hi : fs[y] = none := by unfold gd at hy; rw [List.getD_eq_getElem?_getD, List.getElem?_eq_getElem hl] at hy; exact hy
    unfold nn at hc ⊢
    have hp : 0 < fs.countP Option.isNone := List.countP_pos_iff.mpr ⟨none, hi ▸ List.getElem_mem hl, rfl⟩
    rw [List.countP_set hl, hi, List.length_append, List.length_singleton]
    simp only [Option.isNone_none, Option.isNone_some, if_true]
    simp only [Bool.false_eq_true, if_false]
    omega
theorem Md.start {cs : List Cb} {s n r : Nat} {edge : List Nat} {fs : List (Option Nat)} (hl : fs.length = n) (z : gd fs s = some 0) (w : ∀ t d, gd fs t = some d → Wk cs s t d ∧ d ≤ r) (ed : ∀ t, t ∈ edge ↔ gd fs t = some r) (up : ∀ a b d, adj cs a b → d < r → gd fs a = some d → ∃ e, e ≤ d + 1 ∧ gd fs b = some e) :
    Md cs s n r edge (nn fs) fs [] (fun a b => adj cs a b ∧ a ∉ edge) :=
  ⟨hl, z, fun t d e => ⟨(w t d e).1, by have := (w t d e).2; omega⟩, fun t => ⟨fun z => (by cases z), fun e => by have := (w t _ e).2; omega⟩, ed, fun a b d hc hr e => by
    refine up a b d hc.1 ?_ e
    by_cases h : d = r
    · subst h; exact absurd ((ed a).mpr e) hc.2
    · omega, by rw [List.length_nil]; rfl⟩
/-- what stands between two rounds -/
structure Rd (cs : List Cb) (s n r : Nat) (edge : List Nat) (fs : List (Option Nat)) : Prop where
  l : fs.length = n
  z : gd fs s = some 0
  w : ∀ t d, gd fs t = some d → Wk cs s t d ∧ d ≤ r
  ed : ∀ t, t ∈ edge ↔ gd fs t = some r
  up : ∀ a b d, adj cs a b → d < r → gd fs a = some d → ∃ e, e ≤ d + 1 ∧ gd fs b = some e
theorem Rd.md {cs : List Cb} {s n r : Nat} {edge : List Nat} {fs : List (Option Nat)} (h : Rd cs s n r edge fs) : Md cs s n r edge (nn fs) fs [] (fun a b => adj cs a b ∧ a ∉ edge) :=
  Md.start h.l h.z h.w h.ed h.up
theorem Md.rd {cs : List Cb} {s n r c0 : Nat} {edge : List Nat} {fs : List (Option Nat)} {later : List Nat} {C : Nat → Nat → Prop} (h : Md cs s n r edge c0 fs later C) (hC : ∀ a b, adj cs a b → C a b) : Rd cs s n (r + 1) later fs :=
  ⟨h.l, h.z, h.w, h.la, fun a b d hc hr => h.up a b d (hC a b hc) (by omega)⟩
theorem Rd.first {cs : List Cb} {s n : Nat} (h : s < n) : Rd cs s n 0 [s] ((List.replicate n none).set s (some 0)) := by
  have hl : s < (List.replicate n (none : Option Nat)).length := by rw [List.length_replicate]; exact h
  have g0 : ∀ t, gd (List.replicate n (none : Option Nat)) t = none := fun t => by
    unfold gd; rw [List.getD_eq_getElem?_getD, List.getElem?_replicate]; split <;> rfl
  have g := fun t => gd_set (x := some 0) hl t
  refine ⟨by rw [List.length_set, List.length_replicate], by rw [g, if_pos rfl], fun t d e => ?_, fun t => ?_, fun a b d _ hd => absurd hd (Nat.not_lt_zero d)⟩
  · rw [g] at e
    split at e
    · rename_i z; subst z; cases e; exact ⟨.nil, Nat.le_refl _⟩
    · rw [g0] at e; cases e
  · rw [List.mem_singleton, g]
    split
    · rename_i z; exact ⟨fun _ => rfl, fun _ => z⟩
    · rename_i z; rw [g0]; exact ⟨fun e => absurd e z, fun e => by cases e⟩
theorem Rd.last {cs : List Cb} {s n r : Nat} {fs : List (Option Nat)} (h : Rd cs s n r [] fs) : fs = (List.range n).map (dst cs s) := by
  have c : Crt cs s (gd fs) := by
    refine ⟨h.z, fun a b d ha e => ?_, fun t d e => (h.w t d e).1⟩
    refine h.up a b d ha ?_ e
    have := (h.w a d e).2
    by_cases hd : d = r
    · subst hd; exact absurd ((h.ed a).mpr e) (by simp)
    · omega
  refine List.ext_getElem (by rw [List.length_map, List.length_range]; exact h.l) fun t h1 h2 => ?_
  have := c.is t
  unfold gd at this
  rw [List.getD_eq_getElem?_getD, List.getElem?_eq_getElem h1] at this
  rw [List.getElem_map, List.getElem_range]
  exact this
/-! the cables at a switch -/
def cb (cs : List Cb) (k : Nat) : Cb := cs.getD k (0, 0, 0)
theorem cb_mem {cs : List Cb} {k : Nat} (h : k < cs.length) : cb cs k ∈ cs := by
  unfold cb; rw [List.getD_eq_getElem?_getD, List.getElem?_eq_getElem h]; exact List.getElem_mem h
def hasE (c : Cb) (s : Nat) : Bool := decide (c.1 = s) || decide (c.2.1 = s)
def ends (cs : List Cb) (s : Nat) : List Nat := (List.range cs.length).filter fun k => hasE (cb cs k) s
def far (cs : List Cb) (k s : Nat) : Nat := if s = (cb cs k).1 then (cb cs k).2.1 else (cb cs k).1
theorem ends_lt {cs : List Cb} {s k : Nat} (h : k ∈ ends cs s) : k < cs.length := List.mem_range.mp (List.mem_filter.mp h).1
theorem far_adj {cs : List Cb} {s k : Nat} (h : k ∈ ends cs s) : adj cs s (far cs k s) := by
  have h1 := (List.mem_filter.mp h).2
  refine ⟨cb cs k, cb_mem (ends_lt h), ?_⟩
  unfold far
  unfold hasE at h1
  rw [Bool.or_eq_true, decide_eq_true_eq, decide_eq_true_eq] at h1
  split
  · rename_i z; exact Or.inl ⟨z.symm, rfl⟩
  · rename_i z; exact Or.inr ⟨h1.resolve_left fun e => z e.symm, rfl⟩
theorem adj_far {cs : List Cb} {a b : Nat} (h : adj cs a b) : ∃ k ∈ ends cs a, far cs k a = b := by
  obtain ⟨c, hc, h⟩ := h
  obtain ⟨k, hk, e⟩ := List.getElem_of_mem hc
  have ek : cb cs k = c := by unfold cb; rw [List.getD_eq_getElem?_getD, List.getElem?_eq_getElem hk]; exact e
  refine ⟨k, List.mem_filter.mpr ⟨List.mem_range.mpr hk, ?_⟩, ?_⟩
  · rw [ek]; unfold hasE; rw [Bool.or_eq_true, decide_eq_true_eq, decide_eq_true_eq]
    exact h.imp (·.1) (·.1)
  · unfold far; rw [ek]
    rcases h with ⟨h1, h2⟩ | ⟨h1, h2⟩
    · rw [if_pos h1.symm]; exact h2
    · split
      · rename_i z; rw [← h2, ← z, h1]
      · exact h2
theorem far_lt {cs : List Cb} {n k s : Nat} (h : ∀ c ∈ cs, c.1 < n ∧ c.2.1 < n) (hk : k < cs.length) : far cs k s < n := by
  have := h _ (cb_mem hk)
  unfold far; split
  · exact this.2
  · exact this.1
/-! as data -/
def cbD (c : Cb) : D := .tuple [.int (c.1 : Int), .int (c.2.1 : Int), .int c.2.2]
def netD (rs : List Int) (cs : List Cb) : D := .tuple [.tuple (rs.map .int), .tuple (cs.map cbD)]
def optD : Option Nat → D
  | none => .none
  | some d => .int (d : Int)
theorem optD_none : optD none = .none := rfl
theorem optD_some {d : Nat} : optD (some d) = .int (d : Int) := rfl
theorem at_cb {cs : List Cb} {i : Int} {k : Nat} (e : i = (k : Int)) (h : k < cs.length) : atI (cs.map cbD) i = some (.tuple [.int ((cb cs k).1 : Int), .int ((cb cs k).2.1 : Int), .int (cb cs k).2.2]) := by
  rw [atI_map (j := k) e h]
  unfold cb
  rw [List.getD_eq_getElem?_getD, List.getElem?_eq_getElem h]
  rfl
theorem at_gd {fs : List (Option Nat)} {i : Int} {k : Nat} (e : i = (k : Int)) (h : k < fs.length) : atI (fs.map optD) i = some (optD (gd fs k)) := by
  rw [atI_map (j := k) e h]
  unfold gd
  rw [List.getD_eq_getElem?_getD, List.getElem?_eq_getElem h]
  rfl
theorem isNone_optD {o : Option Nat} : isNone (optD o) = o.isNone := by cases o <;> rfl
theorem any_nats {xs : List Nat} {x : Nat} : ((natD xs).any fun z => PyData.eqv z (.int (x : Int))) = decide (x ∈ xs) := by
  have := Pv.any_ints (ns := xs.map fun (k : Nat) => (k : Int)) (a := (x : Int))
  rw [List.map_map] at this
  unfold natD
  refine this.trans (decide_eq_decide.mpr ?_)
  rw [List.mem_map]
  exact ⟨fun ⟨a, ha, e⟩ => by rw [← Int.ofNat_inj.mp e]; exact ha, fun h => ⟨x, h, rfl⟩⟩
theorem sh_nats {xs : List Nat} : SeqAt.shaped (.list (natD xs)) = true := by
  have := Pv.sh_ints (ns := xs.map fun (k : Nat) => (k : Int))
  rw [List.map_map] at this
  exact this
/-! the least, the greatest, the first place of it -/
def minV (xs : List Int) : Int := (minI xs).getD 0
def maxV (xs : List Int) : Int := (maxI xs).getD 0
theorem minV_spec {xs : List Int} (h : xs ≠ []) : minI xs = some (minV xs) ∧ minV xs ∈ xs ∧ ∀ x ∈ xs, minV xs ≤ x := by
  obtain ⟨x, r, rfl⟩ := List.exists_cons_of_ne_nil h
  have go : ∀ (r : List Int) (x : Int), r.foldl (fun m y => if y < m then y else m) x ∈ x :: r ∧ ∀ y ∈ x :: r, r.foldl (fun m y => if y < m then y else m) x ≤ y := by
    intro r
    induction r with
    | nil => intro x; exact ⟨List.mem_cons_self, fun y hy => by rw [List.mem_singleton.mp hy]; exact Int.le_refl _⟩
    | cons z r ih =>
      intro x
      rw [List.foldl_cons]
      by_cases c : z < x
      · rw [if_pos c]
        obtain ⟨h1, h2⟩ := ih z
        refine ⟨List.mem_cons_of_mem _ h1, fun y hy => ?_⟩
        have h0 := h2 _ List.mem_cons_self
        rcases List.mem_cons.mp hy with e | e
        · omega
        · exact h2 y e
      · rw [if_neg c]
        obtain ⟨h1, h2⟩ := ih x
        refine ⟨?_, fun y hy => ?_⟩
        · rcases List.mem_cons.mp h1 with e | e
          · rw [e]; exact List.mem_cons_self
          · exact List.mem_cons_of_mem _ (List.mem_cons_of_mem _ e)
        · have h0 := h2 _ List.mem_cons_self
          rcases List.mem_cons.mp hy with e | e
          · omega
          · rcases List.mem_cons.mp e with e | e
            · omega
            · exact h2 y (List.mem_cons_of_mem _ e)
  exact ⟨rfl, go r x⟩
theorem maxV_spec {xs : List Int} (h : xs ≠ []) : maxI xs = some (maxV xs) ∧ maxV xs ∈ xs ∧ ∀ x ∈ xs, x ≤ maxV xs := by
  obtain ⟨m, h1, h2, h3⟩ := Pv.maxI_mem h
  have : maxV xs = m := by unfold maxV; rw [h1]; rfl
  rw [this]; exact ⟨h1, h2, h3⟩
def ixV (xs : List Int) (v : Int) : Nat := xs.findIdx fun z => decide (z = v)
theorem index_ints {xs : List D} {ns : List Int} {v : Int} (e : xs = ns.map .int) (h : v ∈ ns) : indexf (.list xs) (.int v) = some (.val (.int (ixV ns v : Nat))) := by
  subst e
  refine indexf_some sh_int Pv.sh_ints ?_
  rw [List.findIdx?_map]
  have : (fun z => PyData.eqv z (PyData.int v)) ∘ PyData.int = fun z => decide (z = v) := funext fun z => eqv_int
  rw [this, List.findIdx?_eq_some_iff_findIdx_eq]
  exact ⟨List.findIdx_lt_length_of_exists ⟨v, h, by simp⟩, rfl⟩
theorem natD_snoc {xs : List Nat} {x : Nat} : natD xs ++ [.int (x : Int)] = natD (xs ++ [x]) := by unfold natD; rw [List.map_append]; rfl
/-! rows of unlike lengths -/
theorem alike_any : ∀ (xs ys : List Int), PySem.W.alikeAll (xs.map .int) (ys.map .int) = true
  | [], _ => by simp [PySem.W.alikeAll]
  | x :: xs, [] => by simp [PySem.W.alikeAll]
  | x :: xs, y :: ys => by simp [PySem.W.alikeAll, PySem.W.alike, alike_any xs ys]
theorem sortB_ne {xss : List (List Int)} (h : ∀ x ∈ xss, x ≠ []) : sortB (xss.map tpI) = true := by
  have ht : tupsB (xss.map tpI) = true := by
    unfold tupsB
    rw [List.all_eq_true]
    intro x hx
    obtain ⟨a, ha, rfl⟩ := List.mem_map.mp hx
    have hl := h a ha
    cases a with
    | nil => exact absurd rfl hl
    | cons z r => rfl
  have ha : alikeB (xss.map tpI) = true := by
    unfold alikeB
    rw [List.all_eq_true]
    intro x hx
    rw [List.all_eq_true]
    intro y hy
    obtain ⟨a, ha, rfl⟩ := List.mem_map.mp hx
    obtain ⟨b, hb, rfl⟩ := List.mem_map.mp hy
    have := alike_any a b
    simpa [PySem.W.alike] using this
  have := dep_rows xss
  unfold sortB
  rw [ha, ht, lay_rows]
  simp
  omega
theorem sortrows_ne {xs : List D} {xss : List (List Int)} (e : xs = xss.map tpI) (h : ∀ x ∈ xss, x ≠ []) : sortedf (.list xs) = some (.new (.lst ((sortL xss).map tpI))) := by
  subst e
  cases xss with
  | nil =>
    have e : sortL [] = [] := by unfold sortL; simp
    rw [e]; rfl
  | cons x r => rw [sortd_some rfl (sortB_ne h), map_tpI]
theorem sortL_is {xs ys : List (List Int)} (hp : xs.Perm ys) (hy : ys.Pairwise (· < ·)) : sortL xs = ys := by
  have p := (sortL_perm xs).trans hp
  have hn : (sortL xs).Nodup := p.nodup_iff.mpr (List.Pairwise.imp (S := (· ≠ ·)) (fun {a b} (h : a < b) (e : a = b) => List.lt_irrefl b (e ▸ h)) hy)
  refine strict_eq (R := (· < ·)) (fun a => List.lt_irrefl a) (fun a b h1 h2 => List.lt_asymm h1 h2) p (((sortL_sorted xs).and hn).imp fun h => (List.le_iff_lt_or_eq.mp h.1).resolve_right h.2) hy
theorem row_lt_hd {a b : Int} {r s : List Int} (h : a < b) : (a :: r : List Int) < b :: s := List.cons_lt_cons_iff.mpr (Or.inl h)
/-! the parts -/
noncomputable def comp (n : Nat) (cs : List Cb) (s : Nat) : List Nat := (List.range n).filter fun t => (dst cs s t).isSome
noncomputable def partsP (n : Nat) (cs : List Cb) : List (List Nat) := ((List.range n).filter fun s => (comp n cs s).head? == some s).map (comp n cs)
theorem comp_self {n : Nat} {cs : List Cb} {s : Nat} (h : s < n) : s ∈ comp n cs s :=
  List.mem_filter.mpr ⟨List.mem_range.mpr h, by rw [crt_dst.z]; rfl⟩
theorem range_cut {n a b : Nat} (h : a ≤ b) (hb : b ≤ n) : (List.range n).filter (fun x => decide (a ≤ x ∧ x < b)) = List.range' a (b - a) := by
  have e : List.range n = List.range' 0 a ++ (List.range' a (b - a) ++ List.range' b (n - b)) := by
    have h1 : List.range' a (b - a) ++ List.range' b (n - b) = List.range' a (n - a) := by
      have := List.range'_append_1 (s := a) (m := b - a) (n := n - b)
      rw [show a + (b - a) = b by omega] at this
      rw [this]; congr 1; omega
    have h2 := List.range'_append_1 (s := 0) (m := a) (n := n - a)
    rw [Nat.zero_add] at h2
    rw [h1, h2, List.range_eq_range', show a + (n - a) = n by omega]
  rw [e, List.filter_append, List.filter_append]
  have f1 : (List.range' 0 a).filter (fun x => decide (a ≤ x ∧ x < b)) = [] := List.filter_eq_nil_iff.mpr fun x hx => by
    have := (List.mem_range'_1.mp hx); simp; omega
  have f3 : (List.range' b (n - b)).filter (fun x => decide (a ≤ x ∧ x < b)) = [] := List.filter_eq_nil_iff.mpr fun x hx => by
    have := (List.mem_range'_1.mp hx); simp; omega
  have f2 : (List.range' a (b - a)).filter (fun x => decide (a ≤ x ∧ x < b)) = List.range' a (b - a) := List.filter_eq_self.mpr fun x hx => by
    have := (List.mem_range'_1.mp hx); simp; omega
  rw [f1, f2, f3, List.nil_append, List.append_nil]
structure Nok (n : Nat) (cs : List Cb) : Prop where
  e : ∀ c ∈ cs, c.1 < n ∧ c.2.1 < n
  l : cs.length ≤ 100000
  n : n ≤ 400
end Nw

namespace Nw
open PySem PySem.Spec PyProof.Rows L2 Pv
/-! ### nets: hanging together -/
def con (cs : List Cb) (s t : Nat) : Prop := ∃ k, Wk cs s t k
theorem con_dst {cs : List Cb} {s t : Nat} : (dst cs s t).isSome = true ↔ con cs s t := by
  constructor
  · intro h
    obtain ⟨d, e⟩ := Option.isSome_iff_exists.mp h
    exact ⟨d, (dst_some.mp e).1⟩
  · intro ⟨k, h⟩
    obtain ⟨d, _, e⟩ := dst_of h
    rw [e]; rfl
theorem con_refl {cs : List Cb} {s : Nat} : con cs s s := ⟨0, .nil⟩
theorem con_symm {cs : List Cb} {s t : Nat} (h : con cs s t) : con cs t s := by obtain ⟨k, h⟩ := h; exact ⟨k, h.symm⟩
theorem con_trans {cs : List Cb} {s t u : Nat} (h : con cs s t) (h2 : con cs t u) : con cs s u := by
  obtain ⟨k, h⟩ := h; obtain ⟨l, h2⟩ := h2; exact ⟨_, h.app h2⟩
theorem con_adj {cs : List Cb} {s t : Nat} (h : adj cs s t) : con cs s t := ⟨1, .snoc .nil h⟩
theorem con_mono {cs ds : List Cb} (hm : ∀ c ∈ cs, c ∈ ds) {s t : Nat} (h : con cs s t) : con ds s t := by obtain ⟨k, h⟩ := h; exact ⟨k, h.mono hm⟩
theorem con_lt {n : Nat} {cs : List Cb} (he : ∀ c ∈ cs, c.1 < n ∧ c.2.1 < n) {s t : Nat} (hs : s < n) (h : con cs s t) : t < n := by
  obtain ⟨k, h⟩ := h
  cases h with
  | nil => exact hs
  | snoc _ h2 =>
    obtain ⟨c, hc, h⟩ := h2
    have := he c hc
    rcases h with h | h <;> omega
/-- one cable more -/
theorem con_more {cs ds : List Cb} {a b : Nat} {w : Int} (hm : ∀ c, c ∈ ds ↔ c ∈ cs ∨ c = (a, b, w)) {s t : Nat} : con ds s t ↔ con cs s t ∨ (con cs s a ∧ con cs b t) ∨ (con cs s b ∧ con cs a t) := by
  constructor
  · intro ⟨k, h⟩
    induction h with
    | nil => exact Or.inl con_refl
    | snoc _ h2 ih =>
      obtain ⟨c, hc, h⟩ := h2
      rcases (hm c).mp hc with hc | rfl
      · have e := con_adj ⟨c, hc, h⟩
        rcases ih with i | ⟨i, j⟩ | ⟨i, j⟩
        · exact Or.inl (con_trans i e)
        · exact Or.inr (Or.inl ⟨i, con_trans j e⟩)
        · exact Or.inr (Or.inr ⟨i, con_trans j e⟩)
      · rcases h with ⟨h1, h2⟩ | ⟨h1, h2⟩
        · have h1 : a = _ := h1
          have h2 : b = _ := h2
          subst h1 h2
          rcases ih with i | ⟨i, j⟩ | ⟨i, j⟩
          · exact Or.inr (Or.inl ⟨i, con_refl⟩)
          · exact Or.inr (Or.inl ⟨i, con_refl⟩)
          · exact Or.inl i
        · have h1 : b = _ := h1
          have h2 : a = _ := h2
          subst h1 h2
          rcases ih with i | ⟨i, j⟩ | ⟨i, j⟩
          · exact Or.inr (Or.inr ⟨i, con_refl⟩)
          · exact Or.inl i
          · exact Or.inr (Or.inr ⟨i, con_refl⟩)
  · have hs : ∀ {x y}, con cs x y → con ds x y := fun h => con_mono (fun c hc => (hm c).mpr (Or.inl hc)) h
    have hab : con ds a b := con_adj ⟨(a, b, w), (hm _).mpr (Or.inr rfl), Or.inl ⟨rfl, rfl⟩⟩
    rintro (h | ⟨h, h2⟩ | ⟨h, h2⟩)
    · exact hs h
    · exact con_trans (hs h) (con_trans hab (hs h2))
    · exact con_trans (hs h) (con_trans (con_symm hab) (hs h2))
theorem mem_comp {n : Nat} {cs : List Cb} {s t : Nat} : t ∈ comp n cs s ↔ t < n ∧ con cs s t := by
  unfold comp
  rw [List.mem_filter, List.mem_range, con_dst]
theorem comp_asc {n : Nat} {cs : List Cb} {s : Nat} : (comp n cs s).Pairwise (· < ·) := by unfold comp; exact List.Pairwise.filter _ List.pairwise_lt_range
/-- the least of its part -/
def isRep (cs : List Cb) (s : Nat) : Prop := ∀ t, t < s → ¬con cs s t
open Classical in
theorem rep_head {n : Nat} {cs : List Cb} {s : Nat} (hs : s < n) : ((comp n cs s).head? == some s) = decide (isRep cs s) := by
  have hm : s ∈ comp n cs s := comp_self hs
  have ha := comp_asc (n := n) (cs := cs) (s := s)
  rw [Bool.eq_iff_iff, beq_iff_eq, decide_eq_true_eq]
  constructor
  · intro e t ht hc
    have h2 : t ∈ comp n cs s := mem_comp.mpr ⟨by omega, hc⟩
    cases h : comp n cs s with
    | nil => rw [h] at hm; cases hm
    | cons z r =>
      rw [h] at e h2 ha
      have e : z = s := Option.some.inj e
      subst e
      rcases List.mem_cons.mp h2 with rfl | h2
      · omega
      · have := (List.pairwise_cons.mp ha).1 t h2; omega
  · intro hr
    cases h : comp n cs s with
    | nil => rw [h] at hm; cases hm
    | cons z r =>
      rw [h] at hm ha
      rcases List.mem_cons.mp hm with rfl | hm
      · rfl
      · have h1 := (List.pairwise_cons.mp ha).1 s hm
        exact absurd (mem_comp.mp (h ▸ List.mem_cons_self)).2 (hr z h1)
open Classical in
noncomputable def reps (n : Nat) (cs : List Cb) : List Nat := (List.range n).filter fun s => decide (isRep cs s)
theorem parts_reps {n : Nat} {cs : List Cb} : partsP n cs = (reps n cs).map (comp n cs) := by
  unfold partsP reps
  congr 1
  exact List.filter_congr fun s hs => rep_head (List.mem_range.mp hs)
theorem rep_of {cs : List Cb} (s : Nat) : ∃ r, r ≤ s ∧ con cs s r ∧ isRep cs r := by
  obtain ⟨r, h1, h2⟩ := ex_min (P := fun r => con cs s r) ⟨s, con_refl⟩
  refine ⟨r, h2 s con_refl, h1, fun t ht hc => ?_⟩
  have := h2 t (con_trans h1 hc); omega
theorem rep_eq {cs : List Cb} {r t : Nat} (h1 : isRep cs r) (h2 : isRep cs t) (h : con cs r t) : r = t := by
  have a1 : ¬t < r := fun z => h1 t z h
  have a2 : ¬r < t := fun z => h2 r z (con_symm h)
  omega
/-- as many parts less as a cable more joins -/
theorem reps_more {n : Nat} {cs ds : List Cb} {a b : Nat} {w : Int} (hm : ∀ c, c ∈ ds ↔ c ∈ cs ∨ c = (a, b, w)) (ha : a < n) (hb : b < n) : (reps n cs).length = (reps n ds).length + (if (dst cs a b).isSome then 0 else 1) := by
  classical
  have up : ∀ {x y}, con cs x y → con ds x y := fun h => (con_more hm).mpr (Or.inl h)
  by_cases hc : con cs a b
  · rw [if_pos (con_dst.mpr hc)]
    have : ∀ s t, con ds s t ↔ con cs s t := fun s t => by
      rw [con_more hm]
      refine ⟨?_, Or.inl⟩
      rintro (h | ⟨h, h2⟩ | ⟨h, h2⟩)
      · exact h
      · exact con_trans h (con_trans hc h2)
      · exact con_trans h (con_trans (con_symm hc) h2)
    have : reps n cs = reps n ds := by
      unfold reps
      refine List.filter_congr fun s _ => decide_eq_decide.mpr ?_
      unfold isRep
      simp only [this]
    rw [this]; rfl
  · rw [if_neg fun z => hc (con_dst.mp z)]
    obtain ⟨ra, hra, ca, ia⟩ := rep_of (cs := cs) a
    obtain ⟨rb, hrb, cb', ib⟩ := rep_of (cs := cs) b
    have hne : ra ≠ rb := fun z => hc (con_trans ca (z ▸ con_symm cb'))
    have key : ∀ x y, x < n → y < n → isRep cs x → isRep cs y → x < y → con ds x y → (∀ s t, con ds s t ↔ con cs s t ∨ (con cs s x ∧ con cs y t) ∨ (con cs s y ∧ con cs x t)) → (reps n cs).length = (reps n ds).length + 1 := by
      intro x y hx hy ix iy hxy hcd hall
      have e : ∀ s, isRep ds s ↔ isRep cs s ∧ s ≠ y := by
        intro s
        constructor
        · intro h
          refine ⟨fun t ht hct => h t ht (up hct), fun z => ?_⟩
          subst z
          exact h x hxy (con_symm hcd)
        · rintro ⟨h, hsy⟩ t ht hct
          rcases (hall s t).mp hct with h1 | ⟨h1, h2⟩ | ⟨h1, h2⟩
          · exact h t ht h1
          · have := rep_eq h ix h1
            subst this
            have a1 : ¬t < y := fun z => iy t z h2
            omega
          · exact hsy (rep_eq h iy h1)
      have e2 : reps n ds = (reps n cs).filter fun s => decide (s ≠ y) := by
        unfold reps
        rw [List.filter_filter]
        refine List.filter_congr fun s _ => ?_
        rw [Bool.eq_iff_iff, Bool.and_eq_true, decide_eq_true_eq, decide_eq_true_eq, decide_eq_true_eq, e s]
        exact and_comm
      have hmem : y ∈ reps n cs := by
        unfold reps
        exact List.mem_filter.mpr ⟨List.mem_range.mpr hy, decide_eq_true iy⟩
      have hnd : (reps n cs).Nodup := by
        unfold reps
        exact List.Pairwise.filter _ List.nodup_range
      rw [e2]
      have : ∀ l : List Nat, l.Nodup → y ∈ l → l.length = (l.filter fun s => decide (s ≠ y)).length + 1 := by
        intro l
        induction l with
        | nil => intro _ h; cases h
        | cons z r ih =>
          intro hn hm
          obtain ⟨h1, h2⟩ := List.nodup_cons.mp hn
          by_cases hz : z = y
          · subst hz
            rw [List.filter_cons, if_neg (by simp), List.filter_eq_self.mpr fun q hq => by
              have : q ≠ z := fun e => h1 (e ▸ hq)
              simpa using this]
            rfl
          · rw [List.filter_cons, if_pos (by simpa using hz), List.length_cons, List.length_cons, ih h2 ((List.mem_cons.mp hm).resolve_left fun e => hz e.symm)]
      exact this _ hnd hmem
    have hab := con_more hm (s := a) (t := b)
    have cd : con ds ra rb := con_trans (con_symm (up ca)) (con_trans (hab.mpr (Or.inr (Or.inl ⟨con_refl, con_refl⟩))) (up cb'))
    have hA : ∀ s, con cs s a ↔ con cs s ra := fun s => ⟨fun h => con_trans h ca, fun h => con_trans h (con_symm ca)⟩
    have hB : ∀ s, con cs s b ↔ con cs s rb := fun s => ⟨fun h => con_trans h cb', fun h => con_trans h (con_symm cb')⟩
    have hA' : ∀ s, con cs a s ↔ con cs ra s := fun s => ⟨fun h => con_trans (con_symm ca) h, fun h => con_trans ca h⟩
    have hB' : ∀ s, con cs b s ↔ con cs rb s := fun s => ⟨fun h => con_trans (con_symm cb') h, fun h => con_trans cb' h⟩
    have hall : ∀ s t, con ds s t ↔ con cs s t ∨ (con cs s ra ∧ con cs rb t) ∨ (con cs s rb ∧ con cs ra t) := fun s t => by
      rw [con_more hm, hA, hB, hA', hB']
    rcases Nat.lt_or_gt_of_ne hne with h | h
    · exact key ra rb (by omega) (by omega) ia ib h cd hall
    · exact key rb ra (by omega) (by omega) ib ia h (con_symm cd) fun s t => by
        rw [hall s t]
        exact or_congr Iff.rfl or_comm
/-! the fewest cables are fewer than the switches -/
theorem dst_step {cs : List Cb} {s t d : Nat} (h : dst cs s t = some (d + 1)) : ∃ u, dst cs s u = some d ∧ adj cs u t := by
  obtain ⟨h1, h2⟩ := dst_some.mp h
  cases h1 with
  | snoc w a =>
    rename_i u
    refine ⟨u, dst_some.mpr ⟨w, fun k hk => ?_⟩, a⟩
    have := h2 _ (.snoc hk a); omega
theorem dst_lt {n : Nat} {cs : List Cb} (he : ∀ c ∈ cs, c.1 < n ∧ c.2.1 < n) {s t d : Nat} (hs : s < n) (h : dst cs s t = some d) : d < n := by
  have lvl : ∀ d t, dst cs s t = some d → ∃ l : List Nat, l.length = d + 1 ∧ l.Nodup ∧ ∀ x ∈ l, x < n ∧ ∃ e, e ≤ d ∧ dst cs s x = some e := by
    intro d
    induction d with
    | zero =>
      intro t h
      exact ⟨[t], rfl, by simp, fun x hx => by
        rw [List.mem_singleton.mp hx]
        exact ⟨con_lt he hs ⟨_, (dst_some.mp h).1⟩, 0, Nat.le_refl _, h⟩⟩
    | succ d ih =>
      intro t h
      obtain ⟨u, hu, _⟩ := dst_step h
      obtain ⟨l, h1, h2, h3⟩ := ih u hu
      refine ⟨t :: l, by rw [List.length_cons, h1], List.nodup_cons.mpr ⟨fun z => ?_, h2⟩, fun x hx => ?_⟩
      · obtain ⟨_, e, he', h4⟩ := h3 t z
        rw [h] at h4
        have := Option.some.inj h4; omega
      · rcases List.mem_cons.mp hx with rfl | hx
        · exact ⟨con_lt he hs ⟨_, (dst_some.mp h).1⟩, d + 1, Nat.le_refl _, h⟩
        · obtain ⟨h4, e, h5, h6⟩ := h3 x hx
          exact ⟨h4, e, by omega, h6⟩
  obtain ⟨l, h1, h2, h3⟩ := lvl d t h
  have := nodup_le (ys := List.range n) h2 fun x hx => List.mem_range.mpr (h3 x hx).1
  rw [List.length_range] at this
  omega
theorem r_ins {xs : List D} {i : Int} {d : D} {R : K2 Mo D} (h : xs.length < line ∧ 0 ≤ i ∧ i < 2 ^ 62) : @Wmmi .insert (.lst xs) [.int i, d] R ↔ R.k (.lst (xs.take i.toNat ++ [d] ++ xs.drop i.toNat)) .none := by
  have e : mmf .insert (.lst xs) [.int i, d] = some (.lst (xs.take i.toNat ++ [d] ++ xs.drop i.toNat), .none) := if_pos h
  constructor
  · rintro ⟨mo, e', h, q⟩
    rw [e] at h
    cases h; exact q
  · intro q
    exact ⟨_, _, e, q⟩
theorem mem_ins {α : Type} {xs : List α} {k : Nat} {x y : α} : y ∈ xs.take k ++ [x] ++ xs.drop k ↔ y = x ∨ y ∈ xs := by
  rw [List.mem_append, List.mem_append, List.mem_singleton]
  have : y ∈ xs ↔ y ∈ xs.take k ∨ y ∈ xs.drop k := by rw [← List.mem_append, List.take_append_drop]
  rw [this]
  constructor
  · rintro ((h | h) | h)
    · exact Or.inr (Or.inl h)
    · exact Or.inl h
    · exact Or.inr (Or.inr h)
  · rintro (h | h | h)
    · exact Or.inl (Or.inr h)
    · exact Or.inl (Or.inl h)
    · exact Or.inr h
theorem len_ins {α : Type} {xs : List α} {k : Nat} {x : α} : (xs.take k ++ [x] ++ xs.drop k).length = xs.length + 1 := by
  rw [List.length_append, List.length_append, List.length_take, List.length_drop, List.length_singleton]; omega
theorem nodup_ins {α : Type} {xs : List α} {k : Nat} {x : α} (h : xs.Nodup) (hx : x ∉ xs) : (xs.take k ++ [x] ++ xs.drop k).Nodup := by
  have p : (xs.take k ++ [x] ++ xs.drop k).Perm (x :: xs) := by
    rw [List.append_assoc]
    refine (List.perm_middle (a := x) (l₁ := xs.take k) (l₂ := xs.drop k)).trans ?_
    rw [List.take_append_drop]
  exact p.nodup_iff.mpr (List.nodup_cons.mpr ⟨hx, h⟩)
/-- a net as the laws draw them -/
structure Gn (sw many : Nat) (rs : List Int) (cs : List Cb) : Prop where
  lr : rs.length = sw
  nd : rs.Nodup
  br : ∀ r ∈ rs, Bnd r 120
  lc : cs.length ≤ many
  l0 : sw ≤ 1 → cs = []
  e : ∀ c ∈ cs, c.1 < sw ∧ c.2.1 < sw ∧ c.1 ≠ c.2.1 ∧ 1 ≤ c.2.2 ∧ Bnd c.2.2 100
theorem Gn.nok {sw many : Nat} {rs : List Int} {cs : List Cb} (h : Gn sw many rs cs) (h1 : sw ≤ 400) (h2 : many ≤ 100000) : Nok rs.length cs :=
  ⟨fun c hc => by rw [h.lr]; exact ⟨(h.e c hc).1, (h.e c hc).2.1⟩, Nat.le_trans h.lc h2, by rw [h.lr]; exact h1⟩
theorem pk3 {a b c u : Int} {P : Int → Prop} (h0 : 0 ≤ u) (h1 : u < 3) (ha : P a) (hb : P b) (hc : P c) : ∃ d, atI [PyData.int a, .int b, .int c] u = some (.int d) ∧ P d := by
  have : u = 0 ∨ u = 1 ∨ u = 2 := by omega
  rcases this with rfl | rfl | rfl
  · exact ⟨a, rfl, ha⟩
  · exact ⟨b, rfl, hb⟩
  · exact ⟨c, rfl, hc⟩
theorem pk4 {a b c d u : Int} {P : Int → Prop} (h0 : 0 ≤ u) (h1 : u < 4) (ha : P a) (hb : P b) (hc : P c) (hd : P d) : ∃ e, atI [PyData.int a, .int b, .int c, .int d] u = some (.int e) ∧ P e := by
  have : u = 0 ∨ u = 1 ∨ u = 2 ∨ u = 3 := by omega
  rcases this with rfl | rfl | rfl | rfl
  · exact ⟨a, rfl, ha⟩
  · exact ⟨b, rfl, hb⟩
  · exact ⟨c, rfl, hc⟩
  · exact ⟨d, rfl, hd⟩
theorem pkE {x y n : Nat} {u : Int} (h0 : 0 ≤ u) (h1 : u < 2) (hx : x < n) (hy : y < n) (hne : x ≠ y) : ∃ p q : Nat, atI [PyData.tuple [.int (x : Int), .int (y : Int)], .tuple [.int (y : Int), .int (x : Int)]] u = some (.tuple [.int (p : Int), .int (q : Int)]) ∧ p < n ∧ q < n ∧ p ≠ q := by
  have : u = 0 ∨ u = 1 := by omega
  rcases this with rfl | rfl
  · exact ⟨x, y, rfl, hx, hy, hne⟩
  · exact ⟨y, x, rfl, hy, hx, fun z => hne z.symm⟩
theorem cost_ok {b c : Int} (h1 : 1 ≤ b) (h2 : b ≤ 100000000000000000001) (c0 : 0 ≤ c) (c1 : c < 20) : 1 ≤ b * (1 + c) ∧ Bnd (b * (1 + c)) 100 := by
  have l1 : 1 * (1 + c) ≤ b * (1 + c) := Int.mul_le_mul_of_nonneg_right h1 (by omega)
  have l2 : b * (1 + c) ≤ 100000000000000000001 * (1 + c) := Int.mul_le_mul_of_nonneg_right h2 (by omega)
  have e100 : (2 : Nat) ^ 100 = 1267650600228229401496703205376 := by decide
  refine ⟨by omega, ?_⟩
  unfold Bnd
  rw [e100]
  omega
theorem at_hd {d : D} {r : List D} : atI (d :: r) 0 = some d := by
  have := atI_map (f := fun x : D => x) (xs := d :: r) (i := 0) (j := 0) rfl (Nat.zero_lt_succ _)
  rw [List.map_id'] at this
  exact this
end Nw

namespace Nw
open PySem PySem.Spec PyProof.Rows L2 Pv
/-! ### all cables again and again -/
def rx (fs : List (Option Nat)) (a b : Nat) : List (Option Nat) := match gd fs a with
  | none => fs
  | some d => match gd fs b with
    | none => fs.set b (some (d + 1))
    | some e => if d + 1 < e then fs.set b (some (d + 1)) else fs
theorem rx_len {fs : List (Option Nat)} {a b : Nat} : (rx fs a b).length = fs.length := by
  unfold rx
  split
  · rfl
  · split
    · rw [List.length_set]
    · split
      · rw [List.length_set]
      · rfl
/-- what a turn brings -/
theorem rx_spec {fs : List (Option Nat)} {a b : Nat} (hb : b < fs.length) :
    (∀ t e, gd fs t = some e → ∃ e', e' ≤ e ∧ gd (rx fs a b) t = some e') ∧ (∀ d, gd fs a = some d → ∃ e, e ≤ d + 1 ∧ gd (rx fs a b) b = some e) ∧ (∀ t e, gd (rx fs a b) t = some e → gd fs t = some e ∨ (t = b ∧ ∃ d, gd fs a = some d ∧ e = d + 1)) := by
  have g := fun (x : Option Nat) t => gd_set (x := x) hb t
  unfold rx
  cases ha : gd fs a with
  | none => exact ⟨fun t e h => ⟨e, Nat.le_refl _, h⟩, fun d h => (by cases h), fun t e h => Or.inl h⟩
  | some d =>
    cases hb' : gd fs b with
    | none =>
      simp only
      refine ⟨fun t e h => ⟨e, Nat.le_refl _, ?_⟩, fun d' h => ⟨d + 1, by cases h; exact Nat.le_refl _, by rw [g, if_pos rfl]⟩, fun t e h => ?_⟩
      · rw [g, if_neg fun z => by subst z; rw [hb'] at h; cases h]; exact h
      · rw [g] at h
        split at h
        · rename_i z; cases h; exact Or.inr ⟨z, d, rfl, rfl⟩
        · exact Or.inl h
    | some e0 =>
      simp only
      split
      · rename_i hlt
        refine ⟨fun t e h => ?_, fun d' h => ⟨d + 1, by cases h; exact Nat.le_refl _, by rw [g, if_pos rfl]⟩, fun t e h => ?_⟩
        · rw [g]
          split
          · rename_i z; subst z; rw [hb'] at h; cases h; exact ⟨_, by omega, rfl⟩
          · exact ⟨e, Nat.le_refl _, h⟩
        · rw [g] at h
          split at h
          · rename_i z; cases h; exact Or.inr ⟨z, d, rfl, rfl⟩
          · exact Or.inl h
      · exact ⟨fun t e h => ⟨e, Nat.le_refl _, h⟩, fun d' h => ⟨e0, by cases h; omega, hb'⟩, fun t e h => Or.inl h⟩
structure Bf (cs : List Cb) (s n r : Nat) (fs : List (Option Nat)) (C : Nat → Nat → Prop) : Prop where
  l : fs.length = n
  w : ∀ t d, gd fs t = some d → Wk cs s t d
  k : ∀ t k, k ≤ r → Wk cs s t k → ∃ e, e ≤ k ∧ gd fs t = some e
  c : ∀ a b k, C a b → k ≤ r → Wk cs s a k → ∃ e, e ≤ k + 1 ∧ gd fs b = some e
theorem Bf.step {cs : List Cb} {s n r : Nat} {fs : List (Option Nat)} {C : Nat → Nat → Prop} (h : Bf cs s n r fs C) {a b : Nat} (ha : adj cs a b) (hb : b < n) : Bf cs s n r (rx fs a b) (fun x y => C x y ∨ (x = a ∧ y = b)) := by
  obtain ⟨h1, h2, h3⟩ := rx_spec (fs := fs) (a := a) (b := b) (by rw [h.l]; exact hb)
  refine ⟨by rw [rx_len]; exact h.l, fun t d e => ?_, fun t k hk w => ?_, fun x y k hc hk w => ?_⟩
  · rcases h3 t d e with e2 | ⟨rfl, d', e2, rfl⟩
    · exact h.w t d e2
    · exact .snoc (h.w _ _ e2) ha
  · obtain ⟨e, he, g⟩ := h.k t k hk w
    obtain ⟨e', he', g'⟩ := h1 t e g
    exact ⟨e', by omega, g'⟩
  · rcases hc with hc | ⟨rfl, rfl⟩
    · obtain ⟨e, he, g⟩ := h.c x y k hc hk w
      obtain ⟨e', he', g'⟩ := h1 y e g
      exact ⟨e', by omega, g'⟩
    · obtain ⟨e, he, g⟩ := h.k x k hk w
      obtain ⟨e', he', g'⟩ := h2 e g
      exact ⟨e', by omega, g'⟩
theorem Bf.weak {cs : List Cb} {s n r : Nat} {fs : List (Option Nat)} {C C' : Nat → Nat → Prop} (h : Bf cs s n r fs C) (hC : ∀ a b, C' a b → C a b) : Bf cs s n r fs C' :=
  ⟨h.l, h.w, h.k, fun a b k hc => h.c a b k (hC a b hc)⟩
theorem Bf.next {cs : List Cb} {s n r : Nat} {fs : List (Option Nat)} {C : Nat → Nat → Prop} (h : Bf cs s n r fs C) (hC : ∀ a b, adj cs a b → C a b) : Bf cs s n (r + 1) fs (fun _ _ => False) :=
  ⟨h.l, h.w, fun t k hk w => by
    by_cases hr : k ≤ r
    · exact h.k t k hr w
    · have : k = r + 1 := by omega
      subst this
      cases w with
      | snoc w a => exact h.c _ _ r (hC _ _ a) (Nat.le_refl _) w, fun _ _ _ hc => hc.elim⟩
theorem Bf.first {cs : List Cb} {s n : Nat} (h : s < n) : Bf cs s n 0 ((List.replicate n none).set s (some 0)) (fun _ _ => False) := by
  have R := Rd.first (cs := cs) h
  exact ⟨R.l, fun t d e => (R.w t d e).1, fun t k hk w => by
    have : k = 0 := by omega
    subst this
    cases w with
    | nil => exact ⟨0, Nat.le_refl _, R.z⟩, fun _ _ _ hc => hc.elim⟩
theorem Bf.last {cs : List Cb} {s n : Nat} {fs : List (Option Nat)} {C : Nat → Nat → Prop} (he : ∀ c ∈ cs, c.1 < n ∧ c.2.1 < n) (hs : s < n) (h : Bf cs s n n fs C) : fs = (List.range n).map (dst cs s) := by
  refine List.ext_getElem (by rw [List.length_map, List.length_range]; exact h.l) fun t h1 h2 => ?_
  have e : gd fs t = fs[t] := by unfold gd; rw [List.getD_eq_getElem?_getD, List.getElem?_eq_getElem h1]; rfl
  rw [List.getElem_map, List.getElem_range, ← e]
  cases hd : dst cs s t with
  | none =>
    cases hg : gd fs t with
    | none => rfl
    | some d => exact absurd (h.w t d hg) (dst_none.mp hd d)
  | some d =>
    obtain ⟨w, mn⟩ := dst_some.mp hd
    obtain ⟨e', he', g⟩ := h.k t d (Nat.le_of_lt (dst_lt he hs hd)) w
    have := mn _ (h.w t e' g)
    rw [g, show e' = d by omega]
/-! ### groups that become one -/
structure Gp (n : Nat) (cs : List Cb) (gs : List (List Nat)) : Prop where
  ne : ∀ g ∈ gs, g ≠ []
  nd : ∀ g ∈ gs, g.Nodup
  cl : ∀ g ∈ gs, ∀ x ∈ g, x < n ∧ ∀ y, y ∈ g ↔ y < n ∧ con cs x y
  cv : ∀ x, x < n → ∃ g ∈ gs, x ∈ g
  dj : gs.Pairwise fun g h => ∀ x ∈ g, x ∉ h
theorem con_nil {x y : Nat} : con [] x y ↔ y = x := by
  constructor
  · intro ⟨k, h⟩
    cases h with
    | nil => rfl
    | snoc _ h2 => obtain ⟨c, hc, _⟩ := h2; cases hc
  · rintro rfl; exact con_refl
theorem Gp.start {n : Nat} : Gp n [] ((List.range n).map fun x => [x]) where
  ne g hg := by obtain ⟨x, _, rfl⟩ := List.mem_map.mp hg; simp
  nd g hg := by obtain ⟨x, _, rfl⟩ := List.mem_map.mp hg; simp
  cl g hg x hx := by
    obtain ⟨z, hz, rfl⟩ := List.mem_map.mp hg
    have hx := List.mem_singleton.mp hx
    subst hx
    have hz := List.mem_range.mp hz
    refine ⟨hz, fun y => ?_⟩
    rw [con_nil, List.mem_singleton]
    exact ⟨fun e => ⟨by omega, e⟩, fun e => e.2⟩
  cv x hx := ⟨[x], List.mem_map.mpr ⟨x, List.mem_range.mpr hx, rfl⟩, List.mem_singleton.mpr rfl⟩
  dj := by
    rw [List.pairwise_map]
    refine List.pairwise_lt_range.imp fun h x hx hy => ?_
    rw [List.mem_singleton] at hx hy
    omega
def fst (gs : List (List Nat)) (a : Nat) : List Nat := (gs.filter fun g => decide (a ∈ g)).headD []
theorem fst_mem {gs : List (List Nat)} {a : Nat} (h : ∃ g ∈ gs, a ∈ g) : (gs.filter fun g => decide (a ∈ g)) = fst gs a :: (gs.filter fun g => decide (a ∈ g)).tail ∧ fst gs a ∈ gs ∧ a ∈ fst gs a := by
  obtain ⟨g, hg, ha⟩ := h
  have hm : g ∈ gs.filter fun g => decide (a ∈ g) := List.mem_filter.mpr ⟨hg, decide_eq_true ha⟩
  unfold fst
  cases e : gs.filter fun g => decide (a ∈ g) with
  | nil => rw [e] at hm; cases hm
  | cons z r =>
    have hz : z ∈ gs.filter fun g => decide (a ∈ g) := e ▸ List.mem_cons_self
    obtain ⟨h1, h2⟩ := List.mem_filter.mp hz
    exact ⟨rfl, h1, of_decide_eq_true h2⟩
def mrg (gs : List (List Nat)) (g h : List Nat) : List (List Nat) := if g = h then gs else (gs.filter fun x => decide (x ≠ g) && decide (x ≠ h)) ++ [g ++ h]
theorem Gp.same {n : Nat} {cs : List Cb} {gs : List (List Nat)} (G : Gp n cs gs) {g h : List Nat} {a b : Nat} (hg : g ∈ gs) (hh : h ∈ gs) (ha : a ∈ g) (hb : b ∈ h) (hc : con cs a b) : g = h := by
  have hbg : b ∈ g := ((G.cl g hg a ha).2 b).mpr ⟨(G.cl h hh b hb).1, hc⟩
  refine Classical.byContradiction fun hne => ?_
  have sy : ∀ x y, x ∈ gs → y ∈ gs → x ≠ y → ∀ z ∈ x, z ∉ y := by
    have := G.dj
    intro x y hx hy hxy
    obtain ⟨i, hi, rfl⟩ := List.getElem_of_mem hx
    obtain ⟨j, hj, rfl⟩ := List.getElem_of_mem hy
    have pw := List.pairwise_iff_getElem.mp this
    rcases Nat.lt_trichotomy i j with h | h | h
    · exact pw i j hi hj h
    · subst h; exact absurd rfl hxy
    · exact fun z hz hz2 => pw j i hj hi h z hz2 hz
  exact sy g h hg hh hne b hbg hb
theorem Gp.step {n : Nat} {cs ds : List Cb} {gs : List (List Nat)} (G : Gp n cs gs) {a b : Nat} {w : Int} (hm : ∀ c, c ∈ ds ↔ c ∈ cs ∨ c = (a, b, w)) (ha : a < n) (hb : b < n) : Gp n ds (mrg gs (fst gs a) (fst gs b)) := by
  obtain ⟨-, g1, g2⟩ := fst_mem (G.cv a ha)
  obtain ⟨-, h1, h2⟩ := fst_mem (G.cv b hb)
  generalize fst gs a = g at *
  generalize fst gs b = h at *
  unfold mrg
  by_cases e : g = h
  · subst e
    rw [if_pos rfl]
    have hab : con cs a b := (((G.cl g g1 a g2).2 b).mp h2).2
    have : ∀ s t, con ds s t ↔ con cs s t := fun s t => by
      rw [con_more hm]
      refine ⟨?_, Or.inl⟩
      rintro (h | ⟨h, h2⟩ | ⟨h, h2⟩)
      · exact h
      · exact con_trans h (con_trans hab h2)
      · exact con_trans h (con_trans (con_symm hab) h2)
    refine ⟨G.ne, G.nd, fun x hx y hy => ?_, G.cv, G.dj⟩
    simp only [this]
    exact G.cl x hx y hy
  · rw [if_neg e]
    have dis : ∀ x ∈ gs, ∀ y ∈ gs, x ≠ y → ∀ z ∈ x, z ∉ y := fun x hx y hy hxy z hz hz2 => hxy (G.same hx hy hz hz2 con_refl)
    have hnab : ¬con cs a b := fun z => e (G.same g1 h1 g2 h2 z)
    have up : ∀ {x y}, con cs x y → con ds x y := fun h => (con_more hm).mpr (Or.inl h)
    have hab : con ds a b := (con_more hm).mpr (Or.inr (Or.inl ⟨con_refl, con_refl⟩))
    have old : ∀ x, x ∈ gs → x ≠ g → x ≠ h → ∀ y ∈ x, ¬con cs y a ∧ ¬con cs y b := fun x hx hxg hxh y hy => ⟨fun z => hxg (G.same hx g1 hy g2 z), fun z => hxh (G.same hx h1 hy h2 z)⟩
    have mem : ∀ x, x ∈ (gs.filter fun x => decide (x ≠ g) && decide (x ≠ h)) ↔ x ∈ gs ∧ x ≠ g ∧ x ≠ h := fun x => by
      rw [List.mem_filter, Bool.and_eq_true, decide_eq_true_eq, decide_eq_true_eq]
    refine ⟨fun x hx => ?_, fun x hx => ?_, fun x hx y hy => ?_, fun x hx => ?_, ?_⟩
    · rcases List.mem_append.mp hx with hx | hx
      · exact G.ne x ((mem x).mp hx).1
      · rw [List.mem_singleton.mp hx]
        exact fun z => G.ne g g1 (List.append_eq_nil_iff.mp z).1
    · rcases List.mem_append.mp hx with hx | hx
      · exact G.nd x ((mem x).mp hx).1
      · rw [List.mem_singleton.mp hx]
        exact List.nodup_append.mpr ⟨G.nd g g1, G.nd h h1, fun p hp q hq z => dis g g1 h h1 e p hp (z ▸ hq)⟩
    · rcases List.mem_append.mp hx with hx | hx
      · obtain ⟨k1, k2, k3⟩ := (mem x).mp hx
        obtain ⟨c1, c2⟩ := G.cl x k1 y hy
        obtain ⟨o1, o2⟩ := old x k1 k2 k3 y hy
        refine ⟨c1, fun z => ?_⟩
        rw [c2 z, con_more hm]
        exact and_congr Iff.rfl ⟨Or.inl, fun q => q.elim id fun q => q.elim (fun q => absurd q.1 o1) fun q => absurd q.1 o2⟩
      · rw [List.mem_singleton.mp hx] at hy ⊢
        rcases List.mem_append.mp hy with hy | hy
        · obtain ⟨c1, c2⟩ := G.cl g g1 y hy
          have ya : con cs y a := ((c2 a).mp g2).2
          refine ⟨c1, fun z => ?_⟩
          rw [List.mem_append, c2 z, (G.cl h h1 b h2).2 z]
          constructor
          · rintro (⟨q1, q2⟩ | ⟨q1, q2⟩)
            · exact ⟨q1, up q2⟩
            · exact ⟨q1, con_trans (up ya) (con_trans hab (up q2))⟩
          · rintro ⟨q1, q2⟩
            rcases (con_more hm).mp q2 with q2 | ⟨q2, q3⟩ | ⟨q2, q3⟩
            · exact Or.inl ⟨q1, q2⟩
            · exact Or.inr ⟨q1, q3⟩
            · exact absurd (con_trans (con_symm ya) q2) hnab
        · obtain ⟨c1, c2⟩ := G.cl h h1 y hy
          have yb : con cs y b := ((c2 b).mp h2).2
          refine ⟨c1, fun z => ?_⟩
          rw [List.mem_append, c2 z, (G.cl g g1 a g2).2 z]
          constructor
          · rintro (⟨q1, q2⟩ | ⟨q1, q2⟩)
            · exact ⟨q1, con_trans (up yb) (con_trans (con_symm hab) (up q2))⟩
            · exact ⟨q1, up q2⟩
          · rintro ⟨q1, q2⟩
            rcases (con_more hm).mp q2 with q2 | ⟨q2, q3⟩ | ⟨q2, q3⟩
            · exact Or.inr ⟨q1, q2⟩
            · exact absurd (con_symm (con_trans (con_symm yb) q2)) hnab
            · exact Or.inl ⟨q1, q3⟩
    · obtain ⟨q, hq, hx2⟩ := G.cv x hx
      by_cases e1 : q = g
      · exact ⟨g ++ h, List.mem_append_right _ (List.mem_singleton.mpr rfl), List.mem_append_left _ (e1 ▸ hx2)⟩
      · by_cases e2 : q = h
        · exact ⟨g ++ h, List.mem_append_right _ (List.mem_singleton.mpr rfl), List.mem_append_right _ (e2 ▸ hx2)⟩
        · exact ⟨q, List.mem_append_left _ ((mem q).mpr ⟨hq, e1, e2⟩), hx2⟩
    · refine List.pairwise_append.mpr ⟨List.Pairwise.filter _ G.dj, List.pairwise_singleton _ _, fun x hx y hy z hz hz2 => ?_⟩
      obtain ⟨k1, k2, k3⟩ := (mem x).mp hx
      rw [List.mem_singleton.mp hy] at hz2
      rcases List.mem_append.mp hz2 with q | q
      · exact dis x k1 g g1 k2 z hz q
      · exact dis x k1 h h1 k3 z hz q
theorem mrg_len {gs : List (List Nat)} {g h : List Nat} (hg : g ∈ gs) : (mrg gs g h).length ≤ gs.length := by
  unfold mrg
  split
  · exact Nat.le_refl _
  · rw [List.length_append, List.length_singleton]
    have : ∀ l : List (List Nat), g ∈ l → (l.filter fun x => decide (x ≠ g) && decide (x ≠ h)).length + 1 ≤ l.length := by
      intro l
      induction l with
      | nil => intro h; cases h
      | cons z r ih =>
        intro hm
        rw [List.filter_cons]
        by_cases e : z = g
        · rw [if_neg (by simp [e]), List.length_cons]
          exact Nat.succ_le_succ (List.length_filter_le _ _)
        · have := ih ((List.mem_cons.mp hm).resolve_left fun q => e q.symm)
          split
          · rw [List.length_cons, List.length_cons]; omega
          · rw [List.length_cons]; omega
    exact this gs hg
/-! ### sorted -/
theorem insI_perm0 (x : Int) : ∀ ys : List Int, (insI x ys).Perm (x :: ys)
  | [] => .refl _
  | y :: r => by
    unfold insI
    split
    · exact .refl _
    · exact ((insI_perm0 x r).cons y).trans (.swap x y r)
theorem sortI_perm0 : ∀ xs : List Int, (sortI xs).Perm xs
  | [] => .refl _
  | x :: r => (insI_perm0 x (sortI r)).trans ((sortI_perm0 r).cons x)
theorem insI_asc0 {x : Int} : ∀ {ys : List Int}, ys.Pairwise (· ≤ ·) → (insI x ys).Pairwise (· ≤ ·)
  | [], _ => by simp [insI]
  | y :: r, h => by
    obtain ⟨h1, h2⟩ := List.pairwise_cons.mp h
    unfold insI
    split
    · rename_i hl
      exact List.pairwise_cons.mpr ⟨fun z hz => (List.mem_cons.mp hz).elim (fun e => e ▸ hl) fun q => Int.le_trans hl (h1 z q), h⟩
    · rename_i n1
      exact List.pairwise_cons.mpr ⟨fun z hz => (List.mem_cons.mp ((insI_perm0 x r).mem_iff.mp hz)).elim (fun e => by omega) fun q => h1 z q, insI_asc0 h2⟩
theorem sortI_asc0 : ∀ xs : List Int, (sortI xs).Pairwise (· ≤ ·)
  | [] => .nil
  | x :: r => insI_asc0 (sortI_asc0 r)
abbrev ci (xs : List Nat) : List Int := xs.map fun (k : Nat) => (k : Int)
theorem ci_inj {xs ys : List Nat} (h : ci xs = ci ys) : xs = ys := by
  have := congrArg (List.map Int.toNat) h
  simpa [ci, List.map_map, Function.comp_def] using this
theorem sortI_is {g xs : List Nat} (hn : g.Nodup) (hx : xs.Pairwise (· < ·)) (hm : ∀ z, z ∈ g ↔ z ∈ xs) : sortI (ci g) = ci xs := by
  have hgn : (ci g).Nodup := List.pairwise_map.mpr (hn.imp fun h e => h (Int.ofNat_inj.mp e))
  have h1 : (sortI (ci g)).Nodup := (sortI_perm0 (ci g)).nodup_iff.mpr hgn
  refine asc_eq (((sortI_asc0 (ci g)).and h1).imp fun h => (by have h1 := h.1; have h2 := h.2; omega)) (List.pairwise_map.mpr (hx.imp fun h => by omega)) fun z => ?_
  rw [(sortI_perm0 (ci g)).mem_iff, List.mem_map, List.mem_map]
  exact ⟨fun ⟨a, h1, h2⟩ => ⟨a, (hm a).mp h1, h2⟩, fun ⟨a, h1, h2⟩ => ⟨a, (hm a).mpr h1, h2⟩⟩
theorem Gp.parts {n : Nat} {cs : List Cb} {gs : List (List Nat)} (G : Gp n cs gs) : sortL (gs.map fun g => sortI (ci g)) = (partsP n cs).map ci := by
  classical
  have hs : ∀ g ∈ gs, ∃ r, r < n ∧ isRep cs r ∧ sortI (ci g) = ci (comp n cs r) := fun g hg => by
    obtain ⟨x, hx⟩ := List.exists_mem_of_ne_nil g (G.ne g hg)
    obtain ⟨c1, c2⟩ := G.cl g hg x hx
    obtain ⟨r, h1, h2, h3⟩ := rep_of (cs := cs) x
    refine ⟨r, by omega, h3, sortI_is (G.nd g hg) comp_asc fun z => ?_⟩
    rw [c2 z, mem_comp]
    exact and_congr Iff.rfl ⟨fun q => con_trans (con_symm h2) q, fun q => con_trans h2 q⟩
  have hp : ((partsP n cs).map ci).Pairwise (· < ·) := by
    rw [parts_reps, List.map_map]
    unfold reps
    refine List.pairwise_map.mpr ?_
    have a1 : ((List.range n).filter fun s => decide (isRep cs s)).Pairwise fun x y => (x < n ∧ isRep cs x) ∧ (y < n ∧ isRep cs y) ∧ x < y := by
      refine List.Pairwise.imp_of_mem (R := (· < ·)) (fun {x y} hx hy h => ?_) (List.Pairwise.filter _ List.pairwise_lt_range)
      obtain ⟨x1, x2⟩ := List.mem_filter.mp hx
      obtain ⟨y1, y2⟩ := List.mem_filter.mp hy
      exact ⟨⟨List.mem_range.mp x1, of_decide_eq_true x2⟩, ⟨List.mem_range.mp y1, of_decide_eq_true y2⟩, h⟩
    refine a1.imp fun {x y} h => ?_
    obtain ⟨⟨x1, x2⟩, ⟨y1, y2⟩, h⟩ := h
    have hx := rep_head (n := n) (cs := cs) x1
    have hy := rep_head (n := n) (cs := cs) y1
    rw [decide_eq_true x2, beq_iff_eq] at hx
    rw [decide_eq_true y2, beq_iff_eq] at hy
    show ci (comp n cs x) < ci (comp n cs y)
    cases ex : comp n cs x with
    | nil => rw [ex] at hx; cases hx
    | cons p r =>
      cases ey : comp n cs y with
      | nil => rw [ey] at hy; cases hy
      | cons q t =>
        rw [ex] at hx; rw [ey] at hy
        cases hx; cases hy
        exact row_lt_hd (show ((x : Nat) : Int) < (y : Int) by omega)
  refine sortL_is ?_ hp
  have n1 : (gs.map fun g => sortI (ci g)).Nodup := by
    refine List.pairwise_map.mpr (List.Pairwise.imp_of_mem (fun {g h} hg hh hd e => ?_) G.dj)
    obtain ⟨x, hx⟩ := List.exists_mem_of_ne_nil g (G.ne g hg)
    have : (x : Int) ∈ sortI (ci h) := by rw [← e, (sortI_perm0 _).mem_iff]; exact List.mem_map.mpr ⟨x, hx, rfl⟩
    rw [(sortI_perm0 _).mem_iff] at this
    obtain ⟨y, hy, e2⟩ := List.mem_map.mp this
    exact hd x hx (by rw [← Int.ofNat_inj.mp e2]; exact hy)
  have n2 : ((partsP n cs).map ci).Nodup := List.Pairwise.imp (S := (· ≠ ·)) (fun {a b} (h : a < b) (e : a = b) => List.lt_irrefl b (e ▸ h)) hp
  refine (List.perm_ext_iff_of_nodup n1 n2).mpr fun z => ?_
  rw [List.mem_map, List.mem_map, parts_reps]
  constructor
  · rintro ⟨g, hg, rfl⟩
    obtain ⟨r, h1, h2, h3⟩ := hs g hg
    exact ⟨comp n cs r, List.mem_map.mpr ⟨r, by unfold reps; exact List.mem_filter.mpr ⟨List.mem_range.mpr h1, decide_eq_true h2⟩, rfl⟩, h3.symm⟩
  · rintro ⟨p, hp, rfl⟩
    obtain ⟨r, hr, rfl⟩ := List.mem_map.mp hp
    unfold reps at hr
    obtain ⟨h1, h2⟩ := List.mem_filter.mp hr
    have h1 := List.mem_range.mp h1
    obtain ⟨g, hg, hx⟩ := G.cv r h1
    obtain ⟨r', q1, q2, q3⟩ := hs g hg
    refine ⟨g, hg, ?_⟩
    rw [q3]
    have : (r : Int) ∈ sortI (ci g) := by rw [(sortI_perm0 _).mem_iff]; exact List.mem_map.mpr ⟨r, hx, rfl⟩
    rw [q3] at this
    obtain ⟨y, hy, e2⟩ := List.mem_map.mp this
    have e2 := Int.ofNat_inj.mp e2
    subst e2
    rw [rep_eq q2 (of_decide_eq_true h2) (mem_comp.mp hy).2]
end Nw

namespace Nw
open PySem PySem.Spec PyProof.Rows L2 Pv
/-! ### other names -/
def nm (l : List Nat) (x : Nat) : Nat := l.getD x 0
def im (l : List Nat) (y : Nat) : Nat := ixV (ci l) (y : Int)
structure Pm (n : Nat) (xs : List Nat) : Prop where
  l : xs.length = n
  d : xs.Nodup
  b : ∀ x ∈ xs, x < n
theorem nm_get {l : List Nat} {x : Nat} (h : x < l.length) : nm l x = l[x] := by unfold nm; rw [List.getD_eq_getElem?_getD, List.getElem?_eq_getElem h]; rfl
theorem Pm.nm_lt {n : Nat} {l : List Nat} (P : Pm n l) {x : Nat} (h : x < n) : nm l x < n := by
  rw [nm_get (by rw [P.l]; exact h)]; exact P.b _ (List.getElem_mem _)
theorem Pm.mem {n : Nat} {l : List Nat} (P : Pm n l) {y : Nat} (h : y < n) : y ∈ l := by
  refine Classical.byContradiction fun hy => ?_
  have := nodup_le (ys := List.range n) (List.nodup_cons.mpr ⟨hy, P.d⟩) fun z hz => List.mem_range.mpr ((List.mem_cons.mp hz).elim (fun e => e ▸ h) fun q => P.b z q)
  rw [List.length_cons, List.length_range, P.l] at this
  omega
theorem Pm.im_lt {n : Nat} {l : List Nat} (P : Pm n l) {y : Nat} (h : y < n) : im l y < n := by
  have hm : (y : Int) ∈ ci l := List.mem_map.mpr ⟨y, P.mem h, rfl⟩
  have := List.findIdx_lt_length_of_exists (p := fun z => decide (z = (y : Int))) ⟨(y : Int), hm, by simp⟩
  unfold im ixV
  rw [List.length_map, P.l] at this
  exact this
theorem Pm.nm_im {n : Nat} {l : List Nat} (P : Pm n l) {y : Nat} (h : y < n) : nm l (im l y) = y := by
  have hl := P.im_lt h
  rw [nm_get (by rw [P.l]; exact hl)]
  have hm : (y : Int) ∈ ci l := List.mem_map.mpr ⟨y, P.mem h, rfl⟩
  have hw : (ci l).findIdx (fun z => decide (z = (y : Int))) < (ci l).length := List.findIdx_lt_length_of_exists ⟨(y : Int), hm, by simp⟩
  have := List.findIdx_getElem (w := hw)
  rw [decide_eq_true_eq, List.getElem_map] at this
  exact Int.ofNat_inj.mp this
theorem Pm.inj {n : Nat} {l : List Nat} (P : Pm n l) {x y : Nat} (hx : x < n) (hy : y < n) (e : nm l x = nm l y) : x = y := by
  rw [nm_get (by rw [P.l]; exact hx), nm_get (by rw [P.l]; exact hy)] at e
  exact (List.getElem_inj P.d).mp e
theorem Pm.im_nm {n : Nat} {l : List Nat} (P : Pm n l) {x : Nat} (h : x < n) : im l (nm l x) = x :=
  P.inj (P.im_lt (P.nm_lt h)) h (P.nm_im (P.nm_lt h))
def rnC (l : List Nat) (cs : List Cb) : List Cb := cs.map fun c => (nm l c.1, nm l c.2.1, c.2.2)
theorem rn_to {l : List Nat} {cs : List Cb} {s : Nat} : ∀ {t k : Nat}, Wk cs s t k → Wk (rnC l cs) (nm l s) (nm l t) k := by
  intro t k h
  induction h with
  | nil => exact .nil
  | snoc _ a ih =>
    obtain ⟨c, hc, h⟩ := a
    exact .snoc ih ⟨_, List.mem_map.mpr ⟨c, hc, rfl⟩, h.imp (fun h => ⟨congrArg (nm l) h.1, congrArg (nm l) h.2⟩) fun h => ⟨congrArg (nm l) h.1, congrArg (nm l) h.2⟩⟩
theorem rn_from {n : Nat} {l : List Nat} (P : Pm n l) {cs : List Cb} (he : ∀ c ∈ cs, c.1 < n ∧ c.2.1 < n) {s : Nat} : ∀ {t k : Nat}, Wk (rnC l cs) s t k → Wk cs (im l s) (im l t) k := by
  intro t k h
  induction h with
  | nil => exact .nil
  | snoc _ a ih =>
    obtain ⟨c, hc, h⟩ := a
    obtain ⟨c, hc2, rfl⟩ := List.mem_map.mp hc
    obtain ⟨h1, h2⟩ := he c hc2
    refine .snoc ih ⟨c, hc2, ?_⟩
    rcases h with ⟨rfl, rfl⟩ | ⟨rfl, rfl⟩
    · exact Or.inl ⟨(P.im_nm h1).symm, (P.im_nm h2).symm⟩
    · exact Or.inr ⟨(P.im_nm h2).symm, (P.im_nm h1).symm⟩
theorem rn_wk {n : Nat} {l : List Nat} (P : Pm n l) {cs : List Cb} (he : ∀ c ∈ cs, c.1 < n ∧ c.2.1 < n) {s t k : Nat} (hs : s < n) (ht : t < n) : Wk (rnC l cs) (nm l s) (nm l t) k ↔ Wk cs s t k :=
  ⟨fun h => by have := rn_from P he h; rwa [P.im_nm hs, P.im_nm ht] at this, rn_to⟩
theorem rn_dst {n : Nat} {l : List Nat} (P : Pm n l) {cs : List Cb} (he : ∀ c ∈ cs, c.1 < n ∧ c.2.1 < n) {s t : Nat} (hs : s < n) (ht : t < n) : dst (rnC l cs) (nm l s) (nm l t) = dst cs s t := by
  cases e : dst cs s t with
  | none => exact dst_none.mpr fun k hk => dst_none.mp e k ((rn_wk P he hs ht).mp hk)
  | some d =>
    obtain ⟨h1, h2⟩ := dst_some.mp e
    exact dst_some.mpr ⟨rn_to h1, fun k hk => h2 k ((rn_wk P he hs ht).mp hk)⟩
theorem rn_con {n : Nat} {l : List Nat} (P : Pm n l) {cs : List Cb} (he : ∀ c ∈ cs, c.1 < n ∧ c.2.1 < n) {s t : Nat} (hs : s < n) (ht : t < n) : con (rnC l cs) (nm l s) (nm l t) ↔ con cs s t :=
  ⟨fun ⟨k, h⟩ => ⟨k, (rn_wk P he hs ht).mp h⟩, fun ⟨k, h⟩ => ⟨k, rn_to h⟩⟩
theorem rn_ok {n : Nat} {l : List Nat} (P : Pm n l) {cs : List Cb} (h : Nok n cs) : Nok n (rnC l cs) :=
  ⟨fun c hc => by
    obtain ⟨c, hc2, rfl⟩ := List.mem_map.mp hc
    exact ⟨P.nm_lt (h.e c hc2).1, P.nm_lt (h.e c hc2).2⟩, by unfold rnC; rw [List.length_map]; exact h.l, h.n⟩
theorem rn_gp {n : Nat} {l : List Nat} (P : Pm n l) {cs : List Cb} (he : ∀ c ∈ cs, c.1 < n ∧ c.2.1 < n) : Gp n (rnC l cs) ((partsP n cs).map fun p => p.map (nm l)) := by
  classical
  have part : ∀ p ∈ partsP n cs, ∃ r, r < n ∧ isRep cs r ∧ p = comp n cs r := fun p hp => by
    rw [parts_reps] at hp
    obtain ⟨r, hr, rfl⟩ := List.mem_map.mp hp
    unfold reps at hr
    obtain ⟨h1, h2⟩ := List.mem_filter.mp hr
    exact ⟨r, List.mem_range.mp h1, of_decide_eq_true h2, rfl⟩
  refine ⟨fun g hg => ?_, fun g hg => ?_, fun g hg x hx => ?_, fun x hx => ?_, ?_⟩
  · obtain ⟨p, hp, rfl⟩ := List.mem_map.mp hg
    obtain ⟨r, h1, h2, rfl⟩ := part p hp
    intro z
    have := List.map_eq_nil_iff.mp z
    have q := comp_self (cs := cs) h1
    rw [this] at q; cases q
  · obtain ⟨p, hp, rfl⟩ := List.mem_map.mp hg
    obtain ⟨r, h1, h2, rfl⟩ := part p hp
    refine List.pairwise_map.mpr (List.Pairwise.imp_of_mem (fun {x y} hx hy h e => ?_) (comp_asc (n := n) (cs := cs) (s := r)))
    have := P.inj (mem_comp.mp hx).1 (mem_comp.mp hy).1 e
    omega
  · obtain ⟨p, hp, rfl⟩ := List.mem_map.mp hg
    obtain ⟨r, h1, h2, rfl⟩ := part p hp
    obtain ⟨x, hx2, rfl⟩ := List.mem_map.mp hx
    obtain ⟨x1, x2⟩ := mem_comp.mp hx2
    refine ⟨P.nm_lt x1, fun y => ?_⟩
    rw [List.mem_map]
    constructor
    · rintro ⟨z, hz, rfl⟩
      obtain ⟨z1, z2⟩ := mem_comp.mp hz
      exact ⟨P.nm_lt z1, (rn_con P he x1 z1).mpr (con_trans (con_symm x2) z2)⟩
    · rintro ⟨hy, hc⟩
      refine ⟨im l y, mem_comp.mpr ⟨P.im_lt hy, ?_⟩, P.nm_im hy⟩
      rw [← P.nm_im hy, rn_con P he x1 (P.im_lt hy)] at hc
      exact con_trans x2 hc
  · have hi := P.im_lt hx
    obtain ⟨r, h1, h2, h3⟩ := rep_of (cs := cs) (im l x)
    refine ⟨(comp n cs r).map (nm l), List.mem_map.mpr ⟨comp n cs r, ?_, rfl⟩, List.mem_map.mpr ⟨im l x, mem_comp.mpr ⟨hi, con_symm h2⟩, P.nm_im hx⟩⟩
    rw [parts_reps]
    refine List.mem_map.mpr ⟨r, ?_, rfl⟩
    unfold reps
    exact List.mem_filter.mpr ⟨List.mem_range.mpr (by omega), decide_eq_true h3⟩
  · rw [parts_reps, List.map_map]
    unfold reps
    refine List.pairwise_map.mpr (List.Pairwise.imp_of_mem (fun {x y} hx hy h => ?_) (List.Pairwise.filter _ (List.pairwise_lt_range (n := n))))
    obtain ⟨x1, x2⟩ := List.mem_filter.mp hx
    obtain ⟨y1, y2⟩ := List.mem_filter.mp hy
    intro z hz hz2
    obtain ⟨a, ha, rfl⟩ := List.mem_map.mp hz
    obtain ⟨b, hb, e⟩ := List.mem_map.mp hz2
    obtain ⟨a1, a2⟩ := mem_comp.mp ha
    obtain ⟨b1, b2⟩ := mem_comp.mp hb
    have := P.inj b1 a1 e
    subst this
    have := rep_eq (of_decide_eq_true x2) (of_decide_eq_true y2) (con_trans a2 (con_symm b2))
    omega
/-! ### a switch, a cable gone -/
def nl (x g : Nat) : Nat := if x > g then x - 1 else x
def wos (cs : List Cb) (s : Nat) : List Cb := (cs.filter fun c => decide (c.1 ≠ s) && decide (c.2.1 ≠ s)).map fun c => (nl c.1 s, nl c.2.1 s, c.2.2)
theorem wos_ok {n : Nat} {cs : List Cb} (h : Nok n cs) {s : Nat} (hs : s < n) : Nok (n - 1) (wos cs s) := by
  refine ⟨fun c hc => ?_, ?_, by have := h.n; omega⟩
  · obtain ⟨c, hc2, rfl⟩ := List.mem_map.mp hc
    obtain ⟨h1, h2⟩ := List.mem_filter.mp hc2
    rw [Bool.and_eq_true, decide_eq_true_eq, decide_eq_true_eq] at h2
    have := h.e c h1
    show nl c.1 s < n - 1 ∧ nl c.2.1 s < n - 1
    unfold nl
    constructor <;> split <;> omega
  · unfold wos; rw [List.length_map]
    exact Nat.le_trans (List.length_filter_le _ _) h.l
def woc (cs : List Cb) (k : Nat) : List Cb := cs.take k ++ cs.drop (k + 1)
theorem woc_mem {cs : List Cb} {k : Nat} (h : k < cs.length) : ∀ c, c ∈ cs ↔ c ∈ woc cs k ∨ c = ((cb cs k).1, (cb cs k).2.1, (cb cs k).2.2) := fun c => by
  have e : cs = cs.take k ++ cs[k] :: cs.drop (k + 1) := by rw [List.getElem_cons_drop, List.take_append_drop]
  have ek : cb cs k = cs[k] := by unfold cb; rw [List.getD_eq_getElem?_getD, List.getElem?_eq_getElem h]; rfl
  rw [ek]
  unfold woc
  conv => lhs; rw [e]
  rw [List.mem_append, List.mem_cons, List.mem_append]
  constructor
  · rintro (h | h | h)
    · exact Or.inl (Or.inl h)
    · exact Or.inr h
    · exact Or.inl (Or.inr h)
  · rintro ((h | h) | h)
    · exact Or.inl h
    · exact Or.inr (Or.inr h)
    · exact Or.inr (Or.inl h)
theorem woc_ok {n : Nat} {cs : List Cb} (h : Nok n cs) {k : Nat} : Nok n (woc cs k) :=
  ⟨fun c hc => h.e c ((List.mem_append.mp hc).elim List.mem_of_mem_take List.mem_of_mem_drop), by
    unfold woc; rw [List.length_append, List.length_take, List.length_drop]; have := h.l; omega, h.n⟩
theorem parts_more {n : Nat} {cs ds : List Cb} {a b : Nat} {w : Int} (hm : ∀ c, c ∈ ds ↔ c ∈ cs ∨ c = (a, b, w)) (ha : a < n) (hb : b < n) : (partsP n cs).length = (partsP n ds).length + (if (dst cs a b).isSome then 0 else 1) := by
  rw [parts_reps, parts_reps, List.length_map, List.length_map]
  exact reps_more hm ha hb
/-! ### reckoned -/
def bfr (cs : List Cb) (fs : List (Option Nat)) : List (Option Nat) := cs.foldl (fun fs c => rx (rx fs c.1 c.2.1) c.2.1 c.1) fs
def bfi (cs : List Cb) : Nat → List (Option Nat) → List (Option Nat)
  | 0, fs => fs
  | r + 1, fs => bfr cs (bfi cs r fs)
def bfs (cs : List Cb) (n s : Nat) : List (Option Nat) := bfi cs n ((List.replicate n none).set s (some 0))
theorem bfs_is {n : Nat} {cs : List Cb} (he : ∀ c ∈ cs, c.1 < n ∧ c.2.1 < n) {s : Nat} (hs : s < n) : bfs cs n s = (List.range n).map (dst cs s) := by
  have round : ∀ (ds : List Cb), (∀ c ∈ ds, c ∈ cs) → ∀ {r fs C}, Bf cs s n r fs C → Bf cs s n r (ds.foldl (fun fs c => rx (rx fs c.1 c.2.1) c.2.1 c.1) fs) (fun x y => C x y ∨ adj ds x y) := by
    intro ds
    induction ds with
    | nil => intro _ r fs C B; exact B.weak fun a b h => h.elim id fun ⟨c, hc, _⟩ => nomatch hc
    | cons c t ih =>
      intro hm r fs C B
      have hc := hm c List.mem_cons_self
      obtain ⟨c1, c2⟩ := he c hc
      have B1 := B.step (a := c.1) (b := c.2.1) ⟨c, hc, Or.inl ⟨rfl, rfl⟩⟩ c2
      have B2 := B1.step (a := c.2.1) (b := c.1) ⟨c, hc, Or.inr ⟨rfl, rfl⟩⟩ c1
      refine (ih (fun x hx => hm x (List.mem_cons_of_mem _ hx)) B2).weak fun a b h => ?_
      rcases h with h | ⟨x, hx, h⟩
      · exact Or.inl (Or.inl (Or.inl h))
      · rcases List.mem_cons.mp hx with rfl | hx
        · rcases h with ⟨h1, h2⟩ | ⟨h1, h2⟩
          · exact Or.inl (Or.inl (Or.inr ⟨h1.symm, h2.symm⟩))
          · exact Or.inl (Or.inr ⟨h1.symm, h2.symm⟩)
        · exact Or.inr ⟨x, hx, h⟩
  have all : ∀ r, Bf cs s n r (bfi cs r ((List.replicate n none).set s (some 0))) (fun _ _ => False) := by
    intro r
    induction r with
    | zero => exact Bf.first hs
    | succ r ih => exact (round cs (fun _ h => h) ih).next fun a b h => Or.inr h
  exact (all n).last he hs
theorem dst_bfs {n : Nat} {cs : List Cb} (he : ∀ c ∈ cs, c.1 < n ∧ c.2.1 < n) {s t : Nat} (hs : s < n) (ht : t < n) : dst cs s t = gd (bfs cs n s) t := by
  rw [bfs_is he hs]
  unfold gd
  rw [List.getD_eq_getElem?_getD, List.getElem?_map, List.getElem?_range ht]; rfl
def compB (n : Nat) (cs : List Cb) (s : Nat) : List Nat := (List.range n).filter fun t => (gd (bfs cs n s) t).isSome
theorem comp_bfs {n : Nat} {cs : List Cb} (he : ∀ c ∈ cs, c.1 < n ∧ c.2.1 < n) {s : Nat} (hs : s < n) : comp n cs s = compB n cs s := by
  unfold comp compB
  exact List.filter_congr fun t ht => by rw [dst_bfs he hs (List.mem_range.mp ht)]
theorem parts_bfs {n : Nat} {cs : List Cb} (he : ∀ c ∈ cs, c.1 < n ∧ c.2.1 < n) : partsP n cs = ((List.range n).filter fun s => (compB n cs s).head? == some s).map (compB n cs) := by
  unfold partsP
  rw [List.filter_congr (q := fun s => (compB n cs s).head? == some s) fun s hs => by rw [comp_bfs he (List.mem_range.mp hs)]]
  exact List.map_congr_left fun s hs => comp_bfs he (List.mem_range.mp (List.mem_filter.mp hs).1)
end Nw

namespace Nw
open PySem PySem.Spec PyProof.Rows L2 Pv
/-! ### the tree: least sums of costs, roots, root ends -/
def cad (cs : List Cb) (a b : Nat) (w : Int) : Prop := ∃ c ∈ cs, c.2.2 = w ∧ ((c.1 = a ∧ c.2.1 = b) ∨ (c.2.1 = a ∧ c.1 = b))
theorem cad_adj {cs : List Cb} {a b : Nat} {w : Int} (h : cad cs a b w) : adj cs a b := by
  obtain ⟨c, hc, _, h⟩ := h; exact ⟨c, hc, h⟩
theorem adj_cad {cs : List Cb} {a b : Nat} (h : adj cs a b) : ∃ w, cad cs a b w := by
  obtain ⟨c, hc, h⟩ := h; exact ⟨_, c, hc, rfl, h⟩
theorem cad_symm {cs : List Cb} {a b : Nat} {w : Int} (h : cad cs a b w) : cad cs b a w := by
  obtain ⟨c, hc, e, h | h⟩ := h
  · exact ⟨c, hc, e, Or.inr ⟨h.2, h.1⟩⟩
  · exact ⟨c, hc, e, Or.inl ⟨h.2, h.1⟩⟩
/-- ways from some of the starts, with their cables and the sum of their costs -/
inductive Cw (cs : List Cb) (S : List Nat) : Nat → Nat → Int → Prop
  | nil {s : Nat} : s ∈ S → Cw cs S s 0 0
  | snoc {u t k : Nat} {d w : Int} : Cw cs S u k d → cad cs u t w → Cw cs S t (k + 1) (d + w)
def Pos (cs : List Cb) : Prop := ∀ c ∈ cs, 1 ≤ c.2.2
theorem cad_pos {cs : List Cb} (hp : Pos cs) {a b : Nat} {w : Int} (h : cad cs a b w) : 1 ≤ w := by
  obtain ⟨c, hc, rfl, _⟩ := h; exact hp c hc
theorem cad_lt {cs : List Cb} {n : Nat} (he : ∀ c ∈ cs, c.1 < n ∧ c.2.1 < n) {a b : Nat} {w : Int} (h : cad cs a b w) : a < n ∧ b < n := by
  obtain ⟨c, hc, _, ⟨rfl, rfl⟩ | ⟨rfl, rfl⟩⟩ := h
  · exact he c hc
  · exact (he c hc).symm
theorem cw_nn {cs : List Cb} {S : List Nat} (hp : Pos cs) : ∀ {t k : Nat} {d : Int}, Cw cs S t k d → (k : Int) ≤ d := by
  intro t k d w
  induction w with
  | nil _ => exact Int.le_refl _
  | snoc _ a ih => have := cad_pos hp a; omega
theorem cw_con {cs : List Cb} {S : List Nat} : ∀ {t k : Nat} {d : Int}, Cw cs S t k d → ∃ s ∈ S, con cs s t := by
  intro t k d w
  induction w with
  | nil h => exact ⟨_, h, con_refl⟩
  | snoc _ a ih => obtain ⟨s, hs, h⟩ := ih; exact ⟨s, hs, con_trans h (con_adj (cad_adj a))⟩
theorem con_cw {cs : List Cb} {S : List Nat} {s : Nat} (hs : s ∈ S) : ∀ {t k : Nat}, Wk cs s t k → ∃ d, Cw cs S t k d := by
  intro t k w
  induction w with
  | nil => exact ⟨0, .nil hs⟩
  | snoc _ a ih => obtain ⟨d, h⟩ := ih; obtain ⟨w, hw⟩ := adj_cad a; exact ⟨_, .snoc h hw⟩
theorem cw_one {cs : List Cb} {S : List Nat} : ∀ {t k : Nat} {d : Int}, Cw cs S t k d → ∃ s ∈ S, Cw cs [s] t k d := by
  intro t k d w
  induction w with
  | nil h => exact ⟨_, h, .nil (List.mem_singleton.mpr rfl)⟩
  | snoc _ a ih => obtain ⟨s, hs, h⟩ := ih; exact ⟨s, hs, .snoc h a⟩
theorem cw_mono {cs : List Cb} {S T : List Nat} (h : ∀ s ∈ S, s ∈ T) : ∀ {t k : Nat} {d : Int}, Cw cs S t k d → Cw cs T t k d := by
  intro t k d w
  induction w with
  | nil q => exact .nil (h _ q)
  | snoc _ a ih => exact .snoc ih a
open Classical in
/-- the least sum -/
noncomputable def cst (cs : List Cb) (S : List Nat) (t : Nat) : Option Int := if h : ∃ d : Nat, ∃ k, Cw cs S t k (d : Int) then some ((Classical.choose (ex_min h) : Nat) : Int) else none
theorem cst_some {cs : List Cb} (hp : Pos cs) {S : List Nat} {t : Nat} {d : Int} : cst cs S t = some d ↔ (∃ k, Cw cs S t k d) ∧ ∀ k e, Cw cs S t k e → d ≤ e := by
  unfold cst
  split
  · rename_i h
    have hs := Classical.choose_spec (ex_min h)
    have key : ∀ k e, Cw cs S t k e → ((Classical.choose (ex_min h) : Nat) : Int) ≤ e := fun k e hw => by
      have := cw_nn hp hw
      have := hs.2 e.toNat ⟨k, by rw [show ((e.toNat : Nat) : Int) = e by omega]; exact hw⟩
      omega
    constructor
    · intro e; rw [← Option.some.inj e]; exact ⟨hs.1, key⟩
    · intro ⟨⟨k, h1⟩, h2⟩
      have := key k d h1
      obtain ⟨k', h3⟩ := hs.1
      have := h2 _ _ h3
      rw [show ((Classical.choose (ex_min h) : Nat) : Int) = d by omega]
  · rename_i h
    refine ⟨fun e => (nomatch e), fun ⟨⟨k, h1⟩, _⟩ => absurd ⟨d.toNat, k, ?_⟩ h⟩
    have := cw_nn hp h1
    rw [show ((d.toNat : Nat) : Int) = d by omega]; exact h1
theorem cst_none {cs : List Cb} (hp : Pos cs) {S : List Nat} {t : Nat} : cst cs S t = none ↔ ∀ k d, ¬Cw cs S t k d := by
  unfold cst
  split
  · rename_i h
    exact ⟨fun e => (nomatch e), fun h2 => by obtain ⟨d, k, hk⟩ := h; exact absurd hk (h2 k _)⟩
  · rename_i h
    refine ⟨fun _ k d hk => h ⟨d.toNat, k, ?_⟩, fun _ => rfl⟩
    have := cw_nn hp hk
    rw [show ((d.toNat : Nat) : Int) = d by omega]; exact hk
theorem cst_of {cs : List Cb} (hp : Pos cs) {S : List Nat} {t k : Nat} {d : Int} (h : Cw cs S t k d) : ∃ e, e ≤ d ∧ cst cs S t = some e := by
  cases e : cst cs S t with
  | none => exact absurd h ((cst_none hp).mp e k d)
  | some e' => exact ⟨e', ((cst_some hp).mp e).2 k d h, rfl⟩
theorem cst_zero {cs : List Cb} (hp : Pos cs) {S : List Nat} {s : Nat} (h : s ∈ S) : cst cs S s = some 0 :=
  (cst_some hp).mpr ⟨⟨0, .nil h⟩, fun k e w => by have := cw_nn hp w; omega⟩
theorem cst_nn {cs : List Cb} (hp : Pos cs) {S : List Nat} {t : Nat} {d : Int} (h : cst cs S t = some d) : 0 ≤ d := by
  obtain ⟨⟨k, w⟩, _⟩ := (cst_some hp).mp h
  have := cw_nn hp w; omega
theorem cst_up {cs : List Cb} (hp : Pos cs) {S : List Nat} {a b : Nat} {w d : Int} (h : cad cs a b w) (e : cst cs S a = some d) : ∃ d', d' ≤ d + w ∧ cst cs S b = some d' := by
  obtain ⟨⟨k, q⟩, _⟩ := (cst_some hp).mp e
  exact cst_of hp (.snoc q h)
/-- the last cable of a cheapest way -/
theorem cst_last {cs : List Cb} (hp : Pos cs) {S : List Nat} {t : Nat} {d : Int} (h : cst cs S t = some d) (ht : t ∉ S) : ∃ u w, cst cs S u = some (d - w) ∧ cad cs u t w := by
  obtain ⟨⟨k, q⟩, mn⟩ := (cst_some hp).mp h
  cases q with
  | nil q => exact absurd q ht
  | snoc q a =>
    rename_i u k d' w
    obtain ⟨e, he, h2⟩ := cst_of hp q
    obtain ⟨⟨k2, q2⟩, _⟩ := (cst_some hp).mp h2
    have := mn _ _ (.snoc q2 a)
    refine ⟨u, w, ?_, a⟩
    rw [h2]; congr 1; omega
theorem filter_less {α : Type} {p q : α → Bool} : ∀ {l : List α}, (∀ x ∈ l, p x = true → q x = true) → (∃ u ∈ l, q u = true ∧ p u = false) → (l.filter p).length + 1 ≤ (l.filter q).length
  | [], _, ⟨_, h, _⟩ => absurd h (by simp)
  | z :: r, hpq, ⟨u, hu, h1, h2⟩ => by
    have le : ∀ l : List α, (∀ x ∈ l, p x = true → q x = true) → (l.filter p).length ≤ (l.filter q).length := by
      intro l
      induction l with
      | nil => intro _; exact Nat.le_refl _
      | cons y t ih =>
        intro h
        have i := ih fun x hx => h x (List.mem_cons_of_mem _ hx)
        rw [List.filter_cons, List.filter_cons]
        cases e : p y with
        | true => rw [h y List.mem_cons_self e]; simp only [if_true, List.length_cons]; omega
        | false => cases q y <;> simp <;> omega
    have hr := fun x hx => hpq x (List.mem_cons_of_mem _ hx)
    rcases List.mem_cons.mp hu with rfl | hu
    · rw [List.filter_cons, List.filter_cons, h1, h2]
      have := le r hr
      simp; omega
    · have ih := filter_less hr ⟨u, hu, h1, h2⟩
      rw [List.filter_cons, List.filter_cons]
      cases e : p z with
      | true => rw [hpq z List.mem_cons_self e]; simp only [if_true, List.length_cons]; omega
      | false => cases q z <;> simp <;> omega
open Classical in
noncomputable def lessN (cs : List Cb) (S : List Nat) (n : Nat) (d : Int) : Nat := ((List.range n).filter fun u => decide (∃ e, cst cs S u = some e ∧ e < d)).length
theorem cst_many {cs : List Cb} {n : Nat} (hp : Pos cs) (he : ∀ c ∈ cs, c.1 < n ∧ c.2.1 < n) {S : List Nat} : ∀ (N : Nat) (t : Nat) (d : Int), d.toNat ≤ N → cst cs S t = some d → ∃ k, k ≤ lessN cs S n d ∧ Cw cs S t k d := by
  intro N
  induction N with
  | zero =>
    intro t d hN h
    have := cst_nn hp h
    obtain ⟨⟨k, q⟩, mn⟩ := (cst_some hp).mp h
    have := cw_nn hp q
    exact ⟨k, by omega, q⟩
  | succ N ih =>
    intro t d hN h
    by_cases ht : t ∈ S
    · have := (cst_zero hp ht).symm.trans h
      cases this
      exact ⟨0, Nat.zero_le _, .nil ht⟩
    · obtain ⟨u, w, hu, a⟩ := cst_last hp h ht
      have hw := cad_pos hp a
      have := cst_nn hp hu
      obtain ⟨k, hk, q⟩ := ih u (d - w) (by omega) hu
      refine ⟨k + 1, ?_, ?_⟩
      · refine Nat.le_trans (Nat.succ_le_succ hk) ?_
        unfold lessN
        refine filter_less (fun x _ hx => ?_) ⟨u, List.mem_range.mpr (cad_lt he a).1, decide_eq_true ⟨_, hu, by omega⟩, decide_eq_false ?_⟩
        · obtain ⟨e, h1, h2⟩ := of_decide_eq_true hx
          exact decide_eq_true ⟨e, h1, by omega⟩
        · rintro ⟨e, h1, h2⟩
          rw [hu] at h1; cases h1; omega
      · have := Cw.snoc q a
        rwa [show d - w + w = d by omega] at this
theorem cst_short {cs : List Cb} {n : Nat} (hp : Pos cs) (he : ∀ c ∈ cs, c.1 < n ∧ c.2.1 < n) {S : List Nat} (hS : ∀ s ∈ S, s < n) {t : Nat} {d : Int} (h : cst cs S t = some d) : ∃ k, k < n ∧ Cw cs S t k d := by
  obtain ⟨k, hk, q⟩ := cst_many hp he _ t d (Nat.le_refl _) h
  have ht : t < n := by
    cases q with
    | nil q => exact hS _ q
    | snoc _ a => exact (cad_lt he a).2
  have : lessN cs S n d + 1 ≤ ((List.range n).filter fun _ => true).length := by
    unfold lessN
    refine filter_less (fun _ _ _ => rfl) ⟨t, List.mem_range.mpr ht, rfl, decide_eq_false ?_⟩
    rintro ⟨e, h1, h2⟩
    rw [h] at h1; cases h1; omega
  rw [List.filter_eq_self.mpr fun _ _ => rfl, List.length_range] at this
  exact ⟨k, by omega, q⟩
/-! all cables again and again -/
def gc (fs : List (Option Int)) (t : Nat) : Option Int := fs.getD t none
theorem gc_set {fs : List (Option Int)} {i : Nat} {x : Option Int} (h : i < fs.length) (t : Nat) : gc (fs.set i x) t = if t = i then x else gc fs t := by
  unfold gc
  rw [List.getD_eq_getElem?_getD, List.getD_eq_getElem?_getD, List.getElem?_set]
  by_cases e : i = t
  · subst e; simp [h]
  · rw [if_neg e, if_neg fun z => e z.symm]
def rc (fs : List (Option Int)) (a b : Nat) (w : Int) : List (Option Int) := match gc fs a with
  | none => fs
  | some d => match gc fs b with
    | none => fs.set b (some (d + w))
    | some e => if d + w < e then fs.set b (some (d + w)) else fs
theorem rc_len {fs : List (Option Int)} {a b : Nat} {w : Int} : (rc fs a b w).length = fs.length := by
  unfold rc
  split
  · rfl
  · split
    · rw [List.length_set]
    · split
      · rw [List.length_set]
      · rfl
theorem rc_spec {fs : List (Option Int)} {a b : Nat} {w : Int} (hb : b < fs.length) :
    (∀ t e, gc fs t = some e → ∃ e', e' ≤ e ∧ gc (rc fs a b w) t = some e') ∧ (∀ d, gc fs a = some d → ∃ e, e ≤ d + w ∧ gc (rc fs a b w) b = some e) ∧ (∀ t e, gc (rc fs a b w) t = some e → gc fs t = some e ∨ (t = b ∧ ∃ d, gc fs a = some d ∧ e = d + w)) := by
  have g := fun (x : Option Int) t => gc_set (x := x) hb t
  unfold rc
  cases ha : gc fs a with
  | none => exact ⟨fun t e h => ⟨e, Int.le_refl _, h⟩, fun d h => (by cases h), fun t e h => Or.inl h⟩
  | some d =>
    cases hb' : gc fs b with
    | none =>
      simp only
      refine ⟨fun t e h => ⟨e, Int.le_refl _, ?_⟩, fun d' h => ⟨d + w, by cases h; exact Int.le_refl _, by rw [g, if_pos rfl]⟩, fun t e h => ?_⟩
      · rw [g, if_neg fun z => by subst z; rw [hb'] at h; cases h]; exact h
      · rw [g] at h
        split at h
        · rename_i z; cases h; exact Or.inr ⟨z, d, rfl, rfl⟩
        · exact Or.inl h
    | some e0 =>
      simp only
      split
      · rename_i hlt
        refine ⟨fun t e h => ?_, fun d' h => ⟨d + w, by cases h; exact Int.le_refl _, by rw [g, if_pos rfl]⟩, fun t e h => ?_⟩
        · rw [g]
          split
          · rename_i z; subst z; rw [hb'] at h; cases h; exact ⟨_, by omega, rfl⟩
          · exact ⟨e, Int.le_refl _, h⟩
        · rw [g] at h
          split at h
          · rename_i z; cases h; exact Or.inr ⟨z, d, rfl, rfl⟩
          · exact Or.inl h
      · exact ⟨fun t e h => ⟨e, Int.le_refl _, h⟩, fun d' h => ⟨e0, by cases h; omega, hb'⟩, fun t e h => Or.inl h⟩
structure Bc (cs : List Cb) (S : List Nat) (n r : Nat) (fs : List (Option Int)) (C : Nat → Nat → Int → Prop) : Prop where
  l : fs.length = n
  w : ∀ t d, gc fs t = some d → ∃ k, Cw cs S t k d
  k : ∀ t k d, k ≤ r → Cw cs S t k d → ∃ e, e ≤ d ∧ gc fs t = some e
  c : ∀ a b w k d, C a b w → k ≤ r → Cw cs S a k d → ∃ e, e ≤ d + w ∧ gc fs b = some e
theorem Bc.step {cs : List Cb} {S : List Nat} {n r : Nat} {fs : List (Option Int)} {C : Nat → Nat → Int → Prop} (h : Bc cs S n r fs C) {a b : Nat} {w : Int} (ha : cad cs a b w) (hb : b < n) : Bc cs S n r (rc fs a b w) (fun x y v => C x y v ∨ (x = a ∧ y = b ∧ v = w)) := by
  obtain ⟨h1, h2, h3⟩ := rc_spec (fs := fs) (a := a) (b := b) (w := w) (by rw [h.l]; exact hb)
  refine ⟨by rw [rc_len]; exact h.l, fun t d e => ?_, fun t k d hk w' => ?_, fun x y v k d hc hk w' => ?_⟩
  · rcases h3 t d e with e2 | ⟨rfl, d', e2, rfl⟩
    · exact h.w t d e2
    · obtain ⟨k, q⟩ := h.w _ _ e2
      exact ⟨_, .snoc q ha⟩
  · obtain ⟨e, he, g⟩ := h.k t k d hk w'
    obtain ⟨e', he', g'⟩ := h1 t e g
    exact ⟨e', by omega, g'⟩
  · rcases hc with hc | ⟨rfl, rfl, rfl⟩
    · obtain ⟨e, he, g⟩ := h.c x y v k d hc hk w'
      obtain ⟨e', he', g'⟩ := h1 y e g
      exact ⟨e', by omega, g'⟩
    · obtain ⟨e, he, g⟩ := h.k x k d hk w'
      obtain ⟨e', he', g'⟩ := h2 e g
      exact ⟨e', by omega, g'⟩
theorem Bc.weak {cs : List Cb} {S : List Nat} {n r : Nat} {fs : List (Option Int)} {C C' : Nat → Nat → Int → Prop} (h : Bc cs S n r fs C) (hC : ∀ a b w, C' a b w → C a b w) : Bc cs S n r fs C' :=
  ⟨h.l, h.w, h.k, fun a b w k d hc => h.c a b w k d (hC a b w hc)⟩
theorem Bc.next {cs : List Cb} {S : List Nat} {n r : Nat} {fs : List (Option Int)} {C : Nat → Nat → Int → Prop} (h : Bc cs S n r fs C) (hC : ∀ a b w, cad cs a b w → C a b w) : Bc cs S n (r + 1) fs (fun _ _ _ => False) :=
  ⟨h.l, h.w, fun t k d hk w => by
    by_cases hr : k ≤ r
    · exact h.k t k d hr w
    · have : k = r + 1 := by omega
      subst this
      cases w with
      | snoc w a => exact h.c _ _ _ r _ (hC _ _ _ a) (Nat.le_refl _) w, fun _ _ _ _ _ hc => hc.elim⟩
theorem Bc.first {cs : List Cb} {S : List Nat} {n : Nat} {fs : List (Option Int)} (hl : fs.length = n) (h : ∀ s d, gc fs s = some d ↔ s ∈ S ∧ d = 0) : Bc cs S n 0 fs (fun _ _ _ => False) :=
  ⟨hl, fun t d e => by
    obtain ⟨h1, rfl⟩ := (h t d).mp e
    exact ⟨0, .nil h1⟩, fun t k d hk w => by
    have : k = 0 := by omega
    subst this
    cases w with
    | nil q => exact ⟨0, Int.le_refl _, (h _ _).mpr ⟨q, rfl⟩⟩, fun _ _ _ _ _ hc => hc.elim⟩
theorem Bc.last {cs : List Cb} {S : List Nat} {n : Nat} {fs : List (Option Int)} {C : Nat → Nat → Int → Prop} (hp : Pos cs) (he : ∀ c ∈ cs, c.1 < n ∧ c.2.1 < n) (hS : ∀ s ∈ S, s < n) (h : Bc cs S n n fs C) : fs = (List.range n).map (cst cs S) := by
  refine List.ext_getElem (by rw [List.length_map, List.length_range]; exact h.l) fun t h1 h2 => ?_
  have e : gc fs t = fs[t] := by unfold gc; rw [List.getD_eq_getElem?_getD, List.getElem?_eq_getElem h1]; rfl
  rw [List.getElem_map, List.getElem_range, ← e]
  cases hd : cst cs S t with
  | none =>
    cases hg : gc fs t with
    | none => rfl
    | some d => obtain ⟨k, q⟩ := h.w t d hg; exact absurd q ((cst_none hp).mp hd k d)
  | some d =>
    obtain ⟨k, hk, q⟩ := cst_short hp he hS hd
    obtain ⟨e', he', g⟩ := h.k t k d (Nat.le_of_lt hk) q
    obtain ⟨k', q'⟩ := h.w t e' g
    have := ((cst_some hp).mp hd).2 k' e' q'
    rw [g, show e' = d by omega]
end Nw

namespace Nw
open PySem PySem.Spec PyProof.Rows L2 Pv
/-! ### roots, root ends, heads, cables alive, ways up -/
def mrow : List (List Int) → List Int
  | [] => []
  | x :: r => minL x r
theorem mrow_spec {xss : List (List Int)} (h : xss ≠ []) : mrow xss ∈ xss ∧ ∀ y ∈ xss, mrow xss ≤ y := by
  cases xss with
  | nil => exact absurd rfl h
  | cons x r =>
    obtain ⟨a, b, c⟩ := minL_spec r x
    refine ⟨?_, fun y hy => ?_⟩
    · rcases a with a | a
      · show minL x r ∈ _; rw [a]; exact List.mem_cons_self
      · exact List.mem_cons_of_mem _ a
    · rcases List.mem_cons.mp hy with rfl | hy
      · exact b
      · exact c y hy
theorem mrow_is {xss : List (List Int)} {x : List Int} (h : x ∈ xss) (h2 : ∀ y ∈ xss, x ≤ y) : mrow xss = x := by
  obtain ⟨a, b⟩ := mrow_spec (List.ne_nil_of_mem h)
  exact List.le_antisymm (b x h) (h2 _ a)
theorem mrow_some {xs : List D} {xss : List (List Int)} {n : Nat} (e : xs = xss.map tpI) (hne : xss ≠ []) (h : Even n xss) : minf (.list xs) = some (.val (tpI (mrow xss))) := by
  cases xss with
  | nil => exact absurd rfl hne
  | cons x r => exact minrows_some e h
def rk (rs : List Int) (t : Nat) : Int := rs.getD t 0
theorem comp_con {n : Nat} {cs : List Cb} {s t : Nat} (h : con cs s t) : comp n cs s = comp n cs t := by
  unfold comp
  refine List.filter_congr fun x _ => ?_
  refine Bool.eq_iff_iff.mpr ?_
  rw [con_dst, con_dst]
  exact ⟨fun q => con_trans (con_symm h) q, fun q => con_trans h q⟩
noncomputable def rrow (n : Nat) (rs : List Int) (cs : List Cb) (s : Nat) : List (List Int) := (comp n cs s).map fun t => [rk rs t, (t : Int)]
noncomputable def rootP (n : Nat) (rs : List Int) (cs : List Cb) (s : Nat) : Nat := ((mrow (rrow n rs cs s)).getD 1 0).toNat
section
variable {n : Nat} {rs : List Int} {cs : List Cb} {s t u c : Nat}
theorem rrow_ne (hs : s < n) : rrow n rs cs s ≠ [] := fun z => by
  have := comp_self (cs := cs) hs
  unfold rrow at z
  rw [List.map_eq_nil_iff.mp z] at this; cases this
theorem rootP_spec (hs : s < n) : rootP n rs cs s < n ∧ con cs s (rootP n rs cs s) ∧ mrow (rrow n rs cs s) = [rk rs (rootP n rs cs s), (rootP n rs cs s : Int)] ∧ ∀ t, t < n → con cs s t → ([rk rs (rootP n rs cs s), (rootP n rs cs s : Int)] : List Int) ≤ [rk rs t, (t : Int)] := by
  obtain ⟨a, b⟩ := mrow_spec (rrow_ne (rs := rs) (cs := cs) hs)
  obtain ⟨r, hr, e⟩ := List.mem_map.mp a
  have er : rootP n rs cs s = r := by unfold rootP; rw [← e]; rfl
  obtain ⟨h1, h2⟩ := mem_comp.mp hr
  rw [er]
  refine ⟨h1, h2, e.symm, fun t ht hc => ?_⟩
  rw [e]
  exact b _ (List.mem_map.mpr ⟨t, mem_comp.mpr ⟨ht, hc⟩, rfl⟩)
theorem rootP_con (h : con cs s t) : rootP n rs cs s = rootP n rs cs t := by
  unfold rootP rrow
  rw [comp_con h]
theorem rootP_root (hs : s < n) : rootP n rs cs (rootP n rs cs s) = rootP n rs cs s := (rootP_con (rootP_spec (rs := rs) (cs := cs) hs).2.1).symm
noncomputable def rts (n : Nat) (rs : List Int) (cs : List Cb) : List Nat := (List.range n).map (rootP n rs cs)
theorem mem_rts (hs : s < n) : s ∈ rts n rs cs ↔ rootP n rs cs s = s := by
  unfold rts
  rw [List.mem_map]
  constructor
  · rintro ⟨x, hx, rfl⟩
    exact rootP_root (List.mem_range.mp hx)
  · intro h
    exact ⟨s, List.mem_range.mpr hs, h⟩
theorem rts_lt : ∀ x ∈ rts n rs cs, x < n := fun x hx => by
  obtain ⟨y, hy, rfl⟩ := List.mem_map.mp hx
  exact (rootP_spec (List.mem_range.mp hy)).1
noncomputable def co (n : Nat) (rs : List Int) (cs : List Cb) (t : Nat) : Int := (cst cs (rts n rs cs) t).getD 0
theorem co_some (hp : Pos cs) (ht : t < n) : cst cs (rts n rs cs) t = some (co n rs cs t) := by
  obtain ⟨h1, h2, -⟩ := rootP_spec (rs := rs) (cs := cs) ht
  obtain ⟨k, w⟩ := con_symm h2
  obtain ⟨d, q⟩ := con_cw (S := rts n rs cs) ((mem_rts h1).mpr (rootP_root ht)) w
  obtain ⟨e, -, he⟩ := cst_of hp q
  unfold co
  rw [he]; rfl
theorem co_nn (hp : Pos cs) (ht : t < n) : 0 ≤ co n rs cs t := cst_nn hp (co_some hp ht)
theorem co_root (hp : Pos cs) (ht : t < n) (h : rootP n rs cs t = t) : co n rs cs t = 0 :=
  Option.some.inj ((co_some hp ht).symm.trans (cst_zero hp ((mem_rts ht).mpr h)))
/-- from the root of a part alone -/
theorem co_one (hp : Pos cs) (he : ∀ c ∈ cs, c.1 < n ∧ c.2.1 < n) (hs : s < n) (ht : t < n) : cst cs [rootP n rs cs s] t = if (dst cs s t).isSome then some (co n rs cs t) else none := by
  obtain ⟨r1, r2, -⟩ := rootP_spec (rs := rs) (cs := cs) hs
  by_cases h : (dst cs s t).isSome
  · rw [if_pos h]
    have hc := con_dst.mp h
    have up : ∀ k d, Cw cs (rts n rs cs) t k d ↔ Cw cs [rootP n rs cs s] t k d := fun k d => by
      constructor
      · intro w
        obtain ⟨x, hx, w⟩ := cw_one w
        obtain ⟨y, hy, hxy⟩ := cw_con w
        rw [List.mem_singleton.mp hy] at hxy
        have hxn := rts_lt x hx
        have e1 := (mem_rts hxn).mp hx
        have : rootP n rs cs s = x := by rw [← e1]; exact rootP_con (con_trans hc (con_symm hxy))
        rw [this]; exact w
      · intro w
        exact cw_mono (fun z hz => by rw [List.mem_singleton.mp hz]; exact (mem_rts r1).mpr (rootP_root hs)) w
    obtain ⟨⟨k, w⟩, mn⟩ := (cst_some hp).mp (co_some (rs := rs) hp ht)
    exact (cst_some hp).mpr ⟨⟨k, (up k _).mp w⟩, fun k' e' w' => mn k' e' ((up k' e').mpr w')⟩
  · rw [if_neg h]
    refine (cst_none hp).mpr fun k d w => h (con_dst.mpr ?_)
    obtain ⟨y, hy, hxy⟩ := cw_con w
    rw [List.mem_singleton.mp hy] at hxy
    exact con_trans r2 hxy
theorem ends_cad (h : c ∈ ends cs s) : cad cs s (far cs c s) (cb cs c).2.2 := by
  have h1 := (List.mem_filter.mp h).2
  refine ⟨cb cs c, cb_mem (ends_lt h), rfl, ?_⟩
  unfold far
  unfold hasE at h1
  rw [Bool.or_eq_true, decide_eq_true_eq, decide_eq_true_eq] at h1
  split
  · rename_i z; exact Or.inl ⟨z.symm, rfl⟩
  · rename_i z; exact Or.inr ⟨h1.resolve_left fun e => z e.symm, rfl⟩
theorem cad_ends {w : Int} (h : cad cs s u w) : ∃ c ∈ ends cs s, far cs c s = u ∧ (cb cs c).2.2 = w := by
  obtain ⟨c, hc, e, h⟩ := h
  obtain ⟨k, hk, ek⟩ := List.getElem_of_mem hc
  have ek : cb cs k = c := by unfold cb; rw [List.getD_eq_getElem?_getD, List.getElem?_eq_getElem hk]; exact ek
  refine ⟨k, List.mem_filter.mpr ⟨List.mem_range.mpr hk, ?_⟩, ?_, by rw [ek]; exact e⟩
  · rw [ek]; unfold hasE; rw [Bool.or_eq_true, decide_eq_true_eq, decide_eq_true_eq]
    exact h.imp (·.1) (·.1)
  · unfold far; rw [ek]
    rcases h with ⟨h1, h2⟩ | ⟨h1, h2⟩
    · rw [if_pos h1.symm]; exact h2
    · split
      · rename_i z; rw [← h2, ← z, h1]
      · exact h2
theorem ends_or (h : c ∈ ends cs s) : (cb cs c).1 = s ∨ (cb cs c).2.1 = s := by
  have h1 := (List.mem_filter.mp h).2
  unfold hasE at h1
  rwa [Bool.or_eq_true, decide_eq_true_eq, decide_eq_true_eq] at h1
theorem far_far (h : c ∈ ends cs s) : far cs c (far cs c s) = s := by
  have := ends_or h
  unfold far
  by_cases e : s = (cb cs c).1
  · rw [if_pos e]
    split
    · rename_i z; rw [z, e]
    · exact e.symm
  · rw [if_neg e, if_pos rfl]
    exact this.resolve_left fun z => e z.symm
theorem far_other (h : c ∈ ends cs s) (h2 : c ∈ ends cs t) (hne : s ≠ t) : far cs c s = t := by
  have a := ends_or h
  have b := ends_or h2
  unfold far
  split
  · rename_i z
    exact b.resolve_left fun q => hne (by rw [z, q])
  · rename_i z
    have a := a.resolve_left fun q => z q.symm
    rcases b with b | b
    · exact b
    · exact absurd (a.symm.trans b) hne
theorem far_ends (h : c ∈ ends cs s) : c ∈ ends cs (far cs c s) := by
  refine List.mem_filter.mpr ⟨(List.mem_filter.mp h).1, ?_⟩
  unfold hasE far
  rw [Bool.or_eq_true, decide_eq_true_eq, decide_eq_true_eq]
  split
  · exact Or.inr rfl
  · exact Or.inl rfl
noncomputable def offs (n : Nat) (rs : List Int) (cs : List Cb) (s : Nat) : List (List Int) := (ends cs s).map fun c => [co n rs cs (far cs c s) + (cb cs c).2.2, rk rs (far cs c s), (c : Int)]
noncomputable def re (n : Nat) (rs : List Int) (cs : List Cb) (s : Nat) : Option Nat := if rootP n rs cs s = s then none else some ((mrow (offs n rs cs s)).getD 2 0).toNat
theorem re_none : re n rs cs s = none ↔ rootP n rs cs s = s := by
  unfold re
  split <;> simp_all
theorem off_ne (hp : Pos cs) (he : ∀ c ∈ cs, c.1 < n ∧ c.2.1 < n) (hs : s < n) (h : rootP n rs cs s ≠ s) : ∃ c ∈ ends cs s, co n rs cs (far cs c s) + (cb cs c).2.2 = co n rs cs s ∧ far cs c s < n := by
  obtain ⟨u, w, h1, h2⟩ := cst_last hp (co_some (rs := rs) hp hs) fun z => h ((mem_rts hs).mp z)
  obtain ⟨c, hc, e1, e2⟩ := cad_ends (cad_symm h2)
  have hu := (cad_lt he h2).1
  refine ⟨c, hc, ?_, by rw [e1]; exact hu⟩
  rw [e1, e2]
  have := Option.some.inj ((co_some (rs := rs) hp hu).symm.trans h1)
  omega
theorem co_le (hp : Pos cs) (he : ∀ c ∈ cs, c.1 < n ∧ c.2.1 < n) (h : c ∈ ends cs s) : co n rs cs s ≤ co n rs cs (far cs c s) + (cb cs c).2.2 := by
  have a := ends_cad h
  have l := cad_lt he a
  obtain ⟨d, h1, h2⟩ := cst_up hp (cad_symm a) (co_some (rs := rs) hp l.2)
  have := Option.some.inj ((co_some (rs := rs) hp l.1).symm.trans h2)
  omega
theorem re_spec (hp : Pos cs) (he : ∀ c ∈ cs, c.1 < n ∧ c.2.1 < n) (hs : s < n) (h : re n rs cs s = some c) : c ∈ ends cs s ∧ far cs c s < n ∧ co n rs cs (far cs c s) + (cb cs c).2.2 = co n rs cs s ∧ mrow (offs n rs cs s) = [co n rs cs s, rk rs (far cs c s), (c : Int)] := by
  have hr : rootP n rs cs s ≠ s := fun z => by rw [re_none.mpr z] at h; cases h
  unfold re at h
  rw [if_neg hr] at h
  have hc := Option.some.inj h
  obtain ⟨c0, h0, e0, -⟩ := off_ne (rs := rs) hp he hs hr
  have m0 : [co n rs cs (far cs c0 s) + (cb cs c0).2.2, rk rs (far cs c0 s), (c0 : Int)] ∈ offs n rs cs s := List.mem_map.mpr ⟨c0, h0, rfl⟩
  obtain ⟨a, b⟩ := mrow_spec (List.ne_nil_of_mem m0)
  obtain ⟨c1, h1, e1⟩ := List.mem_map.mp a
  have ec : c1 = c := by rw [← hc, ← e1]; rfl
  subst ec
  have l := b _ m0
  rw [← e1, row3_le, e0] at l
  have := co_le (n := n) (rs := rs) hp he h1
  have e : co n rs cs (far cs c1 s) + (cb cs c1).2.2 = co n rs cs s := by omega
  refine ⟨h1, (cad_lt he (ends_cad h1)).2, e, ?_⟩
  rw [← e1, e]
theorem re_lt (hp : Pos cs) (he : ∀ c ∈ cs, c.1 < n ∧ c.2.1 < n) (hs : s < n) (h : re n rs cs s = some c) : co n rs cs (far cs c s) < co n rs cs s := by
  obtain ⟨h1, h2, h3, -⟩ := re_spec hp he hs h
  have := hp _ (cb_mem (ends_lt h1))
  omega
theorem re_inj (hp : Pos cs) (he : ∀ c ∈ cs, c.1 < n ∧ c.2.1 < n) (hs : s < n) (ht : t < n) (h : re n rs cs s = some c) (h2 : re n rs cs t = some c) : s = t := by
  refine Classical.byContradiction fun hne => ?_
  have a := re_spec hp he hs h
  have b := re_spec hp he ht h2
  have l1 := re_lt hp he hs h
  have l2 := re_lt hp he ht h2
  rw [far_other a.1 b.1 hne] at l1
  rw [far_other b.1 a.1 (Ne.symm hne)] at l2
  omega
/-! heads, cables alive -/
noncomputable def hrow (n : Nat) (rs : List Int) (cs : List Cb) (c : Nat) : List (List Int) := [(cb cs c).1, (cb cs c).2.1].map fun s => [co n rs cs s, rk rs s, (s : Int)]
noncomputable def hdc (n : Nat) (rs : List Int) (cs : List Cb) (c : Nat) : Nat := ((mrow (hrow n rs cs c)).getD 2 0).toNat
theorem hdc_re (hp : Pos cs) (he : ∀ c ∈ cs, c.1 < n ∧ c.2.1 < n) (hs : s < n) (h : re n rs cs s = some c) : hdc n rs cs c = far cs c s ∧ hdc n rs cs c ≠ s := by
  obtain ⟨h1, h2, h3, -⟩ := re_spec hp he hs h
  have l := re_lt hp he hs h
  have key : mrow (hrow n rs cs c) = [co n rs cs (far cs c s), rk rs (far cs c s), (far cs c s : Int)] := by
    have o := ends_or h1
    refine mrow_is (List.mem_map.mpr ⟨far cs c s, ?_, rfl⟩) fun y hy => ?_
    · unfold far
      split <;> simp
    · obtain ⟨x, hx, rfl⟩ := List.mem_map.mp hy
      have : x = s ∨ x = far cs c s := by
        unfold far
        rcases List.mem_cons.mp hx with hx | hx
        · split
          · rename_i z; exact Or.inl (by rw [hx, z])
          · exact Or.inr hx
        · have hx := List.mem_singleton.mp hx
          split
          · exact Or.inr hx
          · rename_i z; exact Or.inl (by rw [hx]; exact o.resolve_left fun q => z q.symm)
      rcases this with rfl | rfl
      · rw [row3_le]; exact Or.inl l
      · exact List.le_refl _
  have e : hdc n rs cs c = far cs c s := by
    unfold hdc
    rw [key]; rfl
  refine ⟨e, fun z => ?_⟩
  rw [← e, z] at l
  exact Int.lt_irrefl _ l
/-- the ends that are open, as rows -/
noncomputable def rws (n : Nat) (rs : List Int) (cs : List Cb) : List (List Int) := ((List.range cs.length).map fun (c : Nat) => [(c : Int), (hdc n rs cs c : Int)]) ++ ((List.range n).filter fun s => (re n rs cs s).isSome).map fun (s : Nat) => [(((re n rs cs s).getD 0 : Nat) : Int), (s : Int)]
theorem mem_rws {x y : Int} : [x, y] ∈ rws n rs cs ↔ (∃ c, c < cs.length ∧ x = (c : Int) ∧ y = (hdc n rs cs c : Int)) ∨ ∃ s c, s < n ∧ re n rs cs s = some c ∧ x = (c : Int) ∧ y = (s : Int) := by
  unfold rws
  rw [List.mem_append, List.mem_map, List.mem_map]
  constructor
  · rintro (⟨c, hc, e⟩ | ⟨s, hs, e⟩)
    · cases e
      exact Or.inl ⟨c, List.mem_range.mp hc, rfl, rfl⟩
    · obtain ⟨h1, h2⟩ := List.mem_filter.mp hs
      obtain ⟨c, hc⟩ := Option.isSome_iff_exists.mp h2
      rw [hc] at e
      cases e
      exact Or.inr ⟨s, c, List.mem_range.mp h1, hc, rfl, rfl⟩
  · rintro (⟨c, hc, rfl, rfl⟩ | ⟨s, c, hs, hc, rfl, rfl⟩)
    · exact Or.inl ⟨c, List.mem_range.mpr hc, rfl⟩
    · refine Or.inr ⟨s, List.mem_filter.mpr ⟨List.mem_range.mpr hs, by rw [hc]; rfl⟩, by rw [hc]; rfl⟩
theorem len_rws {r : List Int} (h : r ∈ rws n rs cs) : ∃ x y, r = [x, y] ∧ 0 ≤ x ∧ 0 ≤ y := by
  unfold rws at h
  rw [List.mem_append, List.mem_map, List.mem_map] at h
  rcases h with ⟨c, hc, rfl⟩ | ⟨s, hs, rfl⟩ <;> exact ⟨_, _, rfl, by omega, by omega⟩
noncomputable def hasR (n : Nat) (rs : List Int) (cs : List Cb) (c : Nat) : Bool := (List.range n).any fun s => re n rs cs s == some c
theorem hasR_iff : hasR n rs cs c = true ↔ ∃ s, s < n ∧ re n rs cs s = some c := by
  unfold hasR
  rw [List.any_eq_true]
  exact ⟨fun ⟨s, h1, h2⟩ => ⟨s, List.mem_range.mp h1, beq_iff_eq.mp h2⟩, fun ⟨s, h1, h2⟩ => ⟨s, List.mem_range.mpr h1, beq_iff_eq.mpr h2⟩⟩
noncomputable def alv (n : Nat) (rs : List Int) (cs : List Cb) : List Nat := (List.range cs.length).filter (hasR n rs cs)
theorem mem_alv (hp : Pos cs) (he : ∀ c ∈ cs, c.1 < n ∧ c.2.1 < n) : c ∈ alv n rs cs ↔ ∃ s, s < n ∧ re n rs cs s = some c := by
  unfold alv
  rw [List.mem_filter, hasR_iff]
  exact ⟨fun h => h.2, fun ⟨s, hs, h⟩ => ⟨(List.mem_filter.mp (re_spec hp he hs h).1).1, s, hs, h⟩⟩
theorem insT_len {x : List Int} : ∀ {ys : List (List Int)}, (insT x ys).length ≤ ys.length + 1
  | [] => Nat.le_refl _
  | y :: r => by
    unfold insT
    split
    · exact Nat.le_refl _
    · split
      · exact Nat.le_succ _
      · exact Nat.succ_le_succ insT_len
theorem setT_len : ∀ {xs : List (List Int)}, (setT xs).length ≤ xs.length
  | [] => Nat.le_refl _
  | x :: r => Nat.le_trans (insT_len (x := x) (ys := setT r)) (Nat.succ_le_succ (setT_len (xs := r)))
theorem setT_nodup {xss : List (List Int)} : (setT xss).Nodup :=
  List.Pairwise.imp (S := (· ≠ ·)) (fun {a b} (h : a < b) (e : a = b) => List.lt_irrefl b (e ▸ h)) setT_asc
theorem count_open (hp : Pos cs) (he : ∀ c ∈ cs, c.1 < n ∧ c.2.1 < n) (hc : c < cs.length) : ((setT (rws n rs cs)).map fun r => r.getD 0 0).count (c : Int) = if hasR n rs cs c then 2 else 1 := by
  rw [List.count, List.countP_map, List.countP_eq_length_filter]
  have nd := List.Pairwise.filter ((fun x => x == (c : Int)) ∘ fun r : List Int => r.getD 0 0) (setT_nodup (xss := rws n rs cs))
  have mem : ∀ r, r ∈ (setT (rws n rs cs)).filter ((fun x => x == (c : Int)) ∘ fun r : List Int => r.getD 0 0) ↔ r = [(c : Int), (hdc n rs cs c : Int)] ∨ ∃ s, s < n ∧ re n rs cs s = some c ∧ r = [(c : Int), (s : Int)] := fun r => by
    rw [List.mem_filter, mem_setT]
    constructor
    · rintro ⟨h1, h2⟩
      obtain ⟨x, y, rfl, -, -⟩ := len_rws h1
      have hx : x = (c : Int) := by simpa using h2
      rcases mem_rws.mp h1 with ⟨c', _, e1, e2⟩ | ⟨s, c', hs, h3, e1, e2⟩
      · have : c' = c := by omega
        subst this
        exact Or.inl (by rw [e1, e2])
      · have : c' = c := by omega
        subst this
        exact Or.inr ⟨s, hs, h3, by rw [e1, e2]⟩
    · rintro (rfl | ⟨s, hs, h3, rfl⟩)
      · exact ⟨mem_rws.mpr (Or.inl ⟨c, hc, rfl, rfl⟩), by simp⟩
      · exact ⟨mem_rws.mpr (Or.inr ⟨s, c, hs, h3, rfl, rfl⟩), by simp⟩
  split
  · rename_i h
    obtain ⟨s, hs, h3⟩ := hasR_iff.mp h
    have hne := (hdc_re hp he hs h3).2
    have nd2 : ([[(c : Int), (hdc n rs cs c : Int)], [(c : Int), (s : Int)]] : List (List Int)).Nodup := by
      simp; omega
    have := ((List.perm_ext_iff_of_nodup nd nd2).mpr fun r => ?_).length_eq
    · rw [this]; rfl
    · rw [mem, List.mem_cons, List.mem_singleton]
      refine or_congr Iff.rfl ⟨?_, fun e => ⟨s, hs, h3, e⟩⟩
      rintro ⟨s', hs', h4, rfl⟩
      rw [re_inj hp he hs' hs h4 h3]
  · rename_i h
    have nd2 : ([[(c : Int), (hdc n rs cs c : Int)]] : List (List Int)).Nodup := by simp
    have := ((List.perm_ext_iff_of_nodup nd nd2).mpr fun r => ?_).length_eq
    · rw [this]; rfl
    · rw [mem, List.mem_singleton]
      refine ⟨?_, Or.inl⟩
      rintro (e | ⟨s', hs', h4, rfl⟩)
      · exact e
      · exact absurd (hasR_iff.mpr ⟨s', hs', h4⟩) h
/-! ways up -/
inductive Up (n : Nat) (rs : List Int) (cs : List Cb) : Nat → List Nat → Prop
  | nil {s : Nat} : re n rs cs s = none → Up n rs cs s []
  | cons {s c : Nat} {l : List Nat} : re n rs cs s = some c → Up n rs cs (far cs c s) l → Up n rs cs s (c :: l)
theorem up_ex (hp : Pos cs) (he : ∀ c ∈ cs, c.1 < n ∧ c.2.1 < n) : ∀ (N : Nat) (s : Nat), s < n → (co n rs cs s).toNat ≤ N → ∃ l, Up n rs cs s l := by
  intro N
  induction N with
  | zero =>
    intro s hs h
    cases e : re n rs cs s with
    | none => exact ⟨_, .nil e⟩
    | some c =>
      have := re_lt hp he hs e
      have := co_nn (rs := rs) hp (re_spec hp he hs e).2.1
      omega
  | succ N ih =>
    intro s hs h
    cases e : re n rs cs s with
    | none => exact ⟨_, .nil e⟩
    | some c =>
      have := re_lt hp he hs e
      have hf := (re_spec hp he hs e).2.1
      have := co_nn (rs := rs) hp hf
      obtain ⟨l, hl⟩ := ih _ hf (by omega)
      exact ⟨_, .cons e hl⟩
theorem up_all (hp : Pos cs) (he : ∀ c ∈ cs, c.1 < n ∧ c.2.1 < n) (hs : s < n) : ∃ l, Up n rs cs s l := up_ex hp he _ s hs (Nat.le_refl _)
theorem up_uniq : ∀ {s : Nat} {l l' : List Nat}, Up n rs cs s l → Up n rs cs s l' → l = l'
  | _, _, _, .nil _, .nil _ => rfl
  | _, _, _, .nil h, .cons h2 _ => by rw [h] at h2; cases h2
  | _, _, _, .cons h _, .nil h2 => by rw [h] at h2; cases h2
  | _, _, _, .cons h w, .cons h2 w2 => by
    rw [h] at h2; cases h2
    rw [up_uniq w w2]
theorem up_mem (hp : Pos cs) (he : ∀ c ∈ cs, c.1 < n ∧ c.2.1 < n) : ∀ {s : Nat} {l : List Nat}, s < n → Up n rs cs s l → ∀ c ∈ l, ∃ x A T, x < n ∧ re n rs cs x = some c ∧ co n rs cs x ≤ co n rs cs s ∧ l = A ++ c :: T ∧ Up n rs cs x (c :: T)
  | _, _, _, .nil _, c, hc => absurd hc (by simp)
  | s, _, hs, .cons (c := c0) (l := l) h w, c, hc => by
    by_cases e : c = c0
    · subst e
      exact ⟨s, [], l, hs, h, Int.le_refl _, rfl, .cons h w⟩
    · obtain ⟨x, A, T, h1, h2, h3, h4, h5⟩ := up_mem hp he (re_spec hp he hs h).2.1 w c ((List.mem_cons.mp hc).resolve_left e)
      have := re_lt hp he hs h
      exact ⟨x, c0 :: A, T, h1, h2, by omega, by rw [h4]; rfl, h5⟩
theorem up_lt (hp : Pos cs) (he : ∀ c ∈ cs, c.1 < n ∧ c.2.1 < n) {l : List Nat} (hs : s < n) (w : Up n rs cs s l) : ∀ c ∈ l, c < cs.length := fun c hc => by
  obtain ⟨x, A, T, h1, h2, _⟩ := up_mem hp he hs w c hc
  exact ends_lt (re_spec hp he h1 h2).1
theorem up_nodup (hp : Pos cs) (he : ∀ c ∈ cs, c.1 < n ∧ c.2.1 < n) : ∀ {s : Nat} {l : List Nat}, s < n → Up n rs cs s l → l.Nodup
  | _, _, _, .nil _ => .nil
  | s, _, hs, .cons (c := c0) (l := l) h w => by
    have hf := (re_spec hp he hs h).2.1
    refine List.nodup_cons.mpr ⟨fun hc => ?_, up_nodup hp he hf w⟩
    obtain ⟨x, A, T, h1, h2, h3, _⟩ := up_mem hp he hf w c0 hc
    have := re_inj hp he h1 hs h2 h
    subst this
    have := re_lt hp he hs h
    omega
theorem up_join (hp : Pos cs) (he : ∀ c ∈ cs, c.1 < n ∧ c.2.1 < n) {A B : List Nat} (hs : s < n) (ht : t < n) (hA : Up n rs cs s A) (hB : Up n rs cs t B) : ∀ c, c ∈ A → c ∈ B → ∃ A1 B1 T, A = A1 ++ c :: T ∧ B = B1 ++ c :: T := fun c h1 h2 => by
  obtain ⟨x, A1, T, x1, x2, -, e1, u1⟩ := up_mem hp he hs hA c h1
  obtain ⟨y, B1, T2, y1, y2, -, e2, u2⟩ := up_mem hp he ht hB c h2
  have := re_inj hp he x1 y1 x2 y2
  subst this
  have := up_uniq u1 u2
  cases this
  exact ⟨A1, B1, T, e1, e2⟩
end
theorem cons_cut {c : Nat} : ∀ {A P T U : List Nat}, c ∉ A → c ∉ P → A ++ c :: T = P ++ c :: U → A = P ∧ T = U
  | [], [], _, _, _, _, h => ⟨rfl, (List.cons.inj h).2⟩
  | [], p :: P, _, _, _, n2, h => by
    have := (List.cons.inj h).1
    subst this
    exact absurd List.mem_cons_self n2
  | a :: A, [], _, _, n1, _, h => by
    have := (List.cons.inj h).1
    subst this
    exact absurd List.mem_cons_self n1
  | a :: A, p :: P, _, _, n1, n2, h => by
    obtain ⟨h1, h2⟩ := List.cons.inj h
    subst h1
    obtain ⟨e1, e2⟩ := cons_cut (fun z => n1 (List.mem_cons_of_mem _ z)) (fun z => n2 (List.mem_cons_of_mem _ z)) h2
    exact ⟨by rw [e1], e2⟩
/-- two ways without their common end -/
theorem strip_eq {A B C : List Nat} (hA : (A ++ C).Nodup) (hB : (B ++ C).Nodup) (hj : ∀ c, c ∈ A ++ C → c ∈ B ++ C → ∃ A1 B1 T, A ++ C = A1 ++ c :: T ∧ B ++ C = B1 ++ c :: T) (hl : A = [] ∨ B = [] ∨ A.getLast? ≠ B.getLast?) :
    A = (A ++ C).filter (fun c => !decide (c ∈ B ++ C)) := by
  have nc : ∀ c ∈ A, c ∉ B ++ C := by
    intro c h1 h2
    obtain ⟨A1, B1, T, e1, e2⟩ := hj c (List.mem_append_left _ h1) h2
    obtain ⟨P, Q, e3⟩ := List.append_of_mem h1
    have hcC : c ∉ C := fun z => (List.nodup_append.mp hA).2.2 c h1 c z rfl
    -- T = Q ++ C
    have eT : A1 = P ∧ T = Q ++ C := by
      have : A1 ++ c :: T = P ++ c :: (Q ++ C) := by rw [← e1, e3, List.append_assoc]; rfl
      have n1 : c ∉ A1 := fun z => by
        rw [e1] at hA
        exact (List.nodup_append.mp hA).2.2 c z c List.mem_cons_self rfl
      have n2 : c ∉ P := fun z => by
        rw [e3] at hA
        have := (List.nodup_append.mp hA).1
        exact (List.nodup_append.mp this).2.2 c z c List.mem_cons_self rfl
      exact cons_cut n1 n2 this
    obtain ⟨rfl, rfl⟩ := eT
    have e4 : B = B1 ++ c :: Q := by
      have : B ++ C = (B1 ++ c :: Q) ++ C := by rw [e2, List.append_assoc]; rfl
      exact List.append_cancel_right this
    rcases hl with hl | hl | hl
    · rw [hl] at h1; cases h1
    · rw [hl] at e4; simp at e4
    · refine hl ?_
      rw [e3, e4]
      simp [List.getLast?_append, List.getLast?_cons]
  rw [List.filter_append, List.filter_eq_self.mpr fun c hc => by simpa using nc c hc, List.filter_eq_nil_iff.mpr fun c hc => by simp [hc], List.append_nil]
/-! cables alive join what hangs together -/
noncomputable def als (n : Nat) (rs : List Int) (cs : List Cb) : List Cb := (alv n rs cs).map (cb cs)
section
variable {n : Nat} {rs : List Int} {cs : List Cb} {s t u c : Nat}
theorem als_mem (hp : Pos cs) (he : ∀ c ∈ cs, c.1 < n ∧ c.2.1 < n) {x : Cb} (h : x ∈ als n rs cs) : x ∈ cs := by
  obtain ⟨k, hk, rfl⟩ := List.mem_map.mp h
  exact cb_mem (List.mem_range.mp (List.mem_filter.mp hk).1)
theorem ends_adj {ds : List Cb} (h : c ∈ ends cs s) (hd : cb cs c ∈ ds) : adj ds s (far cs c s) := by
  have a := ends_or h
  refine ⟨cb cs c, hd, ?_⟩
  unfold far
  split
  · rename_i z; exact Or.inl ⟨z.symm, rfl⟩
  · rename_i z; exact Or.inr ⟨a.resolve_left fun e => z e.symm, rfl⟩
theorem als_root (hp : Pos cs) (he : ∀ c ∈ cs, c.1 < n ∧ c.2.1 < n) : ∀ {s : Nat} {l : List Nat}, s < n → Up n rs cs s l → con (als n rs cs) s (rootP n rs cs s)
  | s, _, hs, .nil h => by rw [re_none.mp h]; exact con_refl
  | s, _, hs, .cons (c := c0) (l := l) h w => by
    obtain ⟨h1, h2, -, -⟩ := re_spec hp he hs h
    have a : adj (als n rs cs) s (far cs c0 s) := ends_adj h1 (List.mem_map.mpr ⟨c0, (mem_alv hp he).mpr ⟨s, hs, h⟩, rfl⟩)
    have := als_root hp he h2 w
    rw [rootP_con (con_adj (far_adj h1))]
    exact con_trans (con_adj a) this
theorem als_con (hp : Pos cs) (he : ∀ c ∈ cs, c.1 < n ∧ c.2.1 < n) (hs : s < n) (ht : t < n) : con (als n rs cs) s t ↔ con cs s t := by
  refine ⟨con_mono fun x hx => als_mem hp he hx, fun h => ?_⟩
  obtain ⟨l, hl⟩ := up_all (rs := rs) hp he hs
  obtain ⟨l2, hl2⟩ := up_all (rs := rs) hp he ht
  have a := als_root hp he hs hl
  have b := als_root hp he ht hl2
  rw [← rootP_con h] at b
  exact con_trans a (con_symm b)
end
end Nw
/-! as data -/
namespace Nw
open PySem PySem.Spec PyProof.Rows L2 Pv
def optI : Option Int → D
  | none => .none
  | some d => .int d
theorem optI_none : optI none = .none := rfl
theorem optI_some {d : Int} : optI (some d) = .int d := rfl
theorem at_gc {fs : List (Option Int)} {i : Int} {k : Nat} (e : i = (k : Int)) (h : k < fs.length) : atI (fs.map optI) i = some (optI (gc fs k)) := by
  rw [atI_map (j := k) e h]
  unfold gc
  rw [List.getD_eq_getElem?_getD, List.getElem?_eq_getElem h]
  rfl
theorem at_rk {rs : List Int} {i : Int} {k : Nat} (e : i = (k : Int)) (h : k < rs.length) : atI (rs.map PyData.int) i = some (.int (rk rs k)) := by
  rw [atI_map (j := k) e h]
  unfold rk
  rw [List.getD_eq_getElem?_getD, List.getElem?_eq_getElem h]
  rfl
theorem at_range {n : Nat} {f : Nat → D} {i : Int} {k : Nat} (e : i = (k : Int)) (h : k < n) : atI ((List.range n).map f) i = some (f k) := by
  rw [atI_map (j := k) e (by rw [List.length_range]; exact h), List.getElem_range]
theorem at_natD {xs : List Nat} {i : Int} {k x : Nat} (e : i = (k : Int)) (h : xs[k]? = some x) : atI (natD xs) i = some (.int (x : Int)) := by
  obtain ⟨hk, rfl⟩ := List.getElem?_eq_some_iff.mp h
  unfold natD
  rw [atI_map (j := k) e hk]
theorem part_comp {n : Nat} {cs : List Cb} {p : List Nat} (h : p ∈ partsP n cs) : ∃ r, r < n ∧ p = comp n cs r := by
  rw [parts_reps] at h
  obtain ⟨r, hr, rfl⟩ := List.mem_map.mp h
  unfold reps at hr
  exact ⟨r, List.mem_range.mp (List.mem_filter.mp hr).1, rfl⟩
theorem part_all {n : Nat} {cs : List Cb} {t : Nat} (h : t < n) : ∃ p ∈ partsP n cs, t ∈ p := by
  classical
  obtain ⟨r, h1, h2, h3⟩ := rep_of (cs := cs) t
  refine ⟨comp n cs r, ?_, mem_comp.mpr ⟨h, con_symm h2⟩⟩
  rw [parts_reps]
  refine List.mem_map.mpr ⟨r, ?_, rfl⟩
  unfold reps
  exact List.mem_filter.mpr ⟨List.mem_range.mpr (by omega), decide_eq_true h3⟩
theorem sh_natt {xs : List Nat} : SeqAt.shaped (.tuple (natD xs)) = true := by
  have := sh_intt (ns := xs.map fun (k : Nat) => (k : Int))
  rw [List.map_map] at this
  exact this
theorem at_coD {n : Nat} {f : Nat → Int} {i : Int} {k : Nat} (e : i = (k : Int)) (h : k < n) : atI (((List.range n).map f).map PyData.int) i = some (.int (f k)) := by
  rw [List.map_map]
  exact at_range e h
theorem cs_range {α : Type} {cs : List Cb} {f : Cb → α} : cs.map f = (List.range cs.length).map fun k => f (cb cs k) := by
  refine List.ext_getElem (by simp) fun k h1 h2 => ?_
  rw [List.getElem_map, List.getElem_map, List.getElem_range]
  have h : k < cs.length := by simpa using h1
  unfold cb
  rw [List.getD_eq_getElem?_getD, List.getElem?_eq_getElem h]; rfl
theorem cut_last {α : Type} {xs : List α} : Pv.cutD xs none (some (-1)) = xs.dropLast := by
  unfold Pv.cutD
  have e0 : HT.sIx xs.length 0 none = 0 := rfl
  have e1 : HT.sIx xs.length xs.length (some (-1)) = xs.length - 1 := by
    unfold HT.sIx
    simp
    omega
  rw [e0, e1, List.drop_zero, Nat.sub_zero, List.dropLast_eq_take]
theorem natD_rev {xs : List Nat} : (natD xs).reverse = natD xs.reverse := by unfold natD; rw [List.map_reverse]
theorem natD_app {xs ys : List Nat} : natD xs ++ natD ys = natD (xs ++ ys) := by unfold natD; rw [List.map_append]
theorem natD_dropLast {xs : List Nat} : (natD xs).dropLast = natD xs.dropLast := by unfold natD; rw [List.map_dropLast]
/-- both ways up without what they share -/
def strp (A B : List Nat) : List Nat := A.filter (fun c => !decide (c ∈ B)) ++ (B.filter fun c => !decide (c ∈ A)).reverse
/-- a comprehension by a function, over what a call tells -/
theorem w_mapE {gl : Nat → D} {cf : Nat → List Sl → Option (Rv × List Sl)} {env : Env'} {α : Type} {own : List Nat} {tg : Tg} {it : Pv.It} {elt : E} {Q : Rv → Env' → Prop} (g : α → D) (F : α → D)
    (h : WI gl cf it env fun xs e1 => ∃ ys : List α, xs = ys.map g ∧ (quiet e1 own = true ∧ ys.length ≤ line) ∧ @Ltr ⟨∀ y, y ∈ ys → Wtg tg (g y) (wipeE e1 own) fun e' => WE gl cf elt e' fun rv e3 => frz rv = F y ∧ wipeE e3 own = wipeE e1 own⟩ ∧
      @Ltr ⟨Q (.new (.lst (ys.map F))) (reAt it.bIx env (backE e1 (wipeE e1 own) own))⟩) : WE gl cf (.comp own tg it .nil elt) env Q := by
  obtain ⟨xs, e1, hI, ys, q⟩ := h
  exact w_mapT ys g F ⟨xs, e1, hI, q⟩
theorem pk5 {a b c d f u : Int} {P : Int → Prop} (h0 : 0 ≤ u) (h1 : u < 5) (ha : P a) (hb : P b) (hc : P c) (hd : P d) (hf : P f) : ∃ e, atI [PyData.int a, .int b, .int c, .int d, .int f] u = some (.int e) ∧ P e := by
  have : u = 0 ∨ u = 1 ∨ u = 2 ∨ u = 3 ∨ u = 4 := by omega
  rcases this with rfl | rfl | rfl | rfl | rfl
  · exact ⟨a, rfl, ha⟩
  · exact ⟨b, rfl, hb⟩
  · exact ⟨c, rfl, hc⟩
  · exact ⟨d, rfl, hd⟩
  · exact ⟨f, rfl, hf⟩
/-- a drawn net: parts or a whole -/
structure Gt (sw more whole : Nat) (rs : List Int) (cs : List Cb) : Prop where
  r : rs.length = sw
  rn : rs.Nodup
  l : cs.length ≤ sw + more
  e : ∀ c ∈ cs, c.1 < sw ∧ c.2.1 < sw
  n : ∀ c ∈ cs, c.1 ≠ c.2.1
  p : Pos cs
  b : ∀ c ∈ cs, Bnd c.2.2 250
  w : whole = 1 → ∀ x y, x < sw → y < sw → con cs x y
theorem tree_con {cs : List Cb} {n : Nat} (h : ∀ s, 1 ≤ s → s < n → ∃ b, b < s ∧ adj cs s b) : ∀ x y, x < n → y < n → con cs x y := by
  have z : ∀ N x, x ≤ N → x < n → con cs x 0 := by
    intro N
    induction N with
    | zero => intro x hx _; rw [show x = 0 by omega]; exact con_refl
    | succ N ih =>
      intro x hx hn
      by_cases h0 : x = 0
      · subst h0; exact con_refl
      · obtain ⟨b, hb, a⟩ := h x (by omega) hn
        exact con_trans (con_adj a) (ih b (by omega) (by omega))
  exact fun x y hx hy => con_trans (z x x (Nat.le_refl _) hx) (con_symm (z y y (Nat.le_refl _) hy))
theorem era_perm : ∀ (l : List Nat) (i : Nat) (h : i < l.length), (l[i] :: l.eraseIdx i).Perm l
  | x :: l, 0, _ => .refl _
  | x :: l, i + 1, h => by
    have hi : i < l.length := by simpa using h
    have := era_perm l i hi
    rw [List.eraseIdx_cons_succ, List.getElem_cons_succ]
    exact (List.Perm.swap x l[i] (l.eraseIdx i)).trans (this.cons x)
theorem eraseIdx_mapN : ∀ (xs : List Nat) (i : Nat), (natD xs).eraseIdx i = natD (xs.eraseIdx i)
  | [], i => by simp [natD]
  | x :: xs, 0 => by simp [natD]
  | x :: xs, i + 1 => by
    have := eraseIdx_mapN xs i
    simp only [natD, List.map_cons, List.eraseIdx_cons_succ] at this ⊢
    rw [this]
end Nw

namespace Nw
open PySem PySem.Spec PyProof.Rows L2 Pv
/-! ### groups by their least switch -/
def lb (fs : List Nat) (x : Nat) : Nat := fs.getD x 0
structure Lb (n : Nat) (cs : List Cb) (fs : List Nat) : Prop where
  l : fs.length = n
  r : ∀ x, x < n → lb fs x ≤ x ∧ isRep cs (lb fs x) ∧ con cs x (lb fs x)
theorem Lb.start {n : Nat} : Lb n [] (List.range n) where
  l := List.length_range
  r x hx := by
    have e : lb (List.range n) x = x := by unfold lb; rw [List.getD_eq_getElem?_getD, List.getElem?_range hx]; rfl
    rw [e]
    exact ⟨Nat.le_refl _, fun t ht h => by have := con_nil.mp h; omega, con_refl⟩
def lstep (fs : List Nat) (a b : Nat) : List Nat := fs.map fun p => if p = max (lb fs a) (lb fs b) then min (lb fs a) (lb fs b) else p
theorem Lb.step {n : Nat} {cs ds : List Cb} {fs : List Nat} (L : Lb n cs fs) {a b : Nat} {w : Int} (hm : ∀ c, c ∈ ds ↔ c ∈ cs ∨ c = (a, b, w)) (ha : a < n) (hb : b < n) : Lb n ds (lstep fs a b) := by
  obtain ⟨a1, a2, a3⟩ := L.r a ha
  obtain ⟨b1, b2, b3⟩ := L.r b hb
  have up : ∀ {x y}, con cs x y → con ds x y := fun h => (con_more hm).mpr (Or.inl h)
  have hab : con ds a b := (con_more hm).mpr (Or.inr (Or.inl ⟨con_refl, con_refl⟩))
  refine ⟨by unfold lstep; rw [List.length_map]; exact L.l, fun x hx => ?_⟩
  obtain ⟨x1, x2, x3⟩ := L.r x hx
  have e : lb (lstep fs a b) x = if lb fs x = max (lb fs a) (lb fs b) then min (lb fs a) (lb fs b) else lb fs x := by
    have hl : x < fs.length := by rw [L.l]; exact hx
    unfold lstep
    rw [show ∀ g : Nat → Nat, lb (fs.map g) x = g (lb fs x) from fun g => by
      unfold lb
      rw [List.getD_eq_getElem?_getD, List.getD_eq_getElem?_getD, List.getElem?_map, List.getElem?_eq_getElem hl]; rfl]
  rw [e]
  generalize lb fs a = p at *
  generalize lb fs b = q at *
  generalize lb fs x = r at *
  have hpq : con ds p q := con_trans (con_symm (up a3)) (con_trans hab (up b3))
  have low : ∀ t, t < min p q → ¬con ds (min p q) t := fun t ht h => by
    rcases (con_more hm).mp h with h | ⟨h1, h2⟩ | ⟨h1, h2⟩
    · rcases Nat.le_total p q with z | z
      · rw [Nat.min_eq_left z] at h ht; exact a2 t ht h
      · rw [Nat.min_eq_right z] at h ht; exact b2 t ht h
    · exact b2 t (by omega) (con_trans (con_symm b3) h2)
    · exact a2 t (by omega) (con_trans (con_symm a3) h2)
  split
  · rename_i hr
    refine ⟨by omega, low, ?_⟩
    rcases Nat.le_total p q with z | z
    · rw [Nat.min_eq_left z]; rw [Nat.max_eq_right z] at hr; subst hr
      exact con_trans (up x3) (con_symm hpq)
    · rw [Nat.min_eq_right z]; rw [Nat.max_eq_left z] at hr; subst hr
      exact con_trans (up x3) hpq
  · rename_i hr
    refine ⟨x1, fun t ht h => ?_, up x3⟩
    rcases (con_more hm).mp h with h | ⟨h1, h2⟩ | ⟨h1, h2⟩
    · exact x2 t ht h
    · have : r = p := rep_eq x2 a2 (con_trans h1 a3)
      exact b2 t (by omega) (con_trans (con_symm b3) h2)
    · have : r = q := rep_eq x2 b2 (con_trans h1 b3)
      exact a2 t (by omega) (con_trans (con_symm a3) h2)
theorem Lb.con {n : Nat} {cs : List Cb} {fs : List Nat} (L : Lb n cs fs) {x y : Nat} (hx : x < n) (hy : y < n) : lb fs x = lb fs y ↔ con cs x y := by
  obtain ⟨x1, x2, x3⟩ := L.r x hx
  obtain ⟨y1, y2, y3⟩ := L.r y hy
  constructor
  · intro e
    rw [e] at x3
    exact con_trans x3 (con_symm y3)
  · intro h
    exact rep_eq x2 y2 (con_trans (con_symm x3) (con_trans h y3))
theorem Lb.count {n : Nat} {cs : List Cb} {fs : List Nat} (L : Lb n cs fs) : (setI (ci fs)).length = (partsP n cs).length := by
  classical
  have e : setI (ci fs) = ci (reps n cs) := by
    refine asc_eq setI_asc ?_ fun z => ?_
    · unfold reps
      exact List.pairwise_map.mpr ((List.Pairwise.filter _ List.pairwise_lt_range).imp fun h => by omega)
    · rw [mem_setI, List.mem_map, List.mem_map]
      constructor
      · rintro ⟨y, hy, rfl⟩
        obtain ⟨x, hx, rfl⟩ := List.getElem_of_mem hy
        have hxn : x < n := by rw [← L.l]; exact hx
        have ey : lb fs x = fs[x] := by unfold lb; rw [List.getD_eq_getElem?_getD, List.getElem?_eq_getElem hx]; rfl
        obtain ⟨x1, x2, x3⟩ := L.r x hxn
        rw [ey] at x1 x2
        refine ⟨_, ?_, rfl⟩
        unfold reps
        exact List.mem_filter.mpr ⟨List.mem_range.mpr (by omega), decide_eq_true x2⟩
      · rintro ⟨r, hr, rfl⟩
        unfold reps at hr
        obtain ⟨h1, h2⟩ := List.mem_filter.mp hr
        have h1 := List.mem_range.mp h1
        have h2 := of_decide_eq_true h2
        obtain ⟨x1, x2, x3⟩ := L.r r h1
        have er := rep_eq h2 x2 x3
        refine ⟨r, ?_, rfl⟩
        have hl : r < fs.length := by rw [L.l]; exact h1
        have ey : lb fs r = fs[r] := by unfold lb; rw [List.getD_eq_getElem?_getD, List.getElem?_eq_getElem hl]; rfl
        rw [← er] at ey
        rw [ey]
        exact List.getElem_mem hl
  rw [e, List.length_map, parts_reps, List.length_map]
/-- reckoned -/
def labs (cs : List Cb) : List Nat → List Nat := fun fs => cs.foldl (fun fs c => lstep fs c.1 c.2.1) fs
theorem labs_lb {n : Nat} {cs : List Cb} (he : ∀ c ∈ cs, c.1 < n ∧ c.2.1 < n) : Lb n cs (labs cs (List.range n)) := by
  have go : ∀ (ds as : List Cb) (fs : List Nat), Lb n as fs → (∀ c ∈ ds, c.1 < n ∧ c.2.1 < n) → Lb n (as ++ ds) (labs ds fs) := by
    intro ds
    induction ds with
    | nil => intro as fs L _; rw [List.append_nil]; exact L
    | cons c r ih =>
      intro as fs L h
      obtain ⟨h1, h2⟩ := h c List.mem_cons_self
      have := ih (as ++ [c]) (lstep fs c.1 c.2.1) (L.step (w := c.2.2) (fun x => by rw [List.mem_append, List.mem_singleton]) h1 h2) fun x hx => h x (List.mem_cons_of_mem _ hx)
      rwa [List.append_assoc] at this
  exact go cs [] _ Lb.start he
/-! ### sides of the tree -/
/-- the cables alive without one -/
noncomputable def sub (n : Nat) (rs : List Int) (cs : List Cb) (k : Nat) : List Cb := ((alv n rs cs).filter fun j => decide (j ≠ k)).map (cb cs)
section
variable {n : Nat} {rs : List Int} {cs : List Cb} {s t k : Nat}
theorem alv_lt {c : Nat} (h : c ∈ alv n rs cs) : c < cs.length := List.mem_range.mp (List.mem_filter.mp h).1
theorem sub_he (he : ∀ c ∈ cs, c.1 < n ∧ c.2.1 < n) : ∀ c ∈ sub n rs cs k, c.1 < n ∧ c.2.1 < n := fun c hc => by
  obtain ⟨j, hj, rfl⟩ := List.mem_map.mp hc
  exact he _ (cb_mem (alv_lt (List.mem_filter.mp hj).1))
theorem sub_sides (hp : Pos cs) (he : ∀ c ∈ cs, c.1 < n ∧ c.2.1 < n) (hw : ∀ x y, x < n → y < n → con cs x y) (hk : k ∈ alv n rs cs) (hs : s < n) (ht : t < n) :
    con (sub n rs cs k) s t ↔ (con (sub n rs cs k) (cb cs k).1 s ↔ con (sub n rs cs k) (cb cs k).1 t) := by
  have hm : ∀ c, c ∈ als n rs cs ↔ c ∈ sub n rs cs k ∨ c = ((cb cs k).1, (cb cs k).2.1, (cb cs k).2.2) := fun c => by
    unfold als sub
    rw [List.mem_map, List.mem_map]
    constructor
    · rintro ⟨j, hj, rfl⟩
      by_cases e : j = k
      · subst e; exact Or.inr rfl
      · exact Or.inl ⟨j, List.mem_filter.mpr ⟨hj, decide_eq_true e⟩, rfl⟩
    · rintro (⟨j, hj, rfl⟩ | rfl)
      · exact ⟨j, (List.mem_filter.mp hj).1, rfl⟩
      · exact ⟨k, hk, rfl⟩
  obtain ⟨h1, h2⟩ := he _ (cb_mem (alv_lt hk))
  have side : ∀ x, x < n → ¬con (sub n rs cs k) (cb cs k).1 x → con (sub n rs cs k) (cb cs k).2.1 x := fun x hx hn => by
    have := (als_con (rs := rs) hp he h1 hx).mpr (hw _ _ h1 hx)
    rcases (con_more hm).mp this with h | ⟨_, h⟩ | ⟨_, h⟩
    · exact absurd h hn
    · exact h
    · exact absurd h hn
  constructor
  · intro h
    exact ⟨fun q => con_trans q h, fun q => con_trans q (con_symm h)⟩
  · intro h
    by_cases q : con (sub n rs cs k) (cb cs k).1 s
    · exact con_trans (con_symm q) (h.mp q)
    · exact con_trans (con_symm (side s hs q)) (side t ht fun z => q (h.mpr z))
end
/-! ### what some cables join with a switch, round by round -/
structure Sr (ds : List Cb) (s n : Nat) (found edge : List Nat) : Prop where
  m : s ∈ found
  c : ∀ x ∈ found, con ds s x
  nd : found.Nodup
  lt : ∀ x ∈ found, x < n
  e : ∀ x ∈ edge, x ∈ found
  cl : ∀ x ∈ found, x ∉ edge → ∀ y, adj ds x y → y ∈ found
structure Sm (ds : List Cb) (s n : Nat) (old edge found later : List Nat) (C : Nat → Nat → Prop) : Prop where
  m : s ∈ found
  c : ∀ x ∈ found, con ds s x
  nd : found.Nodup
  lt : ∀ x ∈ found, x < n
  e : ∀ x ∈ edge, x ∈ found
  fo : found = old ++ later
  cl : ∀ x ∈ old, x ∉ edge → ∀ y, adj ds x y → y ∈ found
  pr : ∀ a b, C a b → a ∈ edge → b ∈ found
section
variable {ds : List Cb} {s n : Nat} {old edge found later : List Nat} {C C' : Nat → Nat → Prop}
theorem Sr.first (h : s < n) : Sr ds s n [s] [s] :=
  ⟨by simp, fun x hx => by rw [List.mem_singleton.mp hx]; exact con_refl, by simp, fun x hx => by rw [List.mem_singleton.mp hx]; exact h, fun x hx => hx, fun x hx hn => absurd hx hn⟩
theorem Sr.sm (h : Sr ds s n found edge) : Sm ds s n found edge found [] (fun _ _ => False) :=
  ⟨h.m, h.c, h.nd, h.lt, h.e, by simp, h.cl, fun _ _ hc => hc.elim⟩
theorem Sm.weak (h : Sm ds s n old edge found later C) (hC : ∀ a b, C' a b → C a b) : Sm ds s n old edge found later C' :=
  ⟨h.m, h.c, h.nd, h.lt, h.e, h.fo, h.cl, fun a b hc => h.pr a b (hC a b hc)⟩
theorem Sm.keep (h : Sm ds s n old edge found later C) {x y : Nat} (hk : x ∈ edge → y ∈ found) : Sm ds s n old edge found later (fun a b => C a b ∨ (a = x ∧ b = y)) :=
  ⟨h.m, h.c, h.nd, h.lt, h.e, h.fo, h.cl, fun a b hc ha => by
    rcases hc with hc | ⟨rfl, rfl⟩
    · exact h.pr a b hc ha
    · exact hk ha⟩
theorem Sm.new (h : Sm ds s n old edge found later C) {x y : Nat} (hx : x ∈ edge) (ha : adj ds x y) (hy : y < n) (hn : y ∉ found) : Sm ds s n old edge (found ++ [y]) (later ++ [y]) (fun a b => C a b ∨ (a = x ∧ b = y)) := by
  have up : ∀ z, z ∈ found → z ∈ found ++ [y] := fun z hz => List.mem_append_left _ hz
  refine ⟨up _ h.m, fun z hz => ?_, List.nodup_append.mpr ⟨h.nd, by simp, fun a ha b hb e => hn (by rw [← List.mem_singleton.mp hb, ← e]; exact ha)⟩, fun z hz => ?_, fun z hz => up z (h.e z hz), by rw [h.fo, List.append_assoc], fun z hz hze w hw => up w (h.cl z hz hze w hw), fun a b hc hae => ?_⟩
  · rcases List.mem_append.mp hz with hz | hz
    · exact h.c z hz
    · rw [List.mem_singleton.mp hz]; exact con_trans (h.c x (h.e x hx)) (con_adj ha)
  · rcases List.mem_append.mp hz with hz | hz
    · exact h.lt z hz
    · rw [List.mem_singleton.mp hz]; exact hy
  · rcases hc with hc | ⟨rfl, rfl⟩
    · exact up b (h.pr a b hc hae)
    · exact List.mem_append_right _ (List.mem_singleton.mpr rfl)
theorem Sm.sr (h : Sm ds s n old edge found later C) (hC : ∀ a b, adj ds a b → C a b) : Sr ds s n found later :=
  ⟨h.m, h.c, h.nd, h.lt, fun x hx => by rw [h.fo]; exact List.mem_append_right _ hx, fun x hx hn y hxy => by
    have hx2 := hx
    rw [h.fo] at hx2
    have ho := (List.mem_append.mp hx2).resolve_right hn
    by_cases he : x ∈ edge
    · exact h.pr x y (hC x y hxy) he
    · exact h.cl x ho he y hxy⟩
theorem Sr.last (h : Sr ds s n found []) (x : Nat) : x ∈ found ↔ con ds s x := by
  refine ⟨h.c x, fun hc => ?_⟩
  obtain ⟨k, w⟩ := hc
  induction w with
  | nil => exact h.m
  | snoc _ a ih => exact h.cl _ ih (by simp) _ a
theorem Sr.len (h : Sr ds s n found edge) : found.length ≤ n := by
  have := nodup_le (ys := List.range n) h.nd fun z hz => List.mem_range.mpr (h.lt z hz)
  rwa [List.length_range] at this
theorem Sm.len (h : Sm ds s n old edge found later C) : found.length ≤ n := by
  have := nodup_le (ys := List.range n) h.nd fun z hz => List.mem_range.mpr (h.lt z hz)
  rwa [List.length_range] at this
end
open Classical in
/-- the cables that join the sides again -/
noncomputable def jn (n : Nat) (rs : List Int) (cs : List Cb) (k : Nat) : List Nat := (List.range cs.length).filter fun j => !decide (j ∈ alv n rs cs) && !decide (con (sub n rs cs k) (cb cs j).1 (cb cs j).2.1)
/-- the cables whose break leaves more parts -/
noncomputable def wk (n : Nat) (cs : List Cb) : List Nat := (List.range cs.length).filter fun k => decide ((partsP n cs).length < (partsP n (woc cs k)).length)
/-- the cheapest of some -/
def chp (cs : List Cb) (js : List Nat) : Option Nat := if js = [] then none else some ((mrow (js.map fun j => [(cb cs j).2.2, (j : Int)])).getD 1 0).toNat
theorem chp_row {cs : List Cb} {js : List Nat} (h : js ≠ []) : ∃ j, j ∈ js ∧ chp cs js = some j ∧ mrow (js.map fun (j : Nat) => [(cb cs j).2.2, (j : Int)]) = [(cb cs j).2.2, (j : Int)] := by
  obtain ⟨a, _⟩ := mrow_spec (xss := js.map fun (j : Nat) => [(cb cs j).2.2, (j : Int)]) (by simpa using h)
  obtain ⟨j, hj, e⟩ := List.mem_map.mp a
  refine ⟨j, hj, ?_, e.symm⟩
  unfold chp
  rw [if_neg h, ← e]; rfl
end Nw

/-! a list of places that grows while it is gone through -/
namespace Nw
open PySem PySem.Spec PyProof.Rows L2 Pv
structure Gw (cs : List Cb) (n s k : Nat) (P : List Nat) (E : List (Nat × Nat)) : Prop where
  nd : P.Nodup
  hd : P[0]? = some s
  lt : ∀ x ∈ P, x < n
  cn : ∀ x ∈ P, con cs s x
  dn : ∀ i, i < k → ∀ x, P[i]? = some x → ∀ y, adj cs x y → y ∈ P
  cur : ∀ x, P[k]? = some x → ∀ y, (x, y) ∈ E → y ∈ P
theorem Gw.len {cs : List Cb} {n s k : Nat} {P : List Nat} {E : List (Nat × Nat)} (h : Gw cs n s k P E) : P.length ≤ n := by
  have := nodup_le (ys := List.range n) h.nd fun z hz => List.mem_range.mpr (h.lt z hz)
  rwa [List.length_range] at this
theorem Gw.start {cs : List Cb} {n s : Nat} (hs : s < n) : Gw cs n s 0 [s] [] where
  nd := by simp
  hd := rfl
  lt := fun x hx => by rw [List.mem_singleton.mp hx]; exact hs
  cn := fun x hx => by rw [List.mem_singleton.mp hx]; exact con_refl
  dn := fun i hi => absurd hi (by omega)
  cur := fun x hx y hy => absurd hy (by simp)
theorem Gw.skip {cs : List Cb} {n s k : Nat} {P : List Nat} (h : Gw cs n s k P []) (hk : P.length ≤ k) : Gw cs n s (k + 1) P [] where
  nd := h.nd
  hd := h.hd
  lt := h.lt
  cn := h.cn
  dn := fun i hi x hx => by
    by_cases e : i < k
    · exact h.dn i e x hx
    · rw [List.getElem?_eq_none (by omega)] at hx; cases hx
  cur := fun x hx y hy => absurd hy (by simp)
theorem Gw.next {cs : List Cb} {n s k : Nat} {P : List Nat} {E : List (Nat × Nat)} (h : Gw cs n s k P E) (hE : ∀ x y, adj cs x y → (x, y) ∈ E) : Gw cs n s (k + 1) P [] where
  nd := h.nd
  hd := h.hd
  lt := h.lt
  cn := h.cn
  dn := fun i hi x hx y hy => by
    by_cases e : i < k
    · exact h.dn i e x hx y hy
    · have e : i = k := by omega
      subst e
      exact h.cur x hx y (hE x y hy)
  cur := fun x hx y hy => absurd hy (by simp)
/-- a pair that adds nothing -/
theorem Gw.keep {cs : List Cb} {n s k : Nat} {P : List Nat} {E : List (Nat × Nat)} (h : Gw cs n s k P E) {a b : Nat} (hk : P[k]? = some a → b ∈ P) : Gw cs n s k P (E ++ [(a, b)]) where
  nd := h.nd
  hd := h.hd
  lt := h.lt
  cn := h.cn
  dn := h.dn
  cur := fun x hx y hy => by
    rcases List.mem_append.mp hy with hy | hy
    · exact h.cur x hx y hy
    · rw [List.mem_singleton] at hy
      injection hy with h1 h2
      subst h1 h2
      exact hk hx
theorem get_app {α : Type} {P : List α} {k : Nat} {a y x : α} {i : Nat} (hk : P[k]? = some a) (hi : i ≤ k) (h : (P ++ [y])[i]? = some x) : P[i]? = some x := by
  have : k < P.length := by
    by_cases c : k < P.length
    · exact c
    · rw [List.getElem?_eq_none (by omega)] at hk; cases hk
  rwa [List.getElem?_append_left (by omega)] at h
theorem Gw.new {cs : List Cb} {n s k : Nat} {P : List Nat} {E : List (Nat × Nat)} (h : Gw cs n s k P E) {a b : Nat} (hk : P[k]? = some a) (ha : adj cs a b) (hb : b < n) (hn : b ∉ P) : Gw cs n s k (P ++ [b]) (E ++ [(a, b)]) where
  nd := List.nodup_append.mpr ⟨h.nd, by simp, fun x hx y hy e => by rw [List.mem_singleton.mp hy] at e; rw [e] at hx; exact hn hx⟩
  hd := by
    have : 0 < P.length := by
      cases P with
      | nil => exact absurd h.hd (by simp)
      | cons _ _ => simp
    rw [List.getElem?_append_left this]; exact h.hd
  lt := fun x hx => by
    rcases List.mem_append.mp hx with hx | hx
    · exact h.lt x hx
    · rw [List.mem_singleton.mp hx]; exact hb
  cn := fun x hx => by
    rcases List.mem_append.mp hx with hx | hx
    · exact h.cn x hx
    · rw [List.mem_singleton.mp hx]; exact con_trans (h.cn a (List.mem_of_getElem? hk)) (con_adj ha)
  dn := fun i hi x hx y hy => List.mem_append_left _ (h.dn i hi x (get_app hk (by omega) hx) y hy)
  cur := fun x hx y hy => by
    have hx := get_app hk (Nat.le_refl _) hx
    rcases List.mem_append.mp hy with hy | hy
    · exact List.mem_append_left _ (h.cur x hx y hy)
    · rw [List.mem_singleton] at hy
      injection hy with h1 h2
      subst h2
      exact List.mem_append_right _ (List.mem_singleton.mpr rfl)
theorem Gw.last {cs : List Cb} {n s : Nat} {P : List Nat} (h : Gw cs n s n P []) (x : Nat) : x ∈ P ↔ con cs s x := by
  refine ⟨h.cn x, fun hc => ?_⟩
  obtain ⟨k, w⟩ := hc
  induction w with
  | nil => exact List.mem_of_getElem? h.hd
  | snoc _ a ih =>
    obtain ⟨i, hi, e⟩ := List.mem_iff_getElem.mp ih
    have := h.len
    exact h.dn i (by omega) _ (by rw [List.getElem?_eq_getElem hi, e]) _ a
theorem Gw.sorted {cs : List Cb} {n s : Nat} {P : List Nat} (h : Gw cs n s n P []) : sortI (ci P) = ci (comp n cs s) :=
  sortI_is h.nd comp_asc fun z => by
    rw [mem_comp, ← h.last z]
    exact ⟨fun a => ⟨h.lt z a, a⟩, fun a => a.2⟩
end Nw

/-! groups over ports: plain -/
namespace Gr
open PySem PySem.Spec PyProof.Rows L2 Pv Nw
inductive Pt where
  | acc (g : Int)
  | trk (gs : List Int) (o : Option Int)
def own : Pt → List Int
  | .acc g => [g]
  | .trk gs _ => gs
def unt (p : Pt) (g : Int) : Bool := match p with
  | .acc _ => true
  | .trk _ o => decide (o = some g)
def plain : Pt → Option Int
  | .acc g => some g
  | .trk _ o => o
def tru : Pt → Bool
  | .acc _ => false
  | .trk _ _ => true
def over (p q : Pt) (g : Int) : Option Int := if g ∈ own p then (if unt p g = true then plain q else if tru q = true ∧ g ∈ own q then some g else none) else none
/-- a cable with its ports -/
abbrev Pc := Nat × Pt × Nat × Pt
def car (g : Int) (c : Pc) : Bool := decide (over c.2.1 c.2.2.2 g = some g) && decide (over c.2.2.2 c.2.1 g = some g)
def cbs (cs : List Pc) : List Cb := cs.map fun c => (c.1, c.2.2.1, 1)
def cc (cs : List Pc) (g : Int) : List Cb := cbs (cs.filter (car g))
def lkP (p q : Pt) : List (Int × Int) := (own p).filterMap fun g => match over p q g with
  | some h => if h = g then none else some (g, h)
  | none => none
theorem lk_nil {p q : Pt} (h : lkP p q = []) {g : Int} : over p q g = none ∨ over p q g = some g := by
  cases e : over p q g with
  | none => exact Or.inl rfl
  | some x =>
    by_cases hx : x = g
    · subst hx; exact Or.inr rfl
    · exfalso
      have hg : g ∈ own p := by
        unfold over at e
        split at e
        · assumption
        · cases e
      have := List.filterMap_eq_nil_iff.mp h g hg
      rw [e] at this
      simp [hx] at this
theorem cbs_pos {cs : List Pc} : Pos (cbs cs) := fun c hc => by
  obtain ⟨d, _, rfl⟩ := List.mem_map.mp hc
  exact Int.le_refl _
def Pok (n : Nat) (cs : List Pc) : Prop := ∀ c ∈ cs, c.1 < n ∧ c.2.2.1 < n
theorem cbs_ok {n : Nat} {cs : List Pc} (h : Pok n cs) (hl : cs.length ≤ 1000) (hn : n ≤ 400) : Nok n (cbs cs) := by
  refine ⟨fun c hc => ?_, by unfold cbs; rw [List.length_map]; omega, hn⟩
  obtain ⟨d, hd, rfl⟩ := List.mem_map.mp hc
  exact h d hd
theorem cc_e {n : Nat} {cs : List Pc} {g : Int} (h : Pok n cs) : ∀ c ∈ cc cs g, c.1 < n ∧ c.2.1 < n := fun c hc => by
  obtain ⟨d, hd, rfl⟩ := List.mem_map.mp hc
  exact h d (List.mem_filter.mp hd).1
theorem cc_len {cs : List Pc} {g : Int} : (cc cs g).length ≤ cs.length := by
  unfold cc cbs
  rw [List.length_map]
  exact List.length_filter_le _ _
/-! groups by labels -/
theorem Lb.heads {n : Nat} {cs : List Cb} {fs : List Nat} (L : Lb n cs fs) : (List.range n).filter (fun s => decide (lb fs s = s)) = reps n cs := by
  classical
  unfold reps
  refine List.filter_congr fun s hs => ?_
  have hs := List.mem_range.mp hs
  obtain ⟨l1, l2, l3⟩ := L.r s hs
  rw [Bool.eq_iff_iff, decide_eq_true_iff, decide_eq_true_iff]
  constructor
  · intro e; rw [e] at l2; exact l2
  · intro h
    exact rep_eq l2 h (con_symm l3)
theorem Lb.group {n : Nat} {cs : List Cb} {fs : List Nat} (L : Lb n cs fs) {h : Nat} (hh : h ∈ reps n cs) : (List.range n).filter (fun s => decide (lb fs s = h)) = comp n cs h := by
  classical
  unfold reps at hh
  obtain ⟨h1, h2⟩ := List.mem_filter.mp hh
  have h1 := List.mem_range.mp h1
  have h2 := of_decide_eq_true h2
  unfold comp
  refine List.filter_congr fun s hs => ?_
  have hs := List.mem_range.mp hs
  obtain ⟨l1, l2, l3⟩ := L.r s hs
  rw [Bool.eq_iff_iff, decide_eq_true_iff, con_dst]
  constructor
  · intro e; rw [e] at l3; exact con_symm l3
  · intro hc
    exact rep_eq l2 h2 (con_trans (con_symm l3) (con_symm hc))
/-! fewer cables, other names, alike trunks -/
theorem fewer_len {n : Nat} {ds es : List Cb} (hm : ∀ c ∈ ds, c ∈ es) : (partsP n es).length ≤ (partsP n ds).length := by
  classical
  rw [parts_reps, parts_reps, List.length_map, List.length_map]
  refine nodup_le ?_ fun x hx => ?_
  · unfold reps; exact List.Pairwise.filter _ List.nodup_range
  · unfold reps at *
    obtain ⟨h1, h2⟩ := List.mem_filter.mp hx
    have h2 := of_decide_eq_true h2
    exact List.mem_filter.mpr ⟨h1, decide_eq_true fun t ht c => h2 t ht (con_mono hm c)⟩
theorem one_of {l : List Nat} (h : l.Nodup) {r : Nat} (hr : r ∈ l) : (l.filter fun w => decide (w = r)).length = 1 := by
  induction l with
  | nil => cases hr
  | cons a t ih =>
    obtain ⟨h1, h2⟩ := List.nodup_cons.mp h
    by_cases e : a = r
    · subst e
      rw [List.filter_cons_of_pos (by simp)]
      have : t.filter (fun w => decide (w = a)) = [] := List.filter_eq_nil_iff.mpr fun x hx => by
        simp only [decide_eq_true_eq]
        intro e; subst e; exact h1 hx
      rw [this]; rfl
    · rw [List.filter_cons_of_neg (by simpa using e)]
      refine ih h2 ?_
      rcases List.mem_cons.mp hr with c | c
      · exact absurd c.symm e
      · exact c
theorem one_whole {n : Nat} {ds es : List Cb} (hm : ∀ c ∈ ds, c ∈ es) {p : List Nat} (hp : p ∈ partsP n ds) : ((partsP n es).filter fun w => decide ((p.filter fun x => decide (x ∈ w)).length = p.length)).length = 1 := by
  classical
  rw [parts_reps] at hp
  obtain ⟨r, hr, rfl⟩ := List.mem_map.mp hp
  have hrn : r < n := by unfold reps at hr; exact List.mem_range.mp (List.mem_filter.mp hr).1
  obtain ⟨q, q1, q2, q3⟩ := rep_of (cs := es) r
  have hq : q ∈ reps n es := by unfold reps; exact List.mem_filter.mpr ⟨List.mem_range.mpr (by omega), decide_eq_true q3⟩
  rw [parts_reps, List.filter_map, List.length_map]
  rw [← one_of (l := reps n es) (by unfold reps; exact List.Pairwise.filter _ List.nodup_range) hq]
  congr 1
  refine List.filter_congr fun w hw => ?_
  unfold reps at hw
  obtain ⟨w1, w2⟩ := List.mem_filter.mp hw
  have w1 := List.mem_range.mp w1
  have w2 := of_decide_eq_true w2
  show decide (((comp n ds r).filter fun x => decide (x ∈ comp n es w)).length = (comp n ds r).length) = _
  rw [Bool.eq_iff_iff, decide_eq_true_iff, decide_eq_true_iff, List.length_filter_eq_length_iff]
  constructor
  · intro h
    have := of_decide_eq_true (h r (comp_self hrn))
    exact rep_eq w2 q3 (con_trans (mem_comp.mp this).2 q2)
  · intro e x hx
    subst e
    obtain ⟨x1, x2⟩ := mem_comp.mp hx
    exact decide_eq_true (mem_comp.mpr ⟨x1, con_trans (con_symm q2) (con_mono hm x2)⟩)
def ren (l : List Nat) (cs : List Pc) : List Pc := cs.map fun c => (nm l c.1, c.2.1, nm l c.2.2.1, c.2.2.2)
theorem ren_cc {l : List Nat} {cs : List Pc} {g : Int} : cc (ren l cs) g = rnC l (cc cs g) := by
  unfold cc ren cbs rnC
  rw [List.filter_map, List.map_map, List.map_map]
  rfl
theorem ren_ok {n : Nat} {l : List Nat} (P : Pm n l) {cs : List Pc} (h : Pok n cs) : Pok n (ren l cs) := fun c hc => by
  obtain ⟨d, hd, rfl⟩ := List.mem_map.mp hc
  exact ⟨P.nm_lt (h d hd).1, P.nm_lt (h d hd).2⟩
def alk (p : Pt) (cs : List Pc) : List Pc := cs.map fun c => (c.1, p, c.2.2.1, p)
theorem alk_ok {n : Nat} {p : Pt} {cs : List Pc} (h : Pok n cs) : Pok n (alk p cs) := fun c hc => by
  obtain ⟨d, hd, rfl⟩ := List.mem_map.mp hc
  exact h d hd
theorem alk_all {gs : List Int} {o : Int} {g : Int} (hg : g ∈ gs) {cs : List Pc} : cc (alk (.trk gs (some o)) cs) g = cbs cs := by
  have hov : over (.trk gs (some o)) (.trk gs (some o)) g = some g := by
    unfold over
    rw [if_pos (show g ∈ own (.trk gs (some o)) from hg)]
    by_cases e : o = g
    · subst e
      rw [if_pos (show unt (.trk gs (some o)) o = true by unfold unt; simp)]
      rfl
    · rw [if_neg (show ¬ unt (.trk gs (some o)) g = true by unfold unt; simp [e])]
      rw [if_pos ⟨rfl, hg⟩]
  unfold cc alk cbs
  rw [List.filter_map, List.map_map]
  rw [List.filter_eq_self.mpr fun c _ => ?_]
  · rfl
  · show car g _ = true
    unfold car
    show (decide (over _ _ g = some g) && decide (over _ _ g = some g)) = true
    rw [hov]; simp
theorem alk_none {gs : List Int} {o : Option Int} {g : Int} (hg : g ∉ gs) {cs : List Pc} : cc (alk (.trk gs o) cs) g = [] := by
  unfold cc alk cbs
  rw [List.map_eq_nil_iff, List.filter_eq_nil_iff]
  intro c hc
  obtain ⟨d, hd, rfl⟩ := List.mem_map.mp hc
  unfold car over
  rw [if_neg (show ¬ g ∈ own (.trk gs o) from hg)]
  simp
theorem parts_nil {n : Nat} : partsP n [] = (List.range n).map fun x => [x] := by
  classical
  rw [parts_reps]
  have e : reps n [] = List.range n := by
    unfold reps
    refine List.filter_eq_self.mpr fun s _ => decide_eq_true fun t ht c => ?_
    have := con_nil.mp c
    omega
  rw [e]
  refine List.map_congr_left fun x hx => ?_
  have hx := List.mem_range.mp hx
  have hs : (comp n [] x).Pairwise (· < ·) := comp_asc
  have hm : ∀ z, z ∈ comp n [] x ↔ z = x := fun z => by
    rw [mem_comp, con_nil]
    exact ⟨fun h => h.2, fun h => ⟨h ▸ hx, h⟩⟩
  cases e : comp n [] x with
  | nil => have := (hm x).mpr rfl; rw [e] at this; cases this
  | cons a t =>
    rw [e] at hm hs
    have ha := (hm a).mp List.mem_cons_self
    cases t with
    | nil => rw [ha]
    | cons b u =>
      have hb := (hm b).mp (by simp)
      have := (List.pairwise_cons.mp hs).1 b (by simp)
      omega
end Gr

namespace K33
open PySem PySem.Spec Pv
def st (i : Nat) : Stmt := PySem.Challenge.pw_switchtrees_k33_whole_groups_as_nets.main.body.getD i (.Pass ⟨0, 0, 0, 0⟩)
def s_belongs_to : S := (.ret (.ife (.op .eq (.cons (.op .idx (.cons (.var 0) (.cons (.cst (.int 0)) .nil))) (.cons (.cst (.str "access")) .nil))) (.op .eq (.cons (.op .idx (.cons (.var 0) (.cons (.cst (.int 1)) .nil))) (.cons (.var 1) .nil))) (.op .inn (.cons (.var 1) (.cons (.op .idx (.cons (.var 0) (.cons (.cst (.int 1)) .nil))) .nil)))))
def d_belongs_to : Df := ⟨"belongs_to", st 1, ["port", "group"], ⟨2, 2, s_belongs_to⟩⟩
def s_is_untagged : S := (.ret (.or (.op .eq (.cons (.op .idx (.cons (.var 0) (.cons (.cst (.int 0)) .nil))) (.cons (.cst (.str "access")) .nil))) (.op .eq (.cons (.op .idx (.cons (.var 0) (.cons (.cst (.int 2)) .nil))) (.cons (.var 1) .nil)))))
def d_is_untagged : Df := ⟨"is_untagged", st 2, ["port", "group"], ⟨2, 2, s_is_untagged⟩⟩
def s_plain_group : S := (.ret (.ife (.op .eq (.cons (.op .idx (.cons (.var 0) (.cons (.cst (.int 0)) .nil))) (.cons (.cst (.str "access")) .nil))) (.op .idx (.cons (.var 0) (.cons (.cst (.int 1)) .nil))) (.op .idx (.cons (.var 0) (.cons (.cst (.int 2)) .nil)))))
def d_plain_group : Df := ⟨"plain_group", st 3, ["port"], ⟨1, 1, s_plain_group⟩⟩
def s_goes_over : S := (.seq (.ife (.not (.call 0 (.cons (.var 0) (.cons (.var 2) .nil)))) (.ret (.cst .none)) .pass)
    (.seq (.ife (.call 1 (.cons (.var 0) (.cons (.var 2) .nil))) (.ret (.call 2 (.cons (.var 1) .nil))) .pass)
    (.ret (.ife (.and (.op .eq (.cons (.op .idx (.cons (.var 1) (.cons (.cst (.int 0)) .nil))) (.cons (.cst (.str "trunk")) .nil))) (.op .inn (.cons (.var 2) (.cons (.op .idx (.cons (.var 1) (.cons (.cst (.int 1)) .nil))) .nil)))) (.var 2) (.cst .none)))))
def d_goes_over : Df := ⟨"goes_over", st 4, ["one", "other", "group"], ⟨3, 3, s_goes_over⟩⟩
def s_groups_of : S := (.ret (.ife (.op .eq (.cons (.op .idx (.cons (.var 0) (.cons (.cst (.int 0)) .nil))) (.cons (.cst (.str "access")) .nil))) (.tup (.cons (.op .idx (.cons (.var 0) (.cons (.cst (.int 1)) .nil))) .nil)) (.op .idx (.cons (.var 0) (.cons (.cst (.int 1)) .nil)))))
def d_groups_of : Df := ⟨"groups_of", st 5, ["port"], ⟨1, 1, s_groups_of⟩⟩
def s_leaks_of_l1 : S := (.seq (.set 4 (.fz (.call 3 (.cons (.var 0) (.cons (.var 1) (.cons (.var 3) .nil))))))
    (.ife (.and (.op .notN (.cons (.var 4) (.cons (.cst .none) .nil))) (.op .ne (.cons (.var 4) (.cons (.var 3) .nil)))) (.ex (.mth .append 2 (.cons (.tup (.cons (.var 3) (.cons (.var 4) .nil))) .nil))) .pass))
def s_leaks_of : S := (.seq (.set 2 (.lst .nil))
    (.seq (.fgt [3, 4] [] (.for (.nm 3) (.of (.call 4 (.cons (.var 0) .nil))) (.fgt [] [3, 4] s_leaks_of_l1)))
    (.ret (.op .tuple (.cons (.brw 2) .nil)))))
def d_leaks_of : Df := ⟨"leaks_of", st 6, ["one", "other", "found", "group", "behind"], ⟨5, 2, s_leaks_of⟩⟩
def s_goes_as_itself : S := (.ret (.op .eq (.cons (.call 3 (.cons (.var 0) (.cons (.var 1) (.cons (.var 2) .nil)))) (.cons (.var 2) .nil))))
def d_goes_as_itself : Df := ⟨"goes_as_itself", st 7, ["one", "other", "group"], ⟨3, 3, s_goes_as_itself⟩⟩
def s_carrying_cables_l1 : S := (.ife (.and (.call 6 (.cons (.var 4) (.cons (.var 6) (.cons (.var 1) .nil)))) (.call 6 (.cons (.var 6) (.cons (.var 4) (.cons (.var 1) .nil))))) (.ex (.mth .append 2 (.cons (.tup (.cons (.var 3) (.cons (.var 5) .nil))) .nil))) .pass)
def s_carrying_cables : S := (.seq (.set 2 (.lst .nil))
    (.seq (.fgt [3, 4, 5, 6] [] (.for (.tp [3, 4, 5, 6]) (.of (.var 0)) (.fgt [] [3, 4, 5, 6] s_carrying_cables_l1)))
    (.ret (.mov 2))))
def d_carrying_cables : Df := ⟨"carrying_cables", st 8, ["cables", "group", "found", "switch", "port", "far_switch", "far_port"], ⟨7, 2, s_carrying_cables⟩⟩
def s_switches_of_group_l1 : S := (.seq (.unp [7, 8] (.op .sorted (.cons (.lst (.cons (.op .idx (.cons (.var 3) (.cons (.var 5) .nil))) (.cons (.op .idx (.cons (.var 3) (.cons (.var 6) .nil))) .nil))) .nil)))
    (.set 3 (.fz (.comp [10] (.nm 10) (.of (.var 3)) .nil (.ife (.op .eq (.cons (.var 10) (.cons (.var 8) .nil))) (.var 7) (.var 10))))))
def s_switches_of_group : S := (.seq (.set 3 (.fz (.op .lstR (.cons (.var 0) .nil))))
    (.seq (.fgt [5, 6, 7, 8] [] (.for (.tp [5, 6]) (.of (.call 7 (.cons (.var 1) (.cons (.var 2) .nil)))) (.fgt [] [5, 6, 7, 8] s_switches_of_group_l1)))
    (.seq (.set 4 (.fz (.comp [9] (.nm 9) (.rng (.cons (.var 0) .nil)) (.cons (.op .eq (.cons (.op .idx (.cons (.var 3) (.cons (.var 9) .nil))) (.cons (.var 9) .nil))) .nil) (.var 9))))
    (.ret (.op .tuple (.cons (.comp [11] (.nm 11) (.of (.var 4)) .nil (.op .tuple (.cons (.comp [9] (.nm 9) (.rng (.cons (.var 0) .nil)) (.cons (.op .eq (.cons (.op .idx (.cons (.var 3) (.cons (.var 9) .nil))) (.cons (.var 11) .nil))) .nil) (.var 9)) .nil))) .nil))))))
def d_switches_of_group : Df := ⟨"switches_of_group", st 9, ["count", "cables", "group", "names", "heads", "one", "other", "low", "high", "switch", "name", "head"], ⟨12, 3, s_switches_of_group⟩⟩
def s_ends_of : S := (.ret (.op .tuple (.cons (.comp [2] (.nm 2) (.rng (.cons (.op .len (.cons (.op .idx (.cons (.var 0) (.cons (.cst (.int 1)) .nil))) .nil)) .nil)) (.cons (.op .inn (.cons (.var 1) (.cons (.op (.slc false true) (.cons (.op .idx (.cons (.op .idx (.cons (.var 0) (.cons (.cst (.int 1)) .nil))) (.cons (.var 2) .nil))) (.cons (.cst (.int 2)) .nil))) .nil))) .nil) (.var 2)) .nil)))
def d_ends_of : Df := ⟨"ends_of", st 11, ["net", "switch", "number"], ⟨3, 2, s_ends_of⟩⟩
def s_far_end : S := (.seq (.unp [3, 4, 5] (.op .idx (.cons (.op .idx (.cons (.var 0) (.cons (.cst (.int 1)) .nil))) (.cons (.var 1) .nil))))
    (.ret (.ife (.op .eq (.cons (.var 2) (.cons (.var 3) .nil))) (.var 4) (.var 3))))
def d_far_end : Df := ⟨"far_end", st 12, ["net", "cable", "switch", "one", "other", "cost"], ⟨6, 3, s_far_end⟩⟩
def s_steps_of_l1 : S := (.seq (.set 7 (.fz (.call 10 (.cons (.var 0) (.cons (.var 6) (.cons (.var 5) .nil))))))
    (.ife (.op .isN (.cons (.op .idx (.cons (.brw 2) (.cons (.var 7) .nil))) (.cons (.cst .none) .nil))) (.seq (.st 2 (.var 7) (.op .add (.cons (.op .idx (.cons (.brw 2) (.cons (.var 5) .nil))) (.cons (.cst (.int 1)) .nil))))
    (.ex (.mth .append 4 (.cons (.var 7) .nil)))) .pass))
def s_steps_of_l2 : S := (.fgt [6, 7] [] (.for (.nm 6) (.of (.call 9 (.cons (.var 0) (.cons (.var 5) .nil)))) (.fgt [] [6, 7] s_steps_of_l1)))
def s_steps_of_l3 : S := (.seq (.set 4 (.lst .nil))
    (.seq (.fgt [5, 6, 7] [] (.for (.nm 5) (.of (.var 3)) (.fgt [] [5, 6, 7] s_steps_of_l2)))
    (.set 3 (.var 4))))
def s_steps_of : S := (.seq (.set 2 (.op .mul (.cons (.lst (.cons (.cst .none) .nil)) (.cons (.op .len (.cons (.op .idx (.cons (.var 0) (.cons (.cst (.int 0)) .nil))) .nil)) .nil))))
    (.seq (.st 2 (.var 1) (.cst (.int 0)))
    (.seq (.set 3 (.fz (.lst (.cons (.var 1) .nil))))
    (.seq (.fgt [4, 5, 6, 7] [] (.whl (.op .gt (.cons (.op .len (.cons (.var 3) .nil)) (.cons (.cst (.int 0)) .nil))) (.fgt [] [4, 5, 6, 7] s_steps_of_l3)))
    (.ret (.op .tuple (.cons (.brw 2) .nil)))))))
def d_steps_of : Df := ⟨"steps_of", st 13, ["net", "switch", "found", "edge", "later", "here", "cable", "there"], ⟨8, 2, s_steps_of⟩⟩
def s_parts_of_net_l1 : S := (.seq (.set 3 (.fz (.call 11 (.cons (.var 0) (.cons (.var 2) .nil)))))
    (.seq (.set 4 (.fz (.op .tuple (.cons (.comp [5] (.nm 5) (.rng (.cons (.op .len (.cons (.op .idx (.cons (.var 0) (.cons (.cst (.int 0)) .nil))) .nil)) .nil)) (.cons (.op .notN (.cons (.op .idx (.cons (.var 3) (.cons (.var 5) .nil))) (.cons (.cst .none) .nil))) .nil) (.var 5)) .nil))))
    (.ife (.op .eq (.cons (.op .idx (.cons (.var 4) (.cons (.cst (.int 0)) .nil))) (.cons (.var 2) .nil))) (.ex (.mth .append 1 (.cons (.var 4) .nil))) .pass)))
def s_parts_of_net : S := (.seq (.set 1 (.lst .nil))
    (.seq (.fgt [2, 3, 4] [] (.for (.nm 2) (.rng (.cons (.op .len (.cons (.op .idx (.cons (.var 0) (.cons (.cst (.int 0)) .nil))) .nil)) .nil)) (.fgt [] [2, 3, 4] s_parts_of_net_l1)))
    (.ret (.op .tuple (.cons (.brw 1) .nil)))))
def d_parts_of_net : Df := ⟨"parts_of_net", st 14, ["net", "found", "switch", "steps", "part", "other"], ⟨6, 1, s_parts_of_net⟩⟩
def s__law_draws : S := (.seq (.set 2 (.comp [7] (.nm 7) (.of (.var 0)) .nil (.op .int (.cons (.var 7) .nil))))
    (.seq (.ife (.op .eq (.cons (.op .len (.cons (.brw 2) .nil)) (.cons (.cst (.int 0)) .nil))) (.ex (.mth .append 2 (.cons (.cst (.int 0)) .nil))) .pass)
    (.seq (.set 3 (.op .list (.cons (.brw 2) .nil)))
    (.seq (.set 4 (.lst .nil))
    (.seq (.for (.nm 5) (.rng (.cons (.var 1) .nil)) (.seq (.set 6 (.op .mod (.cons (.var 5) (.cons (.op .len (.cons (.brw 2) .nil)) .nil))))
    (.ife (.and (.op .ge (.cons (.op .idx (.cons (.brw 2) (.cons (.var 6) .nil))) (.cons (.op .pow (.cons (.cst (.int 10)) (.cons (.cst (.int 18)) .nil))) .nil))) (.op .gt (.cons (.op .idx (.cons (.brw 3) (.cons (.var 6) .nil))) (.cons (.cst (.int 0)) .nil)))) (.seq (.ex (.mth .append 4 (.cons (.op .mod (.cons (.op .int (.cons (.op .idx (.cons (.brw 3) (.cons (.var 6) .nil))) .nil)) (.cons (.cst (.int 1000)) .nil))) .nil)))
    (.st 3 (.var 6) (.op .fdiv (.cons (.op .idx (.cons (.brw 3) (.cons (.var 6) .nil))) (.cons (.cst (.int 1000)) .nil))))) (.seq (.set 8 (.op .mod (.cons (.op .int (.cons (.op .add (.cons (.op .add (.cons (.op .mul (.cons (.op .idx (.cons (.brw 2) (.cons (.var 6) .nil))) (.cons (.cst (.int 48271)) .nil))) (.cons (.op .mul (.cons (.var 5) (.cons (.cst (.int 69621)) .nil))) .nil))) (.cons (.cst (.int 11)) .nil))) .nil)) (.cons (.cst (.int 2147483647)) .nil))))
    (.ex (.mth .append 4 (.cons (.op .mod (.cons (.op .int (.cons (.op .add (.cons (.op .add (.cons (.op .mul (.cons (.var 8) (.cons (.var 8) .nil))) (.cons (.op .mul (.cons (.cst (.int 3)) (.cons (.var 8) .nil))) .nil))) (.cons (.var 5) .nil))) .nil)) (.cons (.cst (.int 1000003)) .nil))) .nil)))))))
    (.seq (.ex (.mth .reverse 4 .nil))
    (.ret (.mov 4))))))))
def d__law_draws : Df := ⟨"_law_draws", st 16, ["script", "many", "cells", "rest", "draws", "k", "at", "cell", "once"], ⟨9, 2, s__law_draws⟩⟩
def s__law_take : S := (.seq (.ife (.op .eq (.cons (.op .len (.cons (.brw 0) .nil)) (.cons (.cst (.int 0)) .nil))) (.ret (.cst (.int 0))) .pass)
    (.ret (.op .mod (.cons (.op .int (.cons (.mth .pop 0 .nil) .nil)) (.cons (.var 1) .nil)))))
def d__law_take : Df := ⟨"_law_take", st 17, ["draws", "many"], ⟨2, 2, s__law_take⟩⟩
def s__law_same : S := (.seq (.ife (.op .isB (.cons (.var 1) .nil)) (.ret (.and (.op .isB (.cons (.var 0) .nil)) (.op .eq (.cons (.var 0) (.cons (.var 1) .nil))))) .pass)
    (.seq (.ife (.op .isI (.cons (.var 1) .nil)) (.ret (.and (.op .isI (.cons (.var 0) .nil)) (.and (.not (.op .isB (.cons (.var 0) .nil))) (.op .eq (.cons (.var 0) (.cons (.var 1) .nil)))))) .pass)
    (.seq (.ife (.op .isS (.cons (.var 1) .nil)) (.ret (.and (.op .isS (.cons (.var 0) .nil)) (.op .eq (.cons (.var 0) (.cons (.var 1) .nil))))) .pass)
    (.seq (.ife (.op .isN (.cons (.var 1) (.cons (.cst .none) .nil))) (.ret (.op .isN (.cons (.var 0) (.cons (.cst .none) .nil)))) .pass)
    (.seq (.ife (.or (.not (.op .isT (.cons (.var 0) .nil))) (.op .ne (.cons (.op .len (.cons (.var 0) .nil)) (.cons (.op .len (.cons (.var 1) .nil)) .nil)))) (.ret (.cst (.bool false))) .pass)
    (.seq (.for (.nm 2) (.rng (.cons (.op .len (.cons (.var 1) .nil)) .nil)) (.ife (.not (.call 15 (.cons (.op .idx (.cons (.var 0) (.cons (.var 2) .nil))) (.cons (.op .idx (.cons (.var 1) (.cons (.var 2) .nil))) .nil)))) (.ret (.cst (.bool false))) .pass))
    (.ret (.cst (.bool true)))))))))
def d__law_same : Df := ⟨"_law_same", st 18, ["actual", "due", "k"], ⟨3, 2, s__law_same⟩⟩
def s__law_groups : S := (.ret (.op .tuple (.cons (.comp [2] (.nm 2) (.rng (.cons (.op .neg (.cons (.cst (.int 2)) .nil)) (.cons (.op .sub (.cons (.var 1) (.cons (.cst (.int 2)) .nil))) .nil))) (.cons (.op .eq (.cons (.call 14 (.cons (.mov 0) (.cons (.cst (.int 2)) .nil))) (.cons (.cst (.int 0)) .nil))) .nil) (.var 2)) .nil)))
def d__law_groups : Df := ⟨"_law_groups", st 19, ["draws", "wide", "group"], ⟨3, 2, s__law_groups⟩⟩
def s__law_port : S := (.seq (.set 2 (.fz (.call 14 (.cons (.mov 0) (.cons (.cst (.int 3)) .nil)))))
    (.seq (.ife (.op .eq (.cons (.var 2) (.cons (.cst (.int 0)) .nil))) (.ret (.tup (.cons (.cst (.str "access")) (.cons (.op .sub (.cons (.call 14 (.cons (.mov 0) (.cons (.var 1) .nil))) (.cons (.cst (.int 2)) .nil))) .nil)))) .pass)
    (.seq (.set 3 (.fz (.call 16 (.cons (.mov 0) (.cons (.var 1) .nil)))))
    (.seq (.ife (.and (.op .eq (.cons (.var 2) (.cons (.cst (.int 1)) .nil))) (.op .gt (.cons (.op .len (.cons (.var 3) .nil)) (.cons (.cst (.int 0)) .nil)))) (.ret (.tup (.cons (.cst (.str "trunk")) (.cons (.var 3) (.cons (.op .idx (.cons (.var 3) (.cons (.call 14 (.cons (.mov 0) (.cons (.op .len (.cons (.var 3) .nil)) .nil))) .nil))) .nil))))) .pass)
    (.ret (.tup (.cons (.cst (.str "trunk")) (.cons (.var 3) (.cons (.cst .none) .nil)))))))))
def d__law_port : Df := ⟨"_law_port", st 20, ["draws", "wide", "kind", "groups"], ⟨4, 2, s__law_port⟩⟩
def s__law_own : S := (.seq (.ife (.op .eq (.cons (.op .idx (.cons (.var 0) (.cons (.cst (.int 0)) .nil))) (.cons (.cst (.str "access")) .nil))) (.ret (.tup (.cons (.op .idx (.cons (.var 0) (.cons (.cst (.int 1)) .nil))) .nil))) .pass)
    (.ret (.op .idx (.cons (.var 0) (.cons (.cst (.int 1)) .nil)))))
def d__law_own : Df := ⟨"_law_own", st 21, ["port"], ⟨1, 1, s__law_own⟩⟩
def s__law_behind : S := (.seq (.ife (.op .notin (.cons (.var 2) (.cons (.call 18 (.cons (.var 0) .nil)) .nil))) (.ret (.cst .none)) .pass)
    (.seq (.set 3 (.and (.op .eq (.cons (.op .idx (.cons (.var 0) (.cons (.cst (.int 0)) .nil))) (.cons (.cst (.str "trunk")) .nil))) (.op .ne (.cons (.op .idx (.cons (.var 0) (.cons (.cst (.int 2)) .nil))) (.cons (.var 2) .nil)))))
    (.seq (.ife (.not (.var 3)) (.seq (.ife (.op .eq (.cons (.op .idx (.cons (.var 1) (.cons (.cst (.int 0)) .nil))) (.cons (.cst (.str "access")) .nil))) (.ret (.op .idx (.cons (.var 1) (.cons (.cst (.int 1)) .nil)))) .pass)
    (.ret (.op .idx (.cons (.var 1) (.cons (.cst (.int 2)) .nil))))) .pass)
    (.seq (.ife (.and (.op .eq (.cons (.op .idx (.cons (.var 1) (.cons (.cst (.int 0)) .nil))) (.cons (.cst (.str "trunk")) .nil))) (.op .inn (.cons (.var 2) (.cons (.op .idx (.cons (.var 1) (.cons (.cst (.int 1)) .nil))) .nil)))) (.ret (.var 2)) .pass)
    (.ret (.cst .none))))))
def d__law_behind : Df := ⟨"_law_behind", st 22, ["one", "other", "group", "tagged"], ⟨4, 3, s__law_behind⟩⟩
def s__law_cables_l1 : S := (.seq (.set 7 (.fz (.call 14 (.cons (.mov 0) (.cons (.var 1) .nil)))))
    (.seq (.set 8 (.fz (.op .mod (.cons (.op .int (.cons (.op .add (.cons (.op .add (.cons (.var 7) (.cons (.cst (.int 1)) .nil))) (.cons (.call 14 (.cons (.mov 0) (.cons (.op .sub (.cons (.var 1) (.cons (.cst (.int 1)) .nil))) .nil))) .nil))) .nil)) (.cons (.var 1) .nil)))))
    (.seq (.set 9 (.fz (.lst (.cons (.call 17 (.cons (.mov 0) (.cons (.cst (.int 6)) .nil))) (.cons (.op .idx (.cons (.var 4) (.cons (.call 14 (.cons (.mov 0) (.cons (.cst (.int 3)) .nil))) .nil))) .nil)))))
    (.seq (.set 10 (.op .idx (.cons (.var 9) (.cons (.var 3) .nil))))
    (.seq (.set 11 (.op .idx (.cons (.lst (.cons (.call 17 (.cons (.mov 0) (.cons (.cst (.int 6)) .nil))) (.cons (.op .idx (.cons (.lst (.cons (.var 10) (.cons (.op .idx (.cons (.var 4) (.cons (.call 14 (.cons (.mov 0) (.cons (.cst (.int 3)) .nil))) .nil))) .nil))) (.cons (.call 14 (.cons (.mov 0) (.cons (.cst (.int 2)) .nil))) .nil))) .nil))) (.cons (.var 3) .nil))))
    (.ex (.mth .append 5 (.cons (.tup (.cons (.var 7) (.cons (.var 10) (.cons (.var 8) (.cons (.var 11) .nil))))) .nil))))))))
def s__law_cables : S := (.seq (.set 4 (.fz (.comp [6] (.nm 6) (.rng (.cons (.cst (.int 3)) .nil)) .nil (.call 17 (.cons (.mov 0) (.cons (.cst (.int 6)) .nil))))))
    (.seq (.set 5 (.lst .nil))
    (.seq (.fgt [6, 7, 8, 9, 10, 11] [] (.for (.nm 6) (.rng (.cons (.op .mul (.cons (.var 2) (.cons (.op .int (.cons (.op .gt (.cons (.var 1) (.cons (.cst (.int 1)) .nil))) .nil)) .nil))) .nil)) (.fgt [] [6, 7, 8, 9, 10, 11] s__law_cables_l1)))
    (.ret (.op .tuple (.cons (.brw 5) .nil))))))
def d__law_cables : Df := ⟨"_law_cables", st 23, ["draws", "count", "many", "style", "kinds", "found", "k", "one", "other", "ports", "port", "far"], ⟨12, 4, s__law_cables⟩⟩
def s__law_carries : S := (.ret (.and (.op .eq (.cons (.call 19 (.cons (.op .idx (.cons (.var 0) (.cons (.cst (.int 1)) .nil))) (.cons (.op .idx (.cons (.var 0) (.cons (.cst (.int 3)) .nil))) (.cons (.var 1) .nil)))) (.cons (.var 1) .nil))) (.op .eq (.cons (.call 19 (.cons (.op .idx (.cons (.var 0) (.cons (.cst (.int 3)) .nil))) (.cons (.op .idx (.cons (.var 0) (.cons (.cst (.int 1)) .nil))) (.cons (.var 1) .nil)))) (.cons (.var 1) .nil)))))
def d__law_carries : Df := ⟨"_law_carries", st 24, ["cable", "group"], ⟨2, 2, s__law_carries⟩⟩
def s__law_parts_l1 : S := (.ife (.and (.op .eq (.cons (.var 10) (.cons (.op .idx (.cons (.brw 6) (.cons (.var 7) .nil))) .nil))) (.op .notin (.cons (.var 8) (.cons (.brw 6) .nil)))) (.ex (.mth .append 6 (.cons (.var 8) .nil))) .pass)
def s__law_parts_l2 : S := (.fgt [] [8, 10] (.ife (.call 21 (.cons (.var 9) (.cons (.var 2) .nil))) (.fgt [8, 10] [] (.for (.tp [10, 8]) (.of (.lst (.cons (.tup (.cons (.op .idx (.cons (.var 9) (.cons (.cst (.int 0)) .nil))) (.cons (.op .idx (.cons (.var 9) (.cons (.cst (.int 2)) .nil))) .nil))) (.cons (.tup (.cons (.op .idx (.cons (.var 9) (.cons (.cst (.int 2)) .nil))) (.cons (.op .idx (.cons (.var 9) (.cons (.cst (.int 0)) .nil))) .nil))) .nil)))) (.fgt [] [8, 10] s__law_parts_l1))) .pass))
def s__law_parts_l3 : S := (.fgt [] [8, 9, 10] (.ife (.op .lt (.cons (.var 7) (.cons (.op .len (.cons (.brw 6) .nil)) .nil))) (.fgt [8, 9, 10] [] (.for (.nm 9) (.of (.var 1)) (.fgt [] [8, 9, 10] s__law_parts_l2))) .pass))
def s__law_parts_l4 : S := (.seq (.set 6 (.lst (.cons (.var 5) .nil)))
    (.seq (.fgt [7, 8, 9, 10] [] (.for (.nm 7) (.rng (.cons (.var 0) .nil)) (.fgt [] [7, 8, 9, 10] s__law_parts_l3)))
    (.fgt [] [8] (.ife (.op .notin (.cons (.var 5) (.cons (.brw 4) .nil))) (.seq (.ex (.mth .append 3 (.cons (.op .tuple (.cons (.op .sorted (.cons (.brw 6) .nil)) .nil)) .nil)))
    (.fgt [8] [] (.for (.nm 8) (.of (.brw 6)) (.fgt [] [8] (.st 4 (.var 8) (.cst (.bool true))))))) .pass))))
def s__law_parts : S := (.seq (.set 3 (.lst .nil))
    (.seq (.set 4 .dct)
    (.seq (.fgt [5, 6, 7, 8, 9, 10] [] (.for (.nm 5) (.rng (.cons (.var 0) .nil)) (.fgt [] [5, 6, 7, 8, 9, 10] s__law_parts_l4)))
    (.ret (.op .tuple (.cons (.brw 3) .nil))))))
def d__law_parts : Df := ⟨"_law_parts", st 25, ["count", "cables", "group", "found", "seen", "switch", "part", "k", "other", "cable", "one"], ⟨11, 3, s__law_parts⟩⟩
def s__law_net : S := (.ret (.tup (.cons (.op .tupR (.cons (.var 0) .nil)) (.cons (.op .tuple (.cons (.comp [2] (.nm 2) (.of (.var 1)) .nil (.tup (.cons (.op .idx (.cons (.var 2) (.cons (.cst (.int 0)) .nil))) (.cons (.op .idx (.cons (.var 2) (.cons (.cst (.int 2)) .nil))) (.cons (.cst (.int 1)) .nil))))) .nil)) .nil))))
def d__law_net : Df := ⟨"_law_net", st 26, ["count", "cables", "cable"], ⟨3, 2, s__law_net⟩⟩
def s__law_row_right_r1 : S := (.seq (.set 12 (.fz (.call 3 (.cons (.op .idx (.cons (.var 10) (.cons (.cst (.int 0)) .nil))) (.cons (.op .idx (.cons (.var 10) (.cons (.cst (.int 1)) .nil))) (.cons (.var 5) .nil))))))
    (.seq (.ife (.not (.call 15 (.cons (.var 12) (.cons (.call 19 (.cons (.op .idx (.cons (.var 10) (.cons (.cst (.int 0)) .nil))) (.cons (.op .idx (.cons (.var 10) (.cons (.cst (.int 1)) .nil))) (.cons (.var 5) .nil)))) .nil)))) (.ret (.cst (.bool false))) .pass)
    (.seq (.set 5 (.var 12))
    (.set 4 (.var 11)))))
def s__law_row_right_l1 : S := (.seq (.set 8 (.fz (.comp [9] (.nm 9) (.of (.var 1)) (.cons (.op .inn (.cons (.var 4) (.cons (.lst (.cons (.op .idx (.cons (.var 9) (.cons (.cst (.int 0)) .nil))) (.cons (.op .idx (.cons (.var 9) (.cons (.cst (.int 2)) .nil))) .nil))) .nil))) .nil) (.var 9))))
    (.fgt [] [9, 10, 11, 12] (.ife (.and (.op .gt (.cons (.op .len (.cons (.var 8) .nil)) (.cons (.cst (.int 0)) .nil))) (.op .notN (.cons (.var 5) (.cons (.cst .none) .nil)))) (.seq (.set 9 (.op .idx (.cons (.var 8) (.cons (.call 14 (.cons (.mov 0) (.cons (.op .len (.cons (.var 8) .nil)) .nil))) .nil))))
    (.seq (.set 10 (.tup (.cons (.op .idx (.cons (.var 9) (.cons (.cst (.int 1)) .nil))) (.cons (.op .idx (.cons (.var 9) (.cons (.cst (.int 3)) .nil))) .nil))))
    (.seq (.set 11 (.op .idx (.cons (.var 9) (.cons (.cst (.int 2)) .nil))))
    (.seq (.ife (.op .ne (.cons (.op .idx (.cons (.var 9) (.cons (.cst (.int 0)) .nil))) (.cons (.var 4) .nil))) (.seq (.set 10 (.tup (.cons (.op .idx (.cons (.var 9) (.cons (.cst (.int 3)) .nil))) (.cons (.op .idx (.cons (.var 9) (.cons (.cst (.int 1)) .nil))) .nil))))
    (.set 11 (.op .idx (.cons (.var 9) (.cons (.cst (.int 0)) .nil))))) .pass)
    s__law_row_right_r1)))) .pass)))
def s__law_row_right : S := (.seq (.set 4 (.var 3))
    (.seq (.set 5 (.var 2))
    (.seq (.fgt [6, 8, 9, 10, 11, 12] [] (.for (.nm 6) (.rng (.cons (.cst (.int 6)) .nil)) (.fgt [] [6, 8, 9, 10, 11, 12] s__law_row_right_l1)))
    (.seq (.set 7 (.fz (.comp [9] (.nm 9) (.of (.var 1)) (.cons (.or (.op .ne (.cons (.call 5 (.cons (.op .idx (.cons (.var 9) (.cons (.cst (.int 1)) .nil))) (.cons (.op .idx (.cons (.var 9) (.cons (.cst (.int 3)) .nil))) .nil))) (.cons (.tup .nil) .nil))) (.op .ne (.cons (.call 5 (.cons (.op .idx (.cons (.var 9) (.cons (.cst (.int 3)) .nil))) (.cons (.op .idx (.cons (.var 9) (.cons (.cst (.int 1)) .nil))) .nil))) (.cons (.tup .nil) .nil)))) .nil) (.var 9))))
    (.ret (.or (.op .gt (.cons (.op .len (.cons (.var 7) .nil)) (.cons (.cst (.int 0)) .nil))) (.or (.op .isN (.cons (.var 5) (.cons (.cst .none) .nil))) (.op .eq (.cons (.var 5) (.cons (.var 2) .nil))))))))))
def d__law_row_right : Df := ⟨"_law_row_right", st 27, ["draws", "cables", "group", "start", "here", "own", "step", "leaking", "near", "cable", "ports", "far", "told"], ⟨13, 4, s__law_row_right⟩⟩
def s__law_right_l1 : S := (.ife (.op .ne (.cons (.op .len (.cons (.comp [22] (.nm 22) (.of (.var 8)) (.cons (.op .eq (.cons (.op .len (.cons (.comp [21] (.nm 21) (.of (.var 15)) (.cons (.op .inn (.cons (.var 21) (.cons (.var 22) .nil))) .nil) (.var 21)) .nil)) (.cons (.op .len (.cons (.var 15) .nil)) .nil))) .nil) (.var 22)) .nil)) (.cons (.cst (.int 1)) .nil))) (.ret (.cst (.bool false))) .pass)
def s__law_right_l2 : S := (.seq (.set 8 (.fz (.call 22 (.cons (.var 1) (.cons (.var 3) (.cons (.var 4) .nil))))))
    (.seq (.ife (.not (.call 15 (.cons (.call 8 (.cons (.var 1) (.cons (.var 3) (.cons (.var 4) .nil)))) (.cons (.var 8) .nil)))) (.ret (.cst (.bool false))) .pass)
    (.seq (.set 12 (.fz (.op .tuple (.cons (.comp [16] (.nm 16) (.of (.var 3)) (.cons (.call 21 (.cons (.var 16) (.cons (.var 4) .nil))) .nil) (.var 16)) .nil))))
    (.seq (.ife (.not (.call 15 (.cons (.call 12 (.cons (.call 23 (.cons (.var 1) (.cons (.var 12) .nil))) .nil)) (.cons (.var 8) .nil)))) (.ret (.cst (.bool false))) .pass)
    (.seq (.ife (.not (.call 24 (.cons (.mov 0) (.cons (.var 3) (.cons (.var 4) (.cons (.call 14 (.cons (.mov 0) (.cons (.var 1) .nil))) .nil)))))) (.ret (.cst (.bool false))) .pass)
    (.fgt [] [13, 14, 15] (.ife (.op .gt (.cons (.op .len (.cons (.var 3) .nil)) (.cons (.cst (.int 0)) .nil))) (.seq (.set 13 (.fz (.call 14 (.cons (.mov 0) (.cons (.op .len (.cons (.var 3) .nil)) .nil)))))
    (.seq (.set 14 (.fz (.call 8 (.cons (.var 1) (.cons (.op .add (.cons (.op (.slc false true) (.cons (.var 3) (.cons (.var 13) .nil))) (.cons (.op (.slc true false) (.cons (.var 3) (.cons (.op .add (.cons (.var 13) (.cons (.cst (.int 1)) .nil))) .nil))) .nil))) (.cons (.var 4) .nil))))))
    (.seq (.ife (.or (.not (.op .isT (.cons (.var 14) .nil))) (.op .lt (.cons (.op .len (.cons (.var 14) .nil)) (.cons (.op .len (.cons (.var 8) .nil)) .nil)))) (.ret (.cst (.bool false))) .pass)
    (.fgt [15] [] (.for (.nm 15) (.of (.var 14)) (.fgt [] [15] s__law_right_l1)))))) .pass)))))))
def s__law_right_l3 : S := (.ife (.not (.call 15 (.cons (.call 8 (.cons (.var 1) (.cons (.var 11) (.cons (.var 4) .nil)))) (.cons (.call 12 (.cons (.call 23 (.cons (.var 1) (.cons (.var 3) .nil))) .nil)) .nil)))) (.ret (.cst (.bool false))) .pass)
def s__law_right : S := (.seq (.set 3 (.fz (.call 20 (.cons (.mov 0) (.cons (.var 1) (.cons (.var 2) (.cons (.call 14 (.cons (.mov 0) (.cons (.cst (.int 2)) .nil))) .nil)))))))
    (.seq (.fgt [4, 8, 12, 13, 14, 15] [] (.for (.nm 4) (.of (.lst (.cons (.op .neg (.cons (.cst (.int 2)) .nil)) (.cons (.op .neg (.cons (.cst (.int 1)) .nil)) (.cons (.cst (.int 0)) (.cons (.cst (.int 1)) (.cons (.cst (.int 9)) .nil))))))) (.fgt [] [4, 8, 12, 13, 14, 15] s__law_right_l2)))
    (.seq (.set 5 (.op .lstR (.cons (.var 1) .nil)))
    (.seq (.fgt [6] [] (.for (.nm 6) (.rng (.cons (.var 1) .nil)) (.fgt [] [6] (.ex (.mth .append 5 (.cons (.mth .popAt 5 (.cons (.call 14 (.cons (.mov 0) (.cons (.var 1) .nil))) .nil)) .nil))))))
    (.seq (.set 7 (.fz (.op .tuple (.cons (.comp [17, 18, 19, 20] (.tp [17, 18, 19, 20]) (.of (.var 3)) .nil (.tup (.cons (.op .idx (.cons (.brw 5) (.cons (.var 17) .nil))) (.cons (.var 18) (.cons (.op .idx (.cons (.brw 5) (.cons (.var 19) .nil))) (.cons (.var 20) .nil)))))) .nil))))
    (.seq (.set 8 (.fz (.op .tuple (.cons (.op .sorted (.cons (.comp [15] (.nm 15) (.of (.call 22 (.cons (.var 1) (.cons (.var 3) (.cons (.cst (.int 0)) .nil))))) .nil (.op .tuple (.cons (.op .sorted (.cons (.comp [21] (.nm 21) (.of (.var 15)) .nil (.op .idx (.cons (.brw 5) (.cons (.var 21) .nil)))) .nil)) .nil))) .nil)) .nil))))
    (.seq (.ife (.not (.call 15 (.cons (.call 8 (.cons (.var 1) (.cons (.var 7) (.cons (.cst (.int 0)) .nil)))) (.cons (.var 8) .nil)))) (.ret (.cst (.bool false))) .pass)
    (.seq (.set 9 (.fz (.op .add (.cons (.tup (.cons (.cst (.int 0)) .nil)) (.cons (.op .tuple (.cons (.comp [4] (.nm 4) (.rng (.cons (.cst (.int 1)) (.cons (.cst (.int 6)) .nil))) (.cons (.op .eq (.cons (.call 14 (.cons (.mov 0) (.cons (.cst (.int 2)) .nil))) (.cons (.cst (.int 0)) .nil))) .nil) (.var 4)) .nil)) .nil)))))
    (.seq (.set 10 (.tup (.cons (.cst (.str "trunk")) (.cons (.var 9) (.cons (.op .idx (.cons (.var 9) (.cons (.call 14 (.cons (.mov 0) (.cons (.op .len (.cons (.var 9) .nil)) .nil))) .nil))) .nil)))))
    (.seq (.set 11 (.fz (.op .tuple (.cons (.comp [17, 18, 19, 20] (.tp [17, 18, 19, 20]) (.of (.var 3)) .nil (.tup (.cons (.var 17) (.cons (.var 10) (.cons (.var 19) (.cons (.var 10) .nil)))))) .nil))))
    (.seq (.fgt [4] [] (.for (.nm 4) (.of (.var 9)) (.fgt [] [4] s__law_right_l3)))
    (.ret (.call 15 (.cons (.call 8 (.cons (.var 1) (.cons (.var 11) (.cons (.cst (.int 77)) .nil)))) (.cons (.op .tuple (.cons (.comp [21] (.nm 21) (.rng (.cons (.var 1) .nil)) .nil (.tup (.cons (.var 21) .nil))) .nil)) .nil)))))))))))))))
def d__law_right : Df := ⟨"_law_right", st 28, ["draws", "count", "many", "cables", "group", "names", "k", "named", "due", "groups", "trunk", "alike", "carrying", "at", "fewer", "part", "cable", "one", "port", "other", "far", "switch", "whole"], ⟨23, 3, s__law_right⟩⟩
def s_law : S := (.seq (.set 1 (.call 13 (.cons (.var 0) (.cons (.cst (.int 820)) .nil))))
    (.seq (.ife (.or (.not (.call 25 (.cons (.mov 1) (.cons (.op .add (.cons (.cst (.int 1)) (.cons (.call 14 (.cons (.mov 1) (.cons (.cst (.int 5)) .nil))) .nil))) (.cons (.call 14 (.cons (.mov 1) (.cons (.cst (.int 8)) .nil))) .nil))))) (.not (.call 25 (.cons (.mov 1) (.cons (.op .add (.cons (.cst (.int 1)) (.cons (.call 14 (.cons (.mov 1) (.cons (.cst (.int 10)) .nil))) .nil))) (.cons (.call 14 (.cons (.mov 1) (.cons (.cst (.int 21)) .nil))) .nil)))))) (.ret (.cst (.bool false))) .pass)
    (.seq (.set 2 (.tup (.cons (.cst (.str "access")) (.cons (.cst (.int 4)) .nil))))
    (.seq (.set 3 (.tup (.cons (.cst (.str "trunk")) (.cons (.tup (.cons (.cst (.int 4)) (.cons (.cst (.int 6)) .nil))) (.cons (.cst (.int 4)) .nil)))))
    (.seq (.set 4 (.tup (.cons (.tup (.cons (.cst (.int 0)) (.cons (.var 2) (.cons (.cst (.int 1)) (.cons (.var 3) .nil))))) (.cons (.tup (.cons (.cst (.int 1)) (.cons (.var 3) (.cons (.cst (.int 2)) (.cons (.tup (.cons (.cst (.str "trunk")) (.cons (.tup (.cons (.cst (.int 4)) (.cons (.cst (.int 6)) .nil))) (.cons (.cst .none) .nil)))) .nil))))) (.cons (.tup (.cons (.cst (.int 2)) (.cons (.tup (.cons (.cst (.str "access")) (.cons (.cst (.int 6)) .nil))) (.cons (.cst (.int 3)) (.cons (.tup (.cons (.cst (.str "access")) (.cons (.cst (.int 4)) .nil))) .nil))))) .nil)))))
    (.seq (.ife (.or (.not (.call 15 (.cons (.call 8 (.cons (.cst (.int 4)) (.cons (.var 4) (.cons (.cst (.int 4)) .nil)))) (.cons (.tup (.cons (.tup (.cons (.cst (.int 0)) (.cons (.cst (.int 1)) .nil))) (.cons (.tup (.cons (.cst (.int 2)) .nil)) (.cons (.tup (.cons (.cst (.int 3)) .nil)) .nil)))) .nil)))) (.not (.call 15 (.cons (.call 8 (.cons (.cst (.int 4)) (.cons (.var 4) (.cons (.cst (.int 6)) .nil)))) (.cons (.tup (.cons (.tup (.cons (.cst (.int 0)) .nil)) (.cons (.tup (.cons (.cst (.int 1)) (.cons (.cst (.int 2)) .nil))) (.cons (.tup (.cons (.cst (.int 3)) .nil)) .nil)))) .nil))))) (.ret (.cst (.bool false))) .pass)
    (.ret (.and (.call 15 (.cons (.call 5 (.cons (.tup (.cons (.cst (.str "access")) (.cons (.cst (.int 6)) .nil))) (.cons (.var 2) .nil))) (.cons (.tup (.cons (.tup (.cons (.cst (.int 6)) (.cons (.cst (.int 4)) .nil))) .nil)) .nil))) (.call 25 (.cons (.mov 1) (.cons (.cst (.int 3)) (.cons (.cst (.int 4)) .nil))))))))))))
def d_law : Df := ⟨"law", st 29, ["script", "draws", "access", "trunk", "cables"], ⟨5, 1, s_law⟩⟩
def tx : Tx := ⟨[d_belongs_to, d_is_untagged, d_plain_group, d_goes_over, d_groups_of, d_leaks_of, d_goes_as_itself, d_carrying_cables, d_switches_of_group, d_ends_of, d_far_end, d_steps_of, d_parts_of_net, d__law_draws, d__law_take, d__law_same, d__law_groups, d__law_port, d__law_own, d__law_behind, d__law_cables, d__law_carries, d__law_parts, d__law_net, d__law_row_right, d__law_right, d_law], [], ["tuple", "list", "range", "sorted", "len", "int", "isinstance", "bool", "str"], false⟩
theorem tx_ok : tx.ok = true := by decide +kernel
variable {N j : Nat}
theorem tk {m : Mo} {many : Int} (hm : Drw m) (h0 : 0 < many) : WC (tx.call N (j + 1)) 14 [.io m, .val (.int many)] fun rv sl => ∃ v m', rv = .val (.int v) ∧ 0 ≤ v ∧ v < many ∧ Drw m' ∧ sl = [.io m', .val (.int many)] := take_ok (d := d__law_take) rfl rfl hm h0
theorem dr {ns : List Int} {many : Nat} (hS : Sc ns) (hm : many ≤ 1000000) : WC (tx.call N (j + 1)) 13 [.val (scrD (ns.map .int)), .val (.int (many : Int))] fun rv sl => ∃ m, rv = .new m ∧ Drw m ∧ sl = [.val (scrD (ns.map .int)), .val (.int (many : Int))] := by first | exact draws_ok (d := d__law_draws) rfl rfl hS hm | exact draws2_ok (d := d__law_draws) rfl rfl hS hm
theorem sm {d : D} (h : Pl j d) : WC (tx.call N (j + 1)) 15 [.val d, .val d] fun rv sl => rv = .val (.bool true) ∧ sl = [.val d, .val d] := by first | exact same_ok (d := d__law_same) rfl rfl j d h | exact same2_ok (d := d__law_same) rfl rfl j d h
end K33

namespace Pv
open PySem PySem.Spec PyProof.Rows L2
/-! ### law k33 -/
end Pv
namespace K33
open PySem PySem.Spec PyProof.Rows L2 Pv Nw
variable {N k : Nat}
/-! nets: ends, steps, parts -/
theorem rep1 {n : Nat} {d : D} : (List.replicate n [d]).flatten = List.replicate n d := by
  induction n with
  | zero => rfl
  | succ n ih => rw [List.replicate_succ, List.flatten_cons, ih]; rfl
theorem ends_ok {rs : List Int} {cs : List Cb} {s : Nat} (hl : cs.length ≤ 100000) : FV (tx.call N (k + 1)) 9 [netD rs cs, .int (s : Int)] (.tuple (natD (ends cs s))) := by
  have e0 : netD rs cs = .tuple [.tuple (rs.map .int), .tuple (cs.map cbD)] := rfl
  refine wc_go (d := d_ends_of) (slots := 3) (p := 2) (b := s_ends_of) (env := [.val (netD rs cs), .val (.int (s : Int)), .no]) rfl rfl rfl rfl ?_
  unfold s_ends_of
  walk_at "ev"
  rw [e0]
  refine w_fmT (List.range cs.length) (fun (k : Nat) => .int (k : Int)) (fun k => hasE (cb cs k) s) (fun (k : Nat) => .int (k : Int)) ?_
  walk_at "ev"
  refine ⟨by simp; omega, rg0m, by simp; omega, ltr fun k hk => ?_, ltr ?_⟩
  · have hk := List.mem_range.mp hk
    walk_at "ev"
    rw [wat (at_cb rfl hk)]
    walk_at "ev"
    have ec : Pv.cutD [PyData.int ((cb cs k).1 : Int), PyData.int ((cb cs k).2.1 : Int), PyData.int (cb cs k).2.2] none (some 2) = [PyData.int ((cb cs k).1 : Int), PyData.int ((cb cs k).2.1 : Int)] := rfl
    rw [ec]
    refine ⟨sh_ints (ns := [((cb cs k).1 : Int), ((cb cs k).2.1 : Int)]), ?_⟩
    rw [List.any_cons, List.any_cons, List.any_nil, eqv_int, eqv_int, Bool.or_false]
    unfold hasE
    have q1 : decide (((cb cs k).1 : Int) = (s : Int)) = decide ((cb cs k).1 = s) := decide_eq_decide.mpr (by omega)
    have q2 : decide (((cb cs k).2.1 : Int) = (s : Int)) = decide ((cb cs k).2.1 = s) := decide_eq_decide.mpr (by omega)
    rw [q1, q2]
    refine wif (fun h => ?_) (fun h => ?_)
    all_goals (walk_at "ev"; simp only [h])
  · walk_at "ev"
    all_goals (first | rfl | exact ⟨rfl, rfl⟩ | exact ⟨rfl, trivial⟩)
theorem far_ok {rs : List Int} {cs : List Cb} {s c : Nat} (hc : c < cs.length) : FV (tx.call N (k + 1)) 10 [netD rs cs, .int (c : Int), .int (s : Int)] (.int (far cs c s : Int)) := by
  have e0 : netD rs cs = .tuple [.tuple (rs.map .int), .tuple (cs.map cbD)] := rfl
  refine wc_go (d := d_far_end) (slots := 6) (p := 3) (b := s_far_end) (env := [.val (netD rs cs), .val (.int (c : Int)), .val (.int (s : Int)), .no, .no, .no]) rfl rfl rfl rfl ?_
  unfold s_far_end
  walk_at "ev"
  rw [e0]
  walk_at "ev"
  rw [wat (at_cb rfl hc)]
  walk_at "ev"
  unfold far
  refine wif (fun h => ?_) (fun h => ?_)
  · rw [decide_eq_true_eq] at h
    walk_at "ev"
    rw [if_pos (by omega)]
    all_goals (first | rfl | exact ⟨rfl, rfl⟩ | exact ⟨rfl, trivial⟩)
  · rw [decide_eq_false_iff_not] at h
    walk_at "ev"
    rw [if_neg (by omega)]
    all_goals (first | rfl | exact ⟨rfl, rfl⟩ | exact ⟨rfl, trivial⟩)
theorem steps_ok {rs : List Int} {cs : List Cb} {s : Nat} (h : Nok rs.length cs) (hs : s < rs.length) : FV (tx.call 1000 (k + 2)) 11 [netD rs cs, .int (s : Int)] (.tuple ((List.range rs.length).map fun t => optD (dst cs s t))) := by
  have e0 : netD rs cs = .tuple [.tuple (rs.map .int), .tuple (cs.map cbD)] := rfl
  have hn := h.n
  refine wc_go (d := d_steps_of) (slots := 8) (p := 2) (b := s_steps_of) (env := [.val (netD rs cs), .val (.int (s : Int)), .no, .no, .no, .no, .no, .no]) rfl rfl rfl rfl ?_
  unfold s_steps_of
  walk_at "ev"
  rw [e0]
  walk_at "ev"
  rw [← e0]
  refine ⟨by rw [List.length_map]; omega, ?_⟩
  rw [rep1, List.length_map]
  rw [wix (b := s) (ixN_some rfl (by rw [List.length_replicate]; exact hs))]
  walk_at "ev"
  have e1 : (List.replicate rs.length PyData.none).set s (.int 0) = ((List.replicate rs.length (none : Option Nat)).set s (some 0)).map optD := by
    rw [List.map_set, List.map_replicate]; rfl
  rw [e1]
  refine s_whlV [2, 3] (fun m ss => ∃ (fs : List (Option Nat)) (edge : List Nat) (r : Nat), ss = [.loc (.lst (fs.map optD)), .val (.list (natD edge))] ∧ Rd cs s rs.length r edge fs ∧ m = 2 * nn fs + (if edge = [] then 0 else 1)) ⟨_, ?_, _, [s], 0, rfl, Rd.first hs, rfl⟩ fun m ss ⟨fs, edge, r, e, hR, hm⟩ => ?_
  · have h1 : nn ((List.replicate rs.length (none : Option Nat)).set s (some 0)) ≤ rs.length := by
      have : nn ((List.replicate rs.length (none : Option Nat)).set s (some 0)) ≤ ((List.replicate rs.length (none : Option Nat)).set s (some 0)).length := List.countP_le_length
      rw [List.length_set, List.length_replicate] at this; exact this
    rw [if_neg (by simp)]
    omega
  · subst e
    walk_at "ev"
    have ee : (natD edge).length = edge.length := by unfold natD; rw [List.length_map]
    rw [ee]
    refine wif (fun hp => ?_) (fun hp => ?_)
    · rw [decide_eq_true_eq] at hp
      walk_at "ev"
      unfold s_steps_of_l3
      walk_at "ev"
      unfold natD
      refine s_forT edge (fun (k : Nat) => .int (k : Int)) [2, 4] (fun i ss => ∃ (gs : List (Option Nat)) (later : List Nat), ss = [.loc (.lst (gs.map optD)), .loc (.lst (natD later))] ∧ Md cs s rs.length r edge (nn fs) gs later (fun a b => adj cs a b ∧ (a ∉ edge ∨ a ∈ edge.take i))) ?_
      walk_at "ev"
      refine ⟨ltr ⟨fs, [], rfl, hR.md.weak fun a b hc => ⟨hc.1, hc.2.resolve_right (by simp)⟩⟩, ltr fun i x ss hx ⟨gs, later, e, hM⟩ => ?_, ltr fun ss ⟨gs, later, e, hM⟩ => ?_⟩
      · subst e
        walk_at "ev"
        unfold s_steps_of_l2
        walk_at "ev"
        have hxe : x ∈ edge := List.mem_of_getElem? hx
        refine s_forT (ends cs x) (fun (k : Nat) => .int (k : Int)) [2, 4] (fun j ss => ∃ (gs : List (Option Nat)) (later : List Nat), ss = [.loc (.lst (gs.map optD)), .loc (.lst (natD later))] ∧ Md cs s rs.length r edge (nn fs) gs later (fun a b => (adj cs a b ∧ (a ∉ edge ∨ a ∈ edge.take i)) ∨ (a = x ∧ ∃ c ∈ (ends cs x).take j, far cs c x = b))) ?_
        walk_at "ev"
        refine (ends_ok (k := k) h.l).mono ?_
        rintro rv sl ⟨rfl, hsl⟩
        walk_at "ev"
        refine (wpbl rfl hsl).mpr ?_
        walk_at "ev"
        unfold natD
        refine ⟨rfl, ltr ⟨gs, later, rfl, hM.weak fun a b hc => hc.resolve_right (by simp)⟩, ltr fun j c ss hc ⟨gs, later, e, hM⟩ => ?_, ltr fun ss ⟨gs, later, e, hM⟩ => ?_⟩
        · subst e
          have hce : c ∈ ends cs x := List.mem_of_getElem? hc
          walk_at "ev"
          unfold s_steps_of_l1
          walk_at "ev"
          refine (far_ok (k := k) (ends_lt hce)).mono ?_
          rintro rv sl ⟨rfl, hsl⟩
          walk_at "ev"
          refine (wpbl rfl hsl).mpr ?_
          walk_at "ev"
          have hy : far cs c x < gs.length := by rw [hM.l]; exact far_lt h.e (ends_lt hce)
          have wk : ∀ a b, ((adj cs a b ∧ (a ∉ edge ∨ a ∈ edge.take i)) ∨ (a = x ∧ ∃ c' ∈ (ends cs x).take (j + 1), far cs c' x = b)) → (((adj cs a b ∧ (a ∉ edge ∨ a ∈ edge.take i)) ∨ (a = x ∧ ∃ c' ∈ (ends cs x).take j, far cs c' x = b)) ∨ (a = x ∧ b = far cs c x)) := by
            intro a b hab
            rcases hab with hab | ⟨h1, c', h2, h3⟩
            · exact Or.inl (Or.inl hab)
            · rw [List.take_add_one, hc, Option.toList_some] at h2
              rcases List.mem_append.mp h2 with h2 | h2
              · exact Or.inl (Or.inr ⟨h1, c', h2, h3⟩)
              · rw [List.mem_singleton.mp h2] at h3; exact Or.inr ⟨h1, h3.symm⟩
          have hxl : x < gs.length := by
            have := (hM.ed x).mp hxe
            exact Nat.lt_of_not_le fun z => by unfold gd at this; rw [List.getD_eq_getElem?_getD, List.getElem?_eq_none z] at this; cases this
          have axy := far_adj hce
          have ay := at_gd (i := (far cs c x : Int)) rfl hy
          have ax := at_gd (i := (x : Int)) rfl hxl
          rw [(hM.ed x).mp hxe, optD_some] at ax
          have := far_lt h.e (ends_lt hce) (s := x)
          have hM2 := fun q => hM.new hxe axy this q
          have hM3 := fun e q => hM.keep hxe (e := e) (y := far cs c x) q
          have hln : later.length ≤ 100000 := by
            have := hM.c; have : nn fs ≤ fs.length := List.countP_le_length; have := hR.l; omega
          generalize far cs c x = y at *
          cases hg : gd gs y with
          | none =>
            rw [hg, optD_none] at ay
            rw [wat (ay)]
            walk_at "ev"
            rw [wat (ax)]
            walk_at "ev"
            rw [wix (b := y) (ixN_some rfl (by rw [List.length_map]; exact hy))]
            walk_at "ev"
            refine ⟨by rw [List.length_map]; omega, gs.set y (some (r + 1)), later ++ [y], ?_, (hM2 hg).weak wk⟩
            rw [List.map_set]
            rw [List.map_append]
            rfl
          | some d =>
            rw [hg, optD_some] at ay
            rw [wat (ay)]
            walk_at "ev"
            refine ⟨gs, later, rfl, (hM3 d hg).weak wk⟩
        · subst e
          walk_at "ev"
          refine ⟨gs, later, rfl, hM.weak fun a b hc => ?_⟩
          rw [List.take_length]
          rw [List.take_add_one, hx, Option.toList_some, List.mem_append, List.mem_singleton] at hc
          rcases hc.2 with hc2 | hc2 | hc2
          · exact Or.inl ⟨hc.1, Or.inl hc2⟩
          · exact Or.inl ⟨hc.1, Or.inr hc2⟩
          · subst hc2; exact Or.inr ⟨rfl, adj_far hc.1⟩
      · subst e
        walk_at "ev"
        rw [List.take_length] at hM
        have hR' := hM.rd fun a b ha => ⟨ha, Classical.em _ |>.symm⟩
        have hc := hM.c
        refine ⟨_, ?_, gs, later, r + 1, rfl, hR', rfl⟩
        have hpe : edge ≠ [] := fun z => by rw [z] at hp; simp at hp
        rw [hm, if_neg hpe]
        by_cases hl : later = []
        · rw [if_pos hl]; subst hl; rw [List.length_nil] at hc; omega
        · rw [if_neg hl]
          have := List.length_pos_iff.mpr hl
          omega
    · rw [decide_eq_false_iff_not] at hp
      have he : edge = [] := List.eq_nil_of_length_eq_zero (by omega)
      subst he
      walk_at "ev"
      rw [hR.last, List.map_map]
      all_goals (first | rfl | exact ⟨rfl, rfl⟩ | exact ⟨rfl, trivial⟩)
theorem parts_ok {rs : List Int} {cs : List Cb} (h : Nok rs.length cs) : FV (tx.call 1000 (k + 3)) 12 [netD rs cs] (.tuple ((partsP rs.length cs).map fun p => .tuple (natD p))) := by
  have e0 : netD rs cs = .tuple [.tuple (rs.map .int), .tuple (cs.map cbD)] := rfl
  have hn := h.n
  have bl : ∀ m, (((List.range m).filter fun s => (comp rs.length cs s).head? == some s).map (comp rs.length cs)).length ≤ m := fun m => by
    rw [List.length_map]; exact Nat.le_trans (List.length_filter_le _ _) (by rw [List.length_range]; exact Nat.le_refl _)
  refine wc_go (d := d_parts_of_net) (slots := 6) (p := 1) (b := s_parts_of_net) (env := [.val (netD rs cs), .no, .no, .no, .no, .no]) rfl rfl rfl rfl ?_
  unfold s_parts_of_net
  walk_at "ev"
  rw [e0]
  refine s_forT (List.range rs.length) (fun (k : Nat) => .int (k : Int)) [1] (fun i ss => ss = [.loc (.lst ((((List.range i).filter fun s => (comp rs.length cs s).head? == some s).map (comp rs.length cs)).map fun p => .tuple (natD p)))]) ?_
  walk_at "ev"
  refine ⟨by simp; omega, rg0m, ltr rfl, ltr fun i s ss hs e => ?_, ltr fun ss e => ?_⟩
  · subst e
    obtain ⟨hi, rfl⟩ := range_get hs
    clear hs
    have hs := hi
    walk_at "ev"
    unfold s_parts_of_net_l1
    walk_at "ev"
    rw [← e0]
    refine (steps_ok (k := k) h hs).mono ?_
    rintro rv sl ⟨rfl, hsl⟩
    walk_at "ev"
    refine (wpbl rfl hsl).mpr ?_
    walk_at "ev"
    rw [e0]
    refine w_fmT (List.range rs.length) (fun (k : Nat) => .int (k : Int)) (fun t => (dst cs i t).isSome) (fun (k : Nat) => .int (k : Int)) ?_
    walk_at "ev"
    refine ⟨by simp; omega, rg0m, by rw [List.length_range]; omega, ltr fun t ht => ?_, ltr ?_⟩
    · have ht := List.mem_range.mp ht
      walk_at "ev"
      have at1 := atI_map (f := fun t => optD (dst cs i t)) (xs := List.range rs.length) (i := (t : Int)) (j := t) rfl (by rw [List.length_range]; exact ht)
      rw [List.getElem_range] at at1
      cases e : dst cs i t with
      | none =>
        rw [e, optD_none] at at1
        rw [wat (at1)]
        walk_at "ev"
        rfl
      | some d =>
        rw [e, optD_some] at at1
        rw [wat (at1)]
        walk_at "ev"
        rfl
    · walk_at "ev"
      have ec : List.map (fun (k : Nat) => PyData.int (k : Int)) (List.filter (fun t => (dst cs i t).isSome) (List.range rs.length)) = (comp rs.length cs i).map fun (k : Nat) => .int (k : Int) := rfl
      rw [ec]
      have bi := bl i
      rw [List.range_succ, List.filter_append, List.filter_cons, List.filter_nil]
      have hm := comp_self (cs := cs) hs
      generalize hc : comp rs.length cs i = c at *
      cases c with
      | nil => cases hm
      | cons z r =>
        rw [wat (atI_map (i := 0) (j := 0) (xs := z :: r) rfl (Nat.zero_lt_succ _))]
        walk_at "ev"
        refine wif (fun hz => ?_) (fun hz => ?_)
        · rw [decide_eq_true_eq] at hz
          have hz : z = i := Int.ofNat_inj.mp (by simpa using hz)
          walk_at "ev"
          rw [if_pos (by simp [hz]), List.map_append, List.map_append, show List.map (comp rs.length cs) [i] = [z :: r] from by rw [List.map_cons, hc]; rfl]
          refine ⟨by rw [List.length_map]; omega, rfl⟩
        · rw [decide_eq_false_iff_not] at hz
          have hz : z ≠ i := fun q => hz (by simp [q])
          walk_at "ev"
          rw [if_neg (by simp [hz]), List.append_nil]
          all_goals (first | rfl | exact ⟨rfl, rfl⟩ | exact ⟨rfl, trivial⟩)
  · subst e
    walk_at "ev"
    rw [List.length_range]
    all_goals (first | rfl | exact ⟨rfl, rfl⟩ | exact ⟨rfl, trivial⟩)
end K33

namespace Pv
open PySem PySem.Spec PyProof.Rows L2
/-! ### law k33: ports -/
end Pv
namespace K33
open PySem PySem.Spec PyProof.Rows L2 Pv Nw Gr
variable {N k : Nat}
def ptD : Pt → D
  | .acc g => .tuple [.str "access", .int g]
  | .trk gs o => .tuple [.str "trunk", .tuple (gs.map .int), optI o]
theorem e1 : PyData.eqv (.str "access") (.str "access") = true := eqv_str
theorem e2 : PyData.eqv (.str "trunk") (.str "trunk") = true := eqv_str
theorem e3 : PyData.eqv (.str "trunk") (.str "access") = false := by decide +kernel
theorem e4 : PyData.eqv (.str "access") (.str "trunk") = false := by decide +kernel
theorem h1 : SeqAt.shaped (.str "access") = true := by decide +kernel
theorem h2 : SeqAt.shaped (.str "trunk") = true := by decide +kernel
theorem optI_eq {o : Option Int} {g : Int} : PyData.eqv (optI o) (.int g) = decide (o = some g) := by
  cases o with
  | none => rw [show optI none = PyData.none from rfl]; unfold PyData.eqv; simp
  | some x => rw [show optI (some x) = PyData.int x from rfl, eqv_int]; simp
theorem optI_sh {o : Option Int} : SeqAt.shaped (optI o) = true := by
  cases o with
  | none => exact sh_none
  | some x => exact sh_int
theorem belongs_ok {p : Pt} {g : Int} : FV (tx.call N (k + 1)) 0 [ptD p, .int g] (.bool (decide (g ∈ own p))) := by
  refine wc_go (d := d_belongs_to) (slots := 2) (p := 2) (b := s_belongs_to) (env := [.val (ptD p), .val (.int g)]) rfl rfl rfl rfl ?_
  unfold s_belongs_to
  walk_at "ev"
  cases p with
  | acc x =>
    unfold ptD
    walk_at "ev"
    rw [e1]
    refine ⟨h1, ?_⟩
    walk_at "ev"
    simp [own, eq_comm]
  | trk gs o =>
    unfold ptD
    walk_at "ev"
    rw [e3]
    refine ⟨⟨h2, h1⟩, ?_⟩
    walk_at "ev"
    rw [Pv.any_ints]
    refine ⟨sh_ints, ?_⟩
    rfl
theorem untag_ok {p : Pt} {g : Int} : FV (tx.call N (k + 1)) 1 [ptD p, .int g] (.bool (unt p g)) := by
  refine wc_go (d := d_is_untagged) (slots := 2) (p := 2) (b := s_is_untagged) (env := [.val (ptD p), .val (.int g)]) rfl rfl rfl rfl ?_
  unfold s_is_untagged
  walk_at "ev"
  cases p with
  | acc x =>
    unfold ptD
    walk_at "ev"
    rw [e1]
    refine ⟨h1, ?_⟩
    walk_at "ev"
    rfl
  | trk gs o =>
    unfold ptD
    walk_at "ev"
    rw [e3]
    refine ⟨⟨h2, h1⟩, ?_⟩
    walk_at "ev"
    rw [optI_eq]
    refine ⟨optI_sh, ?_⟩
    rfl
theorem plain_ok {p : Pt} : FV (tx.call N (k + 1)) 2 [ptD p] (optI (plain p)) := by
  refine wc_go (d := d_plain_group) (slots := 1) (p := 1) (b := s_plain_group) (env := [.val (ptD p)]) rfl rfl rfl rfl ?_
  unfold s_plain_group
  walk_at "ev"
  cases p with
  | acc x =>
    unfold ptD
    walk_at "ev"
    rw [e1]
    refine ⟨h1, ?_⟩
    walk_at "ev"
    rfl
  | trk gs o =>
    unfold ptD
    walk_at "ev"
    rw [e3]
    refine ⟨⟨h2, h1⟩, ?_⟩
    walk_at "ev"
    rfl
theorem over_ok {p q : Pt} {g : Int} : FV (tx.call N (k + 2)) 3 [ptD p, ptD q, .int g] (optI (over p q g)) := by
  refine wc_go (d := d_goes_over) (slots := 3) (p := 3) (b := s_goes_over) (env := [.val (ptD p), .val (ptD q), .val (.int g)]) rfl rfl rfl rfl ?_
  unfold s_goes_over
  walk_at "ev"
  refine (belongs_ok (k := k)).mono ?_
  rintro rv sl ⟨rfl, hsl⟩
  walk_at "ev"
  refine (wpbl rfl hsl).mpr ?_
  walk_at "ev"
  unfold over
  refine wif (fun z1 => ?_) (fun z1 => ?_)
  · have z1 : ¬ g ∈ own p := by simpa using z1
    rw [if_neg z1]
    walk_at "ev"
    rfl
  have z1 : g ∈ own p := by simpa using z1
  rw [if_pos z1]
  walk_at "ev"
  refine (untag_ok (k := k)).mono ?_
  rintro rv sl ⟨rfl, hsl⟩
  walk_at "ev"
  refine (wpbl rfl hsl).mpr ?_
  walk_at "ev"
  refine wif (fun z2 => ?_) (fun z2 => ?_)
  · rw [if_pos z2]
    walk_at "ev"
    refine (plain_ok (k := k)).mono ?_
    rintro rv sl ⟨rfl, hsl⟩
    walk_at "ev"
    refine (wpbl rfl hsl).mpr ?_
    walk_at "ev"
  rw [if_neg (show ¬ unt p g = true by rw [z2]; decide)]
  cases q with
  | acc x =>
    unfold ptD
    walk_at "ev"
    rw [e4]
    refine ⟨⟨h1, h2⟩, ?_⟩
    walk_at "ev"
    rfl
  | trk gs o =>
    unfold ptD
    walk_at "ev"
    rw [e2]
    refine ⟨h2, ?_⟩
    walk_at "ev"
    rw [Pv.any_ints]
    refine ⟨sh_ints, ?_⟩
    refine wif (fun z3 => ?_) (fun z3 => ?_)
    · rw [if_pos (show tru (Pt.trk gs o) = true ∧ g ∈ own (Pt.trk gs o) from ⟨rfl, of_decide_eq_true z3⟩)]
      walk_at "ev"
      rfl
    · rw [if_neg (show ¬ (tru (Pt.trk gs o) = true ∧ g ∈ own (Pt.trk gs o)) from fun z => of_decide_eq_false z3 z.2)]
      walk_at "ev"
      rfl
theorem groups_ok {p : Pt} : FV (tx.call N (k + 1)) 4 [ptD p] (.tuple ((own p).map .int)) := by
  refine wc_go (d := d_groups_of) (slots := 1) (p := 1) (b := s_groups_of) (env := [.val (ptD p)]) rfl rfl rfl rfl ?_
  unfold s_groups_of
  walk_at "ev"
  cases p with
  | acc x =>
    unfold ptD
    walk_at "ev"
    rw [e1]
    refine ⟨h1, ?_⟩
    walk_at "ev"
    rfl
  | trk gs o =>
    unfold ptD
    walk_at "ev"
    rw [e3]
    refine ⟨⟨h2, h1⟩, ?_⟩
    walk_at "ev"
    rfl
def lkD (x : Int × Int) : D := .tuple [.int x.1, .int x.2]
theorem lk_take {p q : Pt} {i : Nat} {g : Int} (h : (own p)[i]? = some g) : ((own p).take (i + 1)).filterMap (fun g => match over p q g with
  | some h => if h = g then none else some (g, h)
  | none => none) = ((own p).take i).filterMap (fun g => match over p q g with
  | some h => if h = g then none else some (g, h)
  | none => none) ++ (match over p q g with
  | some h => if h = g then none else some (g, h)
  | none => none).toList := by
  rw [List.take_add_one, h, Option.toList_some, List.filterMap_append]
  congr 1
theorem leaks_ok {p q : Pt} (hl : (own p).length ≤ 1000) : FV (tx.call N (k + 3)) 5 [ptD p, ptD q] (.tuple ((lkP p q).map lkD)) := by
  refine wc_go (d := d_leaks_of) (slots := 5) (p := 2) (b := s_leaks_of) (env := [.val (ptD p), .val (ptD q), .no, .no, .no]) rfl rfl rfl rfl ?_
  unfold s_leaks_of
  walk_at "ev"
  refine s_forT (own p) .int [2] (fun i ss => ss = [.loc (.lst ((((own p).take i).filterMap (fun g => match over p q g with
    | some h => if h = g then none else some (g, h)
    | none => none)).map lkD))]) ?_
  walk_at "ev"
  refine (groups_ok (k := k + 1)).mono ?_
  rintro rv sl ⟨rfl, hsl⟩
  walk_at "ev"
  refine (wpbl rfl hsl).mpr ?_
  walk_at "ev"
  refine ⟨ltr (by rw [List.take_zero]; rfl), ltr fun i g ss hx e => ?_, ltr fun ss e => ?_⟩
  · subst e
    have hlt := lk_take (q := q) hx
    have hfl : (((own p).take i).filterMap (fun g => match over p q g with
      | some h => if h = g then none else some (g, h)
      | none => none)).length ≤ 1000 := Nat.le_trans (List.length_filterMap_le _ _) (by rw [List.length_take]; omega)
    rw [hlt]
    walk_at "ev"
    unfold s_leaks_of_l1
    walk_at "ev"
    refine (over_ok (k := k)).mono ?_
    rintro rv sl ⟨rfl, hsl⟩
    walk_at "ev"
    refine (wpbl rfl hsl).mpr ?_
    walk_at "ev"
    cases e : over p q g with
    | none =>
      rw [show optI none = PyData.none from rfl]
      walk_at "ev"
      simp
    | some x =>
      rw [show optI (some x) = PyData.int x from rfl]
      walk_at "ev"
      refine wif (fun z => ?_) (fun z => ?_)
      · have z : ¬ x = g := by simpa using z
        walk_at "ev"
        refine ⟨by rw [List.length_map]; omega, ?_⟩
        rw [if_neg z, Option.toList_some, List.map_append]
        rfl
      · have z : x = g := by simpa using z
        walk_at "ev"
        rw [if_pos z, Option.toList_none, List.append_nil]
  · subst e
    rw [List.take_of_length_le (Nat.le_refl _)]
    walk_at "ev"
    rfl
end K33

namespace Pv
open PySem PySem.Spec PyProof.Rows L2
/-! ### law k33: groups -/
end Pv
namespace K33
open PySem PySem.Spec PyProof.Rows L2 Pv Nw Gr
variable {N k : Nat}
def pcD (c : Pc) : D := .tuple [.int (c.1 : Int), ptD c.2.1, .int (c.2.2.1 : Int), ptD c.2.2.2]
theorem itself_ok {p q : Pt} {g : Int} : FV (tx.call N (k + 3)) 6 [ptD p, ptD q, .int g] (.bool (decide (over p q g = some g))) := by
  refine wc_go (d := d_goes_as_itself) (slots := 3) (p := 3) (b := s_goes_as_itself) (env := [.val (ptD p), .val (ptD q), .val (.int g)]) rfl rfl rfl rfl ?_
  unfold s_goes_as_itself
  walk_at "ev"
  refine (over_ok (k := k)).mono ?_
  rintro rv sl ⟨rfl, hsl⟩
  walk_at "ev"
  refine (wpbl rfl hsl).mpr ?_
  walk_at "ev"
  rw [optI_eq]
  refine ⟨optI_sh, ?_⟩
  rfl
def prD (c : Cb) : D := .tuple [.int (c.1 : Int), .int (c.2.1 : Int)]
theorem carrying_ok {cs : List Pc} {g : Int} (hl : cs.length ≤ 1000) : FN (tx.call N (k + 4)) 7 [.tuple (cs.map pcD), .int g] ((cc cs g).map prD) := by
  refine wc_go (d := d_carrying_cables) (slots := 7) (p := 2) (b := s_carrying_cables) (env := [.val (.tuple (cs.map pcD)), .val (.int g), .no, .no, .no, .no, .no]) rfl rfl rfl rfl ?_
  unfold s_carrying_cables
  walk_at "ev"
  refine s_forT cs pcD [2] (fun i ss => ss = [.loc (.lst ((cc (cs.take i) g).map prD))]) ?_
  walk_at "ev"
  refine ⟨ltr rfl, ltr fun i c ss hx e => ?_, ltr fun ss e => ?_⟩
  · subst e
    obtain ⟨a, p, b, q⟩ := c
    have et : cc (cs.take (i + 1)) g = cc (cs.take i) g ++ (if car g (a, p, b, q) = true then [(a, b, 1)] else []) := by
      unfold cc cbs
      rw [List.take_add_one, hx, Option.toList_some, List.filter_append, List.map_append]
      congr 1
      split
      · rename_i z; rw [List.filter_cons_of_pos z]; rfl
      · rename_i z; rw [List.filter_cons_of_neg z]; rfl
    have hlc : (cc (cs.take i) g).length ≤ 1000 := Nat.le_trans cc_len (by rw [List.length_take]; omega)
    rw [show pcD (a, p, b, q) = .tuple [.int (a : Int), ptD p, .int (b : Int), ptD q] from rfl, et]
    walk_at "ev"
    unfold s_carrying_cables_l1
    walk_at "ev"
    refine (itself_ok (k := k)).mono ?_
    rintro rv sl ⟨rfl, hsl⟩
    walk_at "ev"
    refine (wpbl rfl hsl).mpr ?_
    walk_at "ev"
    refine wif (fun z1 => ?_) (fun z1 => ?_)
    · walk_at "ev"
      refine (itself_ok (k := k)).mono ?_
      rintro rv sl ⟨rfl, hsl⟩
      walk_at "ev"
      refine (wpbl rfl hsl).mpr ?_
      walk_at "ev"
      refine wif (fun z2 => ?_) (fun z2 => ?_)
      · rw [if_pos (show car g (a, p, b, q) = true by unfold car; rw [z1, z2]; rfl)]
        walk_at "ev"
        refine ⟨by rw [List.length_map]; omega, ?_⟩
        rw [List.map_append]
        rfl
      · rw [if_neg (show ¬ car g (a, p, b, q) = true by unfold car; rw [z1, z2]; decide)]
        walk_at "ev"
        rw [List.append_nil]
    · rw [if_neg (show ¬ car g (a, p, b, q) = true by unfold car; rw [z1]; simp)]
      walk_at "ev"
      rw [List.append_nil]
  · subst e
    rw [List.take_of_length_le (Nat.le_refl _)]
    walk_at "ev"
theorem switches_ok {cs : List Pc} {n : Nat} {g : Int} (h : Pok n cs) (hn : n ≤ 400) (hl : cs.length ≤ 1000) : FV (tx.call N (k + 5)) 8 [.int (n : Int), .tuple (cs.map pcD), .int g] (.tuple ((partsP n (cc cs g)).map fun p => .tuple (natD p))) := by
  have he := cc_e (g := g) h
  refine wc_go (d := d_switches_of_group) (slots := 12) (p := 3) (b := s_switches_of_group) (env := [.val (.int (n : Int)), .val (.tuple (cs.map pcD)), .val (.int g), .no, .no, .no, .no, .no, .no, .no, .no, .no]) rfl rfl rfl rfl ?_
  unfold s_switches_of_group
  walk_at "ev"
  refine ⟨by unfold rgOk; simp only [line]; omega, ?_⟩
  rw [rg_natD]
  refine s_forT (cc cs g) prD [3] (fun i ss => ∃ fs : List Nat, ss = [.val (.list (natD fs))] ∧ Lb n ((cc cs g).take i) fs) ?_
  walk_at "ev"
  refine (carrying_ok (k := k) hl).mono ?_
  rintro rv sl ⟨rfl, hsl⟩
  walk_at "ev"
  refine (wpbl rfl hsl).mpr ?_
  walk_at "ev"
  refine ⟨ltr ⟨List.range n, rfl, Lb.start⟩, ltr fun i c ss hx ⟨fs, e, L⟩ => ?_, ltr fun ss ⟨fs, e, L⟩ => ?_⟩
  · subst e
    obtain ⟨a, b, w⟩ := c
    have hm := List.mem_of_getElem? hx
    obtain ⟨ha, hb⟩ := he _ hm
    have L2 := L.step (ds := (cc cs g).take (i + 1)) (a := a) (b := b) (w := w) (fun c => by rw [List.take_add_one, hx, Option.toList_some, List.mem_append, List.mem_singleton]) ha hb
    have hla : a < fs.length := by rw [L.l]; exact ha
    have hlb : b < fs.length := by rw [L.l]; exact hb
    have a1 : atI (natD fs) (a : Int) = some (.int (lb fs a : Int)) := at_natD (k := a) rfl (by unfold lb; rw [List.getD_eq_getElem?_getD, List.getElem?_eq_getElem hla]; rfl)
    have b1 : atI (natD fs) (b : Int) = some (.int (lb fs b : Int)) := at_natD (k := b) rfl (by unfold lb; rw [List.getD_eq_getElem?_getD, List.getElem?_eq_getElem hlb]; rfl)
    unfold lstep at L2
    generalize lb fs a = x at *
    generalize lb fs b = y at *
    rw [show prD (a, b, w) = .tuple [.int (a : Int), .int (b : Int)] from rfl]
    walk_at "ev"
    unfold s_switches_of_group_l1
    walk_at "ev"
    rw [wat (a1)]
    walk_at "ev"
    rw [wat (b1)]
    walk_at "ev"
    have hs : sortI [(x : Int), (y : Int)] = [((min x y : Nat) : Int), ((max x y : Nat) : Int)] := by
      show (if (x : Int) ≤ (y : Int) then [(x : Int), (y : Int)] else [(y : Int), (x : Int)]) = _
      split
      · rename_i z
        rw [Nat.min_eq_left (by omega), Nat.max_eq_right (by omega)]
      · rename_i z
        rw [Nat.min_eq_right (by omega), Nat.max_eq_left (by omega)]
    have hso : sortedf (.list [PyData.int (x : Int), .int (y : Int)]) = some (.new (.lst [.int ((min x y : Nat) : Int), .int ((max x y : Nat) : Int)])) := by
      have := sortedf_some (ns := [(x : Int), (y : Int)]) rfl
      rw [hs] at this
      exact this
    rw [wopt (hso)]
    walk_at "ev"
    refine w_mapT fs (fun (p : Nat) => .int (p : Int)) (fun p => .int ((if p = max x y then min x y else p : Nat) : Int)) ?_
    walk_at "ev"
    have hfl : fs.length ≤ 400 := by rw [L.l]; exact hn
    refine ⟨rfl, by omega, ltr fun p hp => ?_, ltr ?_⟩
    · walk_at "ev"
      refine wif (fun z => ?_) (fun z => ?_)
      · have z : p = max x y := by have := of_decide_eq_true z; omega
        walk_at "ev"
        rw [if_pos z]
      · have z : ¬ p = max x y := by have := of_decide_eq_false z; omega
        walk_at "ev"
        rw [if_neg z]
    · walk_at "ev"
      refine ⟨_, ?_, L2⟩
      unfold natD
      rw [List.map_map]
      rfl
  · subst e
    rw [List.take_of_length_le (Nat.le_refl _)] at L
    have hlen : fs.length = n := L.l
    have ar : ∀ {s : Nat}, s < n → atI (natD fs) (s : Int) = some (.int (lb fs s : Int)) := fun {s} hs => at_natD (k := s) rfl (by unfold lb; rw [List.getD_eq_getElem?_getD, List.getElem?_eq_getElem (by omega)]; rfl)
    walk_at "ev"
    refine w_fmT (List.range n) (fun (s : Nat) => .int (s : Int)) (fun s => decide (lb fs s = s)) (fun s => .int (s : Int)) ?_
    walk_at "ev"
    refine ⟨by omega, rg0, by rw [List.length_range]; omega, ltr fun s hs => ?_, ltr ?_⟩
    · have hs := List.mem_range.mp hs
      walk_at "ev"
      rw [wat (ar hs)]
      walk_at "ev"
      refine wif (fun z => ?_) (fun z => ?_)
      · walk_at "ev"
        simp at z ⊢; omega
      · walk_at "ev"
        simp at z ⊢; omega
    rw [Gr.Lb.heads L]
    walk_at "ev"
    have hrl : (reps n (cc cs g)).length ≤ n := by
      unfold reps
      refine Nat.le_trans (List.length_filter_le _ _) ?_
      rw [List.length_range]; exact Nat.le_refl _
    refine w_mapT (reps n (cc cs g)) (fun (s : Nat) => .int (s : Int)) (fun s => .tuple (natD (comp n (cc cs g) s))) ?_
    walk_at "ev"
    refine ⟨by omega, ltr fun h hh => ?_, ltr ?_⟩
    · walk_at "ev"
      refine w_fmT (List.range n) (fun (s : Nat) => .int (s : Int)) (fun s => decide (lb fs s = h)) (fun s => .int (s : Int)) ?_
      walk_at "ev"
      refine ⟨by omega, rg0, by rw [List.length_range]; omega, ltr fun s hs => ?_, ltr ?_⟩
      · have hs := List.mem_range.mp hs
        walk_at "ev"
        rw [wat (ar hs)]
        walk_at "ev"
        refine wif (fun z => ?_) (fun z => ?_)
        · walk_at "ev"
          simp at z ⊢; omega
        · walk_at "ev"
          simp at z ⊢; omega
      · rw [Gr.Lb.group L hh]
        walk_at "ev"
        rfl
    · walk_at "ev"
      rw [parts_reps, List.map_map]
      rfl
end K33

namespace Pv
open PySem PySem.Spec PyProof.Rows L2
/-! ### law k33: what is drawn -/
end Pv
namespace K33
open PySem PySem.Spec PyProof.Rows L2 Pv Nw Gr
variable {N k : Nat}
theorem lgroups_ok {m : Mo} (hm : Drw m) : WC (tx.call N (k + 2)) 16 [.io m, .val (.int 6)] fun rv sl => ∃ (gs : List Int) (m' : Mo), rv = .val (.tuple (gs.map .int)) ∧ gs.length ≤ 6 ∧ Drw m' ∧ sl = [.io m', .val (.int 6)] := by
  refine wc_go (d := d__law_groups) (slots := 3) (p := 2) (b := s__law_groups) (env := [.io m, .val (.int 6), .no]) rfl rfl rfl rfl ?_
  unfold s__law_groups
  walk_at "ev"
  refine w_compV [0] (fun i zs ss => ∃ (m' : Mo) (S : List Int), ss = [.io m'] ∧ zs = S.map .int ∧ S.length ≤ i ∧ Drw m') ?_
  walk_at "ev"
  refine ⟨by decide, ⟨m, [], rfl, rfl, Nat.le_refl _, hm⟩, ltr fun i x zs ss hx ⟨m2, S, e, ez, hS, hm2⟩ => ?_, ltr fun zs ss ⟨m2, S, e, ez, hS, hm2⟩ => ?_⟩
  · subst e ez
    obtain ⟨hi, rfl⟩ := rgL_get.mp hx
    walk_at "ev"
    refine (tk hm2 (show (0 : Int) < 2 by decide)).mono ?_
    rintro rv sl ⟨d, m3, rfl, d0, d1, hm3, rfl⟩
    walk_at "ev"
    refine wif (fun h1 => ?_) (fun h1 => ?_)
    · walk_at "ev"
      refine ⟨m3, S ++ [-2 + (i : Int)], rfl, by rw [List.map_append]; rfl, by rw [List.length_append, List.length_singleton]; omega, hm3⟩
    · walk_at "ev"
      exact ⟨m3, S, rfl, rfl, by omega, hm3⟩
  · subst e ez
    walk_at "ev"
    exact ⟨S, m2, rfl, by rw [rgL_len] at hS; exact hS, hm2, rfl⟩
theorem port_ok {m : Mo} (hm : Drw m) : WC (tx.call N (k + 3)) 17 [.io m, .val (.int 6)] fun rv sl => ∃ (p : Pt) (m' : Mo), rv = .val (ptD p) ∧ (own p).length ≤ 6 ∧ Drw m' ∧ sl = [.io m', .val (.int 6)] := by
  refine wc_go (d := d__law_port) (slots := 4) (p := 2) (b := s__law_port) (env := [.io m, .val (.int 6), .no, .no]) rfl rfl rfl rfl ?_
  unfold s__law_port
  walk_at "ev"
  refine (tk hm (show (0 : Int) < 3 by decide)).mono ?_
  rintro rv sl ⟨a, m1, rfl, a0, a1, hm1, rfl⟩
  walk_at "ev"
  refine wif (fun h1 => ?_) (fun h1 => ?_)
  · walk_at "ev"
    refine (tk hm1 (show (0 : Int) < 6 by decide)).mono ?_
    rintro rv sl ⟨g, m2, rfl, g0, g1, hm2, rfl⟩
    walk_at "ev"
    exact ⟨.acc (g - 2), m2, rfl, (show 1 ≤ 6 by decide), hm2, rfl⟩
  · walk_at "ev"
    refine (lgroups_ok (k := k) hm1).mono ?_
    rintro rv sl ⟨gs, m2, rfl, hl, hm2, rfl⟩
    walk_at "ev"
    refine wif (fun h2 => ?_) (fun h2 => ?_)
    · walk_at "ev"
      refine wif (fun h3 => ?_) (fun h3 => ?_)
      · walk_at "ev"
        have h3 : 0 < gs.length := by simpa using h3
        rw [List.length_map]
        refine (tk hm2 (show (0 : Int) < (gs.length : Int) by omega)).mono ?_
        rintro rv sl ⟨b, m3, rfl, b0, b1, hm3, rfl⟩
        walk_at "ev"
        obtain ⟨b, rfl⟩ := Int.eq_ofNat_of_zero_le b0
        have hb : b < gs.length := by omega
        rw [wat (atI_map (j := b) rfl hb)]
        walk_at "ev"
        exact ⟨.trk gs (some gs[b]), m3, rfl, hl, hm3, rfl⟩
      · walk_at "ev"
        exact ⟨.trk gs none, m2, rfl, hl, hm2, rfl⟩
    · walk_at "ev"
      exact ⟨.trk gs none, m2, rfl, hl, hm2, rfl⟩
theorem lown_ok {p : Pt} : FV (tx.call N (k + 1)) 18 [ptD p] (.tuple ((own p).map .int)) := by
  refine wc_go (d := d__law_own) (slots := 1) (p := 1) (b := s__law_own) (env := [.val (ptD p)]) rfl rfl rfl rfl ?_
  unfold s__law_own
  walk_at "ev"
  cases p with
  | acc x =>
    unfold ptD
    walk_at "ev"
    rw [e1]
    refine ⟨h1, ?_⟩
    walk_at "ev"
    rfl
  | trk gs o =>
    unfold ptD
    walk_at "ev"
    rw [e3]
    refine ⟨⟨h2, h1⟩, ?_⟩
    walk_at "ev"
    rfl
theorem behind_ok {p q : Pt} {g : Int} : FV (tx.call N (k + 2)) 19 [ptD p, ptD q, .int g] (optI (over p q g)) := by
  refine wc_go (d := d__law_behind) (slots := 4) (p := 3) (b := s__law_behind) (env := [.val (ptD p), .val (ptD q), .val (.int g), .no]) rfl rfl rfl rfl ?_
  unfold s__law_behind
  walk_at "ev"
  refine (lown_ok (k := k)).mono ?_
  rintro rv sl ⟨rfl, hsl⟩
  walk_at "ev"
  refine (wpbl rfl hsl).mpr ?_
  walk_at "ev"
  rw [Pv.any_ints]
  refine ⟨sh_ints, ?_⟩
  unfold over
  refine wif (fun z1 => ?_) (fun z1 => ?_)
  · have z1 : ¬ g ∈ own p := by simpa using z1
    rw [if_neg z1]
    walk_at "ev"
    rfl
  have z1 : g ∈ own p := by simpa using z1
  rw [if_pos z1]
  walk_at "ev"
  cases p with
  | acc x =>
    rw [show ptD (Pt.acc x) = .tuple [.str "access", .int x] from rfl]
    walk_at "ev"
    rw [e4]
    refine ⟨⟨h1, h2⟩, ?_⟩
    walk_at "ev"
    cases q with
    | acc y =>
      rw [show ptD (Pt.acc y) = .tuple [.str "access", .int y] from rfl]
      walk_at "ev"
      rw [e1]
      refine ⟨h1, ?_⟩
      walk_at "ev"
      rfl
    | trk ys o =>
      rw [show ptD (Pt.trk ys o) = .tuple [.str "trunk", .tuple (ys.map .int), optI o] from rfl]
      walk_at "ev"
      rw [e3]
      refine ⟨⟨h2, h1⟩, ?_⟩
      walk_at "ev"
      rfl
  | trk xs o =>
    rw [show ptD (Pt.trk xs o) = .tuple [.str "trunk", .tuple (xs.map .int), optI o] from rfl]
    walk_at "ev"
    rw [e2]
    refine ⟨h2, ?_⟩
    walk_at "ev"
    rw [optI_eq]
    refine ⟨optI_sh, ?_⟩
    refine wif (fun z2 => ?_) (fun z2 => ?_)
    · have z2 : o = some g := by simpa using z2
      rw [if_pos (show unt (Pt.trk xs o) g = true from decide_eq_true z2)]
      walk_at "ev"
      cases q with
      | acc y =>
        rw [show ptD (Pt.acc y) = .tuple [.str "access", .int y] from rfl]
        walk_at "ev"
        rw [e1]
        refine ⟨h1, ?_⟩
        walk_at "ev"
        rfl
      | trk ys o =>
        rw [show ptD (Pt.trk ys o) = .tuple [.str "trunk", .tuple (ys.map .int), optI o] from rfl]
        walk_at "ev"
        rw [e3]
        refine ⟨⟨h2, h1⟩, ?_⟩
        walk_at "ev"
        rfl
    · have z2 : ¬ o = some g := by simpa using z2
      rw [if_neg (show ¬ unt (Pt.trk xs o) g = true from fun c => z2 (of_decide_eq_true c))]
      walk_at "ev"
      cases q with
      | acc y =>
        rw [show ptD (Pt.acc y) = .tuple [.str "access", .int y] from rfl]
        walk_at "ev"
        rw [e4]
        refine ⟨⟨h1, h2⟩, ?_⟩
        walk_at "ev"
        rfl
      | trk ys o =>
        rw [show ptD (Pt.trk ys o) = .tuple [.str "trunk", .tuple (ys.map .int), optI o] from rfl]
        walk_at "ev"
        rw [e2]
        refine ⟨h2, ?_⟩
        walk_at "ev"
        rw [Pv.any_ints]
        refine ⟨sh_ints, ?_⟩
        refine wif (fun z3 => ?_) (fun z3 => ?_)
        · rw [if_pos (show tru (Pt.trk ys o) = true ∧ g ∈ own (Pt.trk ys o) from ⟨rfl, of_decide_eq_true z3⟩)]
          walk_at "ev"
          rfl
        · rw [if_neg (show ¬ (tru (Pt.trk ys o) = true ∧ g ∈ own (Pt.trk ys o)) from fun z => of_decide_eq_false z3 z.2)]
          walk_at "ev"
          rfl
theorem carries_ok {c : Pc} {g : Int} : FV (tx.call N (k + 3)) 21 [pcD c, .int g] (.bool (car g c)) := by
  obtain ⟨a, p, b, q⟩ := c
  refine wc_go (d := d__law_carries) (slots := 2) (p := 2) (b := s__law_carries) (env := [.val (.tuple [.int (a : Int), ptD p, .int (b : Int), ptD q]), .val (.int g)]) rfl rfl rfl rfl ?_
  unfold s__law_carries
  walk_at "ev"
  refine (behind_ok (k := k)).mono ?_
  rintro rv sl ⟨rfl, hsl⟩
  walk_at "ev"
  refine (wpbl rfl hsl).mpr ?_
  walk_at "ev"
  rw [optI_eq]
  refine ⟨optI_sh, ?_⟩
  unfold car
  refine wif (fun z1 => ?_) (fun z1 => ?_)
  · walk_at "ev"
    refine (behind_ok (k := k)).mono ?_
    rintro rv sl ⟨rfl, hsl⟩
    walk_at "ev"
    refine (wpbl rfl hsl).mpr ?_
    walk_at "ev"
    rw [optI_eq]
    refine ⟨optI_sh, ?_⟩
    rw [z1]
    rfl
  · rw [z1]
    walk_at "ev"
    rfl
def Ps (cs : List Pc) : Prop := ∀ c ∈ cs, (own c.2.1).length ≤ 6 ∧ (own c.2.2.2).length ≤ 6
theorem cables_ok {m : Mo} {n many style : Nat} (hm : Drw m) (hn1 : 1 ≤ n) (hn : n ≤ 400) (hmy : many ≤ 1000) (hst : style < 2) : WC (tx.call N (k + 4)) 20 [.io m, .val (.int (n : Int)), .val (.int (many : Int)), .val (.int (style : Int))] fun rv sl => ∃ (cs : List Pc) (m' : Mo), rv = .val (.tuple (cs.map pcD)) ∧ Pok n cs ∧ cs.length ≤ many ∧ Ps cs ∧ Drw m' ∧ sl = [.io m', .val (.int (n : Int)), .val (.int (many : Int)), .val (.int (style : Int))] := by
  refine wc_go (d := d__law_cables) (slots := 12) (p := 4) (b := s__law_cables) (env := [.io m, .val (.int (n : Int)), .val (.int (many : Int)), .val (.int (style : Int)), .no, .no, .no, .no, .no, .no, .no, .no]) rfl rfl rfl rfl ?_
  unfold s__law_cables
  walk_at "ev"
  refine w_compV [0] (fun i zs ss => ∃ (m' : Mo) (ks : List Pt), ss = [.io m'] ∧ zs = ks.map ptD ∧ ks.length = i ∧ (∀ p ∈ ks, (own p).length ≤ 6) ∧ Drw m') ?_
  walk_at "ev"
  refine ⟨by decide, ⟨m, [], rfl, rfl, rfl, fun p hp => absurd hp (by simp), hm⟩, ltr fun i x zs ss hx ⟨m2, ks, e, ez, hk, hks, hm2⟩ => ?_, ltr fun zs ss ⟨m2, ks, e, ez, hk, hks, hm2⟩ => ?_⟩
  · subst e ez
    walk_at "ev"
    refine (port_ok (k := k) hm2).mono ?_
    rintro rv sl ⟨p, m3, rfl, hp, hm3, rfl⟩
    walk_at "ev"
    exact ⟨m3, ks ++ [p], rfl, by rw [List.map_append]; rfl, by rw [List.length_append, List.length_singleton, hk], fun q hq => by
      rcases List.mem_append.mp hq with hq | hq
      · exact hks q hq
      · rw [List.mem_singleton.mp hq]; exact hp, hm3⟩
  · subst e ez
    rw [rgL_len] at hk
    have hk : ks.length = 3 := hk
    walk_at "ev"
    have hkd : ∀ {u : Nat}, (u : Int) < 3 → ∃ p, atI (ks.map ptD) (u : Int) = some (ptD p) ∧ (own p).length ≤ 6 := fun {u} hu => by
      have hu : u < ks.length := by omega
      exact ⟨ks[u], atI_map (j := u) rfl hu, hks _ (List.getElem_mem _)⟩
    refine s_forV [0, 5] (fun i ss => ∃ (m' : Mo) (cs : List Pc), ss = [.io m', .loc (.lst (cs.map pcD))] ∧ Pok n cs ∧ cs.length ≤ i ∧ Ps cs ∧ Drw m') ?_
    walk_at "ev"
    have hb1 : ∀ {x : Int}, -1000 ≤ x ∧ x ≤ 2000 → Bnd x 250 := fun {x} h => by
      refine Bnd.mono (m := 11) ?_ (by decide)
      unfold Bnd
      have : (2 : Nat) ^ 11 = 2048 := by decide
      omega
    have ht : (if decide (1 < (n : Int)) = true then (1 : Int) else 0) = ((if 1 < n then 1 else 0 : Nat) : Int) := by
      by_cases h : 1 < n
      · rw [if_pos (decide_eq_true (by omega)), if_pos h]; rfl
      · rw [if_neg (by simp; omega), if_neg h]; rfl
    rw [ht]
    have htt : ((many : Int) * ((if 1 < n then 1 else 0 : Nat) : Int)) = ((if 1 < n then many else 0 : Nat) : Int) := by
      split
      · omega
      · omega
    rw [htt]
    have hle : (if 1 < n then many else 0) ≤ many := by split <;> omega
    refine ⟨⟨Bnd.bits (hb1 (by omega)) (by decide), Bnd.bits (hb1 (by split <;> omega)) (by decide)⟩, ⟨by omega, by omega⟩, ltr ⟨m2, [], rfl, fun c hc => absurd hc (by simp), Nat.le_refl _, fun c hc => absurd hc (by simp), hm2⟩, ltr fun i x ss hx ⟨m', cs, e, hp, hl, hps, hm'⟩ => ?_, ltr fun ss ⟨m', cs, e, hp, hl, hps, hm'⟩ => ?_⟩
    · subst e
      obtain ⟨hi, rfl⟩ := rgL_get.mp hx
      rw [Int.toNat_natCast] at hi
      have hn2 : 1 < n := by
        by_cases h : 1 < n
        · exact h
        · rw [if_neg h] at hi; omega
      rw [if_pos hn2] at hi
      walk_at "ev"
      unfold s__law_cables_l1
      walk_at "ev"
      refine (tk hm' (show (0 : Int) < (n : Int) by omega)).mono ?_
      rintro rv sl ⟨a, m3, rfl, a0, a1, hm3, rfl⟩
      walk_at "ev"
      obtain ⟨a, rfl⟩ := Int.eq_ofNat_of_zero_le a0
      have ha : a < n := by omega
      refine (tk hm3 (show (0 : Int) < (n : Int) - 1 by omega)).mono ?_
      rintro rv sl ⟨b, m4, rfl, b0, b1, hm4, rfl⟩
      walk_at "ev"
      obtain ⟨b, rfl⟩ := Int.eq_ofNat_of_zero_le b0
      have md : ∃ y : Nat, (((a : Int) + 1 + (b : Int)).fmod (n : Int)) = (y : Int) ∧ y < n := by
        rw [show (a : Int) + 1 + (b : Int) = ((a + 1 + b : Nat) : Int) by omega, fmod_nat]
        exact ⟨_, rfl, Nat.mod_lt _ (by omega)⟩
      obtain ⟨y, hy, hyn⟩ := md
      refine ⟨by omega, ?_⟩
      refine (port_ok (k := k) hm4).mono ?_
      rintro rv sl ⟨p, m5, rfl, hpp, hm5, rfl⟩
      walk_at "ev"
      refine (tk hm5 (show (0 : Int) < 3 by decide)).mono ?_
      rintro rv sl ⟨u, m6, rfl, u0, u1, hm6, rfl⟩
      walk_at "ev"
      obtain ⟨u, rfl⟩ := Int.eq_ofNat_of_zero_le u0
      obtain ⟨q, hq, hql⟩ := hkd u1
      rw [wat (hq)]
      walk_at "ev"
      have hs : ∃ w, atI [ptD p, ptD q] (style : Int) = some (ptD w) ∧ (own w).length ≤ 6 := by
        have : style = 0 ∨ style = 1 := by omega
        rcases this with rfl | rfl
        · exact ⟨p, rfl, hpp⟩
        · exact ⟨q, rfl, hql⟩
      obtain ⟨w, hw, hwl⟩ := hs
      rw [wat (hw)]
      walk_at "ev"
      refine (port_ok (k := k) hm6).mono ?_
      rintro rv sl ⟨p', m7, rfl, hpp', hm7, rfl⟩
      walk_at "ev"
      refine (tk hm7 (show (0 : Int) < 3 by decide)).mono ?_
      rintro rv sl ⟨u, m8, rfl, u0, u1, hm8, rfl⟩
      walk_at "ev"
      obtain ⟨u, rfl⟩ := Int.eq_ofNat_of_zero_le u0
      obtain ⟨q', hq', hql'⟩ := hkd u1
      rw [wat (hq')]
      walk_at "ev"
      refine (tk hm8 (show (0 : Int) < 2 by decide)).mono ?_
      rintro rv sl ⟨d, m9, rfl, d0, d1, hm9, rfl⟩
      walk_at "ev"
      have hs2 : ∃ w', atI [ptD w, ptD q'] d = some (ptD w') ∧ (own w').length ≤ 6 := by
        have : d = 0 ∨ d = 1 := by omega
        rcases this with rfl | rfl
        · exact ⟨w, rfl, hwl⟩
        · exact ⟨q', rfl, hql'⟩
      obtain ⟨w2, hw2, hwl2⟩ := hs2
      rw [wat (hw2)]
      walk_at "ev"
      have hs3 : ∃ w', atI [ptD p', ptD w2] (style : Int) = some (ptD w') ∧ (own w').length ≤ 6 := by
        have : style = 0 ∨ style = 1 := by omega
        rcases this with rfl | rfl
        · exact ⟨p', rfl, hpp'⟩
        · exact ⟨w2, rfl, hwl2⟩
      obtain ⟨w3, hw3, hwl3⟩ := hs3
      rw [wat (hw3)]
      walk_at "ev"
      rw [hy]
      refine ⟨by rw [List.length_map]; omega, m9, cs ++ [(a, w, y, w3)], by rw [List.map_append]; rfl, ?_, by rw [List.length_append, List.length_singleton]; omega, ?_, hm9⟩
      · intro c hc
        rcases List.mem_append.mp hc with hc | hc
        · exact hp c hc
        · rw [List.mem_singleton.mp hc]; exact ⟨ha, hyn⟩
      · intro c hc
        rcases List.mem_append.mp hc with hc | hc
        · exact hps c hc
        · rw [List.mem_singleton.mp hc]; exact ⟨hwl, hwl3⟩
    · subst e
      walk_at "ev"
      refine ⟨cs, m', rfl, hp, ?_, hps, hm', rfl⟩
      rw [rgL_len, Int.toNat_natCast] at hl
      omega
end K33

namespace Pv
open PySem PySem.Spec PyProof.Rows L2
/-! ### law k33: parts by following frames -/
end Pv
namespace K33
open PySem PySem.Spec PyProof.Rows L2 Pv Nw Gr
variable {N k : Nat}
def dirs (l : List Cb) : List (Nat × Nat) := l.flatMap fun c => [(c.1, c.2.1), (c.2.1, c.1)]
theorem dirs_adj {l : List Cb} {x y : Nat} (h : adj l x y) : (x, y) ∈ dirs l := by
  obtain ⟨c, hc, h⟩ := h
  unfold dirs
  refine List.mem_flatMap.mpr ⟨c, hc, ?_⟩
  rcases h with ⟨rfl, rfl⟩ | ⟨rfl, rfl⟩ <;> simp
theorem cc_take {cs : List Pc} {g : Int} {i : Nat} {c : Pc} (hx : cs[i]? = some c) : cc (cs.take (i + 1)) g = cc (cs.take i) g ++ (if car g c = true then [(c.1, c.2.2.1, 1)] else []) := by
  unfold cc cbs
  rw [List.take_add_one, hx, Option.toList_some, List.filter_append, List.map_append]
  congr 1
  split
  · rename_i z; rw [List.filter_cons_of_pos z]; rfl
  · rename_i z; rw [List.filter_cons_of_neg z]; rfl
def pzD (p : Nat × Nat) : D := .tuple [.int (p.1 : Int), .int (p.2 : Int)]
theorem nodup_lt {ks : List Nat} {n : Nat} (h : ks.Nodup) (hb : ∀ x ∈ ks, x < n) : ks.length ≤ n := by
  have := nodup_le (ys := List.range n) h fun z hz => List.mem_range.mpr (hb z hz)
  rwa [List.length_range] at this
theorem rep_take {cs : List Cb} {i : Nat} : (reps (i + 1) cs) = reps i cs ++ (open Classical in if isRep cs i then [i] else []) := by
  classical
  unfold reps
  rw [List.range_succ, List.filter_append]
  congr 1
  split
  · rename_i h; rw [List.filter_cons_of_pos (by simpa using h)]; rfl
  · rename_i h; rw [List.filter_cons_of_neg (by simpa using h)]; rfl
theorem ci_mem {ks : List Nat} {x : Nat} : (x : Int) ∈ ci ks ↔ x ∈ ks := by
  unfold ci
  rw [List.mem_map]
  constructor
  · rintro ⟨y, hy, e⟩
    have : y = x := by omega
    rw [← this]; exact hy
  · intro h; exact ⟨x, h, rfl⟩
theorem lparts_ok {cs : List Pc} {n : Nat} {g : Int} (h : Pok n cs) (hn : n ≤ 400) (hl : cs.length ≤ 1000) : FV (tx.call N (k + 4)) 22 [.int (n : Int), .tuple (cs.map pcD), .int g] (.tuple ((partsP n (cc cs g)).map fun p => .tuple (natD p))) := by
  have he := cc_e (g := g) h
  refine wc_go (d := d__law_parts) (slots := 11) (p := 3) (b := s__law_parts) (env := [.val (.int (n : Int)), .val (.tuple (cs.map pcD)), .val (.int g), .no, .no, .no, .no, .no, .no, .no, .no]) rfl rfl rfl rfl ?_
  unfold s__law_parts
  walk_at "ev"
  refine s_forV [3, 4] (fun i ss => ∃ (ks : List Nat), ss = [.loc (.lst ((reps i (cc cs g)).map fun s => .tuple (natD (comp n (cc cs g) s)))), .loc (.dk (tset (ci ks)))] ∧ ks.Nodup ∧ (∀ x ∈ ks, x < n) ∧ (∀ x, x ∈ ks ↔ ∃ r, r < i ∧ con (cc cs g) r x)) ?_
  walk_at "ev"
  refine ⟨by omega, ltr ⟨[], rfl, List.nodup_nil, fun x hx => absurd hx (by simp), fun x => ⟨fun hx => absurd hx (by simp), fun ⟨r, hr, _⟩ => absurd hr (by omega)⟩⟩, ltr fun i x ss hx ⟨ks, e, hn1, hb, hm⟩ => ?_, ltr fun ss ⟨ks, e, hn1, hb, hm⟩ => ?_⟩
  · subst e
    obtain ⟨hi, rfl⟩ := rgL_get.mp hx
    clear hx
    have hi : i < n := by omega
    rw [show (0 : Int) + (i : Int) = (i : Int) by omega]
    walk_at "ev"
    unfold s__law_parts_l4
    walk_at "ev"
    refine s_forV [6] (fun j ss => ∃ (P : List Nat), ss = [.loc (.lst (natD P))] ∧ Gw (cc cs g) n i j P []) ?_
    walk_at "ev"
    refine ⟨by omega, ltr ⟨[i], rfl, Gw.start hi⟩, ltr fun j x ss hx ⟨P, e, G⟩ => ?_, ltr fun ss ⟨P, e, G⟩ => ?_⟩
    · subst e
      obtain ⟨hj, rfl⟩ := rgL_get.mp hx
      clear hx
      rw [show (0 : Int) + (j : Int) = (j : Int) by omega]
      walk_at "ev"
      unfold s__law_parts_l3
      walk_at "ev"
      refine wif (fun z => ?_) (fun z => ?_)
      · rw [natD_len] at z
        have z : j < P.length := by have := of_decide_eq_true z; omega
        walk_at "ev"
        refine s_forT cs pcD [6] (fun t ss => ∃ (P : List Nat), ss = [.loc (.lst (natD P))] ∧ j < P.length ∧ Gw (cc cs g) n i j P (dirs (cc (cs.take t) g))) ?_
        walk_at "ev"
        refine ⟨ltr ⟨P, rfl, z, G⟩, ltr fun t c ss hx ⟨P, e, z, G⟩ => ?_, ltr fun ss ⟨P, e, z, G⟩ => ?_⟩
        · subst e
          have hcm := List.mem_of_getElem? hx
          have ect := cc_take (g := g) hx
          obtain ⟨a, p, b, q⟩ := c
          obtain ⟨ha, hb'⟩ := h _ hcm
          rw [show pcD (a, p, b, q) = .tuple [.int (a : Int), ptD p, .int (b : Int), ptD q] from rfl]
          walk_at "ev"
          unfold s__law_parts_l2
          walk_at "ev"
          refine (carries_ok (c := (a, p, b, q)) (k := k)).mono ?_
          rintro rv sl ⟨rfl, hsl⟩
          walk_at "ev"
          refine (wpbl rfl hsl).mpr ?_
          walk_at "ev"
          refine wif (fun z1 => ?_) (fun z1 => ?_)
          · rw [if_pos z1] at ect
            have hab : adj (cc cs g) a b := ⟨(a, b, 1), by
              unfold cc cbs
              exact List.mem_map.mpr ⟨_, List.mem_filter.mpr ⟨hcm, z1⟩, rfl⟩, Or.inl ⟨rfl, rfl⟩⟩
            have ed : dirs (cc (cs.take (t + 1)) g) = dirs (cc (cs.take t) g) ++ [(a, b), (b, a)] := by
              rw [ect]; unfold dirs; rw [List.flatMap_append]; rfl
            rw [ed]
            walk_at "ev"
            refine s_forT [(a, b), (b, a)] pzD [6] (fun u ss => ∃ (P : List Nat), ss = [.loc (.lst (natD P))] ∧ j < P.length ∧ Gw (cc cs g) n i j P (dirs (cc (cs.take t) g) ++ [(a, b), (b, a)].take u)) ?_
            walk_at "ev"
            refine ⟨rfl, ltr ⟨P, rfl, z, by rw [List.take_zero, List.append_nil]; exact G⟩, ltr fun u c ss hu ⟨P, e, z, G⟩ => ?_, ltr fun ss ⟨P, e, z, G⟩ => ?_⟩
            · subst e
              have hum := List.mem_of_getElem? hu
              have eu : [(a, b), (b, a)].take (u + 1) = [(a, b), (b, a)].take u ++ [c] := by rw [List.take_add_one, hu]; rfl
              obtain ⟨x, y⟩ := c
              have hxy : adj (cc cs g) x y ∧ y < n := by
                rcases List.mem_cons.mp hum with hu | hu
                · injection hu with h1 h2
                  subst h1 h2
                  exact ⟨hab, hb'⟩
                · injection List.mem_singleton.mp hu with h1 h2
                  subst h1 h2
                  exact ⟨adj_symm hab, ha⟩
              rw [eu, ← List.append_assoc]
              rw [show pzD (x, y) = .tuple [.int (x : Int), .int (y : Int)] from rfl]
              have hPl := G.len
              have hat : atI (natD P) (j : Int) = some (.int (P[j] : Int)) := at_natD (k := j) rfl (List.getElem?_eq_getElem z)
              walk_at "ev"
              unfold s__law_parts_l1
              walk_at "ev"
              rw [wat (hat)]
              walk_at "ev"
              refine wif (fun z2 => ?_) (fun z2 => ?_)
              · have z2 : x = P[j] := by have := of_decide_eq_true z2; omega
                have hPj : P[j]? = some x := by rw [List.getElem?_eq_getElem z, z2]
                walk_at "ev"
                rw [any_nats]
                refine ⟨sh_nats, ?_⟩
                refine wif (fun z3 => ?_) (fun z3 => ?_)
                · have z3 : ¬ y ∈ P := by simpa using z3
                  walk_at "ev"
                  refine ⟨by rw [natD_len]; omega, P ++ [y], by rw [natD_snoc], by rw [List.length_append]; omega, G.new hPj hxy.1 hxy.2 z3⟩
                · have z3 : y ∈ P := by simpa using z3
                  walk_at "ev"
                  exact ⟨P, rfl, z, G.keep fun _ => z3⟩
              · have z2 : ¬ x = P[j] := by have := of_decide_eq_false z2; omega
                walk_at "ev"
                exact ⟨P, rfl, z, G.keep fun c => by rw [List.getElem?_eq_getElem z] at c; injection c with c; exact absurd c.symm z2⟩
            · subst e
              walk_at "ev"
              exact ⟨P, rfl, z, G⟩
          · rw [if_neg (by rw [z1]; decide), List.append_nil] at ect
            walk_at "ev"
            exact ⟨P, rfl, z, by rw [ect]; exact G⟩
        · subst e
          rw [List.take_of_length_le (Nat.le_refl _)] at G
          walk_at "ev"
          exact ⟨P, rfl, G.next fun x y h => dirs_adj h⟩
      · rw [natD_len] at z
        have z : P.length ≤ j := by have := of_decide_eq_false z; omega
        walk_at "ev"
        exact ⟨P, rfl, G.skip z⟩
    · subst e
      rw [rgL_len, Int.toNat_natCast] at G
      walk_at "ev"
      rw [wopt (ink_some)]
      walk_at "ev"
      have hPl := G.len
      have hki := nodup_lt hn1 hb
      have hki' := ci_mem (ks := ks) (x := i)
      refine wif (fun z => ?_) (fun z => ?_)
      · have z : ¬ i ∈ ks := fun c => by rw [← hki'] at c; simp [c] at z
        have hr : isRep (cc cs g) i := fun t ht c => z ((hm i).mpr ⟨t, ht, con_symm c⟩)
        rw [rep_take, if_pos hr]
        walk_at "ev"
        have hso : sortedf (.list (natD P)) = some (.new (.lst (natD (comp n (cc cs g) i)))) := by
          have := sortedf_some (xs := natD P) (ns := ci P) (by unfold natD ci; rw [List.map_map]; rfl)
          rw [this, G.sorted]
          unfold natD ci; rw [List.map_map]; rfl
        rw [wopt (hso)]
        walk_at "ev"
        refine ⟨by rw [List.length_map]; unfold reps; have := List.length_filter_le (fun s => (open Classical in decide (isRep (cc cs g) s))) (List.range i); rw [List.length_range] at this; omega, ?_⟩
        refine s_forT P (fun (p : Nat) => .int (p : Int)) [4] (fun t ss => ∃ (ks' : List Nat), ss = [.loc (.dk (tset (ci ks')))] ∧ ks'.Nodup ∧ (∀ x ∈ ks', x < n) ∧ ∀ x, x ∈ ks' ↔ x ∈ ks ∨ x ∈ P.take t) ?_
        walk_at "ev"
        refine ⟨rfl, ltr ⟨ks, rfl, hn1, hb, fun x => by simp⟩, ltr fun t x ss hx ⟨ks', e, hn', hb', hm'⟩ => ?_, ltr fun ss ⟨ks', e, hn', hb', hm'⟩ => ?_⟩
        · subst e
          have hxm := List.mem_of_getElem? hx
          have hkl := nodup_lt hn' hb'
          walk_at "ev"
          refine ⟨by rw [tset_len]; unfold ci; rw [List.length_map]; omega, if x ∈ ks' then ks' else ks' ++ [x], ?_, ?_, ?_, ?_⟩
          · rw [putD_tset]
            congr 4
            by_cases c : x ∈ ks'
            · rw [if_pos c, if_pos (ci_mem.mpr c)]
            · rw [if_neg c, if_neg (fun h => c (ci_mem.mp h))]
              unfold ci; rw [List.map_append]; rfl
          · split
            · exact hn'
            · rename_i q
              exact List.nodup_append.mpr ⟨hn', by simp, fun a ha b hb e => by rw [List.mem_singleton.mp hb] at e; rw [e] at ha; exact q ha⟩
          · split
            · exact hb'
            · intro y hy
              rcases List.mem_append.mp hy with hy | hy
              · exact hb' y hy
              · rw [List.mem_singleton.mp hy]; exact G.lt x hxm
          · intro y
            rw [List.take_add_one, hx, Option.toList_some, List.mem_append, List.mem_singleton]
            have := hm' y
            split
            · rename_i q
              constructor
              · intro hy; rcases this.mp hy with h1 | h1
                · exact Or.inl h1
                · exact Or.inr (Or.inl h1)
              · rintro (h1 | h1 | h1)
                · exact this.mpr (Or.inl h1)
                · exact this.mpr (Or.inr h1)
                · rw [h1]; exact q
            · rw [List.mem_append, List.mem_singleton, this, or_assoc]
        · subst e
          rw [List.take_of_length_le (Nat.le_refl _)] at hm'
          walk_at "ev"
          refine ⟨ks', by rw [List.map_append]; rfl, hn', hb', fun x => ?_⟩
          rw [hm' x, G.last x, hm x]
          constructor
          · rintro (⟨r, h1, h2⟩ | h1)
            · exact ⟨r, by omega, h2⟩
            · exact ⟨i, by omega, h1⟩
          · rintro ⟨r, h1, h2⟩
            by_cases er : r = i
            · subst er; exact Or.inr h2
            · exact Or.inl ⟨r, by omega, h2⟩
      · have z : i ∈ ks := by rw [← hki']; simpa using z
        obtain ⟨r, hr1, hr2⟩ := (hm i).mp z
        rw [rep_take, if_neg (show ¬ isRep (cc cs g) i from fun c => c r hr1 (con_symm hr2)), List.append_nil]
        walk_at "ev"
        refine ⟨ks, rfl, hn1, hb, fun x => ?_⟩
        rw [hm x]
        constructor
        · rintro ⟨r', h1, h2⟩; exact ⟨r', by omega, h2⟩
        · rintro ⟨r', h1, h2⟩
          by_cases er : r' = i
          · subst er; exact ⟨r, hr1, con_trans hr2 h2⟩
          · exact ⟨r', by omega, h2⟩
  · subst e
    rw [rgL_len, Int.toNat_natCast]
    walk_at "ev"
    rw [parts_reps, List.map_map]
    rfl
end K33

namespace Pv
open PySem PySem.Spec PyProof.Rows L2
/-! ### law k33: frames along rows of cables -/
end Pv
namespace K33
open PySem PySem.Spec PyProof.Rows L2 Pv Nw Gr
variable {N k : Nat}
def ri (n : Nat) : List Int := (List.range n).map fun (x : Nat) => (x : Int)
theorem ri_len {n : Nat} : (ri n).length = n := by unfold ri; simp
theorem lnet_ok {n : Nat} {cs : List Pc} (hn : n ≤ 400) (hl : cs.length ≤ 1000) : FV (tx.call N (k + 1)) 23 [.int (n : Int), .tuple (cs.map pcD)] (netD (ri n) (cbs cs)) := by
  refine wc_go (d := d__law_net) (slots := 3) (p := 2) (b := s__law_net) (env := [.val (.int (n : Int)), .val (.tuple (cs.map pcD)), .no]) rfl rfl rfl rfl ?_
  unfold s__law_net
  walk_at "ev"
  refine ⟨by unfold rgOk; simp only [line]; omega, ?_⟩
  rw [rg_natD]
  refine w_mapT cs pcD (fun c => cbD (c.1, c.2.2.1, 1)) ?_
  walk_at "ev"
  refine ⟨by omega, ltr fun c hc => ?_, ltr ?_⟩
  · obtain ⟨a, p, b, q⟩ := c
    rw [show pcD (a, p, b, q) = .tuple [.int (a : Int), ptD p, .int (b : Int), ptD q] from rfl]
    walk_at "ev"
    rfl
  · walk_at "ev"
    unfold netD ri cbs natD
    rw [List.map_map, List.map_map]
    rfl
theorem lay_lks : ∀ l : List (Int × Int), PyData.canLayAll0 (l.map lkD) = true
  | [] => by simp [PyData.canLayAll0]
  | x :: r => by simp [PyData.canLayAll0, lkD, PyData.canLay0, lay_lks r]
theorem dep_lks : ∀ l : List (Int × Int), PyData.depthAll (l.map lkD) ≤ 1
  | [] => by simp [PyData.depthAll]
  | x :: r => by
    have := dep_lks r
    simp [PyData.depthAll, lkD, PyData.depth]
    omega
theorem sh_lks {l : List (Int × Int)} : SeqAt.shaped (.tuple (l.map lkD)) = true := by
  have h1 := lay_lks l
  have h2 := dep_lks l
  simp [SeqAt.shaped, PyData.canLay0, PyData.depth, h1]
  omega
theorem eqv_lk0 {l : List (Int × Int)} : PyData.eqv (.tuple (l.map lkD)) (.tuple []) = decide (l = []) := by
  cases l with
  | nil => simp [PyData.eqv, PyData.eqvAll]
  | cons a r => simp [PyData.eqv, PyData.eqvAll]
theorem sh_t0 : SeqAt.shaped (.tuple []) = true := sh_lks (l := [])
theorem isN_optI {o : Option Int} : isNone (optI o) = o.isNone := by cases o <;> rfl
theorem pl_optI {j : Nat} {o : Option Int} : Pl j (optI o) := by cases o; exact .none; exact .int
def Lk0 (cs : List Pc) : Prop := ∀ c ∈ cs, lkP c.2.1 c.2.2.2 = [] ∧ lkP c.2.2.2 c.2.1 = []
theorem row_ok {m : Mo} {cs : List Pc} {n s : Nat} {g : Int} (hm : Drw m) (h : Pok n cs) (hn : n ≤ 400) (hl : cs.length ≤ 1000) (hps : Ps cs) (hs : s < n) : WC (tx.call N (k + 4)) 24 [.io m, .val (.tuple (cs.map pcD)), .val (.int g), .val (.int (s : Int))] fun rv sl => ∃ m', rv = .val (.bool true) ∧ Drw m' ∧ sl = [.io m', .val (.tuple (cs.map pcD)), .val (.int g), .val (.int (s : Int))] := by
  refine wc_go (d := d__law_row_right) (slots := 13) (p := 4) (b := s__law_row_right) (env := [.io m, .val (.tuple (cs.map pcD)), .val (.int g), .val (.int (s : Int)), .no, .no, .no, .no, .no, .no, .no, .no, .no]) rfl rfl rfl rfl ?_
  unfold s__law_row_right
  walk_at "ev"
  refine s_forV [0, 4, 5] (fun i ss => ∃ (m' : Mo) (x : Nat) (o : Option Int), ss = [.io m', .val (.int (x : Int)), .val (optI o)] ∧ Drw m' ∧ x < n ∧ (Lk0 cs → o = none ∨ o = some g)) ?_
  walk_at "ev"
  refine ⟨ltr ⟨m, s, some g, rfl, hm, hs, fun _ => Or.inr rfl⟩, ltr fun i x ss hx ⟨m1, x, o, e, hm1, hx1, ho⟩ => ?_, ltr fun ss ⟨m1, x, o, e, hm1, hx1, ho⟩ => ?_⟩
  · subst e
    clear hx
    walk_at "ev"
    unfold s__law_row_right_l1
    walk_at "ev"
    refine w_fmT cs pcD (fun c => decide (x ∈ [c.1, c.2.2.1])) pcD ?_
    walk_at "ev"
    refine ⟨by omega, ltr fun c hc => ?_, ltr ?_⟩
    · obtain ⟨a, p, b, q⟩ := c
      rw [show pcD (a, p, b, q) = .tuple [.int (a : Int), ptD p, .int (b : Int), ptD q] from rfl]
      walk_at "ev"
      rw [show [PyData.int (a : Int), .int (b : Int)] = natD [a, b] from rfl, any_nats]
      refine ⟨sh_nats, ?_⟩
      refine wif (fun z => ?_) (fun z => ?_)
      · walk_at "ev"
        exact z
      · walk_at "ev"
        exact z
    have hnl : (cs.filter fun c => decide (x ∈ [c.1, c.2.2.1])).length ≤ cs.length := List.length_filter_le _ _
    have hnm : ∀ c ∈ cs.filter (fun c => decide (x ∈ [c.1, c.2.2.1])), c ∈ cs := fun c hc => (List.mem_filter.mp hc).1
    generalize cs.filter (fun c => decide (x ∈ [c.1, c.2.2.1])) = near at *
    walk_at "ev"
    refine wif (fun z1 => ?_) (fun z1 => ?_)
    · rw [List.length_map] at z1
      have z1 : 0 < near.length := by have := of_decide_eq_true z1; omega
      walk_at "ev"
      cases o with
      | none =>
        rw [show optI none = PyData.none from rfl]
        walk_at "ev"
        exact ⟨m1, x, none, rfl, hm1, hx1, ho⟩
      | some gg =>
        rw [show optI (some gg) = PyData.int gg from rfl]
        walk_at "ev"
        rw [List.length_map]
        refine (tk hm1 (show (0 : Int) < (near.length : Int) by omega)).mono ?_
        rintro rv sl ⟨u, m2, rfl, u0, u1, hm2, rfl⟩
        walk_at "ev"
        obtain ⟨u, rfl⟩ := Int.eq_ofNat_of_zero_le u0
        have hu : u < near.length := by omega
        have hcm := hnm _ (List.getElem_mem hu)
        rw [wat (atI_map (j := u) (f := pcD) rfl hu)]
        walk_at "ev"
        generalize near[u] = c at *
        have hc1 := h c hcm
        obtain ⟨a, p, b, q⟩ := c
        rw [show pcD (a, p, b, q) = .tuple [.int (a : Int), ptD p, .int (b : Int), ptD q] from rfl]
        walk_at "ev"
        refine wif (fun z2 => ?_) (fun z2 => ?_)
        · walk_at "ev"
          unfold s__law_row_right_r1
          walk_at "ev"
          refine (over_ok (p := q) (q := p) (g := gg)).mono ?_
          rintro rv sl ⟨rfl, hsl⟩
          walk_at "ev"
          refine (wpbl rfl hsl).mpr ?_
          walk_at "ev"
          refine (behind_ok (p := q) (q := p) (g := gg)).mono ?_
          rintro rv sl ⟨rfl, hsl⟩
          walk_at "ev"
          refine (wpbl rfl hsl).mpr ?_
          walk_at "ev"
          refine (sm pl_optI).mono ?_
          rintro rv sl ⟨rfl, rfl⟩
          walk_at "ev"
          exact ⟨m2, a, over q p gg, rfl, hm2, hc1.1, fun hk => by
            rcases ho hk with e | e
            · cases e
            · injection e with e; subst e
              exact lk_nil (hk _ hcm).2⟩
        · walk_at "ev"
          unfold s__law_row_right_r1
          walk_at "ev"
          refine (over_ok (p := p) (q := q) (g := gg)).mono ?_
          rintro rv sl ⟨rfl, hsl⟩
          walk_at "ev"
          refine (wpbl rfl hsl).mpr ?_
          walk_at "ev"
          refine (behind_ok (p := p) (q := q) (g := gg)).mono ?_
          rintro rv sl ⟨rfl, hsl⟩
          walk_at "ev"
          refine (wpbl rfl hsl).mpr ?_
          walk_at "ev"
          refine (sm pl_optI).mono ?_
          rintro rv sl ⟨rfl, rfl⟩
          walk_at "ev"
          exact ⟨m2, b, over p q gg, rfl, hm2, hc1.2, fun hk => by
            rcases ho hk with e | e
            · cases e
            · injection e with e; subst e
              exact lk_nil (hk _ hcm).1⟩
    · walk_at "ev"
      exact ⟨m1, x, o, rfl, hm1, hx1, ho⟩
  · subst e
    walk_at "ev"
    refine w_fmT cs pcD (fun c => decide (lkP c.2.1 c.2.2.2 ≠ [] ∨ lkP c.2.2.2 c.2.1 ≠ [])) pcD ?_
    walk_at "ev"
    refine ⟨by omega, ltr fun c hc => ?_, ltr ?_⟩
    · have hpc := hps c hc
      obtain ⟨a, p, b, q⟩ := c
      rw [show pcD (a, p, b, q) = .tuple [.int (a : Int), ptD p, .int (b : Int), ptD q] from rfl]
      walk_at "ev"
      refine (leaks_ok (k := k) (p := p) (q := q) (Nat.le_trans hpc.1 (by decide))).mono ?_
      rintro rv sl ⟨rfl, hsl⟩
      walk_at "ev"
      refine (wpbl rfl hsl).mpr ?_
      walk_at "ev"
      rw [eqv_lk0]
      refine ⟨⟨sh_lks, sh_t0⟩, ?_⟩
      refine wif (fun z => ?_) (fun z => ?_)
      · have z : ¬ lkP p q = [] := by simpa using z
        walk_at "ev"
        exact decide_eq_true (Or.inl z)
      · have z : lkP p q = [] := by simpa using z
        walk_at "ev"
        refine (leaks_ok (k := k) (p := q) (q := p) (Nat.le_trans hpc.2 (by decide))).mono ?_
        rintro rv sl ⟨rfl, hsl⟩
        walk_at "ev"
        refine (wpbl rfl hsl).mpr ?_
        walk_at "ev"
        rw [eqv_lk0]
        refine ⟨⟨sh_lks, sh_t0⟩, ?_⟩
        refine wif (fun z' => ?_) (fun z' => ?_)
        · have z' : ¬ lkP q p = [] := by simpa using z'
          walk_at "ev"
          exact decide_eq_true (Or.inr z')
        · have z' : lkP q p = [] := by simpa using z'
          walk_at "ev"
          refine decide_eq_false ?_
          rintro (c | c)
          · exact c z
          · exact c z'
    · have hlk : (cs.filter fun c => decide (lkP c.2.1 c.2.2.2 ≠ [] ∨ lkP c.2.2.2 c.2.1 ≠ [])) = [] → Lk0 cs := fun hf c hc => by
        have := List.filter_eq_nil_iff.mp hf c hc
        simpa using this
      generalize cs.filter (fun c => decide (lkP c.2.1 c.2.2.2 ≠ [] ∨ lkP c.2.2.2 c.2.1 ≠ [])) = lk at *
      walk_at "ev"
      rw [List.length_map]
      refine wif (fun z => ?_) (fun z => ?_)
      · walk_at "ev"
        exact ⟨m1, hm1, rfl⟩
      · have z : lk = [] := by
          have := of_decide_eq_false z
          exact List.eq_nil_of_length_eq_zero (by omega)
        walk_at "ev"
        rcases ho (hlk z) with e | e
        · subst e
          rw [show optI none = PyData.none from rfl]
          walk_at "ev"
          exact ⟨m1, hm1, rfl⟩
        · subst e
          rw [show optI (some g) = PyData.int g from rfl]
          walk_at "ev"
          exact ⟨m1, hm1, rfl⟩
end K33

namespace Pv
open PySem PySem.Spec PyProof.Rows L2
/-! ### law k33: the parts of a group -/
end Pv
namespace K33
open PySem PySem.Spec PyProof.Rows L2 Pv Nw Gr
variable {N k : Nat}
theorem ln {n : Nat} (h : n ≤ 1000) : n ≤ line := by unfold line; omega
theorem pl_parts {j : Nat} {ps : List (List Nat)} (h : ps.length ≤ line) (h2 : ∀ p ∈ ps, p.length ≤ line) : Pl (j + 2) (.tuple (ps.map fun p => .tuple (natD p))) := by
  refine .tup (by rw [List.length_map]; exact h) fun x hx => ?_
  obtain ⟨p, hp, rfl⟩ := List.mem_map.mp hx
  exact pl_nat (h2 p hp)
theorem parts_len {n : Nat} {cs : List Cb} : (partsP n cs).length ≤ n ∧ ∀ p ∈ partsP n cs, p.length ≤ n := by
  classical
  refine ⟨?_, fun p hp => ?_⟩
  · rw [parts_reps, List.length_map]
    unfold reps
    exact Nat.le_trans (List.length_filter_le _ _) (by rw [List.length_range]; exact Nat.le_refl _)
  · rw [parts_reps] at hp
    obtain ⟨r, _, rfl⟩ := List.mem_map.mp hp
    unfold comp
    exact Nat.le_trans (List.length_filter_le _ _) (by rw [List.length_range]; exact Nat.le_refl _)
theorem plp {j : Nat} {n : Nat} (hn : n ≤ 400) {cs : List Cb} : Pl (j + 2) (.tuple ((partsP n cs).map fun p => .tuple (natD p))) :=
  pl_parts (ln (Nat.le_trans parts_len.1 (by omega))) fun p hp => ln (Nat.le_trans (parts_len.2 p hp) (by omega))
def drp (cs : List Pc) (u : Nat) : List Pc := cs.take u ++ cs.drop (u + 1)
theorem drp_mem {cs : List Pc} {u : Nat} : ∀ c ∈ drp cs u, c ∈ cs := fun c hc => by
  unfold drp at hc
  rcases List.mem_append.mp hc with h | h
  · exact List.mem_of_mem_take h
  · exact List.mem_of_mem_drop h
theorem drp_cc {cs : List Pc} {u : Nat} {g : Int} : ∀ c ∈ cc (drp cs u) g, c ∈ cc cs g := fun c hc => by
  unfold cc cbs at *
  obtain ⟨d, hd, rfl⟩ := List.mem_map.mp hc
  obtain ⟨h1, h2⟩ := List.mem_filter.mp hd
  exact List.mem_map.mpr ⟨d, List.mem_filter.mpr ⟨drp_mem d h1, h2⟩, rfl⟩
theorem parts_lt {n : Nat} {cs : List Cb} {p : List Nat} (hp : p ∈ partsP n cs) : ∀ x ∈ p, x < n := fun x hx => by
  classical
  rw [parts_reps] at hp
  obtain ⟨r, _, rfl⟩ := List.mem_map.mp hp
  exact (mem_comp.mp hx).1
theorem group_ok {m : Mo} {cs : List Pc} {n : Nat} {many g : D} {Q : Ctl → Env' → Prop} {gi : Int} (hg : g = .int gi) (hm : Drw m) (h : Pok n cs) (h1 : 1 ≤ n) (hn : n ≤ 400) (hl : cs.length ≤ 1000) (hps : Ps cs) {s5 s6 s7 s9 s10 s11 : Sl}
    (hq : ∀ m' d8 d12, Drw m' → Q .nx [.io m', .val (.int (n : Int)), .val many, .val (.tuple (cs.map pcD)), .val g, s5, s6, s7, .val d8, s9, s10, s11, .val d12, .no, .no, .no, .no, .no, .no, .no, .no, .no, .no]) :
    WS tx.gl (tx.call 1000 (k + 5)) 1000 s__law_right_l2 [.io m, .val (.int (n : Int)), .val many, .val (.tuple (cs.map pcD)), .val g, s5, s6, s7, .no, s9, s10, s11, .no, .no, .no, .no, .no, .no, .no, .no, .no, .no, .no] Q := by
  subst hg
  have hcl : (partsP n (cc cs gi)).length ≤ n := parts_len.1
  unfold s__law_right_l2
  walk_at "ev"
  refine (lparts_ok (g := gi) h hn hl).mono ?_
  rintro rv sl ⟨rfl, hsl⟩
  walk_at "ev"
  refine (wpbl rfl hsl).mpr ?_
  walk_at "ev"
  refine (switches_ok (g := gi) h hn hl).mono ?_
  rintro rv sl ⟨rfl, hsl⟩
  walk_at "ev"
  refine (wpbl rfl hsl).mpr ?_
  walk_at "ev"
  refine (sm (plp (j := k + 2) hn)).mono ?_
  rintro rv sl ⟨rfl, rfl⟩
  walk_at "ev"
  refine w_fmT cs pcD (fun c => car gi c) pcD ?_
  walk_at "ev"
  refine ⟨by omega, ltr fun c hc => ?_, ltr ?_⟩
  · walk_at "ev"
    refine (carries_ok (c := c) (g := gi)).mono ?_
    rintro rv sl ⟨rfl, hsl⟩
    walk_at "ev"
    refine (wpbl rfl hsl).mpr ?_
    walk_at "ev"
    refine wif (fun z => ?_) (fun z => ?_)
    · walk_at "ev"
      exact z
    · walk_at "ev"
      exact z
  walk_at "ev"
  have hfl : (cs.filter fun c => car gi c).length ≤ cs.length := List.length_filter_le _ _
  refine (lnet_ok (cs := cs.filter fun c => car gi c) hn (by omega)).mono ?_
  rintro rv sl ⟨rfl, hsl⟩
  walk_at "ev"
  refine (wpbl rfl hsl).mpr ?_
  walk_at "ev"
  have hnk : Nok (ri n).length (cbs (cs.filter fun c => car gi c)) := by
    rw [ri_len]
    exact cbs_ok (fun c hc => h c (List.mem_filter.mp hc).1) (by omega) hn
  refine (parts_ok hnk).mono ?_
  rintro rv sl ⟨rfl, hsl⟩
  walk_at "ev"
  refine (wpbl rfl hsl).mpr ?_
  walk_at "ev"
  rw [ri_len]
  refine (sm (plp (j := k + 2) hn)).mono ?_
  rintro rv sl ⟨rfl, rfl⟩
  walk_at "ev"
  refine (tk hm (show (0 : Int) < (n : Int) by omega)).mono ?_
  rintro rv sl ⟨u, m1, rfl, u0, u1, hm1, rfl⟩
  walk_at "ev"
  obtain ⟨u, rfl⟩ := Int.eq_ofNat_of_zero_le u0
  refine (row_ok (g := gi) (s := u) hm1 h hn hl hps (by omega)).mono ?_
  rintro rv sl ⟨m2, rfl, hm2, rfl⟩
  walk_at "ev"
  refine wif (fun z => ?_) (fun z => ?_)
  · have z : 0 < cs.length := by simpa using z
    walk_at "ev"
    rw [List.length_map]
    refine (tk hm2 (show (0 : Int) < (cs.length : Int) by omega)).mono ?_
    rintro rv sl ⟨v, m3, rfl, v0, v1, hm3, rfl⟩
    walk_at "ev"
    obtain ⟨v, rfl⟩ := Int.eq_ofNat_of_zero_le v0
    have ed : cutD (cs.map pcD) none (some (v : Int)) ++ cutD (cs.map pcD) (some ((v : Int) + 1)) none = (drp cs v).map pcD := by
      rw [cut_to, show (v : Int) + 1 = ((v + 1 : Nat) : Int) by omega, cut_from]
      unfold drp
      rw [List.map_append, List.map_take, List.map_drop]
    have hdl : (drp cs v).length ≤ cs.length := by
      unfold drp; rw [List.length_append, List.length_take, List.length_drop]; omega
    refine ⟨?_, ?_⟩
    · rw [← List.length_append, ed, List.length_map]; omega
    rw [ed]
    have hdp : Pok n (drp cs v) := fun c hc => h c (drp_mem c hc)
    refine (switches_ok (g := gi) hdp hn (by omega)).mono ?_
    rintro rv sl ⟨rfl, hsl⟩
    walk_at "ev"
    refine (wpbl rfl hsl).mpr ?_
    walk_at "ev"
    have hle := fewer_len (n := n) (drp_cc (cs := cs) (u := v) (g := gi))
    rw [List.length_map, List.length_map]
    refine wif (fun z2 => ?_) (fun z2 => ?_)
    · have := of_decide_eq_true z2
      omega
    walk_at "ev"
    refine s_forT (partsP n (cc (drp cs v) gi)) (fun p => .tuple (natD p)) [] (fun t ss => ss = []) ?_
    walk_at "ev"
    refine ⟨ltr rfl, ltr fun t p ss hx e => ?_, ltr fun ss e => ?_⟩
    · subst e
      have hp := List.mem_of_getElem? hx
      have hpl := parts_len.2 p hp
      walk_at "ev"
      unfold s__law_right_l1
      walk_at "ev"
      refine w_fmT (partsP n (cc cs gi)) (fun w => .tuple (natD w)) (fun w => decide ((p.filter fun x => decide (x ∈ w)).length = p.length)) (fun w => .tuple (natD w)) ?_
      walk_at "ev"
      refine ⟨by omega, ltr fun w hw => ?_, ltr ?_⟩
      · walk_at "ev"
        refine w_fmT p (fun (x : Nat) => .int (x : Int)) (fun x => decide (x ∈ w)) (fun (x : Nat) => .int (x : Int)) ?_
        walk_at "ev"
        refine ⟨rfl, by omega, ltr fun x hx => ?_, ltr ?_⟩
        · walk_at "ev"
          rw [any_nats]
          refine ⟨sh_nats, ?_⟩
          refine wif (fun z => ?_) (fun z => ?_)
          · walk_at "ev"
            exact z
          · walk_at "ev"
            exact z
        · walk_at "ev"
          rw [List.length_map, natD_len]
          refine wif (fun z => ?_) (fun z => ?_)
          · walk_at "ev"
            have := of_decide_eq_true z
            exact decide_eq_true (by omega)
          · walk_at "ev"
            have := of_decide_eq_false z
            exact decide_eq_false (by omega)
      · walk_at "ev"
        rw [List.length_map, one_whole (drp_cc (cs := cs) (u := v) (g := gi)) hp]
        refine wif (fun z => ?_) (fun z => ?_)
        · simp at z
        · walk_at "ev"
    · subst e
      walk_at "ev"
      exact hq _ _ _ hm3
  · walk_at "ev"
    exact hq _ _ _ hm2
end K33

namespace Pv
open PySem PySem.Spec PyProof.Rows L2
/-! ### law k33: all of it -/
end Pv
namespace K33
open PySem PySem.Spec PyProof.Rows L2 Pv Nw Gr
variable {N k : Nat}
theorem right_ok {m : Mo} {n many : Nat} (hm : Drw m) (h1 : 1 ≤ n) (hn : n ≤ 400) (hmy : many ≤ 1000) : WC (tx.call 1000 (k + 6)) 25 [.io m, .val (.int (n : Int)), .val (.int (many : Int))] fun rv sl => ∃ m', rv = .val (.bool true) ∧ Drw m' ∧ sl = [.io m', .val (.int (n : Int)), .val (.int (many : Int))] := by
  refine wc_go (d := d__law_right) (slots := 23) (p := 3) (b := s__law_right) (env := [.io m, .val (.int (n : Int)), .val (.int (many : Int)), .no, .no, .no, .no, .no, .no, .no, .no, .no, .no, .no, .no, .no, .no, .no, .no, .no, .no, .no, .no]) rfl rfl rfl rfl ?_
  unfold s__law_right
  walk_at "ev"
  refine (tk hm (show (0 : Int) < 2 by decide)).mono ?_
  rintro rv sl ⟨st, m1, rfl, t0, t1, hm1, rfl⟩
  walk_at "ev"
  obtain ⟨st, rfl⟩ := Int.eq_ofNat_of_zero_le t0
  refine (cables_ok (k := k + 1) (style := st) hm1 h1 hn hmy (by omega)).mono ?_
  rintro rv sl ⟨cs, m2, rfl, hp, hl, hps, hm2, rfl⟩
  walk_at "ev"
  refine s_forT [-2, -1, 0, 1, 9] .int [0] (fun i ss => ∃ m' : Mo, ss = [.io m'] ∧ Drw m') ?_
  walk_at "ev"
  refine ⟨rfl, ltr ⟨m2, rfl, hm2⟩, ltr fun i g ss hx ⟨m3, e, hm3⟩ => ?_, ltr fun ss ⟨m3, e, hm3⟩ => ?_⟩
  · subst e
    walk_at "ev"
    refine group_ok rfl hm3 hp h1 hn (by omega) hps fun m' d8 d12 hm' => ?_
    walk_at "ev"
    exact ⟨m', rfl, hm'⟩
  subst e
  clear hm2 hm1 hm
  walk_at "ev"
  refine ⟨by unfold rgOk line; omega, ?_⟩
  rw [rg0]
  refine s_forV [0, 5] (fun i ss => ∃ (m' : Mo) (l : List Nat), ss = [.io m', .loc (.lst (natD l))] ∧ Drw m' ∧ l.Perm (List.range n)) ?_
  walk_at "ev"
  refine ⟨by omega, ltr ⟨m3, List.range n, rfl, hm3, .refl _⟩, ltr fun i x ss hx ⟨m1, l, e, hm1, hpm⟩ => ?_, ltr fun ss ⟨m1, l, e, hm1, hpm⟩ => ?_⟩
  · subst e
    have hl : l.length = n := by rw [hpm.length_eq, List.length_range]
    walk_at "ev"
    refine (tk hm1 (by omega)).mono ?_
    rintro rv sl ⟨v, m2, rfl, v0, v1, hm2, rfl⟩
    walk_at "ev"
    obtain ⟨v, rfl⟩ := Int.eq_ofNat_of_zero_le v0
    have hv : v < l.length := by omega
    rw [r_popAt (k := v) (d := .int (l[v] : Int)) (ixN_some rfl (by rw [natD_len]; exact hv)) (by unfold natD; rw [List.getElem?_map, List.getElem?_eq_getElem hv]; rfl) (by omega)]
    walk_at "ev"
    refine ⟨?_, m2, l.eraseIdx v ++ [l[v]], ?_, hm2, ?_⟩
    · rw [List.length_eraseIdx]; split <;> (rw [natD_len]; omega)
    · rw [← natD_snoc]; unfold natD; rw [List.eraseIdx_eq_take_drop_succ, List.eraseIdx_eq_take_drop_succ, List.map_append, List.map_take, List.map_drop]
    · refine ((List.perm_append_singleton _ _).trans ?_).trans hpm
      rw [List.eraseIdx_eq_take_drop_succ]
      refine (List.perm_middle (a := l[v])).symm.trans ?_
      rw [List.getElem_cons_drop, List.take_append_drop]
  subst e
  have hll : l.length = n := by rw [hpm.length_eq, List.length_range]
  have P : Pm n l := ⟨hll, hpm.nodup_iff.mpr List.nodup_range, fun x hx => List.mem_range.mp (hpm.mem_iff.mp hx)⟩
  have anm : ∀ x, x < n → atI (natD l) (x : Int) = some (.int (nm l x : Int)) := fun x hx => by
    have := atI_map (f := fun (k : Nat) => PyData.int (k : Int)) (xs := l) (i := (x : Int)) (j := x) rfl (by omega)
    rw [← nm_get (by omega)] at this
    exact this
  walk_at "ev"
  refine w_mapT cs pcD (fun c => pcD (nm l c.1, c.2.1, nm l c.2.2.1, c.2.2.2)) ?_
  walk_at "ev"
  refine ⟨by omega, ltr fun c hc => ?_, ltr ?_⟩
  · obtain ⟨c1, c2⟩ := hp c hc
    obtain ⟨a, p, b, q⟩ := c
    rw [show pcD (a, p, b, q) = .tuple [.int (a : Int), ptD p, .int (b : Int), ptD q] from rfl]
    walk_at "ev"
    rw [wat (anm a c1)]
    walk_at "ev"
    rw [wat (anm b c2)]
    walk_at "ev"
    rfl
  rw [show cs.map (fun c => pcD (nm l c.1, c.2.1, nm l c.2.2.1, c.2.2.2)) = (ren l cs).map pcD by unfold ren; rw [List.map_map]; rfl]
  have hpr : Pok n (ren l cs) := ren_ok P hp
  have hrl : (ren l cs).length ≤ 1000 := by unfold ren; rw [List.length_map]; omega
  have he := cc_e (g := 0) hp
  have G := rn_gp P he
  obtain ⟨pl1, pl2⟩ := parts_len (n := n) (cs := cc cs 0)
  walk_at "ev"
  refine w_mapT (partsP n (cc cs 0)) (fun p => .tuple (natD p)) (fun p => tpI (sortI (ci (p.map (nm l))))) ?_
  walk_at "ev"
  refine (lparts_ok (g := 0) hp hn (by omega)).mono ?_
  rintro rv sl ⟨rfl, hsl⟩
  walk_at "ev"
  refine (wpbl rfl hsl).mpr ?_
  walk_at "ev"
  refine ⟨by omega, ltr fun p hp => ?_, ltr ?_⟩
  · have hpl := pl2 p hp
    have hpm := parts_lt hp
    walk_at "ev"
    refine w_mapT p (fun (k : Nat) => .int (k : Int)) (fun x => .int (nm l x : Int)) ?_
    walk_at "ev"
    refine ⟨rfl, by omega, ltr fun x hx => ?_, ltr ?_⟩
    · walk_at "ev"
      rw [wat (anm x (hpm x hx))]
      walk_at "ev"
    · walk_at "ev"
      rw [wopt (sortedf_some (ns := ci (p.map (nm l))) (by unfold ci; rw [List.map_map, List.map_map]; rfl))]
      walk_at "ev"
  walk_at "ev"
  have eg : List.map (fun p => tpI (sortI (ci (p.map (nm l))))) (partsP n (cc cs 0)) = (((partsP n (cc cs 0)).map fun p => p.map (nm l)).map fun g => sortI (ci g)).map tpI := by rw [List.map_map, List.map_map]; rfl
  have hne : ∀ x ∈ (((partsP n (cc cs 0)).map fun p => p.map (nm l)).map fun g => sortI (ci g)), x ≠ [] := fun x hx => by
    obtain ⟨g, hg, rfl⟩ := List.mem_map.mp hx
    intro z
    have := congrArg List.length z
    rw [(sortI_perm0 _).length_eq, List.length_map] at this
    exact G.ne g hg (List.length_eq_zero_iff.mp this)
  rw [eg]
  rw [wopt (sortrows_ne rfl hne)]
  walk_at "ev"
  rw [G.parts, List.map_map]
  have ep : (partsP n (rnC l (cc cs 0))).map (tpI ∘ ci) = (partsP n (rnC l (cc cs 0))).map fun p => PyData.tuple (natD p) := List.map_congr_left fun p _ => by
    show PyData.tuple ((ci p).map .int) = _
    unfold natD ci; rw [List.map_map]; rfl
  rw [ep, ← ren_cc]
  refine (switches_ok (g := 0) hpr hn hrl).mono ?_
  rintro rv sl ⟨rfl, hsl⟩
  walk_at "ev"
  refine (wpbl rfl hsl).mpr ?_
  walk_at "ev"
  refine (sm (plp (j := k + 2) hn)).mono ?_
  rintro rv sl ⟨rfl, rfl⟩
  walk_at "ev"
  refine w_compV [0] (fun i zs ss => ∃ (m' : Mo) (S : List Int), ss = [.io m'] ∧ zs = S.map .int ∧ S.length ≤ i ∧ (∀ x ∈ S, x ≤ 5) ∧ Drw m') ?_
  walk_at "ev"
  refine ⟨by decide, ⟨m1, [], rfl, rfl, Nat.le_refl _, fun x hx => absurd hx (by simp), hm1⟩, ltr fun i x zs ss hx ⟨m2, S, e, ez, hS, hS5, hm2⟩ => ?_, ltr fun zs ss ⟨m2, S, e, ez, hS, hS5, hm2⟩ => ?_⟩
  · subst e ez
    obtain ⟨hi, rfl⟩ := rgL_get.mp hx
    have hi : i < 5 := hi
    walk_at "ev"
    refine (tk hm2 (show (0 : Int) < 2 by decide)).mono ?_
    rintro rv sl ⟨d, m3, rfl, d0, d1, hm3, rfl⟩
    walk_at "ev"
    refine wif (fun h1 => ?_) (fun h1 => ?_)
    · walk_at "ev"
      refine ⟨m3, S ++ [1 + (i : Int)], rfl, by rw [List.map_append]; rfl, by rw [List.length_append, List.length_singleton]; omega, fun x hx => ?_, hm3⟩
      rcases List.mem_append.mp hx with hx | hx
      · exact hS5 x hx
      · rw [List.mem_singleton.mp hx]; omega
    · walk_at "ev"
      exact ⟨m3, S, rfl, rfl, by omega, hS5, hm3⟩
  subst e ez
  rw [rgL_len] at hS
  have hS : S.length ≤ 5 := hS
  walk_at "ev"
  refine ⟨by rw [List.length_map]; omega, ?_⟩
  rw [show [PyData.int 0] ++ S.map PyData.int = ((0 : Int) :: S).map .int from rfl]
  have h77 : (77 : Int) ∉ (0 : Int) :: S := fun c => by
    rcases List.mem_cons.mp c with c | c
    · exact absurd c (by decide)
    · have := hS5 _ c; omega
  have hSl : ((0 : Int) :: S).length ≤ 6 := by rw [List.length_cons]; omega
  have hSp : 0 < ((0 : Int) :: S).length := by rw [List.length_cons]; omega
  generalize (0 : Int) :: S = gs at *
  rw [List.length_map]
  refine (tk hm2 (show (0 : Int) < (gs.length : Int) by omega)).mono ?_
  rintro rv sl ⟨v, m3, rfl, v0, v1, hm3, rfl⟩
  walk_at "ev"
  obtain ⟨v, rfl⟩ := Int.eq_ofNat_of_zero_le v0
  have hv : v < gs.length := by omega
  rw [wat (atI_map (j := v) (f := PyData.int) rfl hv)]
  walk_at "ev"
  generalize hoe : gs[v] = o at *
  have ho : o ∈ gs := by rw [← hoe]; exact List.getElem_mem _
  refine w_mapT cs pcD (fun c => pcD (c.1, Pt.trk gs (some o), c.2.2.1, Pt.trk gs (some o))) ?_
  walk_at "ev"
  refine ⟨by omega, ltr fun c hc => ?_, ltr ?_⟩
  · obtain ⟨a, p, b, q⟩ := c
    rw [show pcD (a, p, b, q) = .tuple [.int (a : Int), ptD p, .int (b : Int), ptD q] from rfl]
    walk_at "ev"
    rfl
  rw [show cs.map (fun c => pcD (c.1, Pt.trk gs (some o), c.2.2.1, Pt.trk gs (some o))) = (alk (.trk gs (some o)) cs).map pcD by unfold alk; rw [List.map_map]; rfl]
  have hpa : Pok n (alk (.trk gs (some o)) cs) := alk_ok hp
  have hal : (alk (.trk gs (some o)) cs).length ≤ 1000 := by unfold alk; rw [List.length_map]; omega
  walk_at "ev"
  refine s_forT gs .int [] (fun t ss => ss = []) ?_
  walk_at "ev"
  refine ⟨ltr rfl, ltr fun t g ss hx e => ?_, ltr fun ss e => ?_⟩
  · subst e
    have hg := List.mem_of_getElem? hx
    walk_at "ev"
    unfold s__law_right_l3
    walk_at "ev"
    refine (switches_ok (g := g) hpa hn hal).mono ?_
    rintro rv sl ⟨rfl, hsl⟩
    walk_at "ev"
    refine (wpbl rfl hsl).mpr ?_
    walk_at "ev"
    refine (lnet_ok (cs := cs) hn (by omega)).mono ?_
    rintro rv sl ⟨rfl, hsl⟩
    walk_at "ev"
    refine (wpbl rfl hsl).mpr ?_
    walk_at "ev"
    have hnk : Nok (ri n).length (cbs cs) := by
      rw [ri_len]
      exact cbs_ok hp (by omega) hn
    refine (parts_ok hnk).mono ?_
    rintro rv sl ⟨rfl, hsl⟩
    walk_at "ev"
    refine (wpbl rfl hsl).mpr ?_
    walk_at "ev"
    rw [ri_len, alk_all hg]
    refine (sm (plp (j := k + 2) hn)).mono ?_
    rintro rv sl ⟨rfl, rfl⟩
    walk_at "ev"
  · subst e
    walk_at "ev"
    refine (switches_ok (g := 77) hpa hn hal).mono ?_
    rintro rv sl ⟨rfl, hsl⟩
    walk_at "ev"
    refine (wpbl rfl hsl).mpr ?_
    walk_at "ev"
    rw [alk_none h77]
    refine w_mapT (List.range n) (fun (x : Nat) => .int (x : Int)) (fun x => .tuple (natD [x])) ?_
    walk_at "ev"
    refine ⟨by omega, rg0, by rw [List.length_range]; omega, ltr fun x hx => ?_, ltr ?_⟩
    · walk_at "ev"
      rfl
    walk_at "ev"
    have e77 : (partsP n []).map (fun p => PyData.tuple (natD p)) = (List.range n).map fun x => .tuple (natD [x]) := by
      rw [parts_nil, List.map_map]; rfl
    rw [← e77]
    refine (sm (plp (j := k + 2) hn)).mono ?_
    rintro rv sl ⟨rfl, rfl⟩
    walk_at "ev"
    exact ⟨m3, hm3, rfl⟩
end K33

namespace Pv
open PySem PySem.Spec PyProof.Rows L2
/-! ### law k33: the law -/
end Pv
namespace K33
open PySem PySem.Spec PyProof.Rows L2 Pv Nw Gr
variable {N k : Nat}
def cF : List Pc := [(0, .acc 4, 1, .trk [4, 6] (some 4)), (1, .trk [4, 6] (some 4), 2, .trk [4, 6] none), (2, .acc 6, 3, .acc 4)]
theorem pokF : Pok 4 cF := by unfold Pok; decide
theorem p4 : partsP 4 (cc cF 4) = [[0, 1], [2], [3]] := by rw [parts_bfs (cc_e pokF)]; decide +kernel
theorem p6 : partsP 4 (cc cF 6) = [[0], [1, 2], [3]] := by rw [parts_bfs (cc_e pokF)]; decide +kernel
theorem law_ok {ns : List Int} (hS : Sc ns) : WC (tx.call 1000 (k + 7)) 26 [.val (scrD (ns.map .int))] fun rv sl => rv = .val (.bool true) := by
  refine wc_go (d := d_law) (slots := 5) (p := 1) (b := s_law) (env := [.val (scrD (ns.map .int)), .no, .no, .no, .no]) rfl rfl rfl rfl ?_
  unfold s_law
  walk_at "ev"
  refine (dr (many := 820) hS (by decide)).mono ?_
  rintro rv sl ⟨m, rfl, hm, rfl⟩
  walk_at "ev"
  refine (tk hm (show (0 : Int) < 5 by decide)).mono ?_
  rintro rv sl ⟨v1, m1, rfl, a0, a1, hm1, rfl⟩
  walk_at "ev"
  obtain ⟨v1, rfl⟩ := Int.eq_ofNat_of_zero_le a0
  refine (tk hm1 (show (0 : Int) < 8 by decide)).mono ?_
  rintro rv sl ⟨v2, m2, rfl, b0, b1, hm2, rfl⟩
  walk_at "ev"
  obtain ⟨v2, rfl⟩ := Int.eq_ofNat_of_zero_le b0
  rw [show (1 : Int) + (v1 : Int) = ((1 + v1 : Nat) : Int) from by omega]
  refine (right_ok (k := k) (n := 1 + v1) (many := v2) hm2 (by omega) (by omega) (by omega)).mono ?_
  rintro rv sl ⟨m3, rfl, hm3, rfl⟩
  walk_at "ev"
  refine (tk hm3 (show (0 : Int) < 10 by decide)).mono ?_
  rintro rv sl ⟨v3, m4, rfl, c0, c1, hm4, rfl⟩
  walk_at "ev"
  obtain ⟨v3, rfl⟩ := Int.eq_ofNat_of_zero_le c0
  refine (tk hm4 (show (0 : Int) < 21 by decide)).mono ?_
  rintro rv sl ⟨v4, m5, rfl, d0, d1, hm5, rfl⟩
  walk_at "ev"
  obtain ⟨v4, rfl⟩ := Int.eq_ofNat_of_zero_le d0
  rw [show (1 : Int) + (v3 : Int) = ((1 + v3 : Nat) : Int) from by omega]
  refine (right_ok (k := k) (n := 1 + v3) (many := v4) hm5 (by omega) (by omega) (by omega)).mono ?_
  rintro rv sl ⟨m6, rfl, hm6, rfl⟩
  walk_at "ev"
  have s4 := switches_ok (N := 1000) (k := k + 1) (cs := cF) (n := 4) (g := 4) pokF (by decide) (by decide)
  have s6 := switches_ok (N := 1000) (k := k + 1) (cs := cF) (n := 4) (g := 6) pokF (by decide) (by decide)
  rw [p4] at s4
  rw [p6] at s6
  refine (s4).mono ?_
  rintro rv sl ⟨rfl, hsl⟩
  walk_at "ev"
  refine (wpbl rfl hsl).mpr ?_
  walk_at "ev"
  refine (sm (pl_parts (j := k + 3) (ps := [[0, 1], [2], [3]]) (by decide) (by decide))).mono ?_
  rintro rv sl ⟨rfl, rfl⟩
  walk_at "ev"
  refine (s6).mono ?_
  rintro rv sl ⟨rfl, hsl⟩
  walk_at "ev"
  refine (wpbl rfl hsl).mpr ?_
  walk_at "ev"
  refine (sm (pl_parts (j := k + 3) (ps := [[0], [1, 2], [3]]) (by decide) (by decide))).mono ?_
  rintro rv sl ⟨rfl, rfl⟩
  walk_at "ev"
  have lk := leaks_ok (N := 1000) (k := k + 3) (p := .acc 6) (q := .acc 4) (by decide)
  rw [show lkP (.acc 6) (.acc 4) = [(6, 4)] from rfl] at lk
  refine (lk).mono ?_
  rintro rv sl ⟨rfl, hsl⟩
  walk_at "ev"
  refine (wpbl rfl hsl).mpr ?_
  walk_at "ev"
  rw [show [(6, 4)].map lkD = [PyData.tuple [PyData.int 6, PyData.int 4]] from rfl]
  have pl : Pl (k + 5) (.tuple [PyData.tuple [PyData.int 6, PyData.int 4]]) := .tup (by decide) fun x hx => by
    rw [List.mem_singleton.mp hx]
    exact pl_ints (ns := [6, 4]) (by decide)
  refine (sm pl).mono ?_
  rintro rv sl ⟨rfl, rfl⟩
  walk_at "ev"
  refine (right_ok (k := k) (n := 3) (many := 4) hm6 (by omega) (by omega) (by omega)).mono ?_
  rintro rv sl ⟨m7, rfl, hm7, rfl⟩
  walk_at "ev"
theorem says : tx.Says 26 1000 100 := fun ns hS => by
  obtain ⟨rv, sl, h, rfl⟩ := law_ok (k := 93) hS
  exact ⟨sl, h⟩
end K33

open PySem PySem.W PyProof.Rows
set_option maxHeartbeats 0 in
theorem PySem.Challenge.cw_switchtrees_k33_whole_groups_as_nets_holds : PySem.Challenge.rw_switchtrees_k33_whole_groups_as_nets.Holds := by
  w_on; o_law; k_head; (case hw => w_witness2)
  k_fill
  refine L2.walk_ofB (l := PySem.Challenge.rw_switchtrees_k33_whole_groups_as_nets) (n := 63) (k := 100) (x := "script") (CX := fun _ => L2.CX0) (sp := fun w => Pv.spLaw _) rfl (by decide) rfl ⟨rfl, by decide, by decide⟩ (fun w h Y => PySem.W.kIn_of Y) ?F (fun _ _ a ns hl hb hO hS => ⟨a, ns, rfl, hS, Pv.sc_of (by decide) hl hb, hO, fun _ => rfl⟩) (fun _ _ _ _ _ h => h)
  case F =>
    intro w mg fa h KX G hmg
    have hA : Pv.AllIn KX mg K33.tx.dfs := by
      refine ⟨?_, ?_⟩
      · refine' Pv.df_mk (d := K33.d_belongs_to) (x := "belongs_to") KX G rfl ?a ?l ?c ?k ?b
        (case a => k_is); (case l => k_is); (case c => k_is); (case k => k_is)
        case b => intro _ _ _ _ _ _ us hl; exact match us, hl with | [_, _], _ => rfl
      refine ⟨?_, ?_⟩
      · refine' Pv.df_mk (d := K33.d_is_untagged) (x := "is_untagged") KX G rfl ?a ?l ?c ?k ?b
        (case a => k_is); (case l => k_is); (case c => k_is); (case k => k_is)
        case b => intro _ _ _ _ _ _ us hl; exact match us, hl with | [_, _], _ => rfl
      refine ⟨?_, ?_⟩
      · refine' Pv.df_mk (d := K33.d_plain_group) (x := "plain_group") KX G rfl ?a ?l ?c ?k ?b
        (case a => k_is); (case l => k_is); (case c => k_is); (case k => k_is)
        case b => intro _ _ _ _ _ _ us hl; exact match us, hl with | [_], _ => rfl
      refine ⟨?_, ?_⟩
      · refine' Pv.df_mk (d := K33.d_goes_over) (x := "goes_over") KX G rfl ?a ?l ?c ?k ?b
        (case a => k_is); (case l => k_is); (case c => k_is); (case k => k_is)
        case b => intro _ _ _ _ _ _ us hl; exact match us, hl with | [_, _, _], _ => rfl
      refine ⟨?_, ?_⟩
      · refine' Pv.df_mk (d := K33.d_groups_of) (x := "groups_of") KX G rfl ?a ?l ?c ?k ?b
        (case a => k_is); (case l => k_is); (case c => k_is); (case k => k_is)
        case b => intro _ _ _ _ _ _ us hl; exact match us, hl with | [_], _ => rfl
      refine ⟨?_, ?_⟩
      · refine' Pv.df_mk (d := K33.d_leaks_of) (x := "leaks_of") KX G rfl ?a ?l ?c ?k ?b
        (case a => k_is); (case l => k_is); (case c => k_is); (case k => k_is)
        case b => intro _ _ _ _ _ _ us hl; exact match us, hl with | [_, _], _ => rfl
      refine ⟨?_, ?_⟩
      · refine' Pv.df_mk (d := K33.d_goes_as_itself) (x := "goes_as_itself") KX G rfl ?a ?l ?c ?k ?b
        (case a => k_is); (case l => k_is); (case c => k_is); (case k => k_is)
        case b => intro _ _ _ _ _ _ us hl; exact match us, hl with | [_, _, _], _ => rfl
      refine ⟨?_, ?_⟩
      · refine' Pv.df_mk (d := K33.d_carrying_cables) (x := "carrying_cables") KX G rfl ?a ?l ?c ?k ?b
        (case a => k_is); (case l => k_is); (case c => k_is); (case k => k_is)
        case b => intro _ _ _ _ _ _ us hl; exact match us, hl with | [_, _], _ => rfl
      refine ⟨?_, ?_⟩
      · refine' Pv.df_mk (d := K33.d_switches_of_group) (x := "switches_of_group") KX G rfl ?a ?l ?c ?k ?b
        (case a => k_is); (case l => k_is); (case c => k_is); (case k => k_is)
        case b => intro _ _ _ _ _ _ us hl; exact match us, hl with | [_, _, _], _ => rfl
      refine ⟨?_, ?_⟩
      · refine' Pv.df_mk (d := K33.d_ends_of) (x := "ends_of") KX G rfl ?a ?l ?c ?k ?b
        (case a => k_is); (case l => k_is); (case c => k_is); (case k => k_is)
        case b => intro _ _ _ _ _ _ us hl; exact match us, hl with | [_, _], _ => rfl
      refine ⟨?_, ?_⟩
      · refine' Pv.df_mk (d := K33.d_far_end) (x := "far_end") KX G rfl ?a ?l ?c ?k ?b
        (case a => k_is); (case l => k_is); (case c => k_is); (case k => k_is)
        case b => intro _ _ _ _ _ _ us hl; exact match us, hl with | [_, _, _], _ => rfl
      refine ⟨?_, ?_⟩
      · refine' Pv.df_mk (d := K33.d_steps_of) (x := "steps_of") KX G rfl ?a ?l ?c ?k ?b
        (case a => k_is); (case l => k_is); (case c => k_is); (case k => k_is)
        case b => intro _ _ _ _ _ _ us hl; exact match us, hl with | [_, _], _ => rfl
      refine ⟨?_, ?_⟩
      · refine' Pv.df_mk (d := K33.d_parts_of_net) (x := "parts_of_net") KX G rfl ?a ?l ?c ?k ?b
        (case a => k_is); (case l => k_is); (case c => k_is); (case k => k_is)
        case b => intro _ _ _ _ _ _ us hl; exact match us, hl with | [_], _ => rfl
      refine ⟨?_, ?_⟩
      · refine' Pv.df_mk (d := K33.d__law_draws) (x := "_law_draws") KX G rfl ?a ?l ?c ?k ?b
        (case a => k_is); (case l => k_is); (case c => k_is); (case k => k_is)
        case b => intro _ _ _ _ _ _ us hl; exact match us, hl with | [_, _], _ => rfl
      refine ⟨?_, ?_⟩
      · refine' Pv.df_mk (d := K33.d__law_take) (x := "_law_take") KX G rfl ?a ?l ?c ?k ?b
        (case a => k_is); (case l => k_is); (case c => k_is); (case k => k_is)
        case b => intro _ _ _ _ _ _ us hl; exact match us, hl with | [_, _], _ => rfl
      refine ⟨?_, ?_⟩
      · refine' Pv.df_mk (d := K33.d__law_same) (x := "_law_same") KX G rfl ?a ?l ?c ?k ?b
        (case a => k_is); (case l => k_is); (case c => k_is); (case k => k_is)
        case b => intro _ _ _ _ _ _ us hl; exact match us, hl with | [_, _], _ => rfl
      refine ⟨?_, ?_⟩
      · refine' Pv.df_mk (d := K33.d__law_groups) (x := "_law_groups") KX G rfl ?a ?l ?c ?k ?b
        (case a => k_is); (case l => k_is); (case c => k_is); (case k => k_is)
        case b => intro _ _ _ _ _ _ us hl; exact match us, hl with | [_, _], _ => rfl
      refine ⟨?_, ?_⟩
      · refine' Pv.df_mk (d := K33.d__law_port) (x := "_law_port") KX G rfl ?a ?l ?c ?k ?b
        (case a => k_is); (case l => k_is); (case c => k_is); (case k => k_is)
        case b => intro _ _ _ _ _ _ us hl; exact match us, hl with | [_, _], _ => rfl
      refine ⟨?_, ?_⟩
      · refine' Pv.df_mk (d := K33.d__law_own) (x := "_law_own") KX G rfl ?a ?l ?c ?k ?b
        (case a => k_is); (case l => k_is); (case c => k_is); (case k => k_is)
        case b => intro _ _ _ _ _ _ us hl; exact match us, hl with | [_], _ => rfl
      refine ⟨?_, ?_⟩
      · refine' Pv.df_mk (d := K33.d__law_behind) (x := "_law_behind") KX G rfl ?a ?l ?c ?k ?b
        (case a => k_is); (case l => k_is); (case c => k_is); (case k => k_is)
        case b => intro _ _ _ _ _ _ us hl; exact match us, hl with | [_, _, _], _ => rfl
      refine ⟨?_, ?_⟩
      · refine' Pv.df_mk (d := K33.d__law_cables) (x := "_law_cables") KX G rfl ?a ?l ?c ?k ?b
        (case a => k_is); (case l => k_is); (case c => k_is); (case k => k_is)
        case b => intro _ _ _ _ _ _ us hl; exact match us, hl with | [_, _, _, _], _ => rfl
      refine ⟨?_, ?_⟩
      · refine' Pv.df_mk (d := K33.d__law_carries) (x := "_law_carries") KX G rfl ?a ?l ?c ?k ?b
        (case a => k_is); (case l => k_is); (case c => k_is); (case k => k_is)
        case b => intro _ _ _ _ _ _ us hl; exact match us, hl with | [_, _], _ => rfl
      refine ⟨?_, ?_⟩
      · refine' Pv.df_mk (d := K33.d__law_parts) (x := "_law_parts") KX G rfl ?a ?l ?c ?k ?b
        (case a => k_is); (case l => k_is); (case c => k_is); (case k => k_is)
        case b => intro _ _ _ _ _ _ us hl; exact match us, hl with | [_, _, _], _ => rfl
      refine ⟨?_, ?_⟩
      · refine' Pv.df_mk (d := K33.d__law_net) (x := "_law_net") KX G rfl ?a ?l ?c ?k ?b
        (case a => k_is); (case l => k_is); (case c => k_is); (case k => k_is)
        case b => intro _ _ _ _ _ _ us hl; exact match us, hl with | [_, _], _ => rfl
      refine ⟨?_, ?_⟩
      · refine' Pv.df_mk (d := K33.d__law_row_right) (x := "_law_row_right") KX G rfl ?a ?l ?c ?k ?b
        (case a => k_is); (case l => k_is); (case c => k_is); (case k => k_is)
        case b => intro _ _ _ _ _ _ us hl; exact match us, hl with | [_, _, _, _], _ => rfl
      refine ⟨?_, ?_⟩
      · refine' Pv.df_mk (d := K33.d__law_right) (x := "_law_right") KX G rfl ?a ?l ?c ?k ?b
        (case a => k_is); (case l => k_is); (case c => k_is); (case k => k_is)
        case b => intro _ _ _ _ _ _ us hl; exact match us, hl with | [_, _, _], _ => rfl
      refine ⟨?_, ?_⟩
      · refine' Pv.df_mk (d := K33.d_law) (x := "law") KX G rfl ?a ?l ?c ?k ?b
        (case a => k_is); (case l => k_is); (case c => k_is); (case k => k_is)
        case b => intro _ _ _ _ _ _ us hl; exact match us, hl with | [_], _ => rfl
      trivial
    have hB : Pv.NoneAt mg K33.tx.blt := by
      refine ⟨PySem.W.mg_none_of KX G ?z, ?_⟩
      (case z => k_is)
      refine ⟨PySem.W.mg_none_of KX G ?z, ?_⟩
      (case z => k_is)
      refine ⟨PySem.W.mg_none_of KX G ?z, ?_⟩
      (case z => k_is)
      refine ⟨PySem.W.mg_none_of KX G ?z, ?_⟩
      (case z => k_is)
      refine ⟨PySem.W.mg_none_of KX G ?z, ?_⟩
      (case z => k_is)
      refine ⟨PySem.W.mg_none_of KX G ?z, ?_⟩
      (case z => k_is)
      refine ⟨PySem.W.mg_none_of KX G ?z, ?_⟩
      (case z => k_is)
      refine ⟨PySem.W.mg_none_of KX G ?z, ?_⟩
      (case z => k_is)
      refine ⟨PySem.W.mg_none_of KX G ?z, ?_⟩
      (case z => k_is)
      trivial
    have hG : Pv.GlsIn KX mg K33.tx.gls := by
      intro i x e hi
      cases i <;> cases hi
    obtain ⟨fd, h1, h2⟩ := Pv.law_mk (mg := mg) K33.tx_ok (d := K33.d_law) (x := "script") rfl rfl hmg K33.says hA hB hG (fun z => nomatch z)
    exact ⟨fd, h1, fun base _ _ => h2 _ w base⟩

