import PyProof.Rows.All
import Wide.All
import OpenK.AllK
import Wide.FinOn
import HandS.ForMost
import HandS.Wide
import HandS.WideMore
import HandS.SortInts
import HandS.SetFor
import HandS.Set
import HandS.Deep
import KE.DatumOrd
import KE.SortData
import PyProof.LongRange
import HandS.IsInst
import HandS.Conv
import HandS.Flow
import HandS.TupLe
import HandS.WordsDict
import HandS.Small
import HandS.Style
import HandS.RevTup
import HandS.Ends
import PyProof.Rows.RegStrFacts
import KE.OsArith
import PySem.Challenge.RW_daysround_k34_faults
set_option Elab.async false
set_option linter.all false
set_option autoImplicit false
set_option maxRecDepth 100000
set_option maxHeartbeats 8000000
/-! ### set(xs), xs a list of ints: what sorted asks of it -/
namespace R
open PySem PySem.Spec PyProof.Rows L2
section
variable {P : Program} {w : World} {A : Around} {E : Value → Shared → Prop} {s : Shared}
abbrev noSet (w : World) : Obj := { cls := .type "set", dict := none, data := .set #[] 0 (.fresh 0 0 (!w.params.followText "set-order")) }
abbrev put1 (s : Shared) (o : Obj) : Shared := { s with heap := s.heap.push o }
/-- what stands behind the set's making -/
def Made (w : World) (s : Shared) (ns : List Int) (z : Shared) : Prop :=
  ∃ g tk c, z = { s with heap := g, toks := tk } ∧ SetR w g s.heap.objs.size (fun j => decide (j ∈ ns)) c ∧ c ≤ ns.length ∧ ∀ b o, s.heap.get? b = some o → g.get? b = some o
theorem vals_at {items : Array Value} {ns : List Int} (hit : IntsAre items.toList ns) (i : Nat) (v : Value) (hv : items[i]? = some v) : ∃ k t, ns[i]? = some k ∧ v = .int k t := by
  have len := IntsAre.length hit
  rw [Array.length_toList] at len
  have hi : i < ns.length := len ▸ (Array.getElem?_eq_some_iff.mp hv).1
  obtain ⟨t, e⟩ := IntsAre.int_at hit i v (by rw [Array.getElem?_toList]; exact hv)
  exact ⟨ns[i], t, List.getElem?_eq_getElem hi, by rw [e, List.getD_eq_getElem?_getD, List.getElem?_eq_getElem hi]; rfl⟩
theorem call_set_listR {l : Addr} {items : Array Value} (ns : List Int) {Q : Value → Shared → Prop} (hh : A.handled = none) (hl : s.heap.IsList l items) (hit : IntsAre items.toList ns) (hb : ns.length + 1 < scanBound)
    (h : ∀ z, Made w s ns z → Q (.ref s.heap.objs.size) z) : wpAny (model P w) A (call (.type "set") [.ref l]) Q E s := by
  have size : items.size = ns.length := by rw [← Array.length_toList]; exact IntsAre.length hit
  obtain ⟨c0, tl, way⟩ := F.called_set.mro
  have m1 := F.called_set.made
  have m2 := F.called_set.sub
  have m3 := F.called_set.notType
  have m4 := F.called_set.canCreate
  have m5 := F.typeCall_set_1 (.ref l)
  refine wpAny_call (codeAny_of_tree ?_)
  show wpAny _ _ (callAny (.type "set") _) _ _ (_ : Shared)
  refine wpAny_pure ⟨Code.quiet_builtin _ (by decide +kernel), codeAny_builtin F.entry_type_call ?_⟩
  rw [Around.under_plain (weight_type_call_type "set" [.ref l] []) rfl]
  repeat any_goals (first | wp_step | assumption)
  refine codeAny_mono (code_set_led1 (.ref l) (E := E) (Q₁ := fun v z => v = .ref s.heap.objs.size ∧ z = put1 s (noSet w)) ⟨rfl, rfl⟩) fun r z hr => ?_
  match r, hr with
  | .error e, hr => exact hr
  | .ok (.ret v), ⟨e1, e2⟩ =>
    subst e1 e2
    have at1 : (put1 s (noSet w)).heap.get? s.heap.objs.size = some (noSet w) := Heap.get?_push_size _ rfl
    have ty : (put1 s (noSet w)).TypeIs (.ref s.heap.objs.size) "set" := ⟨_, at1, rfl⟩
    have i1 := F.called_set.init.lookup
    have i2 := F.called_set.init.bind (.ref s.heap.objs.size)
    repeat any_goals (first | wp_step | assumption)
    refine codeAny_mono (codeAny_call_builtin (R := wants (fun v z => v = .none ∧ Made w s ns z) E) F.called_set.init.plain F.entry_set_init (check_set_init_1 ty ?_)) fun r2 z2 hr2 => ?_
    · obtain ⟨⟨k1, k2, k3, k4⟩, g1, g2, nl, g3⟩ := hl
      simp only at g2 g3
      subst g2 g3
      have old : (put1 s (noSet w)).heap.get? l = some { cls := .type "list", dict := k2, data := .seq items nl, slots := k4 } := Heap.get?_push_of_some _ g1
      have n1 := F.sub_list_set
      have n2 := F.sub_list_frozenset
      have n3 : (Value.type "list" == Value.type "dict") = false := by decide
      have isl : (put1 s (noSet w)).heap.IsList l items := ⟨_, old, rfl, nl, rfl⟩
      unfold Builtin.«set.__init__»
      unfold noKeywords Builtin.Frozenset.updateFrom
      generalize q : pyIter = walkOf
      wp_walk
      subst q
      refine wpAny_pyIter_list isl (wpAny_bind (wpAny_runValue ?_))
      have la : l < s.heap.objs.size := Heap.lt_size g1
      have sz : (put1 s (noSet w)).heap.objs.size = s.heap.objs.size + 1 := Heap.size_push ..
      have ne1 : l ≠ (put1 s (noSet w)).heap.objs.size := sz ▸ Nat.ne_of_lt (Nat.lt_succ_of_lt la)
      have ne2 : s.heap.objs.size ∉ [(put1 s (noSet w)).heap.objs.size, l] := by
        rw [List.mem_cons, List.mem_singleton, sz]
        rintro (e | e)
        · exact absurd e (Nat.ne_of_lt (Nat.lt_succ_self _))
        · exact absurd e (Nat.ne_of_gt la)
      refine set_update_ints ((Walks.list (A := A.in1.in1.in1) (by simp [hh]) _ l ne1 items).toS) s.heap.objs.size ne2 ns size hb (vals_at hit) (items.size - 0) 0 _ (by omega) (Nat.zero_le _)
        ⟨⟨_, Heap.get?_push_size _ rfl, rfl, rfl⟩, isl.push _⟩ ⟨0, Nat.le_refl 0, setR_new_at (Heap.get?_push_of_some _ at1)⟩ fun z c mv hc hz => ?_
      obtain ⟨hp, gs, dr, tk, os⟩ := z
      have v1 : gs = s.gens := mv.gens
      have v2 : dr = s.drawn := mv.drawn
      have v3 : os = s.os := mv.os
      subst v1 v2 v3
      show wpAny _ _ (pure ()) _ _ _
      refine wpAny_pure ?_
      show wpAny _ _ (ret .none) _ _ (_ : Shared)
      refine wpAny_pure ⟨rfl, hp, tk, c, rfl, hz, size ▸ hc, fun b o e => ?_⟩
      have b0 : b < s.heap.objs.size := Heap.lt_size e
      refine mv.heap b o ?_ (Heap.get?_push_of_some _ (Heap.get?_push_of_some _ e))
      rw [List.mem_cons, List.mem_singleton, sz]
      rintro (e | e)
      · exact absurd e (Nat.ne_of_lt b0)
      · exact absurd e (Nat.ne_of_lt (Nat.lt_succ_of_lt b0))
    · match r2, hr2 with
      | .error e, hr2 => exact hr2
      | .ok (.ret v), ⟨e1, e2⟩ =>
        subst e1
        repeat any_goals (first | wp_step | assumption)
        exact h _ e2
end
end R

/-! ### sorted of a set of ints, any number of them -/
namespace R
open PySem PySem.Spec PyProof.Rows L2
section
variable {P : Program} {w : World} {A : Around} {E : Value → Shared → Prop} {s : Shared} {a : Addr}
theorem sorted_setB {S : Int → Bool} {n : Nat} {Q : Value → Shared → Prop} (R : SetR w s.heap a S n) (hh : A.handled = none)
    (fin : ∀ z p (out : Array Value) (c : Nat) (ns : List Int), (∀ b o, s.heap.get? b = some o → z.heap.get? b = some o) → z.gens = s.gens → z.os = s.os → s.heap.objs.size ≤ p → z.heap.get? p = some (seqObj "list" out c) →
      IntsAre out.toList ns → ns.Pairwise (· < ·) → (∀ k, k ∈ ns ↔ S k = true) → ns.length = n → Q (.ref p) z) : wpAny (model P w) A (call (.builtin "sorted") [.ref a]) Q E s := by
  obtain ⟨o, es, ep, t, ho, ex, dt, good, nd, mem, few, fits, num, ris, led⟩ := R
  refine Calls.call_function_entry kind_sorted plain_sorted entry_sorted (args_sorted1 _) ?_
  unfold Builtin.«sorted»
  refine wpAny_bind (m := checkCount "sorted" 1 1 _) (wpAny_pure (wpAny_bind (collect_set (A := A.in1) hh ⟨o, ho, ex.1, dt⟩ fits few ris led fun z vs k1 k2 k3 k4 pm => ?_)))
  have len : vs.length = n := by rw [pm.length_eq, List.length_map, Array.length_toList]; exact num
  have allI : ∀ v ∈ vs, ∃ i tk, v = Value.int i tk := fun v hv => by
    obtain ⟨e, he, q⟩ := List.mem_map.mp (pm.mem_iff.mp hv)
    obtain ⟨i, tk, e1, _⟩ := good e he
    exact ⟨i, tk, q ▸ e1⟩
  have hI := SrtO.ints_iv allI
  have lim : n ≤ sizeLine := by rw [sizeLine_eq]; unfold scanBound at few; omega
  have key : vs.map SrtO.iv = (vs.map SrtO.iv) := rfl
  have pk : (vs.map SrtO.iv).Perm (es.toList.map keyOf) := by
    have q := pm.map SrtO.iv
    rw [List.map_map] at q
    refine q.trans (List.Perm.of_eq (List.map_congr_left fun e he => ?_))
    obtain ⟨i, tk, e1, _⟩ := good e he
    obtain ⟨hsh, v⟩ := e
    simp only at e1
    subst e1
    rfl
  refine wpAny_bind (wpAny_newList ?_ (len ▸ lim))
  have own : (z.heap.push (seqObj "list" vs.toArray 0)).get? z.heap.objs.size = some (seqObj "list" vs.toArray 0) := Heap.get?_push_size _ rfl
  refine wpAny_bind (wpAny_holding (wpAny_call_entry slot_list_sort ⟨_, own, rfl⟩ entry_list_sort (SrtO.list_sort_ord SrtO.swo_int own (len ▸ lim) (fun h2 => SrtO.ints_sortable hI h2) fun out h1 h2 => ⟨.none, rfl, ?_⟩) (args_list_sort _)))
  obtain ⟨q1, q2, q3⟩ := SrtO.ints_out hI h1 h2
  obtain ⟨c, hc⟩ := sortedHeap_at (vs := vs) (out := out.toArray) own
  have pn := q2.trans pk
  refine wpAny_pure ⟨_, rfl, fin _ z.heap.objs.size out.toArray c _ (fun b u e => ?_) k3 k4 k2 hc q1 (lt_of_le_nodup _ q3 (pn.nodup_iff.mpr nd)) (fun k => by rw [pn.mem_iff]; exact (mem k).symm) ?_⟩
  · have e' := k1 b u e
    have lt := Heap.lt_size e'
    show (sortedHeap _ _ _ _).get? b = _
    rw [sortedHeap_old (Nat.ne_of_lt lt) (by rw [size_push']; exact Nat.lt_succ_of_lt lt)]
    exact Heap.get?_push_of_some _ e'
  · rw [pn.length_eq, List.length_map, Array.length_toList]; exact num
end
end R

/-! ### sorted(set(e)), len(set(e)) -/
namespace R
open PySem PySem.Spec PyProof.Rows L2
section
variable {X : Cx}
def tSSet (K : PySem.W.Frag) (ta : TE) : TE := fun σ H Q => ta σ H fun x H1 => ∃ (l : Addr) (ns : List Int), x = .ref l ∧ SqL K H1 l (ns.map V.int) ∧ ns.length + 1 < scanBound ∧
  ∀ (ms : List Int) (p : Addr), ms.Pairwise (· < ·) → (∀ k, k ∈ ms ↔ k ∈ ns) → H1 p = none → Q (.ref p) (upd H1 p (.lst (ms.map V.int)))
theorem pe_sset {a : Expr} {ta : TE} {p p2 q pos : Pos} (hc : X.calm = true) (hg : Gl X "sorted") (hm : X.mg "sorted" = none) (hg2 : Gl X "set") (hm2 : X.mg "set" = none) (ha : PE X a ta)
    (na : starEach [a] X.env = (false, eval a X.env) :: starEach [] X.env := by rfl) : PE X (.Call (.Name "sorted" p) [.Call (.Name "set" p2) [a] [] q] [] pos) (tSSet X.K ta) := by
  refine ⟨fun pins s σ H Q I h => Call_ (ld_blt I hg hm boot_sorted (callWith_builtin1 (args_cons ?_ rfl) rfl rfl))⟩
  refine Call_ (ld_blt I hg2 hm2 boot_set (callWith_type1 (args_cons (thn (ha.run pins s σ H _ I h) fun v s1 ⟨x, H1, I1, r1, q1⟩ => args_nil ?_) na) na rfl))
  obtain ⟨l, ns, rfl, hq, few, q1⟩ := q1
  cases r1
  obtain ⟨its, r, pl, hz⟩ := I1.list hq
  refine call_set_listR ns (I1.ok.hd hc) pl.isList (by simpa using r.ints) few fun z ⟨g, tk, c, ez, R1, le, old⟩ => ?_
  subst ez
  refine args_nil ?_
  refine sorted_setB R1 (I1.ok.hd hc) fun z p0 out c2 ms k1 k2 k3 k4 k5 hi up mem len => ?_
  have lo : s1.heap.objs.size ≤ p0 := Nat.le_trans (Nat.le_of_lt R1.lt) k4
  have keep : ∀ b o, s1.heap.get? b = some o → z.heap.get? b = some o := fun b o e => k1 b o (old b o e)
  have hn : H1 p0 = none := I1.hok.fresh lo
  have lim : (ms.map V.int).length ≤ sizeLine := by rw [List.length_map, len, sizeLine_eq]; unfold scanBound at few; omega
  have J : Inv X pins σ (upd H1 p0 (.lst (ms.map V.int))) { s1 with heap := z.heap, gens := z.gens, drawn := z.drawn, toks := z.toks } :=
    I1.call (ch := []) (Un.laid keep lo hn) (I1.hok.laid keep lo ⟨lim, out.toList, c2, vals_of_ints hi, k5⟩) (by rw [k2]; exact I1.bare) fun _ e => nomatch e
  obtain ⟨z1, z2, z3, z4, z5⟩ := z
  cases k3
  exact ⟨.ref p0, _, J, rfl, q1 ms p0 up (fun k => (mem k).trans decide_eq_true_iff) hn⟩
/-- the members, each once -/
def tLSet (K : PySem.W.Frag) (ta : TE) : TE := fun σ H Q => ta σ H fun x H1 => ∃ (l : Addr) (ns : List Int), x = .ref l ∧ SqL K H1 l (ns.map V.int) ∧ ns.length + 1 < scanBound ∧
  ∀ (ms : List Int), ms.Nodup → (∀ k, k ∈ ms ↔ k ∈ ns) → Q (.int ms.length) H1
theorem pe_lset {a : Expr} {ta : TE} {p p2 q pos : Pos} (hc : X.calm = true) (hg : Gl X "len") (hm : X.mg "len" = none) (hg2 : Gl X "set") (hm2 : X.mg "set" = none) (ha : PE X a ta)
    (na : starEach [a] X.env = (false, eval a X.env) :: starEach [] X.env := by rfl) : PE X (.Call (.Name "len" p) [.Call (.Name "set" p2) [a] [] q] [] pos) (tLSet X.K ta) := by
  refine ⟨fun pins s σ H Q I h => Call_ (ld_blt I hg hm boot_len (callWith_builtin1 (args_cons ?_ rfl) rfl rfl))⟩
  refine Call_ (ld_blt I hg2 hm2 boot_set (callWith_type1 (args_cons (thn (ha.run pins s σ H _ I h) fun v s1 ⟨x, H1, I1, r1, q1⟩ => args_nil ?_) na) na rfl))
  obtain ⟨l, ns, rfl, hq, few, q1⟩ := q1
  cases r1
  obtain ⟨its, r, pl, hz⟩ := I1.list hq
  refine call_set_listR ns (I1.ok.hd hc) pl.isList (by simpa using r.ints) few fun z ⟨g, tk, c, ez, R1, le, old⟩ => ?_
  subst ez
  refine args_nil ?_
  obtain ⟨o, es, ep, t, ho, ex, dt, good, nd, mem, fw, fits, num, ris, led⟩ := R1
  have I2 : Inv X pins σ H1 { s1 with heap := g, toks := tk } := I1.kept old
  refine call_len_set ho ex dt fits (by unfold scanBound at fw; omega) ⟨.int es.size, H1, I2.tok _, ⟨_, rfl⟩, ?_⟩
  have q2 := q1 (es.toList.map keyOf) nd fun k => (mem k).symm.trans decide_eq_true_iff
  rw [List.length_map, Array.length_toList] at q2
  exact q2
/-- set(xs) -/
def rSetI (K : PySem.W.Frag) : List V → Hp → VK → Prop := fun xs H Q => ∃ (l : Addr) (ns : List Int), xs = [.ref l] ∧ SqL K H l (ns.map V.int) ∧ ns.length + 1 < scanBound ∧
  ∀ (ms : List Int) (p : Addr), ms.Nodup → (∀ k, k ∈ ms ↔ k ∈ ns) → H p = none → Q (.ref p) (upd H p (.set (fun i => decide (i ∈ ns)) ms.length))
theorem cr_setI (hc : X.calm = true) : CallR X (.type "set") (rSetI X.K) := by
  intro pins s σ H xs us Q I r h
  obtain ⟨l, ns, rfl, hq, few, q⟩ := h
  rw [Vals.ref1 r]
  obtain ⟨its, rv, pl, hz⟩ := I.list hq
  refine call_set_listR ns (I.ok.hd hc) pl.isList (by simpa using rv.ints) few fun z ⟨g, tk, c, ez, R1, le, old⟩ => ?_
  subst ez
  have so := R1.setOf (P := X.prog)
  obtain ⟨o, es, ep, t, ho, ex, dt, good, nd, mem, fw, fits, num, ris, led⟩ := R1
  have e : c = (es.toList.map keyOf).length := by rw [List.length_map, Array.length_toList]; exact num.symm
  subst e
  exact ⟨.ref s.heap.objs.size, _, I.laid (t' := tk) (o := .set (fun i => decide (i ∈ ns)) (es.toList.map keyOf).length) old (Nat.le_refl _) so, rfl, q _ _ nd (fun k => (mem k).symm.trans decide_eq_true_iff) (I.hok.fresh (Nat.le_refl _))⟩
end
end R

namespace L2
open PySem PySem.Spec PyProof.Rows PySem.W
/-! ### lists of whole numbers, in their order -/
def ltL : List Int → List Int → Bool
  | [], [] => false
  | [], _ :: _ => true
  | _ :: _, [] => false
  | x :: xs, y :: ys => if x = y then ltL xs ys else decide (x < y)
theorem ltL_eq : ∀ xs ys : List Int, listLt xs ys = ltL xs ys
  | [], [] => rfl
  | [], _ :: _ => rfl
  | _ :: _, [] => rfl
  | x :: xs, y :: ys => by
    show (if x = y then listLt xs ys else DatumOrd.lt x y) = if x = y then ltL xs ys else decide (x < y)
    rw [ltL_eq xs ys]; rfl
def pyI (ns : List Int) : PyData := .list (ns.map .int)
theorem dLtL (xs ys : List Int) : dataLt (pyI xs) (pyI ys) = ltL xs ys := (DatumOrd.lt_eq xs ys).trans (ltL_eq xs ys)
theorem alikeL (xs ys : List Int) : alike (pyI xs) (pyI ys) = true := DatumOrd.alike xs ys
theorem depI (xs : List Int) : (pyI xs).depth ≤ 1 := Datum.depth_le xs
section
variable {X : Cx}
def rOrd (K : PySem.W.Frag) (f : List Int → List Int → Bool) : R2 := fun x y H Q => ∃ ns ms : List Int, Dp K H x (pyI ns) ∧ Dp K H y (pyI ms) ∧ Q (.bl (f ns ms)) H
theorem minDep {u a b : Nat} (h : u + 65 < cLine) (ha : a ≤ 1) : u + min a b < cLine := by omega
theorem op_ltI (hu : X.A.units + 65 < cLine) : OpR X (compareOp .Lt) (rOrd X.K fun a b => ltL a b) := by
  intro pins s σ H x y v u Q I rx ry h
  obtain ⟨ns, ms, hd, he, q⟩ := h
  obtain ⟨as, r1⟩ := Dp.reads I _ x v hd rx
  obtain ⟨bs, r2⟩ := Dp.reads I _ y u he ry
  exact lt_data r1 r2 (alikeL ns ms) (fun e => by cases e) (minDep hu (depI ns)) (by rw [dLtL]; exact ⟨.bl _, H, I, rfl, q⟩)
theorem op_gtI (hu : X.A.units + 65 < cLine) : OpR X (compareOp .Gt) (rOrd X.K fun a b => ltL b a) := by
  intro pins s σ H x y v u Q I rx ry h
  obtain ⟨ns, ms, hd, he, q⟩ := h
  obtain ⟨as, r1⟩ := Dp.reads I _ x v hd rx
  obtain ⟨bs, r2⟩ := Dp.reads I _ y u he ry
  exact gt_data r1 r2 (alikeL ns ms) (fun e => by cases e) (minDep hu (depI ns)) (by rw [dLtL]; exact ⟨.bl _, H, I, rfl, q⟩)
theorem op_leI (hu : X.A.units + 65 < cLine) : OpR X (compareOp .LtE) (rOrd X.K fun a b => !ltL b a) := by
  intro pins s σ H x y v u Q I rx ry h
  obtain ⟨ns, ms, hd, he, q⟩ := h
  obtain ⟨as, r1⟩ := Dp.reads I _ x v hd rx
  obtain ⟨bs, r2⟩ := Dp.reads I _ y u he ry
  exact le_data r1 r2 (alikeL ns ms) (fun e => by cases e) (minDep hu (depI ns)) (by rw [dLtL]; exact ⟨.bl _, H, I, rfl, q⟩)
theorem op_geI (hu : X.A.units + 65 < cLine) : OpR X (compareOp .GtE) (rOrd X.K fun a b => !ltL a b) := by
  intro pins s σ H x y v u Q I rx ry h
  obtain ⟨ns, ms, hd, he, q⟩ := h
  obtain ⟨as, r1⟩ := Dp.reads I _ x v hd rx
  obtain ⟨bs, r2⟩ := Dp.reads I _ y u he ry
  exact ge_data r1 r2 (alikeL ns ms) (fun e => by cases e) (minDep hu (depI ns)) (by rw [dLtL]; exact ⟨.bl _, H, I, rfl, q⟩)
/-- the first of the least -/
def minL (x : List Int) (L : List (List Int)) : List Int := L.foldl (fun a y => if ltL y a then y else a) x
theorem minL_eq (x : List Int) (L : List (List Int)) : minD (pyI x) (L.map pyI) = pyI (minL x L) := by
  unfold minD minL
  induction L generalizing x with
  | nil => rfl
  | cons y ys ih =>
    rw [List.map_cons, List.foldl_cons, List.foldl_cons, ← ih]
    (try dsimp only)
    rw [dLtL y x]
    cases ltL y x <;> rfl
theorem minL_fold (x : List Int) (L : List (List Int)) : (L.map pyI).foldl (fun a y => if dataLt y a = true then y else a) (pyI x) = pyI (minL x L) := minL_eq x L
theorem pyI_inj {xs ys : List Int} (h : pyI xs = pyI ys) : xs = ys := by
  have := Datum.eqv xs ys
  rw [show (Datum.toD xs : PyData) = Datum.toD ys from h, Datum.eqv ys ys, decide_eq_true rfl] at this
  exact of_decide_eq_true this.symm
theorem vals_get : ∀ {ws : List V} {its : List Value}, Vals ws its → ∀ (j : Nat) (v : Value), its[j]? = some v → ∃ w, ws[j]? = some w ∧ RelV w v
  | _, _, .nil, _, _, h => by simp at h
  | _, _, .cons r rs, 0, v, h => by
    obtain rfl := Option.some.inj (show some _ = some v from h)
    exact ⟨_, rfl, r⟩
  | _, _, .cons r rs, j + 1, v, h => by
    obtain ⟨w, h1, h2⟩ := vals_get rs j v (by simpa using h)
    exact ⟨w, by simpa using h1, h2⟩
theorem depAllI : ∀ L : List (List Int), PyData.depthAll (L.map pyI) ≤ 1 := fun L => depthAll_map L
/-- min of a list of lists: the item at a known place -/
theorem cr_minL (hc : X.calm = true) (hu : X.A.units + 65 < cLine) : CallR X (.builtin "min") (fun vs H Q => ∃ (a : Addr) (ws : List V) (x : List Int) (L : List (List Int)), vs = [V.ref a] ∧ SqL X.K H a ws ∧ DpAll X.K H ws ((x :: L).map pyI) ∧
    ∀ (i : Nat) (w : V), ws[i]? = some w → (x :: L)[i]? = some (minL x L) → Q w H) := by
  intro pins s σ H vs us Q I r h
  obtain ⟨a, ws, x, L, rfl, hs, hd, q⟩ := h
  obtain ⟨its, rv, hl, _⟩ := I.list hs
  rw [Vals.ref1 r]
  obtain ⟨as, hr⟩ := Dp.readsAll I _ _ _ hd rv
  have hr' : ReadsAll s.heap its.toArray.toList ((x :: L).map pyI) as := hr
  have hn : its.toArray.size = (L.map pyI).length + 1 := PySem.W.readsAll_len (xs := pyI x :: L.map pyI) hr'
  refine call_min_walkH (iter_listW (A := X.A.in1) (I.ok.hd hc) hl.isList fun s₂ e W st hfp hw hk => ?_)
  refine ⟨_, _, _, _, _, _, _, s.heap, _, rfl, W, st, hfp, by omega, hw, hk, cmpIn_lt (A := X.A.in1) hr' (alikeAll_datum (x :: L)) (by
    have := depAllI (x :: L)
    show X.A.units + 1 + _ < _
    omega), fun v s' hP m => ?_⟩
  obtain ⟨h', tk, rfl, hk'⟩ := moved_old e rfl m
  have e1 : its.toArray.size - 1 = (L.map pyI).length := by omega
  obtain ⟨b1, e2⟩ := argBest_fold dataLt PyData.none (pyI x) (L.map pyI) (L.map pyI).length (Nat.le_refl _)
  rw [List.take_length] at e2
  rw [e1] at hP
  rw [minL_fold] at e2
  have hP : its[argBest (fun i j => dataLt ((pyI x :: L.map pyI).getD i PyData.none) ((pyI x :: L.map pyI).getD j PyData.none)) (L.map pyI).length]? = some v := by rw [← List.getElem?_toArray]; exact hP
  generalize argBest (fun i j => dataLt ((pyI x :: L.map pyI).getD i PyData.none) ((pyI x :: L.map pyI).getD j PyData.none)) (L.map pyI).length = j at *
  obtain ⟨w, hw1, hw2⟩ := vals_get rv j v hP
  rw [List.length_map] at b1
  have hy : (x :: L)[j]? = some ((x :: L)[j]'(by simp; omega)) := List.getElem?_eq_getElem _
  have e3 : (pyI x :: L.map pyI).getD j PyData.none = pyI ((x :: L)[j]'(by simp; omega)) := by
    rw [← List.map_cons, List.getD_eq_getElem?_getD, List.getElem?_map, hy]; rfl
  rw [e3] at e2
  have e4 := pyI_inj e2
  exact ⟨w, H, I.kept hk', hw2, q j w hw1 (by rw [hy, e4])⟩
end
section
variable {prog : Program} {w : World} {A : Around} {E : Value → Shared → Prop} {s : Shared}
/-- min of two lists: the second where it is the less -/
theorem call_min_twoL {a b : Value} {da db : List Int} {as bs : List Addr} {Q : Value → Shared → Prop} (hh : A.handled = none) (ra : Reads s.heap a (pyI da) as) (rb : Reads s.heap b (pyI db) bs) (hu : A.units + 65 < cLine)
    (h : ∀ h' tk, (∀ b o, s.heap.get? b = some o → h'.get? b = some o) → Q (if ltL db da = true then b else a) { s with heap := h', toks := tk }) :
    wpAny (model prog w) A (call (.builtin "min") [a, b]) Q E s := by
  have hname : (toString "min" ++ toString ".loop" : String) = "min.loop" := by decide
  refine call_function_tree F.kind_min F.plain_min F.entry_min (F.args_min2 _ _) ?_
  show wpAny _ A.in1 (Builtin.Builtins.bindParams "min" ["key", "default"] 0 ⟨[], []⟩ >>= _) _ _ s
  refine wpAny_bind (wpAny_of_eq (show Builtin.Builtins.bindParams "min" ["key", "default"] 0 ⟨[], []⟩ = pure [none, none] from rfl) ?_)
  show wpAny _ A.in1 (newTuple [a, b] >>= _) _ _ s
  refine wpAny_bind (wpAny_newObj_type ?_)
  have kp : ∀ c o, s.heap.get? c = some o → (s.heap.push { cls := .type "tuple", data := .seq #[a, b] }).get? c = some o := fun c o e => Heap.get?_push_of_some _ e
  have hr : ReadsAll (s.heap.push { cls := .type "tuple", data := .seq #[a, b] }) (#[a, b] : Array Value).toList (([da, db] : List (List Int)).map pyI) (as ++ (bs ++ [])) := .cons (reads_keeps kp ra) (.cons (reads_keeps kp rb) .nil)
  have hl : (s.heap.push { cls := .type "tuple", data := .seq #[a, b] }).IsTuple s.heap.objs.size #[a, b] := ⟨_, Heap.get?_push_size _ rfl, rfl, ⟨_, rfl⟩⟩
  refine wpAny_bind (iter_tupleW (A := A.in1) (s := { s with heap := s.heap.push { cls := .type "tuple", data := .seq #[a, b] } }) hh hl fun s₂ e W st hfp hw hk => ?_)
  refine wpAny_bind (wpAny_newObj_type ?_)
  have hSf : s₂.heap.objs.size ∉ [(s.heap.push { cls := .type "tuple", data := .seq #[a, b] }).objs.size, s.heap.objs.size] := fun hm => Nat.lt_irrefl _ (hfp _ hm)
  have hcmp := cmpIn_lt (prog := prog) (w := w) (A := A.in1) (s := { s with heap := s.heap.push { cls := .type "tuple", data := .seq #[a, b] } }) (vs := #[a, b]) hr (alikeAll_datum ([da, db] : List (List Int))) (by
    have := depAllI [da, db]
    show A.units + 1 + _ < _
    omega)
  rw [hname]
  refine wpAny_pure ⟨plainId_quiet F.plain_min_loop _, codeAny_min_loop_firstH W _ hw _ hcmp s₂.heap.objs.size hSf (fresh_in hk) _ (show 0 < 2 by decide) (fun b o e => Heap.get?_push_of_some _ (hk b o e)) (W.frame 0 s₂ _ s₂.toks st (Nat.le_refl _) fun b _ o e => Heap.get?_push_of_some _ e) (Heap.get?_push_size _ rfl) fun v s' hP hm => ?_⟩
  obtain ⟨h', tk, rfl, hk'⟩ := moved_old e rfl (Moved.drop_new (tk := s₂.toks) hm (Nat.le_refl _))
  have hv : v = if ltL db da = true then b else a := by
    have hP : (#[a, b] : Array Value)[if dataLt (pyI db) (pyI da) = true then 1 else 0]? = some v := hP
    rw [dLtL] at hP
    cases hlt : ltL db da
    · rw [hlt] at hP
      exact (Option.some.inj (show some a = some v from hP)).symm
    · rw [hlt] at hP
      exact (Option.some.inj (show some b = some v from hP)).symm
  rw [hv]
  exact h h' tk fun c o e => hk' c o (kp c o e)
end
section
variable {X : Cx}
theorem cr_min2L (hc : X.calm = true) (hu : X.A.units + 65 < cLine) : CallR X (.builtin "min") (fun vs H Q => ∃ (x y : V) (ns ms : List Int), vs = [x, y] ∧ Dp X.K H x (pyI ns) ∧ Dp X.K H y (pyI ms) ∧ Q (if ltL ms ns = true then y else x) H) := by
  intro pins s σ H vs us Q I r h
  obtain ⟨x, y, ns, ms, rfl, hx, hy, q⟩ := h
  obtain ⟨u, w', rfl, r1, r2⟩ := vals2 r
  obtain ⟨as, ra⟩ := Dp.reads I _ x u hx r1
  obtain ⟨bs, rb⟩ := Dp.reads I _ y w' hy r2
  refine call_min_twoL (I.ok.hd hc) ra rb hu fun h' tk k => ⟨_, H, I.kept k, ?_, q⟩
  cases ltL ms ns
  · exact r1
  · exact r2
end
end L2

namespace L2
open PySem PySem.Spec PyProof.Rows PySem.W
/-! ### rows of whole numbers, put in order -/
theorem ltL_irr : ∀ x : List Int, ltL x x = false
  | [] => rfl
  | a :: r => by
    show (if a = a then ltL r r else decide (a < a)) = false
    rw [if_pos rfl, ltL_irr r]
theorem ltL_trans : ∀ {x y z : List Int}, ltL x y = true → ltL y z = true → ltL x z = true
  | [], [], _, h, _ => by cases h
  | [], _ :: _, [], _, h => by cases h
  | [], _ :: _, _ :: _, _, _ => rfl
  | _ :: _, [], _, h, _ => by cases h
  | _ :: _, _ :: _, [], _, h => by cases h
  | a :: x, b :: y, c :: z, h, g => by
    have h : (if a = b then ltL x y else decide (a < b)) = true := h
    have g : (if b = c then ltL y z else decide (b < c)) = true := g
    show (if a = c then ltL x z else decide (a < c)) = true
    by_cases e : a = b
    · rw [if_pos e] at h
      by_cases f : b = c
      · rw [if_pos f] at g
        rw [if_pos (e.trans f)]
        exact ltL_trans h g
      · rw [if_neg f] at g
        have := of_decide_eq_true g
        rw [if_neg (by omega)]
        exact decide_eq_true (by omega)
    · rw [if_neg e] at h
      have := of_decide_eq_true h
      by_cases f : b = c
      · rw [if_neg (by omega)]
        exact decide_eq_true (by omega)
      · rw [if_neg f] at g
        have := of_decide_eq_true g
        rw [if_neg (by omega)]
        exact decide_eq_true (by omega)
theorem ltL_tri : ∀ {x y : List Int}, ltL x y = false → ltL y x = false → x = y
  | [], [], _, _ => rfl
  | [], _ :: _, h, _ => by cases h
  | _ :: _, [], _, h => by cases h
  | a :: x, b :: y, h, g => by
    have h : (if a = b then ltL x y else decide (a < b)) = false := h
    have g : (if b = a then ltL y x else decide (b < a)) = false := g
    by_cases e : a = b
    · rw [if_pos e] at h
      rw [if_pos e.symm] at g
      rw [e, ltL_tri h g]
    · rw [if_neg e] at h
      rw [if_neg (fun z => e z.symm)] at g
      have := of_decide_eq_false h
      have := of_decide_eq_false g
      exact absurd (show a = b by omega) e
theorem ltL_anti {x y : List Int} (h : ltL x y = true) : ltL y x = false := by
  cases e : ltL y x with
  | false => rfl
  | true =>
    have := ltL_trans h e
    rw [ltL_irr] at this
    cases this
theorem leL_trans {x y z : List Int} (h : ltL y x = false) (g : ltL z y = false) : ltL z x = false := by
  cases e : ltL z x with
  | false => rfl
  | true =>
    cases f : ltL x y with
    | true => rw [ltL_trans e f] at g; cases g
    | false =>
      have := ltL_tri h f
      subst this
      rw [e] at g; cases g
def insR (x : List Int) : List (List Int) → List (List Int)
  | [] => [x]
  | y :: r => if ltL y x = true then y :: insR x r else x :: y :: r
def srtR : List (List Int) → List (List Int)
  | [] => []
  | x :: r => insR x (srtR r)
theorem insR_perm (x : List Int) : ∀ r : List (List Int), (insR x r).Perm (x :: r)
  | [] => .refl _
  | y :: r => by
    unfold insR
    split
    · exact ((insR_perm x r).cons y).trans (List.Perm.swap x y r)
    · exact .refl _
theorem srtR_perm : ∀ L : List (List Int), (srtR L).Perm L
  | [] => .refl _
  | x :: r => (insR_perm x (srtR r)).trans ((srtR_perm r).cons x)
abbrev LeR (a b : List Int) : Prop := ltL b a = false
theorem insR_pw (x : List Int) : ∀ {r : List (List Int)}, r.Pairwise LeR → (insR x r).Pairwise LeR
  | [], _ => List.pairwise_singleton _ _
  | y :: r, h => by
    have h1 := List.pairwise_cons.mp h
    unfold insR
    split
    · rename_i e
      refine List.pairwise_cons.mpr ⟨fun a ha => ?_, insR_pw x h1.2⟩
      rcases List.mem_cons.mp ((insR_perm x r).mem_iff.mp ha) with rfl | ha
      · exact ltL_anti e
      · exact h1.1 a ha
    · rename_i e
      have e : ltL y x = false := by simpa using e
      refine List.pairwise_cons.mpr ⟨fun a ha => ?_, h⟩
      rcases List.mem_cons.mp ha with rfl | ha
      · exact e
      · exact leL_trans e (h1.1 a ha)
theorem srtR_pw : ∀ L : List (List Int), (srtR L).Pairwise LeR
  | [] => List.Pairwise.nil
  | x :: r => insR_pw x (srtR_pw r)
theorem srtR_unique : ∀ {xs ys : List (List Int)}, xs.Perm ys → xs.Pairwise LeR → ys.Pairwise LeR → xs = ys
  | [], ys, p, _, _ => p.nil_eq
  | x :: xs, [], p, _, _ => p.eq_nil
  | x :: xs, y :: ys, p, h, k => by
    have h1 := List.pairwise_cons.mp h
    have k1 := List.pairwise_cons.mp k
    have e : x = y := by
      rcases List.mem_cons.mp (p.mem_iff.mp List.mem_cons_self) with e | hx
      · exact e
      · rcases List.mem_cons.mp (p.mem_iff.mpr (List.mem_cons_self (a := y))) with e | hy
        · exact e.symm
        · exact ltL_tri (k1.1 x hx |> fun a => by exact h1.1 y hy |> fun b => by first | exact a | exact b) (by first | exact k1.1 x hx | exact h1.1 y hy)
    subst e
    rw [srtR_unique (List.Perm.cons_inv p) h1.2 k1.2]
theorem srtR_eq {xs ys : List (List Int)} (p : ys.Perm xs) (h : ys.Pairwise LeR) : ys = srtR xs := srtR_unique (p.trans (srtR_perm xs).symm) h (srtR_pw xs)
def pyR (b : Bool) (l : List Int) : PyData := match b with | false => .list (l.map .int) | true => .tuple (l.map .int)
theorem dLtR (b : Bool) (xs ys : List Int) : dataLt (pyR b xs) (pyR b ys) = ltL xs ys := by
  cases b with
  | false => exact dLtL xs ys
  | true =>
    have h := dLtL xs ys
    unfold pyI at h
    rw [dataLt_list] at h
    show dataLt (.tuple _) (.tuple _) = _
    rw [dataLt_tuple]; exact h
theorem alikeR (b : Bool) (xs ys : List Int) : alike (pyR b xs) (pyR b ys) = true := by
  cases b with
  | false => exact alikeL xs ys
  | true => simp only [pyR, alike]; exact alike_ints xs ys
theorem depR (b : Bool) (xs : List Int) : (pyR b xs).depth ≤ 1 := by
  cases b with
  | false => exact depI xs
  | true => simp only [pyR, PyData.depth, depth_ints]; omega
theorem dataLeR (b : Bool) : dataLe (β := V × List Int) false (fun q => pyR b q.2) = fun p q => !ltL q.2 p.2 := by
  rw [dataLe_eq]
  funext p q
  show (!dataLt (pyR b q.2) (pyR b p.2)) = _
  rw [dLtR]
theorem each_vals {h : Heap} {b : Bool} : ∀ {ws : List V} {its : List Value} {L : List (List Int)} {as : List Addr}, Vals ws its → ReadsAll h its (L.map (pyR b)) as → EachIs (fun (v : Value) (q : V × List Int) => RelV q.1 v) its (ws.zip L) ∧ EachIs (fun (v : Value) (q : V × List Int) => ∃ as, Reads h v (pyR b q.2) as) its (ws.zip L)
  | _, _, [], _, .nil, _ => ⟨.nil, .nil⟩
  | _, _, l :: L, _, .nil, r => by
    have r' : ReadsAll h [] (pyR b l :: L.map (pyR b)) _ := r
    cases r'
  | _, _, [], _, .cons _ _, r => by
    have r' : ReadsAll h (_ :: _) [] _ := r
    cases r'
  | _, _, l :: L, _, .cons h1 t, r => by
    have r' : ReadsAll h (_ :: _) (pyR b l :: L.map (pyR b)) _ := r
    cases r' with
    | cons r1 r2 =>
      have ih := each_vals t r2
      exact ⟨.cons h1 ih.1, .cons ⟨_, r1⟩ ih.2⟩
theorem vals_each : ∀ {ps : List (V × List Int)} {out : List Value}, EachIs (fun (v : Value) (q : V × List Int) => RelV q.1 v) out ps → Vals (ps.map (·.1)) out
  | _, _, .nil => .nil
  | _, _, .cons h t => .cons h (vals_each t)
section
variable {X : Cx}
def rOrdR (K : PySem.W.Frag) (b : Bool) (f : List Int → List Int → Bool) : R2 := fun x y H Q => ∃ ns ms : List Int, Dp K H x (pyR b ns) ∧ Dp K H y (pyR b ms) ∧ Q (.bl (f ns ms)) H
def rInDT (K : PySem.W.Frag) : R2 := fun x y H Q => ∃ d ds, Dp K H x d ∧ Dp K H y (.tuple ds) ∧ SeqAt.shaped d = true ∧ SeqAt.shaped (.tuple ds) = true ∧ Q (.bl (ds.any fun z => PyData.eqv z d)) H
def rNotInDT (K : PySem.W.Frag) : R2 := fun x y H Q => ∃ d ds, Dp K H x d ∧ Dp K H y (.tuple ds) ∧ SeqAt.shaped d = true ∧ SeqAt.shaped (.tuple ds) = true ∧ Q (.bl (!ds.any fun z => PyData.eqv z d)) H
theorem op_inDT (hu : X.A.units + 65 < cLine) : OpR X (compareOp .In) (rInDT X.K) := by
  intro pins s σ H x y v u Q I rx ry h
  obtain ⟨d, ds, hd, he, sd, se, q⟩ := h
  obtain ⟨as, r1⟩ := Dp.reads I d x v hd rx
  obtain ⟨bs, r2⟩ := Dp.reads I (.tuple ds) y u he ry
  exact SeqAt.in_tuple_reads r2 r1 (SeqAt.canLay_of_shaped se) (SeqAt.canLay_of_shaped sd) (room_in_shaped sd hu) ⟨.bl _, H, I, rfl, q⟩
theorem op_notInDT (hu : X.A.units + 65 < cLine) : OpR X (compareOp .NotIn) (rNotInDT X.K) := by
  intro pins s σ H x y v u Q I rx ry h
  obtain ⟨d, ds, hd, he, sd, se, q⟩ := h
  obtain ⟨as, r1⟩ := Dp.reads I d x v hd rx
  obtain ⟨bs, r2⟩ := Dp.reads I (.tuple ds) y u he ry
  exact SeqAt.notIn_tuple_reads r2 r1 (SeqAt.canLay_of_shaped se) (SeqAt.canLay_of_shaped sd) (room_in_shaped sd hu) ⟨.bl _, H, I, rfl, q⟩
theorem pyR_dict {b : Bool} {l : List Int} : ∀ xs, pyR b l ≠ .dict xs := fun xs => by cases b <;> simp [pyR]
theorem op_ltR {b : Bool} (hu : X.A.units + 65 < cLine) : OpR X (compareOp .Lt) (rOrdR X.K b fun a b => ltL a b) := by
  intro pins s σ H x y v u Q I rx ry h
  obtain ⟨ns, ms, hd, he, q⟩ := h
  obtain ⟨as, r1⟩ := Dp.reads I _ x v hd rx
  obtain ⟨bs, r2⟩ := Dp.reads I _ y u he ry
  exact lt_data r1 r2 (alikeR b ns ms) (fun e => by cases b <;> simp [pyR] at e) (minDep hu (depR b ns)) (by rw [dLtR]; exact ⟨.bl _, H, I, rfl, q⟩)
theorem op_gtR {b : Bool} (hu : X.A.units + 65 < cLine) : OpR X (compareOp .Gt) (rOrdR X.K b fun a b => ltL b a) := by
  intro pins s σ H x y v u Q I rx ry h
  obtain ⟨ns, ms, hd, he, q⟩ := h
  obtain ⟨as, r1⟩ := Dp.reads I _ x v hd rx
  obtain ⟨bs, r2⟩ := Dp.reads I _ y u he ry
  exact gt_data r1 r2 (alikeR b ns ms) (fun e => by cases b <;> simp [pyR] at e) (minDep hu (depR b ns)) (by rw [dLtR]; exact ⟨.bl _, H, I, rfl, q⟩)
theorem op_leR {b : Bool} (hu : X.A.units + 65 < cLine) : OpR X (compareOp .LtE) (rOrdR X.K b fun a b => !ltL b a) := by
  intro pins s σ H x y v u Q I rx ry h
  obtain ⟨ns, ms, hd, he, q⟩ := h
  obtain ⟨as, r1⟩ := Dp.reads I _ x v hd rx
  obtain ⟨bs, r2⟩ := Dp.reads I _ y u he ry
  exact le_data r1 r2 (alikeR b ns ms) (fun e => by cases b <;> simp [pyR] at e) (minDep hu (depR b ns)) (by rw [dLtR]; exact ⟨.bl _, H, I, rfl, q⟩)
theorem op_geR {b : Bool} (hu : X.A.units + 65 < cLine) : OpR X (compareOp .GtE) (rOrdR X.K b fun a b => !ltL a b) := by
  intro pins s σ H x y v u Q I rx ry h
  obtain ⟨ns, ms, hd, he, q⟩ := h
  obtain ⟨as, r1⟩ := Dp.reads I _ x v hd rx
  obtain ⟨bs, r2⟩ := Dp.reads I _ y u he ry
  exact ge_data r1 r2 (alikeR b ns ms) (fun e => by cases b <;> simp [pyR] at e) (minDep hu (depR b ns)) (by rw [dLtR]; exact ⟨.bl _, H, I, rfl, q⟩)
end
section
variable {X : Cx}
def rSortedR (K : PySem.W.Frag) (b : Bool) : List V → Hp → VK → Prop := fun vs H Q => ∃ (a : Addr) (ws : List V) (L : List (List Int)), vs = [V.ref a] ∧ SqL K H a ws ∧ DpAll K H ws (L.map (pyR b)) ∧ (b = true → ∀ l ∈ L, l ≠ []) ∧
  ∀ ps : List (V × List Int), ps.Perm (ws.zip L) → ps.map (·.2) = srtR L → ∀ p : Addr, H p = none → Q (.ref p) (upd H p (.lst (ps.map (·.1))))
theorem cr_sortedR {b : Bool} (hu : X.A.units + 65 < cLine) : CallR X (.builtin "sorted") (rSortedR X.K b) := by
  intro pins s σ H vs us Q I r h
  obtain ⟨a, ws, L, rfl, hs, hd, hne, q⟩ := h
  obtain ⟨its, rv, hl, hz⟩ := I.list hs
  rw [Vals.ref1 r]
  obtain ⟨as, hr⟩ := Dp.readsAll I _ _ _ hd rv
  obtain ⟨e1, e2⟩ := each_vals rv hr
  have lw : ws.length = L.length := by
    have a1 : its.toArray.size = (L.map (pyR b)).length := PySem.W.readsAll_len (xs := L.map (pyR b)) (show ReadsAll s.heap its.toArray.toList _ as from hr)
    have a2 := rv.length
    rw [List.length_map] at a1
    simp at a1
    omega
  have m2 : (ws.zip L).map (·.2) = L := by
    rw [show (fun q : V × List Int => q.2) = Prod.snd from rfl]
    exact List.map_snd_zip (by omega)
  have lz : (ws.zip L).length = ws.length := by rw [List.length_zip]; omega
  have hal : AllAlike ((ws.zip L).map fun q => pyR b q.2) := AllAlike.of fun p q => alikeR b p.2 q.2
  have hk : Sortable ((ws.zip L).map fun q => pyR b q.2) := by
    cases b with
    | false => exact Sortable.others (enc := fun q : V × List Int => pyR false q.2) fun q => ⟨by simp [pyR], fun xs => by simp [pyR]⟩
    | true =>
      refine .inl fun d hd => ?_
      obtain ⟨p, hp, rfl⟩ := List.mem_map.mp hd
      have : p.2 ∈ L := by rw [← m2]; exact List.mem_map.mpr ⟨p, hp, rfl⟩
      have ne := hne rfl _ this
      cases e : p.2 with
      | nil => exact absurd e ne
      | cons x r => exact ⟨.int x, r.map .int, by simp [pyR, e]⟩
  refine sorted_data (R := fun (v : Value) (q : V × List Int) => RelV q.1 v) (enc := fun q => pyR b q.2) hl.isList e1 e2 hal hk (by rw [lz]; exact hz) (fun p _ => by
    have := depR b p.2
    show X.A.units + 2 + (pyR b p.2).depth < cLine
    omega) fun out ho he => ?_
  rw [dataLeR] at he
  have pm : ((ws.zip L).mergeSort fun p q => !ltL q.2 p.2).Perm (ws.zip L) := List.mergeSort_perm _ _
  have pw : ((ws.zip L).mergeSort fun p q => !ltL q.2 p.2).Pairwise (fun p q => (!ltL q.2 p.2) = true) := List.pairwise_mergeSort (fun x y z h1 h2 => by
    have h1 : ltL y.2 x.2 = false := by simpa using h1
    have h2 : ltL z.2 y.2 = false := by simpa using h2
    simp [leL_trans h1 h2]) (fun x y => by
    cases e : ltL y.2 x.2 with
    | false => rfl
    | true => simp [ltL_anti e]) _
  generalize ((ws.zip L).mergeSort fun p q => !ltL q.2 p.2) = ps at *
  have e3 : ps.map (·.2) = srtR L := by
    refine srtR_eq ?_ ?_
    · have := pm.map (·.2)
      rw [m2] at this
      exact this
    · exact List.pairwise_map.mpr (pw.imp fun h => by simpa using h)
  obtain ⟨ep, he'⟩ := PyProof.Rows.sortedAll_at s.heap its out.toArray
  have vo := vals_each he
  have hlen : (ps.map (·.1)).length ≤ sizeLine := by
    rw [List.length_map, pm.length_eq, lz]; exact hz
  exact ⟨.ref _, upd H (s.heap.objs.size + 1) (.lst (ps.map (·.1))), I.laid (t' := s.toks) (fun _ _ => PyProof.Rows.sortedAll_old) (Nat.le_succ _) ⟨hlen, out, ep, vo, he'⟩, rfl, q ps pm e3 _ (I.hok.fresh (Nat.le_succ _))⟩
end
end L2

namespace L2
open PySem PySem.Spec PyProof.Rows
/-! ### ranges of whole numbers of any size -/
theorem turn_long {P : Program} {w : World} {K : PySem.W.Frag} {tg : Expr} (it : Addr) (lo : Int) (n : Nat) : Turn P w K tg (Itr lo n) [it] it (fun i h => IsLongIter h it (lo + (i : Nat) * 1) ((n : Int) - (i : Nat)) 1) where
  mem := by simp
  obj := fun i h st b hb => by
    have e : b = it := by simpa using hb
    subst e
    exact ⟨_, st, fun v z => by
      have z' : Data.fields _ = Data.cell v := z
      cases z'⟩
  keep := fun i h h' st k => k it (by simp) _ st
  item := by
    intro X hP hw hK hc i pins s σ H E I hf st hg
    subst hP hw hK
    obtain ⟨f0, f1, f2, f3, f4, f5⟩ := hf it (by simp)
    have W := Walks.longrange (prog := X.prog) (w := X.w) (I.ok.hd hc) it lo 1 n
    refine W.item i s _ _ hg st fun v h' tk hv st' kk => ?_
    obtain ⟨t, rfl⟩ := hv
    have I1 : Inv X pins σ H { s with heap := h', toks := tk } := I.turned (fun b o hb e => kk b o (by simpa using hb) e) f0 f1 f3 f4 f5
    refine ⟨_, rfl, go_of (s := { s with heap := h', toks := tk }) (n := "longrange_iterator") st' rfl rfl (by decide) ⟨.int (lo + i), H, I1, ⟨t, ?_⟩, ⟨rfl, rfl⟩, st', fun b hb => (hf b hb).1⟩⟩
    rw [Int.mul_one]
  done := by
    intro X hP hw hK hc i pins s σ H E I hf st hg
    subst hP hw hK
    obtain ⟨f0, f1, f2, f3, f4, f5⟩ := hf it (by simp)
    exact wpAny_pyNext_long_end (I.ok.hd hc) st (by have : n ≤ i := hg; omega) fun h' eb => ⟨rfl, I.turned (t' := s.toks) (fun b o hb e => eb b o hb e) f0 f1 f3 f4 f5⟩
  self := fun _ _ _ _ _ st h => wpAny_pyIter_longiter st h
section
variable {X : Cx} {tg : Expr}
theorem range_any {pins : List (Addr × Obj)} {σ : St} {H : Hp} {s : Shared} {R : It → Hp → Prop} {E : Value → Shared → Prop} {lo hi : Int} {t u v : Tok} {tk : Nat} (I : Inv X pins σ H s)
    (q : R (Itr lo (hi - lo).toNat) H) : wpAny (model X.prog X.w) X.A (pyIter (.ref s.heap.objs.size)) (PIE X pins σ tg R) E { s with heap := s.heap.push { cls := .type "range", data := .fields #[.int lo t, .int hi u, .int 1 v] }, toks := tk } := by
  have I1 : Inv X pins σ H { s with heap := s.heap.push { cls := .type "range", data := .fields #[.int lo t, .int hi u, .int 1 v] }, toks := tk } := I.kept fun b o e => Heap.get?_push_of_some _ e
  have e1 : lo + ((0 : Nat) : Int) * 1 = lo := by simp
  have e2 : (((hi - lo).toNat : Nat) : Int) - ((0 : Nat) : Int) = Builtin.Range.rangeSize lo hi 1 := by rw [rangeSize_one]; split <;> omega
  cases hs : Builtin.Range.small lo hi 1 with
  | true =>
    refine wpAny_pyIter_range (IsRange.new ..) hs ?_
    refine ⟨(s.heap.push { cls := .type "range", data := .fields #[.int lo t, .int hi u, .int 1 v] }).objs.size, [(s.heap.push { cls := .type "range", data := .fields #[.int lo t, .int hi u, .int 1 v] }).objs.size], _, _, H, rfl,
      I1.kept (t' := tk) fun b o e => Heap.get?_push_of_some _ e, turn_range _ lo (hi - lo).toNat, ?_, fun b hb => ?_, q⟩
    · show IsRangeIter _ _ (lo + ((0 : Nat) : Int) * 1) ((((hi - lo).toNat : Nat) : Int) - ((0 : Nat) : Int)) 1
      rw [e1, e2]
      exact Heap.get?_push_size _ rfl
    · have e : b = (s.heap.push { cls := .type "range", data := .fields #[.int lo t, .int hi u, .int 1 v] }).objs.size := by simpa using hb
      subst e
      exact I1.fpOk (Nat.le_refl _) (I1.hok.fresh (Nat.le_refl _))
  | false =>
    refine wpAny_pyIter_longrange (IsRange.new ..) hs ?_
    refine ⟨(s.heap.push { cls := .type "range", data := .fields #[.int lo t, .int hi u, .int 1 v] }).objs.size, [(s.heap.push { cls := .type "range", data := .fields #[.int lo t, .int hi u, .int 1 v] }).objs.size], _, _, H, rfl,
      I1.kept (t' := tk) fun b o e => Heap.get?_push_of_some _ e, turn_long _ lo (hi - lo).toNat, ?_, fun b hb => ?_, q⟩
    · show IsLongIter _ _ (lo + ((0 : Nat) : Int) * 1) ((((hi - lo).toNat : Nat) : Int) - ((0 : Nat) : Int)) 1
      rw [e1, e2]
      exact Heap.get?_push_size _ rfl
    · have e : b = (s.heap.push { cls := .type "range", data := .fields #[.int lo t, .int hi u, .int 1 v] }).objs.size := by simpa using hb
      subst e
      exact I1.fpOk (Nat.le_refl _) (I1.hok.fresh (Nat.le_refl _))
def iRng2A (ta : TA) : TI := fun σ H R => ta σ H fun vs H1 => ∃ i j : Int, vs = [.int i, .int j] ∧ R (Itr i (j - i).toNat) H1
theorem pi_range2A {a b : Expr} {ta : TA} {p pos : Pos} (hg : Gl X "range") (hm : X.mg "range" = none) (ha : PA X [a, b] ta) (hs : starEach [a, b] X.env = [(false, eval a X.env), (false, eval b X.env)] := by rfl) (hs2 : starEach [b] X.env = [(false, eval b X.env)] := by rfl) :
    PI X tg (.Call (.Name "range" p) [a, b] [] pos) (iRng2A ta) := by
  refine ⟨fun pins s σ H R I h => ?_⟩
  refine Call_ (ld_blt I hg hm boot_range (PyProof.Rows.callWith_type1 (thn (ha.run pos pins s σ H _ I h) fun us s1 ⟨vs, H1, I1, r1, q1⟩ => ?_) (by rw [hs, hs2]) (by rw [hs2]; rfl)))
  obtain ⟨i, j, e, q⟩ := q1
  subst e
  cases r1 with
  | cons r rr =>
    cases rr with
    | cons r' rr =>
      cases rr
      obtain ⟨t, rfl⟩ := r
      obtain ⟨t', rfl⟩ := r'
      exact call_range_2 (range_any I1 q)
end
end L2

namespace R
open PySem PySem.Spec PyProof.Rows L2

/-! ### plain data -/
inductive D where
  | non | bl (b : Bool) | int (i : Int) | str (x : Str)
  | tup (xs : List D) | lst (xs : List D) | fro (xs : List D)
  | set (xs : List Int) | dic (ks : List Key) (vs : List D)

mutual
def D.imm : D → Bool
  | .non => true | .bl _ => true | .int _ => true | .str _ => true
  | .tup xs => D.immL xs
  | .lst _ => false | .fro _ => false | .set _ => false | .dic _ _ => false
def D.immL : List D → Bool
  | [] => true
  | x :: xs => x.imm && D.immL xs
end
def D.kimm : D → Bool
  | .lst xs => D.immL xs | .tup xs => D.immL xs | .fro xs => D.immL xs | .dic _ vs => D.immL vs
  | _ => true
/-- has a node of its own that may be changed -/
def D.isM : D → Bool
  | .lst _ => true | .set _ => true | .dic _ _ => true | _ => false

mutual
def D.toPy : D → PyData
  | .non => .none | .bl b => .bool b | .int i => .int i | .str x => .str x
  | .tup xs => .tuple (D.toPyL xs) | .lst xs => .list (D.toPyL xs) | .fro xs => .list (D.toPyL xs)
  | .set _ => .dict [] | .dic _ _ => .dict []
def D.toPyL : List D → List PyData
  | [] => []
  | x :: xs => x.toPy :: D.toPyL xs
end
/-- may be compared by == -/
def D.shp (d : D) : Prop := SeqAt.shaped d.toPy = true
def D.eqv (d e : D) : Bool := PyData.eqv d.toPy e.toPy

mutual
inductive Rep (K : PySem.W.Frag) (H : Hp) : V → D → List Addr → Prop where
  | non : Rep K H .non .non []
  | bl (b : Bool) : Rep K H (.bl b) (.bl b) []
  | int (i : Int) : Rep K H (.int i) (.int i) []
  | str (x : Str) : Rep K H (.str x) (.str x) []
  | tup {a vs ds A} : H a = some (.tup vs) → Reps K H vs ds A → Rep K H (.ref a) (.tup ds) A
  | lst {a vs ds A} : H a = some (.lst vs) → Reps K H vs ds A → Rep K H (.ref a) (.lst ds) (a :: A)
  | fro {a vs ds o} : H a = some (.frz o (.lst vs)) → Reps K H vs ds [] → Rep K H (.ref a) (.fro ds) []
  | froK {a vs ds} : (∀ H', SqL K H' a vs) → Reps K H vs ds [] → Rep K H (.ref a) (.fro ds) []
  | set {a xs} : H a = some (.set (fun i => decide (i ∈ xs)) xs.length) → xs.Nodup → Rep K H (.ref a) (.set xs) [a]
  | dic {a ks vs ds A} : H a = some (.dK (ks.zip vs)) → ks.length = vs.length → Reps K H vs ds A → Rep K H (.ref a) (.dic ks ds) (a :: A)
inductive Reps (K : PySem.W.Frag) (H : Hp) : List V → List D → List Addr → Prop where
  | nil : Reps K H [] [] []
  | cons {v d A vs ds B} : Rep K H v d A → Reps K H vs ds B → Reps K H (v :: vs) (d :: ds) (A ++ B)
end

def Mut (o : HO) : Prop := match o with | .lst _ => True | .set _ _ => True | .dK _ => True | _ => False
def Fix (o : HO) : Prop := match o with | .tup _ => True | .frz _ _ => True | _ => False
abbrev Same (H H' : Hp) : Prop := ∀ b x, H b = some x → H' b = some x
theorem Same.refl {H : Hp} : Same H H := fun _ _ e => e
theorem Same.trans {H1 H2 H3 : Hp} (a : Same H1 H2) (b : Same H2 H3) : Same H1 H3 := fun _ _ e => b _ _ (a _ _ e)
theorem Same.non {H H' : Hp} {a : Addr} (s : Same H H') (e : H' a = none) : H a = none := by
  cases q : H a with
  | none => rfl
  | some x => rw [s a x q] at e; cases e
theorem Same.updp {H : Hp} {p : Addr} {o : HO} (e : H p = none) : Same H (L2.upd H p o) := fun b x q => by
  rw [upd_ne (ne_of_none q e)]; exact q

section
variable {K : PySem.W.Frag} {H H' : Hp}
mutual
theorem Rep.mono : ∀ {v d A}, Rep K H v d A → (∀ a ∈ A, H' a = H a) → (∀ a o, H a = some o → Fix o → H' a = some o) → Rep K H' v d A
  | _, _, _, .non, _, _ => .non
  | _, _, _, .bl b, _, _ => .bl b
  | _, _, _, .int b, _, _ => .int b
  | _, _, _, .str b, _, _ => .str b
  | _, _, _, .tup e r, h, f => .tup (f _ _ e True.intro) (Reps.mono r h f)
  | _, _, _, .lst e r, h, f => .lst ((h _ (List.mem_cons_self ..)).trans e) (Reps.mono r (fun a ha => h a (List.mem_cons_of_mem _ ha)) f)
  | _, _, _, .fro e r, h, f => .fro (f _ _ e True.intro) (Reps.mono r h f)
  | _, _, _, .froK e r, h, f => .froK e (Reps.mono r h f)
  | _, _, _, .set e n, h, f => .set ((h _ (List.mem_cons_self ..)).trans e) n
  | _, _, _, .dic e l r, h, f => .dic ((h _ (List.mem_cons_self ..)).trans e) l (Reps.mono r (fun a ha => h a (List.mem_cons_of_mem _ ha)) f)
theorem Reps.mono : ∀ {vs ds A}, Reps K H vs ds A → (∀ a ∈ A, H' a = H a) → (∀ a o, H a = some o → Fix o → H' a = some o) → Reps K H' vs ds A
  | _, _, _, .nil, _, _ => .nil
  | _, _, _, .cons r rs, h, f => .cons (Rep.mono r (fun a ha => h a (List.mem_append_left _ ha)) f) (Reps.mono rs (fun a ha => h a (List.mem_append_right _ ha)) f)
end
mutual
theorem Rep.dom : ∀ {v d A}, Rep K H v d A → ∀ a ∈ A, ∃ o, H a = some o ∧ Mut o
  | _, _, _, .non, a, h => by cases h
  | _, _, _, .bl b, a, h => by cases h
  | _, _, _, .int b, a, h => by cases h
  | _, _, _, .str b, a, h => by cases h
  | _, _, _, .tup e r, a, h => Reps.dom r a h
  | _, _, _, .lst e r, a, h => by
    rcases List.mem_cons.mp h with rfl | h
    · exact ⟨_, e, True.intro⟩
    · exact Reps.dom r a h
  | _, _, _, .fro e r, a, h => by cases h
  | _, _, _, .froK e r, a, h => by cases h
  | _, _, _, .set e n, a, h => by
    rcases List.mem_cons.mp h with rfl | h
    · exact ⟨_, e, True.intro⟩
    · cases h
  | _, _, _, .dic e l r, a, h => by
    rcases List.mem_cons.mp h with rfl | h
    · exact ⟨_, e, True.intro⟩
    · exact Reps.dom r a h
theorem Reps.dom : ∀ {vs ds A}, Reps K H vs ds A → ∀ a ∈ A, ∃ o, H a = some o ∧ Mut o
  | _, _, _, .nil, a, h => by cases h
  | _, _, _, .cons r rs, a, h => by
    rcases List.mem_append.mp h with h | h
    · exact Rep.dom r a h
    · exact Reps.dom rs a h
end
mutual
theorem Rep.imm : ∀ {v d A}, Rep K H v d A → d.imm = true → A = []
  | _, _, _, .non, _ => rfl
  | _, _, _, .bl b, _ => rfl
  | _, _, _, .int b, _ => rfl
  | _, _, _, .str b, _ => rfl
  | _, _, _, .tup e r, h => Reps.imm r (by simpa [D.imm] using h)
  | _, _, _, .lst e r, h => by simp [D.imm] at h
  | _, _, _, .fro e r, h => rfl
  | _, _, _, .froK e r, h => rfl
  | _, _, _, .set e n, h => by simp [D.imm] at h
  | _, _, _, .dic e l r, h => by simp [D.imm] at h
theorem Reps.imm : ∀ {vs ds A}, Reps K H vs ds A → D.immL ds = true → A = []
  | _, _, _, .nil, _ => rfl
  | _, _, _, .cons r rs, h => by
    simp only [D.immL, Bool.and_eq_true] at h
    rw [Rep.imm r h.1, Reps.imm rs h.2]; rfl
end
theorem Rep.same {v d A} (r : Rep K H v d A) (s : Same H H') : Rep K H' v d A :=
  r.mono (fun a ha => by obtain ⟨o, e, _⟩ := r.dom a ha; rw [e]; exact s _ _ e) (fun a o e _ => s _ _ e)
theorem Reps.same {v d A} (r : Reps K H v d A) (s : Same H H') : Reps K H' v d A :=
  r.mono (fun a ha => by obtain ⟨o, e, _⟩ := r.dom a ha; rw [e]; exact s _ _ e) (fun a o e _ => s _ _ e)
/-- another list is rewritten -/
theorem Rep.upd {v d A p o o'} (r : Rep K H v d A) (n : p ∉ A) (e : H p = some o) (m : Mut o) : Rep K (upd H p o') v d A :=
  r.mono (fun a ha => upd_ne (fun z => n (z ▸ ha))) (fun a o2 e2 f => by
    rw [upd_ne]
    · exact e2
    · intro z; subst z; rw [e] at e2; cases e2; cases o <;> simp [Mut, Fix] at m f)
theorem Reps.upd {v d A p o o'} (r : Reps K H v d A) (n : p ∉ A) (e : H p = some o) (m : Mut o) : Reps K (upd H p o') v d A :=
  r.mono (fun a ha => upd_ne (fun z => n (z ▸ ha))) (fun a o2 e2 f => by
    rw [upd_ne]
    · exact e2
    · intro z; subst z; rw [e] at e2; cases e2; cases o <;> simp [Mut, Fix] at m f)
theorem Reps.length : ∀ {vs ds A}, Reps K H vs ds A → vs.length = ds.length
  | _, _, _, .nil => rfl
  | _, _, _, .cons _ rs => by rw [List.length_cons, List.length_cons, Reps.length rs]
theorem Reps.append : ∀ {vs ds A vs' ds' B}, Reps K H vs ds A → Reps K H vs' ds' B → Reps K H (vs ++ vs') (ds ++ ds') (A ++ B)
  | _, _, _, _, _, _, .nil, s => s
  | _, _, _, _, _, _, .cons r rs, s => by rw [List.append_assoc]; exact .cons r (Reps.append rs s)
theorem Reps.one {v d A} (r : Rep K H v d A) : Reps K H [v] [d] A := by
  have := Reps.cons r .nil
  rwa [List.append_nil] at this
theorem Reps.at : ∀ {vs ds A} {i : Nat} {v : V}, Reps K H vs ds A → vs[i]? = some v → ∃ d B, ds[i]? = some d ∧ Rep K H v d B ∧ B.Sublist A
  | _, _, _, _, _, .nil, h => by simp at h
  | _, _, _, 0, v, .cons r _, h => by
    simp at h; subst h
    exact ⟨_, _, rfl, r, List.sublist_append_left _ _⟩
  | _, _, _, i + 1, v, .cons _ rs, h => by
    obtain ⟨d, B, h1, h2, h3⟩ := Reps.at (i := i) rs (by simpa using h)
    exact ⟨d, B, by simpa using h1, h2, h3.trans (List.sublist_append_right _ _)⟩
theorem Reps.at' {vs ds A} {i : Nat} {d : D} (r : Reps K H vs ds A) (h : ds[i]? = some d) : ∃ v B, vs[i]? = some v ∧ Rep K H v d B ∧ B.Sublist A := by
  have hl := r.length
  have hi : i < vs.length := by rw [hl]; exact (List.getElem?_eq_some_iff.mp h).1
  obtain ⟨d', B, h1, h2, h3⟩ := r.at (List.getElem?_eq_getElem hi)
  rw [h] at h1
  cases h1
  exact ⟨_, B, List.getElem?_eq_getElem hi, h2, h3⟩
mutual
theorem Rep.dpc : ∀ {v d A}, Rep K H v d A → PyData.canLay0 d.toPy = true → Dp K H v d.toPy
  | _, _, _, .non, _ => .non
  | _, _, _, .bl b, _ => .bl b
  | _, _, _, .int b, _ => .int b
  | _, _, _, .str b, _ => .str b
  | _, _, _, .tup e r, h => .tup (SqT.of e) (Reps.dpc r h)
  | _, _, _, .lst e r, h => .lst (SqL.of e) (Reps.dpc r h)
  | _, _, _, .fro e r, h => .lst (.inl (.inr ⟨_, e⟩)) (Reps.dpc r h)
  | _, _, _, .froK e r, h => .lst (e _) (Reps.dpc r h)
  | _, _, _, .set e n, h => by simp [D.toPy, PyData.canLay0] at h
  | _, _, _, .dic e l r, h => by simp [D.toPy, PyData.canLay0] at h
theorem Reps.dpc : ∀ {vs ds A}, Reps K H vs ds A → PyData.canLayAll0 (D.toPyL ds) = true → DpAll K H vs (D.toPyL ds)
  | _, _, _, .nil, _ => .nil
  | _, _, _, .cons r rs, h => by
    simp only [D.toPyL, PyData.canLayAll0, Bool.and_eq_true] at h
    exact .cons (Rep.dpc r h.1) (Reps.dpc rs h.2)
end
theorem Rep.dp {v d A} (r : Rep K H v d A) (h : D.shp d) : Dp K H v d.toPy := r.dpc (SeqAt.canLay_of_shaped h)
end
end R

namespace R
open PySem PySem.Spec PyProof.Rows L2

/-! ### the code -/
inductive Bop where | add | sub | mul | fdiv | fdivN | mod | modN | pow | shl | shr | band | bor | bxor
inductive Cop where | eq | ne | lt | le | gt | ge | isin | nin | is | isnt
inductive Blt where | len | abs | min | max | sum | int | bool | str | repr
inductive Cpy where | list | sorted | tuple | set | rev | sortd
inductive Fz where | sset | lset | setof
inductive Mth where | count | index
inductive Ty where | int | bool | str | list | tuple | dict | set
inductive Tg where | one (i : Nat) | many (is : List Nat)
def Tg.slots : Tg → List Nat | .one i => [i] | .many is => is
mutual
inductive Ex where
  | nop
  | num (i : Int) | bool (b : Bool) | non | str (s : Str) | con (x : Str) (d : D)
  | var (i : Nat) | take (i : Nat)
  | bin (op : Bop) (a b : Ex) | neg (a : Ex)
  | cmp (op : Cop) (a b : Ex) | chn (op op' : Cop) (a b c : Ex)
  | not (a : Ex) | and (a b : Ex) | or (a b : Ex) | one (a : Ex)
  | ite (c a b : Ex)
  | lst (es : Exs) | tup (es : Exs)
  | ix (a i : Ex) | slc (a lo hi : Ex)
  | cat (a b : Ex)
  | mn (a : Ex)
  | mn2 (a b : Ex)
  | call (g : Nat) (es : Exs)
  | callF (g : Nat) (es : Exs)
  | blt (f : Blt) (es : Exs)
  | cpy (f : Cpy) (a : Ex)
  | lrg (a b : Ex)
  | fz (f : Fz) (a : Ex)
  | mth (f : Mth) (i : Nat) (e : Ex)
  | dct
  | get (i : Nat) (k d : Ex)
  | isi (a : Ex) (t : Ty)
  | lc (own : List Nat) (elt : Ex) (tg : Tg) (it : Rg) (cs : Exs)
  | sel (own : List Nat) (i : Nat) (a : Ex) (cs : Exs)
  | dsel (own : List Nat) (i v : Nat) (ge : Bool) (n : Int)
  | lc2 (own own1 : List Nat) (elt : Ex) (tg : Tg) (it : Rg) (cs : Exs) (tg1 : Tg) (it1 : Rg) (cs1 : Exs)
inductive Exs where
  | nil | cons (e : Ex) (es : Exs)
inductive Rg where
  | rng1 (a : Ex) | rng2 (a b : Ex) | rng3 (a b c : Ex) | col (a : Ex) | rev (a : Ex)
end
mutual
inductive Cm where
  | set (i : Nat) (e : Ex) | unp (is : List Nat) (e : Ex) | par (i j : Nat) (a b : Ex) | par3 (i j l : Nat) (a b c : Ex)
  | aug (i : Nat) (op : Bop) (e : Ex)
  | put (i : Nat) (k e : Ex)
  | app (i : Nat) (e : Ex) | app1 (i : Nat) (k e : Ex) | app2 (i : Nat) (n n2 : Int) (e : Ex)
  | pop (i : Nat) | popS (x i : Nat)
  | ext (i : Nat) (e : Ex)
  | ex (e : Ex)
  | iff (c : Ex) (a b : Cms)
  | whl (c : Ex) (b : Cms)
  | forr (tg : Tg) (it : Rg) (b : Cms)
  | ret (e : Ex) | retN | brk | cont | pas
  | fgt (is : List Nat)
inductive Cms where
  | nil | cons (s : Cm) (ss : Cms)
end

/-! ### what a place holds -/
inductive Md where | bor | kid | own
inductive Lv where | froz | top | deep
inductive Cell where | un | fz (d : D) | ln (d : D) | tp (d : D) | dp (d : D)
abbrev Pl := List Cell
def _root_.List.pt : List Cell → Nat → Cell
  | [], _ => .un
  | c :: _, 0 => c
  | _ :: r, n + 1 => List.pt r n
def mkCell (d : D) (l : Lv) : Cell := if d.imm then .fz d else match l with | .froz => .fz d | .top => .tp d | .deep => .dp d
def Cell.lend : Cell → Cell
  | .tp d => .ln d | .dp d => .ln d | c => c
/-- behind the loop -/
def Cell.back : Cell → Cell → Cell
  | .tp _, .ln d => .tp d
  | .dp _, .ln d => if d.kimm then .dp d else .tp d
  | _, c => c
def wipeD (ρ : Pl) : List Nat → Pl
  | [] => ρ
  | v :: vs => (wipeD ρ vs).set v .un
def keepC : Cell → Cell | .fz d => .fz d | _ => .un
def unwipe (ρ ρ' : Pl) : List Nat → Pl
  | [] => ρ'
  | v :: vs => (unwipe ρ ρ' vs).set v (keepC (ρ.pt v))

/-- no loop lends it -/
def free (ρ : Pl) (i : Nat) : Prop := match ρ.pt i with | .ln _ => False | _ => i < ρ.length
def tgFree (ρ : Pl) : Tg → Prop
  | .one i => free ρ i
  | .many is => ∀ i ∈ is, free ρ i

/-! ### operations -/
/-- the products' size: neither factor reaches it -/
def BIG : Nat := 2 ^ 400000
def Sm (a : Int) : Prop := a.natAbs < BIG
def SmD (a : Int) : Prop := a.natAbs < 2 ^ 8000
def binD : Bop → D → D → (D → Prop) → Prop
  | .add, .int a, .int b, K => K (.int (a + b))
  | .add, .str a, .str b, K => a.length + b.length ≤ sizeLine ∧ K (.str (a ++ b))
  | .add, .lst a, .lst b, K => (D.immL a = true ∧ D.immL b = true ∧ a.length + b.length ≤ sizeLine) ∧ K (.lst (a ++ b))
  | .add, .tup a, .tup b, K => (D.immL a = true ∧ D.immL b = true ∧ a ≠ [] ∧ a.length + b.length ≤ sizeLine) ∧ K (.tup (a ++ b))
  | .sub, .int a, .int b, K => K (.int (a - b))
  | .mul, .int a, .int b, K => (Sm a ∧ Sm b) ∧ K (.int (a * b))
  | .mul, .lst a, .int k, K => (D.immL a = true ∧ k < 2 ^ 62 ∧ -(2 ^ 62) < k ∧ a.length * k.toNat ≤ sizeLine) ∧ K (.lst (List.replicate k.toNat a).flatten)
  | .fdiv, .int a, .int b, K => (0 < b ∧ SmD b) ∧ K (.int (a / b))
  | .fdivN, .int a, .int b, K => (b ≠ 0 ∧ b.natAbs < 1073741824) ∧ K (.int (a.fdiv b))
  | .mod, .int a, .int b, K => 0 < b ∧ K (.int (a % b))
  | .modN, .int a, .int b, K => b ≠ 0 ∧ K (.int (a.fmod b))
  | .pow, .int a, .int b, K => (0 ≤ b ∧ b ≤ 1000000 ∧ a.natAbs < 2 ^ 64) ∧ K (.int (a ^ b.toNat))
  | .shl, .int a, .int b, K => (0 ≤ b ∧ b ≤ 1000000 ∧ a.natAbs < 2 ^ 64) ∧ K (.int (a * 2 ^ b.toNat))
  | .shr, .int a, .int b, K => 0 ≤ b ∧ K (.int (a / 2 ^ b.toNat))
  | .band, .int a, .int b, K => K (.int (Builtin.bitAnd a b))
  | .bor, .int a, .int b, K => K (.int (Builtin.bitOr a b))
  | .bxor, .int a, .int b, K => K (.int (Builtin.bitXor a b))
  | _, _, _, _ => False
def catD : D → D → (D → Prop) → Prop
  | .lst a, .lst b, K => a.length + b.length ≤ sizeLine ∧ K (.lst (a ++ b))
  | _, _, _ => False
def minLD : D → (D → Prop) → Prop
  | .lst xs, K => ∃ (x : List Int) (L : List (List Int)), xs = (x :: L).map (fun l => .lst (l.map .int)) ∧ K (.lst ((minL x L).map .int))
  | _, _ => False
def kIn (k : Key) (ks : List Key) : Bool := ks.any fun x => decide (x = k)
def dKey : D → Option Key
  | .int i => some (.inl i)
  | .str x => some (.inr x)
  | _ => none
def dGet (ks : List Key) (vs : List D) (k : Key) : Option D := ((ks.zip vs).find? fun kv => decide (kv.1 = k)).map (·.2)
def dPutK (ks : List Key) (k : Key) : List Key := if kIn k ks = true then ks else ks ++ [k]
def dPutV (ks : List Key) (vs : List D) (k : Key) (v : D) : List D := if kIn k ks = true then (ks.zip vs).map (fun kv => if kv.1 = k then v else kv.2) else vs ++ [v]
def getD : D → D → D → (D → Prop) → Prop
  | .dic ks vs, y, z, K => ∃ k, dKey y = some k ∧ D.immL vs = true ∧ z.imm = true ∧ K ((dGet ks vs k).getD z)
  | _, _, _, _ => False
def eqC (x y : D) (K : Bool → Prop) : Prop :=
  match x, y with
  | .int a, .int b => K (decide (a = b))
  | .str a, .str b => K (decide (a = b))
  | x, y => (x.shp ∧ y.shp) ∧ K (x.eqv y)
def inC (x y : D) (K : Bool → Prop) : Prop :=
  match x, y with
  | x, .lst ys => (x.shp ∧ (D.lst ys).shp) ∧ K (ys.any fun y => y.eqv x)
  | x, .tup ys => (x.shp ∧ (D.tup ys).shp) ∧ K (ys.any fun y => y.eqv x)
  | x, .dic ks _ => ∃ k, dKey x = some k ∧ K (kIn k ks)
  | .int i, .set S => K (decide (i ∈ S))
  | _, _ => False
def D.isNon : D → Bool | .non => true | _ => false
def isC (x y : D) (K : Bool → Prop) : Prop :=
  match x, y with
  | x, .non => K x.isNon
  | .bl a, .bl b => K (a == b)
  | _, _ => False
def D.ints : List D → Option (List Int)
  | [] => some []
  | .int i :: r => (D.ints r).map (i :: ·)
  | _ :: _ => none
def cmpD : Cop → D → D → (Bool → Prop) → Prop
  | .eq, x, y, K => eqC x y K
  | .ne, x, y, K => eqC x y fun b => K (!b)
  | .lt, .int a, .int b, K => K (decide (a < b))
  | .le, .int a, .int b, K => K (decide (a ≤ b))
  | .gt, .int a, .int b, K => K (decide (b < a))
  | .ge, .int a, .int b, K => K (decide (b ≤ a))
  | .lt, .lst a, .lst b, K => ∃ ns ms, D.ints a = some ns ∧ D.ints b = some ms ∧ K (ltL ns ms)
  | .lt, .tup a, .tup b, K => ∃ ns ms, D.ints a = some ns ∧ D.ints b = some ms ∧ K (ltL ns ms)
  | .le, .lst a, .lst b, K => ∃ ns ms, D.ints a = some ns ∧ D.ints b = some ms ∧ K (!ltL ms ns)
  | .le, .tup a, .tup b, K => ∃ ns ms, D.ints a = some ns ∧ D.ints b = some ms ∧ K (!ltL ms ns)
  | .gt, .lst a, .lst b, K => ∃ ns ms, D.ints a = some ns ∧ D.ints b = some ms ∧ K (ltL ms ns)
  | .gt, .tup a, .tup b, K => ∃ ns ms, D.ints a = some ns ∧ D.ints b = some ms ∧ K (ltL ms ns)
  | .ge, .lst a, .lst b, K => ∃ ns ms, D.ints a = some ns ∧ D.ints b = some ms ∧ K (!ltL ns ms)
  | .ge, .tup a, .tup b, K => ∃ ns ms, D.ints a = some ns ∧ D.ints b = some ms ∧ K (!ltL ns ms)
  | .isin, x, y, K => inC x y K
  | .nin, x, y, K => inC x y fun b => K (!b)
  | .is, x, y, K => isC x y K
  | .isnt, x, y, K => isC x y fun b => K (!b)
  | _, _, _, _ => False
def ixD : D → D → (D → Prop) → Prop
  | .lst xs, .int i, K => ∃ z, atI xs i = some z ∧ K z
  | .tup xs, .int i, K => ∃ z, atI xs i = some z ∧ K z
  | .fro xs, .int i, K => ∃ z, atI xs i = some z ∧ K z
  | .dic ks vs, y, K => ∃ k z, dKey y = some k ∧ dGet ks vs k = some z ∧ D.immL vs = true ∧ K z
  | _, _, _ => False
def cut {α : Type} (xs : List α) (lo hi : Option Int) : List α := (xs.drop (HT.sIx xs.length 0 lo)).take (HT.sIx xs.length xs.length hi - HT.sIx xs.length 0 lo)
def slcD : D → Option Int → Option Int → (D → Prop) → Prop
  | .lst xs, lo, hi, K => K (.lst (cut xs lo hi))
  | .fro xs, lo, hi, K => K (.lst (cut xs lo hi))
  | .tup xs, lo, hi, K => ¬ (HT.sIx xs.length 0 lo = 0 ∧ HT.sIx xs.length xs.length hi = xs.length) ∧ K (.tup (cut xs lo hi))
  | _, _, _, _ => False
def isiD : Ty → D → Bool
  | .int, .int _ => true | .int, .bl _ => true
  | .bool, .bl _ => true
  | .str, .str _ => true
  | .list, .lst _ => true | .list, .fro _ => true
  | .tuple, .tup _ => true
  | .dict, .dic _ _ => true
  | .set, .set _ => true
  | _, _ => false
def isiC (t : Ty) (x : D) (K : Bool → Prop) : Prop := match x with | .fro _ => False | x => K (isiD t x)
/-- a list's ints -/
def D.box : D → Bool | .set _ => false | .dic _ _ => false | _ => true
def bltD : Blt → List D → (D → Prop) → Prop
  | .len, [.lst xs], K => K (.int xs.length)
  | .len, [.tup xs], K => K (.int xs.length)
  | .len, [.fro xs], K => K (.int xs.length)
  | .len, [.dic ks _], K => K (.int ks.length)
  | .len, [.str x], K => x.length ≤ sizeLine ∧ K (.int x.length)
  | .abs, [.int i], K => K (.int i.natAbs)
  | .min, [.int i, .int j], K => K (.int (min i j))
  | .max, [.int i, .int j], K => K (.int (max i j))
  | .min, [.lst xs], K => ∃ ns, D.ints xs = some ns ∧ ns ≠ [] ∧ ∀ m, m ∈ ns → (∀ y ∈ ns, m ≤ y) → K (.int m)
  | .min, [.tup xs], K => ∃ ns, D.ints xs = some ns ∧ ns ≠ [] ∧ ∀ m, m ∈ ns → (∀ y ∈ ns, m ≤ y) → K (.int m)
  | .max, [.lst xs], K => ∃ ns, D.ints xs = some ns ∧ ns ≠ [] ∧ ∀ m, m ∈ ns → (∀ y ∈ ns, y ≤ m) → K (.int m)
  | .sum, [.lst xs], K => ∃ ns, D.ints xs = some ns ∧ K (.int ns.sum)
  | .int, [.int i], K => K (.int i)
  | .int, [.bl b], K => K (.int (if b then 1 else 0))
  | .str, [.int i], K => i.natAbs.log2 < 1920 ∧ K (.str (toString i))
  | .repr, [x], K => (x.box = true ∧ PyData.canLay0 x.toPy = true ∧ PyData.showable x.toPy = true ∧ x.toPy.depth ≤ 60 ∧ x.toPy.shown.length ≤ sizeLine) ∧ K (.str x.toPy.shown)
  | _, _, _ => False
def ins (x : Int) : List Int → List Int
  | [] => [x]
  | y :: r => if x ≤ y then x :: y :: r else y :: ins x r
def isort : List Int → List Int
  | [] => []
  | x :: r => ins x (isort r)
/-- each once -/
def dd : List Int → List Int
  | [] => []
  | x :: r => if x ∈ r then dd r else x :: dd r
def fzD : Fz → D → (D → Prop) → Prop
  | .sset, .lst xs, K => ∃ ns, D.ints xs = some ns ∧ ns.length < 4000 ∧ K (.lst ((isort (dd ns)).map .int))
  | .lset, .lst xs, K => ∃ ns, D.ints xs = some ns ∧ ns.length < 4000 ∧ K (.int (dd ns).length)
  | .setof, .lst xs, K => ∃ ns, D.ints xs = some ns ∧ ns.length < 4000 ∧ K (.set (dd ns))
  | _, _, _ => False
def mthD : Mth → D → D → (D → Prop) → Prop
  | .count, .lst xs, .int i, K => ∃ ns, D.ints xs = some ns ∧ K (.int (ns.count i))
  | .index, .lst xs, .int i, K => ∃ ns, D.ints xs = some ns ∧ i ∈ ns ∧ K (.int (ns.idxOf i))
  | _, _, _, _ => False
def decR : Bool → D → Option (List Int)
  | false, .lst ys => D.ints ys
  | true, .tup ys => D.ints ys
  | _, _ => none
def encR (b : Bool) (l : List Int) : D := match b with | false => .lst (l.map .int) | true => .tup (l.map .int)
def decL (b : Bool) : List D → Option (List (List Int))
  | [] => some []
  | x :: r => match decR b x, decL b r with | some l, some L => some (l :: L) | _, _ => none
def keyD : Key → D
  | .inl i => .int i
  | .inr x => .str x
def cpyD : Cpy → D → (D → Prop) → Prop
  | .list, .lst xs, K => K (.lst xs)
  | .list, .tup xs, K => K (.lst xs)
  | .list, .dic ks _, K => K (.lst (ks.map keyD))
  | .sorted, .lst xs, K => ∃ ns, D.ints xs = some ns ∧ K (.lst ((isort ns).map .int))
  | .sortd, .lst xs, K => ∃ b L, decL b xs = some L ∧ (b = true → ∀ l ∈ L, l ≠ []) ∧ K (.lst ((srtR L).map (encR b)))
  | .tuple, .lst xs, K => K (.tup xs)
  | .rev, .lst xs, K => K (.lst xs.reverse)
  | _, _, _ => False
def itemsD : D → (List D → Prop) → Prop
  | .lst xs, K => K xs
  | .tup xs, K => K xs
  | _, _ => False
def rngL (a b : Int) : List D := (List.range (b - a).toNat).map fun i => .int (a + (i : Nat))
def tgD : Tg → D → Pl → (Pl → Prop) → Prop
  | .one i, d, ρ, K => K (ρ.set i (.fz d))
  | .many is, .tup ds, ρ, K => is.length = ds.length ∧ K ((is.zip ds).foldl (fun ρ p => ρ.set p.1 (.fz p.2)) ρ)
  | _, _, _, _ => False
abbrev SpD := List D → (D → Prop) → Prop
abbrev KE := D → Lv → Pl → Prop
def cpLv (la : Lv) : Lv := match la with | .deep => .deep | _ => .top
def kdLv (la : Lv) : Lv := match la with | .deep => .deep | _ => .froz
def isDeep : Lv → Bool | .deep => true | _ => false
def smd : Md → Md | .bor => .bor | _ => .kid
def emd : Md → Md | .bor => .bor | _ => .own
def varD (m : Md) (ρ : Pl) (i : Nat) (K : KE) : Prop :=
  match ρ.pt i, m with
  | .un, _ => False
  | .fz d, _ => K d .froz ρ
  | .ln d, .own => False
  | .ln d, _ => K d .froz ρ
  | .tp d, .own => K d .froz (ρ.set i (.fz d))
  | .tp d, _ => K d .froz ρ
  | .dp d, .own => K d .froz (ρ.set i (.fz d))
  | .dp d, .kid => K d .froz (ρ.set i (.tp d))
  | .dp d, .bor => K d .froz ρ
def takeD (m : Md) (ρ : Pl) (i : Nat) (K : KE) : Prop :=
  match m, ρ.pt i with
  | .own, .tp d => K d .top (ρ.set i .un)
  | .own, .dp d => K d .deep (ρ.set i .un)
  | .kid, .dp d => K d .deep (ρ.set i .un)
  | m, _ => varD m ρ i K
/-- a part of a value -/
def keepD (m : Md) (z : D) (la : Lv) (ρ ρ1 : Pl) (K : KE) : Prop :=
  match m with
  | .bor => K z .froz ρ
  | _ => if z.imm = true then K z .deep ρ else K z (kdLv la) ρ1
/-- a copy of a value -/
def copyD (m : Md) (x z : D) (la : Lv) (ρ ρ1 : Pl) (K : KE) : Prop :=
  match m with
  | .bor => K z .froz ρ
  | _ => if x.kimm = true then K z .deep ρ else K z (if z.isM then cpLv la else kdLv la) ρ1

def loopC (step : D → List D → Bool → Pl → (List D → Bool → Pl → Prop) → Prop) : List D → List D → Bool → Pl → (List D → Bool → Pl → Prop) → Prop
  | [], acc, al, ρ, K => K acc al ρ
  | x :: xs, acc, al, ρ, K => step x acc al ρ fun acc al ρ => loopC step xs acc al ρ K

def loopB (step : D → List D → (List D → Prop) → Prop) : List D → List D → (List D → Prop) → Prop
  | [], acc, K => K acc
  | x :: xs, acc, K => step x acc fun acc => loopB step xs acc K

def kidK (m : Md) (xs : List D) (A B : Prop) : Prop := match m with | .kid => if D.immL xs = true then A else B | _ => B
def Ex.isNop : Ex → Bool | .nop => true | _ => false
def partD (b : Bool) (e : (D → Prop) → Prop) (K : Option Int → Prop) : Prop :=
  match b with | true => K none | false => e fun y => ∃ i, y = .int i ∧ K (some i)

/-- the keys whose number is above n (or n itself) -/
def dselL (ge : Bool) (n : Int) (l ws : List Int) : List Int := ((l.zip ws).filter fun p => if ge = true then decide (n ≤ p.2) else decide (n < p.2)).map (·.1)
mutual
def wpE (Γ : List SpD) : Md → Ex → Pl → KE → Prop
  | m, .nop, ρ, K => False
  | m, .num i, ρ, K => K (.int i) .deep ρ
  | m, .bool b, ρ, K => K (.bl b) .deep ρ
  | m, .non, ρ, K => K .non .deep ρ
  | m, .str s, ρ, K => K (.str s) .deep ρ
  | m, .con _ d, ρ, K => K d .deep ρ
  | m, .var i, ρ, K => varD m ρ i K
  | m, .take i, ρ, K => takeD m ρ i K
  | m, .bin op a b, ρ, K => wpE Γ .bor a ρ fun x _ _ => wpE Γ .bor b ρ fun y _ _ => binD op x y fun z => K z .deep ρ
  | m, .neg a, ρ, K => wpE Γ .bor a ρ fun x _ _ => ∃ i, x = .int i ∧ K (.int (-i)) .deep ρ
  | m, .cmp op a b, ρ, K => wpE Γ .bor a ρ fun x _ _ => wpE Γ .bor b ρ fun y _ _ => cmpD op x y fun z => K (.bl z) .deep ρ
  | m, .chn op op' a b c, ρ, K => wpE Γ .bor a ρ fun x _ _ => wpE Γ .bor b ρ fun y _ _ => cmpD op x y fun z =>
      if z = true then wpE Γ .bor c ρ fun w _ _ => cmpD op' y w fun z => K (.bl z) .deep ρ else K (.bl false) .deep ρ
  | m, .not a, ρ, K => wpE Γ .bor a ρ fun x _ _ => ∃ b, x = .bl b ∧ K (.bl (!b)) .deep ρ
  | m, .and a b, ρ, K => wpE Γ .bor a ρ fun x _ _ => ∃ c, x = .bl c ∧ if c = true then wpE Γ .bor b ρ fun y _ _ => ∃ d, y = .bl d ∧ K (.bl d) .deep ρ else K (.bl false) .deep ρ
  | m, .or a b, ρ, K => wpE Γ .bor a ρ fun x _ _ => ∃ c, x = .bl c ∧ if c = true then K (.bl true) .deep ρ else wpE Γ .bor b ρ fun y _ _ => ∃ d, y = .bl d ∧ K (.bl d) .deep ρ
  | m, .one a, ρ, K => wpE Γ m a ρ K
  | m, .ite c a b, ρ, K => wpE Γ .bor c ρ fun x _ _ => ∃ k, x = .bl k ∧ if k = true then wpE Γ m a ρ K else wpE Γ m b ρ K
  | m, .lst es, ρ, K => wpEs Γ (emd m) es ρ fun ds al ρ' => ds.length ≤ sizeLine ∧ K (.lst ds) (if al = true then .deep else .top) ρ'
  | m, .tup es, ρ, K => wpEs Γ (emd m) es ρ fun ds al ρ' => ds.length ≤ sizeLine ∧ K (.tup ds) (if al = true then .deep else .froz) ρ'
  | m, .ix a i, ρ, K => wpE Γ (smd m) a ρ fun x la ρ1 => wpE Γ .bor i ρ fun y _ _ => ixD x y fun z => keepD m z la ρ ρ1 K
  | m, .slc a lo hi, ρ, K => wpE Γ (smd m) a ρ fun x la ρ1 =>
      partD lo.isNop (fun k => wpE Γ .bor lo ρ fun y _ _ => k y) fun l => partD hi.isNop (fun k => wpE Γ .bor hi ρ fun y _ _ => k y) fun h => slcD x l h fun z => copyD m x z la ρ ρ1 K
  | .bor, .mn2 a b, ρ, K => wpE Γ .bor a ρ fun x _ _ => wpE Γ .bor b ρ fun y _ _ => ∃ xs ys ns ms, x = .lst xs ∧ y = .lst ys ∧ D.ints xs = some ns ∧ D.ints ys = some ms ∧ K (.lst ((if ltL ms ns = true then ms else ns).map .int)) .froz ρ
  | .own, .mn2 _ _, _, _ => False
  | .kid, .mn2 _ _, _, _ => False
  | m, .mn a, ρ, K => wpE Γ (smd m) a ρ fun x la ρ1 => minLD x fun z => keepD m z la ρ ρ1 K
  | m, .cat a b, ρ, K => wpE Γ (smd m) a ρ fun x la ρ1 => wpE Γ (smd m) b ρ1 fun y lb ρ2 => catD x y fun z => K z (if isDeep la && isDeep lb then .deep else .top) ρ2
  | m, .call g es, ρ, K => wpEs Γ .bor es ρ fun ds _ _ => (Γ.getD g fun _ _ => False) ds fun z => K z .deep ρ
  | m, .callF g es, ρ, K => wpEs Γ (emd m) es ρ fun ds _ ρ' => (Γ.getD g fun _ _ => False) ds fun z => K z .froz ρ'
  | m, .blt f es, ρ, K => wpEs Γ .bor es ρ fun ds _ _ => bltD f ds fun z => K z .deep ρ
  | m, .cpy f a, ρ, K => wpE Γ (smd m) a ρ fun x la ρ1 => cpyD f x fun z => copyD m x z la ρ ρ1 K
  | m, .lrg a b, ρ, K => wpE Γ .bor a ρ fun x _ _ => wpE Γ .bor b ρ fun y _ _ => ∃ i j, x = .int i ∧ y = .int j ∧ RgOk i j ∧ K (.lst (rngL i j)) .deep ρ
  | m, .fz f a, ρ, K => wpE Γ .bor a ρ fun x _ _ => fzD f x fun z => K z .deep ρ
  | m, .isi a t, ρ, K => wpE Γ .bor a ρ fun x _ _ => isiC t x fun z => K (.bl z) .deep ρ
  | m, .lc own elt tg it cs, ρ, K => wpI Γ .kid it ρ fun xs ρ1 => (∀ i ∈ own, free ρ1 i) ∧
      loopC (fun x acc al ρ k => tgD tg x ρ fun ρa => wpCs Γ cs ρa fun b =>
          if b = true then wpE Γ .own elt ρa fun d l ρb => acc.length < sizeLine ∧ (if d.imm = true then k (acc ++ [d]) al (wipeD ρa own) else k (acc ++ [d]) (al && isDeep l) (wipeD ρb own))
          else k acc al (wipeD ρa own)) xs [] true (wipeD ρ1 own) fun ds al ρ2 =>
        match m with | .bor => K (.lst ds) .froz ρ | _ => K (.lst ds) (if al = true then .deep else .top) (unwipe ρ1 ρ2 own)
  | m, .lc2 own own1 elt tg it cs tg1 it1 cs1, ρ, K => wpI Γ .kid it ρ fun xs ρ1 => (∀ i ∈ own, free ρ1 i) ∧
      loopB (fun x acc k => tgD tg x (wipeD ρ1 own) fun ρa => wpCs Γ cs ρa fun b =>
          if b = true then wpI Γ .own it1 ρa fun xs1 ρb => (D.immL xs1 = true ∨ ρb = ρa) ∧
            loopB (fun x acc k => tgD tg1 x (wipeD ρa own1) fun ρc => wpCs Γ cs1 ρc fun b =>
                if b = true then wpE Γ .own elt ρc fun d l ρd => acc.length < sizeLine ∧ (d.imm = true ∨ (isDeep l = true ∧ ρd = ρc)) ∧ k (acc ++ [d])
                else k acc) xs1 acc k
          else k acc) xs [] fun ds =>
        match m with | .bor => K (.lst ds) .froz ρ | _ => K (.lst ds) .deep (unwipe ρ1 (wipeD ρ1 own) own)
  | m, .sel own i a cs, ρ, K => wpE Γ .kid a ρ fun x la ρ1 => ∃ xs, x = .lst xs ∧ (∀ j ∈ own, free ρ1 j) ∧
      loopB (fun x acc k => tgD (.one i) x (wipeD ρ1 own) fun ρa => wpCs Γ cs ρa fun b => if b = true then acc.length < sizeLine ∧ k (acc ++ [x]) else k acc) xs [] fun ds =>
        match m with | .bor => K (.lst ds) .froz ρ | _ => K (.lst ds) (if isDeep la = true then .deep else .top) (unwipe ρ1 (wipeD ρ1 own) own)
  | m, .dsel own i v ge n, ρ, K => varD .bor ρ v fun x _ _ => ∃ l ws, x = .dic (l.map Sum.inl) (ws.map .int) ∧ l.length = ws.length ∧ l.Nodup ∧ l.length ≤ sizeLine ∧ (∀ j ∈ own, free ρ j) ∧ K (.lst ((dselL ge n l ws).map .int)) .deep ρ
  | m, .mth f i e, ρ, K => varD .bor ρ i fun x _ _ => ∃ xs, x = .lst xs ∧ wpE Γ .bor e ρ fun y _ _ => mthD f (.lst xs) y fun z => K z .deep ρ
  | m, .dct, ρ, K => K (.dic [] []) .deep ρ
  | m, .get i k d, ρ, K => varD .bor ρ i fun x _ _ => ∃ ks vs, x = .dic ks vs ∧ wpE Γ .bor k ρ fun y _ _ => wpE Γ .bor d ρ fun z _ _ => getD (.dic ks vs) y z fun v => K v .deep ρ
def wpEs (Γ : List SpD) : Md → Exs → Pl → (List D → Bool → Pl → Prop) → Prop
  | m, .nil, ρ, K => K [] true ρ
  | m, .cons e es, ρ, K => wpE Γ m e ρ fun d l ρ1 => wpEs Γ m es ρ1 fun ds al ρ2 => K (d :: ds) ((d.imm || isDeep l) && al) ρ2
def wpCs (Γ : List SpD) : Exs → Pl → (Bool → Prop) → Prop
  | .nil, ρ, K => K true
  | .cons e .nil, ρ, K => wpE Γ .bor e ρ fun x _ _ => ∃ b, x = .bl b ∧ K b
  | .cons _ (.cons _ _), _, _ => False
def wpI (Γ : List SpD) : Md → Rg → Pl → (List D → Pl → Prop) → Prop
  | m, .rng1 b, ρ, K => wpE Γ .bor b ρ fun x _ _ => ∃ j, x = .int j ∧ (-(2 ^ 62) ≤ j ∧ j < 2 ^ 62) ∧ K (rngL 0 j) ρ
  | m, .rng2 a b, ρ, K => wpE Γ .bor a ρ fun x _ _ => wpE Γ .bor b ρ fun y _ _ => ∃ i j, x = .int i ∧ y = .int j ∧ (-(2 ^ 180) ≤ i ∧ i < 2 ^ 180 ∧ -(2 ^ 180) ≤ j ∧ j < 2 ^ 180) ∧ K (rngL i j) ρ
  | m, .rng3 a b c, ρ, K => wpE Γ .bor a ρ fun x _ _ => wpE Γ .bor b ρ fun y _ _ => wpE Γ .bor c ρ fun z _ _ => ∃ i j s n, x = .int i ∧ y = .int j ∧ z = .int s ∧ RgC i j s n ∧ K ((List.range n).map fun k => .int (i + (k : Nat) * s)) ρ
  | m, .col a, ρ, K => wpE Γ m a ρ fun x l ρ1 => itemsD x fun xs => kidK m xs (K xs ρ) (K xs ρ1)
  | m, .rev a, ρ, K => wpE Γ m a ρ fun x l ρ1 => ∃ xs, x = .lst xs ∧ D.immL xs = true ∧ kidK m xs (K xs.reverse ρ) (K xs.reverse ρ1)
end

def Cell.live : Cell → Bool | .un => false | _ => true
/-! ### statements -/
structure EndsD where
  nx : Pl → Prop
  rt : D → Lv → Prop
  bk : Pl → Prop
  ct : Pl → Prop
def Cell.nl : Cell → Prop | .ln _ => False | _ => True
def Cell.isL : Cell → Prop | .tp (.lst _) => True | .dp (.lst _) => True | _ => False
def Cell.isLD : Cell → Prop | .tp (.lst _) => True | .dp (.lst _) => True | .dp (.dic _ _) => True | _ => False
def cells (l : Lv) : List Nat → List D → Pl → Pl
  | i :: is, d :: ds, ρ => cells l is ds (ρ.set i (mkCell d (kdLv l)))
  | _, _, ρ => ρ
def appC (c : Cell) (d : D) (l : Lv) (K : Cell → Prop) : Prop :=
  match c with
  | .tp (.lst xs) => xs.length < sizeLine ∧ K (.tp (.lst (xs ++ [d])))
  | .dp (.lst xs) => xs.length < sizeLine ∧ K (if d.imm || isDeep l then .dp (.lst (xs ++ [d])) else .tp (.lst (xs ++ [d])))
  | _ => False
def extC (c : Cell) (x : D) (K : Cell → Prop) : Prop :=
  match c, x with
  | .tp (.lst xs), .lst ys => (D.immL ys = true ∧ xs.length + ys.length ≤ sizeLine) ∧ K (.tp (.lst (xs ++ ys)))
  | .dp (.lst xs), .lst ys => (D.immL ys = true ∧ xs.length + ys.length ≤ sizeLine) ∧ K (.dp (.lst (xs ++ ys)))
  | _, _ => False
def putC (c : Cell) (k : D) (d : D) (l : Lv) (K : Cell → Prop) : Prop :=
  match c, k with
  | .tp (.lst xs), .int k => ∃ j, ixN xs.length k = some j ∧ K (.tp (.lst (xs.set j d)))
  | .dp (.lst xs), .int k => ∃ j, ixN xs.length k = some j ∧ K (if d.imm || isDeep l then .dp (.lst (xs.set j d)) else .tp (.lst (xs.set j d)))
  | .dp (.dic ks vs), y => ∃ k, dKey y = some k ∧ ks.length < sizeLine ∧ D.immL vs = true ∧ d.imm = true ∧ K (.dp (.dic (dPutK ks k) (dPutV ks vs k d)))
  | _, _ => False
/-- an item behind a list within -/
def D.appAt : D → List D → D → Option D
  | .lst xs, [], d => if xs.length < sizeLine then some (.lst (xs ++ [d])) else none
  | .lst xs, .int k :: ks, d => (ixN xs.length k).bind fun j => (xs[j]?).bind fun y => (D.appAt y ks d).map fun z => .lst (xs.set j z)
  | .tup xs, .int k :: ks, d => (ixN xs.length k).bind fun j => (xs[j]?).bind fun y => (D.appAt y ks d).map fun z => .tup (xs.set j z)
  | _, _, _ => none
def appOk (c : Cell) (ks : List D) : Prop :=
  match c with
  | .dp x => (D.appAt x ks .non).isSome = true
  | _ => False
def appRes (c : Cell) (ks : List D) (d : D) : Cell :=
  match c with
  | .dp x => .dp ((D.appAt x ks d).getD x)
  | c => c
def popC (c : Cell) (K : Cell → D → Lv → Prop) : Prop :=
  match c with
  | .tp (.lst xs) => ∃ y, xs[xs.length - 1]? = some y ∧ K (.tp (.lst xs.dropLast)) y .froz
  | .dp (.lst xs) => ∃ y, xs[xs.length - 1]? = some y ∧ K (.dp (.lst xs.dropLast)) y .deep
  | _ => False
def augD (op : Bop) (x y : D) (K : D → Prop) : Prop :=
  match x with
  | .int _ => binD op x y K
  | _ => False
def forD (tg : Tg) (body : Pl → EndsD → Prop) (i : Option (Nat × Cell)) : List D → Pl → EndsD → Prop
  | [], ρ, E => backD i ρ E.nx
  | x :: xs, ρ, E => tgFree ρ tg ∧ tgD tg x ρ fun ρ1 => body ρ1 { nx := fun ρ2 => forD tg body i xs ρ2 E, ct := fun ρ2 => forD tg body i xs ρ2 E, bk := fun ρ2 => backD i ρ2 E.nx, rt := E.rt }
where
  backD (i : Option (Nat × Cell)) (ρ : Pl) (K : Pl → Prop) : Prop :=
    match i with
    | none => K ρ
    | some (i, c) => K (ρ.set i (c.back (ρ.pt i)))
/-- the loop's own list at a name that holds it alone: lent -/
def lentAt (ρ : Pl) : Rg → Option (Nat × Cell)
  | .col (.var i) => match ρ.pt i with
    | .tp (.lst xs) => some (i, .tp (.lst xs))
    | .dp (.lst xs) => some (i, .dp (.lst xs))
    | .ln (.lst xs) => if D.immL xs = true then some (i, .ln (.lst xs)) else none
    | _ => none
  | _ => none
def Cell.d : Cell → D
  | .un => .non | .fz d => d | .ln d => d | .tp d => d | .dp d => d

mutual
def wpS (Γ : List SpD) : Cm → Pl → EndsD → Prop
  | .set i e, ρ, E => wpE Γ .own e ρ fun d l ρ' => free ρ' i ∧ E.nx (ρ'.set i (mkCell d l))
  | .unp is e, ρ, E => wpE Γ .own e ρ fun d l ρ' => (∀ i ∈ is, free ρ' i) ∧ ∃ ds, d = .tup ds ∧ is.length = ds.length ∧ is.Nodup ∧ E.nx (cells l is ds ρ')
  | .par i j a b, ρ, E => wpE Γ .own a ρ fun x la ρ1 => wpE Γ .own b ρ1 fun y lb ρ2 => free ρ2 i ∧ free ρ2 j ∧ i ≠ j ∧ E.nx ((ρ2.set i (mkCell x la)).set j (mkCell y lb))
  | .par3 i j l a b c, ρ, E => wpE Γ .own a ρ fun x _ ρ1 => wpE Γ .own b ρ1 fun y _ ρ2 => wpE Γ .own c ρ2 fun z _ ρ3 => (free ρ3 i ∧ free ρ3 j ∧ free ρ3 l) ∧ E.nx (((ρ3.set i (.fz x)).set j (.fz y)).set l (.fz z))
  | .aug i op e, ρ, E => varD .bor ρ i fun x _ _ => wpE Γ .bor e ρ fun y _ _ => free ρ i ∧ augD op x y fun z => E.nx (ρ.set i (.fz z))
  | .put i k e, ρ, E => wpE Γ .own e ρ fun d l ρ1 => (ρ1.pt i).isLD ∧ wpE Γ .bor k ρ1 fun y _ _ => putC (ρ1.pt i) y d l fun c => E.nx (ρ1.set i c)
  | .app i e, ρ, E => (ρ.pt i).isL ∧ wpE Γ .own e ρ fun d l ρ1 => appC (ρ1.pt i) d l fun c => E.nx (ρ1.set i c)
  | .app1 i k e, ρ, E => (ρ.pt i).live = true ∧ wpE Γ .bor k ρ fun x _ _ => appOk (ρ.pt i) [x] ∧ wpE Γ .bor e ρ fun d _ _ => d.imm = true ∧ E.nx (ρ.set i (appRes (ρ.pt i) [x] d))
  | .app2 i n n2 e, ρ, E => appOk (ρ.pt i) [.int n, .int n2] ∧ wpE Γ .bor e ρ fun d _ _ => d.imm = true ∧ E.nx (ρ.set i (appRes (ρ.pt i) [.int n, .int n2] d))
  | .pop i, ρ, E => popC (ρ.pt i) fun c _ _ => E.nx (ρ.set i c)
  | .popS x i, ρ, E => popC (ρ.pt i) fun c y l => free ρ x ∧ x ≠ i ∧ E.nx ((ρ.set i c).set x (mkCell y l))
  | .ext i e, ρ, E => (ρ.pt i).isL ∧ wpE Γ .bor e ρ fun d _ _ => extC (ρ.pt i) d fun c => E.nx (ρ.set i c)
  | .ex e, ρ, E => wpE Γ .bor e ρ fun _ _ _ => E.nx ρ
  | .iff c a b, ρ, E => wpE Γ .bor c ρ fun x _ _ => ∃ k, x = .bl k ∧ if k = true then wpSs Γ a ρ E else wpSs Γ b ρ E
  | .whl c b, ρ, E => ∃ I : Nat → Pl → Prop, (∃ m, I m ρ) ∧ ∀ m ρ, I m ρ → wpE Γ .bor c ρ fun x _ _ => ∃ k, x = .bl k ∧
      if k = true then wpSs Γ b ρ { nx := fun ρ' => ∃ m', m' < m ∧ I m' ρ', ct := fun ρ' => ∃ m', m' < m ∧ I m' ρ', bk := E.nx, rt := E.rt } else E.nx ρ
  | .forr tg it b, ρ, E => match lentAt ρ it with
    | some (i, c) => itemsD c.d fun xs => forD tg (fun ρ E => wpSs Γ b ρ E) (some (i, c)) xs (ρ.set i c.lend) E
    | none => wpI Γ .own it ρ fun xs ρ1 => forD tg (fun ρ E => wpSs Γ b ρ E) none xs ρ1 E
  | .ret e, ρ, E => wpE Γ .own e ρ fun d l _ => E.rt d l
  | .retN, ρ, E => E.rt .non .deep
  | .brk, ρ, E => E.bk ρ
  | .cont, ρ, E => E.ct ρ
  | .pas, ρ, E => E.nx ρ
  | .fgt is, ρ, E => (∀ i ∈ is, (ρ.pt i).nl) ∧ E.nx (wipeD ρ is)
def wpSs (Γ : List SpD) : Cms → Pl → EndsD → Prop
  | .nil, ρ, E => E.nx ρ
  | .cons s ss, ρ, E => wpS Γ s ρ { E with nx := fun ρ' => wpSs Γ ss ρ' E }
end
end R

namespace R
open PySem PySem.Spec PyProof.Rows L2

/-! ### places and the heap -/
def Cell.own (c : Cell) (A : List Addr) : List Addr :=
  match c with
  | .dp _ => A
  | .tp d => if d.isM then A.take 1 else []
  | _ => []
def Cell.shr (c : Cell) (A : List Addr) : List Addr :=
  match c with
  | .un => [] | .dp _ => []
  | .tp d => if d.isM then A.drop 1 else A
  | .ln d => if d.isM then A.drop 1 else A
  | .fz _ => A
theorem pt_set {ρ : Pl} {i j : Nat} {c : Cell} : (ρ.set i c).pt j = if i = j ∧ i < ρ.length then c else ρ.pt j := by
  induction ρ generalizing i j with
  | nil => simp [List.pt]
  | cons x r ih =>
    cases i with
    | zero => cases j <;> simp [List.pt]
    | succ i => cases j with
      | zero => simp [List.pt]
      | succ j => simp only [List.set_cons_succ, List.pt, ih, List.length_cons, Nat.add_lt_add_iff_right, Nat.add_right_cancel_iff]
theorem pt_set_self {ρ : Pl} {i : Nat} {c : Cell} (h : i < ρ.length) : (ρ.set i c).pt i = c := by rw [pt_set, if_pos ⟨rfl, h⟩]
theorem pt_set_ne {ρ : Pl} {i j : Nat} {c : Cell} (h : i ≠ j) : (ρ.set i c).pt j = ρ.pt j := by rw [pt_set, if_neg (fun z => h z.1)]
theorem pt_lt {ρ : Pl} {i : Nat} (h : ρ.pt i ≠ .un) : i < ρ.length := by
  induction ρ generalizing i with
  | nil => simp [List.pt] at h
  | cons x r ih =>
    cases i with
    | zero => simp
    | succ i => simp only [List.pt] at h; simp only [List.length_cons]; have := ih h; omega

/-- the heap at the beginning; what may be read from outside -/
structure Base where
  h : Hp
  u : Addr → Prop
instance : CoeFun Base fun _ => Addr → Option HO := ⟨Base.h⟩
instance : Coe Base Hp := ⟨Base.h⟩
structure RL (K : PySem.W.Frag) (H0 : Base) (Z : List (Nat × Addr)) (ρ : Pl) (σ : L2.St) (H : Hp) (W : Nat → List Addr) : Prop where
  len : ρ.length = σ.length
  rep : ∀ i, (ρ.pt i).live = true → ∃ v, σ[i]? = some (some v) ∧ Rep K H v (ρ.pt i).d (W i)
  same : Same H0 H
  nd : ∀ i, ((ρ.pt i).own (W i)).Nodup
  dj : ∀ i j a, i ≠ j → a ∈ (ρ.pt i).own (W i) → a ∉ (ρ.pt j).own (W j)
  new : ∀ i a, a ∈ (ρ.pt i).own (W i) → H0 a = none
  sh : ∀ i j a, a ∈ (ρ.pt i).shr (W i) → a ∉ (ρ.pt j).own (W j)
  zs : ∀ p ∈ Z, (∃ d, ρ.pt p.1 = .ln d ∧ d.isM = true) ∧ σ[p.1]? = some (some (V.ref p.2)) ∧ H0 p.2 ≠ none
  zsh : ∀ i a, a ∈ (ρ.pt i).shr (W i) → a ∉ Z.map (·.2)
  zo : ∀ i d, ρ.pt i = .ln d → d.isM = true → ∃ a, (i, a) ∈ Z
  fu : ∀ a, H0 a = none → H0.u a
  inu : ∀ i a, a ∈ (ρ.pt i).shr (W i) → H0.u a

section
variable {K : PySem.W.Frag} {H0 : Base} {H H' H1 H2 : Hp} {Z : List (Nat × Addr)} {ρ ρ' ρ1 ρ2 : Pl} {σ : L2.St} {W : Nat → List Addr}
theorem RL.mono (r : RL K H0 Z ρ σ H W) (s : Same H H') : RL K H0 Z ρ σ H' W :=
  ⟨r.len, fun i h => let ⟨v, a, b⟩ := r.rep i h; ⟨v, a, b.same s⟩, r.same.trans s, r.nd, r.dj, r.new, r.sh, r.zs, r.zsh, r.zo, r.fu, r.inu⟩
theorem own_W {c : Cell} {A : List Addr} {a : Addr} (h : a ∈ c.own A) : a ∈ A ∧ c.live = true := by
  cases c <;> simp only [Cell.own] at h
  · cases h
  · cases h
  · cases h
  · split at h
    · exact ⟨List.mem_of_mem_take h, rfl⟩
    · cases h
  · exact ⟨h, rfl⟩
theorem shr_W {c : Cell} {A : List Addr} {a : Addr} (h : a ∈ c.shr A) : a ∈ A ∧ c.live = true := by
  cases c <;> simp only [Cell.shr] at h
  · cases h
  · exact ⟨h, rfl⟩
  · split at h
    · exact ⟨List.mem_of_mem_drop h, rfl⟩
    · exact ⟨h, rfl⟩
  · split at h
    · exact ⟨List.mem_of_mem_drop h, rfl⟩
    · exact ⟨h, rfl⟩
  · cases h
theorem RL.dom (r : RL K H0 Z ρ σ H W) {i : Nat} {a : Addr} (h : a ∈ W i ∧ (ρ.pt i).live = true) : ∃ o, H a = some o ∧ Mut o := by
  obtain ⟨v, _, p⟩ := r.rep i h.2
  exact p.dom a h.1

/-- a place is given up in part -/
inductive Dem : Cell → Cell → Prop where
  | refl (c : Cell) : Dem c c
  | un (c : Cell) (h : ∀ d, c ≠ .ln d) : Dem c .un
  | tpfz (d : D) : Dem (.tp d) (.fz d)
  | dpfz (d : D) : Dem (.dp d) (.fz d)
  | dptp (d : D) : Dem (.dp d) (.tp d)
theorem Dem.trans {a b c : Cell} (x : Dem a b) (y : Dem b c) : Dem a c := by
  cases x with
  | refl => exact y
  | un _ h => cases y with
    | refl => exact .un _ h
    | un => exact .un _ h
  | tpfz d => cases y with
    | refl => exact .tpfz d
    | un => exact .un _ (fun d z => by cases z)
  | dpfz d => cases y with
    | refl => exact .dpfz d
    | un => exact .un _ (fun d z => by cases z)
  | dptp d => cases y with
    | refl => exact .dptp d
    | un => exact .un _ (fun d z => by cases z)
    | tpfz => exact .dpfz d
structure DemE (ρ ρ' : Pl) : Prop where
  len : ρ'.length = ρ.length
  dem : ∀ i, Dem (ρ.pt i) (ρ'.pt i)
theorem DemE.refl : DemE ρ ρ := ⟨rfl, fun _ => .refl _⟩
theorem DemE.trans (a : DemE ρ ρ1) (b : DemE ρ1 ρ2) : DemE ρ ρ2 := ⟨b.len.trans a.len, fun i => (a.dem i).trans (b.dem i)⟩
theorem DemE.set {i : Nat} {c : Cell} (h : Dem (ρ.pt i) c) : DemE ρ (ρ.set i c) := ⟨List.length_set .., fun j => by
  rw [pt_set]
  split
  · rename_i z; rw [← z.1]; exact h
  · exact .refl _⟩
theorem Dem.own {c c' : Cell} (x : Dem c c') {A : List Addr} {a : Addr} (h : a ∈ c'.own A) : a ∈ c.own A := by
  cases x with
  | refl => exact h
  | un => cases h
  | tpfz => cases h
  | dpfz => cases h
  | dptp d =>
    simp only [Cell.own] at h ⊢
    split at h
    · exact List.mem_of_mem_take h
    · cases h
theorem Dem.shr {c c' : Cell} (x : Dem c c') {A : List Addr} {a : Addr} (h : a ∈ c'.shr A) : a ∈ c.own A ∨ a ∈ c.shr A := by
  cases x with
  | refl => exact .inr h
  | un => cases h
  | tpfz d =>
    simp only [Cell.own, Cell.shr] at h ⊢
    split
    · have : A = A.take 1 ++ A.drop 1 := (List.take_append_drop 1 A).symm
      rw [this] at h
      exact List.mem_append.mp h
    · exact .inr h
  | dpfz d => exact .inl h
  | dptp d => exact .inl (shr_W h).1
theorem Dem.live {c c' : Cell} (x : Dem c c') (h : c'.live = true) : c.live = true ∧ c'.d = c.d := by
  cases x with
  | refl => exact ⟨h, rfl⟩
  | un => cases h
  | tpfz => exact ⟨rfl, rfl⟩
  | dpfz => exact ⟨rfl, rfl⟩
  | dptp => exact ⟨rfl, rfl⟩
theorem Dem.ln {d : D} {c' : Cell} (x : Dem (.ln d) c') : c' = .ln d := by
  cases x with
  | refl => rfl
  | un _ h => exact absurd rfl (h d)
theorem Dem.disj {c c' : Cell} (x : Dem c c') {A : List Addr} (n : (c.own A).Nodup) (hs : ∀ a ∈ c.shr A, a ∉ c.own A) {a : Addr} (h : a ∈ c'.shr A) : a ∉ c'.own A := by
  cases x with
  | refl => exact hs a h
  | un => simp [Cell.own]
  | tpfz => simp [Cell.own]
  | dpfz => simp [Cell.own]
  | dptp d =>
    simp only [Cell.own, Cell.shr] at h n ⊢
    split at h
    · cases A with
      | nil => simp at h
      | cons y r =>
        simp only [List.drop_succ_cons, List.drop_zero, List.take_succ_cons, List.take_zero, List.nodup_cons, List.mem_cons, List.not_mem_nil, or_false] at h n ⊢
        intro z
        split at z
        · simp only [List.mem_cons, List.not_mem_nil, or_false] at z; subst z; exact n.1 h
        · rename_i q1 q2; exact q2 q1
    · rename_i q; simp [q]
theorem Dem.nd {c c' : Cell} (x : Dem c c') {A : List Addr} (n : (c.own A).Nodup) : (c'.own A).Nodup := by
  cases x with
  | refl => exact n
  | un => exact List.nodup_nil
  | tpfz => exact List.nodup_nil
  | dpfz => exact List.nodup_nil
  | dptp d =>
    simp only [Cell.own] at n ⊢
    split
    · exact n.sublist (List.take_sublist 1 A)
    · exact List.nodup_nil
theorem RL.zown (r : RL K H0 Z ρ σ H W) {i : Nat} {a : Addr} (h : a ∈ (ρ.pt i).own (W i)) : a ∉ Z.map (·.2) := fun z => by
  obtain ⟨p, hp, e⟩ := List.mem_map.mp z
  subst e
  exact (r.zs p hp).2.2 (r.new i _ h)
theorem RL.dem (r : RL K H0 Z ρ σ H W) (x : DemE ρ ρ') : RL K H0 Z ρ' σ H W where
  len := x.len.trans r.len
  rep := fun i h => by
    obtain ⟨a, b⟩ := (x.dem i).live h
    obtain ⟨v, e, p⟩ := r.rep i a
    exact ⟨v, e, by rw [b]; exact p⟩
  same := r.same
  nd := fun i => (x.dem i).nd (r.nd i)
  dj := fun i j a n h z => r.dj i j a n ((x.dem i).own h) ((x.dem j).own z)
  new := fun i a h => r.new i a ((x.dem i).own h)
  sh := fun i j a h => by
    by_cases e : i = j
    · subst e
      exact (x.dem i).disj (r.nd i) (fun a h => r.sh i i a h) h
    · intro z
      rcases (x.dem i).shr h with q | q
      · exact r.dj i j a e q ((x.dem j).own z)
      · exact r.sh i j a q ((x.dem j).own z)
  zs := fun p hp => by
    obtain ⟨⟨d, e, m⟩, q⟩ := r.zs p hp
    have := x.dem p.1
    rw [e] at this
    exact ⟨⟨d, this.ln, m⟩, q⟩
  zsh := fun i a h => by
    rcases (x.dem i).shr h with q | q
    · exact r.zown q
    · exact r.zsh i a q
  zo := fun i d e m => by
    have h := x.dem i
    rw [e] at h
    generalize hc : ρ.pt i = c at h
    cases h with
    | refl => exact r.zo i d hc m
  fu := r.fu
  inu := fun i a h => by
    rcases (x.dem i).shr h with q | q
    · exact r.fu a (r.new i a q)
    · exact r.inu i a q

/-! ### what is said of a result -/
structure Cl (H : Hp) (Z : List (Nat × Addr)) (ρ ρ' : Pl) (W : Nat → List Addr) (O S : List Addr) : Prop where
  nd : O.Nodup
  o : ∀ a ∈ O, (H a = none ∨ ∃ i, a ∈ (ρ.pt i).own (W i)) ∧ ∀ i, a ∉ (ρ'.pt i).own (W i) ∧ a ∉ (ρ'.pt i).shr (W i)
  s : ∀ a ∈ S, a ∉ O ∧ a ∉ Z.map (·.2) ∧ (H a = none ∨ ∃ i, a ∈ (ρ.pt i).own (W i) ∨ a ∈ (ρ.pt i).shr (W i)) ∧ ∀ i, a ∉ (ρ'.pt i).own (W i)
def lvC (l : Lv) (d : D) : Cell := match l with | .froz => .fz d | .top => .tp d | .deep => .dp d
def tl (d : D) (A : List Addr) : List Addr := if d.isM then A.drop 1 else A
def pO (m : Md) (l : Lv) (d : D) (A : List Addr) : List Addr :=
  match m with | .bor => [] | .kid => if isDeep l then tl d A else [] | .own => (lvC l d).own A
def pS (m : Md) (l : Lv) (d : D) (A : List Addr) : List Addr :=
  match m with | .bor => [] | .kid => if isDeep l then [] else tl d A | .own => (lvC l d).shr A
theorem tl_nil {d : D} : tl d [] = [] := by unfold tl; split <;> rfl
theorem own_nil {c : Cell} : c.own [] = [] := by cases c <;> simp [Cell.own]
theorem shr_nil {c : Cell} : c.shr [] = [] := by cases c <;> simp [Cell.shr]
theorem pO_nil {m : Md} {l : Lv} {d : D} : pO m l d [] = [] := by
  cases m <;> simp [pO, tl_nil, own_nil]
theorem pS_nil {m : Md} {l : Lv} {d : D} : pS m l d [] = [] := by
  cases m <;> simp [pS, tl_nil, shr_nil]
theorem pO_sub {m : Md} {l : Lv} {d : D} {A : List Addr} {a : Addr} (h : a ∈ pO m l d A) : a ∈ A := by
  cases m <;> simp only [pO] at h
  · cases h
  · split at h
    · unfold tl at h; split at h
      · exact List.mem_of_mem_drop h
      · exact h
    · cases h
  · exact (own_W h).1
theorem pS_sub {m : Md} {l : Lv} {d : D} {A : List Addr} {a : Addr} (h : a ∈ pS m l d A) : a ∈ A := by
  cases m <;> simp only [pS] at h
  · cases h
  · split at h
    · cases h
    · unfold tl at h; split at h
      · exact List.mem_of_mem_drop h
      · exact h
  · exact (shr_W h).1
theorem Cl.nil : Cl H Z ρ ρ' W [] [] := ⟨List.nodup_nil, fun a h => absurd h (List.not_mem_nil), fun a h => absurd h (List.not_mem_nil)⟩
structure Out (K : PySem.W.Frag) (Z : List (Nat × Addr)) (m : Md) (ρ : Pl) (H : Hp) (W : Nat → List Addr) (d : D) (l : Lv) (ρ' : Pl) (v : V) (H' : Hp) (A : List Addr) : Prop where
  rep : Rep K H' v d A
  same : Same H H'
  dem : DemE ρ ρ'
  cl : Cl H Z ρ ρ' W (pO m l d A) (pS m l d A)
theorem Out.scal {m : Md} {d : D} {l : Lv} {v : V} (r : Rep K H' v d []) (s : Same H H') : Out K Z m ρ H W d l ρ v H' [] :=
  ⟨r, s, .refl, by rw [pO_nil, pS_nil]; exact .nil⟩
theorem Out.immE {m : Md} {d : D} {l : Lv} {v : V} {A : List Addr} (r : Rep K H' v d A) (s : Same H H') (i : d.imm = true) : Out K Z m ρ H W d l ρ v H' A := by
  have := r.imm i
  subst this
  exact .scal r s
/-- one result behind another -/
theorem Cl.app {O1 S1 O2 S2 : List Addr} (c1 : Cl H Z ρ ρ1 W O1 S1) (c2 : Cl H1 Z ρ1 ρ2 W O2 S2) (d1 : DemE ρ ρ1) (d2 : DemE ρ1 ρ2) (s : Same H H1)
    (t1 : ∀ a ∈ O1 ++ S1, H1 a ≠ none) : Cl H Z ρ ρ2 W (O1 ++ O2) (S1 ++ S2) where
  nd := List.nodup_append.mpr ⟨c1.nd, c2.nd, fun a h1 b h2 e => by
    subst e
    rcases (c2.o a h2).1 with q | ⟨i, q⟩
    · exact t1 a (List.mem_append_left _ h1) q
    · exact ((c1.o a h1).2 i).1 q⟩
  o := fun a h => by
    rcases List.mem_append.mp h with h | h
    · refine ⟨(c1.o a h).1, fun i => ⟨fun z => ((c1.o a h).2 i).1 ((d2.dem i).own z), fun z => ?_⟩⟩
      rcases (d2.dem i).shr z with q | q
      · exact ((c1.o a h).2 i).1 q
      · exact ((c1.o a h).2 i).2 q
    · refine ⟨?_, (c2.o a h).2⟩
      rcases (c2.o a h).1 with q | ⟨i, q⟩
      · exact .inl (s.non q)
      · exact .inr ⟨i, (d1.dem i).own q⟩
  s := fun a h => by
    rcases List.mem_append.mp h with h | h
    · obtain ⟨h1, h2, h3, h4⟩ := c1.s a h
      refine ⟨fun z => ?_, h2, h3, fun i z => h4 i ((d2.dem i).own z)⟩
      rcases List.mem_append.mp z with z | z
      · exact h1 z
      · rcases (c2.o a z).1 with q | ⟨i, q⟩
        · exact t1 a (List.mem_append_right _ h) q
        · exact h4 i q
    · obtain ⟨h1, h2, h3, h4⟩ := c2.s a h
      refine ⟨fun z => ?_, h2, ?_, h4⟩
      · rcases List.mem_append.mp z with z | z
        · rcases h3 with q | ⟨i, q | q⟩
          · exact t1 a (List.mem_append_left _ z) q
          · exact ((c1.o a z).2 i).1 q
          · exact ((c1.o a z).2 i).2 q
        · exact h1 z
      · rcases h3 with q | ⟨i, q | q⟩
        · exact .inl (s.non q)
        · exact .inr ⟨i, .inl ((d1.dem i).own q)⟩
        · exact .inr ⟨i, (d1.dem i).shr q⟩
/-- the same places, less said -/
theorem Cl.less {O S O' S' : List Addr} (c : Cl H Z ρ ρ' W O S) (n : O'.Nodup) (ho : ∀ a ∈ O', a ∈ O) (hs : ∀ a ∈ S', a ∈ O ∨ a ∈ S) (hd : ∀ a ∈ S', a ∉ O') (hz : ∀ a ∈ O, a ∉ Z.map (·.2)) : Cl H Z ρ ρ' W O' S' where
  nd := n
  o := fun a h => c.o a (ho a h)
  s := fun a h => by
    rcases hs a h with q | q
    · refine ⟨hd a h, hz a q, ?_, fun i => ((c.o a q).2 i).1⟩
      rcases (c.o a q).1 with z | ⟨i, z⟩
      · exact .inl z
      · exact .inr ⟨i, .inl z⟩
    · exact ⟨hd a h, (c.s a q).2.1, (c.s a q).2.2.1, (c.s a q).2.2.2⟩
/-- a new object on top -/
theorem Cl.cons {O S : List Addr} {p : Addr} (c : Cl H Z ρ ρ' W O S) (r : RL K H0 Z ρ σ H W) (d : DemE ρ ρ') (s : Same H H1) (hp : H1 p = none) (t : ∀ a ∈ O ++ S, H1 a ≠ none) : Cl H Z ρ ρ' W (p :: O) S where
  nd := List.nodup_cons.mpr ⟨fun z => t p (List.mem_append_left _ z) hp, c.nd⟩
  o := fun a h => by
    rcases List.mem_cons.mp h with rfl | h
    · have hH : H a = none := s.non hp
      have nW : ∀ i, ¬ (a ∈ W i ∧ (ρ.pt i).live = true) := fun i z => by
        obtain ⟨o, e, _⟩ := r.dom z
        rw [hH] at e; cases e
      refine ⟨.inl hH, fun i => ⟨fun z => ?_, fun z => ?_⟩⟩
      · exact nW i (own_W ((d.dem i).own z))
      · rcases (d.dem i).shr z with q | q
        · exact nW i (own_W q)
        · exact nW i (shr_W q)
    · exact c.o a h
  s := fun a h => by
    obtain ⟨h1, h2⟩ := c.s a h
    refine ⟨fun z => ?_, h2⟩
    rcases List.mem_cons.mp z with rfl | z
    · exact t a (List.mem_append_right _ h) hp
    · exact h1 z
theorem Cl.oz {O S : List Addr} (c : Cl H Z ρ ρ' W O S) (r : RL K H0 Z ρ σ H W) : ∀ a ∈ O, a ∉ Z.map (·.2) := fun a h z => by
  rcases (c.o a h).1 with q | ⟨i, q⟩
  · obtain ⟨p, hp, e⟩ := List.mem_map.mp z
    subst e
    exact (r.zs p hp).2.2 (r.same.non q)
  · exact r.zown q z
end
end R

namespace R
open PySem PySem.Spec PyProof.Rows L2

/-! ### the check of a code against the text -/
structure Tab where
  N : List Str
  G : List Str
  B : List Str
  C : List (Str × D)
  F : List Bool := []
abbrev Nm := List (Str × NameKind)
def visB (nm : Nm) (x : Str) : Bool := match nm.lookup x with | some .local => true | some .cell => true | some .free => true | _ => false
def locB (nm : Nm) (x : Str) : Bool := match nm.lookup x with | some .local => true | some .cell => true | _ => false
def glB (nm : Nm) (x : Str) : Bool := match nm.lookup x with | some .globalImplicit => true | _ => false
def okV (t : Tab) (nm : Nm) (i : Nat) (e : Expr) : Bool :=
  match e with
  | .Name x _ => decide (t.N[i]? = some x) && visB nm x && !(x == ("__debug__" : Str)) && !(x == ("__classdict__" : Str))
  | _ => false
def okB (t : Tab) (nm : Nm) (b : Str) (e : Expr) : Bool :=
  match e with
  | .Name x _ => decide (x = b) && glB nm x && decide (x ∈ t.B)
  | _ => false
def Bop.op : Bop → Operator
  | .add => .Add | .sub => .Sub | .mul => .Mult | .fdiv => .FloorDiv | .fdivN => .FloorDiv | .mod => .Mod | .modN => .Mod | .pow => .Pow
  | .shl => .LShift | .shr => .RShift | .band => .BitAnd | .bor => .BitOr | .bxor => .BitXor
def Cop.op : Cop → CmpOp
  | .eq => .Eq | .ne => .NotEq | .lt => .Lt | .le => .LtE | .gt => .Gt | .ge => .GtE | .isin => .In | .nin => .NotIn | .is => .Is | .isnt => .IsNot
def Blt.name : Blt → String
  | .len => "len" | .abs => "abs" | .min => "min" | .max => "max" | .sum => "sum" | .int => "int" | .bool => "bool" | .str => "str" | .repr => "repr"
def Cpy.name : Cpy → String
  | .list => "list" | .sorted => "sorted" | .tuple => "tuple" | .set => "set" | .rev => "reversed" | .sortd => "sorted"
def Mth.name : Mth → String | .count => "count" | .index => "index"
def Ty.name : Ty → String
  | .int => "int" | .bool => "bool" | .str => "str" | .list => "list" | .tuple => "tuple" | .dict => "dict" | .set => "set"
def sEq : D → D → Bool
  | .int a, .int b => decide (a = b)
  | .str a, .str b => decide (a = b)
  | .bl a, .bl b => decide (a = b)
  | .non, .non => true
  | _, _ => false
theorem sEq_eq {a b : D} (h : sEq a b = true) : a = b := by
  cases a <;> cases b <;> first | rfl | (simp [sEq] at h; done) | (simp only [sEq, decide_eq_true_eq] at h; subst h; rfl)
def relN (scope : Scope) (nm : Nm) : Nm := scope.names.map fun (n, k) => if (k == .free && nm.lookup n == some .cell) then (n, .cell) else (n, k)
def okT1 (t : Tab) (nm : Nm) (fnB : Str → Bool) (i : Nat) (e : Expr) : Bool :=
  match e with
  | .Name x _ => decide (t.N[i]? = some x) && (match nm.lookup x with | some .local => true | some .cell => fnB x | _ => false)
  | _ => false
def okTgs (t : Tab) (nm : Nm) (fnB : Str → Bool) : List Nat → List Expr → Bool
  | [], [] => true
  | i :: is, e :: es => okT1 t nm fnB i e && okTgs t nm fnB is es
  | _, _ => false
def okTg (t : Tab) (nm : Nm) (fnB : Str → Bool) : Tg → Expr → Bool
  | .one i, e => okT1 t nm fnB i e
  | .many is, e => match e with | .Tuple es _ _ => okTgs t nm fnB is es | _ => false
def ownP (t : Tab) (own : List Nat) : List (Str × Nat) := own.map fun i => (t.N.getD i "", i)
def blkS (nm : Nm) : Scope := { kind := .function, names := nm, isGenerator := false, isCoroutine := false, more := [] }
def noIte : Ex → Bool | .ite .. => false | _ => true
mutual
def okE (t : Tab) (nm : Nm) : Ex → Expr → Bool
  | .nop, _ => false
  | .num i, e => match e with | .Constant (.int j) _ _ => i == j | _ => false
  | .bool i, e => match e with | .Constant (.bool j) _ _ => i == j | _ => false
  | .non, e => match e with | .Constant .none _ _ => true | _ => false
  | .str i, e => match e with | .Constant (.str j) _ _ => decide (i = j) | _ => false
  | .con x d, e => match e with | .Name y _ => decide (x = y) && glB nm y && !(y == ("__debug__" : Str)) && (t.C.any fun p => decide (p.1 = x) && sEq p.2 d) | _ => false
  | .var i, e => okV t nm i e
  | .take i, e => okV t nm i e
  | .bin op a b, e => match e with | .BinOp ea o eb _ => decide (op.op = o) && okE t nm a ea && okE t nm b eb | _ => false
  | .neg a, e => match e with | .UnaryOp .USub ea _ => okE t nm a ea | _ => false
  | .cmp op a b, e => match e with | .Compare ea [o] [eb] _ => decide (op.op = o) && okE t nm a ea && okE t nm b eb | _ => false
  | .chn op op' a b c, e => match e with | .Compare ea [o, o'] [eb, ec] _ => decide (op.op = o) && decide (op'.op = o') && okE t nm a ea && okE t nm b eb && okE t nm c ec | _ => false
  | .not a, e => match e with | .UnaryOp .Not ea _ => noIte a && okE t nm a ea | _ => false
  | .and a b, e => match e with | .BoolOp .And (ea :: eb :: r) pos => (noIte a && okE t nm a ea) && okE t nm b (.BoolOp .And (eb :: r) pos) | _ => false
  | .or a b, e => match e with | .BoolOp .Or (ea :: eb :: r) pos => (noIte a && okE t nm a ea) && okE t nm b (.BoolOp .Or (eb :: r) pos) | _ => false
  | .one a, e => match e with | .BoolOp _ [ea] _ => noIte a && okE t nm a ea | _ => false
  | .ite c a b, e => match e with | .IfExp ec ea eb _ => (noIte c && okE t nm c ec) && okE t nm a ea && okE t nm b eb | _ => false
  | .lst es, e => match e with | .List l _ => okEs t nm es l | _ => false
  | .tup es, e => match e with | .Tuple l _ _ => okEs t nm es l | _ => false
  | .ix a i, e => match e with | .Subscript ea ei _ => okE t nm a ea && okE t nm i ei | _ => false
  | .slc a lo hi, e => match e with | .Subscript ea (.Slice l h none _) _ => okE t nm a ea && (match l with | none => lo.isNop | some l => okE t nm lo l) && (match h with | none => hi.isNop | some h => okE t nm hi h) | _ => false
  | .mn2 a b, e => match e with | .Call n [ea, eb] [] _ => okB t nm "min" n && okE t nm a ea && okE t nm b eb | _ => false
  | .mn a, e => match e with | .Call n [ea] [] _ => okB t nm "min" n && okE t nm a ea | _ => false
  | .cat a b, e => match e with | .BinOp ea .Add eb _ => okE t nm a ea && okE t nm b eb | _ => false
  | .call g es, e => match e with | .Call (.Name x _) l [] _ => decide (t.G[g]? = some x) && !(t.F.getD g false) && glB nm x && !(x == ("__debug__" : Str)) && okEs t nm es l | _ => false
  | .callF g es, e => match e with | .Call (.Name x _) l [] _ => decide (t.G[g]? = some x) && t.F.getD g false && glB nm x && !(x == ("__debug__" : Str)) && okEs t nm es l | _ => false
  | .blt f es, e => match e with | .Call n l [] _ => okB t nm f.name n && okEs t nm es l && !l.isEmpty | _ => false
  | .cpy f a, e => match f, e with
    | .rev, .Subscript ea (.Slice none none (some (.UnaryOp .USub (.Constant (.int 1) _ _) _)) _) _ => okE t nm a ea
    | .rev, _ => false
    | f, .Call n [ea] [] _ => okB t nm f.name n && okE t nm a ea
    | _, _ => false
  | .lrg a b, e => match e with
    | .Call n [.Call n' [ea, eb] [] _] [] _ => okB t nm "list" n && okB t nm "range" n' && okE t nm a ea && okE t nm b eb
    | .Call n [.Call n' [eb] [] _] [] _ => okB t nm "list" n && okB t nm "range" n' && (match a with | .num 0 => true | _ => false) && okE t nm b eb
    | _ => false
  | .fz f a, e => match f, e with
    | .sset, .Call n [.Call n' [ea] [] _] [] _ => okB t nm "sorted" n && okB t nm "set" n' && okE t nm a ea
    | .lset, .Call n [.Call n' [ea] [] _] [] _ => okB t nm "len" n && okB t nm "set" n' && okE t nm a ea
    | .setof, .Call n [ea] [] _ => okB t nm "set" n && okE t nm a ea
    | _, _ => false
  | .mth f i c, e => match e with | .Call (.Attribute ex m ap) [e] [] cp => okV t nm i ex && (m == Str.ofString f.name) && okE t nm c e && (ap.endLine == cp.line) | _ => false
  | .dct, e => match e with | .Dict [] [] _ => true | _ => false
  | .get i k d, e => match e with | .Call (.Attribute ex m ap) [ek, ed] [] cp => okV t nm i ex && (m == ("get" : Str)) && okE t nm k ek && okE t nm d ed && (ap.endLine == cp.line) | _ => false
  | .isi a y, e => match e with | .Call n [ea, n'] [] _ => okB t nm "isinstance" n && okE t nm a ea && okB t nm y.name n' | _ => false
  | .lc own elt tg it cs, e => match e with
    | .ListComp ee [⟨et, ei, ifs, 0⟩] scope _ => okI t nm it ei && blkC t.N (blkS nm) scope (ownP t own) && okTg t (relN scope nm) (fun x => scope.names.lookup x == some .cell) tg et && okCs t (relN scope nm) cs ifs && okE t (relN scope nm) elt ee && (match tg with | .one i => own.contains i | .many is => is.all own.contains)
    | _ => false
  | .sel own i a cs, e => match e with
    | .ListComp ee [⟨et, ei, ifs, 0⟩] scope _ => okE t nm a ei && blkC t.N (blkS nm) scope (ownP t own) && okTg t (relN scope nm) (fun x => scope.names.lookup x == some .cell) (.one i) et && okCs t (relN scope nm) cs ifs && okV t (relN scope nm) i ee && own.contains i
    | _ => false
  | .dsel own i v ge n, e => match e with
    | .ListComp ee [⟨et, ei, [.Compare (.Subscript ec ek _) [o] [.Constant (.int j) _ _] _], 0⟩] scope _ => okV t nm v ei && blkC t.N (blkS nm) scope (ownP t own) && okTg t (relN scope nm) (fun x => scope.names.lookup x == some .cell) (.one i) et &&
        okV t (relN scope nm) v ec && okV t (relN scope nm) i ek && decide ((if ge = true then CmpOp.GtE else CmpOp.Gt) = o) && decide (j = n) && okV t (relN scope nm) i ee && own.contains i && !own.contains v
    | _ => false
  | .lc2 own own1 elt tg it cs tg1 it1 cs1, e => match e with
    | .ListComp ee [⟨et, ei, ifs, 0⟩, ⟨et1, ei1, ifs1, 0⟩] scope _ => okI t nm it ei && blkC t.N (blkS nm) scope (ownP t own) && okTg t (relN scope nm) (fun x => scope.names.lookup x == some .cell) tg et && okCs t (relN scope nm) cs ifs &&
        okI t (relN scope nm) it1 ei1 && okTg t (relN scope nm) (fun x => scope.names.lookup x == some .cell) tg1 et1 && okCs t (relN scope nm) cs1 ifs1 && okE t (relN scope nm) elt ee && tg.slots.all own.contains && tg1.slots.all own1.contains && own1.all own.contains
    | _ => false
def okEs (t : Tab) (nm : Nm) : Exs → List Expr → Bool
  | .nil, l => l.isEmpty
  | .cons e es, l => match l with | ee :: r => okE t nm e ee && okEs t nm es r | [] => false
def okCs (t : Tab) (nm : Nm) : Exs → List Expr → Bool
  | .nil, l => l.isEmpty
  | .cons e es, l => match l with | ee :: r => noIte e && okE t nm e ee && okCs t nm es r | [] => false
def okI (t : Tab) (nm : Nm) : Rg → Expr → Bool
  | .rng1 b, e => match e with | .Call n [eb] [] _ => okB t nm "range" n && okE t nm b eb | _ => false
  | .rng2 a b, e => match e with | .Call n [ea, eb] [] _ => okB t nm "range" n && okE t nm a ea && okE t nm b eb | _ => false
  | .rng3 a b c, e => match e with | .Call n [ea, eb, ec] [] _ => okB t nm "range" n && okE t nm a ea && okE t nm b eb && okE t nm c ec | _ => false
  | .col a, e => okE t nm a e
  | .rev a, e => match e with | .Call n [ea] [] _ => okB t nm "reversed" n && okE t nm a ea | _ => false
end

/-- an expression's form that some rules look at -/
def odd : Expr → Bool
  | .Starred .. => true | .Set .. => true | .Slice .. => true | .SetComp .. => true | .DictComp .. => true | .NamedExpr .. => true | .GeneratorExp .. => true | _ => false
theorem okV_odd {t : Tab} {nm : Nm} {i : Nat} {e : Expr} (h : okV t nm i e = true) : odd e = false := by cases e <;> first | rfl | (simp [okV] at h)
theorem okE_odd {t : Tab} {nm : Nm} (c : Ex) {e : Expr} (h : okE t nm c e = true) : odd e = false := by
  cases e <;> first | rfl | (cases c <;> first | (simp [okE, okV] at h; done) | (rename_i f _; cases f <;> simp [okE] at h))
end R

namespace R
open PySem PySem.Spec PyProof.Rows L2

/-! ### what a def promises where no repr is under way -/
structure FnG (P : Program) (w : World) (K : PySem.W.Frag) (mg : Str → Option Value) (base : Heap) (k : Nat) (f : Addr) (fd : FuncData) (ps : List Str) (sp : Sp) : Prop where
  len : ∀ xs G Z Y, sp xs G Z Y → xs.length = ps.length
  run : ∀ (B : Around) (es : List Env) (t : Shared) (G : Hp) (ag : Args) (ys : List Value) (xs : List V) (Z : VK) (Y : XK), B.guards = some [] → Room k B → Env0 P w K mg base B es t G → BindsTo t fd ag (ps.zip ys) → Vals xs ys → sp xs G Z Y →
    codeAny (model P w) B (.call (.ref f) ag) (CR CX0 es P w G t Z Y) t
theorem FnG.mono {P : Program} {w : World} {K : PySem.W.Frag} {mg : Str → Option Value} {base : Heap} {i k : Nat} {f : Addr} {fd : FuncData} {ps : List Str} {sp : Sp} (F : FnG P w K mg base i f fd ps sp) (h : i ≤ k) : FnG P w K mg base k f fd ps sp :=
  ⟨F.len, fun B es t G ag ys xs Z Y gd rm => F.run B es t G ag ys xs Z Y gd (rm.mono h)⟩
section
variable {X : Cx} {k : Nat} {f : Addr} {fd : FuncData} {ps : List Str} {sp : Sp}
theorem FnG.go (F : FnG X.prog X.w X.K X.mg X.base k f fd ps sp) (gd : X.A.guards = some []) (rm : Room k X.A) (bd : Binds X.K fd ps []) {pins : List (Addr × Obj)} {τ : L2.St} {G : Hp} {t : Shared} {Z : VK} {ys : List Value} {xs : List V}
    (I : Inv X pins τ G t) (r : Vals xs ys) (h : sp xs G Z E0) : wpAny (model X.prog X.w) X.A (call (.ref f) ys) (EP X pins τ Z) X.xe t := by
  have l : (ys ++ []).length = ps.length := by rw [List.append_nil, ← r.length]; exact F.len _ _ _ _ h
  have b := bd t ys I.kIn l
  rw [List.append_nil] at b
  refine wpAny_call (codeAny_mono (F.run X.A X.stack t G ⟨ys, []⟩ ys xs Z E0 gd rm I.env0 b r h) fun out t' z => ?_)
  match out, z with
  | .error _, z => exact z.elim
  | .ok (.ret _), z => exact I.after z
  | .ok .next, z => exact z.elim
  | .ok .brk, z => exact z.elim
  | .ok .cont, z => exact z.elim
/-- a call by its name: what it reads -/
def tG (sp : Sp) (t : TA) : TE := fun τ G Z => t τ G fun xs G1 => sp xs G1 Z E0
variable {x : Str} {p pos : Pos} {e : Expr} {es : List Expr} {t : TA}
theorem peG (F : FnG X.prog X.w X.K X.mg X.base k f fd ps sp) (gd : X.A.guards = some []) (rm : Room k X.A) (gx : Gl X x) (nm : X.mg x = some (.ref f)) (kp : PySem.W.keepIn X.K (.ref f) = true) (bd : Binds X.K fd ps []) (args : PA X (e :: es) t)
    (nd : (x == ("__debug__" : Str)) = false) (st : starEach (e :: es) X.env = (false, eval e X.env) :: starEach es X.env) (pl : (backTo pos (starEach es X.env)).any (·.1) = false) : PE X (.Call (.Name x p) (e :: es) [] pos) (tG sp t) :=
  ⟨fun pins t0 τ G Z I h => wpAny_Call_Name_kw (ld_glob I gx nm (PySem.W.callWith_K (h₀ := X.base) I.ok.mod.kin kp (thn (args.run pos pins t0 τ G _ I h) fun ys t1 q => by
    obtain ⟨xs, G1, J, vs, z⟩ := q
    exact ⟨J.kIn, F.go gd rm bd J vs z⟩) st pl) nd)⟩
theorem peG0 (F : FnG X.prog X.w X.K X.mg X.base k f fd ps sp) (gd : X.A.guards = some []) (rm : Room k X.A) (gx : Gl X x) (nm : X.mg x = some (.ref f)) (kp : PySem.W.keepIn X.K (.ref f) = true) (bd : Binds X.K fd ps [])
    (nd : (x == ("__debug__" : Str)) = false) : PE X (.Call (.Name x p) [] [] pos) (tG sp tNil) :=
  ⟨fun pins t0 τ G Z I h => wpAny_Call_Name_kw (ld_glob I gx nm (PySem.W.callWith_K0 I.kIn kp (F.go (ys := []) gd rm bd I .nil h)) nd)⟩
end
section
variable {P : Program} {w : World} {K : PySem.W.Frag} {mg : Str → Option Value} {base : Heap}
/-- a def, from its body -/
theorem FnG.of {x qual : Str} {st : Stmt} {f : Addr} {fd : FuncData} {N ps : List Str} {k : Nat} {sp : Sp} (F : Fun K x qual st f fd) (S : FnScope N ps (defScope st)) (len : ∀ xs G Z Y, sp xs G Z Y → xs.length = ps.length)
    (bdy : ∀ (code : Value) (B : Around) (es : List Env) (t : Shared) (G : Hp) (xs : List V) (Z : VK) (Y : XK), B.guards = some [] → Room k (B.deeper (envOfC qual (defScope st) t.heap.objs.size f code)) → sp xs G Z Y →
      ∃ c, PSs (cxOf CX0 P w K mg base N qual (defScope st) f code B es t G Y).nox (defBody st) c ∧ c { nx := fun _ G' => Z .non G', rt := Z } (L2.start N xs) G) : FnG P w K mg base (k + 1) f fd ps sp := by
  obtain ⟨c0, d0, kv, dv, pv, an, code, ct, sl, rfl, look, isCode⟩ := F.ex
  refine ⟨len, fun B es t G ag ys xs Z Y gd rm e0 bind vals z => ?_⟩
  have inK : K.In t.heap := e0.mod.kin.keeps fun b o q => (e0.bs b o q).1
  have noL : t.heap.NoLimit := e0.mod.nolimit.keeps fun b o q => (e0.bs b o q).1
  have kinds : ∀ y ∈ ps.zip ys, (defScope st).names.lookup y.1 = some .local ∨ ((defScope st).names.lookup y.1 = some .cell ∧ ((cellsFrom (t.heap.objs.size + 1) (defScope st).names []).lookup y.1).isSome = true) := by
    rintro ⟨a, v⟩ m
    have q := S.par a (List.of_mem_zip m).1
    exact q.imp id fun c => ⟨c, PySem.W.cellsFrom_some _ _ _ (.inl c)⟩
  refine codeAny_call_function rm.depth (inK _ _ look) rfl S.co S.gen rfl (PySem.W.codeRec_of inK isCode) (bind _ _ _ _ (wpAny_newFunctionEnv_cells S.kind kinds fun env eqE t1 ic => ?_))
  subst eqE
  refine ⟨noL.keeps ic.toInCall.keep, codeAny_func ?_⟩
  obtain ⟨c, hc, hz⟩ := bdy code B es t G xs Z Y gd (rm.deeper _) z
  have J := inv_start (CX := CX0) (P := P) (w := w) (mg := mg) (base := base) (E := Y) S rm.hd e0 (len _ _ _ _ z) vals ic
  refine wpAny_mono (hc.nox.run [] t1 (L2.start N xs) G _ J hz) (fun flow t' q => ?_) fun _ _ q => q
  match flow, q with
  | .ret u, ⟨v, τ, G', J', rv, q⟩ => exact ⟨v, G', J'.os, J'.bare, J'.base, J'.hok, rv, q⟩
  | .next, ⟨τ, G', J', q⟩ => exact ⟨V.non, G', J'.os, J'.bare, J'.base, J'.hok, rfl, q⟩
  | .brk, ⟨_, _, _, q⟩ => exact q.elim
  | .cont, ⟨_, _, _, q⟩ => exact q.elim
end

/-! ### the weakest readings -/
section
variable (X : Cx)
def SE (e : Expr) : TE := fun σ H Q => ∀ (pins : List (Addr × Obj)) (s : Shared), Inv X pins σ H s → wpAny (model X.prog X.w) X.A (eval e X.env) (EP X pins σ Q) X.xe s
def ST (e : Expr) : TT := fun σ H Q => ∀ (pins : List (Addr × Obj)) (s : Shared), Inv X pins σ H s → wpAny (model X.prog X.w) X.A (isTrue e X.env (eval e X.env)) (TP X pins σ Q) X.xe s
def SW (e : Expr) : TT := fun σ H Q => ∀ (whole : Sem Value) (pins : List (Addr × Obj)) (s : Shared), Inv X pins σ H s → wpAny (model X.prog X.w) X.A (isTrue e X.env whole) (TP X pins σ Q) X.xe s
def SA (es : List Expr) : TA := fun σ H Q => ∀ (pos : Pos) (pins : List (Addr × Obj)) (s : Shared), Inv X pins σ H s → wpAny (model X.prog X.w) X.A (spliced (backTo pos (starEach es X.env))) (AP X pins σ Q) X.xe s
def SS (st : Stmt) : TS := fun D σ H => ∀ (pins : List (Addr × Obj)) (s : Shared), Inv X pins σ H s → wpAny (model X.prog X.w) X.A (exec st X.env) (SP X pins D) X.xe s
def SSs (st : List Stmt) : TS := fun D σ H => ∀ (pins : List (Addr × Obj)) (s : Shared), Inv X pins σ H s → wpAny (model X.prog X.w) X.A (execs st X.env) (SP X pins D) X.xe s
def SG (e : Expr) : TG := fun v σ H Q => ∀ (pins : List (Addr × Obj)) (s : Shared) (u : Value), Inv X pins σ H s → RelV v u → wpAny (model X.prog X.w) X.A (assign e X.env u) (fun _ s' => ∃ σ' H', Inv X pins σ' H' s' ∧ Q σ' H') X.xe s
def STs (ifs : List Expr) : TT := fun σ H Q => ∀ (pins : List (Addr × Obj)) (s : Shared), Inv X pins σ H s →
    wpAny (model X.prog X.w) X.A (forIn ifs true fun c r => if r = true then do let ok ← isTrue c X.env (eval c X.env); pure (ForInStep.yield ok) else pure (ForInStep.yield r)) (TP X pins σ Q) X.xe s
def SI (tg iter : Expr) : TI := fun σ H R => ∀ (pins : List (Addr × Obj)) (s : Shared), Inv X pins σ H s →
    wpAny (model X.prog X.w) X.A (eval iter X.env) (fun v s1 => wpAny (model X.prog X.w) X.A (pyIter v) (PIE X pins σ tg R) X.xe s1) X.xe s
end
section
variable {X : Cx} {e : Expr} {es : List Expr} {σ : L2.St} {H : Hp}
theorem peS : PE X e (SE X e) := ⟨fun pins s σ H Q I h => h pins s I⟩
theorem ptS : PT X e (ST X e) := ⟨fun pins s σ H Q I h => h pins s I⟩
theorem pwS : PW X e (SW X e) := ⟨fun whole pins s σ H Q I h => h whole pins s I⟩
theorem paS : PA X es (SA X es) := ⟨fun pos pins s σ H Q I h => h pos pins s I⟩
theorem psS {st : Stmt} : PS X st (SS X st) := ⟨fun pins s σ H Q I h => h pins s I⟩
theorem pssS {st : List Stmt} : PSs X st (SSs X st) := ⟨fun pins s σ H Q I h => h pins s I⟩
theorem pgS : PG X e (SG X e) := ⟨fun pins s σ H v u Q I r h => h pins s u I r⟩
theorem ptsS : PTs X es (STs X es) := ⟨fun pins s σ H Q I h => h pins s I⟩
theorem piS {tg : Expr} : PI X tg e (SI X tg e) := ⟨fun pins s σ H R I h => h pins s I⟩
theorem seOf {t : TE} {Q : VK} (p : PE X e t) (h : t σ H Q) : SE X e σ H Q := fun pins s I => p.run pins s σ H Q I h
theorem stOf {t : TT} {Q : Bool → Hp → Prop} (p : PT X e t) (h : t σ H Q) : ST X e σ H Q := fun pins s I => p.run pins s σ H Q I h
theorem swOf {t : TT} {Q : Bool → Hp → Prop} (p : PW X e t) (h : t σ H Q) : SW X e σ H Q := fun whole pins s I => p.run whole pins s σ H Q I h
theorem saOf {t : TA} {Q : List V → Hp → Prop} (p : PA X es t) (h : t σ H Q) : SA X es σ H Q := fun pos pins s I => p.run pos pins s σ H Q I h
theorem ssOf {st : Stmt} {t : TS} {D : Ends} (p : PS X st t) (h : t D σ H) : SS X st D σ H := fun pins s I => p.run pins s σ H D I h
theorem sssOf {st : List Stmt} {t : TS} {D : Ends} (p : PSs X st t) (h : t D σ H) : SSs X st D σ H := fun pins s I => p.run pins s σ H D I h
theorem sgOf {t : TG} {v : V} {Q : L2.St → Hp → Prop} (p : PG X e t) (h : t v σ H Q) : SG X e v σ H Q := fun pins s u I r => p.run pins s σ H v u Q I r h
theorem stsOf {t : TT} {Q : Bool → Hp → Prop} (p : PTs X es t) (h : t σ H Q) : STs X es σ H Q := fun pins s I => p.run pins s σ H Q I h
theorem siOf {tg : Expr} {t : TI} {R : L2.It → Hp → Prop} (p : PI X tg e t) (h : t σ H R) : SI X tg e σ H R := fun pins s I => p.run pins s σ H R I h
/-- the heap's own bounds at hand -/
theorem SE.mono {Q Q' : VK} (h : SE X e σ H Q) (q : ∀ v H, Q v H → Q' v H) : SE X e σ H Q' := fun pins s I =>
  thn (h pins s I) fun u s1 ⟨v, H1, I1, r, z⟩ => ⟨v, H1, I1, r, q _ _ z⟩
end

/-! ### the context -/
def spOf (K : PySem.W.Frag) (n : Nat) (sp : SpD) : Sp := fun vs H Q _ => vs.length = n ∧ ∃ (ds : List D) (As : List Addr) (Kk : D → Prop), Reps K H vs ds As ∧ sp ds Kk ∧
  ∀ d, Kk d → ∀ v H' A, Same H H' → Rep K H' v d A → A.Nodup → (∀ a ∈ A, H a = none) → Q v H'
/-- a def whose value may share its parts with the arguments -/
def spOfS (K : PySem.W.Frag) (n : Nat) (sp : SpD) : Sp := fun vs H Q _ => vs.length = n ∧ ∃ (ds : List D) (As : List Addr) (Kk : D → Prop), Reps K H vs ds As ∧ sp ds Kk ∧
  ∀ d, Kk d → ∀ v H' A, Same H H' → Rep K H' v d A → (∀ a ∈ A, H a = none ∨ a ∈ As) → Q v H'
def spW (sh : Bool) (K : PySem.W.Frag) (n : Nat) (sp : SpD) : Sp := match sh with | false => spOf K n sp | true => spOfS K n sp
def CallOk (X : Cx) (sh : Bool) (x : Str) (sp : SpD) : Prop :=
  ∃ (f : Addr) (fd : FuncData) (ps : List Str) (k : Nat), FnG X.prog X.w X.K X.mg X.base k f fd ps (spW sh X.K ps.length sp) ∧ Room k X.A ∧ X.mg x = some (.ref f) ∧ PySem.W.keepIn X.K (.ref f) = true ∧ Binds X.K fd ps [] ∧ ∀ ds Kk, sp ds Kk → ds.length = ps.length
structure Good (X : Cx) (t : Tab) (nm : Nm) (fnB : Str → Bool) (Γ : List SpD) : Prop where
  N : X.N = t.N
  calm : X.calm = true
  nd : X.N.Nodup
  nm : X.env.scope.names = nm
  kind : X.env.scope.kind = .function
  fn : ∀ x, fnB x = true → X.fn x = true
  room : Room 0 X.A
  gd : X.A.guards = some []
  call : ∀ (g : Nat) (x : Str), t.G[g]? = some x → CallOk X (t.F.getD g false) x (Γ.getD g fun _ _ => False)
  blt : ∀ x ∈ t.B, X.mg x = none
  con : ∀ p ∈ t.C, ∃ u v, X.mg p.1 = some u ∧ RelV v u ∧ p.2.imm = true ∧ ∀ H, Rep X.K H v p.2 []
  pass : PassesOwn (model X.prog X.w) X.A X.env X.xe

section
variable {X : Cx} {t : Tab} {nm : Nm} {fnB : Str → Bool} {Γ : List SpD}
theorem Good.vis (g : Good X t nm fnB Γ) {x : Str} (h : visB nm x = true) : Vis X.env.scope x := by
  unfold visB at h
  unfold Vis
  rw [g.nm]
  split at h <;> simp_all
theorem Good.gl (g : Good X t nm fnB Γ) {x : Str} (h : glB nm x = true) : Gl X x := by
  unfold glB at h
  unfold Gl Env.kindOf
  rw [g.nm]
  split at h <;> simp_all
theorem star1 {e : Expr} {es : List Expr} {env : PySem.Env} (h : odd e = false) : starEach (e :: es) env = (false, eval e env) :: starEach es env := by
  cases e <;> first | rfl | (simp [odd] at h)
theorem plainIx {e : Expr} (h : odd e = false) : PlainIx e := by
  cases e <;> first | (intro o i; rfl) | (simp [odd] at h)
theorem noBehind {op : CmpOp} {e : Expr} (h : odd e = false) : behindInMarks op e = false := by
  cases e <;> first | rfl | (simp [odd] at h)
theorem noFold {e : Expr} {env : PySem.Env} (h : odd e = false) : ∀ x, foldedSetIterable e env x = pure x := by
  intro x
  cases e <;> first | rfl | (simp [odd] at h)
theorem okEs_star {t : Tab} {nm : Nm} : ∀ (c : Exs) {es : List Expr} {env : PySem.Env}, okEs t nm c es = true → starEach es env = es.map fun e => (false, eval e env)
  | .nil, es, env, h => by
    simp only [okEs, List.isEmpty_iff] at h
    subst h; rfl
  | .cons c cs, es, env, h => by
    cases es with
    | nil => simp [okEs] at h
    | cons e r =>
      simp only [okEs, Bool.and_eq_true] at h
      rw [star1 (okE_odd c h.1), okEs_star cs h.2]; rfl
theorem backTo_any {pos : Pos} {env : PySem.Env} (es : List Expr) : (backTo pos (es.map fun e => (false, eval e env))).any (·.1) = false := by
  unfold backTo
  cases es with
  | nil => rfl
  | cons a r =>
    cases r with
    | nil => simp
    | cons b r => simp
end
end R

namespace R
open PySem PySem.Spec PyProof.Rows L2

/-! ### operators over plain data -/
section
variable {X : Cx} {K : PySem.W.Frag} {H : Hp}
theorem OpR.or {f : Value → Value → Sem Value} {r r' : R2} (h : OpR X f r) (h' : OpR X f r') : OpR X f (fun x y H Q => r x y H Q ∨ r' x y H Q) := by
  intro pins s σ H x y v u Q I rx ry q
  rcases q with q | q
  · exact h pins s σ H x y v u Q I rx ry q
  · exact h' pins s σ H x y v u Q I rx ry q
/-- by plain data -/
def rD (K : PySem.W.Frag) (p : D → D → (D → Prop) → Prop) : R2 := fun x y H Q => ∃ d e A B Kk, Rep K H x d A ∧ Rep K H y e B ∧ p d e Kk ∧ ∀ z v H' C, Kk z → Same H H' → Rep K H' v z C → (C = [] ∨ ∃ r, C = [r] ∧ H r = none) → Q v H'
theorem Rep.int_inv {v : V} {i : Int} {A : List Addr} (r : Rep K H v (.int i) A) : v = .int i ∧ A = [] := by cases r; exact ⟨rfl, rfl⟩
theorem Rep.bl_inv {v : V} {i : Bool} {A : List Addr} (r : Rep K H v (.bl i) A) : v = .bl i ∧ A = [] := by cases r; exact ⟨rfl, rfl⟩
theorem Rep.str_inv {v : V} {i : Str} {A : List Addr} (r : Rep K H v (.str i) A) : v = .str i ∧ A = [] := by cases r; exact ⟨rfl, rfl⟩
theorem Rep.non_inv {v : V} {A : List Addr} (r : Rep K H v .non A) : v = .non ∧ A = [] := by cases r; exact ⟨rfl, rfl⟩
theorem Rep.lst_inv {v : V} {ds : List D} {A : List Addr} (r : Rep K H v (.lst ds) A) : ∃ a vs B, v = .ref a ∧ A = a :: B ∧ H a = some (.lst vs) ∧ Reps K H vs ds B := by
  cases r with
  | lst e r => exact ⟨_, _, _, rfl, rfl, e, r⟩
theorem Rep.tup_inv {v : V} {ds : List D} {A : List Addr} (r : Rep K H v (.tup ds) A) : ∃ a vs, v = .ref a ∧ H a = some (.tup vs) ∧ Reps K H vs ds A := by
  cases r with
  | tup e r => exact ⟨_, _, rfl, e, r⟩
theorem Rep.fro_inv {v : V} {ds : List D} {A : List Addr} (r : Rep K H v (.fro ds) A) : ∃ a vs, v = .ref a ∧ A = [] ∧ SqL K H a vs ∧ Reps K H vs ds [] := by
  cases r with
  | fro e r => exact ⟨_, _, rfl, rfl, .inl (.inr ⟨_, e⟩), r⟩
  | froK e r => exact ⟨_, _, rfl, rfl, e _, r⟩
theorem Sm.mulW {a b : Int} (ha : Sm a) (hb : Sm b) : CMulW a b := wide_mul (a := 400000) (b := 400000) ha hb (by decide) (by decide) (by decide)
theorem SmD.divW {a b : Int} (h : 0 < b) (hb : SmD b) : CDivW a b := ⟨h, Nat.lt_of_lt_of_le (PySem.Flt.log2_lt_of (by decide) hb) (by decide)⟩
theorem Reps.replicate {vs : List V} {ds : List D} (r : Reps K H vs ds []) : ∀ n : Nat, Reps K H (List.replicate n vs).flatten (List.replicate n ds).flatten []
  | 0 => .nil
  | n + 1 => by
    rw [List.replicate_succ, List.replicate_succ, List.flatten_cons, List.flatten_cons]
    exact Reps.append r (Reps.replicate r n)
theorem rI_D {C : Int → Int → Prop} {g : Int → Int → Int} {p : D → D → (D → Prop) → Prop} {f : Value → Value → Sem Value} (h : OpR X f (rI C fun i j => .int (g i j)))
    (hp : ∀ d e Kk, p d e Kk → ∃ i j, d = .int i ∧ e = .int j ∧ C i j ∧ Kk (.int (g i j))) : OpR X f (rD X.K p) := by
  intro pins s σ H x y v u Q I rx ry q
  obtain ⟨d, e, A, B, Kk, r1, r2, q, fin⟩ := q
  obtain ⟨i, j, rfl, rfl, c, k⟩ := hp d e Kk q
  obtain ⟨rfl, rfl⟩ := r1.int_inv
  obtain ⟨rfl, rfl⟩ := r2.int_inv
  exact h pins s σ H _ _ v u Q I rx ry ⟨i, j, rfl, rfl, c, fin _ _ _ _ k Same.refl (.int _) (.inl rfl)⟩
theorem rI0_D {g : Int → Int → Int} {p : D → D → (D → Prop) → Prop} {f : Value → Value → Sem Value} (h : OpR X f (rI0 fun i j => .int (g i j)))
    (hp : ∀ d e Kk, p d e Kk → ∃ i j, d = .int i ∧ e = .int j ∧ Kk (.int (g i j))) : OpR X f (rD X.K p) := by
  intro pins s σ H x y v u Q I rx ry q
  obtain ⟨d, e, A, B, Kk, r1, r2, q, fin⟩ := q
  obtain ⟨i, j, rfl, rfl, k⟩ := hp d e Kk q
  obtain ⟨rfl, rfl⟩ := r1.int_inv
  obtain ⟨rfl, rfl⟩ := r2.int_inv
  exact h pins s σ H _ _ v u Q I rx ry ⟨i, j, rfl, rfl, fin _ _ _ _ k Same.refl (.int _) (.inl rfl)⟩
theorem op_fdivNW : OpR X (binaryOp .FloorDiv) (rI (fun i j => j ≠ 0 ∧ j.natAbs < 1073741824) fun i j => .int (i.fdiv j)) := op_fdivN
theorem op_binD (op : Bop) : OpR X (binaryOp op.op) (rD X.K (binD op)) := by
  cases op with
  | add =>
    intro pins s σ H x y v u Q I rx ry q
    obtain ⟨d, e, A, B, Kk, r1, r2, q, fin⟩ := q
    cases d <;> cases e <;> try (exact False.elim q)
    · rename_i i j
      obtain ⟨rfl, rfl⟩ := r1.int_inv
      obtain ⟨rfl, rfl⟩ := r2.int_inv
      exact op_add pins s σ H _ _ v u Q I rx ry ⟨i, j, rfl, rfl, fin _ _ _ _ q Same.refl (.int _) (.inl rfl)⟩
    · rename_i i j
      obtain ⟨rfl, rfl⟩ := r1.str_inv
      obtain ⟨rfl, rfl⟩ := r2.str_inv
      exact op_add_str pins s σ H _ _ v u Q I rx ry ⟨i, j, rfl, rfl, q.1, fin _ _ _ _ q.2 Same.refl (.str _) (.inl rfl)⟩
    · rename_i xs ys
      obtain ⟨a, vs, rfl, ea, ra⟩ := r1.tup_inv
      obtain ⟨b, ws, rfl, eb, rb⟩ := r2.tup_inv
      obtain ⟨⟨i1, i2, ne, hl⟩, k⟩ := q
      have n1 := ra.imm i1
      have n2 := rb.imm i2
      subst n1 n2
      have l1 := ra.length
      have l2 := rb.length
      refine op_catT pins s σ H _ _ v u Q I rx ry ⟨a, b, vs, ws, rfl, rfl, SqT.of ea, SqT.of eb, (fun z => ne (List.length_eq_zero_iff.mp (by rw [← l1, z]; rfl))), by rw [l1, l2]; exact hl, fun z => ?_, fun z p hp => ?_⟩
      · have e : ys = [] := List.length_eq_zero_iff.mp (by rw [← l2, z]; rfl)
        subst e
        rw [List.append_nil] at k
        exact fin _ _ _ _ k Same.refl (.tup ea ra) (.inl rfl)
      · have sm : Same H (upd H p (.tup (vs ++ ws))) := Same.updp hp
        exact fin _ _ _ _ k sm (.tup upd_same ((ra.same sm).append (rb.same sm))) (.inl rfl)
    · rename_i xs ys
      obtain ⟨a, vs, B1, rfl, rfl, ea, ra⟩ := r1.lst_inv
      obtain ⟨b, ws, B2, rfl, rfl, eb, rb⟩ := r2.lst_inv
      obtain ⟨⟨i1, i2, hl⟩, k⟩ := q
      have n1 := ra.imm i1
      have n2 := rb.imm i2
      subst n1 n2
      refine op_cat pins s σ H _ _ v u Q I rx ry ⟨a, b, vs, ws, rfl, rfl, ea, eb, by rw [ra.length, rb.length]; exact hl, fun p hp => ?_⟩
      have sm : Same H (upd H p (.lst (vs ++ ws))) := Same.updp hp
      exact fin _ _ _ _ k sm (.lst upd_same ((ra.same sm).append (rb.same sm))) (.inr ⟨p, rfl, hp⟩)
  | mul =>
    intro pins s σ H x y v u Q I rx ry q
    obtain ⟨d, e, A, B, Kk, r1, r2, q, fin⟩ := q
    cases d <;> cases e <;> try (exact False.elim q)
    · rename_i i j
      obtain ⟨rfl, rfl⟩ := r1.int_inv
      obtain ⟨rfl, rfl⟩ := r2.int_inv
      exact op_mulW pins s σ H _ _ v u Q I rx ry ⟨i, j, rfl, rfl, q.1.1.mulW q.1.2, fin _ _ _ _ q.2 Same.refl (.int _) (.inl rfl)⟩
    · rename_i xs k
      obtain ⟨a, vs, B1, rfl, rfl, ea, ra⟩ := r1.lst_inv
      obtain ⟨rfl, rfl⟩ := r2.int_inv
      obtain ⟨⟨i1, h1, h2, hl⟩, k'⟩ := q
      have n1 := ra.imm i1
      subst n1
      refine op_rep pins s σ H _ _ v u Q I rx ry ⟨a, _, vs, rfl, rfl, ea, by omega, by omega, by rw [ra.length]; exact hl, fun p hp => ?_⟩
      have sm : Same H (upd H p (.lst (List.replicate k.toNat vs).flatten)) := Same.updp hp
      exact fin _ _ _ _ k' sm (.lst upd_same ((ra.same sm).replicate _)) (.inr ⟨p, rfl, hp⟩)
  | sub => exact rI0_D op_sub fun d e Kk q => by cases d <;> cases e <;> first | exact False.elim q | exact ⟨_, _, rfl, rfl, q⟩
  | fdiv => exact rI_D op_fdivW fun d e Kk q => by cases d <;> cases e <;> first | exact False.elim q | exact ⟨_, _, rfl, rfl, SmD.divW q.1.1 q.1.2, q.2⟩
  | fdivN => exact rI_D op_fdivNW fun d e Kk q => by cases d <;> cases e <;> first | exact False.elim q | exact ⟨_, _, rfl, rfl, q.1, q.2⟩
  | mod => exact rI_D op_mod fun d e Kk q => by cases d <;> cases e <;> first | exact False.elim q | exact ⟨_, _, rfl, rfl, q.1, q.2⟩
  | modN => exact rI_D op_modN fun d e Kk q => by cases d <;> cases e <;> first | exact False.elim q | exact ⟨_, _, rfl, rfl, q.1, q.2⟩
  | pow => exact rI_D op_pow fun d e Kk q => by cases d <;> cases e <;> first | exact False.elim q | exact ⟨_, _, rfl, rfl, q.1, q.2⟩
  | shl => exact rI_D op_shl fun d e Kk q => by cases d <;> cases e <;> first | exact False.elim q | exact ⟨_, _, rfl, rfl, q.1, q.2⟩
  | shr => exact rI_D op_shr fun d e Kk q => by cases d <;> cases e <;> first | exact False.elim q | exact ⟨_, _, rfl, rfl, q.1, q.2⟩
  | band => exact rI0_D op_and fun d e Kk q => by cases d <;> cases e <;> first | exact False.elim q | exact ⟨_, _, rfl, rfl, q⟩
  | bor => exact rI0_D op_or fun d e Kk q => by cases d <;> cases e <;> first | exact False.elim q | exact ⟨_, _, rfl, rfl, q⟩
  | bxor => exact rI0_D op_xor fun d e Kk q => by cases d <;> cases e <;> first | exact False.elim q | exact ⟨_, _, rfl, rfl, q⟩

/-! comparisons -/
def rC (K : PySem.W.Frag) (p : D → D → (Bool → Prop) → Prop) : R2 := fun x y H Q => ∃ d e A B Kk, Rep K H x d A ∧ Rep K H y e B ∧ p d e Kk ∧ ∀ z, Kk z → Q (.bl z) H
theorem Rep.isNon {v : V} {d : D} {A : List Addr} (r : Rep K H v d A) : decide (v = .non) = d.isNon := by cases r <;> first | rfl | (simp [D.isNon])
theorem dV_int (a b : Int) : decide (V.int a = V.int b) = decide (a = b) := by simp
theorem dV_str (a b : Str) : decide (V.str a = V.str b) = decide (a = b) := by simp
theorem eqC_ok (hu : X.A.units + 64 < cLine) : OpR X (compareOp .Eq) (rC X.K eqC) := by
  intro pins s σ H x y v u Q I rx ry q
  obtain ⟨d, e, A, B, Kk, r1, r2, q, fin⟩ := q
  have gen : (d.shp ∧ e.shp) ∧ Kk (d.eqv e) → wpAny (model X.prog X.w) X.A (compareOp .Eq v u) (EP X pins σ Q) X.xe s := fun q =>
    op_eqD hu pins s σ H _ _ v u Q I rx ry ⟨_, _, r1.dp q.1.1, r2.dp q.1.2, q.1.1, q.1.2, fin _ q.2⟩
  cases d <;> cases e <;> first
    | exact gen q
    | (obtain ⟨rfl, rfl⟩ := r1.int_inv
       obtain ⟨rfl, rfl⟩ := r2.int_inv
       refine op_eq pins s σ H _ _ v u Q I rx ry ⟨rfl, fin _ ?_⟩
       have q' : Kk (decide (_ = _)) := q
       rw [dV_int]; exact q')
    | (obtain ⟨rfl, rfl⟩ := r1.str_inv
       obtain ⟨rfl, rfl⟩ := r2.str_inv
       refine op_eq pins s σ H _ _ v u Q I rx ry ⟨rfl, fin _ ?_⟩
       have q' : Kk (decide (_ = _)) := q
       rw [dV_str]; exact q')
theorem neC_ok (hu : X.A.units + 64 < cLine) : OpR X (compareOp .NotEq) (rC X.K fun x y K => eqC x y fun b => K (!b)) := by
  intro pins s σ H x y v u Q I rx ry q
  obtain ⟨d, e, A, B, Kk, r1, r2, q, fin⟩ := q
  have gen : (d.shp ∧ e.shp) ∧ Kk (!(d.eqv e)) → wpAny (model X.prog X.w) X.A (compareOp .NotEq v u) (EP X pins σ Q) X.xe s := fun q =>
    op_neD hu pins s σ H _ _ v u Q I rx ry ⟨_, _, r1.dp q.1.1, r2.dp q.1.2, q.1.1, q.1.2, fin _ q.2⟩
  cases d <;> cases e <;> first
    | exact gen q
    | (obtain ⟨rfl, rfl⟩ := r1.int_inv
       obtain ⟨rfl, rfl⟩ := r2.int_inv
       refine op_ne pins s σ H _ _ v u Q I rx ry ⟨rfl, fin _ ?_⟩
       have q' : Kk (!decide (_ = _)) := q
       rw [dV_int]; exact q')
    | (obtain ⟨rfl, rfl⟩ := r1.str_inv
       obtain ⟨rfl, rfl⟩ := r2.str_inv
       refine op_ne pins s σ H _ _ v u Q I rx ry ⟨rfl, fin _ ?_⟩
       have q' : Kk (!decide (_ = _)) := q
       rw [dV_str]; exact q')
theorem toPyL_any (x : PyData) : ∀ ys : List D, (D.toPyL ys).any (fun z => PyData.eqv z x) = ys.any fun y => PyData.eqv y.toPy x
  | [] => rfl
  | y :: r => by rw [D.toPyL, List.any_cons, List.any_cons, toPyL_any x r]
theorem cmpI {op : CmpOp} {g : Int → Int → Bool} {p : D → D → (Bool → Prop) → Prop} (h : OpR X (compareOp op) (rI0 fun i j => .bl (g i j)))
    (hp : ∀ d e Kk, p d e Kk → ∃ i j, d = .int i ∧ e = .int j ∧ Kk (g i j)) : OpR X (compareOp op) (rC X.K p) := by
  intro pins s σ H x y v u Q I rx ry q
  obtain ⟨d, e, A, B, Kk, r1, r2, q, fin⟩ := q
  obtain ⟨i, j, rfl, rfl, k⟩ := hp d e Kk q
  obtain ⟨rfl, rfl⟩ := r1.int_inv
  obtain ⟨rfl, rfl⟩ := r2.int_inv
  exact h pins s σ H _ _ v u Q I rx ry ⟨i, j, rfl, rfl, fin _ k⟩
theorem Rep.dic_inv {v : V} {ks : List Key} {ds : List D} {A : List Addr} (r : Rep K H v (.dic ks ds) A) : ∃ a vs B, v = .ref a ∧ A = a :: B ∧ H a = some (.dK (ks.zip vs)) ∧ ks.length = vs.length ∧ Reps K H vs ds B := by
  cases r with | dic e l r => exact ⟨_, _, _, rfl, rfl, e, l, r⟩
theorem Rep.set_inv {v : V} {xs : List Int} {A : List Addr} (r : Rep K H v (.set xs) A) : ∃ a, v = .ref a ∧ A = [a] ∧ H a = some (.set (fun i => decide (i ∈ xs)) xs.length) ∧ xs.Nodup := by
  cases r with | set e n => exact ⟨_, rfl, rfl, e, n⟩
theorem Rep.key {v : V} {d : D} {A : List Addr} {k : Key} (r : Rep K H v d A) (h : dKey d = some k) : v = kV k := by
  cases d <;> cases h
  · exact r.int_inv.1
  · exact r.str_inv.1
theorem zip_any : ∀ {ks : List Key} {vs : List V} {k : Key}, ks.length = vs.length → ((ks.zip vs).any fun kv => decide (kv.1 = k)) = kIn k ks
  | [], _, k, _ => by simp [kIn]
  | x :: r, [], k, h => by cases h
  | x :: r, v :: t, k, h => by
    rw [List.zip_cons_cons, List.any_cons, zip_any (by simpa using h)]; rfl
theorem valV_mem {ks : List Key} {vs : List V} {k : Key} (h : ks.length = vs.length) : (valV (ks.zip vs) k).isSome = kIn k ks := by
  rw [← valV_any, zip_any h]
theorem dGet_rep : ∀ {vs : List V} {ds : List D} {A : List Addr} {ks : List Key} {k : Key}, Reps K H vs ds A → ks.length = vs.length →
    (∀ z, dGet ks ds k = some z → ∃ w B, valV (ks.zip vs) k = some w ∧ Rep K H w z B ∧ B.Sublist A) ∧ (dGet ks ds k = none → valV (ks.zip vs) k = none)
  | _, _, _, [], k, .nil, _ => ⟨fun z h => by simp [dGet] at h, fun _ => rfl⟩
  | _, _, _, x :: r, k, .cons (v := v) (d := d) (vs := vs) (ds := ds) r1 rs, hl => by
    obtain ⟨i1, i2⟩ := dGet_rep (ks := r) (k := k) rs (by simpa using hl)
    by_cases e : x = k
    · refine ⟨fun z h => ?_, fun h => ?_⟩
      · have h : some d = some z := by rw [← h]; simp [dGet, List.find?_cons, e]
        cases h
        exact ⟨v, _, valV_pos e, r1, List.sublist_append_left _ _⟩
      · simp [dGet, List.find?_cons, e] at h
    · have e1 : dGet (x :: r) (d :: ds) k = dGet r ds k := by simp [dGet, List.find?_cons, e]
      have e2 : valV ((x :: r).zip (v :: vs)) k = valV (r.zip vs) k := valV_neg (p := (x, v)) e
      rw [e1, e2]
      refine ⟨fun z h => ?_, i2⟩
      obtain ⟨w, B, h1, h2, h3⟩ := i1 z h
      exact ⟨w, B, h1, h2, h3.trans (List.sublist_append_right _ _)⟩
theorem dPut_map {k : Key} {v : V} {d : D} : ∀ {vs : List V} {ds : List D} {A : List Addr} {ks : List Key}, Reps K H vs ds A → A = [] → Rep K H v d [] → ks.length = vs.length →
    ∃ ws, (ks.zip vs).map (fun kv => if kv.1 = k then (kv.1, v) else kv) = ks.zip ws ∧ ks.length = ws.length ∧ Reps K H ws ((ks.zip ds).map fun kv => if kv.1 = k then d else kv.2) []
  | _, _, _, [], .nil, _, _, _ => ⟨[], rfl, rfl, .nil⟩
  | _, _, _, x :: r, .cons (v := v0) (d := d0) (vs := vs) (ds := ds) r1 rs, hA, rv, hl => by
    obtain ⟨rfl, rfl⟩ := List.append_eq_nil_iff.mp hA
    obtain ⟨ws, e1, e2, e3⟩ := dPut_map (ks := r) rs rfl rv (by simpa using hl)
    by_cases e : x = k
    · refine ⟨v :: ws, ?_, by simp [e2], ?_⟩
      · rw [List.zip_cons_cons, List.map_cons, e1, if_pos e, List.zip_cons_cons]
      · rw [List.zip_cons_cons, List.map_cons, if_pos e]; exact .cons (A := []) rv e3
    · refine ⟨v0 :: ws, ?_, by simp [e2], ?_⟩
      · rw [List.zip_cons_cons, List.map_cons, e1, if_neg e, List.zip_cons_cons]
      · rw [List.zip_cons_cons, List.map_cons, if_neg e]; exact .cons (A := []) r1 e3
theorem dPut_rep {k : Key} {v : V} {d : D} {vs : List V} {ds : List D} {ks : List Key} (rs : Reps K H vs ds []) (rv : Rep K H v d []) (hl : ks.length = vs.length) :
    ∃ ws, putK (ks.zip vs) k v = (dPutK ks k).zip ws ∧ (dPutK ks k).length = ws.length ∧ Reps K H ws (dPutV ks ds k d) [] := by
  unfold putK dPutK dPutV
  rw [zip_any hl]
  by_cases h : kIn k ks = true
  · rw [if_pos h, if_pos h, if_pos h]
    exact dPut_map rs rfl rv hl
  · rw [if_neg h, if_neg h, if_neg h]
    refine ⟨vs ++ [v], ?_, by simp [hl], ?_⟩
    · rw [List.zip_append hl]; rfl
    · exact Reps.append (B := []) rs (Reps.one rv)
theorem op_inDic (hu : X.A.units + 1 < cLine) {pins : List (Addr × Obj)} {s : Shared} {σ : L2.St} {x y : V} {v u : Value} {Q : VK} {d : D} {ks : List Key} {vs : List D} {A B : List Addr} {k : Key} (I : Inv X pins σ H s) (rx : RelV x v) (ry : RelV y u)
    (r1 : Rep X.K H x d A) (r2 : Rep X.K H y (.dic ks vs) B) (hk : dKey d = some k) (q : Q (.bl (kIn k ks)) H) : wpAny (model X.prog X.w) X.A (compareOp .In v u) (EP X pins σ Q) X.xe s := by
  obtain ⟨a, ws, B, rfl, rfl, e, l, r⟩ := r2.dic_inv
  obtain rfl := r1.key hk
  cases ry
  refine d_in hu I (.k e) rx fun s3 I3 => ⟨.bl _, H, I3, rfl, ?_⟩
  rw [valV_mem l]; exact q
theorem op_ninDic (hu : X.A.units + 1 < cLine) {pins : List (Addr × Obj)} {s : Shared} {σ : L2.St} {x y : V} {v u : Value} {Q : VK} {d : D} {ks : List Key} {vs : List D} {A B : List Addr} {k : Key} (I : Inv X pins σ H s) (rx : RelV x v) (ry : RelV y u)
    (r1 : Rep X.K H x d A) (r2 : Rep X.K H y (.dic ks vs) B) (hk : dKey d = some k) (q : Q (.bl (!kIn k ks)) H) : wpAny (model X.prog X.w) X.A (compareOp .NotIn v u) (EP X pins σ Q) X.xe s := by
  obtain ⟨a, ws, B, rfl, rfl, e, l, r⟩ := r2.dic_inv
  obtain rfl := r1.key hk
  cases ry
  refine d_notIn hu I (.k e) rx fun s3 I3 => ⟨.bl _, H, I3, rfl, ?_⟩
  rw [valV_mem l]; exact q
theorem op_inSet {pins : List (Addr × Obj)} {s : Shared} {σ : L2.St} {x y : V} {v u : Value} {Q : VK} {i : Int} {S : List Int} {A B : List Addr} (I : Inv X pins σ H s) (rx : RelV x v) (ry : RelV y u)
    (r1 : Rep X.K H x (.int i) A) (r2 : Rep X.K H y (.set S) B) (q : Q (.bl (decide (i ∈ S))) H) : wpAny (model X.prog X.w) X.A (compareOp .In v u) (EP X pins σ Q) X.xe s := by
  obtain ⟨a, rfl, rfl, e, _⟩ := r2.set_inv
  obtain ⟨rfl, rfl⟩ := r1.int_inv
  obtain ⟨t, rfl⟩ := rx
  cases ry
  exact wpAny_inSet_of (intKind_is _ _ _ _) rfl (I.hok a _ e) ⟨.bl _, H, I.tok _, rfl, q⟩
theorem op_ninSet {pins : List (Addr × Obj)} {s : Shared} {σ : L2.St} {x y : V} {v u : Value} {Q : VK} {i : Int} {S : List Int} {A B : List Addr} (I : Inv X pins σ H s) (rx : RelV x v) (ry : RelV y u)
    (r1 : Rep X.K H x (.int i) A) (r2 : Rep X.K H y (.set S) B) (q : Q (.bl (!decide (i ∈ S))) H) : wpAny (model X.prog X.w) X.A (compareOp .NotIn v u) (EP X pins σ Q) X.xe s := by
  obtain ⟨a, rfl, rfl, e, _⟩ := r2.set_inv
  obtain ⟨rfl, rfl⟩ := r1.int_inv
  obtain ⟨t, rfl⟩ := rx
  cases ry
  exact wpAny_notInSet_of (intKind_is _ _ _ _) rfl (I.hok a _ e) ⟨.bl _, H, I.tok _, rfl, q⟩
theorem intsM : ∀ {xs : List D} {ns : List Int}, D.ints xs = some ns → xs = ns.map .int
  | [], ns, h => by cases h; rfl
  | x :: r, ns, h => by
    cases x <;> first
      | (exfalso; simp [D.ints] at h; done)
      | (simp only [D.ints] at h
         obtain ⟨ms, h1, h2⟩ := Option.map_eq_some_iff.mp h
         subst h2
         rw [List.map_cons, ← intsM h1])
theorem dp_ints {v : V} {ns : List Int} {A : List Addr} {H : Hp} {K : PySem.W.Frag} (r : Rep K H v (.lst (ns.map .int)) A) : Dp K H v (pyI ns) := by
  obtain ⟨a, vs, B, rfl, rfl, ea, ra⟩ := r.lst_inv
  refine .lst (SqL.of ea) ?_
  have : ∀ {ns : List Int} {vs : List V} {B : List Addr}, Reps K H vs (ns.map .int) B → DpAll K H vs (ns.map .int) := fun {ns} => by
    induction ns with
    | nil => intro vs B h; cases h; exact .nil
    | cons n ns ih =>
      intro vs B h
      cases h with
      | cons r rs =>
        obtain ⟨rfl, _⟩ := r.int_inv
        exact .cons (.int n) (ih rs)
  exact this ra
theorem dpAll_ints {K : PySem.W.Frag} {H : Hp} : ∀ {ns : List Int} {vs : List V} {B : List Addr}, Reps K H vs (ns.map .int) B → DpAll K H vs (ns.map .int) := fun {ns} => by
  induction ns with
  | nil => intro vs B h; cases h; exact .nil
  | cons n ns ih =>
    intro vs B h
    cases h with
    | cons r rs =>
      obtain ⟨rfl, _⟩ := r.int_inv
      exact .cons (.int n) (ih rs)
theorem dp_row {v : V} {b : Bool} {ns : List Int} {A : List Addr} {H : Hp} {K : PySem.W.Frag} (r : Rep K H v (encR b ns) A) : Dp K H v (pyR b ns) := by
  cases b with
  | false => exact dp_ints r
  | true =>
    obtain ⟨a, vs, rfl, ea, ra⟩ := Rep.tup_inv (show Rep K H v (.tup (ns.map .int)) A from r)
    exact .tup (SqT.of ea) (dpAll_ints ra)
theorem ordC_ok {op : CmpOp} {f : Int → Int → Bool} {g : List Int → List Int → Bool} {p : D → D → (Bool → Prop) → Prop} (h1 : OpR X (compareOp op) (rI0 fun i j => .bl (f i j))) (h2 : ∀ b, OpR X (compareOp op) (rOrdR X.K b g))
    (hp : ∀ d e Kk, p d e Kk → (∃ i j, d = .int i ∧ e = .int j ∧ Kk (f i j)) ∨ (∃ xs ys, d = .lst xs ∧ e = .lst ys ∧ ∃ ns ms, D.ints xs = some ns ∧ D.ints ys = some ms ∧ Kk (g ns ms)) ∨ (∃ xs ys, d = .tup xs ∧ e = .tup ys ∧ ∃ ns ms, D.ints xs = some ns ∧ D.ints ys = some ms ∧ Kk (g ns ms))) : OpR X (compareOp op) (rC X.K p) := by
  intro pins s σ H x y v u Q I rx ry q
  obtain ⟨d, e, A, B, Kk, r1, r2, q, fin⟩ := q
  rcases hp d e Kk q with ⟨i, j, rfl, rfl, k⟩ | ⟨xs, ys, rfl, rfl, ns, ms, e1, e2, k⟩ | ⟨xs, ys, rfl, rfl, ns, ms, e1, e2, k⟩
  · exact cmpI h1 (p := fun d e Kk => ∃ i j, d = .int i ∧ e = .int j ∧ Kk (f i j)) (fun d e Kk q => q) pins s σ H x y v u Q I rx ry ⟨_, _, A, B, Kk, r1, r2, ⟨i, j, rfl, rfl, k⟩, fin⟩
  · obtain rfl := intsM e1
    obtain rfl := intsM e2
    exact h2 false pins s σ H x y v u Q I rx ry ⟨ns, ms, dp_row (b := false) r1, dp_row (b := false) r2, fin _ k⟩
  · obtain rfl := intsM e1
    obtain rfl := intsM e2
    exact h2 true pins s σ H x y v u Q I rx ry ⟨ns, ms, dp_row (b := true) r1, dp_row (b := true) r2, fin _ k⟩
theorem op_cmpD (hu : X.A.units + 65 < cLine) (op : Cop) : OpR X (compareOp op.op) (rC X.K (cmpD op)) := by
  cases op with
  | eq => exact eqC_ok (by omega)
  | ne => exact neC_ok (by omega)
  | lt => exact ordC_ok op_lt (fun _ => op_ltR hu) (fun d e Kk q => by cases d <;> cases e <;> first | exact False.elim q | exact .inl ⟨_, _, rfl, rfl, q⟩ | exact .inr (.inl ⟨_, _, rfl, rfl, q⟩) | exact .inr (.inr ⟨_, _, rfl, rfl, q⟩))
  | le => exact ordC_ok op_le (fun _ => op_leR hu) (fun d e Kk q => by cases d <;> cases e <;> first | exact False.elim q | exact .inl ⟨_, _, rfl, rfl, q⟩ | exact .inr (.inl ⟨_, _, rfl, rfl, q⟩) | exact .inr (.inr ⟨_, _, rfl, rfl, q⟩))
  | gt => exact ordC_ok op_gt (fun _ => op_gtR hu) (fun d e Kk q => by cases d <;> cases e <;> first | exact False.elim q | exact .inl ⟨_, _, rfl, rfl, q⟩ | exact .inr (.inl ⟨_, _, rfl, rfl, q⟩) | exact .inr (.inr ⟨_, _, rfl, rfl, q⟩))
  | ge => exact ordC_ok op_ge (fun _ => op_geR hu) (fun d e Kk q => by cases d <;> cases e <;> first | exact False.elim q | exact .inl ⟨_, _, rfl, rfl, q⟩ | exact .inr (.inl ⟨_, _, rfl, rfl, q⟩) | exact .inr (.inr ⟨_, _, rfl, rfl, q⟩))
  | isin =>
    intro pins s σ H x y v u Q I rx ry q
    obtain ⟨d, e, A, B, Kk, r1, r2, q, fin⟩ := q
    have q : inC d e Kk := q
    cases e with
    | lst ys =>
      have q : (d.shp ∧ (D.lst ys).shp) ∧ Kk (ys.any fun y => y.eqv d) := by cases d <;> exact q
      exact op_inD hu pins s σ H _ _ v u Q I rx ry ⟨_, D.toPyL ys, r1.dp q.1.1, r2.dp q.1.2, q.1.1, q.1.2, fin _ (by rw [toPyL_any]; exact q.2)⟩
    | tup ys =>
      have q : (d.shp ∧ (D.tup ys).shp) ∧ Kk (ys.any fun y => y.eqv d) := by cases d <;> exact q
      exact op_inDT hu pins s σ H _ _ v u Q I rx ry ⟨_, D.toPyL ys, r1.dp q.1.1, r2.dp q.1.2, q.1.1, q.1.2, fin _ (by rw [toPyL_any]; exact q.2)⟩
    | dic ks vs =>
      have q : ∃ k, dKey d = some k ∧ Kk (kIn k ks) := by cases d <;> exact q
      obtain ⟨k, hk, q⟩ := q
      exact op_inDic (by omega) I rx ry r1 r2 hk (fin _ q)
    | set S =>
      cases d with
      | int i => exact op_inSet I rx ry r1 r2 (fin _ q)
      | _ => exact False.elim q
    | _ => cases d <;> exact False.elim q
  | nin =>
    intro pins s σ H x y v u Q I rx ry q
    obtain ⟨d, e, A, B, Kk, r1, r2, q, fin⟩ := q
    have q : inC d e (fun b => Kk (!b)) := q
    cases e with
    | lst ys =>
      have q : (d.shp ∧ (D.lst ys).shp) ∧ Kk (!(ys.any fun y => y.eqv d)) := by cases d <;> exact q
      exact op_notInD hu pins s σ H _ _ v u Q I rx ry ⟨_, D.toPyL ys, r1.dp q.1.1, r2.dp q.1.2, q.1.1, q.1.2, fin _ (by rw [toPyL_any]; exact q.2)⟩
    | tup ys =>
      have q : (d.shp ∧ (D.tup ys).shp) ∧ Kk (!(ys.any fun y => y.eqv d)) := by cases d <;> exact q
      exact op_notInDT hu pins s σ H _ _ v u Q I rx ry ⟨_, D.toPyL ys, r1.dp q.1.1, r2.dp q.1.2, q.1.1, q.1.2, fin _ (by rw [toPyL_any]; exact q.2)⟩
    | dic ks vs =>
      have q : ∃ k, dKey d = some k ∧ Kk (!kIn k ks) := by cases d <;> exact q
      obtain ⟨k, hk, q⟩ := q
      exact op_ninDic (by omega) I rx ry r1 r2 hk (fin _ q)
    | set S =>
      cases d with
      | int i => exact op_ninSet I rx ry r1 r2 (fin _ q)
      | _ => exact False.elim q
    | _ => cases d <;> exact False.elim q
  | is =>
    intro pins s σ H x y v u Q I rx ry q
    obtain ⟨d, e, A, B, Kk, r1, r2, q, fin⟩ := q
    have q : isC d e Kk := q
    cases e with
    | non =>
      have q : Kk d.isNon := by cases d <;> exact q
      obtain ⟨rfl, rfl⟩ := r2.non_inv
      exact op_isN pins s σ H _ _ v u Q I rx ry ⟨rfl, fin _ (by rw [r1.isNon]; exact q)⟩
    | bl b =>
      cases d with
      | bl a =>
        obtain ⟨rfl, rfl⟩ := r1.bl_inv
        obtain ⟨rfl, rfl⟩ := r2.bl_inv
        exact op_is_bl pins s σ H _ _ v u Q I rx ry ⟨_, _, rfl, rfl, fin _ (by have q : Kk (a == b) := q; rwa [Bool.beq_eq_decide_eq] at q)⟩
      | _ => exact False.elim q
    | _ => cases d <;> exact False.elim q
  | isnt =>
    intro pins s σ H x y v u Q I rx ry q
    obtain ⟨d, e, A, B, Kk, r1, r2, q, fin⟩ := q
    have q : isC d e (fun b => Kk (!b)) := q
    cases e with
    | non =>
      have q : Kk (!d.isNon) := by cases d <;> exact q
      obtain ⟨rfl, rfl⟩ := r2.non_inv
      exact op_notN pins s σ H _ _ v u Q I rx ry ⟨rfl, fin _ (by rw [r1.isNon]; exact q)⟩
    | bl b =>
      cases d with
      | bl a =>
        obtain ⟨rfl, rfl⟩ := r1.bl_inv
        obtain ⟨rfl, rfl⟩ := r2.bl_inv
        exact op_isnot_bl pins s σ H _ _ v u Q I rx ry ⟨_, _, rfl, rfl, fin _ (by have q : Kk (!(a == b)) := q; rwa [Bool.beq_eq_decide_eq] at q)⟩
      | _ => exact False.elim q
    | _ => cases d <;> exact False.elim q
end
end R

namespace R
open PySem PySem.Spec PyProof.Rows L2
section
variable {X : Cx} {K : PySem.W.Frag} {H : Hp}
theorem atI_map {α β : Type} (f : α → β) {xs : List α} {i : Int} {z : α} (h : atI xs i = some z) : atI (xs.map f) i = some (f z) := by
  unfold atI at h ⊢
  rw [List.length_map]
  cases q : ixN xs.length i with
  | none => rw [q] at h; cases h
  | some j =>
    rw [q] at h
    have h : xs[j]? = some z := h
    show (xs.map f)[j]? = some (f z)
    rw [List.getElem?_map, h]; rfl
theorem Reps.atI {vs : List V} {ds : List D} {A : List Addr} {i : Int} {z : D} (r : Reps K H vs ds A) (h : L2.atI ds i = some z) : ∃ v B, L2.atI vs i = some v ∧ Rep K H v z B ∧ B.Sublist A := by
  unfold L2.atI at h ⊢
  rw [r.length]
  cases q : ixN ds.length i with
  | none => rw [q] at h; cases h
  | some j =>
    rw [q] at h
    exact r.at' h
def rIxDic : R2 := fun x y H Q => ∃ a v, x = .ref a ∧ DGet H a y (some v) ∧ Q v H
theorem ix_dic {X : Cx} (hu : X.A.units + 1 < cLine) : IxR X rIxDic := by
  intro value slice pins s σ H x y v u Q I rx ry h hs
  obtain ⟨a, w, rfl, g, q⟩ := h
  cases rx
  exact tail_any (ops := [.ref a, u]) (dict_typeIs I g) PySem.F.slot_dict_getitem.lookup (d_getItem hu I g ry fun w' s3 I3 rw' => ⟨w, H, I3, rw', q⟩) hs
def rIxA (K : PySem.W.Frag) : R2 := fun x y H Q => rIx K x y H Q ∨ rIxDic x y H Q
theorem ix_all {X : Cx} (hu : X.A.units + 1 < cLine) : IxR X (rIxA X.K) := IxR.or ix_seq (ix_dic hu)
/-- a[i]: the part's addresses are among the whole's kids -/
theorem ix_ok {x y : V} {d e : D} {A B : List Addr} {Kk : D → Prop} {Q : VK} (r1 : Rep K H x d A) (r2 : Rep K H y e B) (q : ixD d e Kk)
    (fin : ∀ z v C, Kk z → Rep K H v z C → C.Sublist (tl d A) → Q v H) : rIxA K x y H Q := by
  cases d with
  | dic ks ds =>
    have q : ∃ k z, dKey e = some k ∧ dGet ks ds k = some z ∧ D.immL ds = true ∧ Kk z := by cases e <;> exact q
    obtain ⟨k, z, hk, hz, im, q⟩ := q
    obtain ⟨a, vs, B1, rfl, rfl, ea, hl, ra⟩ := r1.dic_inv
    obtain rfl := r2.key hk
    obtain ⟨w, C, h1, h2, h3⟩ := (dGet_rep ra hl).1 z hz
    exact .inr ⟨a, w, rfl, by rw [← h1]; exact .k ea, fin z w C q h2 h3⟩
  | tup xs =>
    cases e <;> try (exact False.elim q)
    rename_i i
    obtain ⟨z, hz, k⟩ := q
    obtain ⟨a, vs, rfl, ea, ra⟩ := r1.tup_inv
    obtain ⟨rfl, rfl⟩ := r2.int_inv
    obtain ⟨v, C, hv, rv, sub⟩ := ra.atI hz
    exact .inl (.inr (.inl ⟨a, vs, _, v, rfl, rfl, SqT.of ea, hv, fin z v C k rv sub⟩))
  | lst xs =>
    cases e <;> try (exact False.elim q)
    rename_i i
    obtain ⟨z, hz, k⟩ := q
    obtain ⟨a, vs, B1, rfl, rfl, ea, ra⟩ := r1.lst_inv
    obtain ⟨rfl, rfl⟩ := r2.int_inv
    obtain ⟨v, C, hv, rv, sub⟩ := ra.atI hz
    exact .inl (.inl ⟨a, vs, _, v, rfl, rfl, SqL.of ea, hv, fin z v C k rv sub⟩)
  | fro xs =>
    cases e <;> try (exact False.elim q)
    rename_i i
    obtain ⟨z, hz, k⟩ := q
    obtain ⟨a, vs, rfl, rfl, ea, ra⟩ := r1.fro_inv
    obtain ⟨rfl, rfl⟩ := r2.int_inv
    obtain ⟨v, C, hv, rv, sub⟩ := ra.atI hz
    exact .inl (.inl ⟨a, vs, _, v, rfl, rfl, ea, hv, fin z v C k rv sub⟩)
  | _ => cases e <;> exact False.elim q
theorem Reps.take {vs : List V} {ds : List D} {A : List Addr} (n : Nat) (r : Reps K H vs ds A) : ∃ B, Reps K H (vs.take n) (ds.take n) B ∧ B.Sublist A := by
  induction n generalizing vs ds A with
  | zero => exact ⟨[], .nil, List.nil_sublist _⟩
  | succ n ih => cases r with
    | nil => exact ⟨[], .nil, List.nil_sublist _⟩
    | cons r rs =>
      obtain ⟨B, rb, s⟩ := ih rs
      exact ⟨_, .cons r rb, (List.append_sublist_append_left _).mpr s⟩
theorem Reps.drop {vs : List V} {ds : List D} {A : List Addr} (n : Nat) (r : Reps K H vs ds A) : ∃ B, Reps K H (vs.drop n) (ds.drop n) B ∧ B.Sublist A := by
  induction n generalizing vs ds A with
  | zero => exact ⟨A, r, List.Sublist.refl _⟩
  | succ n ih => cases r with
    | nil => exact ⟨[], .nil, List.nil_sublist _⟩
    | cons r rs =>
      obtain ⟨B, rb, s⟩ := ih rs
      exact ⟨B, rb, s.trans (List.sublist_append_right _ _)⟩
theorem Reps.cut {vs : List V} {ds : List D} {A : List Addr} (lo hi : Option Int) (r : Reps K H vs ds A) : ∃ B, Reps K H (cutV vs lo hi) (cut ds lo hi) B ∧ B.Sublist A := by
  unfold cutV R.cut
  rw [r.length]
  obtain ⟨B, rb, s1⟩ := r.drop (HT.sIx ds.length 0 lo)
  obtain ⟨C, rc, s2⟩ := rb.take (HT.sIx ds.length ds.length hi - HT.sIx ds.length 0 lo)
  exact ⟨C, rc, s2.trans s1⟩
theorem slc_ok {x : V} {d : D} {A : List Addr} {lo hi : Option Int} {Kk : D → Prop} {Q : VK} (r1 : Rep K H x d A) (q : slcD d lo hi Kk)
    (fin : ∀ z p C H', Kk z → ((z.isM = true ∧ Rep K H' (.ref p) z (p :: C)) ∨ (z.isM = false ∧ Rep K H' (.ref p) z C)) → Same H H' → H p = none → C.Sublist (tl d A) → Q (.ref p) H') : rSlL K x lo hi H Q ∨ rSlT K x lo hi H Q := by
  cases d <;> try (exact False.elim q)
  · rename_i xs
    obtain ⟨q0, q⟩ := q
    obtain ⟨a, vs, rfl, ea, ra⟩ := r1.tup_inv
    refine .inr ⟨a, vs, rfl, SqT.of ea, by rw [ra.length]; exact q0, fun p hp => ?_⟩
    obtain ⟨C, rc, sub⟩ := ra.cut lo hi
    exact fin _ p C _ q (.inr ⟨rfl, .tup upd_same (rc.same (Same.updp hp))⟩) (Same.updp hp) hp sub
  · rename_i xs
    obtain ⟨a, vs, B1, rfl, rfl, ea, ra⟩ := r1.lst_inv
    refine .inl ⟨a, vs, rfl, SqL.of ea, fun p hp => ?_⟩
    obtain ⟨C, rc, sub⟩ := ra.cut lo hi
    exact fin _ p C _ q (.inl ⟨rfl, .lst upd_same (rc.same (Same.updp hp))⟩) (Same.updp hp) hp sub
  · rename_i xs
    obtain ⟨a, vs, rfl, rfl, ea, ra⟩ := r1.fro_inv
    refine .inl ⟨a, vs, rfl, ea, fun p hp => ?_⟩
    obtain ⟨C, rc, sub⟩ := ra.cut lo hi
    exact fin _ p C _ q (.inl ⟨rfl, .lst upd_same (rc.same (Same.updp hp))⟩) (Same.updp hp) hp sub

/-! ints -/
theorem ints_map : ∀ {xs : List D} {ns : List Int}, D.ints xs = some ns → xs = ns.map .int
  | [], ns, h => by simp only [D.ints, Option.some.injEq] at h; subst h; rfl
  | .int i :: r, ns, h => by
    simp only [D.ints, Option.map_eq_some_iff] at h
    obtain ⟨ms, h1, rfl⟩ := h
    rw [List.map_cons, ← ints_map h1]
  | .non :: _, _, h => by cases h
  | .bl _ :: _, _, h => by cases h
  | .str _ :: _, _, h => by cases h
  | .tup _ :: _, _, h => by cases h
  | .lst _ :: _, _, h => by cases h
  | .fro _ :: _, _, h => by cases h
  | .set _ :: _, _, h => by cases h
  | .dic _ _ :: _, _, h => by cases h
theorem ints_of (ns : List Int) : D.ints (ns.map .int) = some ns := by
  induction ns with
  | nil => rfl
  | cons n r ih => rw [List.map_cons, D.ints, ih]; rfl
theorem Reps.ints : ∀ {ns : List Int} {vs : List V} {A : List Addr}, Reps K H vs (ns.map D.int) A → vs = ns.map V.int ∧ A = []
  | [], _, _, .nil => ⟨rfl, rfl⟩
  | n :: r, _, _, .cons r1 rs => by
    obtain ⟨rfl, rfl⟩ := r1.int_inv
    obtain ⟨rfl, rfl⟩ := Reps.ints rs
    exact ⟨rfl, rfl⟩
theorem reps_ints (ns : List Int) : Reps K H (ns.map V.int) (ns.map D.int) [] := by
  induction ns with
  | nil => exact .nil
  | cons n r ih => exact .cons (.int n) ih
theorem rep_ints {p : Addr} {ns : List Int} (e : H p = some (.lst (ns.map V.int))) : Rep K H (.ref p) (.lst (ns.map .int)) [p] := .lst e (reps_ints ns)
theorem ins_perm (x : Int) : ∀ r : List Int, (ins x r).Perm (x :: r)
  | [] => .refl _
  | y :: r => by
    unfold ins
    split
    · exact .refl _
    · exact ((ins_perm x r).cons y).trans (.swap x y r)
theorem ins_mem {x a : Int} {r : List Int} (h : a ∈ ins x r) : a = x ∨ a ∈ r := List.mem_cons.mp ((ins_perm x r).mem_iff.mp h)
theorem ins_sorted (x : Int) : ∀ {r : List Int}, r.Pairwise (· ≤ ·) → (ins x r).Pairwise (· ≤ ·)
  | [], _ => List.pairwise_singleton _ _
  | y :: r, h => by
    have h1 := List.pairwise_cons.mp h
    unfold ins
    split
    · rename_i hxy
      refine List.pairwise_cons.mpr ⟨fun a ha => ?_, h⟩
      rcases List.mem_cons.mp ha with rfl | ha
      · exact hxy
      · have := h1.1 a ha; omega
    · rename_i hxy
      refine List.pairwise_cons.mpr ⟨fun a ha => ?_, ins_sorted x h1.2⟩
      rcases ins_mem ha with rfl | ha
      · omega
      · exact h1.1 a ha
theorem isort_perm : ∀ r : List Int, (isort r).Perm r
  | [] => .refl _
  | x :: r => (ins_perm x (isort r)).trans ((isort_perm r).cons x)
theorem isort_sorted : ∀ r : List Int, (isort r).Pairwise (· ≤ ·)
  | [] => .nil
  | x :: r => ins_sorted x (isort_sorted r)
theorem sorted_unique : ∀ {xs ys : List Int}, xs.Perm ys → xs.Pairwise (· ≤ ·) → ys.Pairwise (· ≤ ·) → xs = ys
  | [], ys, p, _, _ => (List.Perm.nil_eq p)
  | x :: xs, [], p, _, _ => absurd p.length_eq (by simp)
  | x :: xs, y :: ys, p, h, k => by
    have h1 := List.pairwise_cons.mp h
    have k1 := List.pairwise_cons.mp k
    have e : x = y := by
      have a : x ∈ y :: ys := p.mem_iff.mp (List.mem_cons_self ..)
      have b : y ∈ x :: xs := p.mem_iff.mpr (List.mem_cons_self ..)
      rcases List.mem_cons.mp a with a | a
      · exact a
      · rcases List.mem_cons.mp b with b | b
        · exact b.symm
        · have := h1.1 y b; have := k1.1 x a; omega
    subst e
    rw [sorted_unique (List.Perm.cons_inv p) h1.2 k1.2]
theorem isort_eq {xs ys : List Int} (p : ys.Perm xs) (h : ys.Pairwise (· ≤ ·)) : ys = isort xs := sorted_unique (p.trans (isort_perm xs).symm) h (isort_sorted xs)

/-! builtins -/
def rB (K : PySem.W.Frag) (p : List D → (D → Prop) → Prop) : List V → Hp → VK → Prop := fun vs H Q => ∃ ds A Kk, Reps K H vs ds A ∧ p ds Kk ∧ ∀ z v, Kk z → Rep K H v z [] → Q v H
theorem reps1 {vs : List V} {d : D} {A : List Addr} (r : Reps K H vs [d] A) : ∃ v, vs = [v] ∧ Rep K H v d A := by
  cases r with
  | cons r rs => cases rs; exact ⟨_, rfl, by rw [List.append_nil]; exact r⟩
theorem reps2 {vs : List V} {d e : D} {A : List Addr} (r : Reps K H vs [d, e] A) : ∃ v w B C, vs = [v, w] ∧ Rep K H v d B ∧ Rep K H w e C ∧ A = B ++ C := by
  cases r with
  | cons r rs =>
    obtain ⟨w, rfl, r2⟩ := reps1 rs
    exact ⟨_, w, _, _, rfl, r, r2, rfl⟩
/-- the built-in's own value -/
def Blt.isTy : Blt → Bool | .int => true | .bool => true | .str => true | _ => false
theorem blt_len (hc : X.calm = true) : CallR X (.builtin "len") (rB X.K (bltD .len)) := by
  intro pins s σ H vs us Q I r h
  obtain ⟨ds, A, Kk, rr, q, fin⟩ := h
  match ds, rr, q with
  | [.lst xs], rr, q =>
    obtain ⟨v, rfl, r1⟩ := reps1 rr
    obtain ⟨a, ws, B, rfl, rfl, ea, ra⟩ := r1.lst_inv
    exact call_len_seq pins s σ H _ us Q I r ⟨a, ws, rfl, .inl (SqL.of ea), fin _ _ q (by rw [ra.length]; exact .int _)⟩
  | [.tup xs], rr, q =>
    obtain ⟨v, rfl, r1⟩ := reps1 rr
    obtain ⟨a, ws, rfl, ea, ra⟩ := r1.tup_inv
    exact call_len_seq pins s σ H _ us Q I r ⟨a, ws, rfl, .inr (SqT.of ea), fin _ _ q (by rw [ra.length]; exact .int _)⟩
  | [.fro xs], rr, q =>
    obtain ⟨v, rfl, r1⟩ := reps1 rr
    obtain ⟨a, ws, rfl, rfl, ea, ra⟩ := r1.fro_inv
    exact call_len_seq pins s σ H _ us Q I r ⟨a, ws, rfl, .inl ea, fin _ _ q (by rw [ra.length]; exact .int _)⟩
  | [.str x], rr, q =>
    obtain ⟨v, rfl, r1⟩ := reps1 rr
    obtain ⟨rfl, rfl⟩ := r1.str_inv
    exact call_len_str pins s σ H _ us Q I r ⟨x, rfl, q.1, fin _ _ q.2 (.int _)⟩
  | [.dic ks xs], rr, q =>
    obtain ⟨v, rfl, r1⟩ := reps1 rr
    obtain ⟨a, ws, B, rfl, rfl, ea, hl, ra⟩ := r1.dic_inv
    exact call_lenD pins s σ H _ us Q I r ⟨a, _, rfl, ea, fin _ _ q (by rw [List.length_zip, ← hl, Nat.min_self]; exact .int _)⟩
theorem blt_str : CallR X (.type "str") (rB X.K (bltD .str)) := by
  intro pins s σ H vs us Q I r h
  obtain ⟨ds, A, Kk, rr, q, fin⟩ := h
  match ds, rr, q with
  | [.int i], rr, q =>
    obtain ⟨v, rfl, r1⟩ := reps1 rr
    obtain ⟨rfl, rfl⟩ := r1.int_inv
    exact call_str_int pins s σ H _ us Q I r ⟨i, rfl, q.1, fin _ _ q.2 (.str _)⟩
/-- repr: any data but sets and dicts -/
theorem blt_repr (hg : X.A.guards = some []) (hu : X.A.units + 100 < cLine) : CallR X (.builtin "repr") (rB X.K (bltD .repr)) := by
  intro pins s σ H vs us Q I r h
  obtain ⟨ds, A, Kk, rr, q, fin⟩ := h
  match ds, rr, q with
  | [d], rr, q =>
    obtain ⟨v, rfl, r1⟩ := reps1 rr
    obtain ⟨⟨q0, q1, q2, q3, q4⟩, q5⟩ := q
    obtain ⟨u, rfl, ru⟩ : ∃ u, us = [u] ∧ RelV v u := by
      cases r with
      | cons a b => cases b; exact ⟨_, rfl, a⟩
    have main : (∃ a, v = .ref a) → wpAny (model X.prog X.w) X.A (call (.builtin "repr") [u]) (EP X pins σ Q) X.xe s := fun ⟨a, ea⟩ => by
      subst ea
      have eu : u = .ref a := ru
      subst eu
      obtain ⟨as, rd⟩ := Dp.reads I _ _ _ (r1.dpc q1) ru
      refine repr_of_reads' rd q2 (PyData.noDict_hsm (PyData.hasDict_of_canLay _ q1)) hg (by omega) (fun _ _ e => e) (fun h' u' tk hk => ?_) q4
      exact ⟨.str _, H, I.kept hk, ⟨_, rfl⟩, fin _ _ q5 (.str _)⟩
    cases d with
    | lst xs => obtain ⟨a, _, _, rfl, _⟩ := r1.lst_inv; exact main ⟨a, rfl⟩
    | tup xs => obtain ⟨a, _, rfl, _⟩ := r1.tup_inv; exact main ⟨a, rfl⟩
    | fro xs => obtain ⟨a, _, rfl, _⟩ := r1.fro_inv; exact main ⟨a, rfl⟩
    | non =>
      cases r1
      obtain rfl : u = Value.none := ru
      exact PySem.P.repr_of_none ⟨.str _, H, I.tok _, ⟨_, rfl⟩, fin _ _ q5 (.str _)⟩
    | bl b =>
      cases r1
      obtain rfl : u = Value.bool b := ru
      cases b with
      | false => exact PySem.P.repr_of_bool ⟨.str _, H, I.tok _, ⟨_, rfl⟩, fin _ _ q5 (.str _)⟩
      | true => exact PySem.P.repr_of_bool ⟨.str _, H, I.tok _, ⟨_, rfl⟩, fin _ _ q5 (.str _)⟩
    | int i =>
      cases r1
      obtain ⟨t, rfl⟩ := ru
      exact PySem.P.repr_of_int (of_decide_eq_true q2) ⟨.str _, H, I.tok _, ⟨_, rfl⟩, fin _ _ q5 (.str _)⟩
    | str x =>
      cases r1
      obtain ⟨t, rfl⟩ := ru
      exact PySem.P.repr_of_str ⟨.str _, H, I.tok _, ⟨_, rfl⟩, fin _ _ q5 (.str _)⟩ q4
    | _ => cases q0
theorem blt_abs (hc : X.calm = true) : CallR X (.builtin "abs") (rB X.K (bltD .abs)) := by
  intro pins s σ H vs us Q I r h
  obtain ⟨ds, A, Kk, rr, q, fin⟩ := h
  match ds, rr, q with
  | [.int i], rr, q =>
    obtain ⟨v, rfl, r1⟩ := reps1 rr
    obtain ⟨rfl, rfl⟩ := r1.int_inv
    exact call_abs pins s σ H _ us Q I r ⟨i, rfl, fin _ _ q (by rw [show (i.natAbs : Int) = (if i < 0 then -i else i) by omega]; exact .int _)⟩
theorem blt_int (hc : X.calm = true) : CallR X (.type "int") (rB X.K (bltD .int)) := by
  intro pins s σ H vs us Q I r h
  obtain ⟨ds, A, Kk, rr, q, fin⟩ := h
  match ds, rr, q with
  | [.int i], rr, q =>
    obtain ⟨v, rfl, r1⟩ := reps1 rr
    obtain ⟨rfl, rfl⟩ := r1.int_inv
    exact call_int1 pins s σ H _ us Q I r (.inl ⟨i, rfl, fin _ _ q (.int _)⟩)
  | [.bl i], rr, q =>
    obtain ⟨v, rfl, r1⟩ := reps1 rr
    obtain ⟨rfl, rfl⟩ := r1.bl_inv
    exact call_int1 pins s σ H _ us Q I r (.inr ⟨i, rfl, fin _ _ q (.int _)⟩)
theorem blt_sum (hc : X.calm = true) : CallR X (.builtin "sum") (rB X.K (bltD .sum)) := by
  intro pins s σ H vs us Q I r h
  obtain ⟨ds, A, Kk, rr, q, fin⟩ := h
  match ds, rr, q with
  | [.lst xs], rr, q =>
    obtain ⟨ns, e, q⟩ := q
    obtain rfl := ints_map e
    obtain ⟨v, rfl, r1⟩ := reps1 rr
    obtain ⟨a, ws, B, rfl, rfl, ea, ra⟩ := r1.lst_inv
    obtain ⟨rfl, rfl⟩ := ra.ints
    exact cr_sum hc pins s σ H _ us Q I r ⟨a, ns, rfl, SqL.of ea, fin _ _ q (.int _)⟩
theorem min_tupR {prog : Program} {w : World} {A : Around} {E : Value → Shared → Prop} {s : Shared} {l : Addr} {its : List Value} {ns : List Int} {Q : Value → Shared → Prop} (hh : A.handled = none) (hl : s.heap.IsTuple l its.toArray) (hi : IntsAre its ns) (hne : 0 < ns.length)
    (h : ∀ h' tk M t', (∀ b o, s.heap.get? b = some o → h'.get? b = some o) → M ∈ ns → (∀ a, a ∈ ns → M ≤ a) → Q (.int M t') { s with heap := h', toks := tk }) : wpAny (model prog w) A (call (.builtin "min") [.ref l]) Q E s := by
  obtain ⟨xs, e⟩ := hi.allInts.items
  have hn : numsOf (intItems xs).toList = ns := by rw [← e]; exact hi.numsOf
  rw [nums_intItems] at hn
  subst hn
  rw [e] at hl
  have hsz : 0 < xs.size := by simpa using hne
  have hlt : l < s.heap.objs.size := by obtain ⟨_, e, _⟩ := hl; exact Heap.lt_size e
  have hl2 : (s.heap.push { cls := .type "tuple_iterator", data := .fields #[.ref l, .int 0 0] }).IsTuple l (intItems xs) := let ⟨o', ho, r⟩ := hl; ⟨o', Heap.get?_push_of_some _ ho, r⟩
  refine call_min_walk (wpAny_pyIter_tuple hl ?_)
  refine ⟨_, _, _, _, _, _, _, rfl, Walks.tuple (A := A.in1) hh s.heap.objs.size l (Nat.ne_of_lt hlt) (intItems xs), ⟨⟨_, Heap.get?_push_size _ rfl, rfl, rfl⟩, hl2⟩, fun b hb => ?_, by simpa [intItems] using hsz, CmpOf.ints_lt (numAt xs) (fun _ _ => intItems_at), fun v h' tk hP hk => ?_⟩
  · show b < (s.heap.push _).objs.size
    rw [Heap.size_push]
    rcases List.mem_cons.mp hb with rfl | hb
    · exact Nat.lt_succ_self _
    · rcases List.mem_cons.mp hb with rfl | hb
      · exact Nat.lt_succ_of_lt hlt
      · cases hb
  · have hv : (intItems xs)[argBest (fun i j => decide (numAt xs i < numAt xs j)) (xs.size - 1)]? = some v := by simpa [intItems] using hP
    obtain ⟨t, rfl⟩ := intItems_at hv
    obtain ⟨h1, h2⟩ := argBest_lt (numAt xs) (xs.size - 1)
    refine h h' tk _ t (fun b o e => ?_) ?_ fun a ha => ?_
    · refine hk b o (fun hm => ?_) (Heap.get?_push_of_some _ e)
      rcases List.mem_cons.mp hm with e1 | hm
      · exact absurd (e1 ▸ Heap.lt_size e) (Nat.lt_irrefl _)
      · cases hm
    · rw [numAt_eq]; exact PySem.getD_mem (by rw [List.length_map, Array.length_toList]; omega)
    · obtain ⟨j, hj, rfl⟩ := mem_getD ha
      rw [List.length_map, Array.length_toList] at hj
      rw [← numAt_eq]; exact h2 j (by omega)
theorem cr_minT (hc : X.calm = true) : CallR X (.builtin "min") (fun vs H Q => ∃ (a : Addr) (ns : List Int), vs = [V.ref a] ∧ SqT X.K H a (ns.map V.int) ∧ 0 < ns.length ∧ ∀ m, m ∈ ns → (∀ y, y ∈ ns → m ≤ y) → Q (.int m) H) := by
  intro pins s σ H vs us Q I r h
  obtain ⟨a, ns, rfl, hs, hne, q⟩ := h
  obtain ⟨its, rv, hl, _⟩ := I.tuple hs
  rw [Vals.ref1 r]
  exact min_tupR (I.ok.hd hc) hl rv.ints hne fun h' tk m t' hk h1 h2 => ⟨.int _, H, I.kept hk, ⟨_, rfl⟩, q m h1 h2⟩
theorem blt_min (hc : X.calm = true) : CallR X (.builtin "min") (rB X.K (bltD .min)) := by
  intro pins s σ H vs us Q I r h
  obtain ⟨ds, A, Kk, rr, q, fin⟩ := h
  match ds, rr, q with
  | [.int i, .int j], rr, q =>
    obtain ⟨v, w, B, C, rfl, r1, r2, rfl⟩ := reps2 rr
    obtain ⟨rfl, rfl⟩ := r1.int_inv
    obtain ⟨rfl, rfl⟩ := r2.int_inv
    exact call_min2 hc pins s σ H _ us Q I r ⟨i, j, rfl, fin _ _ q (by rw [show min i j = (if j < i then j else i) by omega]; exact .int _)⟩
  | [.lst xs], rr, q =>
    obtain ⟨ns, e, ne, q⟩ := q
    obtain rfl := ints_map e
    obtain ⟨v, rfl, r1⟩ := reps1 rr
    obtain ⟨a, ws, B, rfl, rfl, ea, ra⟩ := r1.lst_inv
    obtain ⟨rfl, rfl⟩ := ra.ints
    exact cr_min hc pins s σ H _ us Q I r ⟨a, ns, rfl, SqL.of ea, List.length_pos_iff.mpr ne, fun m h1 h2 => fin _ _ (q m h1 h2) (.int _)⟩
  | [.tup xs], rr, q =>
    obtain ⟨ns, e, ne, q⟩ := q
    obtain rfl := ints_map e
    obtain ⟨v, rfl, r1⟩ := reps1 rr
    obtain ⟨a, ws, rfl, ea, ra⟩ := r1.tup_inv
    obtain ⟨rfl, rfl⟩ := ra.ints
    exact cr_minT hc pins s σ H _ us Q I r ⟨a, ns, rfl, SqT.of ea, List.length_pos_iff.mpr ne, fun m h1 h2 => fin _ _ (q m h1 h2) (.int _)⟩
theorem blt_max (hc : X.calm = true) : CallR X (.builtin "max") (rB X.K (bltD .max)) := by
  intro pins s σ H vs us Q I r h
  obtain ⟨ds, A, Kk, rr, q, fin⟩ := h
  match ds, rr, q with
  | [.int i, .int j], rr, q =>
    obtain ⟨v, w, B, C, rfl, r1, r2, rfl⟩ := reps2 rr
    obtain ⟨rfl, rfl⟩ := r1.int_inv
    obtain ⟨rfl, rfl⟩ := r2.int_inv
    exact call_max2 hc pins s σ H _ us Q I r ⟨i, j, rfl, fin _ _ q (by rw [show max i j = (if j > i then j else i) by omega]; exact .int _)⟩
  | [.lst xs], rr, q =>
    obtain ⟨ns, e, ne, q⟩ := q
    obtain rfl := ints_map e
    obtain ⟨v, rfl, r1⟩ := reps1 rr
    obtain ⟨a, ws, B, rfl, rfl, ea, ra⟩ := r1.lst_inv
    obtain ⟨rfl, rfl⟩ := ra.ints
    exact cr_max hc pins s σ H _ us Q I r ⟨a, ns, rfl, SqL.of ea, List.length_pos_iff.mpr ne, fun m h1 h2 => fin _ _ (q m h1 h2) (.int _)⟩
theorem Reps.reverse : ∀ {vs : List V} {ds : List D} {A : List Addr}, Reps K H vs ds A → ∃ B, Reps K H vs.reverse ds.reverse B ∧ (∀ a ∈ B, a ∈ A) ∧ (A.Nodup → B.Nodup)
  | _, _, _, .nil => ⟨[], .nil, fun _ h => h, fun h => h⟩
  | _, _, _, .cons (A := A) (B := C) r rs => by
    obtain ⟨B, h1, h2, h3⟩ := Reps.reverse rs
    refine ⟨B ++ A, ?_, fun a h => ?_, fun h => ?_⟩
    · rw [List.reverse_cons, List.reverse_cons]; exact h1.append (Reps.one r)
    · rcases List.mem_append.mp h with h | h
      · exact List.mem_append_right _ (h2 a h)
      · exact List.mem_append_left _ h
    · obtain ⟨n1, n2, n3⟩ := List.nodup_append.mp h
      exact List.nodup_append.mpr ⟨h3 n2, n1, fun a ha b hb e => n3 b hb a (h2 a ha) e.symm⟩
theorem mem_dd {x : Int} : ∀ {xs : List Int}, x ∈ dd xs ↔ x ∈ xs
  | [] => Iff.rfl
  | y :: r => by
    unfold dd
    split
    · next h =>
      rw [mem_dd, List.mem_cons]
      exact ⟨.inr, fun q => q.elim (fun e => e ▸ h) id⟩
    · rw [List.mem_cons, List.mem_cons, mem_dd]
theorem nodup_dd : ∀ {xs : List Int}, (dd xs).Nodup
  | [] => List.nodup_nil
  | y :: r => by
    unfold dd
    split
    · exact nodup_dd
    · next h => exact List.nodup_cons.mpr ⟨fun q => h (mem_dd.mp q), nodup_dd⟩
theorem isort_dd {ns ms : List Int} (h : ms.Pairwise (· < ·)) (m : ∀ k, k ∈ ms ↔ k ∈ ns) : ms = isort (dd ns) := by
  refine isort_eq ?_ (h.imp fun a => Int.le_of_lt a)
  exact (List.perm_ext_iff_of_nodup (h.imp fun a => by omega) nodup_dd).mpr fun k => by rw [m, mem_dd]
theorem len_dd {ns ms : List Int} (h : ms.Nodup) (m : ∀ k, k ∈ ms ↔ k ∈ ns) : ms.length = (dd ns).length :=
  ((List.perm_ext_iff_of_nodup h nodup_dd).mpr fun k => by rw [m, mem_dd]).length_eq
/-- copies: a new object over the same kids -/
def rCp (K : PySem.W.Frag) (f : Cpy) : List V → Hp → VK → Prop := fun vs H Q => ∃ x d A Kk, vs = [x] ∧ Rep K H x d A ∧ cpyD f d Kk ∧
  ∀ z v H' C, Kk z → Same H H' → Rep K H' v z C → (∃ B, ((∀ a ∈ B, a ∈ tl d A) ∧ ((tl d A).Nodup → B.Nodup)) ∧ (z.isM = true → ∃ p, C = p :: B ∧ H p = none) ∧ (z.isM = false → C = B)) → Q v H'
theorem reps_keys {K : PySem.W.Frag} {H : Hp} : ∀ ks : List Key, Reps K H (ks.map kV) (ks.map keyD) []
  | [] => .nil
  | k :: r => by
    have h : Rep K H (kV k) (keyD k) [] := by
      cases k with
      | inl i => exact .int i
      | inr x => exact .str x
    exact .cons h (reps_keys r)
theorem cpy_list (hc : X.calm = true) : CallR X (.type "list") (rCp X.K .list) := by
  intro pins s σ H vs us Q I r h
  obtain ⟨x, d, A, Kk, rfl, r1, q, fin⟩ := h
  cases d <;> try (exact False.elim q)
  · obtain ⟨a, ws, rfl, ea, ra⟩ := r1.tup_inv
    refine call_list_of pins s σ H _ us Q I r ⟨a, ws, rfl, .inr (SqT.of ea), fun l hl => ?_⟩
    exact fin _ _ _ _ q (Same.updp hl) (.lst upd_same (ra.same (Same.updp hl))) ⟨_, ⟨fun _ h => h, fun h => h⟩, fun _ => ⟨l, rfl, hl⟩, fun z => by cases z⟩
  · obtain ⟨a, ws, B, rfl, rfl, ea, ra⟩ := r1.lst_inv
    refine call_list_of pins s σ H _ us Q I r ⟨a, ws, rfl, .inl (SqL.of ea), fun l hl => ?_⟩
    exact fin _ _ _ _ q (Same.updp hl) (.lst upd_same (ra.same (Same.updp hl))) ⟨_, ⟨fun _ h => h, fun h => h⟩, fun _ => ⟨l, rfl, hl⟩, fun z => by cases z⟩
  · rename_i ks ds
    obtain ⟨a, ws, B, rfl, rfl, ea, hl, ra⟩ := r1.dic_inv
    refine call_list_dK hc pins s σ H _ us Q I r ⟨a, ks.zip ws, rfl, ea, fun l hl' => ?_⟩
    have e : (ks.zip ws).map (fun kv => kV kv.1) = ks.map kV := by
      have z : (ks.zip ws).map (·.1) = ks := List.map_fst_zip (by omega)
      conv => rhs; rw [← z, List.map_map]
      rfl
    rw [e]
    exact fin _ _ _ _ q (Same.updp hl') (.lst upd_same (reps_keys ks)) ⟨[], ⟨fun _ h => absurd h List.not_mem_nil, fun _ => List.nodup_nil⟩, fun _ => ⟨l, rfl, hl'⟩, fun z => by cases z⟩
theorem cpy_tuple (hc : X.calm = true) : CallR X (.type "tuple") (rCp X.K .tuple) := by
  intro pins s σ H vs us Q I r h
  obtain ⟨x, d, A, Kk, rfl, r1, q, fin⟩ := h
  cases d <;> try (exact False.elim q)
  · obtain ⟨a, ws, B, rfl, rfl, ea, ra⟩ := r1.lst_inv
    refine call_tuple_of pins s σ H _ us Q I r ⟨a, ws, rfl, .inl ⟨SqL.of ea, fun l hl => ?_⟩⟩
    exact fin _ _ _ _ q (Same.updp hl) (.tup upd_same (ra.same (Same.updp hl))) ⟨_, ⟨fun _ h => h, fun h => h⟩, ⟨fun z => (by cases z), fun _ => rfl⟩⟩
theorem cpy_sorted (hc : X.calm = true) : CallR X (.builtin "sorted") (rCp X.K .sorted) := by
  intro pins s σ H vs us Q I r h
  obtain ⟨x, d, A, Kk, rfl, r1, q, fin⟩ := h
  cases d <;> try (exact False.elim q)
  · obtain ⟨ns, e, q⟩ := q
    obtain rfl := ints_map e
    obtain ⟨a, ws, B, rfl, rfl, ea, ra⟩ := r1.lst_inv
    obtain ⟨rfl, rfl⟩ := ra.ints
    refine cr_sortedI pins s σ H _ us Q I r ⟨a, ns, rfl, SqL.of ea, fun ns' l p1 p2 hl => ?_⟩
    have e := isort_eq p1 p2
    subst e
    exact fin _ _ _ _ q (Same.updp hl) (rep_ints upd_same) ⟨[], ⟨fun _ h => absurd h List.not_mem_nil, fun _ => List.nodup_nil⟩, fun _ => ⟨l, rfl, hl⟩, fun z => by cases z⟩
theorem Reps.perm {K : PySem.W.Frag} {H : Hp} {ps qs : List (V × D)} (p : ps.Perm qs) : ∀ {A}, Reps K H (ps.map (·.1)) (ps.map (·.2)) A → ∃ C, Reps K H (qs.map (·.1)) (qs.map (·.2)) C ∧ C.Perm A := by
  induction p with
  | nil => intro A r; exact ⟨A, r, .refl _⟩
  | cons x p ih =>
    intro A r
    cases r with
    | cons r1 r2 =>
      obtain ⟨C, rc, pc⟩ := ih r2
      exact ⟨_, .cons r1 rc, pc.append_left _⟩
  | swap x y l =>
    intro A r
    cases r with
    | cons r1 r2 =>
      cases r2 with
      | cons r2 r3 =>
        refine ⟨_, .cons r2 (.cons r1 r3), ?_⟩
        rw [← List.append_assoc, ← List.append_assoc]
        exact List.perm_append_comm.append_right _
  | trans p1 p2 ih1 ih2 =>
    intro A r
    obtain ⟨C, rc, pc⟩ := ih1 r
    obtain ⟨E, re, pe⟩ := ih2 rc
    exact ⟨E, re, pe.trans pc⟩
theorem decR_some {b : Bool} {x : D} {l : List Int} (h : decR b x = some l) : x = encR b l := by
  cases b <;> cases x <;> first | (exfalso; simp [decR] at h; done) | (rw [ints_map (show D.ints _ = some l from h)]; rfl)
theorem decL_some {b : Bool} : ∀ {xs : List D} {L : List (List Int)}, decL b xs = some L → xs = L.map (encR b)
  | [], L, h => by cases h; rfl
  | x :: r, L, h => by
    unfold decL at h
    split at h
    · rename_i l L' h1 h2
      cases h
      rw [List.map_cons, ← decR_some h1, ← decL_some h2]
    · cases h
theorem dpAll_rows {K : PySem.W.Frag} {H : Hp} {b : Bool} : ∀ {L : List (List Int)} {ws : List V} {A : List Addr}, Reps K H ws (L.map (encR b)) A → DpAll K H ws (L.map (pyR b))
  | [], ws, A, r => by cases r; exact .nil
  | l :: L, ws, A, r => by
    cases r with
    | cons r1 r2 => exact .cons (dp_row r1) (dpAll_rows r2)
theorem cpy_sortd (hc : X.calm = true) (hu : X.A.units + 65 < cLine) : CallR X (.builtin "sorted") (rCp X.K .sortd) := by
  intro pins s σ H vs us Q I r h
  obtain ⟨x, d, A, Kk, rfl, r1, q, fin⟩ := h
  cases d <;> try (exact False.elim q)
  obtain ⟨b, L, e, ne, q⟩ := q
  obtain rfl := decL_some e
  obtain ⟨a, ws, B, rfl, rfl, ea, ra⟩ := r1.lst_inv
  refine cr_sortedR (b := b) hu pins s σ H _ us Q I r ⟨a, ws, L, rfl, SqL.of ea, dpAll_rows ra, ne, fun ps p1 p2 l hl => ?_⟩
  have lw : ws.length = L.length := by have := ra.length; rwa [List.length_map] at this
  have z1 : (ws.zip L).map (·.1) = ws := List.map_fst_zip (by omega)
  have z2 : (ws.zip L).map (·.2) = L := List.map_snd_zip (by omega)
  have p3 := p1.symm.map fun q : V × List Int => (q.1, encR b q.2)
  have m1 : ((ws.zip L).map fun q : V × List Int => (q.1, encR b q.2)).map (·.1) = ws := by rw [List.map_map]; exact z1
  have m2 : ((ws.zip L).map fun q : V × List Int => (q.1, encR b q.2)).map (·.2) = L.map (encR b) := by
    rw [List.map_map]
    conv => rhs; rw [← z2, List.map_map]
    rfl
  obtain ⟨C, rc, pc⟩ := Reps.perm p3 (A := B) (by rw [m1, m2]; exact ra)
  have n1 : (ps.map fun q : V × List Int => (q.1, encR b q.2)).map (·.1) = ps.map (·.1) := by rw [List.map_map]; rfl
  have n2 : (ps.map fun q : V × List Int => (q.1, encR b q.2)).map (·.2) = (srtR L).map (encR b) := by rw [List.map_map, ← p2, List.map_map]; rfl
  rw [n1, n2] at rc
  exact fin _ _ _ _ q (Same.updp hl) (.lst upd_same (rc.same (Same.updp hl))) ⟨C, ⟨fun x hx => pc.mem_iff.mp hx, fun h => pc.nodup_iff.mpr h⟩, fun _ => ⟨l, rfl, hl⟩, fun z => by cases z⟩
/-- isinstance -/
theorem isi_ok {x : V} {d : D} {A : List Addr} (y : Ty) (r : Rep K H x d A) (hf : ∀ ds, d ≠ .fro ds) : ∃ t, TyX K H x t ∧ PySem.W.kitOne K t (.type y.name) = some (isiD y d) := by
  cases r with
  | non => exact ⟨_, .base .non, kit_ty (by cases y <;> decide +kernel)⟩
  | bl b => exact ⟨_, .base (.bl b), kit_ty (by cases y <;> (simp only [Ty.name, isiD]; decide +kernel))⟩
  | int i => exact ⟨_, .base (.int i), kit_ty (by cases y <;> (simp only [Ty.name, isiD]; decide +kernel))⟩
  | str z => exact ⟨_, .base (.str z), kit_ty (by cases y <;> (simp only [Ty.name, isiD]; decide +kernel))⟩
  | tup e _ => exact ⟨_, .base (.tup e), kit_ty (by cases y <;> (simp only [Ty.name, isiD]; decide +kernel))⟩
  | lst e _ => exact ⟨_, .base (.lst e), kit_ty (by cases y <;> (simp only [Ty.name, isiD]; decide +kernel))⟩
  | fro e _ => exact absurd rfl (hf _)
  | froK e _ => exact absurd rfl (hf _)
  | set e _ => exact ⟨_, .set e, kit_ty (by cases y <;> (simp only [Ty.name, isiD]; decide +kernel))⟩
  | dic e _ _ => exact ⟨_, .base (.dK e), kit_ty (by cases y <;> (simp only [Ty.name, isiD]; decide +kernel))⟩
end
end R

namespace R
open PySem PySem.Spec PyProof.Rows L2
section
variable (t : Tab) (Γ : List SpD)
def SndE (c : Ex) : Prop := ∀ (X : Cx) (nm : Nm) (fnB : Str → Bool), Good X t nm fnB Γ → ∀ (e : Expr), okE t nm c e = true → ∀ (m : Md) (H0 : Base) (Z : List (Nat × Addr)) (ρ : Pl) (σ : L2.St) (H : Hp) (W : Nat → List Addr) (Kk : KE) (Q : VK),
  RL X.K H0 Z ρ σ H W → wpE Γ m c ρ Kk → (∀ d l ρ' v H' A, Kk d l ρ' → Out X.K Z m ρ H W d l ρ' v H' A → Q v H') → SE X e σ H Q
def SndT (c : Ex) : Prop := noIte c = true → ∀ (X : Cx) (nm : Nm) (fnB : Str → Bool), Good X t nm fnB Γ → ∀ (e : Expr), okE t nm c e = true → ∀ (H0 : Base) (Z : List (Nat × Addr)) (ρ : Pl) (σ : L2.St) (H : Hp) (W : Nat → List Addr) (k : Bool → Prop) (Q : Bool → Hp → Prop),
  RL X.K H0 Z ρ σ H W → (wpE Γ .bor c ρ fun x _ _ => ∃ b, x = .bl b ∧ k b) → (∀ b H', k b → Same H H' → Q b H') → ST X e σ H Q
def SndW (c : Ex) : Prop := ∀ (X : Cx) (nm : Nm) (fnB : Str → Bool), Good X t nm fnB Γ → ∀ (op : PySem.BoolOp) (vs : List Expr) (pos : Pos), okE t nm c (.BoolOp op vs pos) = true → ∀ (H0 : Base) (Z : List (Nat × Addr)) (ρ : Pl) (σ : L2.St) (H : Hp) (W : Nat → List Addr) (k : Bool → Prop) (Q : Bool → Hp → Prop),
  RL X.K H0 Z ρ σ H W → (wpE Γ .bor c ρ fun x _ _ => ∃ b, x = .bl b ∧ k b) → (∀ b H', k b → Same H H' → Q b H') → SW X (.BoolOp op vs pos) σ H Q
structure Snd (c : Ex) : Prop where
  e : SndE t Γ c
  T : SndT t Γ c
  w : SndW t Γ c
def SndEs (c : Exs) : Prop := ∀ (X : Cx) (nm : Nm) (fnB : Str → Bool), Good X t nm fnB Γ → ∀ (es : List Expr), okEs t nm c es = true → ∀ (m : Md) (H0 : Base) (Z : List (Nat × Addr)) (ρ : Pl) (σ : L2.St) (H : Hp) (W : Nat → List Addr) (Kk : List D → Bool → Pl → Prop) (Q : List V → Hp → Prop),
  RL X.K H0 Z ρ σ H W → wpEs Γ m c ρ Kk → (∀ ds al ρ' vs H' A, Kk ds al ρ' → Reps X.K H' vs ds A → Same H H' → DemE ρ ρ' →
    (m = .own → ∃ O S, Cl H Z ρ ρ' W O S ∧ (∀ a, a ∈ A ↔ a ∈ O ∨ a ∈ S) ∧ (al = true → O = A ∧ S = [])) → Q vs H') → SA X es σ H Q
end
section
variable {t : Tab} {Γ : List SpD} {X : Cx} {nm : Nm} {fnB : Str → Bool}
/-- a form whose test is its value's -/
def boolop : Expr → Bool | .BoolOp .. => true | .IfExp .. => true | .UnaryOp .Not _ _ => true | .Compare .. => true | _ => false
theorem plainT {e : Expr} (h : boolop e = false) : ∀ whole, isTrue e X.env whole = (do let v ← whole; standAt e.pos; holding [v] (truthy v)) := by
  intro whole
  cases e <;> first | rfl | (simp [boolop] at h; done) | (rename_i o _ _; cases o <;> first | rfl | (simp [boolop] at h))
theorem mkSnd {c : Ex} (h : SndE t Γ c) (hb : ∀ nm e, okE t nm c e = true → boolop e = false) : Snd t Γ c where
  e := h
  T := fun _ X nm fnB g e ok H0 Z ρ σ H W k Q r w q => by
    refine stOf (pt_val peS (plainT (hb nm e ok))) ?_
    exact h X nm fnB g e ok .bor H0 Z ρ σ H W _ _ r w fun d l ρ' v H' A ⟨b, e1, kb⟩ o => by
      subst e1
      exact ⟨b, (o.rep.bl_inv).1, q b H' kb o.same⟩
  w := fun X nm fnB g op vs pos ok => by
    have := hb nm _ ok
    simp [boolop] at this
theorem snd_nop : Snd t Γ .nop := mkSnd (fun X nm fnB g e ok => by simp [okE] at ok) fun nm e ok => by simp [okE] at ok
theorem snd_num {i : Int} : Snd t Γ (.num i) := mkSnd (fun X nm fnB g e ok m H0 Z ρ σ H W Kk Q r w q => by
  simp only [okE] at ok
  split at ok
  · simp only [beq_iff_eq] at ok
    subst ok
    exact seOf pe_int (q _ _ _ _ _ _ w (.scal (.int i) Same.refl))
  · cases ok) fun nm e ok => by cases e <;> first | rfl | (simp [okE] at ok)
theorem snd_bool {i : Bool} : Snd t Γ (.bool i) := mkSnd (fun X nm fnB g e ok m H0 Z ρ σ H W Kk Q r w q => by
  simp only [okE] at ok
  split at ok
  · simp only [beq_iff_eq] at ok
    subst ok
    exact seOf pe_bl (q _ _ _ _ _ _ w (.scal (.bl i) Same.refl))
  · cases ok) fun nm e ok => by cases e <;> first | rfl | (simp [okE] at ok)
theorem snd_non : Snd t Γ .non := mkSnd (fun X nm fnB g e ok m H0 Z ρ σ H W Kk Q r w q => by
  simp only [okE] at ok
  split at ok
  · exact seOf pe_non (q _ _ _ _ _ _ w (.scal .non Same.refl))
  · cases ok) fun nm e ok => by cases e <;> first | rfl | (simp [okE] at ok)
theorem snd_str {i : Str} : Snd t Γ (.str i) := mkSnd (fun X nm fnB g e ok m H0 Z ρ σ H W Kk Q r w q => by
  simp only [okE] at ok
  split at ok
  · simp only [decide_eq_true_eq] at ok
    subst ok
    exact seOf pe_str (q _ _ _ _ _ _ w (.scal (.str i) Same.refl))
  · cases ok) fun nm e ok => by cases e <;> first | rfl | (simp [okE] at ok)
/-- a name's places -/
theorem pO_froz {m : Md} {d : D} {A : List Addr} : pO m .froz d A = [] := by cases m <;> rfl
theorem varOut {K : PySem.W.Frag} {Z : List (Nat × Addr)} {m : Md} {ρ ρ' : Pl} {H0 : Base} {H : Hp} {σ : L2.St} {W : Nat → List Addr} {i : Nat} {d : D} (r : RL K H0 Z ρ σ H W) (dm : DemE ρ ρ') (hl : (ρ.pt i).live = true) (hd : (ρ.pt i).d = d)
    (hs : ∀ a ∈ pS m .froz d (W i), a ∈ (ρ'.pt i).shr (W i)) : ∃ v, σ[i]? = some (some v) ∧ Out K Z m ρ H W d .froz ρ' v H (W i) := by
  obtain ⟨v, hv, rv⟩ := r.rep i hl
  rw [hd] at rv
  have r' := r.dem dm
  refine ⟨v, hv, rv, Same.refl, dm, ?_⟩
  rw [pO_froz]
  exact ⟨List.nodup_nil, fun a h => absurd h List.not_mem_nil, fun a h => ⟨List.not_mem_nil, r'.zsh i a (hs a h), .inr ⟨i, (dm.dem i).shr (hs a h)⟩, fun j => r'.sh i j a (hs a h)⟩⟩
theorem Out.var {K : PySem.W.Frag} {Z : List (Nat × Addr)} {m : Md} {ρ : Pl} {H0 : Base} {H : Hp} {σ : L2.St} {W : Nat → List Addr} {i : Nat} {Kk : KE} {Q : VK} (r : RL K H0 Z ρ σ H W) (w : varD m ρ i Kk)
    (q : ∀ d l ρ' v H' A, Kk d l ρ' → Out K Z m ρ H W d l ρ' v H' A → Q v H') : ∃ v, σ[i]? = some (some v) ∧ Q v H := by
  have fin : ∀ d ρ', Kk d .froz ρ' → DemE ρ ρ' → (ρ.pt i).live = true → (ρ.pt i).d = d → (∀ a ∈ pS m .froz d (W i), a ∈ (ρ'.pt i).shr (W i)) → ∃ v, σ[i]? = some (some v) ∧ Q v H := fun d ρ' k dm hl hd hs => by
    obtain ⟨v, hv, o⟩ := varOut r dm hl hd hs
    exact ⟨v, hv, q _ _ _ _ _ _ k o⟩
  have lt : ∀ {c : Cell}, ρ.pt i = c → c.live = true → i < ρ.length := fun e l => pt_lt (by rw [e]; intro z; subst z; cases l)
  have tls : ∀ {d : D} {a : Addr}, a ∈ tl d (W i) → a ∈ W i := fun h => by
    unfold tl at h; split at h
    · exact List.mem_of_mem_drop h
    · exact h
  cases hc : ρ.pt i with
  | un => unfold varD at w; rw [hc] at w; cases m <;> exact w.elim
  | fz d =>
    unfold varD at w; rw [hc] at w
    have w : Kk d .froz ρ := by cases m <;> exact w
    refine fin d ρ w .refl (by rw [hc]; rfl) (by rw [hc]; rfl) fun a h => ?_
    rw [hc]
    exact pS_sub h
  | ln d =>
    unfold varD at w; rw [hc] at w
    cases m with
    | own => exact w.elim
    | bor => exact fin d ρ w .refl (by rw [hc]; rfl) (by rw [hc]; rfl) fun a h => absurd h List.not_mem_nil
    | kid => exact fin d ρ w .refl (by rw [hc]; rfl) (by rw [hc]; rfl) fun a h => by rw [hc]; exact h
  | tp d =>
    unfold varD at w; rw [hc] at w
    cases m with
    | own => exact fin d _ w (.set (by rw [hc]; exact .tpfz d)) (by rw [hc]; rfl) (by rw [hc]; rfl) fun a h => by rw [pt_set_self (lt hc rfl)]; exact pS_sub h
    | bor => exact fin d ρ w .refl (by rw [hc]; rfl) (by rw [hc]; rfl) fun a h => absurd h List.not_mem_nil
    | kid => exact fin d ρ w .refl (by rw [hc]; rfl) (by rw [hc]; rfl) fun a h => by rw [hc]; exact h
  | dp d =>
    unfold varD at w; rw [hc] at w
    cases m with
    | own => exact fin d _ w (.set (by rw [hc]; exact .dpfz d)) (by rw [hc]; rfl) (by rw [hc]; rfl) fun a h => by rw [pt_set_self (lt hc rfl)]; exact pS_sub h
    | bor => exact fin d ρ w .refl (by rw [hc]; rfl) (by rw [hc]; rfl) fun a h => absurd h List.not_mem_nil
    | kid => exact fin d _ w (.set (by rw [hc]; exact .dptp d)) (by rw [hc]; rfl) (by rw [hc]; rfl) fun a h => by rw [pt_set_self (lt hc rfl)]; exact h
theorem Out.take {K : PySem.W.Frag} {Z : List (Nat × Addr)} {m : Md} {ρ : Pl} {H0 : Base} {H : Hp} {σ : L2.St} {W : Nat → List Addr} {i : Nat} {Kk : KE} {Q : VK} (r : RL K H0 Z ρ σ H W) (w : takeD m ρ i Kk)
    (q : ∀ d l ρ' v H' A, Kk d l ρ' → Out K Z m ρ H W d l ρ' v H' A → Q v H') : ∃ v, σ[i]? = some (some v) ∧ Q v H := by
  have fin : ∀ (c : Cell) (d : D) (l : Lv), ρ.pt i = c → c = lvC l d → (∀ d, c ≠ .ln d) → c.live = true → Kk d l (ρ.set i .un) → ∃ v, σ[i]? = some (some v) ∧ Out K Z .own ρ H W d l (ρ.set i .un) v H (W i) := fun c d l e el hn hl hk => by
    obtain ⟨v, hv, rv⟩ := r.rep i (by rw [e]; exact hl)
    have hd : (ρ.pt i).d = d := by rw [e, el]; cases l <;> rfl
    rw [hd] at rv
    have dm : DemE ρ (ρ.set i .un) := .set (.un _ (by rw [e]; exact hn))
    have hi : i < ρ.length := pt_lt (by rw [e]; intro z; subst z; cases hl)
    have r' := r.dem dm
    have hc : ρ.pt i = lvC l d := e.trans el
    refine ⟨v, hv, ⟨rv, Same.refl, dm, ?_⟩⟩
    have off : ∀ j a, (a ∈ ((ρ.set i .un).pt j).own (W j) → j ≠ i ∧ a ∈ (ρ.pt j).own (W j)) ∧ (a ∈ ((ρ.set i .un).pt j).shr (W j) → j ≠ i ∧ a ∈ (ρ.pt j).shr (W j)) := fun j a => by
      by_cases ji : i = j
      · subst ji
        rw [pt_set_self hi]
        exact ⟨fun z => (absurd z List.not_mem_nil), fun z => (absurd z List.not_mem_nil)⟩
      · rw [pt_set_ne ji]
        exact ⟨fun z => ⟨fun z => ji z.symm, z⟩, fun z => ⟨fun z => ji z.symm, z⟩⟩
    refine ⟨?_, fun a h => ⟨.inr ⟨i, by rw [hc]; exact h⟩, fun j => ⟨fun z => ?_, fun z => ?_⟩⟩, fun a h => ⟨?_, ?_, .inr ⟨i, .inr (by rw [hc]; exact h)⟩, fun j z => ?_⟩⟩
    · have := r.nd i; rw [hc] at this; exact this
    · obtain ⟨n, z⟩ := (off j a).1 z
      exact r.dj i j a (fun z => n z.symm) (by rw [hc]; exact h) z
    · obtain ⟨n, z⟩ := (off j a).2 z
      exact r.sh j i a z (by rw [hc]; exact h)
    · have := r.sh i i a (by rw [hc]; exact h); rw [hc] at this; exact this
    · exact r.zsh i a (by rw [hc]; exact h)
    · obtain ⟨n, z⟩ := (off j a).1 z
      exact r.sh i j a (by rw [hc]; exact h) z
  unfold takeD at w
  split at w
  · rename_i d e
    obtain ⟨v, hv, o⟩ := fin _ d .top e rfl (fun d z => by cases z) rfl w
    exact ⟨v, hv, q _ _ _ _ _ _ w o⟩
  · rename_i d e
    obtain ⟨v, hv, o⟩ := fin _ d .deep e rfl (fun d z => by cases z) rfl w
    exact ⟨v, hv, q _ _ _ _ _ _ w o⟩
  · rename_i d e
    obtain ⟨v, hv, o⟩ := fin _ d .deep e rfl (fun d z => by cases z) rfl w
    refine ⟨v, hv, q _ _ _ _ _ _ w ⟨o.rep, o.same, o.dem, ?_⟩⟩
    have c : Cl H Z ρ (ρ.set i .un) W (W i) [] := o.cl
    have sub : ∀ a ∈ tl d (W i), a ∈ W i := fun a h => by
      unfold tl at h; split at h
      · exact List.mem_of_mem_drop h
      · exact h
    have nd : (tl d (W i)).Nodup := by
      unfold tl; split
      · exact c.nd.sublist (List.drop_sublist _ _)
      · exact c.nd
    exact c.less (O' := tl d (W i)) (S' := []) nd sub (fun a h => absurd h List.not_mem_nil) (fun a h => absurd h List.not_mem_nil) (c.oz r)
  · exact Out.var r w q
theorem okV_inv {nm : Nm} {i : Nat} {e : Expr} (h : okV t nm i e = true) : ∃ x p, e = .Name x p ∧ t.N[i]? = some x ∧ visB nm x = true ∧ (x == ("__debug__" : Str)) = false ∧ (x == ("__classdict__" : Str)) = false := by
  unfold okV at h
  split at h
  · simp only [Bool.and_eq_true, decide_eq_true_eq, Bool.not_eq_true'] at h
    exact ⟨_, _, rfl, h.1.1.1, h.1.1.2, h.1.2, h.2⟩
  · cases h
theorem snd_var {i : Nat} : Snd t Γ (.var i) := mkSnd (fun X nm fnB g e ok m H0 Z ρ σ H W Kk Q r w q => by
  obtain ⟨x, p, rfl, h1, h2, h3, h4⟩ := okV_inv ok
  exact seOf (pe_var (by rw [g.N]; exact h1) (g.vis h2) h3 h4) (Out.var r w q)) fun nm e ok => by
    obtain ⟨x, p, rfl, _⟩ := okV_inv ok
    rfl
theorem snd_take {i : Nat} : Snd t Γ (.take i) := mkSnd (fun X nm fnB g e ok m H0 Z ρ σ H W Kk Q r w q => by
  obtain ⟨x, p, rfl, h1, h2, h3, h4⟩ := okV_inv ok
  exact seOf (pe_var (by rw [g.N]; exact h1) (g.vis h2) h3 h4) (Out.take r w q)) fun nm e ok => by
    obtain ⟨x, p, rfl, _⟩ := okV_inv ok
    rfl
end
end R

namespace R
open PySem PySem.Spec PyProof.Rows L2
section
variable {t : Tab} {Γ : List SpD}
theorem Out.fresh {K : PySem.W.Frag} {Z : List (Nat × Addr)} {m : Md} {ρ : Pl} {H0 : Base} {H H' : Hp} {σ : L2.St} {W : Nat → List Addr} {d : D} {v : V} {C : List Addr} (r : RL K H0 Z ρ σ H W) (s : Same H H') (rv : Rep K H' v d C) (nd : C.Nodup)
    (h : ∀ a ∈ C, H a = none) : Out K Z m ρ H W d .deep ρ v H' C := by
  have nW : ∀ a ∈ C, ∀ i, ¬ (a ∈ W i ∧ (ρ.pt i).live = true) := fun a ha i z => by
    obtain ⟨o, e, _⟩ := r.dom z
    rw [h a ha] at e; cases e
  have base : Cl H Z ρ ρ W C [] := ⟨nd, fun a ha => ⟨.inl (h a ha), fun i => ⟨fun z => nW a ha i (own_W z), fun z => nW a ha i (shr_W z)⟩⟩, fun a ha => absurd ha List.not_mem_nil⟩
  refine ⟨rv, s, .refl, ?_⟩
  cases m with
  | bor => exact .nil
  | own => exact base
  | kid =>
    refine base.less ?_ ?_ (fun a h => absurd h List.not_mem_nil) (fun a h => absurd h List.not_mem_nil) (base.oz r)
    · show (tl d C).Nodup
      unfold tl; split
      · exact nd.sublist (List.drop_sublist 1 C)
      · exact nd
    · intro a ha
      have ha : a ∈ tl d C := ha
      unfold tl at ha; split at ha
      · exact List.mem_of_mem_drop ha
      · exact ha
theorem snd_con {x : Str} {d : D} : Snd t Γ (.con x d) := mkSnd (fun X nm fnB g e ok m H0 Z ρ σ H W Kk Q r w q => by
  simp only [okE] at ok
  split at ok
  · rename_i y p
    simp only [Bool.and_eq_true, decide_eq_true_eq, Bool.not_eq_true', List.any_eq_true] at ok
    obtain ⟨⟨⟨rfl, h1⟩, h2⟩, p, hp, h3, h4⟩ := ok
    obtain rfl := sEq_eq h4
    subst h3
    obtain ⟨u, v, hm, rv, hi, hr⟩ := g.con p hp
    exact seOf (pe_glob (g.gl h1) hm rv h2) (q _ _ _ _ _ _ w (.scal (hr _) Same.refl))
  · cases ok) fun nm e ok => by cases e <;> first | rfl | (simp [okE] at ok)
theorem snd_bin {op : Bop} {a b : Ex} (ha : Snd t Γ a) (hb : Snd t Γ b) : Snd t Γ (.bin op a b) := mkSnd (fun X nm fnB g e ok m H0 Z ρ σ H W Kk Q r w q => by
  simp only [okE] at ok
  split at ok
  · rename_i ea o eb pos
    simp only [Bool.and_eq_true, decide_eq_true_eq] at ok
    obtain ⟨⟨rfl, oa⟩, ob⟩ := ok
    refine seOf (pe_op (op_binD op) peS peS) ?_
    refine ha.e X nm fnB g ea oa .bor H0 Z ρ σ H W _ _ r w fun x lx ρx vx H1 A1 w1 o1 => ?_
    refine hb.e X nm fnB g eb ob .bor H0 Z ρ σ H1 W _ _ (r.mono o1.same) w1 fun y ly ρy vy H2 A2 w2 o2 => ?_
    refine ⟨x, y, A1, A2, _, o1.rep.same o2.same, o2.rep, w2, fun z v H' C k s rv hC => ?_⟩
    have s' : Same H H' := (o1.same.trans o2.same).trans s
    refine q _ _ _ _ _ _ k (.fresh r s' rv ?_ ?_)
    · rcases hC with rfl | ⟨p, rfl, _⟩
      · exact List.nodup_nil
      · exact List.pairwise_singleton _ _
    · intro a ha
      rcases hC with rfl | ⟨p, rfl, hp⟩
      · cases ha
      · simp only [List.mem_cons, List.not_mem_nil, or_false] at ha
        subst ha
        exact (o1.same.trans o2.same).non hp
  · cases ok) fun nm e ok => by cases e <;> first | rfl | (simp [okE] at ok)
theorem snd_neg {a : Ex} (ha : Snd t Γ a) : Snd t Γ (.neg a) := mkSnd (fun X nm fnB g e ok m H0 Z ρ σ H W Kk Q r w q => by
  simp only [okE] at ok
  split at ok
  · refine seOf (pe_un un_neg peS) ?_
    refine ha.e X nm fnB g _ ok .bor H0 Z ρ σ H W _ _ r w fun x lx ρx vx H1 A1 w1 o1 => ?_
    obtain ⟨i, rfl, k⟩ := w1
    exact ⟨i, o1.rep.int_inv.1, q _ _ _ _ _ _ k (.scal (.int _) o1.same)⟩
  · cases ok) fun nm e ok => by
    simp only [okE] at ok
    split at ok
    · rfl
    · cases ok
theorem snd_cmp {op : Cop} {a b : Ex} (ha : Snd t Γ a) (hb : Snd t Γ b) : Snd t Γ (.cmp op a b) where
  e := fun X nm fnB g e ok m H0 Z ρ σ H W Kk Q r w q => by
    simp only [okE] at ok
    split at ok
    · rename_i ea o eb pos
      simp only [Bool.and_eq_true, decide_eq_true_eq] at ok
      obtain ⟨⟨rfl, oa⟩, ob⟩ := ok
      refine seOf (pe_cmpR (op_cmpD (by have := g.room.un; omega) op) peS peS (noBehind (okE_odd b ob))) ?_
      refine ha.e X nm fnB g ea oa .bor H0 Z ρ σ H W _ _ r w fun x lx ρx vx H1 A1 w1 o1 => ?_
      refine hb.e X nm fnB g eb ob .bor H0 Z ρ σ H1 W _ _ (r.mono o1.same) w1 fun y ly ρy vy H2 A2 w2 o2 => ?_
      exact ⟨x, y, A1, A2, _, o1.rep.same o2.same, o2.rep, w2, fun z k => q _ _ _ _ _ _ k (.scal (.bl _) (o1.same.trans o2.same))⟩
    · cases ok
  T := fun _ X nm fnB g e ok H0 Z ρ σ H W k Q r w q => by
    simp only [okE] at ok
    split at ok
    · rename_i ea o eb pos
      simp only [Bool.and_eq_true, decide_eq_true_eq] at ok
      obtain ⟨⟨rfl, oa⟩, ob⟩ := ok
      refine stOf (pt_cmpR (op_cmpD (by have := g.room.un; omega) op) peS peS (noBehind (okE_odd b ob))) ?_
      refine ha.e X nm fnB g ea oa .bor H0 Z ρ σ H W _ _ r w fun x lx ρx vx H1 A1 w1 o1 => ?_
      refine hb.e X nm fnB g eb ob .bor H0 Z ρ σ H1 W _ _ (r.mono o1.same) w1 fun y ly ρy vy H2 A2 w2 o2 => ?_
      refine ⟨x, y, A1, A2, _, o1.rep.same o2.same, o2.rep, w2, fun z kz => ?_⟩
      obtain ⟨b, e, kb⟩ := kz
      cases e
      exact ⟨_, rfl, q _ _ kb (o1.same.trans o2.same)⟩
    · cases ok
  w := fun X nm fnB g op vs pos ok => by simp [okE] at ok
theorem snd_chn {op op' : Cop} {a b c : Ex} (ha : Snd t Γ a) (hb : Snd t Γ b) (hc : Snd t Γ c) : Snd t Γ (.chn op op' a b c) where
  e := fun X nm fnB g e ok m H0 Z ρ σ H W Kk Q r w q => by
    simp only [okE] at ok
    split at ok
    · rename_i ea o o' eb ec pos
      simp only [Bool.and_eq_true, decide_eq_true_eq] at ok
      obtain ⟨⟨⟨⟨rfl, rfl⟩, oa⟩, ob⟩, oc⟩ := ok
      have hu : X.A.units + 65 < cLine := by have := g.room.un; omega
      refine seOf (pe_chain (op_cmpD hu op) (op_cmpD hu op') peS peS peS (by show behindInMarks op'.op ec = false; exact noBehind (okE_odd c oc))) ?_
      refine ha.e X nm fnB g ea oa .bor H0 Z ρ σ H W _ _ r w fun x lx ρx vx H1 A1 w1 o1 => ?_
      refine hb.e X nm fnB g eb ob .bor H0 Z ρ σ H1 W _ _ (r.mono o1.same) w1 fun y ly ρy vy H2 A2 w2 o2 => ?_
      have s2 := o1.same.trans o2.same
      refine ⟨x, y, A1, A2, _, o1.rep.same o2.same, o2.rep, w2, fun z k => ⟨z, rfl, ?_⟩⟩
      cases z with
      | false => exact q _ _ _ _ _ _ k (.scal (.bl _) s2)
      | true =>
        simp only [if_true] at k ⊢
        refine hc.e X nm fnB g ec oc .bor H0 Z ρ σ H2 W _ _ (r.mono s2) k fun z lz ρz vz H3 A3 w3 o3 => ?_
        exact ⟨y, z, A2, A3, _, o2.rep.same o3.same, o3.rep, w3, fun z k => q _ _ _ _ _ _ k (.scal (.bl _) (s2.trans o3.same))⟩
    · cases ok
  T := fun _ X nm fnB g e ok H0 Z ρ σ H W k Q r w q => by
    simp only [okE] at ok
    split at ok
    · rename_i ea o o' eb ec pos
      simp only [Bool.and_eq_true, decide_eq_true_eq] at ok
      obtain ⟨⟨⟨⟨rfl, rfl⟩, oa⟩, ob⟩, oc⟩ := ok
      have hu : X.A.units + 65 < cLine := by have := g.room.un; omega
      refine stOf (pt_chain (op_cmpD hu op) (op_cmpD hu op') peS peS peS (by show behindInMarks op'.op ec = false; exact noBehind (okE_odd c oc))) ?_
      refine ha.e X nm fnB g ea oa .bor H0 Z ρ σ H W _ _ r w fun x lx ρx vx H1 A1 w1 o1 => ?_
      refine hb.e X nm fnB g eb ob .bor H0 Z ρ σ H1 W _ _ (r.mono o1.same) w1 fun y ly ρy vy H2 A2 w2 o2 => ?_
      have s2 := o1.same.trans o2.same
      refine ⟨x, y, A1, A2, _, o1.rep.same o2.same, o2.rep, w2, fun z kz => ⟨z, rfl, ?_⟩⟩
      cases z with
      | false =>
        simp only [Bool.false_eq_true, if_false] at kz ⊢
        obtain ⟨b, e, kb⟩ := kz
        cases e
        exact ⟨_, rfl, q _ _ kb s2⟩
      | true =>
        simp only [if_true] at kz ⊢
        refine hc.e X nm fnB g ec oc .bor H0 Z ρ σ H2 W _ _ (r.mono s2) kz fun z lz ρz vz H3 A3 w3 o3 => ?_
        refine ⟨y, z, A2, A3, _, o2.rep.same o3.same, o3.rep, w3, fun z kz => ?_⟩
        obtain ⟨b, e, kb⟩ := kz
        cases e
        exact ⟨_, rfl, q _ _ kb (s2.trans o3.same)⟩
    · cases ok
  w := fun X nm fnB g op vs pos ok => by simp [okE] at ok
theorem snd_not {a : Ex} (ha : Snd t Γ a) : Snd t Γ (.not a) where
  e := fun X nm fnB g e ok m H0 Z ρ σ H W Kk Q r w q => by
    simp only [okE] at ok
    split at ok
    · simp only [Bool.and_eq_true] at ok
      refine seOf (pe_not peS) ?_
      refine ha.e X nm fnB g _ ok.2 .bor H0 Z ρ σ H W _ _ r w fun x lx ρx vx H1 A1 w1 o1 => ?_
      obtain ⟨b, rfl, k⟩ := w1
      exact ⟨b, o1.rep.bl_inv.1, q _ _ _ _ _ _ k (.scal (.bl _) o1.same)⟩
    · cases ok
  T := fun _ X nm fnB g e ok H0 Z ρ σ H W k Q r w q => by
    simp only [okE] at ok
    split at ok
    · simp only [Bool.and_eq_true] at ok
      refine stOf (pt_not ptS) ?_
      refine ha.T ok.1 X nm fnB g _ ok.2 H0 Z ρ σ H W (fun b => k (!b)) _ r ?_ fun b H' kb s => q _ _ kb s
      have w : wpE Γ .bor a ρ fun x _ _ => ∃ b, x = .bl b ∧ ∃ b', D.bl (!b) = .bl b' ∧ k b' := w
      have e : (fun (x : D) (_ : Lv) (_ : Pl) => ∃ b, x = .bl b ∧ ∃ b', D.bl (!b) = .bl b' ∧ k b') = fun x _ _ => ∃ b, x = .bl b ∧ k (!b) := by
        funext x l p
        simp
      rw [e] at w; exact w
    · cases ok
  w := fun X nm fnB g op vs pos ok => by simp [okE] at ok
theorem snd_one {a : Ex} (ha : Snd t Γ a) : Snd t Γ (.one a) where
  e := fun X nm fnB g e ok m H0 Z ρ σ H W Kk Q r w q => by
    simp only [okE] at ok
    split at ok
    · simp only [Bool.and_eq_true] at ok
      refine seOf (pe_one peS) ?_
      exact ha.e X nm fnB g _ ok.2 m H0 Z ρ σ H W _ _ r w q
    · cases ok
  T := fun _ X nm fnB g e ok H0 Z ρ σ H W k Q r w q => by
    simp only [okE] at ok
    split at ok
    · rename_i op ea pos
      simp only [Bool.and_eq_true] at ok
      cases op with
      | And => exact stOf (pw_and1 ptS).pt (ha.T ok.1 X nm fnB g _ ok.2 H0 Z ρ σ H W k _ r w q)
      | Or => exact stOf (pw_or1 ptS).pt (ha.T ok.1 X nm fnB g _ ok.2 H0 Z ρ σ H W k _ r w q)
    · cases ok
  w := fun X nm fnB g op vs pos ok H0 Z ρ σ H W k Q r w q => by
    simp only [okE] at ok
    split at ok
    · rename_i e' op' ea pos' h
      cases h
      simp only [Bool.and_eq_true] at ok
      cases op with
      | And => exact swOf (pw_and1 ptS) (ha.T ok.1 X nm fnB g _ ok.2 H0 Z ρ σ H W k _ r w q)
      | Or => exact swOf (pw_or1 ptS) (ha.T ok.1 X nm fnB g _ ok.2 H0 Z ρ σ H W k _ r w q)
    · cases ok
theorem wp_andT {a b : Ex} {ρ : Pl} {k : Bool → Prop} (w : wpE Γ .bor (.and a b) ρ fun x _ _ => ∃ b, x = .bl b ∧ k b) :
    wpE Γ .bor a ρ fun x _ _ => ∃ c, x = .bl c ∧ if c = true then wpE Γ .bor b ρ fun y _ _ => ∃ d, y = .bl d ∧ k d else k false := by
  have w : wpE Γ .bor a ρ fun x _ _ => ∃ c, x = .bl c ∧ if c = true then wpE Γ .bor b ρ fun y _ _ => ∃ d, y = .bl d ∧ ∃ b, D.bl d = .bl b ∧ k b else ∃ b, D.bl false = .bl b ∧ k b := w
  have e1 : (fun (y : D) (_ : Lv) (_ : Pl) => ∃ d, y = .bl d ∧ ∃ b, D.bl d = .bl b ∧ k b) = fun y _ _ => ∃ d, y = .bl d ∧ k d := by
    funext y l p; simp
  have e2 : (∃ b, D.bl false = .bl b ∧ k b) = k false := by simp
  rw [e1, e2] at w; exact w
theorem wp_orT {a b : Ex} {ρ : Pl} {k : Bool → Prop} (w : wpE Γ .bor (.or a b) ρ fun x _ _ => ∃ b, x = .bl b ∧ k b) :
    wpE Γ .bor a ρ fun x _ _ => ∃ c, x = .bl c ∧ if c = true then k true else wpE Γ .bor b ρ fun y _ _ => ∃ d, y = .bl d ∧ k d := by
  have w : wpE Γ .bor a ρ fun x _ _ => ∃ c, x = .bl c ∧ if c = true then ∃ b, D.bl true = .bl b ∧ k b else wpE Γ .bor b ρ fun y _ _ => ∃ d, y = .bl d ∧ ∃ b, D.bl d = .bl b ∧ k b := w
  have e1 : (fun (y : D) (_ : Lv) (_ : Pl) => ∃ d, y = .bl d ∧ ∃ b, D.bl d = .bl b ∧ k b) = fun y _ _ => ∃ d, y = .bl d ∧ k d := by
    funext y l p; simp
  have e2 : (∃ b, D.bl true = .bl b ∧ k b) = k true := by simp
  rw [e1, e2] at w; exact w
theorem snd_and {a b : Ex} (ha : Snd t Γ a) (hb : Snd t Γ b) : Snd t Γ (.and a b) := by
  have tw : ∀ (X : Cx) (nm : Nm) (fnB : Str → Bool), Good X t nm fnB Γ → ∀ (ea eb : Expr) (vs : List Expr) (pos : Pos), noIte a = true → okE t nm a ea = true → okE t nm b (.BoolOp .And (eb :: vs) pos) = true → ∀ (H0 : Base) (Z : List (Nat × Addr)) (ρ : Pl) (σ : L2.St) (H : Hp) (W : Nat → List Addr) (k : Bool → Prop) (Q : Bool → Hp → Prop),
      RL X.K H0 Z ρ σ H W → (wpE Γ .bor (.and a b) ρ fun x _ _ => ∃ b, x = .bl b ∧ k b) → (∀ b H', k b → Same H H' → Q b H') → tAnd (ST X ea) (SW X (.BoolOp .And (eb :: vs) pos)) σ H Q := fun X nm fnB g ea eb vs pos on oa ob H0 Z ρ σ H W k Q r w q => by
    refine ha.T on X nm fnB g _ oa H0 Z ρ σ H W _ _ r (wp_andT w) fun c H1 w1 s1 => ?_
    cases c with
    | false => exact q _ _ w1 s1
    | true =>
      simp only [if_true] at w1 ⊢
      exact hb.w X nm fnB g _ _ _ ob H0 Z ρ σ H1 W k Q (r.mono s1) w1 fun b H' kb s => q _ _ kb (s1.trans s)
  refine ⟨fun X nm fnB g e ok m H0 Z ρ σ H W Kk Q r w q => ?_, fun _ X nm fnB g e ok H0 Z ρ σ H W k Q r w q => ?_, fun X nm fnB g op vs pos ok H0 Z ρ σ H W k Q r w q => ?_⟩
  · simp only [okE] at ok
    split at ok
    · simp only [Bool.and_eq_true] at ok
      refine seOf (pe_and peS peS) ?_
      refine ha.e X nm fnB g _ ok.1.2 .bor H0 Z ρ σ H W _ _ r w fun x lx ρx vx H1 A1 w1 o1 => ?_
      obtain ⟨c, rfl, k⟩ := w1
      refine ⟨c, o1.rep.bl_inv.1, ?_⟩
      cases c with
      | false => exact q _ _ _ _ _ _ k (.scal (.bl _) o1.same)
      | true =>
        simp only [if_true] at k ⊢
        refine hb.e X nm fnB g _ ok.2 .bor H0 Z ρ σ H1 W _ _ (r.mono o1.same) k fun y ly ρy vy H2 A2 w2 o2 => ?_
        obtain ⟨d, rfl, k⟩ := w2
        have e := o2.rep.bl_inv.1
        subst e
        exact q _ _ _ _ _ _ k (.scal (.bl _) (o1.same.trans o2.same))
    · cases ok
  · simp only [okE] at ok
    split at ok
    · simp only [Bool.and_eq_true] at ok
      exact stOf (pw_and ptS pwS).pt (tw X nm fnB g _ _ _ _ ok.1.1 ok.1.2 ok.2 H0 Z ρ σ H W k Q r w q)
    · cases ok
  · simp only [okE] at ok
    split at ok
    · rename_i h
      cases h
      simp only [Bool.and_eq_true] at ok
      exact swOf (pw_and ptS pwS) (tw X nm fnB g _ _ _ _ ok.1.1 ok.1.2 ok.2 H0 Z ρ σ H W k Q r w q)
    · cases ok
theorem snd_or {a b : Ex} (ha : Snd t Γ a) (hb : Snd t Γ b) : Snd t Γ (.or a b) := by
  have tw : ∀ (X : Cx) (nm : Nm) (fnB : Str → Bool), Good X t nm fnB Γ → ∀ (ea eb : Expr) (vs : List Expr) (pos : Pos), noIte a = true → okE t nm a ea = true → okE t nm b (.BoolOp .Or (eb :: vs) pos) = true → ∀ (H0 : Base) (Z : List (Nat × Addr)) (ρ : Pl) (σ : L2.St) (H : Hp) (W : Nat → List Addr) (k : Bool → Prop) (Q : Bool → Hp → Prop),
      RL X.K H0 Z ρ σ H W → (wpE Γ .bor (.or a b) ρ fun x _ _ => ∃ b, x = .bl b ∧ k b) → (∀ b H', k b → Same H H' → Q b H') → tOr (ST X ea) (SW X (.BoolOp .Or (eb :: vs) pos)) σ H Q := fun X nm fnB g ea eb vs pos on oa ob H0 Z ρ σ H W k Q r w q => by
    refine ha.T on X nm fnB g _ oa H0 Z ρ σ H W _ _ r (wp_orT w) fun c H1 w1 s1 => ?_
    cases c with
    | true => exact q _ _ w1 s1
    | false =>
      simp only [Bool.false_eq_true, if_false] at w1 ⊢
      exact hb.w X nm fnB g _ _ _ ob H0 Z ρ σ H1 W k Q (r.mono s1) w1 fun b H' kb s => q _ _ kb (s1.trans s)
  refine ⟨fun X nm fnB g e ok m H0 Z ρ σ H W Kk Q r w q => ?_, fun _ X nm fnB g e ok H0 Z ρ σ H W k Q r w q => ?_, fun X nm fnB g op vs pos ok H0 Z ρ σ H W k Q r w q => ?_⟩
  · simp only [okE] at ok
    split at ok
    · simp only [Bool.and_eq_true] at ok
      refine seOf (pe_or peS peS) ?_
      refine ha.e X nm fnB g _ ok.1.2 .bor H0 Z ρ σ H W _ _ r w fun x lx ρx vx H1 A1 w1 o1 => ?_
      obtain ⟨c, rfl, k⟩ := w1
      refine ⟨c, o1.rep.bl_inv.1, ?_⟩
      cases c with
      | true => exact q _ _ _ _ _ _ k (.scal (.bl _) o1.same)
      | false =>
        simp only [Bool.false_eq_true, if_false] at k ⊢
        refine hb.e X nm fnB g _ ok.2 .bor H0 Z ρ σ H1 W _ _ (r.mono o1.same) k fun y ly ρy vy H2 A2 w2 o2 => ?_
        obtain ⟨d, rfl, k⟩ := w2
        have e := o2.rep.bl_inv.1
        subst e
        exact q _ _ _ _ _ _ k (.scal (.bl _) (o1.same.trans o2.same))
    · cases ok
  · simp only [okE] at ok
    split at ok
    · simp only [Bool.and_eq_true] at ok
      exact stOf (pw_or ptS pwS).pt (tw X nm fnB g _ _ _ _ ok.1.1 ok.1.2 ok.2 H0 Z ρ σ H W k Q r w q)
    · cases ok
  · simp only [okE] at ok
    split at ok
    · rename_i h
      cases h
      simp only [Bool.and_eq_true] at ok
      exact swOf (pw_or ptS pwS) (tw X nm fnB g _ _ _ _ ok.1.1 ok.1.2 ok.2 H0 Z ρ σ H W k Q r w q)
    · cases ok
end
end R

namespace R
open PySem PySem.Spec PyProof.Rows L2
section
variable {t : Tab} {Γ : List SpD}
theorem snd_ite {c a b : Ex} (hc : Snd t Γ c) (ha : Snd t Γ a) (hb : Snd t Γ b) : Snd t Γ (.ite c a b) where
  e := fun X nm fnB g e ok m H0 Z ρ σ H W Kk Q r w q => by
    simp only [okE] at ok
    split at ok
    · simp only [Bool.and_eq_true] at ok
      refine seOf (pe_ifExp ptS peS peS) ?_
      refine hc.T ok.1.1.1 X nm fnB g _ ok.1.1.2 H0 Z ρ σ H W (fun k => if k = true then wpE Γ m a ρ Kk else wpE Γ m b ρ Kk) _ r w fun k H1 w1 s1 => ?_
      have q' : ∀ d l ρ' v H' A, Kk d l ρ' → Out X.K Z m ρ H1 W d l ρ' v H' A → Q v H' := fun d l ρ' v H' A k o => by
        refine q d l ρ' v H' A k ⟨o.rep, s1.trans o.same, o.dem, ?_⟩
        refine ⟨o.cl.nd, fun a ha => ⟨?_, (o.cl.o a ha).2⟩, fun a ha => ⟨(o.cl.s a ha).1, (o.cl.s a ha).2.1, ?_, (o.cl.s a ha).2.2.2⟩⟩
        · rcases (o.cl.o a ha).1 with z | z
          · exact .inl (s1.non z)
          · exact .inr z
        · rcases (o.cl.s a ha).2.2.1 with z | z
          · exact .inl (s1.non z)
          · exact .inr z
      cases k with
      | true =>
        simp only [if_true] at w1 ⊢
        exact ha.e X nm fnB g _ ok.1.2 m H0 Z ρ σ H1 W _ _ (r.mono s1) w1 q'
      | false =>
        simp only [Bool.false_eq_true, if_false] at w1 ⊢
        exact hb.e X nm fnB g _ ok.2 m H0 Z ρ σ H1 W _ _ (r.mono s1) w1 q'
    · cases ok
  T := fun z => by simp [noIte] at z
  w := fun X nm fnB g op vs pos ok => by simp [okE] at ok
theorem snds_nil : SndEs t Γ .nil := fun X nm fnB g es ok m H0 Z ρ σ H W Kk Q r w q => by
  simp only [okEs, List.isEmpty_iff] at ok
  subst ok
  exact saOf pa_nil (q [] true ρ [] H [] w .nil Same.refl .refl fun _ => ⟨[], [], .nil, fun a => by simp, fun _ => ⟨rfl, rfl⟩⟩)
theorem snds_cons {c : Ex} {cs : Exs} (hc : Snd t Γ c) (hs : SndEs t Γ cs) : SndEs t Γ (.cons c cs) := fun X nm fnB g es ok m H0 Z ρ σ H W Kk Q r w q => by
  cases es with
  | nil => simp [okEs] at ok
  | cons e es =>
    simp only [okEs, Bool.and_eq_true] at ok
    refine saOf (pa_cons peS paS (star1 (okE_odd c ok.1))) ?_
    refine hc.e X nm fnB g _ ok.1 m H0 Z ρ σ H W _ _ r w fun d l ρ1 v H1 A w1 o1 => ?_
    refine hs X nm fnB g _ ok.2 m H0 Z ρ1 σ H1 W _ _ ((r.dem o1.dem).mono o1.same) w1 fun ds al ρ2 vs H2 B w2 rs s2 d2 cl => ?_
    refine q _ _ _ _ _ _ w2 (.cons (o1.rep.same s2) rs) (o1.same.trans s2) (o1.dem.trans d2) fun hm => ?_
    subst hm
    obtain ⟨O, S, c2, mem, al2⟩ := cl rfl
    have c1 := o1.cl
    have memA : ∀ a, a ∈ A ↔ a ∈ pO .own l d A ∨ a ∈ pS .own l d A := fun a => by
      simp only [pO, pS]
      cases l <;> simp only [lvC, Cell.own, Cell.shr]
      · simp
      · split
        · constructor
          · intro h
            rw [← List.take_append_drop 1 A] at h
            exact List.mem_append.mp h
          · rintro (h | h)
            · exact List.mem_of_mem_take h
            · exact List.mem_of_mem_drop h
        · simp
      · simp
    refine ⟨pO .own l d A ++ O, pS .own l d A ++ S, c1.app c2 o1.dem d2 o1.same ?_, fun a => ?_, fun z => ?_⟩
    · intro a ha
      have : a ∈ A := by
        rcases List.mem_append.mp ha with z | z
        · exact pO_sub z
        · exact pS_sub z
      obtain ⟨o, e, _⟩ := o1.rep.dom a this
      rw [e]; exact fun z => by cases z
    · rw [List.mem_append, List.mem_append, List.mem_append, memA, mem]
      constructor
      · rintro ((h | h) | (h | h)) <;> simp [h]
      · rintro ((h | h) | (h | h)) <;> simp [h]
    · simp only [Bool.and_eq_true, Bool.or_eq_true] at z
      obtain ⟨e1, e2⟩ := al2 z.2
      subst e2
      rw [e1]
      rcases z.1 with i | i
      · have := o1.rep.imm i
        subst this
        simp [pO_nil, pS_nil]
      · cases l <;> simp only [isDeep, Bool.false_eq_true] at i
        exact ⟨rfl, rfl⟩
theorem snd_lst {cs : Exs} (hs : SndEs t Γ cs) : Snd t Γ (.lst cs) := mkSnd (fun X nm fnB g e ok m H0 Z ρ σ H W Kk Q r w q => by
  simp only [okE] at ok
  split at ok
  · refine seOf (pe_lst paS) ?_
    refine hs X nm fnB g _ ok (emd m) H0 Z ρ σ H W _ _ r w fun ds al ρ1 vs H1 B w1 rs s1 d1 cl => ?_
    refine ⟨by rw [rs.length]; exact w1.1, fun p hp => ?_⟩
    have sm : Same H1 (upd H1 p (.lst vs)) := Same.updp hp
    refine q _ _ _ _ _ _ w1.2 ⟨.lst upd_same (rs.same sm), s1.trans sm, d1, ?_⟩
    have tB : ∀ a ∈ B, H1 a ≠ none := fun a ha z => by obtain ⟨o, e, _⟩ := rs.dom a ha; rw [z] at e; cases e
    cases m with
    | bor => exact .nil
    | own =>
      obtain ⟨O, S, c, mem, al2⟩ := cl rfl
      cases al with
      | true =>
        obtain ⟨rfl, rfl⟩ := al2 rfl
        exact c.cons r d1 s1 hp (fun a ha => by simp only [List.append_nil] at ha; exact tB a ha)
      | false =>
        have c' : Cl H Z ρ ρ1 W [] B := c.less List.nodup_nil (fun a h => absurd h List.not_mem_nil) (fun a h => (mem a).mp h) (fun a h => List.not_mem_nil) (c.oz r)
        exact c'.cons r d1 s1 hp (fun a ha => tB a (by simpa using ha))
    | kid =>
      obtain ⟨O, S, c, mem, al2⟩ := cl rfl
      cases al with
      | true =>
        obtain ⟨rfl, rfl⟩ := al2 rfl
        exact c
      | false => exact c.less List.nodup_nil (fun a h => absurd h List.not_mem_nil) (fun a h => (mem a).mp h) (fun a h => List.not_mem_nil) (c.oz r)
  · cases ok) fun nm e ok => by cases e <;> first | rfl | (simp [okE] at ok)
theorem dp_intss {H : Hp} {K : PySem.W.Frag} : ∀ {L : List (List Int)} {vs : List V} {B : List Addr}, Reps K H vs (L.map fun l => .lst (l.map .int)) B → DpAll K H vs (L.map pyI)
  | [], _, _, h => by cases h; exact .nil
  | l :: L, _, _, h => by
    cases h with
    | cons r rs => exact .cons (dp_ints r) (dp_intss rs)
theorem snd_cat {a b : Ex} (ha : Snd t Γ a) (hb : Snd t Γ b) : Snd t Γ (.cat a b) := mkSnd (fun X nm fnB g e ok m H0 Z ρ σ H W Kk Q r w q => by
  simp only [okE] at ok
  split at ok
  · rename_i ea eb pos
    simp only [Bool.and_eq_true] at ok
    obtain ⟨oa, ob⟩ := ok
    refine seOf (pe_op op_cat peS peS) ?_
    refine ha.e X nm fnB g ea oa (smd m) H0 Z ρ σ H W _ _ r w fun x lx ρ1 vx H1 A1 w1 o1 => ?_
    refine hb.e X nm fnB g eb ob (smd m) H0 Z ρ1 σ H1 W _ _ ((r.dem o1.dem).mono o1.same) w1 fun y ly ρ2 vy H2 A2 w2 o2 => ?_
    cases x <;> cases y <;> try (exact False.elim w2)
    rename_i xs ys
    obtain ⟨p1, vs1, B1, rfl, rfl, e1, ra1⟩ := o1.rep.lst_inv
    obtain ⟨p2, vs2, B2, rfl, rfl, e2, ra2⟩ := o2.rep.lst_inv
    obtain ⟨hl, w3⟩ := w2
    refine ⟨p1, p2, vs1, vs2, rfl, rfl, o2.same _ _ e1, e2, by rw [ra1.length, ra2.length]; exact hl, fun p hp => ?_⟩
    have sm : Same H2 (upd H2 p (.lst (vs1 ++ vs2))) := Same.updp hp
    have s12 := o1.same.trans o2.same
    have rB := (ra1.same o2.same).append ra2
    refine q _ _ _ _ _ _ w3 ⟨.lst upd_same (rB.same sm), s12.trans sm, o1.dem.trans o2.dem, ?_⟩
    have tB : ∀ a ∈ B1 ++ B2, H2 a ≠ none := fun a ha z => by obtain ⟨o, e, _⟩ := rB.dom a ha; rw [z] at e; cases e
    have t1 : ∀ a ∈ B1, H1 a ≠ none := fun a ha z => by obtain ⟨o, e, _⟩ := ra1.dom a ha; rw [z] at e; cases e
    cases m with
    | bor => exact .nil
    | own =>
      have c1 : Cl H Z ρ ρ1 W (if isDeep lx then B1 else []) (if isDeep lx then [] else B1) := o1.cl
      have c2 : Cl H1 Z ρ1 ρ2 W (if isDeep ly then B2 else []) (if isDeep ly then [] else B2) := o2.cl
      have c := c1.app c2 o1.dem o2.dem o1.same (fun a ha => t1 a (by cases hx : isDeep lx <;> simpa [hx] using ha))
      cases hx : isDeep lx <;> cases hy : isDeep ly <;> simp only [hx, hy, if_true, if_false, Bool.false_eq_true, List.nil_append, List.append_nil, Bool.and_true, Bool.and_false, Bool.and_self] at c ⊢
      · exact Cl.cons (O := []) (S := B1 ++ B2) (c.less .nil (fun a h => absurd h List.not_mem_nil) (fun a h => by rcases List.mem_append.mp h with h | h <;> simp [h]) (fun a h => List.not_mem_nil) (c.oz r)) r (o1.dem.trans o2.dem) s12 hp (fun a ha => tB a (by simpa using ha))
      · exact Cl.cons (O := []) (S := B1 ++ B2) (c.less .nil (fun a h => absurd h List.not_mem_nil) (fun a h => by rcases List.mem_append.mp h with h | h <;> simp [h]) (fun a h => List.not_mem_nil) (c.oz r)) r (o1.dem.trans o2.dem) s12 hp (fun a ha => tB a (by simpa using ha))
      · exact Cl.cons (O := []) (S := B1 ++ B2) (c.less .nil (fun a h => absurd h List.not_mem_nil) (fun a h => by rcases List.mem_append.mp h with h | h <;> simp [h]) (fun a h => List.not_mem_nil) (c.oz r)) r (o1.dem.trans o2.dem) s12 hp (fun a ha => tB a (by simpa using ha))
      · exact Cl.cons (O := B1 ++ B2) (S := []) c r (o1.dem.trans o2.dem) s12 hp (fun a ha => tB a (by simpa using ha))
    | kid =>
      have c1 : Cl H Z ρ ρ1 W (if isDeep lx then B1 else []) (if isDeep lx then [] else B1) := o1.cl
      have c2 : Cl H1 Z ρ1 ρ2 W (if isDeep ly then B2 else []) (if isDeep ly then [] else B2) := o2.cl
      have c := c1.app c2 o1.dem o2.dem o1.same (fun a ha => t1 a (by cases hx : isDeep lx <;> simpa [hx] using ha))
      cases hx : isDeep lx <;> cases hy : isDeep ly <;> simp only [hx, hy, if_true, if_false, Bool.false_eq_true, List.nil_append, List.append_nil, Bool.and_true, Bool.and_false, Bool.and_self] at c ⊢
      · exact c.less (O' := []) (S' := B1 ++ B2) .nil (fun a h => absurd h List.not_mem_nil) (fun a h => by rcases List.mem_append.mp h with h | h <;> simp [h]) (fun a h => List.not_mem_nil) (c.oz r)
      · exact c.less (O' := []) (S' := B1 ++ B2) .nil (fun a h => absurd h List.not_mem_nil) (fun a h => by rcases List.mem_append.mp h with h | h <;> simp [h]) (fun a h => List.not_mem_nil) (c.oz r)
      · exact c.less (O' := []) (S' := B1 ++ B2) .nil (fun a h => absurd h List.not_mem_nil) (fun a h => by rcases List.mem_append.mp h with h | h <;> simp [h]) (fun a h => List.not_mem_nil) (c.oz r)
      · exact c
  · cases ok) fun nm e ok => by cases e <;> first | rfl | (simp [okE] at ok)
theorem snd_tup {cs : Exs} (hs : SndEs t Γ cs) : Snd t Γ (.tup cs) := mkSnd (fun X nm fnB g e ok m H0 Z ρ σ H W Kk Q r w q => by
  simp only [okE] at ok
  split at ok
  · refine seOf (pe_tup paS) ?_
    refine hs X nm fnB g _ ok (emd m) H0 Z ρ σ H W _ _ r w fun ds al ρ1 vs H1 B w1 rs s1 d1 cl => ?_
    refine ⟨by rw [rs.length]; exact w1.1, fun p hp => ?_⟩
    have sm : Same H1 (upd H1 p (.tup vs)) := Same.updp hp
    refine q _ _ _ _ _ _ w1.2 ⟨.tup upd_same (rs.same sm), s1.trans sm, d1, ?_⟩
    cases m with
    | bor => exact .nil
    | own =>
      obtain ⟨O, S, c, mem, al2⟩ := cl rfl
      cases al with
      | true =>
        obtain ⟨rfl, rfl⟩ := al2 rfl
        exact c
      | false => exact c.less List.nodup_nil (fun a h => absurd h List.not_mem_nil) (fun a h => (mem a).mp h) (fun a h => List.not_mem_nil) (c.oz r)
    | kid =>
      obtain ⟨O, S, c, mem, al2⟩ := cl rfl
      cases al with
      | true =>
        obtain ⟨rfl, rfl⟩ := al2 rfl
        exact c
      | false => exact c.less List.nodup_nil (fun a h => absurd h List.not_mem_nil) (fun a h => (mem a).mp h) (fun a h => List.not_mem_nil) (c.oz r)
  · cases ok) fun nm e ok => by cases e <;> first | rfl | (simp [okE] at ok)
/-- the claim of a part, from the whole's -/
theorem Out.part {K : PySem.W.Frag} {Z : List (Nat × Addr)} {m : Md} {ρ ρ1 : Pl} {H0 : Base} {H H1 H2 : Hp} {σ : L2.St} {W : Nat → List Addr} {x z : D} {la : Lv} {vx v : V} {A C : List Addr} {Kk : KE} {Q : VK}
    (r : RL K H0 Z ρ σ H W) (o : Out K Z (smd m) ρ H W x la ρ1 vx H1 A) (s : Same H1 H2) (rv : Rep K H2 v z C) (sub : C.Sublist (tl x A))
    (k : keepD m z la ρ ρ1 Kk) (q : ∀ d l ρ' v H' A, Kk d l ρ' → Out K Z m ρ H W d l ρ' v H' A → Q v H') : Q v H2 := by
  have s' := o.same.trans s
  have mem : ∀ a ∈ C, a ∈ tl x A := fun a h => sub.mem h
  cases m with
  | bor => exact q _ _ _ _ _ _ k ⟨rv, s', .refl, .nil⟩
  | kid =>
    unfold keepD at k
    simp only at k
    split at k
    · rename_i i
      exact q _ _ _ _ _ _ k (.immE rv s' i)
    · refine q _ _ _ _ _ _ k ⟨rv, s', o.dem, ?_⟩
      have c : Cl H Z ρ ρ1 W (if isDeep la then tl x A else []) (if isDeep la then [] else tl x A) := o.cl
      cases la with
      | deep =>
        have c : Cl H Z ρ ρ1 W (tl x A) [] := c
        have n : C.Nodup := c.nd.sublist sub
        have n' : (tl z C).Nodup := by unfold tl; split; exact n.sublist (List.drop_sublist 1 C); exact n
        exact c.less n' (fun a h => mem a (by have h : a ∈ tl z C := h; unfold tl at h; split at h; exact List.mem_of_mem_drop h; exact h)) (fun a h => absurd h List.not_mem_nil) (fun a h => absurd h List.not_mem_nil) (c.oz r)
      | froz =>
        have c : Cl H Z ρ ρ1 W [] (tl x A) := c
        exact c.less List.nodup_nil (fun a h => absurd h List.not_mem_nil) (fun a h => .inr (mem a (by have h : a ∈ tl z C := h; unfold tl at h; split at h; exact List.mem_of_mem_drop h; exact h))) (fun a h => List.not_mem_nil) (c.oz r)
      | top =>
        have c : Cl H Z ρ ρ1 W [] (tl x A) := c
        exact c.less List.nodup_nil (fun a h => absurd h List.not_mem_nil) (fun a h => .inr (mem a (by have h : a ∈ tl z C := h; unfold tl at h; split at h; exact List.mem_of_mem_drop h; exact h))) (fun a h => List.not_mem_nil) (c.oz r)
  | own =>
    unfold keepD at k
    simp only at k
    split at k
    · rename_i i
      exact q _ _ _ _ _ _ k (.immE rv s' i)
    · refine q _ _ _ _ _ _ k ⟨rv, s', o.dem, ?_⟩
      have c : Cl H Z ρ ρ1 W (if isDeep la then tl x A else []) (if isDeep la then [] else tl x A) := o.cl
      cases la with
      | deep =>
        have c : Cl H Z ρ ρ1 W (tl x A) [] := c
        have n : C.Nodup := c.nd.sublist sub
        exact c.less n (fun a h => mem a h) (fun a h => absurd h List.not_mem_nil) (fun a h => absurd h List.not_mem_nil) (c.oz r)
      | froz =>
        have c : Cl H Z ρ ρ1 W [] (tl x A) := c
        exact c.less List.nodup_nil (fun a h => absurd h List.not_mem_nil) (fun a h => .inr (mem a h)) (fun a h => List.not_mem_nil) (c.oz r)
      | top =>
        have c : Cl H Z ρ ρ1 W [] (tl x A) := c
        exact c.less List.nodup_nil (fun a h => absurd h List.not_mem_nil) (fun a h => .inr (mem a h)) (fun a h => List.not_mem_nil) (c.oz r)
theorem snd_ix {a i : Ex} (ha : Snd t Γ a) (hi : Snd t Γ i) : Snd t Γ (.ix a i) := mkSnd (fun X nm fnB g e ok m H0 Z ρ σ H W Kk Q r w q => by
  simp only [okE] at ok
  split at ok
  · simp only [Bool.and_eq_true] at ok
    refine seOf (pe_ix (ix_all (by have := g.room.un; omega)) peS peS (plainIx (okE_odd i ok.2))) ?_
    refine ha.e X nm fnB g _ ok.1 (smd m) H0 Z ρ σ H W _ _ r w fun x la ρ1 vx H1 A1 w1 o1 => ?_
    refine hi.e X nm fnB g _ ok.2 .bor H0 Z ρ σ H1 W _ _ (r.mono o1.same) w1 fun y ly ρy vy H2 A2 w2 o2 => ?_
    exact ix_ok (o1.rep.same o2.same) o2.rep w2 fun z v C k rv sub => Out.part r o1 o2.same rv sub k q
  · cases ok) fun nm e ok => by cases e <;> first | rfl | (simp [okE] at ok)
/-- the claim of a copy: a new top over some of the kids -/
theorem Out.copyG {K : PySem.W.Frag} {Z : List (Nat × Addr)} {m : Md} {ρ ρ1 : Pl} {H0 : Base} {H H1 H2 : Hp} {σ : L2.St} {W : Nat → List Addr} {x z : D} {la : Lv} {vx v : V} {A B C : List Addr} {Kk : KE} {Q : VK}
    (r : RL K H0 Z ρ σ H W) (o : Out K Z (smd m) ρ H W x la ρ1 vx H1 A) (s : Same H1 H2) (rv : Rep K H2 v z C) (sub : (∀ a ∈ B, a ∈ tl x A) ∧ ((tl x A).Nodup → B.Nodup)) (top : (z.isM = true → ∃ p, C = p :: B ∧ H1 p = none) ∧ (z.isM = false → C = B))
    (k : copyD m x z la ρ ρ1 Kk) (q : ∀ d l ρ' v H' A, Kk d l ρ' → Out K Z m ρ H W d l ρ' v H' A → Q v H') : Q v H2 := by
  have s' := o.same.trans s
  have mem : ∀ a ∈ B, a ∈ tl x A := fun a h => sub.1 a h
  have tB : ∀ a ∈ B, H1 a ≠ none := fun a ha z => by
    have : a ∈ A := by
      have h := mem a ha
      unfold tl at h; split at h
      · exact List.mem_of_mem_drop h
      · exact h
    obtain ⟨o', e, _⟩ := o.rep.dom a this; rw [z] at e; cases e
  have imm : x.kimm = true → B = [] := fun h => by
    have : tl x A = [] := by
      unfold tl
      have hr := o.rep
      cases hr with
      | non => split <;> rfl
      | bl => split <;> rfl
      | int => split <;> rfl
      | str => split <;> rfl
      | tup e rs => rw [if_neg (by simp [D.isM])]; exact rs.imm h
      | lst e rs => rw [if_pos (by rfl)]; exact rs.imm h
      | fro e rs => split <;> rfl
      | froK e rs => split <;> rfl
      | set e n => rw [if_pos (by rfl)]; rfl
      | dic e l rs => rw [if_pos (by rfl)]; exact rs.imm h
    rw [this] at sub
    exact List.eq_nil_iff_forall_not_mem.mpr fun a h => absurd (sub.1 a h) List.not_mem_nil
  -- what is said of the copy with the level l
  have deepC : Cl H Z ρ ρ1 W B [] → Cl H Z ρ ρ1 W (pO m .deep z C) (pS m .deep z C) := fun c => by
    cases hz : z.isM with
    | true =>
      obtain ⟨p, rfl, hp⟩ := top.1 hz
      have c' : Cl H Z ρ ρ1 W (p :: B) [] := c.cons r o.dem o.same hp (fun a ha => tB a (by simpa using ha))
      cases m with
      | bor => exact .nil
      | own => exact c'
      | kid =>
        show Cl H Z ρ ρ1 W (tl z (p :: B)) []
        unfold tl; rw [if_pos hz]; exact c
    | false =>
      obtain rfl := top.2 hz
      cases m with
      | bor => exact .nil
      | own => exact c
      | kid =>
        show Cl H Z ρ ρ1 W (tl z C) []
        unfold tl; rw [if_neg (by rw [hz]; exact Bool.false_ne_true)]; exact c
  have topC : ∀ l, isDeep l = false → (z.isM = true → l = .top) → (z.isM = false → l = .froz) → Cl H Z ρ ρ1 W [] B → Cl H Z ρ ρ1 W (pO m l z C) (pS m l z C) := fun l hl h1 h2 c => by
    cases hz : z.isM with
    | true =>
      obtain ⟨p, rfl, hp⟩ := top.1 hz
      obtain rfl := h1 hz
      have c' : Cl H Z ρ ρ1 W [p] B := c.cons r o.dem o.same hp (fun a ha => tB a (by simpa using ha))
      cases m with
      | bor => exact .nil
      | own =>
        show Cl H Z ρ ρ1 W ((Cell.tp z).own (p :: B)) ((Cell.tp z).shr (p :: B))
        simp only [Cell.own, Cell.shr, hz, if_true, List.take_succ_cons, List.take_zero, List.drop_succ_cons, List.drop_zero]
        exact c'
      | kid =>
        show Cl H Z ρ ρ1 W [] (tl z (p :: B))
        unfold tl; rw [if_pos hz]; exact c
    | false =>
      obtain rfl := top.2 hz
      obtain rfl := h2 hz
      cases m with
      | bor => exact .nil
      | own => exact c
      | kid =>
        show Cl H Z ρ ρ1 W [] (tl z C)
        unfold tl; rw [if_neg (by rw [hz]; exact Bool.false_ne_true)]; exact c
  have kimmCase : x.kimm = true → m ≠ .bor → Kk z .deep ρ → Q v H2 := fun h hm k => by
    have e := imm h
    subst e
    cases hz : z.isM with
    | true =>
      obtain ⟨p, rfl, hp⟩ := top.1 hz
      exact q _ _ _ _ _ _ k (.fresh r s' rv (List.pairwise_singleton _ _) fun a ha => (by
        simp only [List.mem_cons, List.not_mem_nil, or_false] at ha
        subst ha; exact o.same.non hp))
    | false =>
      have e := top.2 hz
      subst e
      exact q _ _ _ _ _ _ k (.scal rv s')
  have main : m ≠ .bor → smd m = .kid → Kk z (if z.isM then cpLv la else kdLv la) ρ1 → Q v H2 := fun hm hk k => by
    refine q _ _ _ _ _ _ k ⟨rv, s', o.dem, ?_⟩
    have c0 := o.cl
    rw [hk] at c0
    have c : Cl H Z ρ ρ1 W (if isDeep la then tl x A else []) (if isDeep la then [] else tl x A) := c0
    cases la with
    | deep =>
      have c : Cl H Z ρ ρ1 W (tl x A) [] := c
      have e : (if z.isM then cpLv .deep else kdLv .deep) = Lv.deep := by split <;> rfl
      rw [e]
      exact deepC (c.less (sub.2 c.nd) mem (fun a h => absurd h List.not_mem_nil) (fun a h => absurd h List.not_mem_nil) (c.oz r))
    | froz =>
      have c : Cl H Z ρ ρ1 W [] (tl x A) := c
      refine topC _ (by split <;> rfl) (fun hz => by rw [if_pos hz]; rfl) (fun hz => by rw [if_neg (by rw [hz]; exact Bool.false_ne_true)]; rfl) ?_
      exact c.less List.nodup_nil (fun a h => absurd h List.not_mem_nil) (fun a h => .inr (mem a h)) (fun a h => List.not_mem_nil) (c.oz r)
    | top =>
      have c : Cl H Z ρ ρ1 W [] (tl x A) := c
      refine topC _ (by split <;> rfl) (fun hz => by rw [if_pos hz]; rfl) (fun hz => by rw [if_neg (by rw [hz]; exact Bool.false_ne_true)]; rfl) ?_
      exact c.less List.nodup_nil (fun a h => absurd h List.not_mem_nil) (fun a h => .inr (mem a h)) (fun a h => List.not_mem_nil) (c.oz r)
  cases m with
  | bor => exact q _ _ _ _ _ _ k ⟨rv, s', .refl, .nil⟩
  | kid =>
    unfold copyD at k
    simp only at k
    split at k
    · rename_i h; exact kimmCase h (fun z => by cases z) k
    · exact main (fun z => by cases z) rfl k
  | own =>
    unfold copyD at k
    simp only at k
    split at k
    · rename_i h; exact kimmCase h (fun z => by cases z) k
    · exact main (fun z => by cases z) rfl k
theorem Out.copy {K : PySem.W.Frag} {Z : List (Nat × Addr)} {m : Md} {ρ ρ1 : Pl} {H0 : Base} {H H1 H2 : Hp} {σ : L2.St} {W : Nat → List Addr} {x z : D} {la : Lv} {vx v : V} {A B C : List Addr} {Kk : KE} {Q : VK}
    (r : RL K H0 Z ρ σ H W) (o : Out K Z (smd m) ρ H W x la ρ1 vx H1 A) (s : Same H1 H2) (rv : Rep K H2 v z C) (sub : B.Sublist (tl x A)) (top : (z.isM = true → ∃ p, C = p :: B ∧ H1 p = none) ∧ (z.isM = false → C = B))
    (k : copyD m x z la ρ ρ1 Kk) (q : ∀ d l ρ' v H' A, Kk d l ρ' → Out K Z m ρ H W d l ρ' v H' A → Q v H') : Q v H2 :=
  Out.copyG r o s rv ⟨fun a h => sub.mem h, fun n => n.sublist sub⟩ top k q
theorem okB_inv {nm : Nm} {b : Str} {e : Expr} (h : okB t nm b e = true) : ∃ p, e = .Name b p ∧ glB nm b = true ∧ b ∈ t.B := by
  unfold okB at h
  split at h
  · simp only [Bool.and_eq_true, decide_eq_true_eq] at h
    obtain ⟨⟨rfl, h1⟩, h2⟩ := h
    exact ⟨_, rfl, h1, h2⟩
  · cases h
theorem snd_slc {a lo hi : Ex} (ha : Snd t Γ a) (hl : Snd t Γ lo) (hh : Snd t Γ hi) : Snd t Γ (.slc a lo hi) := mkSnd (fun X nm fnB g e ok m H0 Z ρ σ H W Kk Q r w q => by
  simp only [okE] at ok
  split at ok
  · rename_i ea l h p1 p2
    simp only [Bool.and_eq_true] at ok
    obtain ⟨⟨oa, ol⟩, oh⟩ := ok
    -- the parts
    have part : ∀ (c : Ex) (hc : Snd t Γ c) (e : Option Expr), (match e with | none => c.isNop | some l => okE t nm c l) = true → ∃ to, PO X e to ∧ ∀ (H1 : Hp) (K1 : Option Int → Prop) (Q1 : Option Int → Hp → Prop), RL X.K H0 Z ρ σ H1 W →
        partD c.isNop (fun k => wpE Γ .bor c ρ fun y _ _ => k y) K1 → (∀ i H2, K1 i → Same H1 H2 → Q1 i H2) → to σ H1 Q1 := fun c hc e oe => by
      cases e with
      | none =>
        have oe : c.isNop = true := oe
        refine ⟨_, po_none, fun H1 K1 Q1 r1 w1 q1 => ?_⟩
        rw [oe] at w1
        exact q1 _ _ w1 Same.refl
      | some e =>
        have oe : okE t nm c e = true := oe
        have nn : c.isNop = false := by cases c <;> first | rfl | (simp [okE] at oe)
        refine ⟨_, po_some peS, fun H1 K1 Q1 r1 w1 q1 => ?_⟩
        rw [nn] at w1
        refine hc.e X nm fnB g _ oe .bor H0 Z ρ σ H1 W _ _ r1 w1 fun y ly ρy vy H2 A2 w2 o2 => ?_
        obtain ⟨i, rfl, k⟩ := w2
        exact ⟨i, o2.rep.int_inv.1, q1 _ _ k o2.same⟩
    obtain ⟨tl', pl, hl'⟩ := part lo hl l ol
    obtain ⟨th', ph, hh'⟩ := part hi hh h oh
    refine seOf (pe_slice (sl_list.or sl_tup) peS pl ph) ?_
    refine ha.e X nm fnB g _ oa (smd m) H0 Z ρ σ H W _ _ r w fun x la ρ1 vx H1 A1 w1 o1 => ?_
    refine hl' H1 _ _ (r.mono o1.same) w1 fun i H2 w2 s2 => ?_
    refine hh' H2 _ _ (r.mono (o1.same.trans s2)) w2 fun j H3 w3 s3 => ?_
    refine slc_ok (o1.rep.same (s2.trans s3)) w3 fun z p C H4 k rv s4 hp sub => ?_
    rcases rv with ⟨hz, rv⟩ | ⟨hz, rv⟩
    · exact Out.copy r o1 ((s2.trans s3).trans s4) rv sub ⟨fun _ => ⟨p, rfl, (s2.trans s3).non hp⟩, fun z0 => by rw [hz] at z0; cases z0⟩ k q
    · exact Out.copy r o1 ((s2.trans s3).trans s4) rv sub ⟨(fun z0 => by rw [hz] at z0; cases z0), fun _ => rfl⟩ k q
  · cases ok) fun nm e ok => by cases e <;> first | rfl | (simp [okE] at ok)
theorem snd_call {gi : Nat} {cs : Exs} (hs : SndEs t Γ cs) : Snd t Γ (.call gi cs) := mkSnd (fun X nm fnB g e ok m H0 Z ρ σ H W Kk Q r w q => by
  simp only [okE] at ok
  split at ok
  · rename_i x p1 l pos
    simp only [Bool.and_eq_true, decide_eq_true_eq, Bool.not_eq_true'] at ok
    obtain ⟨⟨⟨⟨h1, hS⟩, h2⟩, h3⟩, h4⟩ := ok
    obtain ⟨f, fd, ps, k, F, hr, hm, hk, hb, hlen⟩ := g.call gi x h1
    rw [hS] at F
    have F : FnG X.prog X.w X.K X.mg X.base k f fd ps (spOf X.K ps.length (Γ.getD gi fun _ _ => False)) := F
    have fin : ∀ ds al ρ' vs H' A, (Γ.getD gi fun _ _ => False) ds (fun z => Kk z .deep ρ) → Reps X.K H' vs ds A → Same H H' → DemE ρ ρ' → (Md.bor = Md.own → ∃ O S, Cl H Z ρ ρ' W O S ∧ (∀ a, a ∈ A ↔ a ∈ O ∨ a ∈ S) ∧ (al = true → O = A ∧ S = [])) →
        spOf X.K ps.length (Γ.getD gi fun _ _ => False) vs H' Q E0 := fun ds al ρ1 vs H1 B w1 rs s1 d1 cl => by
      exact ⟨by rw [rs.length]; exact hlen _ _ w1, ds, B, _, rs, w1, fun d kd v H' A s rv nd new =>
        q _ _ _ _ _ _ kd (.fresh r (s1.trans s) rv nd fun a ha => s1.non (new a ha))⟩
    have body : tG (spOf X.K ps.length (Γ.getD gi fun _ _ => False)) (SA X l) σ H Q := hs X nm fnB g _ h4 .bor H0 Z ρ σ H W _ _ r w (fun ds al ρ1 vs H1 B w1 rs s1 d1 cl => fin ds al ρ1 vs H1 B w1 rs s1 d1 cl)
    cases l with
    | nil =>
      have e0 : tG (spOf X.K ps.length (Γ.getD gi fun _ _ => False)) tNil σ H Q := by
        cases cs with
        | nil => exact fin [] true ρ [] H [] w .nil Same.refl .refl (fun z => by cases z)
        | cons c cs => simp [okEs] at h4
      exact seOf (peG0 F g.gd hr (g.gl h2) hm hk hb h3) e0
    | cons e es =>
      refine seOf (peG F g.gd hr (g.gl h2) hm hk hb paS h3 ?_ ?_) body
      · rw [okEs_star cs h4]
        cases cs with
        | nil => simp [okEs] at h4
        | cons c cs =>
          simp only [okEs, Bool.and_eq_true] at h4
          rw [okEs_star cs h4.2]; rfl
      · cases cs with
        | nil => simp [okEs] at h4
        | cons c cs =>
          simp only [okEs, Bool.and_eq_true] at h4
          rw [okEs_star cs h4.2]; exact backTo_any es
  · cases ok) fun nm e ok => by cases e <;> first | rfl | (simp [okE] at ok)
/-- a value that shares its parts: nobody owns them -/
theorem Out.shared {K : PySem.W.Frag} {Z : List (Nat × Addr)} {m : Md} {ρ ρ1 : Pl} {H0 : Base} {H H1 H' : Hp} {σ : L2.St} {W : Nat → List Addr} {d : D} {v : V} {A C : List Addr} {al : Bool} (r : RL K H0 Z ρ σ H W) (s1 : Same H H1) (s : Same H1 H') (dm : DemE ρ ρ1) (rv : Rep K H' v d C)
    (sub : ∀ a ∈ C, H1 a = none ∨ a ∈ A) (cl : emd m = .own → ∃ O S, Cl H Z ρ ρ1 W O S ∧ (∀ a, a ∈ A ↔ a ∈ O ∨ a ∈ S) ∧ (al = true → O = A ∧ S = [])) : Out K Z m ρ H W d .froz ρ1 v H' C := by
  refine ⟨rv, s1.trans s, dm, ?_⟩
  have noZ : ∀ a, H a = none → a ∉ Z.map (·.2) := fun a e z => by
    obtain ⟨p, hp, q⟩ := List.mem_map.mp z
    subst q
    exact (r.zs p hp).2.2 (r.same.non e)
  have all : emd m = .own → ∀ a ∈ C, a ∉ Z.map (·.2) ∧ (H a = none ∨ ∃ i, a ∈ (ρ.pt i).own (W i) ∨ a ∈ (ρ.pt i).shr (W i)) ∧ ∀ i, a ∉ (ρ1.pt i).own (W i) := fun e a ha => by
    obtain ⟨O, S, c, mem, _⟩ := cl e
    rcases sub a ha with n | n
    · have n0 := s1.non n
      refine ⟨noZ a n0, .inl n0, fun i z => ?_⟩
      obtain ⟨o, q, _⟩ := r.dom (own_W ((dm.dem i).own z))
      rw [n0] at q; cases q
    · rcases (mem a).mp n with q | q
      · obtain ⟨c1, c2⟩ := c.o a q
        refine ⟨?_, ?_, fun i => (c2 i).1⟩
        · rcases c1 with n0 | ⟨i, z⟩
          · exact noZ a n0
          · exact r.zown z
        · rcases c1 with n0 | ⟨i, z⟩
          · exact .inl n0
          · exact .inr ⟨i, .inl z⟩
      · obtain ⟨_, c2, c3, c4⟩ := c.s a q
        exact ⟨c2, c3, c4⟩
  have base : emd m = .own → ∀ S : List Addr, (∀ a ∈ S, a ∈ C) → Cl H Z ρ ρ1 W [] S := fun e S hS => ⟨List.nodup_nil, fun a h => absurd h List.not_mem_nil, fun a h => ⟨List.not_mem_nil, all e a (hS a h)⟩⟩
  cases m with
  | bor => exact .nil
  | own => exact base rfl C fun _ h => h
  | kid =>
    refine base rfl (tl d C) fun a ha => ?_
    unfold tl at ha; split at ha
    · exact List.mem_of_mem_drop ha
    · exact ha
theorem snd_callF {gi : Nat} {cs : Exs} (hs : SndEs t Γ cs) : Snd t Γ (.callF gi cs) := mkSnd (fun X nm fnB g e ok m H0 Z ρ σ H W Kk Q r w q => by
  simp only [okE] at ok
  split at ok
  · rename_i x p1 l pos
    simp only [Bool.and_eq_true, decide_eq_true_eq, Bool.not_eq_true'] at ok
    obtain ⟨⟨⟨⟨h1, hS⟩, h2⟩, h3⟩, h4⟩ := ok
    obtain ⟨f, fd, ps, k, F, hr, hm, hk, hb, hlen⟩ := g.call gi x h1
    rw [hS] at F
    have F : FnG X.prog X.w X.K X.mg X.base k f fd ps (spOfS X.K ps.length (Γ.getD gi fun _ _ => False)) := F
    have fin : ∀ ds al ρ' vs H' A, (Γ.getD gi fun _ _ => False) ds (fun z => Kk z .froz ρ') → Reps X.K H' vs ds A → Same H H' → DemE ρ ρ' → (emd m = Md.own → ∃ O S, Cl H Z ρ ρ' W O S ∧ (∀ a, a ∈ A ↔ a ∈ O ∨ a ∈ S) ∧ (al = true → O = A ∧ S = [])) →
        spOfS X.K ps.length (Γ.getD gi fun _ _ => False) vs H' Q E0 := fun ds al ρ1 vs H1 B w1 rs s1 d1 cl => by
      exact ⟨by rw [rs.length]; exact hlen _ _ w1, ds, B, _, rs, w1, fun d kd v H' A s rv sub => q _ _ _ _ _ _ kd (.shared r s1 s d1 rv sub cl)⟩
    have body : tG (spOfS X.K ps.length (Γ.getD gi fun _ _ => False)) (SA X l) σ H Q := hs X nm fnB g _ h4 (emd m) H0 Z ρ σ H W _ _ r w (fun ds al ρ1 vs H1 B w1 rs s1 d1 cl => fin ds al ρ1 vs H1 B w1 rs s1 d1 cl)
    cases l with
    | nil =>
      have e0 : tG (spOfS X.K ps.length (Γ.getD gi fun _ _ => False)) tNil σ H Q := by
        cases cs with
        | nil => exact fin [] true ρ [] H [] w .nil Same.refl .refl (fun _ => ⟨[], [], .nil, fun a => ⟨fun z => absurd z List.not_mem_nil, fun z => absurd z (by simp)⟩, fun _ => ⟨rfl, rfl⟩⟩)
        | cons c cs => simp [okEs] at h4
      exact seOf (peG0 F g.gd hr (g.gl h2) hm hk hb h3) e0
    | cons e es =>
      refine seOf (peG F g.gd hr (g.gl h2) hm hk hb paS h3 ?_ ?_) body
      · rw [okEs_star cs h4]
        cases cs with
        | nil => simp [okEs] at h4
        | cons c cs =>
          simp only [okEs, Bool.and_eq_true] at h4
          rw [okEs_star cs h4.2]; rfl
      · cases cs with
        | nil => simp [okEs] at h4
        | cons c cs =>
          simp only [okEs, Bool.and_eq_true] at h4
          rw [okEs_star cs h4.2]; exact backTo_any es
  · cases ok) fun nm e ok => by cases e <;> first | rfl | (simp [okE] at ok)
theorem okEs_cons {nm : Nm} {cs : Exs} {e : Expr} {es : List Expr} (h : okEs t nm cs (e :: es) = true) : (∀ env, starEach (e :: es) env = (false, eval e env) :: starEach es env) ∧ ∀ pos env, (backTo pos (starEach es env)).any (·.1) = false := by
  cases cs with
  | nil => simp [okEs] at h
  | cons c cs =>
    have h' := h
    simp only [okEs, Bool.and_eq_true] at h
    refine ⟨fun env => star1 (okE_odd c h.1), fun pos env => ?_⟩
    rw [okEs_star cs h.2]; exact backTo_any es
theorem snd_blt {f : Blt} {cs : Exs} (hs : SndEs t Γ cs) : Snd t Γ (.blt f cs) := mkSnd (fun X nm fnB g e ok m H0 Z ρ σ H W Kk Q r w q => by
  simp only [okE] at ok
  split at ok
  · rename_i n l pos
    simp only [Bool.and_eq_true, Bool.not_eq_true'] at ok
    obtain ⟨⟨h1, h2⟩, h3⟩ := ok
    obtain ⟨p, rfl, hg, hB⟩ := okB_inv h1
    cases l with
    | nil => simp at h3
    | cons e es =>
      obtain ⟨k1, k2⟩ := okEs_cons h2
      have hm := g.blt _ hB
      have body : ∀ p, (p = bltD f) → tCB (rB X.K p) (SA X (e :: es)) σ H Q := fun p hp => by
        subst hp
        refine hs X nm fnB g _ h2 .bor H0 Z ρ σ H W _ _ r w fun ds al ρ1 vs H1 B w1 rs s1 d1 cl => ?_
        exact ⟨ds, B, _, rs, w1, fun z v k rv => q _ _ _ _ _ _ k (.scal rv s1)⟩
      cases f with
      | len => exact seOf (pe_callB (blt_len g.calm) (g.gl hg) hm PySem.boot_len paS (by decide) (by decide) (k1 _) (k2 _ _)) (body _ rfl)
      | abs => exact seOf (pe_callB (blt_abs g.calm) (g.gl hg) hm (by decide +kernel) paS (by decide) (by decide) (k1 _) (k2 _ _)) (body _ rfl)
      | min => exact seOf (pe_callB (blt_min g.calm) (g.gl hg) hm (by decide +kernel) paS (by decide) (by decide) (k1 _) (k2 _ _)) (body _ rfl)
      | max => exact seOf (pe_callB (blt_max g.calm) (g.gl hg) hm (by decide +kernel) paS (by decide) (by decide) (k1 _) (k2 _ _)) (body _ rfl)
      | sum => exact seOf (pe_callB (blt_sum g.calm) (g.gl hg) hm (by decide +kernel) paS (by decide) (by decide) (k1 _) (k2 _ _)) (body _ rfl)
      | int => exact seOf (pe_callTy (blt_int g.calm) (g.gl hg) hm (by decide +kernel) paS (by decide) (by decide) (k1 _) (k2 _ _)) (body _ rfl)
      | bool => exact seOf (pe_callTy (T := "bool") (r := rB X.K (bltD .bool)) (fun pins s σ H xs us Q I r h => by obtain ⟨ds, A, Kk, rr, q, fin⟩ := h; exact q.elim) (g.gl hg) hm (by decide +kernel) paS (by decide) (by decide) (k1 _) (k2 _ _)) (body _ rfl)
      | str => exact seOf (pe_callTy (T := "str") (r := rB X.K (bltD .str)) blt_str (g.gl hg) hm (by decide +kernel) paS (by decide) (by decide) (k1 _) (k2 _ _)) (body _ rfl)
      | repr => exact seOf (pe_callB (id := "repr") (r := rB X.K (bltD .repr)) (blt_repr g.gd (by have := g.room.un; omega)) (g.gl hg) hm (by decide +kernel) paS (by decide) (by decide) (k1 _) (k2 _ _)) (body _ rfl)
  · cases ok) fun nm e ok => by cases e <;> first | rfl | (simp [okE] at ok)
theorem snd_rev {a : Ex} (ha : Snd t Γ a) : Snd t Γ (.cpy .rev a) := mkSnd (fun X nm fnB g e ok m H0 Z ρ σ H W Kk Q r w q => by
  have ok : ∃ ea k p1 p2 p3 p4, e = .Subscript ea (.Slice none none (some (.UnaryOp .USub (.Constant (.int 1) k p1) p2)) p3) p4 ∧ okE t nm a ea = true := by
    unfold okE at ok
    split at ok
    · exact ⟨_, _, _, _, _, _, rfl, ok⟩
    all_goals first | (cases ok; done) | (exfalso; simp_all; done)
  obtain ⟨ea, k, p1, p2, p3, p4, rfl, ok⟩ := ok
  refine seOf (pe_revL peS) ?_
  refine ha.e X nm fnB g _ ok (smd m) H0 Z ρ σ H W _ _ r w fun x la ρ1 vx H1 A1 w1 o1 => ?_
  cases x <;> try (exact False.elim w1)
  rename_i xs
  obtain ⟨p, vs, B, rfl, rfl, ea, ra⟩ := o1.rep.lst_inv
  obtain ⟨C, rC, c1, c2⟩ := ra.reverse
  refine ⟨p, vs, rfl, SqL.of ea, fun l hl => ?_⟩
  exact Out.copyG r o1 (Same.updp hl) (.lst upd_same (rC.same (Same.updp hl))) ⟨c1, c2⟩ ⟨fun _ => ⟨l, rfl, hl⟩, fun z => by cases z⟩ w1 q) fun nm e ok => by cases e <;> first | rfl | (simp [okE] at ok)
theorem snd_cpyC {f : Cpy} {a : Ex} (hf : f ≠ .rev) (ha : Snd t Γ a) : Snd t Γ (.cpy f a) := mkSnd (fun X nm fnB g e ok m H0 Z ρ σ H W Kk Q r w q => by
  have ok2 : ∃ n e' p, e = .Call n [e'] [] p ∧ (okB t nm (Str.ofString f.name) n && okE t nm a e') = true := by
    unfold okE at ok
    split at ok
    · exact absurd rfl hf
    · exact absurd rfl hf
    · exact ⟨_, _, _, rfl, ok⟩
    · cases ok
  clear ok
  obtain ⟨n, e, pos, rfl, ok⟩ := ok2
  simp only [Bool.and_eq_true] at ok
  obtain ⟨p, rfl, hg, hB⟩ := okB_inv ok.1
  have k1 : ∀ env, starEach [e] env = (false, eval e env) :: starEach [] env := fun env => star1 (okE_odd a ok.2)
  have hm := g.blt _ hB
  have body : tCB (rCp X.K f) (tCons (SE X e) tNil) σ H Q := by
    refine ha.e X nm fnB g _ ok.2 (smd m) H0 Z ρ σ H W _ _ r w fun x la ρ1 vx H1 A1 w1 o1 => ?_
    exact ⟨vx, x, A1, _, rfl, o1.rep, w1, fun z v H' C k s rv hC => by
      obtain ⟨B, sub, t1, t2⟩ := hC
      exact Out.copyG r o1 s rv sub ⟨t1, t2⟩ k q⟩
  have pa : PA X [e] (tCons (SE X e) tNil) := pa_cons peS pa_nil (k1 _)
  cases f with
  | list => exact seOf (pe_callTy (cpy_list g.calm) (g.gl hg) hm (by decide +kernel) pa (by decide) (by decide) (k1 _) rfl) body
  | sorted => exact seOf (pe_callB (cpy_sorted g.calm) (g.gl hg) hm (by decide +kernel) pa (by decide) (by decide) (k1 _) rfl) body
  | sortd => exact seOf (pe_callB (cpy_sortd g.calm (by have := g.room.un; omega)) (g.gl hg) hm (by decide +kernel) pa (by decide) (by decide) (k1 _) rfl) body
  | tuple => exact seOf (pe_callTy (cpy_tuple g.calm) (g.gl hg) hm (by decide +kernel) pa (by decide) (by decide) (k1 _) rfl) body
  | set => exact seOf (pe_callTy (T := "set") (r := rCp X.K .set) (fun pins s σ H xs us Q I r h => by obtain ⟨x, d, A, Kk, rfl, r1, q, fin⟩ := h; cases d <;> exact q.elim) (g.gl hg) hm (by decide +kernel) pa (by decide) (by decide) (k1 _) rfl) body
  | rev => exact absurd rfl hf) fun nm e ok => by cases e <;> first | rfl | (simp [okE] at ok; done) | (cases f <;> simp [okE] at ok)
theorem snd_cpy {f : Cpy} {a : Ex} (ha : Snd t Γ a) : Snd t Γ (.cpy f a) := by
  by_cases h : f = .rev
  · subst h; exact snd_rev ha
  · exact snd_cpyC h ha
theorem snd_mn2 {a b : Ex} (ha : Snd t Γ a) (hb : Snd t Γ b) : Snd t Γ (.mn2 a b) := mkSnd (fun X nm fnB g e ok m H0 Z ρ σ H W Kk Q r w q => by
  have ok2 : ∃ n e1 e2 p, e = .Call n [e1, e2] [] p ∧ ((okB t nm "min" n && okE t nm a e1) && okE t nm b e2) = true := by
    simp only [okE] at ok
    split at ok
    · exact ⟨_, _, _, _, rfl, ok⟩
    · cases ok
  clear ok
  obtain ⟨n, ea, eb, pos, rfl, ok⟩ := ok2
  simp only [Bool.and_eq_true] at ok
  obtain ⟨p, rfl, hg, hB⟩ := okB_inv ok.1.1
  have k1 : ∀ env, starEach [ea, eb] env = (false, eval ea env) :: starEach [eb] env := fun env => star1 (okE_odd a ok.1.2)
  have k2 : ∀ env, starEach [eb] env = (false, eval eb env) :: starEach [] env := fun env => star1 (okE_odd b ok.2)
  have hm := g.blt _ hB
  have pa : PA X [ea, eb] (tCons (SE X ea) (tCons (SE X eb) tNil)) := pa_cons peS (pa_cons peS pa_nil (k2 _)) (k1 _)
  refine seOf (pe_callB (cr_min2L g.calm (by have := g.room.un; omega)) (g.gl hg) hm (by decide +kernel) pa (by decide) (by decide) (k1 _) (by rw [k2]; rfl)) ?_
  cases m with
  | own => exact False.elim w
  | kid => exact False.elim w
  | bor =>
    have w : wpE Γ .bor a ρ fun x _ _ => wpE Γ .bor b ρ fun y _ _ => ∃ xs ys ns ms, x = .lst xs ∧ y = .lst ys ∧ D.ints xs = some ns ∧ D.ints ys = some ms ∧ Kk (.lst ((if ltL ms ns = true then ms else ns).map .int)) .froz ρ := w
    refine ha.e X nm fnB g _ ok.1.2 .bor H0 Z ρ σ H W _ _ r w fun x la ρ1 vx H1 A1 w1 o1 => ?_
    refine hb.e X nm fnB g _ ok.2 .bor H0 Z ρ σ H1 W _ _ (r.mono o1.same) w1 fun y lb ρ2 vy H2 A2 w2 o2 => ?_
    obtain ⟨xs, ys, ns, ms, rfl, rfl, e1, e2, w3⟩ := w2
    obtain rfl := intsM e1
    obtain rfl := intsM e2
    have rx := o1.rep.same o2.same
    refine ⟨vx, vy, ns, ms, rfl, dp_ints rx, dp_ints o2.rep, ?_⟩
    have s' := o1.same.trans o2.same
    cases hlt : ltL ms ns with
    | false =>
      rw [hlt] at w3
      exact q _ _ _ _ _ _ w3 ⟨rx, s', .refl, .nil⟩
    | true =>
      rw [hlt] at w3
      exact q _ _ _ _ _ _ w3 ⟨o2.rep, s', .refl, .nil⟩) fun nm e ok => by cases e <;> first | rfl | (simp [okE] at ok)
theorem snd_mn {a : Ex} (ha : Snd t Γ a) : Snd t Γ (.mn a) := mkSnd (fun X nm fnB g e ok m H0 Z ρ σ H W Kk Q r w q => by
  have ok2 : ∃ n e' p, e = .Call n [e'] [] p ∧ (okB t nm "min" n && okE t nm a e') = true := by
    simp only [okE] at ok
    split at ok
    · exact ⟨_, _, _, rfl, ok⟩
    · cases ok
  clear ok
  obtain ⟨n, e, pos, rfl, ok⟩ := ok2
  simp only [Bool.and_eq_true] at ok
  obtain ⟨p, rfl, hg, hB⟩ := okB_inv ok.1
  have k1 : ∀ env, starEach [e] env = (false, eval e env) :: starEach [] env := fun env => star1 (okE_odd a ok.2)
  have hm := g.blt _ hB
  have pa : PA X [e] (tCons (SE X e) tNil) := pa_cons peS pa_nil (k1 _)
  refine seOf (pe_callB (cr_minL g.calm (by have := g.room.un; omega)) (g.gl hg) hm (by decide +kernel) pa (by decide) (by decide) (k1 _) rfl) ?_
  refine ha.e X nm fnB g _ ok.2 (smd m) H0 Z ρ σ H W _ _ r w fun x la ρ1 vx H1 A1 w1 o1 => ?_
  cases x <;> try (exact False.elim w1)
  rename_i xs
  obtain ⟨y, L, rfl, w2⟩ := w1
  obtain ⟨p1, vs1, B1, rfl, rfl, e1, ra1⟩ := o1.rep.lst_inv
  refine ⟨p1, vs1, y, L, rfl, SqL.of e1, dp_intss ra1, fun i v hv hL => ?_⟩
  obtain ⟨d, C, h1, h2, h3⟩ := ra1.at hv
  rw [List.getElem?_map, hL] at h1
  obtain rfl := Option.some.inj (show some _ = some d from h1)
  exact Out.part r o1 Same.refl h2 h3 w2 q) fun nm e ok => by cases e <;> first | rfl | (simp [okE] at ok)
theorem one_new {p : Addr} {H0 : Hp} (h : H0 p = none) : ∀ a ∈ [p], H0 a = none := fun a ha => by
  simp only [List.mem_cons, List.not_mem_nil, or_false] at ha
  subst ha; exact h
theorem few_ok {ns : List Int} (h : ns.length < 4000) : ns.length + 1 < scanBound := by unfold scanBound; omega
theorem snd_fz {f : Fz} {a : Ex} (ha : Snd t Γ a) : Snd t Γ (.fz f a) := mkSnd (fun X nm fnB g e ok m H0 Z ρ σ H W Kk Q r w q => by
  simp only [okE] at ok
  split at ok
  · simp only [Bool.and_eq_true] at ok
    obtain ⟨⟨ok1, ok2⟩, ok3⟩ := ok
    obtain ⟨p, rfl, hg, hB⟩ := okB_inv ok1
    obtain ⟨p', rfl, hg', hB'⟩ := okB_inv ok2
    refine seOf (pe_sset g.calm (g.gl hg) (g.blt _ hB) (g.gl hg') (g.blt _ hB') peS (star1 (okE_odd a ok3))) ?_
    refine ha.e X nm fnB g _ ok3 .bor H0 Z ρ σ H W _ _ r w fun x la ρ1 vx H1 A1 w1 o1 => ?_
    cases x <;> try (exact False.elim w1)
    obtain ⟨ns, e, few, k⟩ := w1
    obtain rfl := ints_map e
    obtain ⟨l, vs, B, rfl, rfl, ea, ra⟩ := o1.rep.lst_inv
    obtain ⟨rfl, rfl⟩ := ra.ints
    refine ⟨l, ns, rfl, SqL.of ea, few_ok few, fun ms p pw mem hp => ?_⟩
    obtain rfl := isort_dd pw mem
    exact q _ _ _ _ _ _ k (.fresh r (o1.same.trans (Same.updp hp)) (rep_ints upd_same) (List.pairwise_singleton _ _) (one_new (o1.same.non hp)))
  · simp only [Bool.and_eq_true] at ok
    obtain ⟨⟨ok1, ok2⟩, ok3⟩ := ok
    obtain ⟨p, rfl, hg, hB⟩ := okB_inv ok1
    obtain ⟨p', rfl, hg', hB'⟩ := okB_inv ok2
    refine seOf (pe_lset g.calm (g.gl hg) (g.blt _ hB) (g.gl hg') (g.blt _ hB') peS (star1 (okE_odd a ok3))) ?_
    refine ha.e X nm fnB g _ ok3 .bor H0 Z ρ σ H W _ _ r w fun x la ρ1 vx H1 A1 w1 o1 => ?_
    cases x <;> try (exact False.elim w1)
    obtain ⟨ns, e, few, k⟩ := w1
    obtain rfl := ints_map e
    obtain ⟨l, vs, B, rfl, rfl, ea, ra⟩ := o1.rep.lst_inv
    obtain ⟨rfl, rfl⟩ := ra.ints
    refine ⟨l, ns, rfl, SqL.of ea, few_ok few, fun ms nd mem => ?_⟩
    rw [len_dd nd mem]
    exact q _ _ _ _ _ _ k (.scal (.int _) o1.same)
  · simp only [Bool.and_eq_true] at ok
    obtain ⟨ok1, ok3⟩ := ok
    obtain ⟨p, rfl, hg, hB⟩ := okB_inv ok1
    refine seOf (pe_callTy (cr_setI g.calm) (g.gl hg) (g.blt _ hB) (by decide +kernel) (pa_cons peS pa_nil (star1 (okE_odd a ok3))) (by decide) (by decide) (star1 (okE_odd a ok3)) rfl) ?_
    refine ha.e X nm fnB g _ ok3 .bor H0 Z ρ σ H W _ _ r w fun x la ρ1 vx H1 A1 w1 o1 => ?_
    cases x <;> try (exact False.elim w1)
    obtain ⟨ns, e, few, k⟩ := w1
    obtain rfl := ints_map e
    obtain ⟨l, vs, B, rfl, rfl, ea, ra⟩ := o1.rep.lst_inv
    obtain ⟨rfl, rfl⟩ := ra.ints
    refine ⟨l, ns, rfl, SqL.of ea, few_ok few, fun ms p nd mem hp => ?_⟩
    rw [len_dd nd mem]
    refine q _ _ _ _ _ _ k (.fresh r (o1.same.trans (Same.updp hp)) (.set (a := p) ?_ nodup_dd) (List.pairwise_singleton _ _) (one_new (o1.same.non hp)))
    rw [upd_same]
    have e : (fun i => decide (i ∈ ns)) = fun i => decide (i ∈ dd ns) := funext fun i => decide_eq_decide.mpr mem_dd.symm
    rw [e]
  · cases ok) fun nm e ok => by cases e <;> first | rfl | (cases f <;> simp [okE] at ok)
theorem idx_of {ns : List Int} {i : Int} (h : i ∈ ns) : ns[ns.idxOf i]? = some i ∧ ∀ (m : Nat) (z : Int), m < ns.idxOf i → ns[m]? = some z → z ≠ i := by
  induction ns with
  | nil => cases h
  | cons x r ih =>
    by_cases e : x = i
    · subst e
      rw [List.idxOf_cons_self]
      exact ⟨rfl, fun m z hm => by omega⟩
    · have h' : i ∈ r := (List.mem_cons.mp h).resolve_left fun q => e q.symm
      have e0 : (x :: r).idxOf i = r.idxOf i + 1 := by
        have e1 : (x == i) = false := beq_false_of_ne e
        rw [List.idxOf_cons, e1]; rfl
      rw [e0]
      obtain ⟨h1, h2⟩ := ih h'
      refine ⟨by simpa using h1, fun m z hm hz => ?_⟩
      cases m with
      | zero => simp at hz; rw [← hz]; exact e
      | succ m => exact h2 m z (by omega) (by simpa using hz)
theorem snd_mth {f : Mth} {i : Nat} {c : Ex} (hc : Snd t Γ c) : Snd t Γ (.mth f i c) := mkSnd (fun X nm fnB g e ok m H0 Z ρ σ H W Kk Q r w q => by
  simp only [okE] at ok
  split at ok
  · rename_i ex m' ap e cp
    simp only [Bool.and_eq_true, beq_iff_eq] at ok
    obtain ⟨⟨⟨o1, rfl⟩, o3⟩, o4⟩ := ok
    obtain ⟨x, p, rfl, h1, h2, h3, h4⟩ := okV_inv o1
    have k1 : ∀ env, starEach [e] env = (false, eval e env) :: starEach [] env := fun env => star1 (okE_odd c o3)
    obtain ⟨v, hv, a, vs, rfl, ea, xs, rs, w⟩ := Out.var (Q := fun v H => ∃ (a : Addr) (vs : List V), v = .ref a ∧ H a = some (.lst vs) ∧ ∃ xs, (∃ A, Reps X.K H vs xs A) ∧ wpE Γ .bor c ρ fun y _ _ => mthD f (.lst xs) y fun z => Kk z .deep ρ) r w fun d l ρ' v H' A k o => by
      obtain ⟨xs, rfl, k⟩ := k
      obtain ⟨a, vs, B, rfl, rfl, ea, ra⟩ := o.rep.lst_inv
      exact ⟨a, vs, rfl, ea, xs, ⟨B, ra⟩, k⟩
    obtain ⟨A, ra⟩ := rs
    cases f with
    | count =>
      refine seOf (pe_bm PySem.F.plainAttrs_list PySem.F.slot_list_count PySem.F.type_list_count mt_lcount (pe_var (by rw [g.N]; exact h1) (g.vis h2) h3 h4) (pa_cons peS pa_nil (k1 _)) rfl (by rw [k1]; rfl) (by simp [o4]) (k1 _) rfl) ?_
      refine ⟨.ref a, hv, .inl ⟨rfl, _, SqL.of ea⟩, ?_⟩
      refine hc.e X nm _ g e o3 .bor H0 Z ρ σ H W _ _ r w fun d l ρ1 v H1 A w1 o => ?_
      cases d <;> try (exact w1.elim)
      obtain ⟨ns, e, k⟩ := w1
      obtain rfl := ints_map e
      obtain ⟨rfl, _⟩ := ra.ints
      obtain ⟨rfl, _⟩ := o.rep.int_inv
      exact ⟨a, ns, _, rfl, rfl, SqL.of (o.same _ _ ea), q _ _ _ _ _ _ k (.scal (.int _) o.same)⟩
    | index =>
      refine seOf (pe_bm PySem.F.plainAttrs_list PySem.F.slot_list_index PySem.F.type_list_index mt_index (pe_var (by rw [g.N]; exact h1) (g.vis h2) h3 h4) (pa_cons peS pa_nil (k1 _)) rfl (by rw [k1]; rfl) (by simp [o4]) (k1 _) rfl) ?_
      refine ⟨.ref a, hv, .inl ⟨rfl, _, SqL.of ea⟩, ?_⟩
      refine hc.e X nm _ g e o3 .bor H0 Z ρ σ H W _ _ r w fun d l ρ1 v H1 A w1 o => ?_
      cases d <;> try (exact w1.elim)
      rename_i n
      obtain ⟨ns, e, hn, k⟩ := w1
      obtain rfl := ints_map e
      obtain ⟨rfl, _⟩ := ra.ints
      obtain ⟨rfl, _⟩ := o.rep.int_inv
      obtain ⟨i1, i2⟩ := idx_of hn
      refine ⟨a, _, _, ns.idxOf n, .int n, rfl, rfl, SqL.of (o.same _ _ ea), rfl, by rw [List.all_eq_true]; intro z hz; obtain ⟨y, _, rfl⟩ := List.mem_map.mp hz; rfl, by rw [List.getElem?_map, i1]; rfl, by simp [L2.eqV], fun m z' hm hz => ?_, q _ _ _ _ _ _ k (.scal (.int _) o.same)⟩
      rw [List.getElem?_map] at hz
      cases hq : ns[m]? with
      | none => rw [hq] at hz; cases hz
      | some y =>
        rw [hq] at hz; cases hz
        have := i2 m y hm hq
        simpa [L2.eqV] using this
  · cases ok) fun nm e ok => by cases e <;> first | rfl | (simp [okE] at ok)
theorem snd_dct : Snd t Γ .dct := mkSnd (fun X nm fnB g e ok m H0 Z ρ σ H W Kk Q r w q => by
  simp only [okE] at ok
  split at ok
  · refine seOf pe_dnewK fun p hp => ?_
    exact q _ _ _ _ _ _ w (.fresh r (Same.updp hp) (.dic (ks := []) (vs := []) upd_same rfl .nil) (List.pairwise_singleton _ _) (one_new hp))
  · cases ok) fun nm e ok => by cases e <;> first | rfl | (simp [okE] at ok)
theorem immL_mem : ∀ {ds : List D} {d : D}, D.immL ds = true → d ∈ ds → d.imm = true
  | x :: r, d, h, m => by
    simp only [D.immL, Bool.and_eq_true] at h
    rcases List.mem_cons.mp m with rfl | m
    · exact h.1
    · exact immL_mem h.2 m
theorem dGet_mem {ks : List Key} {ds : List D} {k : Key} {z : D} (h : dGet ks ds k = some z) : z ∈ ds := by
  unfold dGet at h
  cases e : (ks.zip ds).find? (fun kv => decide (kv.1 = k)) with
  | none => rw [e] at h; cases h
  | some p =>
    rw [e] at h; cases h
    exact (List.of_mem_zip (List.mem_of_find?_eq_some e)).2
theorem snd_get {i : Nat} {ck cd : Ex} (hk : Snd t Γ ck) (hd : Snd t Γ cd) : Snd t Γ (.get i ck cd) := mkSnd (fun X nm fnB g e ok m H0 Z ρ σ H W Kk Q r w q => by
  simp only [okE] at ok
  split at ok
  · rename_i ex m' ap e f cp
    simp only [Bool.and_eq_true, beq_iff_eq] at ok
    obtain ⟨⟨⟨⟨o1, rfl⟩, o3⟩, o5⟩, o4⟩ := ok
    obtain ⟨x, p, rfl, h1, h2, h3, h4⟩ := okV_inv o1
    have k1 : ∀ env, starEach [e, f] env = [(false, eval e env), (false, eval f env)] := fun env => by rw [star1 (okE_odd ck o3), star1 (okE_odd cd o5)]; rfl
    obtain ⟨v, hv, a, ks, ds, vs, A, rfl, ea, hl, ra, w⟩ := Out.var (Q := fun v H => ∃ (a : Addr) (ks : List Key) (ds : List D) (vs : List V) (A : List Addr), v = .ref a ∧ H a = some (.dK (ks.zip vs)) ∧ ks.length = vs.length ∧ Reps X.K H vs ds A ∧ wpE Γ .bor ck ρ fun y _ _ => wpE Γ .bor cd ρ fun z _ _ => getD (.dic ks ds) y z fun v => Kk v .deep ρ) r w fun d l ρ' v H' A k o => by
      obtain ⟨ks, ds, rfl, k⟩ := k
      obtain ⟨a, vs, B, rfl, rfl, ea, hl, ra⟩ := o.rep.dic_inv
      exact ⟨a, ks, ds, vs, B, rfl, ea, hl, ra, k⟩
    refine seOf (pe_dget2 (by have := g.room.un; omega) (pe_var (by rw [g.N]; exact h1) (g.vis h2) h3 h4) peS peS ⟨rfl, by rw [k1]; rfl, by simp [o4], by rw [k1]; rfl⟩) ?_
    refine ⟨.ref a, hv, a, rfl, .inl ⟨_, .of ea⟩, ?_⟩
    refine hk.e X nm _ g e o3 .bor H0 Z ρ σ H W _ _ r w fun d l ρ1 v H1 A1 w1 o => ?_
    refine hd.e X nm _ g f o5 .bor H0 Z ρ σ H1 W _ _ (r.mono o.same) w1 fun d2 l2 ρ2 v2 H2 A2 w2 o2 => ?_
    obtain ⟨k, hk', im, imz, w2⟩ := w2
    obtain rfl := o.rep.key hk'
    have s2 := o.same.trans o2.same
    refine ⟨_, .k (s2 _ _ ea), ?_⟩
    obtain ⟨g1, g2⟩ := dGet_rep (k := k) (ra.same s2) hl
    cases hz : dGet ks ds k with
    | none =>
      rw [g2 hz]
      rw [hz] at w2
      exact q _ _ _ _ _ _ w2 (.immE o2.rep s2 imz)
    | some z =>
      obtain ⟨w', B, e1, e2, _⟩ := g1 z hz
      rw [e1]
      rw [hz] at w2
      exact q _ _ _ _ _ _ w2 (.immE e2 s2 (immL_mem im (dGet_mem hz)))
  · cases ok) fun nm e ok => by cases e <;> first | rfl | (simp [okE] at ok)
theorem snd_isi {a : Ex} {y : Ty} (ha : Snd t Γ a) : Snd t Γ (.isi a y) := mkSnd (fun X nm fnB g e ok m H0 Z ρ σ H W Kk Q r w q => by
  simp only [okE] at ok
  split at ok
  · rename_i n e n' pos
    simp only [Bool.and_eq_true] at ok
    obtain ⟨⟨h1, h2⟩, h3⟩ := ok
    obtain ⟨p, rfl, hg, hB⟩ := okB_inv h1
    obtain ⟨p', rfl, hg', hB'⟩ := okB_inv h3
    have k1 : ∀ env, starEach [e, .Name y.name p'] env = (false, eval e env) :: starEach [.Name y.name p'] env := fun env => star1 (okE_odd a h2)
    have hm := g.blt _ hB
    have hm' := g.blt _ hB'
    have pn : PE X (.Name y.name p') (tC (.ty y.name)) := by
      refine pe_bltn (g.gl hg') hm' (u := .type y.name) ?_ rfl ?_ ?_
      · cases y <;> decide +kernel
      · cases y <;> decide
      · cases y <;> decide
    have pa : PA X [e, .Name y.name p'] (tCons (SE X e) (tCons (tC (.ty y.name)) tNil)) := pa_cons peS (pa_cons pn pa_nil) (k1 _)
    refine seOf (pe_callB call_isi (g.gl hg) hm (by decide +kernel) pa (by decide) (by decide) (k1 _) rfl) ?_
    refine ha.e X nm fnB g _ h2 .bor H0 Z ρ σ H W _ _ r w fun x la ρ1 vx H1 A1 w1 o1 => ?_
    have nf : ∀ ds, x ≠ .fro ds := fun ds z => by subst z; exact w1
    have w1' : Kk (.bl (isiD y x)) .deep ρ := by cases x <;> first | exact w1 | exact w1.elim
    obtain ⟨ty, h1, h2⟩ := isi_ok y o1.rep nf
    exact ⟨vx, .ty y.name, ty, .type y.name, _, rfl, .ty _, h1, h2, q _ _ _ _ _ _ w1' (.scal (.bl _) o1.same)⟩
  · cases ok) fun nm e ok => by cases e <;> first | rfl | (simp [okE] at ok)
theorem reps_rng {K : PySem.W.Frag} {H : Hp} (a b : Int) : Reps K H (rgV a b) (rngL a b) [] := by
  unfold rgV rngL
  induction List.range (b - a).toNat with
  | nil => exact .nil
  | cons n r ih => exact .cons (.int _) ih
theorem snd_lrg {a b : Ex} (ha : Snd t Γ a) (hb : Snd t Γ b) : Snd t Γ (.lrg a b) := mkSnd (fun X nm fnB g e ok m H0 Z ρ σ H W Kk Q r w q => by
  simp only [okE] at ok
  split at ok
  · rename_i n n' ea eb p1 p2
    simp only [Bool.and_eq_true] at ok
    obtain ⟨⟨⟨h1, h2⟩, oa⟩, ob⟩ := ok
    obtain ⟨p, rfl, hg, hB⟩ := okB_inv h1
    obtain ⟨p', rfl, hg', hB'⟩ := okB_inv h2
    have k1 : ∀ env, starEach [ea, eb] env = (false, eval ea env) :: starEach [eb] env := fun env => star1 (okE_odd a oa)
    have k2 : ∀ env, starEach [eb] env = (false, eval eb env) :: starEach [] env := fun env => star1 (okE_odd b ob)
    refine seOf (pe_listRg g.calm (g.gl hg) (g.blt _ hB) (prg_2 (g.gl hg') (g.blt _ hB') peS peS (k1 _) (k2 _) (by rw [k2]; rfl))) ?_
    refine ha.e X nm fnB g _ oa .bor H0 Z ρ σ H W _ _ r w fun x la ρ1 vx H1 A1 w1 o1 => ?_
    refine hb.e X nm fnB g _ ob .bor H0 Z ρ σ H1 W _ _ (r.mono o1.same) w1 fun y ly ρy vy H2 A2 w2 o2 => ?_
    obtain ⟨i, j, rfl, rfl, hR, k⟩ := w2
    have e1 := o1.rep.int_inv.1
    have e2 := o2.rep.int_inv.1
    subst e1 e2
    refine ⟨i, j, rfl, rfl, hR, fun p hp => ?_⟩
    have sm : Same H2 (upd H2 p (.lst (rgV i j))) := Same.updp hp
    have s2 := o1.same.trans o2.same
    refine q _ _ _ _ _ _ k (.fresh r (s2.trans sm) (.lst upd_same (reps_rng i j)) (List.pairwise_singleton _ _) fun a ha => ?_)
    simp only [List.mem_cons, List.not_mem_nil, or_false] at ha
    subst ha; exact s2.non hp
  · rename_i n n' eb p1 p2
    simp only [Bool.and_eq_true] at ok
    obtain ⟨⟨⟨h1, h2⟩, oa⟩, ob⟩ := ok
    obtain ⟨p, rfl, hg, hB⟩ := okB_inv h1
    obtain ⟨p', rfl, hg', hB'⟩ := okB_inv h2
    have e0 : a = .num 0 := by
      cases a <;> first | rfl | (simp at oa; done) | skip
      rename_i i
      by_cases hi : i = 0
      · subst hi; rfl
      · exfalso; revert oa; simp [hi]
    subst e0
    have k2 : ∀ env, starEach [eb] env = (false, eval eb env) :: starEach [] env := fun env => star1 (okE_odd b ob)
    refine seOf (pe_listRg g.calm (g.gl hg) (g.blt _ hB) (prg_1 (g.gl hg') (g.blt _ hB') peS (k2 _))) ?_
    refine hb.e X nm fnB g _ ob .bor H0 Z ρ σ H W _ _ r w fun y ly ρy vy H2 A2 w2 o2 => ?_
    obtain ⟨i, j, e1, rfl, hR, k⟩ := w2
    cases e1
    have e2 := o2.rep.int_inv.1
    subst e2
    refine ⟨j, rfl, hR, fun p hp => ?_⟩
    have sm : Same H2 (upd H2 p (.lst (rgV 0 j))) := Same.updp hp
    refine q _ _ _ _ _ _ k (.fresh r (o2.same.trans sm) (.lst upd_same (reps_rng 0 j)) (List.pairwise_singleton _ _) fun a ha => ?_)
    simp only [List.mem_cons, List.not_mem_nil, or_false] at ha
    subst ha; exact o2.same.non hp
  · cases ok) fun nm e ok => by cases e <;> first | rfl | (simp [okE] at ok)
end
end R

namespace R
open PySem PySem.Spec PyProof.Rows L2
def upW (W : Nat → List Addr) (i : Nat) (A : List Addr) : Nat → List Addr := fun j => if j = i then A else W j
theorem upW_self {W : Nat → List Addr} {i : Nat} {A : List Addr} : upW W i A i = A := by unfold upW; rw [if_pos rfl]
theorem upW_ne {W : Nat → List Addr} {i j : Nat} {A : List Addr} (h : j ≠ i) : upW W i A j = W j := by unfold upW; rw [if_neg h]
theorem free_lt {ρ : Pl} {i : Nat} (h : free ρ i) : i < ρ.length := by
  unfold free at h; split at h
  · exact h.elim
  · exact h
theorem free_ln {ρ : Pl} {i : Nat} (h : free ρ i) : ∀ d, ρ.pt i ≠ .ln d := fun d e => by
  unfold free at h; rw [e] at h; exact h
section
variable {K : PySem.W.Frag} {H0 : Base} {H H' : Hp} {Z : List (Nat × Addr)} {ρ ρ' : Pl} {σ : L2.St} {W : Nat → List Addr}
/-- what a result shares may be read -/
theorem RL.us (r : RL K H0 Z ρ σ H W) {a : Addr} (h : H a = none ∨ ∃ i, a ∈ (ρ.pt i).own (W i) ∨ a ∈ (ρ.pt i).shr (W i)) : H0.u a := by
  rcases h with h | ⟨i, h | h⟩
  · exact r.fu a (r.same.non h)
  · exact r.fu a (r.new i a h)
  · exact r.inu i a h
theorem Out.us {d : D} {l : Lv} {v : V} {A : List Addr} (r : RL K H0 Z ρ σ H W) (o : Out K Z .own ρ H W d l ρ' v H' A) : ∀ a ∈ A, H0.u a := fun a ha => by
  have c := o.cl
  have ow : a ∈ (lvC l d).own A → H0.u a := fun z => r.us ((c.o a z).1.imp id fun ⟨i, q⟩ => ⟨i, .inl q⟩)
  have sh : a ∈ (lvC l d).shr A → H0.u a := fun z => r.us (c.s a z).2.2.1
  cases l with
  | froz => exact sh ha
  | deep => exact ow ha
  | top =>
    simp only [lvC, Cell.own, Cell.shr] at ow sh
    by_cases m : d.isM = true
    · rw [if_pos m] at ow sh
      rw [← List.take_append_drop 1 A] at ha
      rcases List.mem_append.mp ha with z | z
      · exact ow z
      · exact sh z
    · rw [if_neg m] at sh
      exact sh ha
/-- a place gets a value -/
theorem RL.put {i : Nat} {c : Cell} {v : V} {A : List Addr} (r : RL K H0 Z ρ σ H W) (fr : free ρ i) (nl : ∀ d, c ≠ .ln d) (rv : c.live = true → Rep K H v c.d A) (nd : (c.own A).Nodup)
    (o : ∀ a ∈ c.own A, H0 a = none ∧ ∀ j, j ≠ i → a ∉ (ρ.pt j).own (W j) ∧ a ∉ (ρ.pt j).shr (W j)) (s : ∀ a ∈ c.shr A, a ∉ c.own A ∧ a ∉ Z.map (·.2) ∧ ∀ j, j ≠ i → a ∉ (ρ.pt j).own (W j)) (u : ∀ a ∈ c.shr A, H0.u a) :
    RL K H0 Z (ρ.set i c) (σ.set i (some v)) H (upW W i A) := by
  have hi := free_lt fr
  have at_i : (ρ.set i c).pt i = c := pt_set_self hi
  have at_j : ∀ {j}, j ≠ i → (ρ.set i c).pt j = ρ.pt j := fun h => pt_set_ne (fun z => h z.symm)
  refine ⟨by rw [List.length_set, List.length_set]; exact r.len, fun j h => ?_, r.same, fun j => ?_, fun j k a jk h => ?_, fun j a h => ?_, fun j k a h => ?_, fun p hp => ?_, fun j a h => ?_, fun j d e m => ?_, r.fu, fun j a h => ?_⟩
  · by_cases e : j = i
    · subst e
      rw [at_i] at h
      rw [at_i, upW_self]
      exact ⟨v, by rw [List.getElem?_set_self (by rw [← r.len]; exact hi)], rv h⟩
    · rw [at_j e] at h
      rw [at_j e, upW_ne e]
      obtain ⟨u, hu, ru⟩ := r.rep j h
      exact ⟨u, by rw [List.getElem?_set_ne (fun z => e z.symm)]; exact hu, ru⟩
  · by_cases e : j = i
    · subst e; rw [at_i, upW_self]; exact nd
    · rw [at_j e, upW_ne e]; exact r.nd j
  · by_cases e : j = i
    · subst e
      rw [at_i, upW_self] at h
      rw [at_j (fun z => jk z.symm), upW_ne (fun z => jk z.symm)]
      exact ((o a h).2 k (fun z => jk z.symm)).1
    · rw [at_j e, upW_ne e] at h
      by_cases e2 : k = i
      · subst e2
        rw [at_i, upW_self]
        exact fun z => ((o a z).2 j e).1 h
      · rw [at_j e2, upW_ne e2]; exact r.dj j k a jk h
  · by_cases e : j = i
    · subst e; rw [at_i, upW_self] at h; exact (o a h).1
    · rw [at_j e, upW_ne e] at h; exact r.new j a h
  · by_cases e : j = i
    · subst e
      rw [at_i, upW_self] at h
      by_cases e2 : k = j
      · subst e2; rw [at_i, upW_self]; exact (s a h).1
      · rw [at_j e2, upW_ne e2]; exact (s a h).2.2 k e2
    · rw [at_j e, upW_ne e] at h
      by_cases e2 : k = i
      · subst e2; rw [at_i, upW_self]; exact fun z => ((o a z).2 j e).2 h
      · rw [at_j e2, upW_ne e2]; exact r.sh j k a h
  · obtain ⟨⟨d, e, m⟩, h2, h3⟩ := r.zs p hp
    have ne : p.1 ≠ i := fun z => free_ln fr d (z ▸ e)
    exact ⟨⟨d, by rw [at_j ne]; exact e, m⟩, by rw [List.getElem?_set_ne (fun z => ne z.symm)]; exact h2, h3⟩
  · by_cases e : j = i
    · subst e; rw [at_i, upW_self] at h; exact (s a h).2.1
    · rw [at_j e, upW_ne e] at h; exact r.zsh j a h
  · by_cases e1 : j = i
    · subst e1; rw [at_i] at e; exact absurd e (nl d)
    · rw [at_j e1] at e; exact r.zo j d e m
  · by_cases e : j = i
    · subst e; rw [at_i, upW_self] at h; exact u a h
    · rw [at_j e, upW_ne e] at h; exact r.inu j a h
theorem RL.fz {i : Nat} {d : D} {v : V} {A : List Addr} (r : RL K H0 Z ρ σ H W) (fr : free ρ i) (rv : Rep K H v d A) (s : ∀ a ∈ A, a ∉ Z.map (·.2) ∧ ∀ j, a ∉ (ρ.pt j).own (W j)) (u : ∀ a ∈ A, H0.u a) :
    RL K H0 Z (ρ.set i (.fz d)) (σ.set i (some v)) H (upW W i A) :=
  r.put fr (fun d z => by cases z) (fun _ => rv) List.nodup_nil (fun a h => absurd h List.not_mem_nil) (fun a h => ⟨List.not_mem_nil, (s a h).1, fun j _ => (s a h).2 j⟩) u
theorem lvC_d (l : Lv) (d : D) : (lvC l d).d = d := by cases l <;> rfl
theorem lvC_live (l : Lv) (d : D) : (lvC l d).live = true := by cases l <;> rfl
/-- a value that was evaluated is stored -/
theorem RL.store {i : Nat} {d : D} {l : Lv} {v : V} {A : List Addr} (r : RL K H0 Z ρ σ H W) (o : Out K Z .own ρ H W d l ρ' v H' A) (fr : free ρ' i) :
    RL K H0 Z (ρ'.set i (mkCell d l)) (σ.set i (some v)) H' (upW W i A) := by
  have r' := (r.dem o.dem).mono o.same
  cases im : d.imm with
  | true =>
    have em : mkCell d l = .fz d := by unfold mkCell; rw [if_pos im]
    rw [em]
    have e := o.rep.imm im
    have rv := o.rep
    subst e
    exact r'.fz fr rv (fun a h => absurd h List.not_mem_nil) fun a h => absurd h List.not_mem_nil
  | false =>
    have em : mkCell d l = lvC l d := by unfold mkCell; rw [if_neg (by rw [im]; exact Bool.false_ne_true)]; cases l <;> rfl
    rw [em]
    have c := o.cl
    refine r'.put fr (fun d z => by cases l <;> cases z) (fun _ => by rw [lvC_d]; exact o.rep) c.nd (fun a h => ⟨?_, fun j _ => (c.o a h).2 j⟩) (fun a h => ⟨(c.s a h).1, (c.s a h).2.1, fun j _ => (c.s a h).2.2.2 j⟩) fun a h => r.us (c.s a h).2.2.1
    rcases (c.o a h).1 with z | ⟨j, z⟩
    · exact r.same.non z
    · exact r.new j a z
theorem RL.lenS (r : RL K H0 Z ρ σ H W) : ρ.length = σ.length := r.len
/-- an address of its own is rewritten -/
theorem RL.updD {p : Addr} {o o' : HO} (r : RL K H0 Z ρ σ H W) (n : ∀ i, (ρ.pt i).live = true → p ∉ W i) (e : H p = some o) (m : Mut o) (h0 : H0 p = none) : RL K H0 Z ρ σ (upd H p o') W :=
  ⟨r.len, fun i h => let ⟨v, a, b⟩ := r.rep i h; ⟨v, a, b.upd (n i h) e m⟩, fun b x q => by
    rw [upd_ne (ne_of_none q h0)]; exact r.same b x q, r.nd, r.dj, r.new, r.sh, r.zs, r.zsh, r.zo, r.fu, r.inu⟩
end
section
variable {X : Cx} {t : Tab} {nm : Nm} {fnB : Str → Bool} {Γ : List SpD}
theorem okT1_inv {i : Nat} {e : Expr} (h : okT1 t nm fnB i e = true) : ∃ x p, e = .Name x p ∧ t.N[i]? = some x ∧ (nm.lookup x = some .local ∨ (nm.lookup x = some .cell ∧ fnB x = true)) := by
  unfold okT1 at h
  split at h
  · simp only [Bool.and_eq_true, decide_eq_true_eq] at h
    refine ⟨_, _, rfl, h.1, ?_⟩
    have h2 := h.2
    split at h2
    · rename_i q; exact .inl q
    · rename_i q; exact .inr ⟨q, h2⟩
    · cases h2
  · cases h
theorem pg_one (g : Good X t nm fnB Γ) {i : Nat} {e : Expr} (h : okT1 t nm fnB i e = true) : PG X e (gName i) := by
  obtain ⟨x, p, rfl, h1, h2⟩ := okT1_inv h
  refine pg_name g.nd (by rw [g.N]; exact h1) ?_ ?_
  · unfold L2.Loc; rw [g.nm]; rcases h2 with z | z
    · exact .inl z
    · exact .inr z.1
  · rw [g.nm]; rcases h2 with z | z
    · exact .inr z
    · exact .inl (g.fn x z.2)
/-- behind a target -/
structure TgR (K : PySem.W.Frag) (H0 : Base) (Z : List (Nat × Addr)) (ρ : Pl) (W : Nat → List Addr) (A : List Addr) (is : List Nat) (ρ' : Pl) (σ' : L2.St) (H : Hp) (W' : Nat → List Addr) : Prop where
  rl : RL K H0 Z ρ' σ' H W'
  len : ρ'.length = ρ.length
  off : ∀ j, j ∉ is → ρ'.pt j = ρ.pt j ∧ W' j = W j
  on : ∀ j, j ∈ is → (∃ d, ρ'.pt j = .fz d) ∧ ∀ a ∈ W' j, a ∈ A
def gSeq : List Nat → TGs
  | [] => gNil
  | i :: is => gCons (gName i) (gSeq is)
theorem pgs_many (g : Good X t nm fnB Γ) : ∀ {is : List Nat} {es : List Expr}, okTgs t nm fnB is es = true → PGs X es (gSeq is)
  | [], [], _ => pgs_nil
  | i :: is, e :: es, h => by
    simp only [okTgs, Bool.and_eq_true] at h
    obtain ⟨x, p, rfl, _⟩ := okT1_inv h.1
    exact pgs_cons (pg_one g h.1) (pgs_many g h.2)
  | [], _ :: _, h => by simp [okTgs] at h
  | _ :: _, [], h => by simp [okTgs] at h
theorem assignEach_len (env : PySem.Env) : ∀ {is : List Nat} {es : List Expr}, okTgs t nm fnB is es = true → (assignEach es env).length = is.length ∧ (assignEach es env).findIdx? (·.1) = none
  | [], [], _ => ⟨rfl, rfl⟩
  | i :: is, e :: es, h => by
    simp only [okTgs, Bool.and_eq_true] at h
    obtain ⟨x, p, rfl, _⟩ := okT1_inv h.1
    obtain ⟨h1, h2⟩ := assignEach_len env h.2
    have e1 : assignEach (.Name x p :: es) env = (false, assign (.Name x p) env) :: assignEach es env := rfl
    rw [e1]
    refine ⟨by rw [List.length_cons, List.length_cons, h1], ?_⟩
    rw [List.findIdx?_cons, h2]; rfl
  | [], _ :: _, h => by simp [okTgs] at h
  | _ :: _, [], h => by simp [okTgs] at h
theorem wipe_set {σ : L2.St} {i : Nat} {v : Option V} {vs : List Nat} (h : i ∈ vs) : wipe (σ.set i v) vs = wipe σ vs := by
  apply List.ext_getElem?
  intro j
  induction vs with
  | nil => cases h
  | cons w ws ih =>
    unfold wipe
    by_cases e : w = j
    · subst e
      by_cases hl : w < (wipe σ ws).length
      · rw [List.getElem?_set_self (by rw [wipe_length, List.length_set]; rw [wipe_length] at hl; exact hl), List.getElem?_set_self hl]
      · rw [List.getElem?_eq_none (by rw [List.length_set, wipe_length, List.length_set]; rw [wipe_length] at hl; omega), List.getElem?_eq_none (by rw [List.length_set]; omega)]
    · rw [List.getElem?_set_ne e, List.getElem?_set_ne e]
      rcases List.mem_cons.mp h with rfl | h
      · -- i = w, elsewhere
        clear ih h
        have : ∀ ws : List Nat, (wipe (σ.set i v) ws)[j]? = (wipe σ ws)[j]? := fun ws => by
          induction ws with
          | nil => exact List.getElem?_set_ne e
          | cons u us ih =>
            unfold wipe
            by_cases e2 : u = j
            · subst e2
              by_cases hl : u < (wipe σ us).length
              · rw [List.getElem?_set_self (by rw [wipe_length, List.length_set]; rw [wipe_length] at hl; exact hl), List.getElem?_set_self hl]
              · rw [List.getElem?_eq_none (by rw [List.length_set, wipe_length, List.length_set]; rw [wipe_length] at hl; omega), List.getElem?_eq_none (by rw [List.length_set]; omega)]
            · rw [List.getElem?_set_ne e2, List.getElem?_set_ne e2]; exact ih
        exact this ws
      · exact ih h
theorem gSeq_ok {K : PySem.W.Frag} {H0 : Base} {H : Hp} {Z : List (Nat × Addr)} {Q : L2.St → Hp → Prop} : ∀ {is : List Nat} {ds : List D} {vs : List V} {A : List Addr} {ρ : Pl} {σ : L2.St} {W : Nat → List Addr}, RL K H0 Z ρ σ H W → Reps K H vs ds A → is.length = ds.length → (∀ i ∈ is, free ρ i) →
    (∀ a ∈ A, a ∉ Z.map (·.2) ∧ ∀ j, a ∉ (ρ.pt j).own (W j)) → (∀ a ∈ A, H0.u a) → (∀ σ' W', TgR K H0 Z ρ W A is ((is.zip ds).foldl (fun ρ p => ρ.set p.1 (.fz p.2)) ρ) σ' H W' → (∀ vs' : List Nat, (∀ i ∈ is, i ∈ vs') → wipe σ' vs' = wipe σ vs') → Q σ' H) → gSeq is vs σ H Q
  | [], [], _, _, ρ, σ, W, r, .nil, _, _, _, _, q => ⟨rfl, q σ W ⟨r, rfl, fun j _ => ⟨rfl, rfl⟩, fun j h => absurd h List.not_mem_nil⟩ fun _ _ => rfl⟩
  | i :: is, d :: ds, _, _, ρ, σ, W, r, .cons (v := v) (vs := vs) (A := B) (B := C) r1 rs, hl, fr, hA, hu, q => by
    refine ⟨v, vs, rfl, ?_⟩
    show gSeq is vs (σ.set i (some v)) H Q
    have fi := fr i (List.mem_cons_self ..)
    have r' := r.fz fi r1 (fun a h => hA a (List.mem_append_left _ h)) fun a h => hu a (List.mem_append_left _ h)
    have off' : ∀ {j}, j ≠ i → (ρ.set i (.fz d)).pt j = ρ.pt j := fun h => pt_set_ne (fun z => h z.symm)
    refine gSeq_ok r' rs (by simpa using hl) (fun j hj => ?_) (fun a h => ⟨(hA a (List.mem_append_right _ h)).1, fun j => ?_⟩) (fun a h => hu a (List.mem_append_right _ h)) fun σ' W' tr hw => q σ' W' ⟨tr.rl, tr.len.trans (List.length_set ..), fun j hj => ?_, fun j hj => ?_⟩ fun vs' hv => ?_
    · have f := fr j (List.mem_cons_of_mem _ hj)
      unfold free
      rw [List.length_set]
      by_cases e : j = i
      · subst e; rw [pt_set_self (free_lt fi)]; exact free_lt fi
      · rw [off' e]; exact f
    · by_cases e : j = i
      · subst e; rw [pt_set_self (free_lt fi)]; exact List.not_mem_nil
      · rw [off' e, upW_ne e]; exact (hA a (List.mem_append_right _ h)).2 j
    · have h1 : j ≠ i := fun z => hj (z ▸ List.mem_cons_self ..)
      obtain ⟨e1, e2⟩ := tr.off j fun z => hj (List.mem_cons_of_mem _ z)
      exact ⟨e1.trans (off' h1), e2.trans (upW_ne h1)⟩
    · by_cases e : j ∈ is
      · obtain ⟨e1, e2⟩ := tr.on j e
        exact ⟨e1, fun a ha => List.mem_append_right _ (e2 a ha)⟩
      · have e0 : j = i := (List.mem_cons.mp hj).resolve_right e
        subst e0
        obtain ⟨e1, e2⟩ := tr.off j e
        refine ⟨⟨d, e1.trans (pt_set_self (free_lt fi))⟩, fun a ha => ?_⟩
        rw [e2, upW_self] at ha
        exact List.mem_append_left _ ha
    · rw [hw vs' fun j hj => hv j (List.mem_cons_of_mem _ hj)]
      exact wipe_set (hv i (List.mem_cons_self ..))
  | [], _ :: _, _, _, _, _, _, _, _, hl, _, _, _, _ => by simp at hl
  | _ :: _, [], _, _, _, _, _, _, _, hl, _, _, _, _ => by simp at hl
theorem sndG (g : Good X t nm fnB Γ) {tg : Tg} {e : Expr} (ok : okTg t nm fnB tg e = true) {H0 : Base} {H : Hp} {Z : List (Nat × Addr)} {ρ : Pl} {σ : L2.St} {W : Nat → List Addr} {d : D} {v : V} {A : List Addr} {Kk : Pl → Prop} {Q : L2.St → Hp → Prop}
    (r : RL X.K H0 Z ρ σ H W) (rv : Rep X.K H v d A) (hA : ∀ a ∈ A, a ∉ Z.map (·.2) ∧ ∀ j, a ∉ (ρ.pt j).own (W j)) (hu : ∀ a ∈ A, H0.u a) (fr : ∀ i ∈ tg.slots, free ρ i) (w : tgD tg d ρ Kk)
    (q : ∀ ρ' σ' W', Kk ρ' → TgR X.K H0 Z ρ W A tg.slots ρ' σ' H W' → (∀ vs' : List Nat, (∀ i ∈ tg.slots, i ∈ vs') → wipe σ' vs' = wipe σ vs') → Q σ' H) : SG X e v σ H Q := by
  cases tg with
  | one i =>
    have ok : okT1 t nm fnB i e = true := ok
    have fi := fr i (List.mem_singleton.mpr rfl)
    refine sgOf (pg_one g ok) (q _ _ _ w ⟨r.fz fi rv hA hu, List.length_set .., fun j hj => ?_, fun j hj => ?_⟩ fun vs' hv => wipe_set (hv i (List.mem_singleton.mpr rfl)))
    · have h1 : j ≠ i := fun z => hj (List.mem_singleton.mpr z)
      exact ⟨pt_set_ne (fun z => h1 z.symm), upW_ne h1⟩
    · obtain rfl := List.mem_singleton.mp hj
      exact ⟨⟨d, pt_set_self (free_lt fi)⟩, fun a ha => by rwa [upW_self] at ha⟩
  | many is =>
    have ok' : ∃ es k p, e = .Tuple es k p ∧ okTgs t nm fnB is es = true := by
      unfold okTg at ok
      cases e <;> first | (exact ⟨_, _, _, rfl, ok⟩) | (simp at ok)
    obtain ⟨es, k, p, rfl, ok⟩ := ok'
    cases d <;> try (exact w.elim)
    rename_i ds
    obtain ⟨a, vs, rfl, ea, ra⟩ := rv.tup_inv
    obtain ⟨hl, w⟩ := w
    obtain ⟨l1, l2⟩ := assignEach_len (t := t) (nm := nm) (fnB := fnB) X.env ok
    refine sgOf (pg_tup g.calm (pgs_many g ok) l1 l2) ⟨a, vs, rfl, SqT.of ea, by rw [ra.length, hl], ?_⟩
    exact gSeq_ok r ra hl fr hA hu fun σ' W' tr hw => q _ _ _ w tr hw
theorem sndG1 (g : Good X t nm fnB Γ) {i : Nat} {e : Expr} (ok : okT1 t nm fnB i e = true) {H0 : Base} {H : Hp} {Z : List (Nat × Addr)} {ρ : Pl} {σ : L2.St} {W : Nat → List Addr} {d : D} {v : V} {A : List Addr} {Q : L2.St → Hp → Prop}
    (r : RL X.K H0 Z ρ σ H W) (rv : Rep X.K H v d A) (hA : ∀ a ∈ A, a ∉ Z.map (·.2) ∧ ∀ j, a ∉ (ρ.pt j).own (W j)) (hu : ∀ a ∈ A, H0.u a) (fi : free ρ i)
    (q : RL X.K H0 Z (ρ.set i (.fz d)) (σ.set i (some v)) H (upW W i A) → Q (σ.set i (some v)) H) : SG X e v σ H Q :=
  sgOf (pg_one g ok) (q (r.fz fi rv hA hu))
end
end R

namespace R
open PySem PySem.Spec PyProof.Rows L2
/-- what is walked: vs, read from src -/
def ItOk (J : L2.It) (vs : List V) (src : List Addr) (H1 : Hp) : Prop :=
  ∀ H2 : Hp, (∀ a ∈ src, H2 a = H1 a) → (∀ b o, H1 b = some o → Fix o → H2 b = some o) → (∀ i, i < vs.length → J.go i H2) ∧ (∀ i, vs.length ≤ i → J.stop i H2) ∧ ∀ i x H3, i < vs.length → J.yld i H2 x H3 → H3 = H2 ∧ vs[i]? = some x
section
variable {K : PySem.W.Frag}
theorem itOk_list {H1 : Hp} {a : Addr} {vs : List V} (e : H1 a = some (.lst vs)) : ItOk (Itl K a) vs [a] H1 := fun H2 h _ => by
  have e2 : H2 a = some (.lst vs) := (h a (List.mem_singleton.mpr rfl)).trans e
  refine ⟨fun i hi => ⟨vs, vs[i], SqL.of e2, by simp [hi]⟩, fun i hi => ⟨vs, SqL.of e2, hi⟩, fun i x H3 hi y => ?_⟩
  obtain ⟨rfl, y⟩ := y
  exact ⟨rfl, y vs (SqL.of e2)⟩
theorem itOk_tup {H1 : Hp} {a : Addr} {vs : List V} (e : H1 a = some (.tup vs)) : ItOk (Itt K a) vs [] H1 := fun H2 _ h => by
  have e2 : H2 a = some (.tup vs) := h a _ e True.intro
  refine ⟨fun i hi => ⟨vs, vs[i], SqT.of e2, by simp [hi]⟩, fun i hi => ⟨vs, SqT.of e2, hi⟩, fun i x H3 hi y => ?_⟩
  obtain ⟨rfl, y⟩ := y
  exact ⟨rfl, y vs (SqT.of e2)⟩
theorem rgV_at {a b : Int} {i : Nat} (h : i < (b - a).toNat) : (rgV a b)[i]? = some (.int (a + (i : Nat))) := by
  unfold rgV
  rw [List.getElem?_map, List.getElem?_range h]; rfl
theorem itOk_rng {H1 : Hp} {a b : Int} : ItOk (Itr a (b - a).toNat) (rgV a b) [] H1 := fun H2 _ _ => by
  refine ⟨fun i hi => by rw [rgV_length] at hi; exact hi, fun i hi => by rw [rgV_length] at hi; exact hi, fun i x H3 hi y => ?_⟩
  rw [rgV_length] at hi
  obtain ⟨rfl, rfl⟩ := y
  exact ⟨rfl, rgV_at hi⟩
end
section
variable (t : Tab) (Γ : List SpD)
def SndI (c : Rg) : Prop := ∀ (X : Cx) (nm : Nm) (fnB : Str → Bool), Good X t nm fnB Γ → ∀ (tg e : Expr), okI t nm c e = true → ∀ (m : Md) (H0 : Base) (Z : List (Nat × Addr)) (ρ : Pl) (σ : L2.St) (H : Hp) (W : Nat → List Addr) (Kk : List D → Pl → Prop) (R : L2.It → Hp → Prop),
  RL X.K H0 Z ρ σ H W → m ≠ .bor → wpI Γ m c ρ Kk → (∀ xs ρ' vs J H' A src, Kk xs ρ' → Reps X.K H' vs xs A → Same H H' → DemE ρ ρ' → Cl H Z ρ ρ' W [] A → ItOk J vs src H' → (∀ a ∈ src, ∃ o, H' a = some o ∧ Mut o) →
    (m = .own → ∀ a ∈ src, (∀ i, a ∉ (ρ'.pt i).own (W i)) ∧ (H a = none ∨ ∃ i, a ∈ (ρ.pt i).own (W i) ∨ a ∈ (ρ.pt i).shr (W i))) → R J H') → SI X tg e σ H R
end
section
variable {t : Tab} {Γ : List SpD}
theorem sndi_rng1 {b : Ex} (hb : Snd t Γ b) : SndI t Γ (.rng1 b) := fun X nm fnB g tg e ok m H0 Z ρ σ H W Kk Q r hm w q => by
  simp only [okI] at ok
  split at ok
  · simp only [Bool.and_eq_true] at ok
    obtain ⟨p, rfl, hg, hB⟩ := okB_inv ok.1
    have k1 : ∀ env, starEach [_] env = (false, eval _ env) :: starEach [] env := fun env => star1 (okE_odd b ok.2)
    refine siOf (pi_range1 (g.gl hg) (g.blt _ hB) (pa_cons peS pa_nil (k1 _)) (k1 _)) ?_
    refine hb.e X nm fnB g _ ok.2 .bor H0 Z ρ σ H W _ _ r w fun y ly ρy vy H2 A2 w2 o2 => ?_
    obtain ⟨j, rfl, ⟨b1, b2⟩, k⟩ := w2
    obtain ⟨rfl, rfl⟩ := o2.rep.int_inv
    refine ⟨j, rfl, b1, b2, ?_⟩
    have e : j.toNat = (j - 0).toNat := by rw [Int.sub_zero]
    rw [e]
    exact q _ ρ _ _ H2 [] [] k (reps_rng 0 j) o2.same .refl .nil itOk_rng (fun a h => absurd h List.not_mem_nil) (fun _ a h => absurd h List.not_mem_nil)
  · cases ok
theorem sndi_rng2 {a b : Ex} (ha : Snd t Γ a) (hb : Snd t Γ b) : SndI t Γ (.rng2 a b) := fun X nm fnB g tg e ok m H0 Z ρ σ H W Kk Q r hm w q => by
  simp only [okI] at ok
  split at ok
  · rename_i n ea eb pos
    simp only [Bool.and_eq_true] at ok
    obtain ⟨⟨h1, oa⟩, ob⟩ := ok
    obtain ⟨p, rfl, hg, hB⟩ := okB_inv h1
    have k1 : ∀ env, starEach [ea, eb] env = (false, eval ea env) :: starEach [eb] env := fun env => star1 (okE_odd a oa)
    have k2 : ∀ env, starEach [eb] env = (false, eval eb env) :: starEach [] env := fun env => star1 (okE_odd b ob)
    refine siOf (pi_range2A (g.gl hg) (g.blt _ hB) (pa_cons peS (pa_cons peS pa_nil (k2 _)) (k1 _)) (by rw [k1, k2]; rfl) (k2 _)) ?_
    refine ha.e X nm fnB g _ oa .bor H0 Z ρ σ H W _ _ r w fun x lx ρx vx H1 A1 w1 o1 => ?_
    refine hb.e X nm fnB g _ ob .bor H0 Z ρ σ H1 W _ _ (r.mono o1.same) w1 fun y ly ρy vy H2 A2 w2 o2 => ?_
    obtain ⟨i, j, rfl, rfl, bb, k⟩ := w2
    obtain ⟨rfl, rfl⟩ := o1.rep.int_inv
    obtain ⟨rfl, rfl⟩ := o2.rep.int_inv
    refine ⟨i, j, rfl, ?_⟩
    exact q _ ρ _ _ H2 [] [] k (reps_rng i j) (o1.same.trans o2.same) .refl .nil itOk_rng (fun a h => absurd h List.not_mem_nil) (fun _ a h => absurd h List.not_mem_nil)
  · cases ok
theorem itOk_rngC {H1 : Hp} {lo c : Int} {n : Nat} : ItOk (Itc lo c n) ((List.range n).map fun k => V.int (lo + (k : Nat) * c)) [] H1 := fun H2 _ _ => by
  have len : ((List.range n).map fun k => V.int (lo + (k : Nat) * c)).length = n := by simp
  refine ⟨fun i hi => by rw [len] at hi; exact hi, fun i hi => by rw [len] at hi; exact hi, fun i x H3 hi y => ?_⟩
  rw [len] at hi
  obtain ⟨rfl, rfl⟩ := y
  exact ⟨rfl, by rw [List.getElem?_map, List.getElem?_range hi]; rfl⟩
theorem reps_rngC {K : PySem.W.Frag} {H : Hp} (lo c : Int) (n : Nat) : Reps K H ((List.range n).map fun k => V.int (lo + (k : Nat) * c)) ((List.range n).map fun k => D.int (lo + (k : Nat) * c)) [] := by
  induction List.range n with
  | nil => exact .nil
  | cons n r ih => exact .cons (.int _) ih
theorem sndi_rng3 {a b c : Ex} (ha : Snd t Γ a) (hb : Snd t Γ b) (hc : Snd t Γ c) : SndI t Γ (.rng3 a b c) := fun X nm fnB g tg e ok m H0 Z ρ σ H W Kk Q r hm w q => by
  simp only [okI] at ok
  split at ok
  · rename_i n ea eb ec pos
    simp only [Bool.and_eq_true] at ok
    obtain ⟨⟨⟨h1, oa⟩, ob⟩, oc⟩ := ok
    obtain ⟨p, rfl, hg, hB⟩ := okB_inv h1
    have k1 : ∀ env, starEach [ea, eb, ec] env = (false, eval ea env) :: starEach [eb, ec] env := fun env => star1 (okE_odd a oa)
    have k2 : ∀ env, starEach [eb, ec] env = (false, eval eb env) :: starEach [ec] env := fun env => star1 (okE_odd b ob)
    have k3 : ∀ env, starEach [ec] env = (false, eval ec env) :: starEach [] env := fun env => star1 (okE_odd c oc)
    refine siOf (pi_range3 (g.gl hg) (g.blt _ hB) (pa_cons peS (pa_cons peS (pa_cons peS pa_nil (k3 _)) (k2 _)) (k1 _)) (k1 _) (by rw [k2, k3]; rfl)) ?_
    refine ha.e X nm fnB g _ oa .bor H0 Z ρ σ H W _ _ r w fun x lx ρx vx H1 A1 w1 o1 => ?_
    refine hb.e X nm fnB g _ ob .bor H0 Z ρ σ H1 W _ _ (r.mono o1.same) w1 fun y ly ρy vy H2 A2 w2 o2 => ?_
    refine hc.e X nm fnB g _ oc .bor H0 Z ρ σ H2 W _ _ (r.mono (o1.same.trans o2.same)) w2 fun z lz ρz vz H3 A3 w3 o3 => ?_
    obtain ⟨i, j, s, n, rfl, rfl, rfl, bb, k⟩ := w3
    obtain ⟨rfl, rfl⟩ := o1.rep.int_inv
    obtain ⟨rfl, rfl⟩ := o2.rep.int_inv
    obtain ⟨rfl, rfl⟩ := o3.rep.int_inv
    refine ⟨i, j, s, n, rfl, bb, ?_⟩
    exact q _ ρ _ _ H3 [] [] k (reps_rngC i s n) ((o1.same.trans o2.same).trans o3.same) .refl .nil itOk_rngC (fun a h => absurd h List.not_mem_nil) (fun _ a h => absurd h List.not_mem_nil)
  · cases ok
theorem pi_seq {X : Cx} {tg e : Expr} {te : TE} (he : PE X e te) : PI X tg e (fun σ H R => te σ H fun x H1 => ∃ a, x = V.ref a ∧ (((∃ xs, SqL X.K H1 a xs) ∧ R (Itl X.K a) H1) ∨ ((∃ xs, SqT X.K H1 a xs) ∧ R (Itt X.K a) H1))) := by
  refine ⟨fun pins s σ H R I q => ?_⟩
  refine thn (he.run pins s σ H _ I q) fun v s1 ⟨x, H1, I1, r1, q1⟩ => ?_
  obtain ⟨a, e, q1⟩ := q1
  subst e
  cases r1
  rcases q1 with ⟨⟨xs, hS⟩, q1⟩ | ⟨⟨xs, hS⟩, q1⟩
  · obtain ⟨its, r', pl, hz⟩ := I1.list hS
    refine wpAny_pyIter_list pl.isList ?_
    refine ⟨s1.heap.objs.size, [s1.heap.objs.size], _, _, H1, rfl, I1.kept (t' := s1.toks) fun b o e => Heap.get?_push_of_some _ e, turn_list a _, ⟨_, Heap.get?_push_size _ rfl, rfl, rfl⟩, fun b hb => ?_, q1⟩
    have e : b = s1.heap.objs.size := by simpa using hb
    subst e
    exact I1.fpOk (Nat.le_refl _) (I1.hok.fresh (Nat.le_refl _))
  · obtain ⟨its, r', pl, hz⟩ := I1.tuple hS
    refine wpAny_pyIter_tuple (show s1.heap.IsTuple a its.toArray from pl) ?_
    refine ⟨s1.heap.objs.size, [s1.heap.objs.size], _, _, H1, rfl, I1.kept (t' := s1.toks) fun b o e => Heap.get?_push_of_some _ e, turn_tuple a _, ⟨_, Heap.get?_push_size _ rfl, rfl, rfl⟩, fun b hb => ?_, q1⟩
    have e : b = s1.heap.objs.size := by simpa using hb
    subst e
    exact I1.fpOk (Nat.le_refl _) (I1.hok.fresh (Nat.le_refl _))
theorem sndi_col {a : Ex} (ha : Snd t Γ a) : SndI t Γ (.col a) := fun X nm fnB g tg e ok m H0 Z ρ σ H W Kk Q r hm w q => by
  have ok : okE t nm a e = true := ok
  refine siOf (pi_seq peS) ?_
  refine ha.e X nm fnB g _ ok m H0 Z ρ σ H W _ _ r w fun x la ρ1 vx H1 A1 w1 o1 => ?_
  -- the kids' claim
  have kids : Cl H Z ρ ρ1 W [] (tl x A1) := by
    have c := o1.cl
    cases m with
    | bor => exact absurd rfl hm
    | kid => exact c.less List.nodup_nil (fun a h => absurd h List.not_mem_nil) (fun a h => by simp only [pO, pS]; cases la <;> simp [isDeep, h]) (fun a h => List.not_mem_nil) (c.oz r)
    | own =>
      refine c.less List.nodup_nil (fun a h => absurd h List.not_mem_nil) (fun a h => ?_) (fun a h => List.not_mem_nil) (c.oz r)
      simp only [pO, pS]
      have h' : a ∈ A1 := by unfold tl at h; split at h; exact List.mem_of_mem_drop h; exact h
      cases la with
      | froz => exact .inr h'
      | deep => exact .inl h'
      | top =>
        right
        unfold tl at h
        simp only [lvC, Cell.shr]
        exact h
  have fin : ∀ (xs : List D), kidK m xs (Kk xs ρ) (Kk xs ρ1) →
      ∀ (vs : List V) (J : L2.It) (src : List Addr), Reps X.K H1 vs xs (tl x A1) → ItOk J vs src H1 → (∀ a ∈ src, ∃ o, H1 a = some o ∧ Mut o) → (m = .own → ∀ a ∈ src, (∀ i, a ∉ (ρ1.pt i).own (W i)) ∧ (H a = none ∨ ∃ i, a ∈ (ρ.pt i).own (W i) ∨ a ∈ (ρ.pt i).shr (W i))) → Q J H1 := fun xs w0 vs J src rs it tr ow => by
    cases m with
    | bor => exact absurd rfl hm
    | kid =>
      unfold kidK at w0
      simp only at w0
      split at w0
      · rename_i im
        have e := rs.imm im
        rw [e] at rs
        exact q xs ρ vs J H1 [] src w0 rs o1.same .refl .nil it tr (fun z => by cases z)
      · exact q xs ρ1 vs J H1 _ src w0 rs o1.same o1.dem kids it tr (fun z => by cases z)
    | own => exact q xs ρ1 vs J H1 _ src w0 rs o1.same o1.dem kids it tr ow
  cases x <;> try (exact w1.elim)
  · rename_i xs
    obtain ⟨a, vs, rfl, ea, ra⟩ := o1.rep.tup_inv
    exact ⟨a, rfl, .inr ⟨⟨vs, SqT.of ea⟩, fin xs w1 vs _ [] ra (itOk_tup ea) (fun a h => absurd h List.not_mem_nil) (fun _ a h => absurd h List.not_mem_nil)⟩⟩
  · rename_i xs
    obtain ⟨a, vs, B, rfl, rfl, ea, ra⟩ := o1.rep.lst_inv
    refine ⟨a, rfl, .inl ⟨⟨vs, SqL.of ea⟩, fin xs w1 vs _ [a] ra (itOk_list ea) (fun b h => ?_) (fun hmo b h => ?_)⟩⟩
    · obtain rfl := List.mem_singleton.mp h
      exact ⟨_, ea, True.intro⟩
    · obtain rfl := List.mem_singleton.mp h
      subst hmo
      have c := o1.cl
      cases la with
      | froz =>
        have z := c.s b (List.mem_cons_self ..)
        exact ⟨z.2.2.2, z.2.2.1⟩
      | deep =>
        have z := c.o b (List.mem_cons_self ..)
        exact ⟨fun i => (z.2 i).1, z.1.elim .inl fun ⟨i, q⟩ => .inr ⟨i, .inl q⟩⟩
      | top =>
        have z := c.o b (by show b ∈ (Cell.tp (D.lst xs)).own (b :: B); simp [Cell.own, D.isM])
        exact ⟨fun i => (z.2 i).1, z.1.elim .inl fun ⟨i, q⟩ => .inr ⟨i, .inl q⟩⟩
theorem itOk_rev {K : PySem.W.Frag} {H1 : Hp} {a : Addr} {vs : List V} (e : H1 a = some (.lst vs)) : ItOk (Itv K a vs.length) vs.reverse [a] H1 := fun H2 h _ => by
  have e2 : H2 a = some (.lst vs) := (h a (List.mem_singleton.mpr rfl)).trans e
  have ix : ∀ i, i < vs.length → vs.reverse[i]? = vs[vs.length - 1 - i]? := fun i hi => List.getElem?_reverse hi
  refine ⟨fun i hi => ?_, fun i hi => by rw [List.length_reverse] at hi; exact hi, fun i x H3 hi y => ?_⟩
  · rw [List.length_reverse] at hi
    exact ⟨hi, vs, vs[vs.length - 1 - i]'(by omega), SqL.of e2, List.getElem?_eq_getElem _⟩
  · rw [List.length_reverse] at hi
    obtain ⟨rfl, y⟩ := y
    exact ⟨rfl, (ix i hi).trans (y vs (SqL.of e2))⟩
theorem reps_rev0 {K : PySem.W.Frag} {H : Hp} : ∀ {vs : List V} {ds : List D} {A : List Addr}, Reps K H vs ds A → A = [] → Reps K H vs.reverse ds.reverse []
  | _, _, _, .nil, _ => .nil
  | _, _, _, .cons (A := A1) (B := B1) r rs, e => by
    obtain ⟨rfl, rfl⟩ := List.append_eq_nil_iff.mp e
    rw [List.reverse_cons, List.reverse_cons]
    exact Reps.append (A := []) (B := []) (reps_rev0 rs rfl) (Reps.one r)
theorem sndi_rev {a : Ex} (ha : Snd t Γ a) : SndI t Γ (.rev a) := fun X nm fnB g tg e ok m H0 Z ρ σ H W Kk Q r hm w q => by
  simp only [okI] at ok
  split at ok
  · simp only [Bool.and_eq_true] at ok
    obtain ⟨p, rfl, hg, hB⟩ := okB_inv ok.1
    have k1 : ∀ env, starEach [_] env = (false, eval _ env) :: starEach [] env := fun env => star1 (okE_odd a ok.2)
    refine siOf (pi_reversed (g.gl hg) (g.blt _ hB) (pa_cons peS pa_nil (k1 _)) (k1 _)) ?_
    refine ha.e X nm fnB g _ ok.2 m H0 Z ρ σ H W _ _ r w fun x la ρ1 vx H1 A1 w1 o1 => ?_
    obtain ⟨xs, rfl, im, w1⟩ := w1
    obtain ⟨b, vs, B, rfl, rfl, ea, ra⟩ := o1.rep.lst_inv
    obtain rfl := ra.imm im
    have rr := reps_rev0 ra rfl
    have k0 : Cl H Z ρ ρ1 W [] [] := ⟨List.nodup_nil, fun a h => absurd h List.not_mem_nil, fun a h => absurd h List.not_mem_nil⟩
    refine ⟨b, vs, rfl, SqL.of ea, ?_⟩
    have tr : ∀ c ∈ [b], ∃ o, H1 c = some o ∧ Mut o := fun c h => by
      obtain rfl := List.mem_singleton.mp h
      exact ⟨_, ea, True.intro⟩
    cases m with
    | bor => exact absurd rfl hm
    | kid =>
      unfold kidK at w1
      simp only at w1
      rw [if_pos im] at w1
      exact q _ ρ _ _ H1 [] [b] w1 rr o1.same .refl .nil (itOk_rev ea) tr (fun z => by cases z)
    | own =>
      refine q _ ρ1 _ _ H1 [] [b] w1 rr o1.same o1.dem k0 (itOk_rev ea) tr fun _ c h => ?_
      obtain rfl := List.mem_singleton.mp h
      have cl := o1.cl
      cases la with
      | froz =>
        have z := cl.s c (List.mem_cons_self ..)
        exact ⟨z.2.2.2, z.2.2.1⟩
      | deep =>
        have z := cl.o c (List.mem_cons_self ..)
        exact ⟨fun i => (z.2 i).1, z.1.elim .inl fun ⟨i, q⟩ => .inr ⟨i, .inl q⟩⟩
      | top =>
        have z := cl.o c (by show c ∈ (Cell.tp (D.lst xs)).own [c]; simp [Cell.own, D.isM])
        exact ⟨fun i => (z.2 i).1, z.1.elim .inl fun ⟨i, q⟩ => .inr ⟨i, .inl q⟩⟩
  · cases ok
end
end R

namespace R
open PySem PySem.Spec PyProof.Rows L2
theorem wipe_get (σ : L2.St) (j : Nat) : ∀ vs : List Nat, (wipe σ vs)[j]? = if j ∈ vs ∧ j < σ.length then some none else σ[j]?
  | [] => by simp [wipe]
  | v :: vs => by
    unfold wipe
    by_cases e : v = j
    · subst e
      by_cases hl : v < σ.length
      · rw [List.getElem?_set_self (by rw [wipe_length]; exact hl), if_pos ⟨List.mem_cons_self .., hl⟩]
      · rw [List.getElem?_eq_none (by rw [List.length_set, wipe_length]; omega), if_neg (fun z => hl z.2), List.getElem?_eq_none (by omega)]
    · rw [List.getElem?_set_ne e, wipe_get σ j vs]
      have : (j ∈ v :: vs) ↔ j ∈ vs := by rw [List.mem_cons]; exact ⟨fun z => z.resolve_left (fun q => e q.symm), .inr⟩
      simp only [this]
theorem wipe_wipe (σ : L2.St) (vs : List Nat) : wipe (wipe σ vs) vs = wipe σ vs := by
  apply List.ext_getElem?
  intro j
  rw [wipe_get, wipe_get, wipe_length]
  split <;> simp_all
theorem wipeD_len (ρ : Pl) : ∀ vs : List Nat, (wipeD ρ vs).length = ρ.length
  | [] => rfl
  | v :: vs => by unfold wipeD; rw [List.length_set, wipeD_len ρ vs]
theorem wipeD_pt (ρ : Pl) (j : Nat) : ∀ vs : List Nat, (wipeD ρ vs).pt j = if j ∈ vs then .un else ρ.pt j
  | [] => by simp [wipeD]
  | v :: vs => by
    unfold wipeD
    rw [pt_set, wipeD_len, wipeD_pt ρ j vs]
    by_cases e : v = j
    · subst e
      rw [if_pos (List.mem_cons_self ..)]
      by_cases hl : v < ρ.length
      · rw [if_pos ⟨rfl, hl⟩]
      · rw [if_neg (fun z => hl z.2)]
        split
        · rfl
        · cases q : ρ.pt v with
          | un => rfl
          | _ => exact absurd (pt_lt (by rw [q]; intro z; cases z)) hl
    · rw [if_neg (fun z => e z.1)]
      have : (j ∈ v :: vs) ↔ j ∈ vs := by rw [List.mem_cons]; exact ⟨fun z => z.resolve_left (fun q => e q.symm), .inr⟩
      simp only [this]
theorem unwipe_len (ρ ρ' : Pl) : ∀ vs : List Nat, (unwipe ρ ρ' vs).length = ρ'.length
  | [] => rfl
  | v :: vs => by unfold unwipe; rw [List.length_set, unwipe_len ρ ρ' vs]
theorem unwipe_pt (ρ ρ' : Pl) (hl : ρ'.length = ρ.length) (j : Nat) : ∀ vs : List Nat, (unwipe ρ ρ' vs).pt j = if j ∈ vs then (if j < ρ.length then keepC (ρ.pt j) else ρ'.pt j) else ρ'.pt j
  | [] => by simp [unwipe]
  | v :: vs => by
    unfold unwipe
    rw [pt_set, unwipe_len, unwipe_pt ρ ρ' hl j vs, hl]
    by_cases e : v = j
    · subst e
      rw [if_pos (List.mem_cons_self ..)]
      by_cases h : v < ρ.length
      · rw [if_pos ⟨rfl, h⟩, if_pos h]
      · rw [if_neg (fun z => h z.2), if_neg h]; simp [h]
    · rw [if_neg (fun z => e z.1)]
      have : (j ∈ v :: vs) ↔ j ∈ vs := by rw [List.mem_cons]; exact ⟨fun z => z.resolve_left (fun q => e q.symm), .inr⟩
      simp only [this]
section
variable {K : PySem.W.Frag} {H0 : Base} {H H1 H2 : Hp} {Z : List (Nat × Addr)} {ρ ρ1 ρ2 ρc : Pl} {σ : L2.St} {W W' : Nat → List Addr} {own : List Nat}
theorem RL.wipe (r : RL K H0 Z ρ σ H W) (fr : ∀ i ∈ own, ∀ d, ρ.pt i ≠ .ln d) : RL K H0 Z (wipeD ρ own) (L2.wipe σ own) H W := by
  have ow : ∀ {i a}, a ∈ ((wipeD ρ own).pt i).own (W i) → a ∈ (ρ.pt i).own (W i) := fun {i a} h => by
    rw [wipeD_pt] at h; split at h
    · cases h
    · exact h
  have sw : ∀ {i a}, a ∈ ((wipeD ρ own).pt i).shr (W i) → a ∈ (ρ.pt i).shr (W i) := fun {i a} h => by
    rw [wipeD_pt] at h; split at h
    · cases h
    · exact h
  refine ⟨by rw [wipeD_len, wipe_length]; exact r.len, fun i h => ?_, r.same, fun i => ?_, fun i j a n h z => r.dj i j a n (ow h) (ow z), fun i a h => r.new i a (ow h), fun i j a h z => r.sh i j a (sw h) (ow z), fun p hp => ?_, fun i a h => r.zsh i a (sw h), fun i d e m => ?_, r.fu, fun i a h => r.inu i a (sw h)⟩
  · rw [wipeD_pt] at h ⊢
    split at h
    · cases h
    · rename_i hi
      obtain ⟨v, hv, rv⟩ := r.rep i h
      exact ⟨v, by rw [wipe_get, if_neg (fun z => hi z.1)]; exact hv, by rw [if_neg hi]; exact rv⟩
  · rw [wipeD_pt]; split
    · exact List.nodup_nil
    · exact r.nd i
  · obtain ⟨⟨d, e, m⟩, h2, h3⟩ := r.zs p hp
    have ni : p.1 ∉ own := fun z => fr _ z d e
    exact ⟨⟨d, by rw [wipeD_pt, if_neg ni]; exact e, m⟩, by rw [wipe_get, if_neg (fun z => ni z.1)]; exact h2, h3⟩
  · rw [wipeD_pt] at e
    split at e
    · cases e
    · exact r.zo i d e m
theorem RL.congrW (r : RL K H0 Z ρ σ H W) (h : ∀ i, (ρ.pt i).live = true → W' i = W i) : RL K H0 Z ρ σ H W' := by
  have ow : ∀ {i a}, a ∈ (ρ.pt i).own (W' i) → a ∈ (ρ.pt i).own (W i) := fun {i a} z => by rw [← h i (own_W z).2]; exact z
  have sw : ∀ {i a}, a ∈ (ρ.pt i).shr (W' i) → a ∈ (ρ.pt i).shr (W i) := fun {i a} z => by rw [← h i (shr_W z).2]; exact z
  refine ⟨r.len, fun i hi => by rw [h i hi]; exact r.rep i hi, r.same, fun i => ?_, fun i j a n h z => r.dj i j a n (ow h) (ow z), fun i a h => r.new i a (ow h), fun i j a h z => r.sh i j a (sw h) (ow z), r.zs, fun i a h => r.zsh i a (sw h), r.zo, r.fu, fun i a h => r.inu i a (sw h)⟩
  cases hl : (ρ.pt i).live with
  | true => rw [h i hl]; exact r.nd i
  | false => cases e : ρ.pt i <;> rw [e] at hl <;> first | exact List.nodup_nil | cases hl
/-- what holds of the results so far, within a comprehension -/
structure CI (H1 : Hp) (Z : List (Nat × Addr)) (ρ1 ρc : Pl) (W : Nat → List Addr) (A O S : List Addr) : Prop where
  nd : O.Nodup
  o : ∀ a ∈ O, (H1 a = none ∨ ∃ i, a ∈ (ρ1.pt i).own (W i)) ∧ a ∉ A ∧ ∀ i, a ∉ (ρc.pt i).own (W i) ∧ a ∉ (ρc.pt i).shr (W i)
  s : ∀ a ∈ S, a ∉ O ∧ a ∉ Z.map (·.2) ∧ (H1 a = none ∨ (∃ i, a ∈ (ρ1.pt i).own (W i) ∨ a ∈ (ρ1.pt i).shr (W i)) ∨ a ∈ A) ∧ ∀ i, a ∉ (ρc.pt i).own (W i)
theorem Cl.cons' {O S : List Addr} {p : Addr} (c : Cl H Z ρ ρ1 W O S) (r : RL K H0 Z ρ σ H W) (d : DemE ρ ρ1) (hp : H p = none) (hO : p ∉ O) (hS : p ∉ S) : Cl H Z ρ ρ1 W (p :: O) S where
  nd := List.nodup_cons.mpr ⟨hO, c.nd⟩
  o := fun a h => by
    rcases List.mem_cons.mp h with rfl | h
    · have nW : ∀ i, ¬ (a ∈ W i ∧ (ρ.pt i).live = true) := fun i z => by
        obtain ⟨o, e, _⟩ := r.dom z
        rw [hp] at e; cases e
      refine ⟨.inl hp, fun i => ⟨fun z => ?_, fun z => ?_⟩⟩
      · exact nW i (own_W ((d.dem i).own z))
      · rcases (d.dem i).shr z with q | q
        · exact nW i (own_W q)
        · exact nW i (shr_W q)
    · exact c.o a h
  s := fun a h => by
    obtain ⟨h1, h2⟩ := c.s a h
    refine ⟨fun z => ?_, h2⟩
    rcases List.mem_cons.mp z with rfl | z
    · exact hS h
    · exact h1 z
theorem keep_own {c : Cell} {A : List Addr} : (keepC c).own A = [] := by cases c <;> rfl
theorem keep_shr {c : Cell} {A : List Addr} {a : Addr} (h : a ∈ (keepC c).shr A) : a ∈ c.shr A := by cases c <;> first | exact h | cases h
/-- out of the comprehension -/
theorem CI.out {A O S : List Addr} (c : CI H1 Z ρ1 ρc W A O S) (r : RL K H0 Z ρ σ H W) (s : Same H H1) (d : DemE ρ ρ1) (dc : DemE (wipeD ρ1 own) ρc) (cA : Cl H Z ρ ρ1 W [] A) (fr : ∀ i ∈ own, free ρ1 i) :
    DemE ρ1 (unwipe ρ1 ρc own) ∧ Cl H Z ρ (unwipe ρ1 ρc own) W O S := by
  have hl : ρc.length = ρ1.length := dc.len.trans (wipeD_len _ _)
  have r1 := (r.dem d).mono s
  have at' : ∀ i, (unwipe ρ1 ρc own).pt i = if i ∈ own then keepC (ρ1.pt i) else ρc.pt i := fun i => by
    rw [unwipe_pt ρ1 ρc hl]
    split
    · rename_i h; rw [if_pos (free_lt (fr i h))]
    · rfl
  have dm : DemE ρ1 (unwipe ρ1 ρc own) := ⟨(unwipe_len _ _ _).trans hl, fun i => by
    rw [at']
    split
    · rename_i h
      have nl := free_ln (fr i h)
      cases q : ρ1.pt i with
      | un => exact .refl _
      | fz d => exact .refl _
      | ln d => exact absurd q (nl d)
      | tp d => exact .un _ (fun d z => by cases z)
      | dp d => exact .un _ (fun d z => by cases z)
    · rename_i h
      have := dc.dem i
      rw [wipeD_pt, if_neg h] at this
      exact this⟩
  refine ⟨dm, c.nd, fun a h => ?_, fun a h => ?_⟩
  · obtain ⟨h1, h2, h3⟩ := c.o a h
    refine ⟨?_, fun i => ⟨fun z => ?_, fun z => ?_⟩⟩
    · rcases h1 with z | ⟨i, z⟩
      · exact .inl (s.non z)
      · exact .inr ⟨i, (d.dem i).own z⟩
    · rw [at'] at z
      split at z
      · rw [keep_own] at z; cases z
      · exact (h3 i).1 z
    · rw [at'] at z
      split at z
      · have z := keep_shr z
        rcases h1 with q | ⟨j, q⟩
        · obtain ⟨o, e, _⟩ := r1.dom (shr_W z); rw [q] at e; cases e
        · exact r1.sh i j a z q
      · exact (h3 i).2 z
  · obtain ⟨h1, h2, h3, h4⟩ := c.s a h
    refine ⟨h1, h2, ?_, fun i z => ?_⟩
    · rcases h3 with z | ⟨i, z | z⟩ | z
      · exact .inl (s.non z)
      · exact .inr ⟨i, .inl ((d.dem i).own z)⟩
      · exact .inr ⟨i, (d.dem i).shr z⟩
      · exact (cA.s a z).2.2.1
    · rw [at'] at z
      split at z
      · rw [keep_own] at z; cases z
      · exact h4 i z
end
section
variable {t : Tab} {Γ : List SpD} {X : Cx} {nm : Nm} {fnB : Str → Bool}
theorem relS_names {scope sc : Scope} (hk : sc.kind = .function) : (relS scope sc).names = relN scope sc.names := by
  unfold relS relN
  simp only [hk]
  congr 1
  funext p
  obtain ⟨n, k⟩ := p
  have : ((ScopeKind.function == ScopeKind.function) = true) := by decide
  simp only [this, Bool.and_true]
theorem Good.blk (g : Good X t nm fnB Γ) {scope : Scope} (hs : scope.kind = .function) (s : Shared) (H : Hp) (C : Addr) (cl : List (Str × Addr)) (fp : List Addr) :
    Good (X.blk s H scope (compEnvC scope cl C X.env) fp) t (relN scope nm) (fun x => scope.names.lookup x == some .cell) Γ where
  N := g.N
  calm := g.calm
  nd := g.nd
  nm := by
    show (relS scope X.env.scope).names = _
    rw [relS_names g.kind, g.nm]
  kind := hs
  fn := fun x h => h
  room := g.room
  gd := g.gd
  call := g.call
  blt := g.blt
  con := g.con
  pass := PassesOwn.never
end
section
variable (t : Tab) (Γ : List SpD)
def SndCs (c : Exs) : Prop := ∀ (X : Cx) (nm : Nm) (fnB : Str → Bool), Good X t nm fnB Γ → ∀ (es : List Expr), okCs t nm c es = true → ∀ (H0 : Base) (Z : List (Nat × Addr)) (ρ : Pl) (σ : L2.St) (H : Hp) (W : Nat → List Addr) (k : Bool → Prop) (Q : Bool → Hp → Prop),
  RL X.K H0 Z ρ σ H W → wpCs Γ c ρ k → (∀ b H', k b → Same H H' → Q b H') → STs X es σ H Q
end
section
variable {t : Tab} {Γ : List SpD}
theorem sndc_nil : SndCs t Γ .nil := fun X nm fnB g es ok H0 Z ρ σ H W k Q r w q => by
  simp only [okCs, List.isEmpty_iff] at ok
  subst ok
  exact stsOf pts_nil (q _ _ w Same.refl)
theorem sndc_one {c : Ex} (hc : Snd t Γ c) : SndCs t Γ (.cons c .nil) := fun X nm fnB g es ok H0 Z ρ σ H W k Q r w q => by
  cases es with
  | nil => simp [okCs] at ok
  | cons e es =>
    simp only [okCs, Bool.and_eq_true, List.isEmpty_iff] at ok
    obtain ⟨⟨h1, h2⟩, rfl⟩ := ok
    exact stsOf (pts_one ptS) (hc.T h1 X nm fnB g e h2 H0 Z ρ σ H W k Q r w q)
theorem sndc_two {c d : Ex} {cs : Exs} : SndCs t Γ (.cons c (.cons d cs)) := fun X nm fnB g es ok H0 Z ρ σ H W k Q r w q => w.elim
end
end R

namespace R
open PySem PySem.Spec PyProof.Rows L2
/-- the state between two turns of a comprehension -/
structure LcI (K : PySem.W.Frag) (H0 : Base) (Z : List (Nat × Addr)) (ρ1 : Pl) (σ : L2.St) (H1 : Hp) (W : Nat → List Addr) (A : List Addr) (own : List Nat) (Dr : Addr) (Hk : Hp) (acc : List D) (al : Bool) (ρc : Pl) (accV : List V) (B O S : List Addr) : Prop where
  hD : Hk Dr = some (.lst accV)
  rep : Reps K Hk accV acc B
  nB : Dr ∉ B
  sm : Same H1 Hk
  dem : DemE (wipeD ρ1 own) ρc
  rl : RL K H0 Z ρc (wipe σ own) Hk W
  ci : CI H1 Z ρ1 ρc W A O S
  cov : ∀ a, a ∈ B ↔ a ∈ O ∨ a ∈ S
  al : al = true → O = B ∧ S = []
section
variable {K : PySem.W.Frag} {H0 : Base} {H1 Hk : Hp} {Z : List (Nat × Addr)} {ρ1 ρc : Pl} {σ : L2.St} {W : Nat → List Addr} {A : List Addr} {own : List Nat} {Dr : Addr} {acc : List D} {al : Bool} {accV : List V} {B O S : List Addr}
theorem LcI.unw (I : LcI K H0 Z ρ1 σ H1 W A own Dr Hk acc al ρc accV B O S) {i : Nat} (h : i ∈ own) : ρc.pt i = .un := by
  have := I.dem.dem i
  rw [wipeD_pt, if_pos h] at this
  generalize ρc.pt i = c at this ⊢
  cases this with
  | refl => rfl
  | un => rfl
theorem LcI.own1 (I : LcI K H0 Z ρ1 σ H1 W A own Dr Hk acc al ρc accV B O S) {i : Nat} {a : Addr} (h : a ∈ (ρc.pt i).own (W i)) : a ∈ (ρ1.pt i).own (W i) := by
  have := (I.dem.dem i).own h
  rw [wipeD_pt] at this
  split at this
  · cases this
  · exact this
theorem LcI.shr1 (I : LcI K H0 Z ρ1 σ H1 W A own Dr Hk acc al ρc accV B O S) {i : Nat} {a : Addr} (h : a ∈ (ρc.pt i).shr (W i)) : a ∈ (ρ1.pt i).own (W i) ∨ a ∈ (ρ1.pt i).shr (W i) := by
  have := (I.dem.dem i).shr h
  rw [wipeD_pt] at this
  split at this
  · rcases this with z | z <;> cases z
  · exact this
theorem LcI.dom (I : LcI K H0 Z ρ1 σ H1 W A own Dr Hk acc al ρc accV B O S) {a : Addr} (h : a ∈ O ∨ a ∈ S) : Hk a ≠ none := fun z => by
  obtain ⟨o, e, _⟩ := I.rep.dom a ((I.cov a).mpr h)
  rw [z] at e; cases e
/-- a turn that adds nothing, or something -/
theorem LcI.next {H3 H4 : Hp} {is : List Nat} {ρa ρb : Pl} {σ2 : L2.St} {Wa : Nat → List Addr} {Ax O2 S2 : List Addr} (I : LcI K H0 Z ρ1 σ H1 W A own Dr Hk acc al ρc accV B O S) (hDr : H1 Dr = none)
    (tr : TgR K H0 Z ρc W Ax is ρa σ2 Hk Wa) (sub : ∀ i ∈ is, i ∈ own) (hw : wipe σ2 own = wipe σ own) (hAx : ∀ a ∈ Ax, a ∈ A) (hA : ∀ a ∈ A, H1 a ≠ none ∧ ∀ i, a ∉ (ρ1.pt i).own (W i)) (s3 : Same Hk H3) (s4 : Same H3 H4)
    (db : DemE ρa ρb) (cl : Cl H3 Z ρa ρb Wa O2 S2) : RL K H0 Z (wipeD ρb own) (wipe σ own) H4 W ∧ DemE (wipeD ρ1 own) (wipeD ρb own) ∧ CI H1 Z ρ1 (wipeD ρb own) W A (O ++ O2) (S ++ S2) := by
  have s1k : Same H1 Hk := I.sm
  have rlb : RL K H0 Z (wipeD ρb own) (wipe σ own) H4 W := by
    have r := (tr.rl.dem db).mono (s3.trans s4)
    have r2 := RL.wipe (own := own) r fun i hi d e => by
      have h1 := db.dem i
      by_cases z : i ∈ is
      · obtain ⟨⟨d', e'⟩, _⟩ := tr.on i z
        rw [e', e] at h1; cases h1
      · have e' := (tr.off i z).1
        rw [I.unw hi] at e'
        rw [e', e] at h1; cases h1
    rw [hw] at r2
    refine r2.congrW fun i hi => ?_
    rw [wipeD_pt] at hi
    split at hi
    · cases hi
    · rename_i ni
      exact ((tr.off i (fun z => ni (sub i z))).2).symm
  have off : ∀ i, i ∉ own → ρa.pt i = ρc.pt i ∧ Wa i = W i := fun i hi => tr.off i fun z => hi (sub i z)
  have db' : DemE (wipeD ρ1 own) (wipeD ρb own) := ⟨by rw [wipeD_len, db.len, tr.len, I.dem.len], fun i => by
    rw [wipeD_pt ρb]
    split
    · rename_i h; rw [wipeD_pt, if_pos h]; exact .refl _
    · rename_i h
      have h1 := db.dem i
      rw [(off i h).1] at h1
      exact (I.dem.dem i).trans h1⟩
  -- what an owned, a shared address of the turn is ahead of it
  have ownA : ∀ {i a}, a ∈ (ρa.pt i).own (Wa i) → i ∉ own ∧ a ∈ (ρc.pt i).own (W i) := fun {i a} h => by
    by_cases z : i ∈ is
    · obtain ⟨⟨d', e'⟩, _⟩ := tr.on i z
      rw [e'] at h; cases h
    · obtain ⟨e1, e2⟩ := tr.off i z
      rw [e1, e2] at h
      refine ⟨fun q => ?_, h⟩
      rw [I.unw q] at h; cases h
  have shrA : ∀ {i a}, a ∈ (ρa.pt i).shr (Wa i) → a ∈ A ∨ (i ∉ own ∧ a ∈ (ρc.pt i).shr (W i)) := fun {i a} h => by
    by_cases z : i ∈ is
    · exact .inl (hAx a ((tr.on i z).2 a (shr_W h).1))
    · obtain ⟨e1, e2⟩ := tr.off i z
      rw [e1, e2] at h
      refine .inr ⟨fun q => ?_, h⟩
      rw [I.unw q] at h; cases h
  have ownB : ∀ {i a}, a ∈ ((wipeD ρb own).pt i).own (W i) → i ∉ own ∧ a ∈ (ρb.pt i).own (Wa i) := fun {i a} h => by
    rw [wipeD_pt] at h; split at h
    · cases h
    · rename_i q; rw [(off i q).2]; exact ⟨q, h⟩
  have shrB : ∀ {i a}, a ∈ ((wipeD ρb own).pt i).shr (W i) → i ∉ own ∧ a ∈ (ρb.pt i).shr (Wa i) := fun {i a} h => by
    rw [wipeD_pt] at h; split at h
    · cases h
    · rename_i q; rw [(off i q).2]; exact ⟨q, h⟩
  have dom3 : ∀ {a}, a ∈ O ∨ a ∈ S → H3 a ≠ none := fun h z => I.dom h (s3.non z)
  refine ⟨rlb, db', ?_, fun a h => ?_, fun a h => ?_⟩
  · refine List.nodup_append.mpr ⟨I.ci.nd, cl.nd, fun a h1 b h2 e => ?_⟩
    subst e
    rcases (cl.o a h2).1 with z | ⟨i, z⟩
    · exact dom3 (.inl h1) z
    · exact ((I.ci.o a h1).2.2 i).1 (ownA z).2
  · rcases List.mem_append.mp h with h | h
    · obtain ⟨h1, h2, h3⟩ := I.ci.o a h
      refine ⟨h1, h2, fun i => ⟨fun z => ?_, fun z => ?_⟩⟩
      · exact (h3 i).1 (ownA ((db.dem i).own (ownB z).2)).2
      · obtain ⟨ni, z⟩ := shrB z
        rcases (db.dem i).shr z with q | q
        · exact (h3 i).1 (ownA q).2
        · rcases shrA q with q | ⟨_, q⟩
          · exact h2 q
          · exact (h3 i).2 q
    · obtain ⟨h1, h2⟩ := cl.o a h
      have h1' : H1 a = none ∨ ∃ i, a ∈ (ρ1.pt i).own (W i) := by
        rcases h1 with z | ⟨i, z⟩
        · exact .inl (s1k.non (s3.non z))
        · exact .inr ⟨i, I.own1 (ownA z).2⟩
      refine ⟨h1', fun z => ?_, fun i => ⟨fun z => (h2 i).1 (ownB z).2, fun z => (h2 i).2 (shrB z).2⟩⟩
      rcases h1' with q | ⟨i, q⟩
      · exact (hA a z).1 q
      · exact (hA a z).2 i q
  · rcases List.mem_append.mp h with h | h
    · obtain ⟨h1, h2, h3, h4⟩ := I.ci.s a h
      refine ⟨fun z => ?_, h2, h3, fun i z => h4 i (ownA ((db.dem i).own (ownB z).2)).2⟩
      rcases List.mem_append.mp z with z | z
      · exact h1 z
      · rcases (cl.o a z).1 with q | ⟨i, q⟩
        · exact dom3 (.inr h) q
        · exact h4 i (ownA q).2
    · obtain ⟨h1, h2, h3, h4⟩ := cl.s a h
      refine ⟨fun z => ?_, h2, ?_, fun i z => h4 i (ownB z).2⟩
      · rcases List.mem_append.mp z with z | z
        · obtain ⟨_, k2, k3⟩ := I.ci.o a z
          rcases h3 with q | ⟨i, q | q⟩
          · exact dom3 (.inl z) q
          · exact (k3 i).1 (ownA q).2
          · rcases shrA q with q | ⟨_, q⟩
            · exact k2 q
            · exact (k3 i).2 q
        · exact h1 z
      · rcases h3 with q | ⟨i, q | q⟩
        · exact .inl (s1k.non (s3.non q))
        · exact .inr (.inl ⟨i, .inl (I.own1 (ownA q).2)⟩)
        · rcases shrA q with q | ⟨_, q⟩
          · exact .inr (.inr q)
          · exact .inr (.inl ⟨i, I.shr1 q⟩)
end
section
variable {t : Tab} {Γ : List SpD}
theorem ownP_snd (own : List Nat) : (ownP t own).map (·.2) = own := by
  unfold ownP
  rw [List.map_map]
  exact (List.map_congr_left fun a _ => rfl).trans (List.map_id own)
theorem rl_nd {K : PySem.W.Frag} {H0 : Base} {H : Hp} {Z : List (Nat × Addr)} {ρ : Pl} {σ : L2.St} {W : Nat → List Addr} {p : Addr} (r : RL K H0 Z ρ σ H W) (h : H p = none) : ∀ i, (ρ.pt i).live = true → p ∉ W i := fun i hi z => by
  obtain ⟨o, e, _⟩ := r.dom ⟨z, hi⟩
  rw [h] at e; cases e
def gBk (X : Cx) (scope : Scope) (et : Expr) : TG := fun v σ H Q => ∀ (s : Shared) (H' : Hp) (C : Addr) (cl : List (Str × Addr)) (fp : List Addr), SG (X.blk s H' scope (compEnvC scope cl C X.env) fp) et v σ H Q
def tBk (X : Cx) (scope : Scope) (ifs : List Expr) : TT := fun σ H Q => ∀ (s : Shared) (H' : Hp) (C : Addr) (cl : List (Str × Addr)) (fp : List Addr), STs (X.blk s H' scope (compEnvC scope cl C X.env) fp) ifs σ H Q
def eBk (X : Cx) (scope : Scope) (ee : Expr) : TE := fun σ H Q => ∀ (s : Shared) (H' : Hp) (C : Addr) (cl : List (Str × Addr)) (fp : List Addr), SE (X.blk s H' scope (compEnvC scope cl C X.env) fp) ee σ H Q
theorem gBk_ok {X : Cx} {scope : Scope} {et : Expr} (s : Shared) (H : Hp) (C : Addr) (cl : List (Str × Addr)) (fp : List Addr) : PG (X.blk s H scope (compEnvC scope cl C X.env) fp) et (gBk X scope et) :=
  ⟨fun pins s' σ H' v u Q I r h => h s H C cl fp pins s' u I r⟩
theorem tBk_ok {X : Cx} {scope : Scope} {ifs : List Expr} (s : Shared) (H : Hp) (C : Addr) (cl : List (Str × Addr)) (fp : List Addr) : PTs (X.blk s H scope (compEnvC scope cl C X.env) fp) ifs (tBk X scope ifs) :=
  ⟨fun pins s' σ H' Q I h => h s H C cl fp pins s' I⟩
theorem eBk_ok {X : Cx} {scope : Scope} {ee : Expr} (s : Shared) (H : Hp) (C : Addr) (cl : List (Str × Addr)) (fp : List Addr) : PE (X.blk s H scope (compEnvC scope cl C X.env) fp) ee (eBk X scope ee) :=
  ⟨fun pins s' σ H' Q I h => h s H C cl fp pins s' I⟩
/-- a comprehension, by the rule that makes it a value or stores it -/
theorem lc_any {own : List Nat} {elt : Ex} {tg : Tg} {it : Rg} {cs : Exs} (he : Snd t Γ elt) (hi : SndI t Γ it) (hcs : SndCs t Γ cs) {X : Cx} {nm : Nm} {fnB : Str → Bool} (g : Good X t nm fnB Γ) {ee et ei : Expr} {ifs : List Expr} {scope : Scope} {pos : Pos}
    (ok : okE t nm (.lc own elt tg it cs) (.ListComp ee [⟨et, ei, ifs, 0⟩] scope pos) = true) {m : Md} {H0 : Base} {Z : List (Nat × Addr)} {ρ : Pl} {σ : L2.St} {H : Hp} {W : Nat → List Addr} {Kk : KE} {Q : VK}
    (r : RL X.K H0 Z ρ σ H W) (w : wpE Γ m (.lc own elt tg it cs) ρ Kk) (q : ∀ d l ρ' v H' A, Kk d l ρ' → Out X.K Z m ρ H W d l ρ' v H' A → Q v H') :
    BlkOk X.N X.env.scope scope (ownP t own) ∧ odd ei = false ∧ tLc (SI X et ei) (gBk X scope et) (tBk X scope ifs) (eBk X scope ee) ((ownP t own).map (·.2)) σ H Q := by
  simp only [okE] at ok
  simp only [Bool.and_eq_true] at ok
  obtain ⟨⟨⟨⟨⟨oi, oblk⟩, otg⟩, ocs⟩, oe⟩, osl⟩ := ok
  have slots : ∀ i ∈ tg.slots, i ∈ own := fun i h => by
    cases tg with
    | one j =>
      obtain rfl := List.mem_singleton.mp h
      simpa using osl
    | many is =>
      have := List.all_eq_true.mp osl i h
      simpa using this
  have hks : scope.kind = .function := (blkOk_by oblk).kind
  have blk : BlkOk X.N X.env.scope scope (ownP t own) := by
    have b := blkOk_by oblk
    rw [g.N]
    exact ⟨b.kind, b.uniq, b.ix, fun y hy e => by have := b.free y hy e; rw [g.nm]; exact this, b.own⟩
  have oddI : odd ei = false := by
    cases it with
    | rng1 b => simp only [okI] at oi; split at oi; rfl; cases oi
    | rng2 a b => simp only [okI] at oi; split at oi; rfl; cases oi
    | rng3 a b c => simp only [okI] at oi; split at oi; rfl; cases oi
    | rev a => simp only [okI] at oi; split at oi; rfl; cases oi
    | col a => exact okE_odd a oi
  refine ⟨blk, oddI, ?_⟩
  rw [ownP_snd]
  refine hi X nm fnB g et ei oi .kid H0 Z ρ σ H W _ _ r (fun z => by cases z) w fun xs ρ1 vs J H1 A src w1 rs s1 d1 cA itOk trk _ => ?_
  intro Dr hDr
  obtain ⟨frO, w1⟩ := w1
  have r1 := (r.dem d1).mono s1
  have hA : ∀ a ∈ A, H1 a ≠ none ∧ ∀ i, a ∉ (ρ1.pt i).own (W i) := fun a ha => ⟨fun z => (by obtain ⟨o, e, _⟩ := rs.dom a ha; rw [z] at e; cases e), (cA.s a ha).2.2.2⟩
  have h0D : H0 Dr = none := r1.same.non hDr
  have srcD : ∀ a ∈ src, a ≠ Dr := fun a ha z => by obtain ⟨o, e, _⟩ := trk a ha; subst z; rw [hDr] at e; cases e
  generalize hstep : (fun (x : D) (acc : List D) (al : Bool) (ρ : Pl) (k : List D → Bool → Pl → Prop) => tgD tg x ρ fun ρa => wpCs Γ cs ρa fun b =>
        if b = true then wpE Γ .own elt ρa fun d l ρb => acc.length < sizeLine ∧ (if d.imm = true then k (acc ++ [d]) al (wipeD ρa own) else k (acc ++ [d]) (al && isDeep l) (wipeD ρb own))
        else k acc al (wipeD ρa own)) = step at w1
  have hs : ∀ x acc al ρ k, step x acc al ρ k = (tgD tg x ρ fun ρa => wpCs Γ cs ρa fun b =>
        if b = true then wpE Γ .own elt ρa fun d l ρb => acc.length < sizeLine ∧ (if d.imm = true then k (acc ++ [d]) al (wipeD ρa own) else k (acc ++ [d]) (al && isDeep l) (wipeD ρb own))
        else k acc al (wipeD ρa own)) := fun x acc al ρ k => by rw [← hstep]
  generalize hfin : (fun (ds : List D) (al : Bool) (ρ2 : Pl) => match m with | .bor => Kk (.lst ds) .froz ρ | _ => Kk (.lst ds) (if al = true then .deep else .top) (unwipe ρ1 ρ2 own)) = Kf at w1
  let Pv : Nat → Hp → Prop := fun k Hk => ∃ acc al ρc accV B O S, LcI X.K H0 Z ρ1 σ H1 W A own Dr Hk acc al ρc accV B O S ∧ loopC step (xs.drop k) acc al ρc Kf
  have start : Pv 0 (upd H1 Dr (.lst [])) := by
    have sm : Same H1 (upd H1 Dr (.lst [])) := Same.updp hDr
    refine ⟨[], true, wipeD ρ1 own, [], [], [], [], ⟨upd_same, .nil, List.not_mem_nil, sm, .refl, ?_, ⟨List.nodup_nil, fun a h => absurd h List.not_mem_nil, fun a h => absurd h List.not_mem_nil⟩, fun a => by simp, fun _ => ⟨rfl, rfl⟩⟩, ?_⟩
    · exact (r1.wipe fun i hi => free_ln (frO i hi)).mono sm
    · rw [List.drop_zero]; exact w1
  have turn : ∀ k x Hk, vs[k]? = some x → Pv k Hk → (∀ (s : Shared) (H' : Hp) (C : Addr) (cl : List (Str × Addr)) (fp : List Addr), SG (X.blk s H' scope (compEnvC scope cl C X.env) fp) et x (wipe σ own) Hk fun σ2 H2 => wipe σ2 own = wipe σ own ∧
      ∀ (s : Shared) (H' : Hp) (C : Addr) (cl : List (Str × Addr)) (fp : List Addr), STs (X.blk s H' scope (compEnvC scope cl C X.env) fp) ifs σ2 H2 fun b H3 =>
      if b = true then ∀ (s : Shared) (H' : Hp) (C : Addr) (cl : List (Str × Addr)) (fp : List Addr), SE (X.blk s H' scope (compEnvC scope cl C X.env) fp) ee σ2 H3 fun y H4 => ∃ acc, H4 Dr = some (.lst acc) ∧ acc.length < sizeLine ∧ Pv (k + 1) (upd H4 Dr (.lst (acc ++ [y]))) else Pv (k + 1) H3) := by
    intro k x Hk hx ⟨acc, al, ρc, accV, B, O, S, I, wl⟩ s H' C cl fp
    obtain ⟨d, Ax, hd, rx, sx⟩ := rs.at hx
    have hk : k < xs.length := (List.getElem?_eq_some_iff.mp hd).1
    have ed : xs.drop k = d :: xs.drop (k + 1) := by
      rw [List.drop_eq_getElem_cons hk]
      congr 1
      have := List.getElem?_eq_getElem hk
      rw [this] at hd
      exact Option.some.inj hd
    rw [ed] at wl
    have wl : step d acc al ρc fun acc al ρ => loopC step (xs.drop (k + 1)) acc al ρ Kf := wl
    rw [hs] at wl
    have gb := g.blk hks
    refine sndG (gb s H' C cl fp) otg I.rl (rx.same I.sm) (fun a ha => ⟨(cA.s a (sx.mem ha)).2.1, fun j z => (hA a (sx.mem ha)).2 j (I.own1 z)⟩) (fun a ha => r.us (cA.s a (sx.mem ha)).2.2.1) (fun i hi => ?_) wl fun ρa σ2 Wa w2 tr hw => ⟨?_, ?_⟩
    · unfold free
      rw [I.unw (slots i hi)]
      show i < ρc.length
      rw [I.dem.len, wipeD_len]
      exact free_lt (frO i (slots i hi))
    · rw [hw own slots, wipe_wipe]
    have hw2 : wipe σ2 own = wipe σ own := by rw [hw own slots, wipe_wipe]
    intro s H' C cl fp
    refine hcs _ _ _ (gb s H' C cl fp) ifs ocs H0 Z ρa σ2 Hk Wa _ _ tr.rl w2 fun b H3 w3 s3 => ?_
    cases b with
    | false =>
      simp only [Bool.false_eq_true, if_false] at w3 ⊢
      obtain ⟨n1, n2, n3⟩ := I.next hDr tr slots hw2 (fun a h => sx.mem h) hA s3 Same.refl .refl .nil
      refine ⟨acc, al, wipeD ρa own, accV, B, O ++ [], S ++ [], ⟨s3 _ _ I.hD, I.rep.same s3, I.nB, I.sm.trans s3, n2, n1, n3, fun a => by simpa using I.cov a, fun z => by simpa using I.al z⟩, w3⟩
    | true =>
      simp only [if_true] at w3 ⊢
      intro s H' C cl fp
      refine he.e _ _ _ (gb s H' C cl fp) ee oe .own H0 Z ρa σ2 H3 Wa _ _ (tr.rl.mono s3) w3 fun dv l ρb y H4 A2 w4 o => ?_
      obtain ⟨hlen, w4⟩ := w4
      have hD4 : H4 Dr = some (.lst accV) := o.same _ _ (s3 _ _ I.hD)
      refine ⟨accV, hD4, by rw [I.rep.length]; exact hlen, ?_⟩
      have s34 := s3.trans o.same
      -- the place of the new list is in no result
      have nA2 : Dr ∉ A2 := fun z => by
        have src : H3 Dr = none ∨ ∃ i, Dr ∈ (ρa.pt i).own (Wa i) ∨ Dr ∈ (ρa.pt i).shr (Wa i) := by
          have : Dr ∈ pO .own l dv A2 ∨ Dr ∈ pS .own l dv A2 := by
            simp only [pO, pS]
            cases l <;> simp only [lvC, Cell.own, Cell.shr]
            · exact .inr z
            · split
              · have e : A2 = A2.take 1 ++ A2.drop 1 := (List.take_append_drop 1 A2).symm
                rw [e] at z
                exact List.mem_append.mp z
              · exact .inr z
            · exact .inl z
          rcases this with q | q
          · rcases (o.cl.o _ q).1 with q | ⟨i, q⟩
            · exact .inl q
            · exact .inr ⟨i, .inl q⟩
          · exact (o.cl.s _ q).2.2.1
        rcases src with q | ⟨i, q⟩
        · have := s3 _ _ I.hD; rw [q] at this; cases this
        · have hl : Dr ∈ Wa i ∧ (ρa.pt i).live = true := by
            rcases q with q | q
            · exact own_W q
            · exact shr_W q
          by_cases z : i ∈ tg.slots
          · exact (hA Dr (sx.mem ((tr.on i z).2 Dr hl.1))).1 hDr
          · obtain ⟨e1, e2⟩ := tr.off i z
            rw [e1, e2] at hl
            by_cases zo : i ∈ own
            · rw [I.unw zo] at hl; cases hl.2
            · have d0 := I.dem.dem i
              rw [wipeD_pt, if_neg zo] at d0
              exact rl_nd r1 hDr i (d0.live hl.2).1 hl.1
      have fin : ∀ (ρb' : Pl) (O2 S2 : List Addr) (al' : Bool), DemE ρa ρb' → Cl H3 Z ρa ρb' Wa O2 S2 → (∀ a, a ∈ A2 ↔ a ∈ O2 ∨ a ∈ S2) → (al' = true → al = true ∧ O2 = A2 ∧ S2 = []) → loopC step (xs.drop (k + 1)) (acc ++ [dv]) al' (wipeD ρb' own) Kf →
          Pv (k + 1) (upd H4 Dr (.lst (accV ++ [y]))) := fun ρb' O2 S2 al' db c cov hal wl => by
        obtain ⟨n1, n2, n3⟩ := I.next hDr tr slots hw2 (fun a h => sx.mem h) hA s3 o.same db c
        have mu : Mut (.lst accV) := True.intro
        refine ⟨acc ++ [dv], al', wipeD ρb' own, accV ++ [y], B ++ A2, O ++ O2, S ++ S2, ⟨upd_same, ?_, ?_, ?_, n2, ?_, n3, fun a => ?_, fun z => ?_⟩, wl⟩
        · exact Reps.append ((I.rep.same s34).upd I.nB hD4 mu) (Reps.one (o.rep.upd nA2 hD4 mu))
        · rw [List.mem_append]; exact fun z => z.elim I.nB nA2
        · intro b o' e
          rw [upd_ne (ne_of_none e hDr)]
          exact s34 _ _ (I.sm _ _ e)
        · refine n1.updD (fun i hi z => ?_) hD4 mu h0D
          -- a live place of the wiped ones
          rw [wipeD_pt] at hi
          split at hi
          · cases hi
          · rename_i zo
            have e2 := tr.off i fun q => zo (slots i q)
            have h1 := (db.dem i).live hi
            rw [e2.1] at h1
            have d0 := I.dem.dem i
            rw [wipeD_pt, if_neg zo] at d0
            exact rl_nd r1 hDr i (d0.live h1.1).1 z
        · simp only [List.mem_append, I.cov, cov]
          constructor
          · rintro ((h | h) | (h | h)) <;> simp [h]
          · rintro ((h | h) | (h | h)) <;> simp [h]
        · obtain ⟨z1, rfl, rfl⟩ := hal z
          obtain ⟨rfl, rfl⟩ := I.al z1
          exact ⟨rfl, rfl⟩
      split at w4
      · rename_i im
        have e := o.rep.imm im
        refine fin ρa [] [] al .refl .nil (fun a => by rw [e]; simp) (fun z => ⟨z, e.symm, rfl⟩) w4
      · refine fin ρb _ _ _ o.dem o.cl (fun a => ?_) (fun z => ?_) w4
        · simp only [pO, pS]
          cases l <;> simp only [lvC, Cell.own, Cell.shr]
          · simp
          · split
            · constructor
              · intro h
                rw [← List.take_append_drop 1 A2] at h
                exact List.mem_append.mp h
              · rintro (h | h)
                · exact List.mem_of_mem_take h
                · exact List.mem_of_mem_drop h
            · simp
          · simp
        · simp only [Bool.and_eq_true] at z
          refine ⟨z.1, ?_⟩
          cases l <;> simp only [isDeep, Bool.false_eq_true] at z
          · exact absurd z.2 (by simp)
          · exact absurd z.2 (by simp)
          · exact ⟨rfl, rfl⟩
  have stop : ∀ Hn, Pv vs.length Hn → Q (.ref Dr) Hn := by
    intro Hn ⟨acc, al, ρc, accV, B, O, S, I, wl⟩
    rw [rs.length, List.drop_length] at wl
    have wl : Kf acc al ρc := wl
    rw [← hfin] at wl
    obtain ⟨dm, c⟩ := I.ci.out r s1 d1 I.dem cA frO
    have rp : Rep X.K Hn (.ref Dr) (.lst acc) (Dr :: B) := .lst I.hD I.rep
    have sH := s1.trans I.sm
    have hHD : H Dr = none := s1.non hDr
    have dm' := d1.trans dm
    have nO : Dr ∉ O := fun z => I.nB ((I.cov _).mpr (.inl z))
    have nS : Dr ∉ S := fun z => I.nB ((I.cov _).mpr (.inr z))
    cases m with
    | bor => exact q _ _ _ _ _ _ wl ⟨rp, sH, .refl, .nil⟩
    | own =>
      refine q _ _ _ _ _ _ wl ⟨rp, sH, dm', ?_⟩
      cases al with
      | true =>
        obtain ⟨rfl, rfl⟩ := I.al rfl
        exact c.cons' r dm' hHD nO nS
      | false =>
        have c' : Cl H Z ρ (unwipe ρ1 ρc own) W [] B := c.less List.nodup_nil (fun a h => absurd h List.not_mem_nil) (fun a h => (I.cov a).mp h) (fun a h => List.not_mem_nil) (c.oz r)
        exact c'.cons' r dm' hHD List.not_mem_nil I.nB
    | kid =>
      refine q _ _ _ _ _ _ wl ⟨rp, sH, dm', ?_⟩
      cases al with
      | true =>
        obtain ⟨rfl, rfl⟩ := I.al rfl
        exact c
      | false => exact c.less List.nodup_nil (fun a h => absurd h List.not_mem_nil) (fun a h => (I.cov a).mp h) (fun a h => List.not_mem_nil) (c.oz r)
  refine ⟨fun k mm Hk => mm = vs.length - k ∧ k ≤ vs.length ∧ Pv k Hk, ⟨vs.length, by simp, Nat.zero_le _, start⟩, ?_⟩
  rintro k mm Hk ⟨rfl, hk, p⟩
  obtain ⟨acc, al, ρc, accV, B, O, S, I, _⟩ := id p
  obtain ⟨go, st, yl⟩ := itOk Hk (fun a ha => by
    obtain ⟨o, e, _⟩ := trk a ha
    rw [e]; exact I.sm _ _ e) (fun b o e _ => I.sm _ _ e)
  by_cases hlt : k < vs.length
  · refine .inr ⟨go k hlt, Pv (k + 1), fun H' p' => ⟨vs.length - (k + 1), by omega, rfl, hlt, p'⟩, fun x H' y => ?_⟩
    obtain ⟨rfl, hx⟩ := yl k x H' hlt y
    exact turn k x H' hx p
  · have e : k = vs.length := by omega
    subst e
    exact .inl ⟨st _ (Nat.le_refl _), stop Hk p⟩
theorem snd_lc {own : List Nat} {elt : Ex} {tg : Tg} {it : Rg} {cs : Exs} (he : Snd t Γ elt) (hi : SndI t Γ it) (hcs : SndCs t Γ cs) : Snd t Γ (.lc own elt tg it cs) := mkSnd (fun X nm fnB g e ok m H0 Z ρ σ H W Kk Q r w q => by
  simp only [okE] at ok
  split at ok
  · rename_i ee et ei ifs scope pos
    have ok : okE t nm (.lc own elt tg it cs) (.ListComp ee [⟨et, ei, ifs, 0⟩] scope pos) = true := ok
    obtain ⟨blk, oddI, rd⟩ := lc_any he hi hcs g ok r w q
    exact seOf (pe_lc g.calm g.nd piS blk gBk_ok tBk_ok eBk_ok (noFold oddI)) rd
  · cases ok) fun nm e ok => by
    simp only [okE] at ok
    split at ok
    · rfl
    · cases ok
/-! ### two clauses -/
def iBk (X : Cx) (scope : Scope) (et ei : Expr) : TI := fun σ H R => ∀ (s : Shared) (H' : Hp) (C : Addr) (cl : List (Str × Addr)) (fp : List Addr), SI (X.blk s H' scope (compEnvC scope cl C X.env) fp) et ei σ H R
theorem iBk_ok {X : Cx} {scope : Scope} {et ei : Expr} (s : Shared) (H : Hp) (C : Addr) (cl : List (Str × Addr)) (fp : List Addr) : PI (X.blk s H scope (compEnvC scope cl C X.env) fp) et ei (iBk X scope et ei) :=
  ⟨fun pins s' σ H' R I h => h s H C cl fp pins s' I⟩
/-- the state between two turns -/
structure LbI (K : PySem.W.Frag) (H0 : Base) (Z : List (Nat × Addr)) (ρ0 : Pl) (σ0 : L2.St) (H1 : Hp) (W : Nat → List Addr) (Dr : Addr) (Hk : Hp) (acc : List D) (accV : List V) (B : List Addr) : Prop where
  hD : Hk Dr = some (.lst accV)
  rep : Reps K Hk accV acc B
  nd : B.Nodup
  new : ∀ a ∈ B, H1 a = none ∧ a ≠ Dr
  sm : Same H1 Hk
  rl : RL K H0 Z ρ0 σ0 Hk W
theorem LbI.mono {K : PySem.W.Frag} {H0 : Base} {Z : List (Nat × Addr)} {ρ0 : Pl} {σ0 : L2.St} {H1 : Hp} {W : Nat → List Addr} {Dr : Addr} {Hk H' : Hp} {acc : List D} {accV : List V} {B : List Addr} (I : LbI K H0 Z ρ0 σ0 H1 W Dr Hk acc accV B) (s : Same Hk H') : LbI K H0 Z ρ0 σ0 H1 W Dr H' acc accV B :=
  ⟨s _ _ I.hD, I.rep.same s, I.nd, I.new, I.sm.trans s, I.rl.mono s⟩
theorem okI_odd' {nm : Nm} {it : Rg} {e : Expr} (oi : okI t nm it e = true) : odd e = false := by
  cases it with
  | rng1 b => simp only [okI] at oi; split at oi; rfl; cases oi
  | rng2 a b => simp only [okI] at oi; split at oi; rfl; cases oi
  | rng3 a b c => simp only [okI] at oi; split at oi; rfl; cases oi
  | rev a => simp only [okI] at oi; split at oi; rfl; cases oi
  | col a => exact okE_odd a oi
theorem drop_at {α : Type} {xs : List α} {k : Nat} {x : α} (h : xs[k]? = some x) : xs.drop k = x :: xs.drop (k + 1) := by
  have hk := (List.getElem?_eq_some_iff.mp h).1
  rw [List.drop_eq_getElem_cons hk]
  congr 1
  exact (List.getElem?_eq_some_iff.mp h).2
theorem lc2_any {own own1 : List Nat} {elt : Ex} {tg tg1 : Tg} {it it1 : Rg} {cs cs1 : Exs} (he : Snd t Γ elt) (hi : SndI t Γ it) (hcs : SndCs t Γ cs) (hi1 : SndI t Γ it1) (hcs1 : SndCs t Γ cs1) {X : Cx} {nm : Nm} {fnB : Str → Bool} (g : Good X t nm fnB Γ) {ee et ei et1 ei1 : Expr} {ifs ifs1 : List Expr} {scope : Scope} {pos : Pos}
    (ok : okE t nm (.lc2 own own1 elt tg it cs tg1 it1 cs1) (.ListComp ee [⟨et, ei, ifs, 0⟩, ⟨et1, ei1, ifs1, 0⟩] scope pos) = true) {m : Md} {H0 : Base} {Z : List (Nat × Addr)} {ρ : Pl} {σ : L2.St} {H : Hp} {W : Nat → List Addr} {Kk : KE} {Q : VK}
    (r : RL X.K H0 Z ρ σ H W) (w : wpE Γ m (.lc2 own own1 elt tg it cs tg1 it1 cs1) ρ Kk) (q : ∀ d l ρ' v H' A, Kk d l ρ' → Out X.K Z m ρ H W d l ρ' v H' A → Q v H') :
    BlkOk X.N X.env.scope scope (ownP t own) ∧ odd ei = false ∧ odd ei1 = false ∧ (∀ i ∈ own1, i ∈ (ownP t own).map (·.2)) ∧
      tLc2 (SI X et ei) (gBk X scope et) (tBk X scope ifs) (iBk X scope et1 ei1) (gBk X scope et1) (tBk X scope ifs1) (eBk X scope ee) ((ownP t own).map (·.2)) own1 σ H Q := by
  simp only [okE, Bool.and_eq_true] at ok
  obtain ⟨⟨⟨⟨⟨⟨⟨⟨⟨⟨oi, oblk⟩, otg⟩, ocs⟩, oi1⟩, otg1⟩, ocs1⟩, oe⟩, os⟩, os1⟩, oo⟩ := ok
  have slots : ∀ i ∈ tg.slots, i ∈ own := fun i h => by simpa using List.all_eq_true.mp os i h
  have slots1 : ∀ i ∈ tg1.slots, i ∈ own1 := fun i h => by simpa using List.all_eq_true.mp os1 i h
  have sub1 : ∀ i ∈ own1, i ∈ own := fun i h => by simpa using List.all_eq_true.mp oo i h
  have hks : scope.kind = .function := (blkOk_by oblk).kind
  have blk : BlkOk X.N X.env.scope scope (ownP t own) := by
    have b := blkOk_by oblk
    rw [g.N]
    exact ⟨b.kind, b.uniq, b.ix, fun y hy e => by have := b.free y hy e; rw [g.nm]; exact this, b.own⟩
  refine ⟨blk, okI_odd' oi, okI_odd' oi1, by rw [ownP_snd]; exact sub1, ?_⟩
  rw [ownP_snd]
  have gb := g.blk hks
  refine hi X nm fnB g et ei oi .kid H0 Z ρ σ H W _ _ r (fun z => by cases z) w fun xs ρ1 vs J H1 A src w1 rs s1 d1 cA itOk trk _ => ?_
  intro Dr hDr
  obtain ⟨frO, w1⟩ := w1
  have r1 := (r.dem d1).mono s1
  have hA : ∀ a ∈ A, H1 a ≠ none ∧ ∀ i, a ∉ (ρ1.pt i).own (W i) := fun a ha => ⟨fun z => (by obtain ⟨o, e, _⟩ := rs.dom a ha; rw [z] at e; cases e), (cA.s a ha).2.2.2⟩
  have h0D : H0 Dr = none := r1.same.non hDr
  have r0 : RL X.K H0 Z (wipeD ρ1 own) (wipe σ own) H1 W := r1.wipe fun i hi => free_ln (frO i hi)
  have nD0 : ∀ i, ((wipeD ρ1 own).pt i).live = true → Dr ∉ W i := rl_nd r0 hDr
  generalize hstep : (fun (x : D) (acc : List D) (k : List D → Prop) => tgD tg x (wipeD ρ1 own) fun ρa => wpCs Γ cs ρa fun b =>
          if b = true then wpI Γ .own it1 ρa fun xs1 ρb => (D.immL xs1 = true ∨ ρb = ρa) ∧
            loopB (fun x acc k => tgD tg1 x (wipeD ρa own1) fun ρc => wpCs Γ cs1 ρc fun b =>
                if b = true then wpE Γ .own elt ρc fun d l ρd => acc.length < sizeLine ∧ (d.imm = true ∨ (isDeep l = true ∧ ρd = ρc)) ∧ k (acc ++ [d])
                else k acc) xs1 acc k
          else k acc) = step at w1
  have hs : ∀ x acc k, step x acc k = (tgD tg x (wipeD ρ1 own) fun ρa => wpCs Γ cs ρa fun b =>
          if b = true then wpI Γ .own it1 ρa fun xs1 ρb => (D.immL xs1 = true ∨ ρb = ρa) ∧
            loopB (fun x acc k => tgD tg1 x (wipeD ρa own1) fun ρc => wpCs Γ cs1 ρc fun b =>
                if b = true then wpE Γ .own elt ρc fun d l ρd => acc.length < sizeLine ∧ (d.imm = true ∨ (isDeep l = true ∧ ρd = ρc)) ∧ k (acc ++ [d])
                else k acc) xs1 acc k
          else k acc) := fun x acc k => by rw [← hstep]
  generalize hfin : (fun (ds : List D) => match m with | .bor => Kk (.lst ds) .froz ρ | _ => Kk (.lst ds) .deep (unwipe ρ1 (wipeD ρ1 own) own)) = Kf at w1
  let Pv : Nat → Hp → Prop := fun k Hk => ∃ acc accV B, LbI X.K H0 Z (wipeD ρ1 own) (wipe σ own) H1 W Dr Hk acc accV B ∧ loopB step (xs.drop k) acc Kf
  have start : Pv 0 (upd H1 Dr (.lst [])) := by
    have sm : Same H1 (upd H1 Dr (.lst [])) := Same.updp hDr
    exact ⟨[], [], [], ⟨upd_same, .nil, List.nodup_nil, fun a h => absurd h List.not_mem_nil, sm, r0.mono sm⟩, by rw [List.drop_zero]; exact w1⟩
  have turn : ∀ k x Hk, vs[k]? = some x → Pv k Hk → gBk X scope et x (wipe σ own) Hk fun σ2 H2 => wipe σ2 own = wipe σ own ∧ tBk X scope ifs σ2 H2 fun b H3 =>
      if b = true then iBk X scope et1 ei1 σ2 H3 fun J1 H4 => ∃ W1 : Nat → Nat → Hp → Prop, (∃ m, W1 0 m H4) ∧ ∀ j k' H, W1 j k' H →
        (J1.stop j H ∧ Pv (k + 1) H) ∨ (J1.go j H ∧ ∃ Nx1 : Hp → Prop, (∀ H', Nx1 H' → ∃ k'', k'' < k' ∧ W1 (j + 1) k'' H') ∧ ∀ x H', J1.yld j H x H' → gBk X scope et1 x (wipe σ2 own1) H' fun σ3 H5 => wipe σ3 own1 = wipe σ2 own1 ∧ tBk X scope ifs1 σ3 H5 fun b H6 =>
          if b = true then eBk X scope ee σ3 H6 fun y H7 => ∃ acc, H7 Dr = some (.lst acc) ∧ acc.length < sizeLine ∧ Nx1 (upd H7 Dr (.lst (acc ++ [y]))) else Nx1 H6)
      else Pv (k + 1) H3 := by
    intro k x Hk hx ⟨acc, accV, B, I, wl⟩ s H' C cl fp
    obtain ⟨d, Ax, hd, rx, sx⟩ := rs.at hx
    rw [drop_at hd] at wl
    have wl : step d acc fun acc => loopB step (xs.drop (k + 1)) acc Kf := wl
    rw [hs] at wl
    have unw : ∀ i ∈ own, (wipeD ρ1 own).pt i = .un := fun i h => by rw [wipeD_pt, if_pos h]
    refine sndG (gb s H' C cl fp) otg I.rl (rx.same I.sm) (fun a ha => ⟨(cA.s a (sx.mem ha)).2.1, fun j z => ?_⟩) (fun a ha => r.us (cA.s a (sx.mem ha)).2.2.1) (fun i hi => ?_) wl fun ρa σ2 Wa w2 tr hw => ⟨?_, ?_⟩
    · rw [wipeD_pt] at z
      split at z
      · cases z
      · exact (hA a (sx.mem ha)).2 j z
    · unfold free
      rw [unw i (slots i hi)]
      show i < (wipeD ρ1 own).length
      rw [wipeD_len]
      exact free_lt (frO i (slots i hi))
    · rw [hw own slots, wipe_wipe]
    have nDa : ∀ i, (ρa.pt i).live = true → Dr ∉ Wa i := fun i hi z => by
      by_cases h : i ∈ tg.slots
      · exact (hA Dr (sx.mem ((tr.on i h).2 Dr z))).1 hDr
      · obtain ⟨e1, e2⟩ := tr.off i h
        rw [e1] at hi
        rw [e2] at z
        exact nD0 i hi z
    intro s H' C cl fp
    refine hcs _ _ _ (gb s H' C cl fp) ifs ocs H0 Z ρa σ2 Hk Wa _ _ tr.rl w2 fun b H3 w3 s3 => ?_
    cases b with
    | false =>
      simp only [Bool.false_eq_true, if_false] at w3 ⊢
      exact ⟨acc, accV, B, I.mono s3, w3⟩
    | true =>
      simp only [if_true] at w3 ⊢
      intro s H' C cl fp
      refine hi1 _ _ _ (gb s H' C cl fp) et1 ei1 oi1 .own H0 Z ρa σ2 H3 Wa _ _ (tr.rl.mono s3) (fun z => by cases z) w3 fun xs1 ρb vs1 J1 H4 A1 src1 w4 rs1 s4 d4 c4 itOk1 trk1 own4 => ?_
      obtain ⟨hb, w4⟩ := w4
      have c4' : ∀ a ∈ A1, a ∉ Z.map (·.2) ∧ (H3 a = none ∨ ∃ i, a ∈ (ρa.pt i).own (Wa i) ∨ a ∈ (ρa.pt i).shr (Wa i)) ∧ ∀ i, a ∉ (ρa.pt i).own (Wa i) := fun a ha => by
        rcases hb with im | e
        · rw [rs1.imm im] at ha; cases ha
        · have := c4.s a ha
          rw [e] at this
          exact this.2
      have hD3 : H3 Dr = some (.lst accV) := s3 _ _ I.hD
      have far : ∀ a, (H3 a = none ∨ ∃ i, a ∈ (ρa.pt i).own (Wa i) ∨ a ∈ (ρa.pt i).shr (Wa i)) → a ≠ Dr := fun a h z => by
        subst z
        rcases h with h | ⟨i, h | h⟩
        · rw [hD3] at h; cases h
        · exact nDa i (own_W h).2 (own_W h).1
        · exact nDa i (shr_W h).2 (shr_W h).1
      have srcD : ∀ a ∈ src1, a ≠ Dr := fun a ha => far a (own4 rfl a ha).2
      have A1D : ∀ a ∈ A1, a ≠ Dr := fun a ha => far a (c4' a ha).2.1
      have hD4 : H4 Dr = some (.lst accV) := s4 _ _ hD3
      generalize hstep1 : (fun (x : D) (acc : List D) (k : List D → Prop) => tgD tg1 x (wipeD ρa own1) fun ρc => wpCs Γ cs1 ρc fun b =>
                if b = true then wpE Γ .own elt ρc fun d l ρd => acc.length < sizeLine ∧ (d.imm = true ∨ (isDeep l = true ∧ ρd = ρc)) ∧ k (acc ++ [d])
                else k acc) = step1 at w4
      have hs1 : ∀ x acc k, step1 x acc k = (tgD tg1 x (wipeD ρa own1) fun ρc => wpCs Γ cs1 ρc fun b =>
                if b = true then wpE Γ .own elt ρc fun d l ρd => acc.length < sizeLine ∧ (d.imm = true ∨ (isDeep l = true ∧ ρd = ρc)) ∧ k (acc ++ [d])
                else k acc) := fun x acc k => by rw [← hstep1]
      let Pi : Nat → Hp → Prop := fun j Hj => ∃ acc accV B, LbI X.K H0 Z (wipeD ρ1 own) (wipe σ own) H1 W Dr Hj acc accV B ∧ RL X.K H0 Z ρa σ2 Hj Wa ∧ (∀ b o, H4 b = some o → b ≠ Dr → Hj b = some o) ∧
        loopB step1 (xs1.drop j) acc fun acc => loopB step (xs.drop (k + 1)) acc Kf
      have start1 : Pi 0 H4 := ⟨acc, accV, B, I.mono (s3.trans s4), tr.rl.mono (s3.trans s4), fun b o e _ => e, by rw [List.drop_zero]; exact w4⟩
      have turn1 : ∀ j x Hj, vs1[j]? = some x → Pi j Hj → gBk X scope et1 x (wipe σ2 own1) Hj fun σ3 H5 => wipe σ3 own1 = wipe σ2 own1 ∧ tBk X scope ifs1 σ3 H5 fun b H6 =>
          if b = true then eBk X scope ee σ3 H6 fun y H7 => ∃ acc, H7 Dr = some (.lst acc) ∧ acc.length < sizeLine ∧ Pi (j + 1) (upd H7 Dr (.lst (acc ++ [y]))) else Pi (j + 1) H6 := by
        intro j x Hj hx ⟨acc, accV, B, I, ra, ke, wl⟩ s H' C cl fp
        have rsj : Reps X.K Hj vs1 xs1 A1 := rs1.mono (fun a ha => by
          obtain ⟨o, e, _⟩ := rs1.dom a ha
          rw [e]; exact ke _ _ e (A1D a ha)) fun a o e f => ke _ _ e fun z => by subst z; rw [hD4] at e; cases e; exact f
        obtain ⟨d, Ax1, hd, rx1, sx1⟩ := rsj.at hx
        rw [drop_at hd] at wl
        have wl : step1 d acc fun acc => loopB step1 (xs1.drop (j + 1)) acc fun acc => loopB step (xs.drop (k + 1)) acc Kf := wl
        rw [hs1] at wl
        have rw1 : RL X.K H0 Z (wipeD ρa own1) (wipe σ2 own1) Hj Wa := ra.wipe fun i hi d e => by
          by_cases h : i ∈ tg.slots
          · obtain ⟨⟨d', e'⟩, _⟩ := tr.on i h
            rw [e'] at e; cases e
          · rw [(tr.off i h).1, unw i (sub1 i hi)] at e; cases e
        refine sndG (gb s H' C cl fp) otg1 rw1 rx1 (fun a ha => ⟨(c4' a (sx1.mem ha)).1, fun i z => ?_⟩) (fun a ha => (tr.rl.mono s3).us (c4' a (sx1.mem ha)).2.1) (fun i hi => ?_) wl fun ρc σ3 Wc w5 tr1 hw1 => ⟨?_, ?_⟩
        · rw [wipeD_pt] at z
          split at z
          · cases z
          · exact (c4' a (sx1.mem ha)).2.2 i z
        · unfold free
          rw [wipeD_pt, if_pos (slots1 i hi)]
          show i < (wipeD ρa own1).length
          rw [wipeD_len, tr.len, wipeD_len]
          exact free_lt (frO i (sub1 i (slots1 i hi)))
        · rw [hw1 own1 slots1, wipe_wipe]
        intro s H' C cl fp
        refine hcs1 _ _ _ (gb s H' C cl fp) ifs1 ocs1 H0 Z ρc σ3 Hj Wc _ _ tr1.rl w5 fun b H6 w6 s6 => ?_
        cases b with
        | false =>
          simp only [Bool.false_eq_true, if_false] at w6 ⊢
          exact ⟨acc, accV, B, I.mono s6, ra.mono s6, fun b o e n => s6 _ _ (ke b o e n), w6⟩
        | true =>
          simp only [if_true] at w6 ⊢
          intro s H' C cl fp
          refine he.e _ _ _ (gb s H' C cl fp) ee oe .own H0 Z ρc σ3 H6 Wc _ _ (tr1.rl.mono s6) w6 fun dv l ρd y H7 A2 w7 o => ?_
          obtain ⟨hlen, hcase, w7⟩ := w7
          have s67 := s6.trans o.same
          have hD6 : H6 Dr = some (.lst accV) := s6 _ _ I.hD
          have hD7 : H7 Dr = some (.lst accV) := s67 _ _ I.hD
          have fresh : A2.Nodup ∧ ∀ a ∈ A2, H6 a = none := by
            rcases hcase with im | ⟨dp, e⟩
            · rw [o.rep.imm im]; exact ⟨List.nodup_nil, fun a h => absurd h List.not_mem_nil⟩
            · subst e
              have el : l = .deep := by cases l <;> first | rfl | cases dp
              subst el
              have c := o.cl
              refine ⟨c.nd, fun a h => ?_⟩
              obtain ⟨h1, h2⟩ := c.o a h
              rcases h1 with h1 | ⟨i, h1⟩
              · exact h1
              · exact absurd h1 (h2 i).1
          have nA2 : Dr ∉ A2 := fun z => by rw [fresh.2 _ z] at hD6; cases hD6
          have nB : Dr ∉ B := fun z => (I.new _ z).2 rfl
          have mu : Mut (.lst accV) := True.intro
          refine ⟨accV, hD7, by rw [I.rep.length]; exact hlen, acc ++ [dv], accV ++ [y], B ++ A2, ⟨upd_same, ?_, ?_, fun a h => ?_, fun b o' e => ?_, ?_⟩, ?_, fun b o' e n => ?_, w7⟩
          · exact Reps.append ((I.rep.same s67).upd nB hD7 mu) (Reps.one (o.rep.upd nA2 hD7 mu))
          · refine List.nodup_append.mpr ⟨I.nd, fresh.1, fun a h1 b h2 e => ?_⟩
            subst e
            obtain ⟨o', e', _⟩ := I.rep.dom a h1
            have := s6 _ _ e'
            rw [fresh.2 a h2] at this
            cases this
          · rcases List.mem_append.mp h with h | h
            · exact I.new a h
            · exact ⟨(I.sm.trans s6).non (fresh.2 a h), fun z => nA2 (z ▸ h)⟩
          · rw [upd_ne (ne_of_none e hDr)]
            exact s67 _ _ (I.sm _ _ e)
          · exact (I.rl.mono s67).updD nD0 hD7 mu h0D
          · exact (ra.mono s67).updD nDa hD7 mu h0D
          · rw [upd_ne n]
            exact s67 _ _ (ke b o' e n)
      refine ⟨fun j mm Hj => mm = vs1.length - j ∧ j ≤ vs1.length ∧ Pi j Hj, ⟨vs1.length, by simp, Nat.zero_le _, start1⟩, ?_⟩
      rintro j mm Hj ⟨rfl, hj, p⟩
      obtain ⟨acc, accV, B, I, ra, ke, wl⟩ := id p
      obtain ⟨go, st, yl⟩ := itOk1 Hj (fun a ha => by
        obtain ⟨o, e, _⟩ := trk1 a ha
        rw [e]; exact ke _ _ e (srcD a ha)) (fun b o e f => ke _ _ e fun z => by subst z; rw [hD4] at e; cases e; exact f)
      by_cases hlt : j < vs1.length
      · refine .inr ⟨go j hlt, Pi (j + 1), fun H' p' => ⟨vs1.length - (j + 1), by omega, rfl, hlt, p'⟩, fun x H' y => ?_⟩
        obtain ⟨rfl, hx⟩ := yl j x H' hlt y
        exact turn1 j x H' hx p
      · have e : j = vs1.length := by omega
        subst e
        refine .inl ⟨st _ (Nat.le_refl _), acc, accV, B, I, ?_⟩
        rw [rs1.length, List.drop_length] at wl
        exact wl
  have stop : ∀ Hn, Pv vs.length Hn → Q (.ref Dr) Hn := by
    intro Hn ⟨acc, accV, B, I, wl⟩
    rw [rs.length, List.drop_length] at wl
    have wl : Kf acc := wl
    rw [← hfin] at wl
    have ci : CI H1 Z ρ1 (wipeD ρ1 own) W A B [] := ⟨I.nd, fun a h => ⟨.inl (I.new a h).1, fun z => (hA a z).1 (I.new a h).1, fun i => ⟨fun z => rl_nd r0 (I.new a h).1 i (own_W z).2 (own_W z).1, fun z => rl_nd r0 (I.new a h).1 i (shr_W z).2 (shr_W z).1⟩⟩, fun a h => absurd h List.not_mem_nil⟩
    obtain ⟨dm, c⟩ := ci.out r s1 d1 .refl cA frO
    have rp : Rep X.K Hn (.ref Dr) (.lst acc) (Dr :: B) := .lst I.hD I.rep
    have sH := s1.trans I.sm
    have hHD : H Dr = none := s1.non hDr
    have dm' := d1.trans dm
    have nO : Dr ∉ B := fun z => (I.new _ z).2 rfl
    cases m with
    | bor => exact q _ _ _ _ _ _ wl ⟨rp, sH, .refl, .nil⟩
    | own => exact q _ _ _ _ _ _ wl ⟨rp, sH, dm', c.cons' r dm' hHD nO List.not_mem_nil⟩
    | kid => exact q _ _ _ _ _ _ wl ⟨rp, sH, dm', c⟩
  refine ⟨fun k mm Hk => mm = vs.length - k ∧ k ≤ vs.length ∧ Pv k Hk, ⟨vs.length, by simp, Nat.zero_le _, start⟩, ?_⟩
  rintro k mm Hk ⟨rfl, hk, p⟩
  obtain ⟨acc, accV, B, I, _⟩ := id p
  obtain ⟨go, st, yl⟩ := itOk Hk (fun a ha => by
    obtain ⟨o, e, _⟩ := trk a ha
    rw [e]; exact I.sm _ _ e) (fun b o e _ => I.sm _ _ e)
  by_cases hlt : k < vs.length
  · refine .inr ⟨go k hlt, Pv (k + 1), fun H' p' => ⟨vs.length - (k + 1), by omega, rfl, hlt, p'⟩, fun x H' y => ?_⟩
    obtain ⟨rfl, hx⟩ := yl k x H' hlt y
    exact turn k x H' hx p
  · have e : k = vs.length := by omega
    subst e
    exact .inl ⟨st _ (Nat.le_refl _), stop Hk p⟩
theorem snd_lc2 {own own1 : List Nat} {elt : Ex} {tg tg1 : Tg} {it it1 : Rg} {cs cs1 : Exs} (he : Snd t Γ elt) (hi : SndI t Γ it) (hcs : SndCs t Γ cs) (hi1 : SndI t Γ it1) (hcs1 : SndCs t Γ cs1) : Snd t Γ (.lc2 own own1 elt tg it cs tg1 it1 cs1) := mkSnd (fun X nm fnB g e ok m H0 Z ρ σ H W Kk Q r w q => by
  have ok' := ok
  simp only [okE] at ok
  split at ok
  · rename_i ee et ei ifs et1 ei1 ifs1 scope pos
    obtain ⟨blk, oddI, oddI1, sb, rd⟩ := lc2_any he hi hcs hi1 hcs1 g ok' r w q
    exact seOf (pe_lc2 g.calm g.nd piS blk sb gBk_ok tBk_ok iBk_ok gBk_ok tBk_ok eBk_ok (noFold oddI) (fun _ => noFold oddI1)) rd
  · cases ok) fun nm e ok => by
    simp only [okE] at ok
    split at ok
    · rfl
    · cases ok
/-! ### a selection out of a list -/
structure SlI (K : PySem.W.Frag) (H0 : Base) (Z : List (Nat × Addr)) (ρ0 : Pl) (σ0 : L2.St) (H1 : Hp) (W : Nat → List Addr) (Dr : Addr) (A : List Addr) (vs : List V) (xs : List D) (Hk : Hp) (acc : List D) (accV : List V) (B : List Addr) : Prop where
  hD : Hk Dr = some (.lst accV)
  rep : Reps K Hk accV acc B
  cut : ∃ A1 A2, A = A1 ++ A2 ∧ Reps K H1 vs xs A2 ∧ B.Sublist A1
  sm : Same H1 Hk
  rl : RL K H0 Z ρ0 σ0 Hk W
theorem SlI.mono {K : PySem.W.Frag} {H0 : Base} {Z : List (Nat × Addr)} {ρ0 : Pl} {σ0 : L2.St} {H1 : Hp} {W : Nat → List Addr} {Dr : Addr} {A : List Addr} {vs : List V} {xs : List D} {Hk H' : Hp} {acc : List D} {accV : List V} {B : List Addr} (I : SlI K H0 Z ρ0 σ0 H1 W Dr A vs xs Hk acc accV B) (s : Same Hk H') : SlI K H0 Z ρ0 σ0 H1 W Dr A vs xs H' acc accV B :=
  ⟨s _ _ I.hD, I.rep.same s, I.cut, I.sm.trans s, I.rl.mono s⟩
theorem sel_any {own : List Nat} {i : Nat} {a : Ex} {cs : Exs} (ha : Snd t Γ a) (hcs : SndCs t Γ cs) {X : Cx} {nm : Nm} {fnB : Str → Bool} (g : Good X t nm fnB Γ) {ee et ei : Expr} {ifs : List Expr} {scope : Scope} {pos : Pos}
    (ok : okE t nm (.sel own i a cs) (.ListComp ee [⟨et, ei, ifs, 0⟩] scope pos) = true) {m : Md} {H0 : Base} {Z : List (Nat × Addr)} {ρ : Pl} {σ : L2.St} {H : Hp} {W : Nat → List Addr} {Kk : KE} {Q : VK}
    (r : RL X.K H0 Z ρ σ H W) (w : wpE Γ m (.sel own i a cs) ρ Kk) (q : ∀ d l ρ' v H' A, Kk d l ρ' → Out X.K Z m ρ H W d l ρ' v H' A → Q v H') :
    BlkOk X.N X.env.scope scope (ownP t own) ∧ odd ei = false ∧ tLc (SI X et ei) (gBk X scope et) (tBk X scope ifs) (eBk X scope ee) ((ownP t own).map (·.2)) σ H Q := by
  simp only [okE, Bool.and_eq_true] at ok
  obtain ⟨⟨⟨⟨⟨oi, oblk⟩, otg⟩, ocs⟩, oe⟩, osl⟩ := ok
  have iown : i ∈ own := by simpa using osl
  have slots : ∀ j ∈ (Tg.one i).slots, j ∈ own := fun j h => by
    obtain rfl := List.mem_singleton.mp h
    exact iown
  have hks : scope.kind = .function := (blkOk_by oblk).kind
  have blk : BlkOk X.N X.env.scope scope (ownP t own) := by
    have b := blkOk_by oblk
    rw [g.N]
    exact ⟨b.kind, b.uniq, b.ix, fun y hy e => by have := b.free y hy e; rw [g.nm]; exact this, b.own⟩
  refine ⟨blk, okE_odd a oi, ?_⟩
  rw [ownP_snd]
  have gb := g.blk hks
  refine siOf (pi_seq peS) ?_
  refine ha.e X nm fnB g _ oi .kid H0 Z ρ σ H W _ _ r w fun x la ρ1 vx H1 A0 w1 o1 => ?_
  obtain ⟨xs, rfl, frO, w1⟩ := w1
  obtain ⟨la', vs, A, rfl, rfl, ea, rs⟩ := o1.rep.lst_inv
  refine ⟨la', rfl, .inl ⟨⟨vs, SqL.of ea⟩, ?_⟩⟩
  intro Dr hDr
  have s1 := o1.same
  have d1 := o1.dem
  have r1 := (r.dem d1).mono s1
  have h0D : H0 Dr = none := r1.same.non hDr
  have r0 : RL X.K H0 Z (wipeD ρ1 own) (wipe σ own) H1 W := r1.wipe fun j hj => free_ln (frO j hj)
  have nD0 : ∀ j, ((wipeD ρ1 own).pt j).live = true → Dr ∉ W j := rl_nd r0 hDr
  have inA : ∀ a ∈ A, H1 a ≠ none := fun a ha z => by obtain ⟨o, e, _⟩ := rs.dom a ha; rw [z] at e; cases e
  have AD : Dr ∉ A := fun z => inA Dr z hDr
  have tlA : tl (D.lst xs) (la' :: A) = A := by rfl
  have cA : Cl H Z ρ ρ1 W [] A := by
    have c := o1.cl
    refine c.less List.nodup_nil (fun a h => absurd h List.not_mem_nil) (fun a h => ?_) (fun a h => List.not_mem_nil) (c.oz r)
    simp only [pO, pS, tlA]
    cases la <;> simp [isDeep, h]
  have far : ∀ a ∈ A, a ∉ Z.map (·.2) ∧ ∀ j, a ∉ ((wipeD ρ1 own).pt j).own (W j) := fun a ha => by
    obtain ⟨_, z, _, n⟩ := cA.s a ha
    refine ⟨z, fun j h => ?_⟩
    rw [wipeD_pt] at h
    split at h
    · cases h
    · exact n j h
  generalize hstep : (fun (x : D) (acc : List D) (k : List D → Prop) => tgD (.one i) x (wipeD ρ1 own) fun ρa => wpCs Γ cs ρa fun b => if b = true then acc.length < sizeLine ∧ k (acc ++ [x]) else k acc) = step at w1
  have hs : ∀ x acc k, step x acc k = (tgD (.one i) x (wipeD ρ1 own) fun ρa => wpCs Γ cs ρa fun b => if b = true then acc.length < sizeLine ∧ k (acc ++ [x]) else k acc) := fun x acc k => by rw [← hstep]
  generalize hfin : (fun (ds : List D) => match m with | .bor => Kk (.lst ds) .froz ρ | _ => Kk (.lst ds) (if isDeep la = true then .deep else .top) (unwipe ρ1 (wipeD ρ1 own) own)) = Kf at w1
  let Pv : Nat → Hp → Prop := fun k Hk => ∃ acc accV B, SlI X.K H0 Z (wipeD ρ1 own) (wipe σ own) H1 W Dr A (vs.drop k) (xs.drop k) Hk acc accV B ∧ loopB step (xs.drop k) acc Kf
  have start : Pv 0 (upd H1 Dr (.lst [])) := by
    have sm : Same H1 (upd H1 Dr (.lst [])) := Same.updp hDr
    exact ⟨[], [], [], ⟨upd_same, .nil, ⟨[], A, rfl, by rw [List.drop_zero, List.drop_zero]; exact rs, List.Sublist.refl _⟩, sm, r0.mono sm⟩, by rw [List.drop_zero]; exact w1⟩
  have turn : ∀ k x Hk, vs[k]? = some x → Pv k Hk → gBk X scope et x (wipe σ own) Hk fun σ2 H2 => wipe σ2 own = wipe σ own ∧ tBk X scope ifs σ2 H2 fun b H3 =>
      if b = true then eBk X scope ee σ2 H3 fun y H4 => ∃ acc, H4 Dr = some (.lst acc) ∧ acc.length < sizeLine ∧ Pv (k + 1) (upd H4 Dr (.lst (acc ++ [y]))) else Pv (k + 1) H3 := by
    intro k x Hk hx ⟨acc, accV, B, I, wl⟩ s H' C cl fp
    obtain ⟨d, Ax', hd, _, _⟩ := rs.at hx
    obtain ⟨A1, A2, eA, rsk, sub⟩ := I.cut
    rw [drop_at hx, drop_at hd] at rsk
    rw [drop_at hd] at wl
    have wl : step d acc fun acc => loopB step (xs.drop (k + 1)) acc Kf := wl
    rw [hs] at wl
    cases rsk with
    | cons rx rsk' =>
    rename_i Ax A2'
    have inAx : ∀ a ∈ Ax, a ∈ A := fun a h => by rw [eA]; exact List.mem_append_right _ (List.mem_append_left _ h)
    have fi : free (wipeD ρ1 own) i := by
      unfold free
      rw [wipeD_pt, if_pos iown]
      show i < (wipeD ρ1 own).length
      rw [wipeD_len]
      exact free_lt (frO i iown)
    have otg1 : okT1 t (relN scope nm) (fun x => scope.names.lookup x == some .cell) i et = true := otg
    refine sndG1 (gb s H' C cl fp) otg1 I.rl (rx.same I.sm) (fun a ha => ⟨(far a (inAx a ha)).1, fun j => (far a (inAx a ha)).2 j⟩) (fun a ha => r.us (cA.s a (inAx a ha)).2.2.1) fi fun rl2 => ⟨(wipe_set iown).trans (wipe_wipe _ _), ?_⟩
    have w2 : wpCs Γ cs ((wipeD ρ1 own).set i (.fz d)) fun b => if b = true then acc.length < sizeLine ∧ loopB step (xs.drop (k + 1)) (acc ++ [d]) Kf else loopB step (xs.drop (k + 1)) acc Kf := wl
    have sub' : ∃ A1 A2, A = A1 ++ A2 ∧ Reps X.K H1 (vs.drop (k + 1)) (xs.drop (k + 1)) A2 ∧ B.Sublist A1 := ⟨A1 ++ Ax, A2', by rw [eA, List.append_assoc], rsk', sub.trans (List.sublist_append_left _ _)⟩
    intro s H' C cl fp
    refine hcs _ _ _ (gb s H' C cl fp) ifs ocs H0 Z _ _ Hk _ _ _ rl2 w2 fun b H3 w3 s3 => ?_
    have I3 := I.mono s3
    cases b with
    | false =>
      simp only [Bool.false_eq_true, if_false] at w3 ⊢
      exact ⟨acc, accV, B, ⟨I3.hD, I3.rep, sub', I3.sm, I3.rl⟩, w3⟩
    | true =>
      simp only [if_true] at w3 ⊢
      obtain ⟨hlen, w3⟩ := w3
      intro s H' C cl fp
      obtain ⟨y, p, rfl, h1, h2, h3, h4⟩ := okV_inv oe
      have gb' := gb s H' C cl fp
      have il : i < (wipe σ own).length := by rw [← r0.len]; exact free_lt fi
      have mu : Mut (.lst accV) := True.intro
      have nB : Dr ∉ B := fun z => AD (by rw [eA]; exact List.mem_append_left _ (sub.mem z))
      have nAx : Dr ∉ Ax := fun z => AD (inAx _ z)
      refine seOf (pe_var (by rw [gb'.N]; exact h1) (gb'.vis h2) h3 h4) ⟨x, by rw [List.getElem?_set_self il], accV, I3.hD, by rw [I3.rep.length]; exact hlen, acc ++ [d], accV ++ [x], B ++ Ax, ⟨upd_same, ?_, ⟨A1 ++ Ax, A2', by rw [eA, List.append_assoc], rsk', sub.append (List.Sublist.refl _)⟩, fun b o e => ?_, I3.rl.updD nD0 I3.hD mu h0D⟩, w3⟩
      · exact Reps.append (I3.rep.upd nB I3.hD mu) (Reps.one ((rx.same I3.sm).upd nAx I3.hD mu))
      · rw [upd_ne (ne_of_none e hDr)]
        exact I3.sm _ _ e
  have stop : ∀ Hn, Pv vs.length Hn → Q (.ref Dr) Hn := by
    intro Hn ⟨acc, accV, B, I, wl⟩
    rw [rs.length, List.drop_length] at wl
    have wl : Kf acc := wl
    rw [← hfin] at wl
    obtain ⟨A1, A2, eA, _, sub⟩ := I.cut
    have subA : B.Sublist A := by rw [eA]; exact sub.trans (List.sublist_append_left _ _)
    have ci : CI H1 Z ρ1 (wipeD ρ1 own) W A [] B := ⟨List.nodup_nil, fun a h => absurd h List.not_mem_nil, fun a h => ⟨List.not_mem_nil, (far a (subA.mem h)).1, .inr (.inr (subA.mem h)), (far a (subA.mem h)).2⟩⟩
    obtain ⟨dm, c⟩ := ci.out r s1 d1 .refl cA frO
    have rp : Rep X.K Hn (.ref Dr) (.lst acc) (Dr :: B) := .lst I.hD I.rep
    have sH := s1.trans I.sm
    have hHD : H Dr = none := s1.non hDr
    have dm' := d1.trans dm
    have nB : Dr ∉ B := fun z => AD (subA.mem z)
    have deep : isDeep la = true → Cl H Z ρ (unwipe ρ1 (wipeD ρ1 own) own) W B [] := fun hl => by
      have c1 := o1.cl
      have e1 : pO .kid la (D.lst xs) (la' :: A) = A := by simp only [pO, hl, if_true]; exact tlA
      rw [e1] at c1
      refine ⟨c1.nd.sublist subA, fun a h => ⟨(c1.o a (subA.mem h)).1, fun j => ?_⟩, fun a h => absurd h List.not_mem_nil⟩
      have n := (c1.o a (subA.mem h)).2 j
      refine ⟨fun z => n.1 ((dm.dem j).own z), fun z => ?_⟩
      rcases (dm.dem j).shr z with z | z
      · exact n.1 z
      · exact n.2 z
    cases m with
    | bor => exact q _ _ _ _ _ _ wl ⟨rp, sH, .refl, .nil⟩
    | own =>
      refine q _ _ _ _ _ _ wl ⟨rp, sH, dm', ?_⟩
      by_cases hl : isDeep la = true
      · rw [if_pos hl]
        exact (deep hl).cons' r dm' hHD nB List.not_mem_nil
      · rw [if_neg hl]
        exact c.cons' r dm' hHD List.not_mem_nil nB
    | kid =>
      refine q _ _ _ _ _ _ wl ⟨rp, sH, dm', ?_⟩
      by_cases hl : isDeep la = true
      · rw [if_pos hl]
        exact deep hl
      · rw [if_neg hl]
        exact c
  have itOk := itOk_list (K := X.K) ea
  refine ⟨fun k mm Hk => mm = vs.length - k ∧ k ≤ vs.length ∧ Pv k Hk, ⟨vs.length, by simp, Nat.zero_le _, start⟩, ?_⟩
  rintro k mm Hk ⟨rfl, hk, p⟩
  obtain ⟨acc, accV, B, I, _⟩ := id p
  obtain ⟨go, st, yl⟩ := itOk Hk (fun a ha => by
    obtain rfl := List.mem_singleton.mp ha
    rw [ea]; exact I.sm _ _ ea) (fun b o e _ => I.sm _ _ e)
  by_cases hlt : k < vs.length
  · refine .inr ⟨go k hlt, Pv (k + 1), fun H' p' => ⟨vs.length - (k + 1), by omega, rfl, hlt, p'⟩, fun x H' y => ?_⟩
    obtain ⟨rfl, hx⟩ := yl k x H' hlt y
    exact turn k x H' hx p
  · have e : k = vs.length := by omega
    subst e
    exact .inl ⟨st _ (Nat.le_refl _), stop Hk p⟩
theorem snd_sel {own : List Nat} {i : Nat} {a : Ex} {cs : Exs} (ha : Snd t Γ a) (hcs : SndCs t Γ cs) : Snd t Γ (.sel own i a cs) := mkSnd (fun X nm fnB g e ok m H0 Z ρ σ H W Kk Q r w q => by
  have ok' := ok
  simp only [okE] at ok
  split at ok
  · rename_i ee et ei ifs scope pos
    obtain ⟨blk, oddI, rd⟩ := sel_any ha hcs g ok' r w q
    exact seOf (pe_lc g.calm g.nd piS blk gBk_ok tBk_ok eBk_ok (noFold oddI)) rd
  · cases ok) fun nm e ok => by
    simp only [okE] at ok
    split at ok
    · rfl
    · cases ok
/-! ### the keys of a dict, by their numbers -/
theorem valV_at {l ws : List Int} (e : l.length = ws.length) (nd : l.Nodup) {k : Nat} {x w : Int} (h1 : l[k]? = some x) (h2 : ws[k]? = some w) : valV ((l.map Sum.inl).zip (ws.map V.int) : List (Key × V)) (Sum.inl x) = some (V.int w) := by
  induction l generalizing ws k with
  | nil => cases h1
  | cons a r ih =>
    cases ws with
    | nil => cases e
    | cons b q =>
      obtain ⟨na, nd⟩ := List.nodup_cons.mp nd
      cases k with
      | zero => cases h1; cases h2; simp [valV]
      | succ k =>
        have m : x ∈ r := List.mem_of_getElem? h1
        have ne : a ≠ x := fun z => na (z ▸ m)
        have := ih (ws := q) (by simpa using e) nd (k := k) h1 h2
        unfold valV at this ⊢
        rw [List.map_cons, List.map_cons, List.zip_cons_cons, List.find?_cons_of_neg (by simpa using ne)]
        exact this
theorem dselL_snoc {ge : Bool} {n : Int} {l ws : List Int} {k : Nat} {x w : Int} (h1 : l[k]? = some x) (h2 : ws[k]? = some w) :
    dselL ge n (l.take (k + 1)) (ws.take (k + 1)) = dselL ge n (l.take k) (ws.take k) ++ (if (if ge = true then decide (n ≤ w) else decide (n < w)) = true then [x] else []) := by
  have t : ∀ {l : List Int} {x : Int}, l[k]? = some x → l.take (k + 1) = l.take k ++ [x] := fun h => by rw [List.take_succ, h]; rfl
  have lk : k < l.length := (List.getElem?_eq_some_iff.mp h1).1
  have wk : k < ws.length := (List.getElem?_eq_some_iff.mp h2).1
  rw [t h1, t h2]
  unfold dselL
  rw [List.zip_append (by rw [List.length_take, List.length_take]; omega), List.filter_append, List.map_append]
  congr 1
  rw [List.zip_cons_cons, List.zip_nil_left]
  rw [List.filter_cons]
  dsimp only
  generalize (if ge = true then decide (n ≤ w) else decide (n < w)) = b
  cases b <;> rfl
theorem dsel_any {own : List Nat} {i v : Nat} {ge : Bool} {n : Int} {X : Cx} {nm : Nm} {fnB : Str → Bool} (g : Good X t nm fnB Γ) {ee et ei : Expr} {ifs : List Expr} {scope : Scope} {pos : Pos}
    (ok : okE t nm (.dsel own i v ge n) (.ListComp ee [⟨et, ei, ifs, 0⟩] scope pos) = true) {m : Md} {H0 : Base} {Z : List (Nat × Addr)} {ρ : Pl} {σ : L2.St} {H : Hp} {W : Nat → List Addr} {Kk : KE} {Q : VK}
    (r : RL X.K H0 Z ρ σ H W) (w : wpE Γ m (.dsel own i v ge n) ρ Kk) (q : ∀ d l ρ' v H' A, Kk d l ρ' → Out X.K Z m ρ H W d l ρ' v H' A → Q v H') :
    BlkOk X.N X.env.scope scope (ownP t own) ∧ odd ei = false ∧ tLockE (tLc (SI X et ei) (gBk X scope et) (tBk X scope ifs) (eBk X scope ee) ((ownP t own).map (·.2))) σ H Q := by
  simp only [okE] at ok
  split at ok
  case h_2 => cases ok
  rename_i ee' et' ei' ec ek p1 o j kk p2 p3 sc' pos' heq
  cases heq
  simp only [Bool.and_eq_true, decide_eq_true_eq] at ok
  obtain ⟨⟨⟨⟨⟨⟨⟨⟨⟨oi, oblk⟩, otg⟩, oc⟩, ok1⟩, oo⟩, oj⟩, oe⟩, osl⟩, onv⟩ := ok
  subst oo
  have oj := oj.symm
  subst oj
  have iown : i ∈ own := by simpa using osl
  have nown : v ∉ own := by simpa using onv
  have hks : scope.kind = .function := (blkOk_by oblk).kind
  have blk : BlkOk X.N X.env.scope scope (ownP t own) := by
    have b := blkOk_by oblk
    rw [g.N]
    exact ⟨b.kind, b.uniq, b.ix, fun y hy e => by have := b.free y hy e; rw [g.nm]; exact this, b.own⟩
  obtain ⟨y, p, rfl, h1, h2, h3, h4⟩ := okV_inv oi
  refine ⟨blk, rfl, ?_⟩
  rw [ownP_snd]
  have gb := g.blk hks
  obtain ⟨vv, hv, a, l, ws, vs, A, rfl, ea, ll, nd, ls, frO, rs, w⟩ := Out.var (Q := fun v H => ∃ (a : Addr) (l ws : List Int) (vs : List V) (A : List Addr), v = .ref a ∧ H a = some (.dK ((l.map Sum.inl).zip vs)) ∧ l.length = ws.length ∧ l.Nodup ∧ l.length ≤ sizeLine ∧ (∀ j ∈ own, free ρ j) ∧ Reps X.K H vs (ws.map .int) A ∧ Kk (.lst ((dselL ge n l ws).map .int)) .deep ρ) r w fun d l ρ' v H' A k o => by
    obtain ⟨l, ws, rfl, ll, nd, ls, fr, k⟩ := k
    obtain ⟨a, vs, B, rfl, rfl, ea, hl, ra⟩ := o.rep.dic_inv
    exact ⟨a, l, ws, vs, B, rfl, ea, ll, nd, ls, fr, ra, k⟩
  have ev : vs = ws.map V.int := rs.ints.1
  subst ev
  refine ⟨a, _, ea, True.intro, fun od => ?_⟩
  generalize hu : HO.dK ((l.map Sum.inl).zip (ws.map V.int)) = u at *
  have eL : (upd H a (.frz od u)) a = some (.frz od u) := upd_same
  refine siOf (pi_keys (pe_var (by rw [g.N]; exact h1) (g.vis h2) h3 h4)) ?_
  refine ⟨_, hv, a, od, rfl, .inl ⟨_, by rw [eL, ← hu], ?_⟩⟩
  intro Dr hDr
  have Da : Dr ≠ a := fun z => by rw [z, eL] at hDr; cases hDr
  have hD0 : H Dr = none := by rw [upd_ne Da] at hDr; exact hDr
  let Pv : Nat → Hp → Prop := fun k Hk => Hk Dr = some (.lst ((dselL ge n (l.take k) (ws.take k)).map V.int)) ∧ ∀ b o, (upd H a (.frz od u)) b = some o → Hk b = some o
  have start : Pv 0 (upd (upd H a (.frz od u)) Dr (.lst [])) := ⟨by rw [upd_same]; rfl, fun b o e => by rw [upd_ne (ne_of_none e hDr)]; exact e⟩
  have lz : ((l.map Sum.inl : List Key).zip (ws.map V.int)).length = l.length := by rw [List.length_zip, List.length_map, List.length_map]; omega
  refine ⟨fun k mm Hk => mm = l.length - k ∧ k ≤ l.length ∧ Pv k Hk, ⟨l.length, by simp, Nat.zero_le _, start⟩, ?_⟩
  rintro k mm Hk ⟨rfl, hk, pD, pS⟩
  have eK : Hk a = some (.frz od u) := pS _ _ eL
  by_cases hlt : k < l.length
  · refine .inr ⟨⟨by rw [eK, ← hu], by rw [lz]; exact hlt⟩, Pv (k + 1), fun H' p' => ⟨l.length - (k + 1), by omega, rfl, hlt, p'⟩, fun x H' y => ?_⟩
    obtain ⟨eH, ky, vy, hky, rfl⟩ := y
    have eH := eH.symm
    subst eH
    obtain ⟨x0, hx0⟩ : ∃ x0, l[k]? = some x0 := ⟨_, List.getElem?_eq_getElem hlt⟩
    obtain ⟨w0, hw0⟩ : ∃ w0, ws[k]? = some w0 := ⟨_, List.getElem?_eq_getElem (show k < ws.length by omega)⟩
    obtain rfl : ky = Sum.inl x0 := by
      rw [List.getElem?_zip_eq_some] at hky
      have := hky.1
      rw [List.getElem?_map, hx0] at this
      cases this; rfl
    have sn := dselL_snoc (ge := ge) (n := n) hx0 hw0
    intro s H' C cl fp
    have otg1 : okT1 t (relN scope nm) (fun x => scope.names.lookup x == some .cell) i et = true := otg
    refine sgOf (pg_one (gb s H' C cl fp) otg1) ⟨(wipe_set iown).trans (wipe_wipe _ _), ?_⟩
    intro s H' C cl fp
    have gb' := gb s H' C cl fp
    obtain ⟨yc, pc, rfl, c1, c2, c3, c4⟩ := okV_inv oc
    obtain ⟨yk, pk, rfl, k1, k2, k3, k4⟩ := okV_inv ok1
    have il : i < (wipe σ own).length := by rw [wipe_length, ← r.len]; exact free_lt (frO i iown)
    have hi' : ((wipe σ own).set i (some (V.int x0)))[i]? = some (some (V.int x0)) := by rw [List.getElem?_set_self il]
    have hv' : ((wipe σ own).set i (some (V.int x0)))[v]? = some (some (V.ref a)) := by
      rw [List.getElem?_set_ne (fun z : i = v => nown (z ▸ iown)), wipe_out nown]
      exact hv
    have dg : DGet Hk a (kV (Sum.inl x0)) (some (V.int w0)) := by
      rw [← valV_at ll nd hx0 hw0]
      exact .inl ⟨_, _, .inr ⟨od, by rw [eK, ← hu]⟩, rfl, rfl⟩
    have fin : ∀ (b : Bool) (H3 : Hp), b = (if ge = true then decide (n ≤ w0) else decide (n < w0)) → Same Hk H3 → if b = true then eBk X scope ee ((wipe σ own).set i (some (V.int x0))) H3 fun y H4 => ∃ acc, H4 Dr = some (.lst acc) ∧ acc.length < sizeLine ∧ Pv (k + 1) (upd H4 Dr (.lst (acc ++ [y]))) else Pv (k + 1) H3 := fun b H3 hb s3 => by
      rw [← hb] at sn
      cases b with
      | false =>
        rw [if_neg (by decide)]
        rw [if_neg (by decide), List.append_nil] at sn
        exact ⟨by rw [sn]; exact s3 _ _ pD, fun b o e => s3 _ _ (pS b o e)⟩
      | true =>
        rw [if_pos rfl]
        rw [if_pos rfl] at sn
        intro s H' C cl fp
        obtain ⟨y, p, rfl, e1, e2, e3, e4⟩ := okV_inv oe
        have gb' := gb s H' C cl fp
        have le : (dselL ge n (l.take k) (ws.take k)).length ≤ k := by
          unfold dselL
          rw [List.length_map]
          refine Nat.le_trans (List.length_filter_le _ _) ?_
          rw [List.length_zip, List.length_take]
          omega
        refine seOf (pe_var (by rw [gb'.N]; exact e1) (gb'.vis e2) e3 e4) ⟨.int x0, hi', _, s3 _ _ pD, by rw [List.length_map]; omega, ?_, fun b o e => ?_⟩
        · rw [upd_same, sn, List.map_append]; rfl
        · rw [upd_ne (ne_of_none e hDr)]
          exact s3 _ _ (pS b o e)
    have room : X.A.units + 1 < cLine ∧ X.A.units + 65 < cLine := by have := g.room.un; omega
    cases ge with
    | true =>
      refine stsOf (pts_one (pt_cmpR (op_cmpD (by have := gb'.room.un; omega) .ge) (pe_ix (ix_all (by have := gb'.room.un; omega)) (pe_var (by rw [gb'.N]; exact c1) (gb'.vis c2) c3 c4) (pe_var (by rw [gb'.N]; exact k1) (gb'.vis k2) k3 k4) (plainIx rfl)) pe_int (noBehind rfl))) ?_
      refine ⟨_, hv', _, hi', .inr ⟨a, _, rfl, dg, ?_⟩⟩
      refine ⟨.int w0, .int n, [], [], (fun z => z = decide (n ≤ w0)), .int _, .int _, rfl, fun z kz => ?_⟩
      exact ⟨z, rfl, fin z Hk kz Same.refl⟩
    | false =>
      refine stsOf (pts_one (pt_cmpR (op_cmpD (by have := gb'.room.un; omega) .gt) (pe_ix (ix_all (by have := gb'.room.un; omega)) (pe_var (by rw [gb'.N]; exact c1) (gb'.vis c2) c3 c4) (pe_var (by rw [gb'.N]; exact k1) (gb'.vis k2) k3 k4) (plainIx rfl)) pe_int (noBehind rfl))) ?_
      refine ⟨_, hv', _, hi', .inr ⟨a, _, rfl, dg, ?_⟩⟩
      refine ⟨.int w0, .int n, [], [], (fun z => z = decide (n < w0)), .int _, .int _, rfl, fun z kz => ?_⟩
      exact ⟨z, rfl, fin z Hk kz Same.refl⟩
  · have e : k = l.length := by omega
    subst e
    refine .inl ⟨⟨by rw [eK, ← hu], by rw [lz]; exact Nat.le_refl _⟩, eK, ?_⟩
    have tw : ws.take l.length = ws := List.take_of_length_le (by omega)
    rw [List.take_length, tw] at pD
    have sm : Same H (upd Hk a u) := fun b o e => by
      by_cases z : b = a
      · subst z; rw [upd_same]; rw [ea] at e; exact e
      · rw [upd_ne z]; exact pS _ _ (by rw [upd_ne z]; exact e)
    refine q _ _ _ _ _ _ w (.fresh r sm (.lst (by rw [upd_ne Da]; exact pD) (reps_ints _)) (List.pairwise_singleton _ _) fun b hb => ?_)
    simp only [List.mem_cons, List.not_mem_nil, or_false] at hb
    subst hb; exact hD0
theorem snd_dsel {own : List Nat} {i v : Nat} {ge : Bool} {n : Int} : Snd t Γ (.dsel own i v ge n) := mkSnd (fun X nm fnB g e ok m H0 Z ρ σ H W Kk Q r w q => by
  have ok' := ok
  simp only [okE] at ok
  split at ok
  · obtain ⟨blk, oddI, rd⟩ := dsel_any g ok' r w q
    exact seOf (pe_lock (pe_lc g.calm g.nd piS blk gBk_ok tBk_ok eBk_ok (noFold oddI))) rd
  · cases ok) fun nm e ok => by
    simp only [okE] at ok
    split at ok
    · rfl
    · cases ok
end
end R

namespace R
open PySem PySem.Spec PyProof.Rows L2

/-! ### statements: the check -/
def swB (nm : Nm) (y : Str) (py pos : Pos) (scope : Scope) : Bool := (nm.lookup y == some .local) && (py.line == pos.line) && !(scope.names.any fun (n, k) => n == y && (k == .local || k == .cell))
def isLc : Expr → Bool | .ListComp .. => true | .SetComp .. => true | .DictComp .. => true | _ => false
def badT (nm : Nm) : Expr → Bool | .Name x _ => !(nm.lookup x == some .local) | _ => true
def notTup (nm : Nm) (es : List Expr) : Expr → Bool | .Tuple .. => !(es.length == 2 || es.length == 3) || es.any (badT nm) | _ => true
mutual
def okS (t : Tab) (nm : Nm) : Cm → Stmt → Bool
  | .set i c, st => match st with | .Assign [.Name y py] e _ => okT1 t nm (fun _ => true) i (.Name y py) && okE t nm c e | _ => false
  | .unp is c, st => match st with
    | .Assign [.Tuple es _ _] e _ => okTgs t nm (fun _ => true) is es && okE t nm c e && !(isLc e) && notTup nm es e
    | _ => false
  | .par i j a b, st => match st with
    | .Assign [.Tuple [.Name x px, .Name y py] _ _] (.Tuple [ea, eb] _ _) _ => decide (t.N[i]? = some x) && decide (t.N[j]? = some y) && (nm.lookup x == some .local) && (nm.lookup y == some .local) && (px.line == py.line) && !(x == y) &&
        !(foldedForSure 8 ea && foldedForSure 8 eb) && !(constantsAlone 8 ea && constantsAlone 8 eb) && okE t nm a ea && okE t nm b eb
    | _ => false
  | .par3 i j l a b c, st => match st with
    | .Assign [.Tuple [.Name x px, .Name y py, .Name z pz] _ _] (.Tuple [ea, eb, ec] _ _) _ => decide (t.N[i]? = some x) && decide (t.N[j]? = some y) && decide (t.N[l]? = some z) && (nm.lookup x == some .local) && (nm.lookup y == some .local) && (nm.lookup z == some .local) && (px.line == py.line) && (px.line == pz.line) && !(x == y) && !(x == z) && !(y == z) &&
        !(foldedForSure 8 ea && (foldedForSure 8 eb && foldedForSure 8 ec)) && !(constantsAlone 8 ea && (constantsAlone 8 eb && constantsAlone 8 ec)) && okE t nm a ea && okE t nm b eb && okE t nm c ec
    | _ => false
  | .aug _ _ _, _ => false
  | .put i k c, st => match st with | .Assign [.Subscript ex ek _] e _ => okV t nm i ex && okE t nm k ek && okE t nm c e && !(isLc e) | _ => false
  | .app i c, st => match st with | .Expr (.Call (.Attribute ex m ap) [e] [] cp) _ => okV t nm i ex && (m == ("append" : Str)) && okE t nm c e && (ap.endLine == cp.line) | _ => false
  | .app1 i k c, st => match st with | .Expr (.Call (.Attribute (.Subscript ex ek _) m ap) [e] [] cp) _ => okV t nm i ex && okE t nm k ek && (m == ("append" : Str)) && okE t nm c e && (ap.endLine == cp.line) | _ => false
  | .app2 i n n2 c, st => match st with | .Expr (.Call (.Attribute (.Subscript (.Subscript ex (.Constant (.int k) _ _) _) (.Constant (.int k2) _ _) _) m ap) [e] [] cp) _ => okV t nm i ex && (n == k) && (n2 == k2) && (m == ("append" : Str)) && okE t nm c e && (ap.endLine == cp.line) | _ => false
  | .pop i, st => match st with | .Expr (.Call (.Attribute ex m ap) [] [] cp) _ => okV t nm i ex && (m == ("pop" : Str)) && (ap.endLine == cp.line) | _ => false
  | .popS x i, st => match st with | .Assign [ey] (.Call (.Attribute ex m ap) [] [] cp) _ => okT1 t nm (fun _ => true) x ey && okV t nm i ex && (m == ("pop" : Str)) && (ap.endLine == cp.line) | _ => false
  | .ext i c, st => match st with | .Expr (.Call (.Attribute ex m ap) [e] [] cp) _ => okV t nm i ex && (m == ("extend" : Str)) && okE t nm c e && (ap.endLine == cp.line) | _ => false
  | .ex c, st => match st with | .Expr e _ => okE t nm c e && !(isLc e) | _ => false
  | .iff c a b, st => match st with | .If e sa sb _ => noIte c && okE t nm c e && okSs t nm a sa && okSs t nm b sb | _ => false
  | .whl c b, st => match st with | .While e sb [] _ => noIte c && okE t nm c e && okSs t nm b sb | _ => false
  | .forr tg it b, st => match st with | .For et ei sb [] _ => okTg t nm (fun _ => true) tg et && okI t nm it ei && okSs t nm b sb | _ => false
  | .ret c, st => match st with | .Return (some e) _ => okE t nm c e | _ => false
  | .retN, st => match st with | .Return none _ => true | _ => false
  | .brk, st => match st with | .Break _ => true | _ => false
  | .cont, st => match st with | .Continue _ => true | _ => false
  | .pas, st => match st with | .Pass _ => true | _ => false
  | .fgt _, _ => false
def okSs (t : Tab) (nm : Nm) : Cms → List Stmt → Bool
  | .nil, l => l.isEmpty
  | .cons c cs, l => match c with
    | .fgt _ => okSs t nm cs l
    | _ => match l with | s :: r => okS t nm c s && okSs t nm cs r | [] => false
end

/-! ### the ends -/
structure EndOk (K : PySem.W.Frag) (H0 : Base) (Z : List (Nat × Addr)) (E : EndsD) (D : Ends) : Prop where
  nx : ∀ ρ σ H W, RL K H0 Z ρ σ H W → E.nx ρ → D.nx σ H
  bk : ∀ ρ σ H W, RL K H0 Z ρ σ H W → E.bk ρ → D.bk σ H
  ct : ∀ ρ σ H W, RL K H0 Z ρ σ H W → E.ct ρ → D.ct σ H
  rt : ∀ d l v H A, E.rt d l → Rep K H v d A → Same H0 H → ((lvC l d).own A).Nodup → (∀ a ∈ (lvC l d).own A, H0 a = none) → (∀ a ∈ A, H0.u a) → D.rt v H
section
variable (t : Tab) (Γ : List SpD)
def SndS (c : Cm) : Prop := ∀ (X : Cx) (nm : Nm), Good X t nm (fun _ => true) Γ → ∀ (st : Stmt), okS t nm c st = true → ∀ (H0 : Base) (Z : List (Nat × Addr)) (ρ : Pl) (σ : L2.St) (H : Hp) (W : Nat → List Addr) (E : EndsD) (D : Ends),
  RL X.K H0 Z ρ σ H W → wpS Γ c ρ E → EndOk X.K H0 Z E D → SS X st D σ H
def SndSs (c : Cms) : Prop := ∀ (X : Cx) (nm : Nm), Good X t nm (fun _ => true) Γ → ∀ (st : List Stmt), okSs t nm c st = true → ∀ (H0 : Base) (Z : List (Nat × Addr)) (ρ : Pl) (σ : L2.St) (H : Hp) (W : Nat → List Addr) (E : EndsD) (D : Ends),
  RL X.K H0 Z ρ σ H W → wpSs Γ c ρ E → EndOk X.K H0 Z E D → SSs X st D σ H
end
section
variable {t : Tab} {Γ : List SpD}
theorem snss_nil : SndSs t Γ .nil := fun X nm g st ok H0 Z ρ σ H W E D r w eo => by
  simp only [okSs, List.isEmpty_iff] at ok
  subst ok
  exact sssOf pss_nil (eo.nx _ _ _ _ r w)
theorem snss_fgt {is : List Nat} {cs : Cms} (hs : SndSs t Γ cs) : SndSs t Γ (.cons (.fgt is) cs) := fun X nm g st ok H0 Z ρ σ H W E D r w eo => by
  have ok : okSs t nm cs st = true := by simpa only [okSs] using ok
  have w : (∀ i ∈ is, (ρ.pt i).nl) ∧ wpSs Γ cs (wipeD ρ is) E := w
  refine hs X nm g st ok H0 Z _ σ H W E D (r.dem ⟨wipeD_len _ _, fun i => ?_⟩) w.2 eo
  rw [wipeD_pt]
  split
  · rename_i h
    refine .un _ fun d z => ?_
    have := w.1 i h
    rw [z] at this
    exact this
  · exact .refl _
theorem snss_cons {c : Cm} {cs : Cms} (hc : SndS t Γ c) (hs : SndSs t Γ cs) : SndSs t Γ (.cons c cs) := by
  by_cases hf : ∃ is, c = .fgt is
  · obtain ⟨is, rfl⟩ := hf
    exact snss_fgt hs
  · intro X nm g st ok H0 Z ρ σ H W E D r w eo
    cases st with
    | nil => exfalso; revert ok; cases c <;> first | exact absurd ⟨_, rfl⟩ hf | (simp [okSs])
    | cons s ss =>
      have ok : okS t nm c s = true ∧ okSs t nm cs ss = true := by
        revert ok; cases c <;> first | exact absurd ⟨_, rfl⟩ hf | (simp only [okSs, Bool.and_eq_true]; exact id)
      refine sssOf (pss_cons psS pssS) ?_
      refine hc X nm g s ok.1 H0 Z ρ σ H W _ _ r w ⟨fun ρ' σ' H' W' r' w' => ?_, eo.bk, eo.ct, eo.rt⟩
      exact hs X nm g ss ok.2 H0 Z ρ' σ' H' W' E D r' w' eo
theorem sw_pure {e : Expr} {tg : Option Expr} {l : Nat} {env : PySem.Env} (h : isLc e = false) : swapsWith e tg l env = pure false := by
  cases e <;> first | rfl | (simp [isLc] at h)
theorem okE_lc {nm : Nm} {c : Ex} {e : Expr} (ok : okE t nm c e = true) (h : isLc e = true) : (∃ own elt tg it cs ee et ei ifs scope pos, c = .lc own elt tg it cs ∧ e = .ListComp ee [⟨et, ei, ifs, 0⟩] scope pos) ∨
    (∃ own own1 elt tg it cs tg1 it1 cs1 ee et ei ifs et1 ei1 ifs1 scope pos, c = .lc2 own own1 elt tg it cs tg1 it1 cs1 ∧ e = .ListComp ee [⟨et, ei, ifs, 0⟩, ⟨et1, ei1, ifs1, 0⟩] scope pos) ∨
    (∃ own i a cs ee et ei ifs scope pos, c = .sel own i a cs ∧ e = .ListComp ee [⟨et, ei, ifs, 0⟩] scope pos) ∨
    ∃ own i v ge n ee et ei ifs scope pos, c = .dsel own i v ge n ∧ e = .ListComp ee [⟨et, ei, ifs, 0⟩] scope pos := by
  cases e <;> first | (cases h; done) | skip
  all_goals cases c <;> first | (simp [okE, okV] at ok; done) | (rename_i f _; cases f <;> simp [okE] at ok; done) | skip
  · simp only [okE] at ok
    split at ok
    · rename_i e1 e2
      cases e2
      exact .inl ⟨_, _, _, _, _, _, _, _, _, _, _, rfl, rfl⟩
    · cases ok
  · simp only [okE] at ok
    split at ok
    · rename_i e1 e2
      cases e2
      exact .inr (.inr (.inl ⟨_, _, _, _, _, _, _, _, _, _, rfl, rfl⟩))
    · cases ok
  · simp only [okE] at ok
    split at ok
    · rename_i e1 e2
      cases e2
      exact .inr (.inr (.inr ⟨_, _, _, _, _, _, _, _, _, _, _, rfl, rfl⟩))
    · cases ok
  · simp only [okE] at ok
    split at ok
    · rename_i e1 e2
      cases e2
      exact .inr (.inl ⟨_, _, _, _, _, _, _, _, _, _, _, _, _, _, _, _, _, _, rfl, rfl⟩)
    · cases ok
theorem sns_set {i : Nat} {c : Ex} (hc : Snd t Γ c) (hl : ∀ own elt tg it cs, c = .lc own elt tg it cs → Snd t Γ elt ∧ SndI t Γ it ∧ SndCs t Γ cs)
    (hl2 : ∀ own own1 elt tg it cs tg1 it1 cs1, c = .lc2 own own1 elt tg it cs tg1 it1 cs1 → Snd t Γ elt ∧ SndI t Γ it ∧ SndCs t Γ cs ∧ SndI t Γ it1 ∧ SndCs t Γ cs1) (hsl : ∀ own i a cs, c = .sel own i a cs → Snd t Γ a ∧ SndCs t Γ cs) : SndS t Γ (.set i c) := fun X nm g st ok H0 Z ρ σ H W E D r w eo => by
  simp only [okS] at ok
  split at ok
  · rename_i y py e pos
    simp only [Bool.and_eq_true] at ok
    obtain ⟨o1, o2⟩ := ok
    obtain ⟨x, p, e1, h1, h2⟩ := okT1_inv o1
    cases e1
    have hN : X.N[i]? = some y := by rw [g.N]; exact h1
    have hLoc : L2.Loc X.env.scope y := by
      unfold L2.Loc; rw [g.nm]; rcases h2 with z | z
      · exact .inl z
      · exact .inr z.1
    have hfn : X.fn y = true ∨ X.env.scope.names.lookup y = some .local := .inl (g.fn y rfl)
    have fin : ∀ d l ρ' v H' A, (free ρ' i ∧ E.nx (ρ'.set i (mkCell d l))) → Out X.K Z .own ρ H W d l ρ' v H' A → gName i v σ H' D.nx := fun d l ρ' v H' A k o =>
      eo.nx _ _ _ _ (r.store o k.1) k.2
    by_cases hlc : isLc e = true
    · rcases okE_lc o2 hlc with ⟨own, elt, tg, it, cs, ee, et, ei, ifs, scope, lpos, rfl, rfl⟩ | ⟨own, own1, elt, tg, it, cs, tg1, it1, cs1, ee, et, ei, ifs, et1, ei1, ifs1, scope, lpos, rfl, rfl⟩ | ⟨own, j, a, cs, ee, et, ei, ifs, scope, lpos, rfl, rfl⟩ | ⟨own, j, v, ge, n, ee, et, ei, ifs, scope, lpos, rfl, rfl⟩
      rotate_left
      · obtain ⟨a1, a2, a3, a4, a5⟩ := hl2 _ _ _ _ _ _ _ _ _ rfl
        have w' : wpE Γ .own (.lc2 own own1 elt tg it cs tg1 it1 cs1) ρ fun d l ρ' => free ρ' i ∧ E.nx (ρ'.set i (mkCell d l)) := w
        obtain ⟨blk, oddI, oddI1, sb, rd⟩ := lc2_any a1 a2 a3 a4 a5 g o2 r w' fin
        by_cases hsw : swB nm y py lpos scope = true
        · unfold swB at hsw
          simp only [Bool.and_eq_true, beq_iff_eq, Bool.not_eq_true'] at hsw
          refine ssOf (ps_setLc2 g.calm g.nd hN (by rw [g.nm]; exact hsw.1.1) (sw_true g.kind (by rw [g.nm]; exact hsw.1.1) (by simp [hsw.1.2]) hsw.2) piS blk sb gBk_ok tBk_ok iBk_ok gBk_ok tBk_ok eBk_ok (noFold oddI) (fun _ => noFold oddI1)) rd
        · refine ssOf (ps_set (i := i) g.nd hN hLoc (pe_lc2 g.calm g.nd piS blk sb gBk_ok tBk_ok iBk_ok gBk_ok tBk_ok eBk_ok (noFold oddI) (fun _ => noFold oddI1)) ?_ hfn) rd
          have hb : X.env.blockKind = .function := by unfold Env.blockKind; rw [g.kind]; rfl
          have hk : X.env.kindOf y = nm.lookup y := by unfold Env.kindOf; rw [g.nm]
          unfold swapsWith
          simp only [hb, hk, Expr.pos]
          have e : ((ScopeKind.function == ScopeKind.function) && (nm.lookup y == some .local) && (py.line == lpos.line) && !(scope.names.any fun (n, k) => n == y && (k == .local || k == .cell))) = false := by
            unfold swB at hsw
            have e0 : (ScopeKind.function == ScopeKind.function) = true := by decide
            rw [e0, Bool.true_and]
            exact Bool.eq_false_iff.mpr hsw
          exact congrArg pure e
      · obtain ⟨a1, a2⟩ := hsl _ _ _ _ rfl
        have w' : wpE Γ .own (.sel own j a cs) ρ fun d l ρ' => free ρ' i ∧ E.nx (ρ'.set i (mkCell d l)) := w
        obtain ⟨blk, oddI, rd⟩ := sel_any a1 a2 g o2 r w' fin
        by_cases hsw : swB nm y py lpos scope = true
        · unfold swB at hsw
          simp only [Bool.and_eq_true, beq_iff_eq, Bool.not_eq_true'] at hsw
          refine ssOf (ps_setLc g.calm g.nd hN (by rw [g.nm]; exact hsw.1.1) (sw_true g.kind (by rw [g.nm]; exact hsw.1.1) (by simp [hsw.1.2]) hsw.2) piS blk gBk_ok tBk_ok eBk_ok (noFold oddI)) rd
        · refine ssOf (ps_set (i := i) g.nd hN hLoc (pe_lc g.calm g.nd piS blk gBk_ok tBk_ok eBk_ok (noFold oddI)) ?_ hfn) rd
          have hb : X.env.blockKind = .function := by unfold Env.blockKind; rw [g.kind]; rfl
          have hk : X.env.kindOf y = nm.lookup y := by unfold Env.kindOf; rw [g.nm]
          unfold swapsWith
          simp only [hb, hk, Expr.pos]
          have e : ((ScopeKind.function == ScopeKind.function) && (nm.lookup y == some .local) && (py.line == lpos.line) && !(scope.names.any fun (n, k) => n == y && (k == .local || k == .cell))) = false := by
            unfold swB at hsw
            have e0 : (ScopeKind.function == ScopeKind.function) = true := by decide
            rw [e0, Bool.true_and]
            exact Bool.eq_false_iff.mpr hsw
          exact congrArg pure e
      · have w' : wpE Γ .own (.dsel own j v ge n) ρ fun d l ρ' => free ρ' i ∧ E.nx (ρ'.set i (mkCell d l)) := w
        obtain ⟨blk, oddI, rd⟩ := dsel_any g o2 r w' fin
        by_cases hsw : swB nm y py lpos scope = true
        · unfold swB at hsw
          simp only [Bool.and_eq_true, beq_iff_eq, Bool.not_eq_true'] at hsw
          obtain ⟨d, u, e1, e2, rd⟩ := rd
          exact ssOf (ps_lock (ps_setLc g.calm g.nd hN (by rw [g.nm]; exact hsw.1.1) (sw_true g.kind (by rw [g.nm]; exact hsw.1.1) (by simp [hsw.1.2]) hsw.2) piS blk gBk_ok tBk_ok eBk_ok (noFold oddI))) ⟨d, u, e1, e2, fun od => rd od⟩
        · refine ssOf (ps_set (i := i) g.nd hN hLoc (pe_lock (pe_lc g.calm g.nd piS blk gBk_ok tBk_ok eBk_ok (noFold oddI))) ?_ hfn) rd
          have hb : X.env.blockKind = .function := by unfold Env.blockKind; rw [g.kind]; rfl
          have hk : X.env.kindOf y = nm.lookup y := by unfold Env.kindOf; rw [g.nm]
          unfold swapsWith
          simp only [hb, hk, Expr.pos]
          have e : ((ScopeKind.function == ScopeKind.function) && (nm.lookup y == some .local) && (py.line == lpos.line) && !(scope.names.any fun (n, k) => n == y && (k == .local || k == .cell))) = false := by
            unfold swB at hsw
            have e0 : (ScopeKind.function == ScopeKind.function) = true := by decide
            rw [e0, Bool.true_and]
            exact Bool.eq_false_iff.mpr hsw
          exact congrArg pure e
      obtain ⟨a1, a2, a3⟩ := hl _ _ _ _ _ rfl
      have w' : wpE Γ .own (.lc own elt tg it cs) ρ fun d l ρ' => free ρ' i ∧ E.nx (ρ'.set i (mkCell d l)) := w
      obtain ⟨blk, oddI, rd⟩ := lc_any a1 a2 a3 g o2 r w' fin
      by_cases hsw : swB nm y py lpos scope = true
      · unfold swB at hsw
        simp only [Bool.and_eq_true, beq_iff_eq, Bool.not_eq_true'] at hsw
        refine ssOf (ps_setLc g.calm g.nd hN (by rw [g.nm]; exact hsw.1.1) (sw_true g.kind (by rw [g.nm]; exact hsw.1.1) (by simp [hsw.1.2]) hsw.2) piS blk gBk_ok tBk_ok eBk_ok (noFold oddI)) rd
      · refine ssOf (ps_set (i := i) g.nd hN hLoc (pe_lc g.calm g.nd piS blk gBk_ok tBk_ok eBk_ok (noFold oddI)) ?_ hfn) rd
        have hb : X.env.blockKind = .function := by unfold Env.blockKind; rw [g.kind]; rfl
        have hk : X.env.kindOf y = nm.lookup y := by unfold Env.kindOf; rw [g.nm]
        unfold swapsWith
        simp only [hb, hk, Expr.pos]
        have e : ((ScopeKind.function == ScopeKind.function) && (nm.lookup y == some .local) && (py.line == lpos.line) && !(scope.names.any fun (n, k) => n == y && (k == .local || k == .cell))) = false := by
          unfold swB at hsw
          have e0 : (ScopeKind.function == ScopeKind.function) = true := by decide
          rw [e0, Bool.true_and]
          exact Bool.eq_false_iff.mpr hsw
        exact congrArg pure e
    · refine ssOf (ps_set (i := i) g.nd hN hLoc peS (sw_pure (Bool.eq_false_iff.mpr hlc)) hfn) ?_
      exact hc.e X nm _ g e o2 .own H0 Z ρ σ H W _ _ r w fin
  · cases ok
theorem filterMap_lt {α β : Type} {f : α → Option β} : ∀ {l : List α}, (∃ x ∈ l, f x = none) → (l.filterMap f).length < l.length
  | [], h => by obtain ⟨x, h, _⟩ := h; cases h
  | x :: r, h => by
    have le : (r.filterMap f).length ≤ r.length := List.length_filterMap_le ..
    rw [List.filterMap_cons]
    cases hx : f x with
    | none => exact Nat.lt_succ_of_le le
    | some b =>
      obtain ⟨y, hy, e⟩ := h
      rcases List.mem_cons.mp hy with rfl | hy
      · rw [hx] at e; cases e
      · have := filterMap_lt (f := f) ⟨y, hy, e⟩
        show (r.filterMap f).length + 1 < r.length + 1
        omega
theorem swappedNone {nm : Nm} {es : List Expr} {k : Nat} {p : Pos} {e : Expr} {env : PySem.Env} (hn : ∀ x, env.kindOf x = nm.lookup x) (h : notTup nm es e = true) : swappedStores [.Tuple es k p] e env = pure none := by
  cases e with
  | Tuple vs k' p' =>
    unfold notTup at h
    rw [Bool.or_eq_true] at h
    rcases h with h | h
    · unfold swappedStores
      simp only [h, Bool.true_or, if_true]
    · obtain ⟨x, hx, hb⟩ := List.any_eq_true.mp h
      have lt : (es.filterMap fun
          | .Name id pos => if env.kindOf id == some .local && pos.line == (es.head?.map (·.pos.line)).getD 0 then some id else none
          | _ => none).length < es.length := by
        refine filterMap_lt ⟨x, hx, ?_⟩
        cases x <;> first
          | rfl
          | (rename_i id pos
             have hb : (!(nm.lookup id == some .local)) = true := hb
             rw [Bool.not_eq_true', ← hn] at hb
             simp only [hb, Bool.false_and, Bool.false_eq_true, if_false])
      unfold swappedStores
      simp only
      split
      · rfl
      · split
        · rfl
        · have ne : ((es.filterMap fun
          | .Name id pos => if env.kindOf id == some .local && pos.line == (es.head?.map (·.pos.line)).getD 0 then some id else none
          | _ => none).length != es.length) = true := bne_iff_ne.mpr (Nat.ne_of_lt lt)
          exact if_pos (by rw [Bool.or_eq_true]; exact Or.inl ne)
  | _ => rfl
theorem okTgs_free {nm : Nm} {es : List Expr} {is : List Nat} (h : okTgs t nm (fun _ => true) is es = true) : is.length = es.length := by
  induction is generalizing es with
  | nil => cases es <;> simp [okTgs] at h ⊢
  | cons i is ih =>
    cases es with
    | nil => simp [okTgs] at h
    | cons e es =>
      simp only [okTgs, Bool.and_eq_true] at h
      simp [ih h.2]
/-- several places from a tuple -/
theorem cells_ok {K : PySem.W.Frag} {H0 : Base} {H : Hp} {Z : List (Nat × Addr)} {D : Ends} {E : EndsD} (l : Lv) (eo : EndOk K H0 Z E D) : ∀ {is : List Nat} {ds : List R.D} {vs : List V} {A : List Addr} {ρ : Pl} {σ : L2.St} {W : Nat → List Addr}, RL K H0 Z ρ σ H W → Reps K H vs ds A → is.length = ds.length → is.Nodup → (∀ i ∈ is, free ρ i) →
    (isDeep l = true → A.Nodup ∧ ∀ a ∈ A, H0 a = none ∧ ∀ j, a ∉ (ρ.pt j).own (W j) ∧ a ∉ (ρ.pt j).shr (W j)) → (isDeep l = false → ∀ a ∈ A, a ∉ Z.map (·.2) ∧ ∀ j, a ∉ (ρ.pt j).own (W j)) → (∀ a ∈ A, H0.u a) →
    E.nx (cells l is ds ρ) → gSeq is vs σ H D.nx
  | [], [], _, _, ρ, σ, W, r, .nil, _, _, _, _, _, _, k => ⟨rfl, eo.nx _ _ _ _ r k⟩
  | i :: is, d :: ds, _, _, ρ, σ, W, r, .cons (v := v) (vs := vs) (A := B) (B := C) r1 rs, hl, nd, fr, h1, h2, hu, k => by
    refine ⟨v, vs, rfl, ?_⟩
    show gSeq is vs (σ.set i (some v)) H D.nx
    have fi := fr i (List.mem_cons_self ..)
    have ndc := List.nodup_cons.mp nd
    have frs : ∀ (c : Cell), ∀ j ∈ is, free (ρ.set i c) j := fun c j hj => by
      have f := fr j (List.mem_cons_of_mem _ hj)
      have ne : i ≠ j := fun z => ndc.1 (z ▸ hj)
      unfold free
      rw [List.length_set, pt_set_ne ne]
      exact f
    cases im : d.imm with
    | true =>
      have e := r1.imm im
      subst e
      have em : mkCell d (kdLv l) = .fz d := by unfold mkCell; rw [if_pos im]
      have k : E.nx (cells l is ds (ρ.set i (mkCell d (kdLv l)))) := k
      rw [em] at k
      have r' := r.fz fi r1 (fun a h => absurd h List.not_mem_nil) fun a h => absurd h List.not_mem_nil
      have at' : ∀ j a, (a ∈ ((ρ.set i (.fz d)).pt j).own (upW W i [] j) → a ∈ (ρ.pt j).own (W j)) ∧ (a ∈ ((ρ.set i (.fz d)).pt j).shr (upW W i [] j) → a ∈ (ρ.pt j).shr (W j)) := fun j a => by
        by_cases e : j = i
        · subst e
          rw [pt_set_self (free_lt fi), upW_self]
          exact ⟨fun z => absurd z List.not_mem_nil, fun z => absurd z List.not_mem_nil⟩
        · rw [pt_set_ne (fun z => e z.symm), upW_ne e]; exact ⟨id, id⟩
      refine cells_ok l eo r' rs (by simpa using hl) ndc.2 (frs _) (fun hd => ?_) (fun hd a ha => ?_) hu k
      · obtain ⟨n, p⟩ := h1 hd
        exact ⟨n, fun a ha => ⟨(p a ha).1, fun j => ⟨fun z => ((p a ha).2 j).1 ((at' j a).1 z), fun z => ((p a ha).2 j).2 ((at' j a).2 z)⟩⟩⟩
      · exact ⟨(h2 hd a ha).1, fun j z => (h2 hd a ha).2 j ((at' j a).1 z)⟩
    | false =>
      have ne : ¬ d.imm = true := by rw [im]; exact Bool.false_ne_true
      have k : E.nx (cells l is ds (ρ.set i (mkCell d (kdLv l)))) := k
      cases hd : isDeep l with
      | true =>
        have el : l = .deep := by cases l <;> first | rfl | (cases hd)
        subst el
        have em : mkCell d (kdLv .deep) = .dp d := by unfold mkCell; rw [if_neg ne]; rfl
        rw [em] at k
        obtain ⟨n, p⟩ := h1 rfl
        have na := List.nodup_append.mp n
        have r' : RL K H0 Z (ρ.set i (.dp d)) (σ.set i (some v)) H (upW W i B) := r.put fi (fun d z => by cases z) (fun _ => r1) na.1 (fun a ha => ⟨(p a (List.mem_append_left _ ha)).1, fun j _ => (p a (List.mem_append_left _ ha)).2 j⟩) (fun a ha => absurd ha List.not_mem_nil) fun a ha => absurd ha List.not_mem_nil
        refine cells_ok .deep eo r' rs (by simpa using hl) ndc.2 (frs _) (fun _ => ⟨na.2.1, fun a ha => ⟨(p a (List.mem_append_right _ ha)).1, fun j => ?_⟩⟩) (fun z => by cases z) (fun a ha => hu a (List.mem_append_right _ ha)) k
        by_cases e : j = i
        · subst e
          rw [pt_set_self (free_lt fi), upW_self]
          exact ⟨fun z => na.2.2 a z a ha rfl, List.not_mem_nil⟩
        · rw [pt_set_ne (fun z => e z.symm), upW_ne e]
          exact (p a (List.mem_append_right _ ha)).2 j
      | false =>
        have em : mkCell d (kdLv l) = .fz d := by unfold mkCell; rw [if_neg ne]; cases l <;> first | rfl | (cases hd)
        rw [em] at k
        have p := h2 hd
        have r' := r.fz fi r1 (fun a ha => p a (List.mem_append_left _ ha)) fun a ha => hu a (List.mem_append_left _ ha)
        refine cells_ok l eo r' rs (by simpa using hl) ndc.2 (frs _) (fun z => by rw [hd] at z; cases z) (fun _ a ha => ⟨(p a (List.mem_append_right _ ha)).1, fun j => ?_⟩) (fun a ha => hu a (List.mem_append_right _ ha)) k
        by_cases e : j = i
        · subst e
          rw [pt_set_self (free_lt fi)]
          exact List.not_mem_nil
        · rw [pt_set_ne (fun z => e z.symm), upW_ne e]
          exact (p a (List.mem_append_right _ ha)).2 j
  | [], _ :: _, _, _, _, _, _, _, _, hl, _, _, _, _, _, _ => by simp at hl
  | _ :: _, [], _, _, _, _, _, _, _, hl, _, _, _, _, _, _ => by simp at hl
theorem sns_unp {is : List Nat} {c : Ex} (hc : Snd t Γ c) : SndS t Γ (.unp is c) := fun X nm g st ok H0 Z ρ σ H W E D r w eo => by
  simp only [okS] at ok
  split at ok
  · rename_i es k p e pos
    simp only [Bool.and_eq_true, Bool.not_eq_true'] at ok
    obtain ⟨⟨⟨o1, o2⟩, o3⟩, o4⟩ := ok
    obtain ⟨l1, l2⟩ := assignEach_len (t := t) (nm := nm) (fnB := fun _ => true) X.env o1
    have hs : swapsWithSole [.Tuple es k p] e pos.line X.env = pure false := by
      show swapsWith e (some (.Tuple es k p)) pos.line X.env = pure false
      exact sw_pure o3
    refine ssOf (ps_asg peS (pg_tup g.calm (pgs_many g o1) l1 l2) hs (swappedNone (nm := nm) (fun x => by unfold Env.kindOf; rw [g.nm]) o4)) ?_
    refine hc.e X nm _ g e o2 .own H0 Z ρ σ H W _ _ r w fun d l ρ' v H' A w1 o => ?_
    obtain ⟨fr, ds, rfl, hl, nd, w1⟩ := w1
    obtain ⟨a, vs, rfl, ea, ra⟩ := o.rep.tup_inv
    refine ⟨a, vs, rfl, SqT.of ea, by rw [ra.length, hl], ?_⟩
    have r' := (r.dem o.dem).mono o.same
    have cl := o.cl
    refine cells_ok l eo r' ra hl nd fr (fun hd => ?_) (fun hd a ha => ?_) (o.us r) w1
    · have el : l = .deep := by cases l <;> first | rfl | (cases hd)
      subst el
      refine ⟨cl.nd, fun a ha => ⟨?_, (cl.o a ha).2⟩⟩
      rcases (cl.o a ha).1 with z | ⟨j, z⟩
      · exact r.same.non z
      · exact r.new j a z
    · have : a ∈ pS .own l (.tup ds) A := by
        cases l with
        | froz => exact ha
        | deep => cases hd
        | top => exact ha
      exact ⟨(cl.s a this).2.1, (cl.s a this).2.2.2⟩
  · cases ok
theorem swappedTwo {x y : Str} {px py p p' : Pos} {k k' : Nat} {ea eb : Expr} {env : PySem.Env} (hb : env.blockKind = .function) (hx : env.kindOf x = some .local) (hy : env.kindOf y = some .local) (hl : (px.line == py.line) = true) (ne : (x == y) = false)
    (h1 : (foldedForSure 8 ea && foldedForSure 8 eb) = false) (h2 : (constantsAlone 8 ea && constantsAlone 8 eb) = false) (oa : odd ea = false) (ob : odd eb = false) :
    swappedStores [.Tuple [.Name x px, .Name y py] k p] (.Tuple [ea, eb] k' p') env = pure (some [x, y]) := by
  have hl' : py.line = px.line := (beq_iff_eq.mp hl).symm
  unfold swappedStores
  simp only [List.length_cons, List.length_nil, hb, List.any_cons, List.any_nil, List.all_cons, List.all_nil, Bool.or_false, Bool.and_true, h1, h2, List.filterMap_cons, List.filterMap_nil, hx, hy, List.head?_cons, Option.map_some, Option.getD_some, Expr.pos, hl']
  rw [if_neg (by decide)]
  rw [if_neg (by
    cases ea <;> first
      | (simp [odd] at oa; done)
      | (cases eb <;> first
          | (simp [odd] at ob; done)
          | exact Bool.false_ne_true))]
  simp [List.eraseDups, List.eraseDupsBy, List.eraseDupsBy.loop, ne]
  intro h
  exfalso
  apply h
  have e : (y == x) = false := by
    rw [beq_eq_false_iff_ne] at ne ⊢
    exact fun z => ne z.symm
  rw [e]; rfl
theorem swappedThree {x y z : Str} {px py pz p p' : Pos} {k k' : Nat} {ea eb ec : Expr} {env : PySem.Env} (hb : env.blockKind = .function) (hx : env.kindOf x = some .local) (hy : env.kindOf y = some .local) (hz : env.kindOf z = some .local) (hl : (px.line == py.line) = true) (hl2 : (px.line == pz.line) = true)
    (n1 : (x == y) = false) (n2 : (x == z) = false) (n3 : (y == z) = false) (h1 : (foldedForSure 8 ea && (foldedForSure 8 eb && foldedForSure 8 ec)) = false) (h2 : (constantsAlone 8 ea && (constantsAlone 8 eb && constantsAlone 8 ec)) = false) (oa : odd ea = false) (ob : odd eb = false) (oc : odd ec = false) :
    swappedStores [.Tuple [.Name x px, .Name y py, .Name z pz] k p] (.Tuple [ea, eb, ec] k' p') env = pure (some [x, y, z]) := by
  have hl' : py.line = px.line := (beq_iff_eq.mp hl).symm
  have hl2' : pz.line = px.line := (beq_iff_eq.mp hl2).symm
  have m1 : (y == x) = false := by rw [beq_eq_false_iff_ne] at n1 ⊢; exact fun q => n1 q.symm
  have m2 : (z == x) = false := by rw [beq_eq_false_iff_ne] at n2 ⊢; exact fun q => n2 q.symm
  have m3 : (z == y) = false := by rw [beq_eq_false_iff_ne] at n3 ⊢; exact fun q => n3 q.symm
  unfold swappedStores
  simp only [List.length_cons, List.length_nil, hb, List.any_cons, List.any_nil, List.all_cons, List.all_nil, Bool.or_false, Bool.and_true, h1, h2, List.filterMap_cons, List.filterMap_nil, hx, hy, hz, List.head?_cons, Option.map_some, Option.getD_some, hl', hl2', Expr.pos, beq_self_eq_true, if_true]
  rw [if_neg (by decide)]
  rw [if_neg (fun h => by
    simp only [Bool.or_eq_true] at h
    rcases h with h | h | h
    · cases ea <;> first | (simp [odd] at oa; done) | exact Bool.false_ne_true h
    · cases eb <;> first | (simp [odd] at ob; done) | exact Bool.false_ne_true h
    · cases ec <;> first | (simp [odd] at oc; done) | exact Bool.false_ne_true h)]
  simp [List.eraseDups, List.eraseDupsBy, List.eraseDupsBy.loop, m1, m2, m3, n1, n2, n3]
theorem sns_par3 {i j l : Nat} {a b c : Ex} (ha : Snd t Γ a) (hb : Snd t Γ b) (hc : Snd t Γ c) : SndS t Γ (.par3 i j l a b c) := fun X nm g st ok H0 Z ρ σ H W E D r w eo => by
  simp only [okS] at ok
  split at ok
  · rename_i x px y py z pz k p ea eb ec k' p' pos
    simp only [Bool.and_eq_true, decide_eq_true_eq, beq_iff_eq, Bool.not_eq_true'] at ok
    obtain ⟨⟨⟨⟨⟨⟨⟨⟨⟨⟨⟨⟨⟨⟨⟨o1, o2⟩, o3⟩, o4⟩, o5⟩, o6⟩, o7⟩, o8⟩, o9⟩, o10⟩, o11⟩, o12⟩, o13⟩, o14⟩, o15⟩, o16⟩ := ok
    have hbk : X.env.blockKind = .function := by unfold Env.blockKind; rw [g.kind]; rfl
    have kx : X.env.kindOf x = some .local := by unfold Env.kindOf; rw [g.nm]; exact o4
    have ky : X.env.kindOf y = some .local := by unfold Env.kindOf; rw [g.nm]; exact o5
    have kz : X.env.kindOf z = some .local := by unfold Env.kindOf; rw [g.nm]; exact o6
    have hw := swappedThree (px := px) (py := py) (pz := pz) (p := p) (p' := p') (k := k) (k' := k') hbk kx ky kz (by simp [o7]) (by simp [o8]) o9 o10 o11 o12 o13 (okE_odd a o14) (okE_odd b o15) (okE_odd c o16)
    have k1 : ∀ env, starEach [ea, eb, ec] env = (false, eval ea env) :: starEach [eb, ec] env := fun env => star1 (okE_odd a o14)
    have k2 : ∀ env, starEach [eb, ec] env = (false, eval eb env) :: starEach [ec] env := fun env => star1 (okE_odd b o15)
    have k3 : ∀ env, starEach [ec] env = (false, eval ec env) :: starEach [] env := fun env => star1 (okE_odd c o16)
    have w : wpE Γ .own a ρ fun x _ ρ1 => wpE Γ .own b ρ1 fun y _ ρ2 => wpE Γ .own c ρ2 fun z _ ρ3 => (free ρ3 i ∧ free ρ3 j ∧ free ρ3 l) ∧ E.nx (((ρ3.set i (.fz x)).set j (.fz y)).set l (.fz z)) := w
    have apart : ∀ {m n : Nat} {u v : Str}, t.N[m]? = some u → t.N[n]? = some v → (u == v) = false → m ≠ n := fun e1 e2 ne q => by
      subst q
      rw [e1] at e2
      cases e2
      simp at ne
    have ij := apart o1 o2 o9
    have il := apart o1 o3 o10
    have jl := apart o2 o3 o11
    refine ssOf (ps_par3 g.calm g.nd (by rw [g.N]; exact o1) (by rw [g.N]; exact o2) (by rw [g.N]; exact o3) ij il jl (by rw [g.nm]; exact o4) (by rw [g.nm]; exact o5) (by rw [g.nm]; exact o6) (pa_cons peS (pa_cons peS (pa_cons peS pa_nil (k3 _)) (k2 _)) (k1 _)) hw rfl) ?_
    refine ha.e X nm _ g ea o14 .own H0 Z ρ σ H W _ _ r w fun d1 l1 ρ1 v1 H1 A1 w1 oa => ?_
    have r1 := (r.dem oa.dem).mono oa.same
    refine hb.e X nm _ g eb o15 .own H0 Z ρ1 σ H1 W _ _ r1 w1 fun d2 l2 ρ2 v2 H2 A2 w2 ob => ?_
    have r2 := (r1.dem ob.dem).mono ob.same
    refine hc.e X nm _ g ec o16 .own H0 Z ρ2 σ H2 W _ _ r2 w2 fun d3 l3 ρ3 v3 H3 A3 w3 oc => ?_
    have r3 := (r2.dem oc.dem).mono oc.same
    obtain ⟨⟨f1, f2, f3⟩, w3⟩ := w3
    refine ⟨v1, v2, v3, rfl, ?_⟩
    -- what a value is made of belongs to no place
    have lone : ∀ {ρ ρ' : Pl} {H H' : Hp} {d : R.D} {l : Lv} {v : V} {A : List Addr}, RL X.K H0 Z ρ σ H W → Out X.K Z .own ρ H W d l ρ' v H' A → ∀ a ∈ A, a ∉ Z.map (·.2) ∧ ∀ m, a ∉ (ρ'.pt m).own (W m) := fun {ρ ρ' H H' d l v A} r o a h => by
      have mem : a ∈ pO .own l d A ∨ a ∈ pS .own l d A := by
        simp only [pO, pS]
        cases l <;> simp only [lvC, Cell.own, Cell.shr]
        · exact .inr h
        · split
          · rw [← List.take_append_drop 1 A] at h
            exact List.mem_append.mp h
          · exact .inr h
        · exact .inl h
      rcases mem with z | z
      · exact ⟨o.cl.oz r a z, fun m => ((o.cl.o a z).2 m).1⟩
      · exact ⟨(o.cl.s a z).2.1, fun m => (o.cl.s a z).2.2.2 m⟩
    have q1 := lone r oa
    have q2 := lone r1 ob
    have q3 := lone r2 oc
    have u1 := oa.us r
    have u2 := ob.us r1
    have u3 := oc.us r2
    have dem13 := ob.dem.trans oc.dem
    have keep : ∀ {ρ : Pl} {m n : Nat} {c : Cell}, m ≠ n → free ρ n → free (ρ.set m c) n := fun {ρ m n c} ne fr => by
      unfold free at fr ⊢
      rw [pt_set_ne (fun q => ne q), List.length_set]
      exact fr
    -- a place that is only looked at owns nothing
    have less : ∀ {ρ : Pl} {W : Nat → List Addr} {m : Nat} {d : R.D} {A : List Addr} {a : Addr}, (∀ n, a ∉ (ρ.pt n).own (W n)) → ∀ n, a ∉ ((ρ.set m (.fz d)).pt n).own (upW W m A n) := fun {ρ W m d A a} h n z => by
      by_cases e : n = m
      · subst e
        rw [pt_set] at z
        split at z
        · cases z
        · rename_i nl
          have : ρ.pt n = .un := by
            by_cases w : ρ.pt n = .un
            · exact w
            · exact absurd ⟨rfl, pt_lt w⟩ nl
          rw [this] at z
          cases z
      · rw [pt_set_ne (fun q => e q.symm), upW_ne e] at z
        exact h n z
    have s1 := r3.fz f1 ((oa.rep.same ob.same).same oc.same) (fun a h => ⟨(q1 a h).1, fun m z => (q1 a h).2 m ((dem13.dem m).own z)⟩) u1
    have s2 := s1.fz (keep ij f2) (ob.rep.same oc.same) (fun a h => ⟨(q2 a h).1, less fun m z => (q2 a h).2 m ((oc.dem.dem m).own z)⟩) u2
    have s3 := s2.fz (keep jl (keep il f3)) oc.rep (fun a h => ⟨(q3 a h).1, less (less (q3 a h).2)⟩) u3
    exact eo.nx _ _ _ _ s3 w3
  · cases ok
theorem sns_par {i j : Nat} {a b : Ex} (ha : Snd t Γ a) (hb : Snd t Γ b) : SndS t Γ (.par i j a b) := fun X nm g st ok H0 Z ρ σ H W E D r w eo => by
  simp only [okS] at ok
  split at ok
  · rename_i x px y py k p ea eb k' p' pos
    simp only [Bool.and_eq_true, decide_eq_true_eq, beq_iff_eq, Bool.not_eq_true'] at ok
    obtain ⟨⟨⟨⟨⟨⟨⟨⟨⟨o1, o2⟩, o3⟩, o4⟩, o5⟩, o6⟩, o7⟩, o8⟩, o9⟩, o10⟩ := ok
    have hbk : X.env.blockKind = .function := by unfold Env.blockKind; rw [g.kind]; rfl
    have kx : X.env.kindOf x = some .local := by unfold Env.kindOf; rw [g.nm]; exact o3
    have ky : X.env.kindOf y = some .local := by unfold Env.kindOf; rw [g.nm]; exact o4
    have hw := swappedTwo (px := px) (py := py) (p := p) (p' := p') (k := k) (k' := k') hbk kx ky (by simp [o5]) o6 o7 o8 (okE_odd a o9) (okE_odd b o10)
    have k1 : ∀ env, starEach [ea, eb] env = (false, eval ea env) :: starEach [eb] env := fun env => star1 (okE_odd a o9)
    have k2 : ∀ env, starEach [eb] env = (false, eval eb env) :: starEach [] env := fun env => star1 (okE_odd b o10)
    have w : wpE Γ .own a ρ fun x la ρ1 => wpE Γ .own b ρ1 fun y lb ρ2 => free ρ2 i ∧ free ρ2 j ∧ i ≠ j ∧ E.nx ((ρ2.set i (mkCell x la)).set j (mkCell y lb)) := w
    -- that the places are unlike is asked behind the values; it is read off the names
    have ij : i ≠ j := fun z => by
      subst z
      rw [o1] at o2
      cases o2
      simp at o6
    refine ssOf (ps_par g.calm g.nd (by rw [g.N]; exact o1) (by rw [g.N]; exact o2) ij (by rw [g.nm]; exact o3) (by rw [g.nm]; exact o4) (pa_cons peS (pa_cons peS pa_nil (k2 _)) (k1 _)) hw rfl) ?_
    refine ha.e X nm _ g ea o9 .own H0 Z ρ σ H W _ _ r w fun d la ρ1 v H1 A w1 oa => ?_
    have rA := (r.dem oa.dem).mono oa.same
    refine hb.e X nm _ g eb o10 .own H0 Z ρ1 σ H1 W _ _ rA w1 fun e lb ρ2 u H2 B w2 ob => ?_
    obtain ⟨f1, f2, _, w2⟩ := w2
    refine ⟨v, u, rfl, ?_⟩
    -- the first value, behind the second one's evaluation
    have oa' : Out X.K Z .own ρ H W d la ρ2 v H2 A := by
      refine ⟨oa.rep.same ob.same, oa.same.trans ob.same, oa.dem.trans ob.dem, oa.cl.nd, fun a h => ⟨(oa.cl.o a h).1, fun i => ⟨fun z => ((oa.cl.o a h).2 i).1 ((ob.dem.dem i).own z), fun z => ?_⟩⟩, fun a h => ?_⟩
      · rcases (ob.dem.dem i).shr z with q | q
        · exact ((oa.cl.o a h).2 i).1 q
        · exact ((oa.cl.o a h).2 i).2 q
      · obtain ⟨c1, c2, c3, c4⟩ := oa.cl.s a h
        exact ⟨c1, c2, c3, fun i z => c4 i ((ob.dem.dem i).own z)⟩
    have r1 := r.store oa' f1
    have at' : ∀ m, m ≠ i → (ρ2.set i (mkCell d la)).pt m = ρ2.pt m := fun m h => pt_set_ne (fun z => h z.symm)
    have f2' : free (ρ2.set i (mkCell d la)) j := by
      unfold free
      rw [List.length_set, at' j (fun z => ij z.symm)]
      exact f2
    have domA : ∀ a ∈ A, H1 a ≠ none := fun a h z => by obtain ⟨o, e, _⟩ := oa.rep.dom a h; rw [z] at e; cases e
    have memA : ∀ a ∈ A, a ∈ pO .own la d A ∨ a ∈ pS .own la d A := fun a h => by
      simp only [pO, pS]
      cases la <;> simp only [lvC, Cell.own, Cell.shr]
      · exact .inr h
      · split
        · rw [← List.take_append_drop 1 A] at h
          exact List.mem_append.mp h
        · exact .inr h
      · exact .inl h
    -- the second value beside the first one's place
    have sep : ∀ c, (c ∈ pO .own lb e B → c ∉ A) ∧ (c ∈ pS .own lb e B → c ∉ pO .own la d A) := fun c => by
      refine ⟨fun h z => ?_, fun h z => ?_⟩
      · rcases (ob.cl.o c h).1 with q | ⟨m, q⟩
        · exact domA c z q
        · rcases memA c z with y | y
          · exact ((oa.cl.o c y).2 m).1 q
          · exact (oa.cl.s c y).2.2.2 m q
      · rcases (ob.cl.s c h).2.2.1 with q | ⟨m, q | q⟩
        · exact domA c (pO_sub z) q
        · exact ((oa.cl.o c z).2 m).1 q
        · exact ((oa.cl.o c z).2 m).2 q
    have cellA : ∀ c, (c ∈ (mkCell d la).own A → c ∈ pO .own la d A) ∧ (c ∈ (mkCell d la).shr A → c ∈ A) := fun c => by
      refine ⟨fun h => ?_, fun h => (shr_W h).1⟩
      unfold mkCell at h
      split at h
      · cases h
      · cases la <;> exact h
    have fin : RL X.K H0 Z ((ρ2.set i (mkCell d la)).set j (mkCell e lb)) ((σ.set i (some v)).set j (some u)) H2 (upW (upW W i A) j B) := by
      cases im : e.imm with
      | true =>
        have em : mkCell e lb = .fz e := by unfold mkCell; rw [if_pos im]
        rw [em]
        have eB := ob.rep.imm im
        have rv := ob.rep
        subst eB
        exact r1.fz f2' rv (fun a h => absurd h List.not_mem_nil) fun a h => absurd h List.not_mem_nil
      | false =>
        have em : mkCell e lb = lvC lb e := by unfold mkCell; rw [if_neg (by rw [im]; exact Bool.false_ne_true)]; cases lb <;> rfl
        rw [em]
        refine r1.put f2' (fun d z => by cases lb <;> cases z) (fun _ => by rw [lvC_d]; exact ob.rep) ob.cl.nd (fun c h => ⟨?_, fun m hm => ?_⟩) (fun c h => ⟨(ob.cl.s c h).1, (ob.cl.s c h).2.1, fun m hm => ?_⟩) fun c h => rA.us (ob.cl.s c h).2.2.1
        · rcases (ob.cl.o c h).1 with z | ⟨m, z⟩
          · exact r.same.non (oa.same.non z)
          · exact r.new m c ((oa.dem.dem m).own z)
        · by_cases e1 : m = i
          · subst e1
            rw [pt_set_self (free_lt f1), upW_self]
            exact ⟨fun z => (sep c).1 h (pO_sub ((cellA c).1 z)), fun z => (sep c).1 h ((cellA c).2 z)⟩
          · rw [at' m e1, upW_ne e1]; exact (ob.cl.o c h).2 m
        · by_cases e1 : m = i
          · subst e1
            rw [pt_set_self (free_lt f1), upW_self]
            exact fun z => (sep c).2 h ((cellA c).1 z)
          · rw [at' m e1, upW_ne e1]; exact (ob.cl.s c h).2.2.2 m
    exact eo.nx _ _ _ _ fin w2
  · cases ok
end
end R

namespace R
open PySem PySem.Spec PyProof.Rows L2
section
variable {K : PySem.W.Frag} {H0 : Base} {H H' : Hp} {Z : List (Nat × Addr)} {ρ ρ' : Pl} {σ : L2.St} {W : Nat → List Addr}
/-- the list at a place of its own -/
theorem own_root {c : Cell} {ds : List D} {v : V} {A : List Addr} (h : c = .tp (.lst ds) ∨ c = .dp (.lst ds)) (rv : Rep K H v c.d A) : ∃ a vs B, v = .ref a ∧ A = a :: B ∧ H a = some (.lst vs) ∧ Reps K H vs ds B ∧ a ∈ c.own A := by
  have e : c.d = .lst ds := by rcases h with rfl | rfl <;> rfl
  rw [e] at rv
  obtain ⟨a, vs, B, rfl, rfl, ea, ra⟩ := rv.lst_inv
  refine ⟨a, vs, B, rfl, rfl, ea, ra, ?_⟩
  rcases h with rfl | rfl
  · simp [Cell.own, D.isM]
  · simp [Cell.own]
/-- an address of a place's own is met nowhere else -/
theorem RL.alone {i : Nat} {a : Addr} (r : RL K H0 Z ρ σ H W) (ow : a ∈ (ρ.pt i).own (W i)) : ∀ j, j ≠ i → (ρ.pt j).live = true → a ∉ W j := fun j hj hl z => by
  have h1 := r.dj i j a (fun z => hj z.symm) ow
  have h2 : a ∉ (ρ.pt j).shr (W j) := fun q => r.sh j i a q ow
  cases e : ρ.pt j with
  | un => rw [e] at hl; cases hl
  | fz d => rw [e] at h2; exact h2 z
  | dp d => rw [e] at h1; exact h1 z
  | tp d =>
    rw [e] at h1 h2
    simp only [Cell.own, Cell.shr] at h1 h2
    split at h1
    · rename_i q
      rw [if_pos q] at h2
      have e' : W j = (W j).take 1 ++ (W j).drop 1 := (List.take_append_drop 1 _).symm
      rw [e'] at z
      exact (List.mem_append.mp z).elim h1 h2
    · rename_i q
      rw [if_neg q] at h2
      exact h2 z
  | ln d =>
    rw [e] at h2
    simp only [Cell.shr] at h2
    cases q : d.isM with
    | false => rw [if_neg (by rw [q]; exact Bool.false_ne_true)] at h2; exact h2 z
    | true =>
      rw [if_pos q] at h2
      -- the lent list's own address
      obtain ⟨v, hv', rv⟩ := r.rep j hl
      rw [e] at rv
      have e' : W j = (W j).take 1 ++ (W j).drop 1 := (List.take_append_drop 1 _).symm
      rw [e'] at z
      rcases List.mem_append.mp z with z | z
      · obtain ⟨p, hp⟩ := r.zo j d e q
        obtain ⟨_, hs, _⟩ := r.zs _ hp
        have hs : σ[j]? = some (some (V.ref p)) := hs
        rw [hs] at hv'
        cases hv'
        have ep : (W j).take 1 = [p] := by
          have rv : Rep K H (.ref p) d (W j) := rv
          generalize W j = Wj at rv
          cases rv with
          | tup => simp [D.isM] at q
          | fro => simp [D.isM] at q
          | froK => simp [D.isM] at q
          | lst => rfl
          | set => rfl
          | dic => rfl
        rw [ep] at z
        obtain rfl := List.mem_singleton.mp z
        exact r.zown ow (List.mem_map.mpr ⟨_, hp, rfl⟩)
      · exact h2 z
theorem set_same_at {σ : L2.St} {i : Nat} {v : V} (hv : σ[i]? = some (some v)) : σ.set i (some v) = σ := by
  apply List.ext_getElem?
  intro j
  by_cases e : i = j
  · subst e
    have : i < σ.length := (List.getElem?_eq_some_iff.mp hv).1
    rw [List.getElem?_set_self this, hv]
  · rw [List.getElem?_set_ne e]
/-- an object of a place's own is rewritten: the place's value is another one -/
theorem RL.anew {i : Nat} {c c' : Cell} {p : Addr} {v : V} {o o' : HO} {A' : List Addr} (r : RL K H0 Z ρ σ H W) (hc : ρ.pt i = c) (nl : ∀ d, c ≠ .ln d) (nl' : ∀ d, c' ≠ .ln d) (hv : σ[i]? = some (some v)) (ow : p ∈ c.own (W i)) (ea : H p = some o) (mu : Mut o)
    (rd : Rep K (upd H p o') v c'.d A') (nd : (c'.own A').Nodup)
    (own : ∀ b ∈ c'.own A', H0 b = none ∧ ∀ j, j ≠ i → b ∉ (ρ.pt j).own (W j) ∧ b ∉ (ρ.pt j).shr (W j)) (s : ∀ b ∈ c'.shr A', b ∉ c'.own A' ∧ b ∉ Z.map (·.2) ∧ ∀ j, j ≠ i → b ∉ (ρ.pt j).own (W j)) (hu : ∀ b ∈ c'.shr A', H0.u b) :
    RL K H0 Z (ρ.set i c') σ (upd H p o') (upW W i A') := by
  have hl := (own_W ow).2
  have hi : i < ρ.length := pt_lt (by rw [hc]; intro z; subst z; cases hl)
  have ow' : p ∈ (ρ.pt i).own (W i) := by rw [hc]; exact ow
  have nW := r.alone ow'
  have r' : RL K H0 Z (ρ.set i .un) σ H W := r.dem (.set (.un _ (by rw [hc]; exact nl)))
  have h0 : H0 p = none := r.new i p ow'
  have r2 : RL K H0 Z (ρ.set i .un) σ (upd H p o') W := r'.updD (fun j hj => by
    by_cases e : j = i
    · subst e; rw [pt_set_self hi] at hj; cases hj
    · rw [pt_set_ne (fun z => e z.symm)] at hj
      exact nW j e hj) ea mu h0
  have at' : ∀ j, j ≠ i → (ρ.set i .un).pt j = ρ.pt j := fun j h => pt_set_ne (fun z => h z.symm)
  have fr' : free (ρ.set i .un) i := by
    unfold free
    rw [pt_set_self hi, List.length_set]
    exact hi
  have q := r2.put (i := i) (c := c') (v := v) (A := A') fr' nl' (fun _ => rd) nd (fun b hb => ?_) (fun b hb => ?_) hu
  · rw [List.set_set, set_same_at hv] at q
    exact q
  · obtain ⟨o1, o2⟩ := own b hb
    exact ⟨o1, fun j hj => by rw [at' j hj]; exact o2 j hj⟩
  · obtain ⟨s1, s2, s3⟩ := s b hb
    exact ⟨s1, s2, fun j hj => by rw [at' j hj]; exact s3 j hj⟩
/-- a place's own list is rewritten -/
theorem RL.rewrite {i : Nat} {c c' : Cell} {ds ds' : List D} {a : Addr} {vs vs' : List V} {B B' : List Addr} (r : RL K H0 Z ρ σ H W) (hc : ρ.pt i = c) (h : c = .tp (.lst ds) ∨ c = .dp (.lst ds)) (h' : c' = .tp (.lst ds') ∨ c' = .dp (.lst ds'))
    (hv : σ[i]? = some (some (.ref a))) (hW : W i = a :: B) (ea : H a = some (.lst vs)) (ra : Reps K (upd H a (.lst vs')) vs' ds' B') (nd : (c'.own (a :: B')).Nodup)
    (o : ∀ b ∈ c'.own (a :: B'), b ≠ a → H0 b = none ∧ ∀ j, j ≠ i → b ∉ (ρ.pt j).own (W j) ∧ b ∉ (ρ.pt j).shr (W j)) (s : ∀ b ∈ c'.shr (a :: B'), b ≠ a ∧ b ∉ c'.own (a :: B') ∧ b ∉ Z.map (·.2) ∧ ∀ j, j ≠ i → b ∉ (ρ.pt j).own (W j)) (hu : ∀ b ∈ c'.shr (a :: B'), H0.u b) :
    RL K H0 Z (ρ.set i c') σ (upd H a (.lst vs')) (upW W i (a :: B')) := by
  have ow : a ∈ c.own (W i) := by
    rw [hW]
    rcases h with rfl | rfl
    · simp [Cell.own, D.isM]
    · simp [Cell.own]
  have ow' : a ∈ (ρ.pt i).own (W i) := by rw [hc]; exact ow
  refine r.anew hc (fun d z => by rcases h with rfl | rfl <;> cases z) (fun d z => by rcases h' with rfl | rfl <;> cases z) hv ow ea True.intro ?_ nd (fun b hb => ?_) (fun b hb => (s b hb).2) hu
  · have e : c'.d = .lst ds' := by rcases h' with rfl | rfl <;> rfl
    rw [e]; exact .lst upd_same ra
  · by_cases e : b = a
    · subst e
      exact ⟨r.new i b ow', fun j hj => ⟨r.dj i j b (fun z => hj z.symm) ow', fun z => r.sh j i b z ow'⟩⟩
    · exact o b hb e
/-- an object within a value that a place holds alone -/
theorem RL.within {i : Nat} {d d' : D} {p : Addr} {v : V} {o o' : HO} (r : RL K H0 Z ρ σ H W) (hc : ρ.pt i = .dp d) (hv : σ[i]? = some (some v)) (hp : p ∈ W i) (ea : H p = some o) (mu : Mut o) (rd : Rep K (upd H p o') v d' (W i)) :
    RL K H0 Z (ρ.set i (.dp d')) σ (upd H p o') W := by
  have hi : ∀ b ∈ W i, b ∈ (ρ.pt i).own (W i) := fun b h => by rw [hc]; exact h
  have q := r.anew (c' := .dp d') hc (fun d z => by cases z) (fun d z => by cases z) hv hp ea mu rd (by have := r.nd i; rw [hc] at this; exact this)
    (fun b hb => ⟨r.new i b (hi b hb), fun j hj => ⟨r.dj i j b (fun z => hj z.symm) (hi b hb), fun z => r.sh j i b z (hi b hb)⟩⟩) (fun b hb => absurd hb List.not_mem_nil) fun b hb => absurd hb List.not_mem_nil
  have e : upW W i (W i) = W := funext fun j => by unfold upW; split <;> first | (rename_i h; rw [h]) | rfl
  rwa [e] at q
end
end R

namespace R
open PySem PySem.Spec PyProof.Rows L2
section
variable {t : Tab} {Γ : List SpD}
theorem sns_ex {c : Ex} (hc : Snd t Γ c) : SndS t Γ (.ex c) := fun X nm g st ok H0 Z ρ σ H W E D r w eo => by
  simp only [okS] at ok
  split at ok
  · simp only [Bool.and_eq_true, Bool.not_eq_true'] at ok
    refine ssOf (ps_expr peS (sw_pure ok.2)) ?_
    exact hc.e X nm _ g _ ok.1 .bor H0 Z ρ σ H W _ _ r w fun d l ρ' v H' A k o => eo.nx _ _ _ _ (r.mono o.same) k
  · cases ok
theorem sns_ret {c : Ex} (hc : Snd t Γ c) : SndS t Γ (.ret c) := fun X nm g st ok H0 Z ρ σ H W E D r w eo => by
  simp only [okS] at ok
  split at ok
  · refine ssOf (ps_ret peS) ?_
    refine hc.e X nm _ g _ ok .own H0 Z ρ σ H W _ _ r w fun d l ρ' v H' A k o => ?_
    refine eo.rt d l v H' A k o.rep (r.same.trans o.same) o.cl.nd (fun a ha => ?_) (o.us r)
    rcases (o.cl.o a ha).1 with z | ⟨i, z⟩
    · exact r.same.non z
    · exact r.new i a z
  · cases ok
theorem sns_retN : SndS t Γ .retN := fun X nm g st ok H0 Z ρ σ H W E D r w eo => by
  simp only [okS] at ok
  split at ok
  · exact ssOf ps_retN (eo.rt .non .deep .non H [] w .non r.same List.nodup_nil (fun a h => absurd h List.not_mem_nil) fun a h => absurd h List.not_mem_nil)
  · cases ok
theorem sns_brk : SndS t Γ .brk := fun X nm g st ok H0 Z ρ σ H W E D r w eo => by
  simp only [okS] at ok
  split at ok
  · exact ssOf ps_break (eo.bk _ _ _ _ r w)
  · cases ok
theorem sns_cont : SndS t Γ .cont := fun X nm g st ok H0 Z ρ σ H W E D r w eo => by
  simp only [okS] at ok
  split at ok
  · exact ssOf ps_continue (eo.ct _ _ _ _ r w)
  · cases ok
theorem sns_pas : SndS t Γ .pas := fun X nm g st ok H0 Z ρ σ H W E D r w eo => by
  simp only [okS] at ok
  split at ok
  · exact ssOf ps_pass (eo.nx _ _ _ _ r w)
  · cases ok
theorem sns_iff {c : Ex} {a b : Cms} (hc : Snd t Γ c) (ha : SndSs t Γ a) (hb : SndSs t Γ b) : SndS t Γ (.iff c a b) := fun X nm g st ok H0 Z ρ σ H W E D r w eo => by
  simp only [okS] at ok
  split at ok
  · simp only [Bool.and_eq_true] at ok
    obtain ⟨⟨⟨o1, o2⟩, o3⟩, o4⟩ := ok
    refine ssOf (ps_if ptS pssS pssS) ?_
    refine hc.T o1 X nm _ g _ o2 H0 Z ρ σ H W (fun k => if k = true then wpSs Γ a ρ E else wpSs Γ b ρ E) _ r w fun k H1 w1 s1 => ?_
    cases k with
    | true => exact ha X nm g _ o3 H0 Z ρ σ H1 W E D (r.mono s1) w1 eo
    | false => exact hb X nm g _ o4 H0 Z ρ σ H1 W E D (r.mono s1) w1 eo
  · cases ok
theorem sns_whl {c : Ex} {b : Cms} (hc : Snd t Γ c) (hb : SndSs t Γ b) : SndS t Γ (.whl c b) := fun X nm g st ok H0 Z ρ σ H W E D r w eo => by
  simp only [okS] at ok
  split at ok
  · simp only [Bool.and_eq_true] at ok
    obtain ⟨⟨o1, o2⟩, o3⟩ := ok
    refine ssOf (ps_while g.pass ptS pssS) ?_
    obtain ⟨I, ⟨m0, i0⟩, step⟩ := w
    refine ⟨fun m σ H => ∃ ρ W, RL X.K H0 Z ρ σ H W ∧ I m ρ, ⟨m0, ρ, W, r, i0⟩, ?_⟩
    rintro m σ H ⟨ρ, W, r, i⟩
    refine hc.T o1 X nm _ g _ o2 H0 Z ρ σ H W _ _ r (step m ρ i) fun k H1 w1 s1 => ?_
    cases k with
    | true =>
      simp only [if_true] at w1 ⊢
      refine ⟨fun σ' H' => ∃ m', m' < m ∧ ∃ ρ W, RL X.K H0 Z ρ σ' H' W ∧ I m' ρ, fun σ' H' h => h, ?_⟩
      exact hb X nm g _ o3 H0 Z ρ σ H1 W _ _ (r.mono s1) w1 ⟨fun ρ' σ' H' W' r' ⟨m', l, i'⟩ => ⟨m', l, ρ', W', r', i'⟩, eo.nx, fun ρ' σ' H' W' r' ⟨m', l, i'⟩ => ⟨m', l, ρ', W', r', i'⟩, eo.rt⟩
    | false => exact eo.nx _ _ _ _ (r.mono s1) w1
  · cases ok

/-! the base of a loop -/
section
variable {K : PySem.W.Frag} {H0 : Base} {H1 H : Hp} {Z : List (Nat × Addr)} {ρ : Pl} {σ : L2.St} {W : Nat → List Addr}
open Classical in
/-- all that no place owns -/
noncomputable def lessOwn (ρ : Pl) (W : Nat → List Addr) (H : Hp) : Hp := fun b => if ∃ i, b ∈ (ρ.pt i).own (W i) then none else H b
theorem lessOwn_not {b : Addr} (h : ∀ i, b ∉ (ρ.pt i).own (W i)) : lessOwn ρ W H b = H b := by
  unfold lessOwn; rw [if_neg (fun ⟨i, z⟩ => h i z)]
theorem lessOwn_own {b : Addr} {i : Nat} (h : b ∈ (ρ.pt i).own (W i)) : lessOwn ρ W H b = none := by
  unfold lessOwn; rw [if_pos ⟨i, h⟩]
theorem lessOwn_le : Same (lessOwn ρ W H) H := fun b x e => by
  unfold lessOwn at e; split at e
  · cases e
  · exact e
theorem RL.le_less (r : RL K H0 Z ρ σ H W) : Same H0 (lessOwn ρ W H) := fun b x e => by
  rw [lessOwn_not]
  · exact r.same b x e
  · intro i z; rw [r.new i b z] at e; cases e
theorem RL.fuL (r : RL K H0 Z ρ σ H W) : ∀ a, lessOwn ρ W H a = none → H0.u a := fun a e => by
  by_cases z : ∃ i, a ∈ (ρ.pt i).own (W i)
  · obtain ⟨i, z⟩ := z
    exact r.fu a (r.new i a z)
  · rw [lessOwn_not (fun i q => z ⟨i, q⟩)] at e
    exact r.fu a (r.same.non e)
theorem RL.based (r : RL K H0 Z ρ σ H W) : RL K ⟨lessOwn ρ W H, H0.u⟩ Z ρ σ H W :=
  ⟨r.len, r.rep, lessOwn_le, r.nd, r.dj, fun i a h => lessOwn_own h, r.sh, fun p hp => ⟨(r.zs p hp).1, (r.zs p hp).2.1, fun z => by
    obtain ⟨_, _, h⟩ := r.zs p hp
    cases e : H0 p.2 with
    | none => exact h e
    | some x => have := r.le_less _ _ e; have z : lessOwn ρ W H p.2 = none := z; rw [z] at this; cases this⟩, r.zsh, r.zo, r.fuL, r.inu⟩
theorem RL.unbased {Hb : Base} (r : RL K Hb Z ρ σ H W) (le : Same H0 Hb) (hz : ∀ p ∈ Z, H0 p.2 ≠ none) (hf : ∀ a, H0 a = none → H0.u a) (hu : ∀ a, Hb.u a → H0.u a) : RL K H0 Z ρ σ H W :=
  ⟨r.len, r.rep, le.trans r.same, r.nd, r.dj, fun i a h => le.non (r.new i a h), r.sh, fun p hp => ⟨(r.zs p hp).1, (r.zs p hp).2.1, hz p hp⟩, r.zsh, r.zo, hf, fun i a h => hu a (r.inu i a h)⟩
/-- what stood at a loop's start and is owned by none stands -/
theorem Reps.still {vs : List V} {ds : List R.D} {A : List Addr} {Hb : Hp} (rs : Reps K H1 vs ds A) (hA : ∀ a ∈ A, Hb a = H1 a) (hF : ∀ b o, H1 b = some o → Fix o → Hb b = some o) (s : Same Hb H) : Reps K H vs ds A :=
  rs.mono (fun a ha => by
    obtain ⟨o, e, _⟩ := rs.dom a ha
    rw [e]
    exact s _ _ ((hA a ha).trans e)) fun b o e f => s _ _ (hF b o e f)
theorem RL.fixed (r : RL K H0 Z ρ σ H W) : ∀ b o, H b = some o → Fix o → lessOwn ρ W H b = some o := fun b o e f => by
  rw [lessOwn_not]
  · exact e
  · intro i z
    obtain ⟨o', e', m⟩ := r.dom (own_W z)
    rw [e] at e'; cases e'
    cases o <;> simp [Mut, Fix] at m f
end
/-- the turns of a for -/
theorem for_turns {X : Cx} {nm : Nm} (g : Good X t nm (fun _ => true) Γ) {tg : Tg} {b : Cms} (hb : SndSs t Γ b) {et : Expr} {sb : List Stmt} (otg : okTg t nm (fun _ => true) tg et = true) (ob : okSs t nm b sb = true) {Hb : Base} {H1 : Hp} {Z : List (Nat × Addr)} {E : EndsD} {D : Ends} {lend : Option (Nat × Cell)}
    {xs : List R.D} {vs : List V} {A : List Addr} {J : L2.It} {src : List Addr} {ρ : Pl} {σ : L2.St} {W : Nat → List Addr}
    (rs : Reps X.K H1 vs xs A) (hA : ∀ a ∈ A, Hb a = H1 a ∧ a ∉ Z.map (·.2)) (hU : ∀ a ∈ A, Hb.u a) (hF : ∀ b o, H1 b = some o → Fix o → Hb b = some o) (hS : ∀ a ∈ src, Hb a = H1 a ∧ ∃ o, H1 a = some o) (itOk : ItOk J vs src H1)
    (r : RL X.K Hb Z ρ σ H1 W) (w : forD tg (fun ρ E => wpSs Γ b ρ E) lend xs ρ E)
    (nx : ∀ ρ σ H W, RL X.K Hb Z ρ σ H W → forD.backD lend ρ E.nx → D.nx σ H) (rt : ∀ d l v H A, E.rt d l → Rep X.K H v d A → Same Hb H → ((lvC l d).own A).Nodup → (∀ a ∈ (lvC l d).own A, Hb a = none) → (∀ a ∈ A, Hb.u a) → D.rt v H) :
    ∃ Wp : Nat → Nat → L2.St → Hp → Prop, (∃ m, Wp 0 m σ H1) ∧ ∀ i m σ H, Wp i m σ H →
      (J.stop i H ∧ D.nx σ H) ∨ (J.go i H ∧ ∃ N : L2.St → Hp → Prop, (∀ σ' H', N σ' H' → ∃ m', m' < m ∧ Wp (i + 1) m' σ' H') ∧ ∀ x H', J.yld i H x H' → SG X et x σ H' fun σ2 H2 => SSs X sb { D with nx := N, ct := N, bk := D.nx } σ2 H2) := by
  let Pv : Nat → L2.St → Hp → Prop := fun k σ H => ∃ ρ W, RL X.K Hb Z ρ σ H W ∧ forD tg (fun ρ E => wpSs Γ b ρ E) lend (xs.drop k) ρ E
  refine ⟨fun k m σ H => m = vs.length - k ∧ k ≤ vs.length ∧ Pv k σ H, ⟨vs.length, by simp, Nat.zero_le _, ρ, W, r, by rw [List.drop_zero]; exact w⟩, ?_⟩
  rintro k m σ H ⟨rfl, hk, ρ, W, r, w⟩
  obtain ⟨go, st, yl⟩ := itOk H (fun a ha => by
    obtain ⟨h1, o, e⟩ := hS a ha
    rw [e]; exact r.same _ _ (h1.trans e)) (fun b o e f => r.same _ _ (hF b o e f))
  by_cases hlt : k < vs.length
  · refine .inr ⟨go k hlt, Pv (k + 1), fun σ' H' p' => ⟨vs.length - (k + 1), by omega, rfl, hlt, p'⟩, fun x H' y => ?_⟩
    obtain ⟨rfl, hx⟩ := yl k x H' hlt y
    have rs' := rs.still (fun a ha => (hA a ha).1) hF r.same
    obtain ⟨d, Ax, hd, rx, sx⟩ := rs'.at hx
    have hk : k < xs.length := (List.getElem?_eq_some_iff.mp hd).1
    have ed : xs.drop k = d :: xs.drop (k + 1) := by
      rw [List.drop_eq_getElem_cons hk]
      congr 1
      have := List.getElem?_eq_getElem hk
      rw [this] at hd
      exact Option.some.inj hd
    rw [ed] at w
    obtain ⟨fr, w⟩ : tgFree ρ tg ∧ tgD tg d ρ fun ρ1 => wpSs Γ b ρ1 { nx := fun ρ2 => forD tg (fun ρ E => wpSs Γ b ρ E) lend (xs.drop (k + 1)) ρ2 E, ct := fun ρ2 => forD tg (fun ρ E => wpSs Γ b ρ E) lend (xs.drop (k + 1)) ρ2 E, bk := fun ρ2 => forD.backD lend ρ2 E.nx, rt := E.rt } := w
    refine sndG g otg r rx (fun a ha => ⟨(hA a (sx.mem ha)).2, fun j z => ?_⟩) (fun a ha => hU a (sx.mem ha)) (fun i hi => ?_) w fun ρ' σ' W' w' tr _ => ?_
    · obtain ⟨o, e, _⟩ := rs.dom a (sx.mem ha)
      have h1 := r.new j a z
      rw [(hA a (sx.mem ha)).1, e] at h1
      cases h1
    · cases tg with
      | one j => obtain rfl := List.mem_singleton.mp hi; exact fr
      | many is => exact fr i hi
    · exact hb X nm g sb ob Hb Z ρ' σ' H' W' _ _ tr.rl w' ⟨fun ρ σ H W r w => ⟨ρ, W, r, w⟩, nx, fun ρ σ H W r w => ⟨ρ, W, r, w⟩, rt⟩
  · have e : k = vs.length := by omega
    subst e
    rw [rs.length, List.drop_length] at w
    exact .inl ⟨st _ (Nat.le_refl _), nx _ _ _ _ r w⟩
theorem okI_odd {nm : Nm} {it : Rg} {e : Expr} (oi : okI t nm it e = true) : odd e = false := by
  cases it with
  | rng1 b => simp only [okI] at oi; split at oi; rfl; cases oi
  | rng2 a b => simp only [okI] at oi; split at oi; rfl; cases oi
  | rng3 a b c => simp only [okI] at oi; split at oi; rfl; cases oi
  | rev a => simp only [okI] at oi; split at oi; rfl; cases oi
  | col a => exact okE_odd a oi
theorem set_pt : ∀ {ρ : Pl} {i : Nat}, ρ.set i (ρ.pt i) = ρ
  | [], _ => rfl
  | _ :: _, 0 => rfl
  | x :: q, n + 1 => congrArg (x :: ·) (set_pt (ρ := q) (i := n))
theorem sns_for {tg : Tg} {it : Rg} {b : Cms} (hi : SndI t Γ it) (hb : SndSs t Γ b) : SndS t Γ (.forr tg it b) := fun X nm g st ok H0 Z ρ σ H W E D r w eo => by
  simp only [okS] at ok
  split at ok
  · rename_i et ei sb pos
    simp only [Bool.and_eq_true] at ok
    obtain ⟨⟨otg, oi⟩, ob⟩ := ok
    have w : (match lentAt ρ it with
      | some (i, c) => itemsD c.d fun xs => forD tg (fun ρ E => wpSs Γ b ρ E) (some (i, c)) xs (ρ.set i c.lend) E
      | none => wpI Γ .own it ρ fun xs ρ1 => forD tg (fun ρ E => wpSs Γ b ρ E) none xs ρ1 E) := w
    cases hl : lentAt ρ it with
    | none =>
      rw [hl] at w
      refine ssOf (ps_for g.pass g.calm piS pgS pssS (hs := noFold (okI_odd oi))) ?_
      refine hi X nm _ g et ei oi .own H0 Z ρ σ H W _ _ r (fun z => by cases z) w fun xs ρ1 vs J H1 A src w1 rs s1 d1 cA itOk trk ow => ?_
      have r1 := (r.dem d1).mono s1
      have le := r1.le_less
      refine for_turns g hb otg ob (Hb := ⟨lessOwn ρ1 W H1, H0.u⟩) rs (fun a ha => ⟨lessOwn_not (cA.s a ha).2.2.2, (cA.s a ha).2.1⟩) (fun a ha => r.us (cA.s a ha).2.2.1) r1.fixed (fun a ha => ⟨lessOwn_not (ow rfl a ha).1, ?_⟩) itOk r1.based w1 (fun ρ' σ' H' W' r' k => ?_) (fun d l v H' A' k rv s nd n un => ?_)
      · obtain ⟨o, e, _⟩ := trk a ha; exact ⟨o, e⟩
      · exact eo.nx _ _ _ _ (r'.unbased le (fun p hp => (r.zs p hp).2.2) r.fu fun _ h => h) k
      · exact eo.rt d l v H' A' k rv (le.trans s) nd (fun a ha => le.non (n a ha)) un
    | some ic =>
      obtain ⟨i, c⟩ := ic
      rw [hl] at w
      -- a name that holds its list alone
      have inv : ∃ ds, it = .col (.var i) ∧ ρ.pt i = c ∧ ((c = .tp (.lst ds) ∨ c = .dp (.lst ds)) ∨ (c = .ln (.lst ds) ∧ R.D.immL ds = true)) := by
        unfold lentAt at hl
        split at hl
        · rename_i j
          split at hl
          · rename_i ds e; cases hl; exact ⟨ds, rfl, e, .inl (.inl rfl)⟩
          · rename_i ds e; cases hl; exact ⟨ds, rfl, e, .inl (.inr rfl)⟩
          · rename_i ds e
            split at hl
            · rename_i im; cases hl; exact ⟨ds, rfl, e, .inr ⟨rfl, im⟩⟩
            · cases hl
          · cases hl
        · cases hl
      obtain ⟨ds, rfl, hc, hcd | ⟨rfl, im⟩⟩ := inv
      case inr =>
        have live : (ρ.pt i).live = true := by rw [hc]; rfl
        obtain ⟨v, hv, rv⟩ := r.rep i live
        rw [hc] at rv
        have rv : Rep X.K H v (.lst ds) (W i) := rv
        obtain ⟨a, vs, B, rfl, hW, ea, ra⟩ := rv.lst_inv
        have eB := ra.imm im
        subst eB
        have w : forD tg (fun ρ E => wpSs Γ b ρ E) (some (i, .ln (.lst ds))) ds ρ E := by
          have e : ρ.set i (.ln (.lst ds)) = ρ := by rw [← hc]; exact set_pt
          have w : forD tg (fun ρ E => wpSs Γ b ρ E) (some (i, .ln (.lst ds))) ds (ρ.set i (.ln (.lst ds))) E := w
          rw [e] at w
          exact w
        have nota : ∀ j, a ∉ (ρ.pt j).own (W j) := fun j z => by
          obtain ⟨y, hy⟩ := r.zo i _ hc rfl
          have h2 := (r.zs (i, y) hy).2.1
          have h2 : σ[i]? = some (some (V.ref y)) := h2
          rw [hv] at h2
          cases h2
          exact r.zown z (List.mem_map.mpr ⟨_, hy, rfl⟩)
        obtain ⟨x, p, rfl, h1, h2, h3, h4⟩ := okV_inv (show okV t nm i ei = true from oi)
        refine ssOf (ps_for g.pass g.calm (pi_list (pe_var (by rw [g.N]; exact h1) (g.vis h2) h3 h4)) pgS pssS) ?_
        refine ⟨.ref a, hv, a, rfl, ⟨vs, SqL.of ea⟩, ?_⟩
        have le := r.le_less
        refine for_turns g hb otg ob (Hb := ⟨lessOwn ρ W H, H0.u⟩) (J := Itl X.K a) (src := [a]) ra (fun b hb => absurd hb List.not_mem_nil) (fun b hb => absurd hb List.not_mem_nil) r.fixed
          (fun b hb => by obtain rfl := List.mem_singleton.mp hb; exact ⟨lessOwn_not nota, _, ea⟩) (itOk_list ea) r.based w (fun ρ' σ' H' W' r' k => ?_) (fun d l v H' A' k rv s nd n un => ?_)
        · have k : E.nx (ρ'.set i (ρ'.pt i)) := k
          rw [set_pt] at k
          exact eo.nx _ _ _ _ (r'.unbased le (fun p hp => (r.zs p hp).2.2) r.fu fun _ h => h) k
        · exact eo.rt d l v H' A' k rv (le.trans s) nd (fun a ha => le.non (n a ha)) un
      have live : (ρ.pt i).live = true := by rw [hc]; rcases hcd with rfl | rfl <;> rfl
      have il : i < ρ.length := pt_lt (by intro z; rw [z] at live; cases live)
      obtain ⟨v, hv, rv⟩ := r.rep i live
      rw [hc] at rv
      obtain ⟨a, vs, B, rfl, hW, ea, ra, hown⟩ := own_root hcd rv
      have own_i : a ∈ (ρ.pt i).own (W i) := by rw [hc]; exact hown
      have w : forD tg (fun ρ E => wpSs Γ b ρ E) (some (i, c)) ds (ρ.set i (.ln (.lst ds))) E := by
        rcases hcd with rfl | rfl <;> exact w
      -- the name's reading
      obtain ⟨x, p, rfl, h1, h2, h3, h4⟩ := okV_inv (show okV t nm i ei = true from oi)
      refine ssOf (ps_for g.pass g.calm (pi_list (pe_var (by rw [g.N]; exact h1) (g.vis h2) h3 h4)) pgS pssS) ?_
      refine ⟨.ref a, hv, a, rfl, ⟨vs, SqL.of ea⟩, ?_⟩
      -- the lent places
      let ρl : Pl := ρ.set i (.ln (.lst ds))
      have at_i : ρl.pt i = .ln (.lst ds) := pt_set_self il
      have at_j : ∀ j, j ≠ i → ρl.pt j = ρ.pt j := fun j h => pt_set_ne (fun z => h z.symm)
      have ow : ∀ j b, b ∈ (ρl.pt j).own (W j) → j ≠ i ∧ b ∈ (ρ.pt j).own (W j) := fun j b h => by
        by_cases e : j = i
        · subst e; rw [at_i] at h; cases h
        · rw [at_j j e] at h; exact ⟨e, h⟩
      have tlB : ∀ b ∈ B, b ≠ a ∧ (∀ j, b ∉ (ρl.pt j).own (W j)) ∧ b ∉ Z.map (·.2) := fun b hb => by
        rcases hcd with e | e
        · have hs : b ∈ (ρ.pt i).shr (W i) := by rw [hc, e, hW]; simpa [Cell.shr, R.D.isM] using hb
          refine ⟨fun z => r.sh i i b hs (z ▸ own_i), fun j z => r.sh i j b hs (ow j b z).2, r.zsh i b hs⟩
        · have ho : b ∈ (ρ.pt i).own (W i) := by rw [hc, e, hW]; simpa [Cell.own] using List.mem_cons_of_mem _ hb
          have nd := r.nd i
          rw [hc, e, hW] at nd
          have nd : (a :: B).Nodup := nd
          refine ⟨fun z => (List.nodup_cons.mp nd).1 (z ▸ hb), fun j z => ?_, r.zown ho⟩
          obtain ⟨n, z⟩ := ow j b z
          exact r.dj i j b (fun q => n q.symm) ho z
      have nota : ∀ j, a ∉ (ρl.pt j).own (W j) := fun j z => by
        obtain ⟨n, z⟩ := ow j a z
        exact r.dj i j a (fun q => n q.symm) own_i z
      have h0a : H0 a = none := r.new i a own_i
      have shl : ∀ j b, b ∈ (ρl.pt j).shr (W j) → (j = i ∧ b ∈ B) ∨ (j ≠ i ∧ b ∈ (ρ.pt j).shr (W j)) := fun j b h => by
        by_cases e : j = i
        · subst e
          rw [at_i, hW] at h
          exact .inl ⟨rfl, by simpa [Cell.shr, R.D.isM] using h⟩
        · rw [at_j j e] at h; exact .inr ⟨e, h⟩
      have ni : ∀ p ∈ Z, p.1 ≠ i := fun p hp z => by
        obtain ⟨⟨d, e, _⟩, _⟩ := r.zs p hp
        rw [z, hc] at e
        rcases hcd with q | q <;> rw [q] at e <;> cases e
      have uB : ∀ b ∈ B, H0.u b := fun b hb => by
        rcases hcd with e | e
        · exact r.inu i b (by rw [hc, e, hW]; simpa [Cell.shr, R.D.isM] using hb)
        · exact r.fu b (r.new i b (by rw [hc, e, hW]; simpa [Cell.own] using List.mem_cons_of_mem _ hb))
      have rl0 : RL X.K ⟨lessOwn ρl W H, H0.u⟩ ((i, a) :: Z) ρl σ H W := by
        refine ⟨by rw [← r.len]; exact List.length_set .., fun j hj => ?_, lessOwn_le, fun j => ?_, fun j k b jk h z => r.dj j k b jk (ow j b h).2 (ow k b z).2, fun j b h => lessOwn_own h, fun j k b h z => ?_, fun p hp => ?_, fun j b h => ?_, fun j d e m => ?_, fun b e => ?_, fun j b h => ?_⟩
        · by_cases e : j = i
          · subst e
            rw [at_i]
            refine ⟨.ref a, hv, ?_⟩
            have : c.d = .lst ds := by rcases hcd with rfl | rfl <;> rfl
            rw [this] at rv
            exact rv
          · rw [at_j j e] at hj ⊢; exact r.rep j hj
        · by_cases e : j = i
          · subst e; rw [at_i]; exact List.nodup_nil
          · rw [at_j j e]; exact r.nd j
        · rcases shl j b h with ⟨_, q⟩ | ⟨_, q⟩
          · exact (tlB b q).2.1 k z
          · exact r.sh j k b q (ow k b z).2
        · rcases List.mem_cons.mp hp with rfl | hp
          · exact ⟨⟨.lst ds, at_i, rfl⟩, hv, fun z => by have z : lessOwn ρl W H a = none := z; rw [lessOwn_not nota, ea] at z; cases z⟩
          · obtain ⟨⟨d, e, m⟩, h2, h3⟩ := r.zs p hp
            refine ⟨⟨d, by rw [at_j _ (ni p hp)]; exact e, m⟩, h2, fun z => ?_⟩
            have hp2 : ∀ j, p.2 ∉ (ρl.pt j).own (W j) := fun j q => r.zown (ow j _ q).2 (List.mem_map.mpr ⟨p, hp, rfl⟩)
            have z : lessOwn ρl W H p.2 = none := z
            rw [lessOwn_not hp2] at z
            exact h3 (r.same.non z)
        · simp only [List.map_cons, List.mem_cons, not_or]
          rcases shl j b h with ⟨_, q⟩ | ⟨n, q⟩
          · exact ⟨(tlB b q).1, (tlB b q).2.2⟩
          · exact ⟨fun z => r.sh j i b q (z ▸ own_i), r.zsh j b q⟩
        · by_cases e1 : j = i
          · subst e1; exact ⟨a, List.mem_cons_self ..⟩
          · rw [at_j j e1] at e
            obtain ⟨y, hy⟩ := r.zo j d e m
            exact ⟨y, List.mem_cons_of_mem _ hy⟩
        · have e : lessOwn ρl W H b = none := e
          by_cases z : ∃ j, b ∈ (ρl.pt j).own (W j)
          · obtain ⟨j, z⟩ := z
            exact r.fu b (r.new j b (ow j b z).2)
          · rw [lessOwn_not (fun j q => z ⟨j, q⟩)] at e
            exact r.fu b (r.same.non e)
        · rcases shl j b h with ⟨_, q⟩ | ⟨_, q⟩
          · exact uB b q
          · exact r.inu j b q
      have le : Same H0 (lessOwn ρl W H) := fun b x e => by
        rw [lessOwn_not]
        · exact r.same b x e
        · intro j z; rw [r.new j b (ow j b z).2] at e; cases e
      refine for_turns g hb otg ob (Hb := ⟨lessOwn ρl W H, H0.u⟩) (J := Itl X.K a) (src := [a]) ra (fun b hb => ⟨lessOwn_not (tlB b hb).2.1, by simp only [List.map_cons, List.mem_cons, not_or]; exact ⟨(tlB b hb).1, (tlB b hb).2.2⟩⟩) uB rl0.fixed
        (fun b hb => by obtain rfl := List.mem_singleton.mp hb; exact ⟨lessOwn_not nota, _, ea⟩) (itOk_list ea) rl0 w (fun ρ' σ' H' W' r' k => ?_) (fun d l v H' A' k rv s nd n un => ?_)
      · -- given back
        obtain ⟨⟨d', e', m'⟩, hs', _⟩ := r'.zs (i, a) (List.mem_cons_self ..)
        have e' : ρ'.pt i = .ln d' := e'
        have hs' : σ'[i]? = some (some (V.ref a)) := hs'
        have k : E.nx (ρ'.set i (c.back (ρ'.pt i))) := k
        rw [e'] at k
        have il' : i < ρ'.length := pt_lt (by rw [e']; intro z; cases z)
        obtain ⟨v', hv', rv'⟩ := r'.rep i (by rw [e']; rfl)
        rw [e'] at rv'
        rw [hs'] at hv'
        cases hv'
        have rv' : Rep X.K H' (.ref a) d' (W' i) := rv'
        -- its addresses: its own, and the kids'
        have hW' : ∃ B', W' i = a :: B' ∧ (d'.kimm = true → B' = []) := by
          generalize W' i = A' at rv'
          cases rv' with
          | tup => simp [R.D.isM] at m'
          | fro => simp [R.D.isM] at m'
          | froK => simp [R.D.isM] at m'
          | lst e rs => exact ⟨_, rfl, fun h => rs.imm h⟩
          | set e n => exact ⟨[], rfl, fun _ => rfl⟩
          | dic e l rs => exact ⟨_, rfl, fun h => rs.imm h⟩
        obtain ⟨B', hW', kB⟩ := hW'
        let c' := c.back (.ln d')
        have hc' : c' = .tp d' ∨ (c' = .dp d' ∧ d'.kimm = true) := by
          rcases hcd with e | e
          · left; show c.back (.ln d') = _; rw [e]; rfl
          · show c.back (.ln d') = _ ∨ _
            rw [show c' = c.back (.ln d') from rfl, e]
            simp only [Cell.back]
            cases q : d'.kimm with
            | true => exact .inr ⟨rfl, rfl⟩
            | false => exact .inl rfl
        have own' : c'.own (W' i) = [a] := by
          rw [hW']
          rcases hc' with e | ⟨e, q⟩
          · rw [e]; simp [Cell.own, m']
          · rw [e, kB q]; rfl
        have shr' : ∀ b ∈ c'.shr (W' i), b ∈ (ρ'.pt i).shr (W' i) := fun b h => by
          rw [e', hW']
          rw [hW'] at h
          rcases hc' with e | ⟨e, q⟩
          · rw [e] at h; simpa [Cell.shr, m'] using h
          · rw [e] at h; cases h
        have zi : a ∈ ((i, a) :: Z).map (·.2) := List.mem_cons_self ..
        have at_i' : (ρ'.set i c').pt i = c' := pt_set_self il'
        have at_j' : ∀ j, j ≠ i → (ρ'.set i c').pt j = ρ'.pt j := fun j h => pt_set_ne (fun z => h z.symm)
        have ow' : ∀ j b, b ∈ ((ρ'.set i c').pt j).own (W' j) → (j = i ∧ b = a) ∨ (j ≠ i ∧ b ∈ (ρ'.pt j).own (W' j)) := fun j b h => by
          by_cases e : j = i
          · subst e; rw [at_i', own'] at h; exact .inl ⟨rfl, List.mem_singleton.mp h⟩
          · rw [at_j' j e] at h; exact .inr ⟨e, h⟩
        have sw' : ∀ j b, b ∈ ((ρ'.set i c').pt j).shr (W' j) → b ∈ (ρ'.pt j).shr (W' j) := fun j b h => by
          by_cases e : j = i
          · subst e; rw [at_i'] at h; exact shr' b h
          · rw [at_j' j e] at h; exact h
        have live' : c'.live = true := by rcases hc' with e | ⟨e, _⟩ <;> rw [e] <;> rfl
        have d_c' : c'.d = d' := by rcases hc' with e | ⟨e, _⟩ <;> rw [e] <;> rfl
        refine eo.nx (ρ'.set i c') σ' H' W' ⟨by rw [← r'.len]; exact List.length_set .., fun j hj => ?_, le.trans r'.same, fun j => ?_, fun j j2 b jk h z => ?_, fun j b h => ?_, fun j j2 b h z => ?_, fun p hp => ?_, fun j b h => ?_, fun j d e m => ?_, r.fu, fun j b h => r'.inu j b (sw' j b h)⟩ k
        · by_cases e : j = i
          · subst e
            rw [at_i', d_c']
            exact ⟨.ref a, hs', rv'⟩
          · rw [at_j' j e] at hj ⊢; exact r'.rep j hj
        · by_cases e : j = i
          · subst e; rw [at_i', own']; exact List.pairwise_singleton _ _
          · rw [at_j' j e]; exact r'.nd j
        · rcases ow' j b h with ⟨rfl, rfl⟩ | ⟨n, h⟩
          · rcases ow' j2 b z with ⟨q, _⟩ | ⟨_, z⟩
            · exact jk q.symm
            · exact r'.zown z zi
          · rcases ow' j2 b z with ⟨_, rfl⟩ | ⟨_, z⟩
            · exact r'.zown h zi
            · exact r'.dj j j2 b jk h z
        · rcases ow' j b h with ⟨_, rfl⟩ | ⟨_, h⟩
          · exact h0a
          · exact le.non (r'.new j b h)
        · have h := sw' j b h
          rcases ow' j2 b z with ⟨_, rfl⟩ | ⟨_, z⟩
          · exact r'.zsh j b h zi
          · exact r'.sh j j2 b h z
        · obtain ⟨⟨d, e, m⟩, h2, h3⟩ := r'.zs p (List.mem_cons_of_mem _ hp)
          exact ⟨⟨d, by rw [at_j' _ (ni p hp)]; exact e, m⟩, h2, (r.zs p hp).2.2⟩
        · have := r'.zsh j b (sw' j b h)
          simp only [List.map_cons, List.mem_cons, not_or] at this
          exact this.2
        · by_cases e1 : j = i
          · subst e1
            rw [at_i'] at e
            rcases hc' with q | ⟨q, _⟩ <;> rw [q] at e <;> cases e
          · rw [at_j' j e1] at e
            obtain ⟨y, hy⟩ := r'.zo j d e m
            rcases List.mem_cons.mp hy with q | q
            · cases q; exact absurd rfl e1
            · exact ⟨y, q⟩
      · exact eo.rt d l v H' A' k rv (le.trans s) nd (fun b hb => le.non (n b hb)) un
  · cases ok
end
end R

namespace R
open PySem PySem.Spec PyProof.Rows L2
section
variable {K : PySem.W.Frag} {H0 : Base} {H H1 : Hp} {Z : List (Nat × Addr)} {ρ ρ1 : Pl} {σ : L2.St} {W : Nat → List Addr}
/-- a place's own list gets other kids: some of the old ones, and a value that was just evaluated -/
theorem RL.kids {i : Nat} {c c' : Cell} {ds ds' : List D} {d : D} {l : Lv} {a : Addr} {v : V} {vs vs' : List V} {A B B' : List Addr} (r : RL K H0 Z ρ σ H W) (o : Out K Z .own ρ H W d l ρ1 v H1 A) (hc : ρ1.pt i = c) (h : c = .tp (.lst ds) ∨ c = .dp (.lst ds))
    (h' : c' = .tp (.lst ds') ∨ (c' = .dp (.lst ds') ∧ c = .dp (.lst ds) ∧ (d.imm = true ∨ l = .deep)))
    (hv : σ[i]? = some (some (.ref a))) (hW : W i = a :: B) (ea : H1 a = some (.lst vs)) (ra : Reps K (upd H1 a (.lst vs')) vs' ds' B') (mem : ∀ b ∈ B', b ∈ B ∨ b ∈ A) (nd : B.Nodup → A.Nodup → (∀ b ∈ B, b ∉ A) → B'.Nodup) :
    RL K H0 Z (ρ1.set i c') σ (upd H1 a (.lst vs')) (upW W i (a :: B')) := by
  have r1 := (r.dem o.dem).mono o.same
  have own_a : a ∈ (ρ1.pt i).own (W i) := by
    rw [hc, hW]; rcases h with rfl | rfl
    · simp [Cell.own, D.isM]
    · simp [Cell.own]
  have memA : ∀ b ∈ A, b ∈ pO .own l d A ∨ b ∈ pS .own l d A := fun b h => by
    simp only [pO, pS]
    cases l <;> simp only [lvC, Cell.own, Cell.shr]
    · exact .inr h
    · split
      · rw [← List.take_append_drop 1 A] at h
        exact List.mem_append.mp h
      · exact .inr h
    · exact .inl h
  have An : ∀ b ∈ A, ∀ j, b ∉ (ρ1.pt j).own (W j) := fun b hb j => by
    rcases memA b hb with z | z
    · exact ((o.cl.o b z).2 j).1
    · exact (o.cl.s b z).2.2.2 j
  have Az : ∀ b ∈ A, b ∉ Z.map (·.2) := fun b hb => by
    rcases memA b hb with z | z
    · exact o.cl.oz r b z
    · exact (o.cl.s b z).2.1
  have naA : a ∉ A := fun z => An a z i own_a
  -- the old kids
  have Bk : ∀ b ∈ B, b ≠ a ∧ b ∉ Z.map (·.2) ∧ ∀ j, j ≠ i → b ∉ (ρ1.pt j).own (W j) := fun b hb => by
    rcases h with e | e
    · have hs : b ∈ (ρ1.pt i).shr (W i) := by rw [hc, e, hW]; simpa [Cell.shr, D.isM] using hb
      exact ⟨fun z => r1.sh i i b hs (z ▸ own_a), r1.zsh i b hs, fun j _ => r1.sh i j b hs⟩
    · have ho : b ∈ (ρ1.pt i).own (W i) := by rw [hc, e, hW]; simpa [Cell.own] using List.mem_cons_of_mem _ hb
      have n := r1.nd i
      rw [hc, e, hW] at n
      have n : (a :: B).Nodup := n
      exact ⟨fun z => (List.nodup_cons.mp n).1 (z ▸ hb), r1.zown ho, fun j hj z => r1.dj i j b (fun q => hj q.symm) ho z⟩
  have naB' : a ∉ B' := fun z => (mem a z).elim (fun q => (Bk a q).1 rfl) naA
  rcases h' with rfl | ⟨rfl, hcd, hd⟩
  · refine r1.rewrite hc h (.inl rfl) hv hW ea ra ?_ (fun b hb ne => ?_) (fun b hb => ?_) (fun b hb => ?_)
    · simp [Cell.own, D.isM]
    · simp [Cell.own, D.isM] at hb; exact absurd hb ne
    · have hb : b ∈ B' := by simpa [Cell.shr, D.isM] using hb
      have hz : b ≠ a := fun z => naB' (z ▸ hb)
      refine ⟨hz, by simp [Cell.own, D.isM]; exact hz, ?_⟩
      rcases mem b hb with q | q
      · exact (Bk b q).2
      · exact ⟨Az b q, fun j _ => An b q j⟩
    · have hb : b ∈ B' := by simpa [Cell.shr, D.isM] using hb
      rcases mem b hb with q | q
      · rcases h with e | e
        · exact r1.inu i b (by rw [hc, e, hW]; simpa [Cell.shr, D.isM] using q)
        · exact r1.fu b (r1.new i b (by rw [hc, e, hW]; simpa [Cell.own] using List.mem_cons_of_mem _ q))
      · exact o.us r b q
  · subst hcd
    have nB : (a :: B).Nodup := by
      have n := r1.nd i
      rw [hc, hW] at n
      exact n
    -- the value's addresses are its own
    have hA : A.Nodup ∧ ∀ b ∈ A, H0 b = none ∧ ∀ j, b ∉ (ρ1.pt j).shr (W j) := by
      rcases hd with im | rfl
      · have e := o.rep.imm im
        rw [e]
        exact ⟨List.nodup_nil, fun b hb => absurd hb List.not_mem_nil⟩
      · have cl := o.cl
        refine ⟨cl.nd, fun b hb => ⟨?_, fun j => ((cl.o b hb).2 j).2⟩⟩
        rcases (cl.o b hb).1 with z | ⟨j, z⟩
        · exact r.same.non z
        · exact r.new j b z
    have BA : ∀ b ∈ B, b ∉ A := fun b hb z => An b z i (by rw [hc, hW]; simpa [Cell.own] using List.mem_cons_of_mem _ hb)
    have nB' := nd (List.nodup_cons.mp nB).2 hA.1 BA
    refine r1.rewrite hc h (.inr rfl) hv hW ea ra ?_ (fun b hb ne => ?_) (fun b hb => absurd hb List.not_mem_nil) (fun b hb => absurd hb List.not_mem_nil)
    · exact List.nodup_cons.mpr ⟨naB', nB'⟩
    · have hb : b ∈ B' := by
        have hb : b ∈ a :: B' := hb
        exact (List.mem_cons.mp hb).resolve_left ne
      rcases mem b hb with q | q
      · have ho : b ∈ (ρ1.pt i).own (W i) := by rw [hc, hW]; simpa [Cell.own] using List.mem_cons_of_mem _ q
        exact ⟨r1.new i b ho, fun j hj => ⟨(Bk b q).2.2 j hj, fun z => r1.sh j i b z ho⟩⟩
      · exact ⟨(hA.2 b q).1, fun j _ => ⟨An b q j, (hA.2 b q).2 j⟩⟩
theorem Reps.split : ∀ {vs : List V} {ds : List D} {A : List Addr} {j : Nat} {d : D}, Reps K H vs ds A → ds[j]? = some d → ∃ A1 Aj A3 w, A = A1 ++ (Aj ++ A3) ∧ vs[j]? = some w ∧ Rep K H w d Aj ∧ Reps K H (vs.take j) (ds.take j) A1 ∧ Reps K H (vs.drop (j + 1)) (ds.drop (j + 1)) A3
  | _, _, _, _, _, .nil, h => by simp at h
  | _, _, _, 0, d, .cons (v := v) (A := A) (B := B) r rs, h => by
    simp at h; subst h
    exact ⟨[], A, B, v, rfl, rfl, r, .nil, rs⟩
  | _, _, _, j + 1, d, .cons (v := v) (A := A) (B := B) r rs, h => by
    obtain ⟨A1, Aj, A3, w, e, hw, rj, r1, r3⟩ := Reps.split (j := j) rs (by simpa using h)
    exact ⟨A ++ A1, Aj, A3, w, by rw [e]; simp, by simpa using hw, rj, .cons r r1, r3⟩
end
section
variable {t : Tab} {Γ : List SpD}
theorem sns_app {i : Nat} {c : Ex} (hc : Snd t Γ c) : SndS t Γ (.app i c) := fun X nm g st ok H0 Z ρ σ H W E D r w eo => by
  simp only [okS] at ok
  split at ok
  · rename_i ex m ap e cp pos
    simp only [Bool.and_eq_true, beq_iff_eq] at ok
    obtain ⟨⟨⟨o1, rfl⟩, o3⟩, o4⟩ := ok
    obtain ⟨x, p, rfl, h1, h2, h3, h4⟩ := okV_inv o1
    have k1 : ∀ env, starEach [e] env = (false, eval e env) :: starEach [] env := fun env => star1 (okE_odd c o3)
    obtain ⟨hL, w⟩ := w
    -- what stands at the name ahead of the argument
    have live : (ρ.pt i).live = true := by
      cases q : ρ.pt i <;> rw [q] at hL <;> first | rfl | exact hL.elim
    obtain ⟨v0, hv, rv0⟩ := r.rep i live
    have h0 : ∃ ds, ρ.pt i = .tp (.lst ds) ∨ ρ.pt i = .dp (.lst ds) := by
      cases q : ρ.pt i with
      | un => rw [q] at hL; exact hL.elim
      | fz d => rw [q] at hL; exact hL.elim
      | ln d => rw [q] at hL; exact hL.elim
      | tp d => rw [q] at hL; cases d <;> first | exact ⟨_, .inl rfl⟩ | exact hL.elim
      | dp d => rw [q] at hL; cases d <;> first | exact ⟨_, .inr rfl⟩ | exact hL.elim
    obtain ⟨ds0, hc0⟩ := h0
    obtain ⟨a, vs0, B, rfl, hW, ea0, ra0, hown⟩ := own_root hc0 rv0
    refine ssOf (ps_expr (pe_bm PySem.F.plainAttrs_list PySem.F.slot_list_append PySem.F.type_list_append mt_append (pe_var (by rw [g.N]; exact h1) (g.vis h2) h3 h4) (pa_cons peS pa_nil (k1 _)) rfl (by rw [k1]; rfl) (by simp [o4]) (k1 _) rfl) rfl) ?_
    refine ⟨.ref a, hv, .inl ⟨rfl, _, SqL.of ea0⟩, ?_⟩
    refine hc.e X nm _ g e o3 .own H0 Z ρ σ H W _ _ r w fun d l ρ1 v H1 A w1 o => ?_
    have r1 := (r.dem o.dem).mono o.same
    have ea : H1 a = some (.lst vs0) := o.same _ _ ea0
    -- the place behind the argument
    have fin : ∀ (c1 c' : Cell) (ds : List R.D), ρ1.pt i = c1 → (c1 = .tp (.lst ds) ∨ c1 = .dp (.lst ds)) → ds.length < sizeLine → (c' = .tp (.lst (ds ++ [d])) ∨ (c' = .dp (.lst (ds ++ [d])) ∧ c1 = .dp (.lst ds) ∧ (d.imm = true ∨ l = .deep))) → E.nx (ρ1.set i c') → rAppend (.ref a) [v] H1 (fun _ H1 => D.nx σ H1) := fun c1 c' ds hc1 h h' hz k => by
      have live1 : (ρ1.pt i).live = true := by rw [hc1]; rcases h with rfl | rfl <;> rfl
      obtain ⟨v1, hv1, rv1⟩ := r1.rep i live1
      rw [hv] at hv1
      cases hv1
      rw [hc1] at rv1
      obtain ⟨a', vs, B', e1, hW1, ea1, ra1, hown1⟩ := own_root h rv1
      cases e1
      rw [ea] at ea1
      cases ea1
      rw [hW] at hW1
      cases hW1
      have naA : a ∉ A := fun z => by
        have h1 : a ∈ (ρ1.pt i).own (W i) := by rw [hc1]; exact hown1
        have : a ∈ pO .own l d A ∨ a ∈ pS .own l d A := by
          simp only [pO, pS]
          cases l <;> simp only [lvC, Cell.own, Cell.shr]
          · exact .inr z
          · split
            · rw [← List.take_append_drop 1 A] at z
              exact List.mem_append.mp z
            · exact .inr z
          · exact .inl z
        rcases this with q | q
        · exact ((o.cl.o a q).2 i).1 h1
        · exact (o.cl.s a q).2.2.2 i h1
      have naB : a ∉ B := fun z => by
        rcases h with q | q
        · have hs : a ∈ (ρ1.pt i).shr (W i) := by rw [hc1, q, hW]; simpa [Cell.shr, R.D.isM] using z
          exact r1.sh i i a hs (by rw [hc1]; exact hown1)
        · have n := r1.nd i
          rw [hc1, q, hW] at n
          have n : (a :: B).Nodup := n
          exact (List.nodup_cons.mp n).1 z
      have mu : Mut (.lst vs0) := True.intro
      refine ⟨a, vs0, v, rfl, rfl, ea, by rw [ra1.length]; exact h', ?_⟩
      refine eo.nx _ _ _ _ (r.kids o hc1 h hz hv hW ea (vs' := vs0 ++ [v]) (B' := B ++ A) ?_ (fun b hb => List.mem_append.mp hb) fun n1 n2 n3 => ?_) k
      · exact (ra1.upd naB ea mu).append (Reps.one (o.rep.upd naA ea mu))
      · exact List.nodup_append.mpr ⟨n1, n2, fun b hb c hc e => n3 b hb (e ▸ hc)⟩
    -- the ways
    unfold appC at w1
    split at w1
    · rename_i ds hc1
      exact fin _ _ ds hc1 (.inl rfl) w1.1 (.inl rfl) w1.2
    · rename_i ds hc1
      by_cases q : (d.imm || isDeep l) = true
      · rw [if_pos q] at w1
        refine fin _ _ ds hc1 (.inr rfl) w1.1 (.inr ⟨rfl, rfl, ?_⟩) w1.2
        simp only [Bool.or_eq_true] at q
        rcases q with q | q
        · exact .inl q
        · right; cases l <;> first | rfl | cases q
      · rw [if_neg q] at w1
        exact fin _ _ ds hc1 (.inr rfl) w1.1 (.inl rfl) w1.2
    · exact w1.elim
  · cases ok
end
end R

namespace R
open PySem PySem.Spec PyProof.Rows L2
theorem set_eq_take_drop {α : Type} (l : List α) (j : Nat) (x : α) (h : j < l.length) : l.set j x = l.take j ++ ([x] ++ l.drop (j + 1)) := by
  rw [List.set_eq_take_append_cons_drop, if_pos h]; rfl
section
variable {t : Tab} {Γ : List SpD}
def rSetA (K : PySem.W.Frag) : TSet := fun o i v H Q => rSetL o i v H Q ∨ rSetD o i v H Q
theorem set_all {X : Cx} (hu : X.A.units + 1 < cLine) : PSet X (rSetA X.K) := by
  intro pins s σ H o i v ov iv u Q I ro ri rv h
  rcases h with h | h
  · exact set_list pins s σ H o i v ov iv u Q I ro ri rv h
  · exact set_dict hu pins s σ H o i v ov iv u Q I ro ri rv h
theorem sns_put {i : Nat} {k c : Ex} (hk : Snd t Γ k) (hc : Snd t Γ c) : SndS t Γ (.put i k c) := fun X nm g st ok H0 Z ρ σ H W E D r w eo => by
  simp only [okS] at ok
  split at ok
  · rename_i ex ek p e pos
    simp only [Bool.and_eq_true, Bool.not_eq_true'] at ok
    obtain ⟨⟨⟨o1, o2⟩, o3⟩, o4⟩ := ok
    obtain ⟨x, p', rfl, h1, h2, h3, h4⟩ := okV_inv o1
    have oddk := okE_odd k o2
    refine ssOf (ps_asg peS (pg_sub (pe_var (by rw [g.N]; exact h1) (g.vis h2) h3 h4) peS (set_all (by have := g.room.un; omega)) (by
      intro v
      cases ek <;> first | rfl | (simp [odd] at oddk))) (show swapsWithSole [(Expr.Name x p').Subscript ek p] e pos.line X.env = pure false from sw_pure (tg := some ((Expr.Name x p').Subscript ek p)) (l := pos.line) (env := X.env) o4) (by cases e <;> rfl) rfl) ?_
    refine hc.e X nm _ g e o3 .own H0 Z ρ σ H W _ _ r w fun d l ρ1 v H1 A w1 o => ?_
    have r1 := (r.dem o.dem).mono o.same
    obtain ⟨hL, w1⟩ := w1
    have h0 : (∃ ds, ρ1.pt i = .tp (.lst ds) ∨ ρ1.pt i = .dp (.lst ds)) ∨ ∃ ks ds, ρ1.pt i = .dp (.dic ks ds) := by
      cases q : ρ1.pt i with
      | un => rw [q] at hL; exact hL.elim
      | fz d => rw [q] at hL; exact hL.elim
      | ln d => rw [q] at hL; exact hL.elim
      | tp d => rw [q] at hL; cases d <;> first | exact .inl ⟨_, .inl rfl⟩ | exact hL.elim
      | dp d => rw [q] at hL; cases d <;> first | exact .inl ⟨_, .inr rfl⟩ | exact .inr ⟨_, _, rfl⟩ | exact hL.elim
    rcases h0 with ⟨ds, hcd⟩ | ⟨ks, ds, hcd⟩
    rotate_left
    · obtain ⟨v0, hv, rv0⟩ := r1.rep i (by rw [hcd]; rfl)
      rw [hcd] at rv0
      obtain ⟨a, vs, B, rfl, hW, ea1, hl, ra1⟩ := Rep.dic_inv rv0
      refine ⟨.ref a, hv, ?_⟩
      refine hk.e X nm _ g ek o2 .bor H0 Z ρ1 σ H1 W _ _ r1 w1 fun y ly ρy vy H2 A2 w2 oy => ?_
      rw [hcd] at w2
      have w2 : ∃ k, dKey y = some k ∧ ks.length < sizeLine ∧ R.D.immL ds = true ∧ d.imm = true ∧ E.nx (ρ1.set i (.dp (.dic (dPutK ks k) (dPutV ks ds k d)))) := by cases y <;> exact w2
      obtain ⟨kk, hkk, hz, im, imd, k⟩ := w2
      obtain rfl := oy.rep.key hkk
      have ea := oy.same _ _ ea1
      have ra := ra1.same oy.same
      obtain rfl := ra.imm im
      have rv := o.rep.same oy.same
      obtain rfl := rv.imm imd
      have mu : Mut (.dK (ks.zip vs)) := True.intro
      obtain ⟨ws, e1, e2, e3⟩ := dPut_rep (ra.upd (p := a) (o' := .dK (putK (ks.zip vs) kk v)) List.not_mem_nil ea mu) (rv.upd (p := a) (o' := .dK (putK (ks.zip vs) kk v)) List.not_mem_nil ea mu) hl
      refine .inr ⟨a, _, rfl, .k ea (by rw [List.length_zip, ← hl, Nat.min_self]; exact hz), ?_⟩
      refine eo.nx _ _ _ _ ((r1.mono oy.same).within hcd hv (by rw [hW]; exact List.mem_cons_self ..) ea mu ?_) k
      rw [hW]
      exact .dic (by rw [upd_same, e1]) e2 e3
    have live : (ρ1.pt i).live = true := by rcases hcd with q | q <;> rw [q] <;> rfl
    obtain ⟨v0, hv, rv0⟩ := r1.rep i live
    obtain ⟨a, vs, B, rfl, hW, ea1, ra1, hown⟩ := own_root hcd rv0
    refine ⟨.ref a, hv, ?_⟩
    refine hk.e X nm _ g ek o2 .bor H0 Z ρ1 σ H1 W _ _ r1 w1 fun y ly ρy vy H2 A2 w2 oy => ?_
    have ea : H2 a = some (.lst vs) := oy.same _ _ ea1
    have ra := ra1.same oy.same
    have o' : Out X.K Z .own ρ H W d l ρ1 v H2 A := ⟨o.rep.same oy.same, o.same.trans oy.same, o.dem, o.cl⟩
    have fin : ∀ (c' : Cell) (kk : Int) (j : Nat), vy = .int kk → ixN ds.length kk = some j → (c' = .tp (.lst (ds.set j d)) ∨ (c' = .dp (.lst (ds.set j d)) ∧ ρ1.pt i = .dp (.lst ds) ∧ (d.imm = true ∨ l = .deep))) → E.nx (ρ1.set i c') → rSetL (.ref a) vy v H2 fun H3 => D.nx σ H3 := fun c' kk j ey hj h' k => by
      have hjl : j < ds.length := (ixN_seq hj).2.1
      obtain ⟨A1, Aj, A3, w0, eB, hw, rj, ra1', ra3⟩ := ra.split (List.getElem?_eq_getElem hjl)
      have naA : a ∉ A := fun z => by
        have : a ∈ pO .own l d A ∨ a ∈ pS .own l d A := by
          simp only [pO, pS]
          cases l <;> simp only [lvC, Cell.own, Cell.shr]
          · exact .inr z
          · split
            · rw [← List.take_append_drop 1 A] at z
              exact List.mem_append.mp z
            · exact .inr z
          · exact .inl z
        rcases this with q | q
        · exact ((o.cl.o a q).2 i).1 hown
        · exact (o.cl.s a q).2.2.2 i hown
      have naB : a ∉ B := fun z => by
        rcases hcd with q | q
        · have hs : a ∈ (ρ1.pt i).shr (W i) := by rw [q, hW]; simpa [Cell.shr, R.D.isM] using z
          exact r1.sh i i a hs hown
        · have n := r1.nd i
          rw [q, hW] at n
          have n : (a :: B).Nodup := n
          exact (List.nodup_cons.mp n).1 z
      have mu : Mut (.lst vs) := True.intro
      have jl : j < vs.length := by rw [ra.length]; exact hjl
      refine ⟨a, vs, kk, j, rfl, ey, ea, by rw [ra.length]; exact hj, ?_⟩
      have e1 := set_eq_take_drop vs j v jl
      have e2 := set_eq_take_drop ds j d hjl
      refine eo.nx _ _ _ _ (r.kids o' rfl hcd h' hv hW ea (vs' := vs.set j v) (B' := A1 ++ (A ++ A3)) ?_ (fun b hb => ?_) fun n1 n2 n3 => ?_) k
      · rw [e1, e2]
        have n1 : a ∉ A1 := fun z => naB (by rw [eB]; exact List.mem_append_left _ z)
        have n3 : a ∉ A3 := fun z => naB (by rw [eB]; exact List.mem_append_right _ (List.mem_append_right _ z))
        exact (ra1'.upd n1 ea mu).append ((Reps.one (o'.rep.upd naA ea mu)).append (ra3.upd n3 ea mu))
      · rw [eB]
        simp only [List.mem_append] at hb ⊢
        rcases hb with h | h | h <;> simp [h]
      · rw [eB] at n1 n3
        obtain ⟨p1, p2, p3⟩ := List.nodup_append.mp n1
        obtain ⟨q1, q2, q3⟩ := List.nodup_append.mp p2
        refine List.nodup_append.mpr ⟨p1, List.nodup_append.mpr ⟨n2, q2, fun b hb c hc e => n3 c (by simp [hc]) (e ▸ hb)⟩, fun b hb c hc e => ?_⟩
        subst e
        rcases List.mem_append.mp hc with z | z
        · exact n3 b (by simp [hb]) z
        · exact p3 b hb b (List.mem_append_right _ z) rfl
    refine .inl ?_
    unfold putC at w2
    split at w2
    · rename_i xs kk hc1
      have e1 : ds = xs := by rcases hcd with q | q <;> rw [q] at hc1 <;> cases hc1; rfl
      subst e1
      obtain ⟨j, hj, k⟩ := w2
      exact fin _ _ j oy.rep.int_inv.1 hj (.inl rfl) k
    · rename_i xs kk hc1
      have e1 : ds = xs := by rcases hcd with q | q <;> rw [q] at hc1 <;> cases hc1; rfl
      subst e1
      obtain ⟨j, hj, k⟩ := w2
      by_cases q : (d.imm || isDeep l) = true
      · rw [if_pos q] at k
        refine fin _ _ j oy.rep.int_inv.1 hj (.inr ⟨rfl, hc1, ?_⟩) k
        simp only [Bool.or_eq_true] at q
        rcases q with q | q
        · exact .inl q
        · right; cases l <;> first | rfl | cases q
      · rw [if_neg q] at k
        exact fin _ _ j oy.rep.int_inv.1 hj (.inl rfl) k
    · rename_i ks vs y hc1
      rcases hcd with q | q <;> rw [q] at hc1 <;> cases hc1
    · exact w2.elim
  · cases ok
theorem Reps.dropLast {K : PySem.W.Frag} {H : Hp} {vs : List V} {ds : List R.D} {A : List Addr} {y : R.D} (r : Reps K H vs ds A) (h : ds[ds.length - 1]? = some y) : ∃ B C v, A = B ++ C ∧ vs[vs.length - 1]? = some v ∧ Rep K H v y C ∧ Reps K H vs.dropLast ds.dropLast B := by
  have hl : ds.length - 1 < ds.length := (List.getElem?_eq_some_iff.mp h).1
  obtain ⟨A1, Aj, A3, w, e, hw, rj, r1, r3⟩ := r.split h
  have e1 : ds.length - 1 + 1 = ds.length := by omega
  rw [e1, List.drop_length] at r3
  have e3 : A3 = [] := by
    generalize vs.drop ds.length = x at r3
    cases r3; rfl
  subst e3
  refine ⟨A1, Aj, w, by rw [e]; simp, by rw [r.length]; exact hw, rj, ?_⟩
  rw [List.dropLast_eq_take, List.dropLast_eq_take, r.length]
  exact r1
/-- the last of a place's own list is taken off -/
theorem pop_ok {K : PySem.W.Frag} {H0 : Base} {H : Hp} {Z : List (Nat × Addr)} {ρ : Pl} {σ : L2.St} {W : Nat → List Addr} {i : Nat} {Kk : Cell → R.D → Lv → Prop} {Q : VK} (r : RL K H0 Z ρ σ H W) (w : popC (ρ.pt i) Kk)
    (q : ∀ c' y l v H' C W', Kk c' y l → RL K H0 Z (ρ.set i c') σ H' W' → Rep K H' v y C → (∀ b ∈ C, b ∉ Z.map (·.2) ∧ H0.u b) → (l = .froz → ∀ j, ∀ b ∈ C, b ∉ ((ρ.set i c').pt j).own (W' j)) →
      (l = .deep → C.Nodup ∧ ∀ b ∈ C, H0 b = none ∧ ∀ j, b ∉ ((ρ.set i c').pt j).own (W' j) ∧ b ∉ ((ρ.set i c').pt j).shr (W' j)) → (l = .froz ∨ l = .deep) → Q v H') :
    ∃ a xs, σ[i]? = some (some (.ref a)) ∧ H a = some (.lst xs) ∧ rPop (.ref a) [] H Q := by
  have main : ∀ (c c' : Cell) (ds : List R.D) (y : R.D) (l : Lv), ρ.pt i = c → ds[ds.length - 1]? = some y → ((c = .tp (.lst ds) ∧ c' = .tp (.lst ds.dropLast) ∧ l = .froz) ∨ (c = .dp (.lst ds) ∧ c' = .dp (.lst ds.dropLast) ∧ l = .deep)) → Kk c' y l →
      ∃ a xs, σ[i]? = some (some (.ref a)) ∧ H a = some (.lst xs) ∧ rPop (.ref a) [] H Q := fun c c' ds y l hc hy hcc k => by
    have h : c = .tp (.lst ds) ∨ c = .dp (.lst ds) := by rcases hcc with z | z; exact .inl z.1; exact .inr z.1
    have h' : c' = .tp (.lst ds.dropLast) ∨ c' = .dp (.lst ds.dropLast) := by rcases hcc with z | z; exact .inl z.2.1; exact .inr z.2.1
    have live : (ρ.pt i).live = true := by rw [hc]; rcases h with rfl | rfl <;> rfl
    have il : i < ρ.length := pt_lt (by intro z; rw [z] at live; cases live)
    obtain ⟨v0, hv, rv0⟩ := r.rep i live
    rw [hc] at rv0
    obtain ⟨a, vs, B, rfl, hW, ea, ra, hown⟩ := own_root h rv0
    obtain ⟨B1, C, v, eB, hl, ry, rd⟩ := ra.dropLast hy
    refine ⟨a, vs, hv, ea, a, vs, v, rfl, rfl, ea, hl, ?_⟩
    have own_a : a ∈ (ρ.pt i).own (W i) := by rw [hc]; exact hown
    have naB : a ∉ B := fun z => by
      rcases h with q | q
      · have hs : a ∈ (ρ.pt i).shr (W i) := by rw [hc, q, hW]; simpa [Cell.shr, R.D.isM] using z
        exact r.sh i i a hs own_a
      · have n := r.nd i
        rw [hc, q, hW] at n
        have n : (a :: B).Nodup := n
        exact (List.nodup_cons.mp n).1 z
    have mu : Mut (.lst vs) := True.intro
    have ra' : Reps K (upd H a (.lst vs.dropLast)) vs.dropLast ds.dropLast B1 := rd.upd (fun z => naB (by rw [eB]; exact List.mem_append_left _ z)) ea mu
    have ry' : Rep K (upd H a (.lst vs.dropLast)) v y C := ry.upd (fun z => naB (by rw [eB]; exact List.mem_append_right _ z)) ea mu
    have mB1 : ∀ b ∈ B1, b ∈ B := fun b hb => by rw [eB]; exact List.mem_append_left _ hb
    have mC : ∀ b ∈ C, b ∈ B := fun b hb => by rw [eB]; exact List.mem_append_right _ hb
    have at_i : (ρ.set i c').pt i = c' := pt_set_self il
    have at_j : ∀ j, j ≠ i → (ρ.set i c').pt j = ρ.pt j := fun j h => pt_set_ne (fun z => h z.symm)
    rcases hcc with ⟨rfl, rfl, rfl⟩ | ⟨rfl, rfl, rfl⟩
    · have hs : ∀ b ∈ B, b ∈ (ρ.pt i).shr (W i) := fun b hb => by rw [hc, hW]; simpa [Cell.shr, R.D.isM] using hb
      have r' := r.rewrite hc h (.inl rfl) hv hW ea ra' (by simp [Cell.own, R.D.isM]) (fun b hb ne => by simp [Cell.own, R.D.isM] at hb; exact absurd hb ne) (fun b hb => by
        have hb : b ∈ B1 := by simpa [Cell.shr, R.D.isM] using hb
        have z := hs b (mB1 b hb)
        have ne : b ≠ a := fun q => r.sh i i b z (q ▸ own_a)
        exact ⟨ne, by simp [Cell.own, R.D.isM]; exact ne, r.zsh i b z, fun j _ => r.sh i j b z⟩) (fun b hb => r.inu i b (hs b (mB1 b (by simpa [Cell.shr, R.D.isM] using hb))))
      refine q _ y .froz v _ C _ k r' ry' (fun b hb => ⟨r.zsh i b (hs b (mC b hb)), r.inu i b (hs b (mC b hb))⟩) (fun _ j b hb z => ?_) (fun z => by cases z) (.inl rfl)
      have s1 := hs b (mC b hb)
      by_cases e : j = i
      · subst e
        rw [at_i, upW_self] at z
        simp [Cell.own, R.D.isM] at z
        exact r.sh j j b s1 (z ▸ own_a)
      · rw [at_j j e, upW_ne e] at z
        exact r.sh i j b s1 z
    · have ho : ∀ b ∈ B, b ∈ (ρ.pt i).own (W i) := fun b hb => by rw [hc, hW]; simpa [Cell.own] using List.mem_cons_of_mem _ hb
      have n := r.nd i
      rw [hc, hW] at n
      have n : (a :: B).Nodup := n
      have nB := (List.nodup_cons.mp n).2
      rw [eB] at nB
      obtain ⟨p1, p2, p3⟩ := List.nodup_append.mp nB
      have r' := r.rewrite hc h (.inr rfl) hv hW ea ra' (List.nodup_cons.mpr ⟨fun z => naB (mB1 a z), p1⟩) (fun b hb ne => by
        have hb : b ∈ B1 := by
          have hb : b ∈ a :: B1 := hb
          exact (List.mem_cons.mp hb).resolve_left ne
        have z := ho b (mB1 b hb)
        exact ⟨r.new i b z, fun j hj => ⟨r.dj i j b (fun q => hj q.symm) z, fun q => r.sh j i b q z⟩⟩) (fun b hb => absurd hb List.not_mem_nil) (fun b hb => absurd hb List.not_mem_nil)
      refine q _ y .deep v _ C _ k r' ry' (fun b hb => ⟨r.zown (ho b (mC b hb)), r.fu b (r.new i b (ho b (mC b hb)))⟩) (fun z => by cases z) (fun _ => ⟨p2, fun b hb => ⟨r.new i b (ho b (mC b hb)), fun j => ?_⟩⟩) (.inr rfl)
      have z := ho b (mC b hb)
      by_cases e : j = i
      · subst e
        rw [at_i, upW_self]
        refine ⟨fun y => ?_, fun y => absurd y List.not_mem_nil⟩
        have y : b ∈ a :: B1 := y
        rcases List.mem_cons.mp y with rfl | y
        · exact naB (mC _ hb)
        · exact p3 b y b hb rfl
      · rw [at_j j e, upW_ne e]
        exact ⟨r.dj i j b (fun q => e q.symm) z, fun q => r.sh j i b q z⟩
  unfold popC at w
  split at w
  · rename_i xs hc
    obtain ⟨y, hy, k⟩ := w
    exact main _ _ xs y .froz hc hy (.inl ⟨rfl, rfl, rfl⟩) k
  · rename_i xs hc
    obtain ⟨y, hy, k⟩ := w
    exact main _ _ xs y .deep hc hy (.inr ⟨rfl, rfl, rfl⟩) k
  · exact w.elim
theorem sns_pop {i : Nat} : SndS t Γ (.pop i) := fun X nm g st ok H0 Z ρ σ H W E D r w eo => by
  simp only [okS] at ok
  split at ok
  · rename_i ex m ap cp pos
    simp only [Bool.and_eq_true, beq_iff_eq] at ok
    obtain ⟨⟨o1, rfl⟩, o4⟩ := ok
    obtain ⟨x, p, rfl, h1, h2, h3, h4⟩ := okV_inv o1
    obtain ⟨a, xs, hv, ea, rp⟩ := pop_ok (Kk := fun c _ _ => E.nx (ρ.set i c)) (Q := fun _ H1 => D.nx σ H1) r w fun c' y l v H' C W' k r' _ _ _ _ _ => eo.nx _ _ _ _ r' k
    refine ssOf (ps_expr (pe_bm0 PySem.F.plainAttrs_list PySem.F.slot_list_pop PySem.F.type_list_pop mt_pop (pe_var (by rw [g.N]; exact h1) (g.vis h2) h3 h4) rfl (by simp [o4])) rfl) ?_
    exact ⟨.ref a, hv, .inl ⟨rfl, _, SqL.of ea⟩, rp⟩
  · cases ok
theorem sns_popS {x i : Nat} : SndS t Γ (.popS x i) := fun X nm g st ok H0 Z ρ σ H W E D r w eo => by
  simp only [okS] at ok
  split at ok
  · rename_i ey ex m ap cp pos
    simp only [Bool.and_eq_true, beq_iff_eq] at ok
    obtain ⟨⟨⟨o0, o1⟩, rfl⟩, o4⟩ := ok
    obtain ⟨y, p, rfl, h1, h2, h3, h4⟩ := okV_inv o1
    obtain ⟨z, pz, rfl, k1, k2⟩ := okT1_inv o0
    obtain ⟨a, xs, hv, ea, rp⟩ := pop_ok (Kk := fun c y l => free ρ x ∧ x ≠ i ∧ E.nx ((ρ.set i c).set x (mkCell y l))) (Q := fun v H1 => gName x v σ H1 D.nx) r w fun c' y l v H' C W' k r' ry cz cf cd hl => by
      obtain ⟨f1, f2, k⟩ := k
      have f1' : free (ρ.set i c') x := by
        unfold free
        rw [List.length_set, pt_set_ne (fun z => f2 z.symm)]
        exact f1
      show D.nx (σ.set x (some v)) H'
      cases im : y.imm with
      | true =>
        have em : mkCell y l = .fz y := by unfold mkCell; rw [if_pos im]
        rw [em] at k
        have e := ry.imm im
        subst e
        exact eo.nx _ _ _ _ (r'.fz f1' ry (fun a h => absurd h List.not_mem_nil) fun a h => absurd h List.not_mem_nil) k
      | false =>
        have em : mkCell y l = lvC l y := by unfold mkCell; rw [if_neg (by rw [im]; exact Bool.false_ne_true)]; cases l <;> rfl
        rw [em] at k
        rcases hl with rfl | rfl
        · exact eo.nx _ _ _ _ (r'.fz f1' ry (fun a h => ⟨(cz a h).1, fun j => cf rfl j a h⟩) fun a h => (cz a h).2) k
        · obtain ⟨n, p⟩ := cd rfl
          exact eo.nx _ _ _ _ (r'.put (c := .dp y) (A := C) f1' (fun d z => by cases z) (fun _ => ry) n (fun a h => ⟨(p a h).1, fun j _ => (p a h).2 j⟩) (fun a h => absurd h List.not_mem_nil) fun a h => absurd h List.not_mem_nil) k
    have hLoc : L2.Loc X.env.scope z := by
      unfold L2.Loc; rw [g.nm]; rcases k2 with q | q
      · exact .inl q
      · exact .inr q.1
    refine ssOf (ps_set (i := x) g.nd (by rw [g.N]; exact k1) hLoc (pe_bm0 PySem.F.plainAttrs_list PySem.F.slot_list_pop PySem.F.type_list_pop mt_pop (pe_var (by rw [g.N]; exact h1) (g.vis h2) h3 h4) rfl (by simp [o4])) rfl (.inl (g.fn z rfl))) ?_
    exact ⟨.ref a, hv, .inl ⟨rfl, _, SqL.of ea⟩, rp⟩
  · cases ok
/-! ### appends within -/
/-- a part's place, in every later heap -/
inductive PathTo (K : PySem.W.Frag) (H : Hp) : V → List Int → Addr → Prop where
  | nil {p : Addr} : PathTo K H (.ref p) [] p
  | cons {v w : V} {k : Int} {is : List Int} {p : Addr} : (∀ H2, Same H H2 → ∀ Q : VK, Q w H2 → rIx K v (.int k) H2 Q) → PathTo K H w is p → PathTo K H v (k :: is) p
section
variable {K : PySem.W.Frag} {H : Hp}
theorem appAt_ok : ∀ (ks : List R.D) {d : R.D} {v : V} {A : List Addr}, Rep K H v d A → A.Nodup → (D.appAt d ks .non).isSome = true →
    ∃ (is : List Int) (p : Addr) (vs : List V), ks = is.map .int ∧ PathTo K H v is p ∧ p ∈ A ∧ H p = some (.lst vs) ∧ vs.length < sizeLine ∧
      ∀ (H2 : Hp), Same H H2 → ∀ x xd, Rep K H2 x xd [] → ∃ z, D.appAt d ks xd = some z ∧ Rep K (upd H2 p (.lst (vs ++ [x]))) v z A
  | [], d, v, A, r, nd, h => by
    cases d <;> try (simp [D.appAt] at h; done)
    rename_i xs
    obtain ⟨a, vs, B, rfl, rfl, ea, ra⟩ := r.lst_inv
    have nB : a ∉ B := (List.nodup_cons.mp nd).1
    have hz : xs.length < sizeLine := by
      by_cases q : xs.length < sizeLine
      · exact q
      · simp [D.appAt, q] at h
    refine ⟨[], a, vs, rfl, .nil, List.mem_cons_self .., ea, by rw [ra.length]; exact hz, fun H2 s x xd rx => ⟨.lst (xs ++ [xd]), by simp [D.appAt, hz], .lst upd_same ?_⟩⟩
    have := ((ra.same s).upd (o' := .lst (vs ++ [x])) nB (s _ _ ea) True.intro).append (Reps.one (rx.upd (p := a) (o' := .lst (vs ++ [x])) List.not_mem_nil (s _ _ ea) True.intro))
    rwa [List.append_nil] at this
  | k0 :: ks, d, v, A, r, nd, h => by
    have hk : ∃ k : Int, k0 = .int k := by cases d <;> cases k0 <;> first | exact ⟨_, rfl⟩ | (simp [D.appAt] at h)
    obtain ⟨k, rfl⟩ := hk
    have key : ∀ (xs : List R.D) (vs : List V) (B : List Addr) (F : List R.D → R.D), Reps K H vs xs B → B.Nodup → ((ixN xs.length k).bind fun j => (xs[j]?).bind fun y => (D.appAt y ks .non).map fun z => F (xs.set j z)).isSome = true →
        ∃ (is : List Int) (p : Addr) (us : List V) (w : V), ks = is.map .int ∧ L2.atI vs k = some w ∧ PathTo K H w is p ∧ p ∈ B ∧ H p = some (.lst us) ∧ us.length < sizeLine ∧
          ∀ (H2 : Hp), Same H H2 → ∀ x xd, Rep K H2 x xd [] → ∃ zs, ((ixN xs.length k).bind fun j => (xs[j]?).bind fun y => (D.appAt y ks xd).map fun z => F (xs.set j z)) = some (F zs) ∧ Reps K (upd H2 p (.lst (us ++ [x]))) vs zs B := fun xs vs B F rs nB h => by
      cases hj : ixN xs.length k with
      | none => rw [hj] at h; cases h
      | some j =>
        rw [hj] at h
        have h : ((xs[j]?).bind fun y => (D.appAt y ks .non).map fun z => F (xs.set j z)).isSome = true := h
        cases hy : xs[j]? with
        | none => rw [hy] at h; cases h
        | some y =>
          rw [hy] at h
          have h : ((D.appAt y ks .non).map (fun z => F (xs.set j z))).isSome = true := h
          rw [Option.isSome_map] at h
          have hjl : j < xs.length := (List.getElem?_eq_some_iff.mp hy).1
          obtain ⟨A1, Aj, A3, w, eB, hw, rj, r1, r3⟩ := rs.split hy
          rw [eB] at nB
          obtain ⟨n1, n2, n3⟩ := List.nodup_append.mp nB
          obtain ⟨m1, m2, m3⟩ := List.nodup_append.mp n2
          obtain ⟨is, p, us, e1, pt, hp, ep, hz, fin⟩ := appAt_ok ks rj m1 h
          refine ⟨is, p, us, w, e1, by unfold L2.atI; rw [rs.length, hj]; exact hw, pt, by rw [eB]; simp [hp], ep, hz, fun H2 s x xd rx => ?_⟩
          obtain ⟨z, ez, rz⟩ := fin H2 s x xd rx
          refine ⟨xs.set j z, by rw [Option.bind_some, hy, Option.bind_some, ez]; rfl, ?_⟩
          have p1 : p ∉ A1 := fun q => n3 p q p (List.mem_append_left _ hp) rfl
          have p3 : p ∉ A3 := fun q => m3 p hp p q rfl
          have hv : vs = vs.take j ++ ([w] ++ vs.drop (j + 1)) := by
            have jl : j < vs.length := by rw [rs.length]; exact hjl
            have := set_eq_take_drop vs j w jl
            rw [← this]
            apply List.ext_getElem?
            intro m
            by_cases q : j = m
            · subst q; rw [List.getElem?_set_self jl, hw]
            · rw [List.getElem?_set_ne q]
          rw [set_eq_take_drop xs j z hjl, eB]
          rw [hv]
          have e2 := s _ _ ep
          exact ((r1.same s).upd p1 e2 True.intro).append ((Reps.one rz).append ((r3.same s).upd p3 e2 True.intro))
    cases d <;> try (simp [D.appAt] at h; done)
    · rename_i xs
      obtain ⟨a, vs, rfl, ea, ra⟩ := r.tup_inv
      obtain ⟨is, p, us, w, rfl, hat, pt, hp, ep, hz, fin⟩ := key xs vs A .tup ra nd (by simpa only [D.appAt] using h)
      have hpa : a ≠ p := fun z => by subst z; rw [ea] at ep; cases ep
      refine ⟨k :: is, p, us, rfl, .cons (fun H2 s Q q => .inr (.inl ⟨a, vs, k, w, rfl, rfl, SqT.of (s _ _ ea), hat, q⟩)) pt, hp, ep, hz, fun H2 s x xd rx => ?_⟩
      obtain ⟨zs, e, rz⟩ := fin H2 s x xd rx
      exact ⟨.tup zs, by simpa only [D.appAt] using e, .tup (by rw [upd_ne hpa]; exact s _ _ ea) rz⟩
    · rename_i xs
      obtain ⟨a, vs, B, rfl, rfl, ea, ra⟩ := r.lst_inv
      obtain ⟨nB, nd⟩ := List.nodup_cons.mp nd
      obtain ⟨is, p, us, w, rfl, hat, pt, hp, ep, hz, fin⟩ := key xs vs B .lst ra nd (by simpa only [D.appAt] using h)
      have hpa : a ≠ p := fun z => nB (z ▸ hp)
      refine ⟨k :: is, p, us, rfl, .cons (fun H2 s Q q => .inl ⟨a, vs, k, w, rfl, rfl, SqL.of (s _ _ ea), hat, q⟩) pt, List.mem_cons_of_mem _ hp, ep, hz, fun H2 s x xd rx => ?_⟩
      obtain ⟨zs, e, rz⟩ := fin H2 s x xd rx
      exact ⟨.lst zs, by simpa only [D.appAt] using e, .lst (by rw [upd_ne hpa]; exact s _ _ ea) rz⟩
end
theorem appOk_inv {c : Cell} {ks : List R.D} (h : appOk c ks) : ∃ x, c = .dp x ∧ (D.appAt x ks .non).isSome = true := by
  unfold appOk at h
  split at h
  · exact ⟨_, rfl, h⟩
  · exact h.elim
theorem sns_app1 {i : Nat} {k c : Ex} (hk : Snd t Γ k) (hc : Snd t Γ c) : SndS t Γ (.app1 i k c) := fun X nm g st ok H0 Z ρ σ H W E D r w eo => by
  simp only [okS] at ok
  split at ok
  · rename_i ex ek p1 m ap e cp pos
    simp only [Bool.and_eq_true, beq_iff_eq] at ok
    obtain ⟨⟨⟨⟨o1, o2⟩, rfl⟩, o3⟩, o4⟩ := ok
    obtain ⟨x, p, rfl, h1, h2, h3, h4⟩ := okV_inv o1
    have k1 : ∀ env, starEach [e] env = (false, eval e env) :: starEach [] env := fun env => star1 (okE_odd c o3)
    refine ssOf (ps_expr (pe_bm PySem.F.plainAttrs_list PySem.F.slot_list_append PySem.F.type_list_append mt_append (pe_ix ix_seq (pe_var (by rw [g.N]; exact h1) (g.vis h2) h3 h4) peS (plainIx (okE_odd k o2))) (pa_cons peS pa_nil (k1 _)) rfl (by rw [k1]; rfl) (by simp [o4]) (k1 _) rfl) rfl) ?_
    obtain ⟨live, w⟩ := w
    obtain ⟨v0, hv, rv0⟩ := r.rep i live
    refine ⟨v0, hv, ?_⟩
    refine hk.e X nm _ g ek o2 .bor H0 Z ρ σ H W _ _ r w fun y ly ρy vy H1 A1 w1 oy => ?_
    obtain ⟨ao, w1⟩ := w1
    obtain ⟨dx, hc0, hao⟩ := appOk_inv ao
    have nd := r.nd i
    rw [hc0] at nd rv0 w1
    obtain ⟨is, p, us, e1, pt, hp, ep, hz, fin⟩ := appAt_ok [y] (rv0.same oy.same) nd hao
    cases is with
    | nil => cases e1
    | cons n r' =>
      cases r' with
      | cons n2 r' => cases e1
      | nil =>
        cases e1
        obtain ⟨rfl, _⟩ := oy.rep.int_inv
        cases pt with
        | cons ix pt =>
          cases pt
          refine ix H1 Same.refl _ ⟨.inl ⟨rfl, _, SqL.of ep⟩, ?_⟩
          have r1 := r.mono oy.same
          refine hc.e X nm _ g e o3 .bor H0 Z ρ σ H1 W _ _ r1 w1 fun d l ρ1 v H2 A w2 o => ?_
          obtain ⟨im, w2⟩ := w2
          have rv := o.rep
          obtain rfl := rv.imm im
          obtain ⟨z, ez, rz⟩ := fin H2 o.same v d rv
          have e2 := o.same _ _ ep
          refine ⟨p, us, v, rfl, rfl, e2, hz, ?_⟩
          have w2 : E.nx (ρ.set i (.dp ((R.D.appAt dx [.int n] d).getD dx))) := w2
          have ez : R.D.appAt dx _ d = some z := ez
          rw [ez] at w2
          exact eo.nx _ _ _ _ ((r1.mono o.same).within hc0 hv hp e2 True.intro rz) w2
  · cases ok
theorem sns_app2 {i : Nat} {n n2 : Int} {c : Ex} (hc : Snd t Γ c) : SndS t Γ (.app2 i n n2 c) := fun X nm g st ok H0 Z ρ σ H W E D r w eo => by
  simp only [okS] at ok
  split at ok
  · rename_i ex j1 q1 q2 p1 j2 q3 q4 p2 m ap e cp pos
    simp only [Bool.and_eq_true, beq_iff_eq] at ok
    obtain ⟨⟨⟨⟨⟨o1, rfl⟩, rfl⟩, rfl⟩, o3⟩, o4⟩ := ok
    obtain ⟨x, p, rfl, h1, h2, h3, h4⟩ := okV_inv o1
    have k1 : ∀ env, starEach [e] env = (false, eval e env) :: starEach [] env := fun env => star1 (okE_odd c o3)
    refine ssOf (ps_expr (pe_bm PySem.F.plainAttrs_list PySem.F.slot_list_append PySem.F.type_list_append mt_append (pe_ix ix_seq (pe_ix ix_seq (pe_var (by rw [g.N]; exact h1) (g.vis h2) h3 h4) pe_int (plainIx rfl)) pe_int (plainIx rfl)) (pa_cons peS pa_nil (k1 _)) rfl (by rw [k1]; rfl) (by simp [o4]) (k1 _) rfl) rfl) ?_
    obtain ⟨ao, w⟩ := w
    obtain ⟨dx, hc0, hao⟩ := appOk_inv ao
    obtain ⟨v0, hv, rv0⟩ := r.rep i (by rw [hc0]; rfl)
    have nd := r.nd i
    rw [hc0] at nd rv0 w
    obtain ⟨is, p, us, e1, pt, hp, ep, hz, fin⟩ := appAt_ok [.int n, .int n2] rv0 nd hao
    have es : is = [n, n2] := by
      cases is with
      | nil => cases e1
      | cons a r' => cases r' with
        | nil => cases e1
        | cons b r' => cases r' with
          | nil => cases e1; rfl
          | cons c r' => cases e1
    subst es
    cases pt with
    | cons ix pt =>
      cases pt with
      | cons ix2 pt =>
        cases pt
        refine ⟨v0, hv, ix H Same.refl _ (ix2 H Same.refl _ ⟨.inl ⟨rfl, _, SqL.of ep⟩, ?_⟩)⟩
        refine hc.e X nm _ g e o3 .bor H0 Z ρ σ H W _ _ r w fun d l ρ1 v H2 A w2 o => ?_
        obtain ⟨im, w2⟩ := w2
        have rv := o.rep
        obtain rfl := rv.imm im
        obtain ⟨z, ez, rz⟩ := fin H2 o.same v d rv
        have e2 := o.same _ _ ep
        refine ⟨p, us, v, rfl, rfl, e2, hz, ?_⟩
        have w2 : E.nx (ρ.set i (.dp ((R.D.appAt dx [.int n, .int n2] d).getD dx))) := w2
        have ez : R.D.appAt dx _ d = some z := ez
        rw [ez] at w2
        exact eo.nx _ _ _ _ ((r.mono o.same).within hc0 hv hp e2 True.intro rz) w2
  · cases ok
/-! ### extend -/
theorem sns_ext {i : Nat} {c : Ex} (hc : Snd t Γ c) : SndS t Γ (.ext i c) := fun X nm g st ok H0 Z ρ σ H W E D r w eo => by
  simp only [okS] at ok
  split at ok
  · rename_i ex m ap e cp pos
    simp only [Bool.and_eq_true, beq_iff_eq] at ok
    obtain ⟨⟨⟨o1, rfl⟩, o3⟩, o4⟩ := ok
    obtain ⟨x, p, rfl, h1, h2, h3, h4⟩ := okV_inv o1
    have k1 : ∀ env, starEach [e] env = (false, eval e env) :: starEach [] env := fun env => star1 (okE_odd c o3)
    obtain ⟨hL, w⟩ := w
    have live : (ρ.pt i).live = true := by
      cases q : ρ.pt i <;> rw [q] at hL <;> first | rfl | exact hL.elim
    obtain ⟨v0, hv, rv0⟩ := r.rep i live
    have h0 : ∃ ds, ρ.pt i = .tp (.lst ds) ∨ ρ.pt i = .dp (.lst ds) := by
      cases q : ρ.pt i with
      | un => rw [q] at hL; exact hL.elim
      | fz d => rw [q] at hL; exact hL.elim
      | ln d => rw [q] at hL; exact hL.elim
      | tp d => rw [q] at hL; cases d <;> first | exact ⟨_, .inl rfl⟩ | exact hL.elim
      | dp d => rw [q] at hL; cases d <;> first | exact ⟨_, .inr rfl⟩ | exact hL.elim
    obtain ⟨ds0, hc0⟩ := h0
    obtain ⟨a, vs0, B, rfl, hW, ea0, ra0, hown⟩ := own_root hc0 rv0
    refine ssOf (ps_expr (pe_bm PySem.F.plainAttrs_list PySem.F.slot_list_extend PySem.F.type_list_extend mt_extend (pe_var (by rw [g.N]; exact h1) (g.vis h2) h3 h4) (pa_cons peS pa_nil (k1 _)) rfl (by rw [k1]; rfl) (by simp [o4]) (k1 _) rfl) rfl) ?_
    refine ⟨.ref a, hv, .inl ⟨rfl, _, SqL.of ea0⟩, ?_⟩
    refine hc.e X nm _ g e o3 .bor H0 Z ρ σ H W _ _ r w fun y l ρ1 v H1 A w1 o => ?_
    have r1 := r.mono o.same
    have ea : H1 a = some (.lst vs0) := o.same _ _ ea0
    have fin : ∀ (c' : Cell) (ys : List R.D), y = .lst ys → (c' = .tp (.lst (ds0 ++ ys)) ∨ (c' = .dp (.lst (ds0 ++ ys)) ∧ ρ.pt i = .dp (.lst ds0))) → R.D.immL ys = true → ds0.length + ys.length ≤ sizeLine → E.nx (ρ.set i c') → rExtend (.ref a) [v] H1 (fun _ H1 => D.nx σ H1) := fun c' ys ey h' im hz k => by
      subst ey
      obtain ⟨b, us, C, rfl, rfl, eb, rb⟩ := o.rep.lst_inv
      obtain rfl := rb.imm im
      have naB : a ∉ B := fun z => by
        rcases hc0 with q | q
        · have hs : a ∈ (ρ.pt i).shr (W i) := by rw [q, hW]; simpa [Cell.shr, R.D.isM] using z
          exact r.sh i i a hs hown
        · have n := r.nd i
          rw [q, hW] at n
          have n : (a :: B).Nodup := n
          exact (List.nodup_cons.mp n).1 z
      have mu : Mut (.lst vs0) := True.intro
      refine ⟨a, b, vs0, us, rfl, rfl, ea, eb, by rw [ra0.length, rb.length]; exact hz, ?_⟩
      have o' : Out X.K Z .own ρ H W .non .deep ρ .non H1 [] := .scal .non o.same
      refine eo.nx _ _ _ _ (r.kids o' rfl hc0 (h'.elim .inl fun z => .inr ⟨z.1, z.2, .inl rfl⟩) hv hW ea (vs' := vs0 ++ us) (B' := B) ?_ (fun b hb => .inl hb) fun n1 _ _ => n1) k
      have := ((ra0.same o.same).upd (o' := .lst (vs0 ++ us)) naB ea mu).append (rb.upd (p := a) (o' := .lst (vs0 ++ us)) List.not_mem_nil ea mu)
      rwa [List.append_nil] at this
    unfold extC at w1
    split at w1
    · rename_i xs ys hc1
      have e1 : ds0 = xs := by rcases hc0 with q | q <;> rw [q] at hc1 <;> cases hc1; rfl
      subst e1
      exact fin _ _ rfl (.inl rfl) w1.1.1 w1.1.2 w1.2
    · rename_i xs ys hc1
      have e1 : ds0 = xs := by rcases hc0 with q | q <;> rw [q] at hc1 <;> cases hc1; rfl
      subst e1
      exact fin _ _ rfl (.inr ⟨rfl, hc1⟩) w1.1.1 w1.1.2 w1.2
    · exact w1.elim
  · cases ok
end
end R

namespace R
open PySem PySem.Spec PyProof.Rows L2
section
variable {t : Tab} {Γ : List SpD}
theorem snd_no {c : Ex} (h : ∀ nm e, okE t nm c e = false) : Snd t Γ c :=
  mkSnd (fun X nm fnB g e ok => by rw [h] at ok; cases ok) fun nm e ok => by rw [h] at ok; cases ok
mutual
theorem sndX : ∀ c : Ex, Snd t Γ c
  | .nop => snd_nop
  | .num _ => snd_num
  | .bool _ => snd_bool
  | .non => snd_non
  | .str _ => snd_str
  | .con _ _ => snd_con
  | .var _ => snd_var
  | .take _ => snd_take
  | .bin _ a b => snd_bin (sndX a) (sndX b)
  | .neg a => snd_neg (sndX a)
  | .cmp _ a b => snd_cmp (sndX a) (sndX b)
  | .chn _ _ a b c => snd_chn (sndX a) (sndX b) (sndX c)
  | .not a => snd_not (sndX a)
  | .and a b => snd_and (sndX a) (sndX b)
  | .or a b => snd_or (sndX a) (sndX b)
  | .one a => snd_one (sndX a)
  | .ite c a b => snd_ite (sndX c) (sndX a) (sndX b)
  | .lst es => snd_lst (sndXs es)
  | .tup es => snd_tup (sndXs es)
  | .ix a i => snd_ix (sndX a) (sndX i)
  | .slc a l h => snd_slc (sndX a) (sndX l) (sndX h)
  | .mn2 a b => snd_mn2 (sndX a) (sndX b)
  | .mn a => snd_mn (sndX a)
  | .cat a b => snd_cat (sndX a) (sndX b)
  | .call _ es => snd_call (sndXs es)
  | .callF _ es => snd_callF (sndXs es)
  | .blt _ es => snd_blt (sndXs es)
  | .cpy _ a => snd_cpy (sndX a)
  | .lrg a b => snd_lrg (sndX a) (sndX b)
  | .fz _ a => snd_fz (sndX a)
  | .mth _ _ a => snd_mth (sndX a)
  | .dct => snd_dct
  | .get _ k d => snd_get (sndX k) (sndX d)
  | .isi a _ => snd_isi (sndX a)
  | .lc _ e _ it cs => snd_lc (sndX e) (sndR it) (sndC cs)
  | .sel _ _ a cs => snd_sel (sndX a) (sndC cs)
  | .dsel _ _ _ _ _ => snd_dsel
  | .lc2 _ _ e _ it cs _ it1 cs1 => snd_lc2 (sndX e) (sndR it) (sndC cs) (sndR it1) (sndC cs1)
theorem sndXs : ∀ c : Exs, SndEs t Γ c
  | .nil => snds_nil
  | .cons c cs => snds_cons (sndX c) (sndXs cs)
theorem sndR : ∀ c : Rg, SndI t Γ c
  | .rng1 b => sndi_rng1 (sndX b)
  | .rng2 a b => sndi_rng2 (sndX a) (sndX b)
  | .rng3 a b c => sndi_rng3 (sndX a) (sndX b) (sndX c)
  | .col a => sndi_col (sndX a)
  | .rev a => sndi_rev (sndX a)
theorem sndC : ∀ c : Exs, SndCs t Γ c
  | .nil => sndc_nil
  | .cons c .nil => sndc_one (sndX c)
  | .cons _ (.cons _ _) => sndc_two
end
theorem sns_no {c : Cm} (h : ∀ nm st, okS t nm c st = false) : SndS t Γ c := fun X nm g st ok => by rw [h] at ok; cases ok
mutual
theorem snS : ∀ c : Cm, SndS t Γ c
  | .set _ c => sns_set (sndX c) (fun _ elt _ it cs _ => ⟨sndX elt, sndR it, sndC cs⟩) (fun _ _ elt _ it cs _ it1 cs1 _ => ⟨sndX elt, sndR it, sndC cs, sndR it1, sndC cs1⟩) (fun _ _ a cs _ => ⟨sndX a, sndC cs⟩)
  | .unp _ c => sns_unp (sndX c)
  | .par _ _ a b => sns_par (sndX a) (sndX b)
  | .par3 _ _ _ a b c => sns_par3 (sndX a) (sndX b) (sndX c)
  | .aug _ _ _ => sns_no fun nm st => by simp [okS]
  | .put _ k c => sns_put (sndX k) (sndX c)
  | .app _ c => sns_app (sndX c)
  | .app1 _ k c => sns_app1 (sndX k) (sndX c)
  | .app2 _ _ _ c => sns_app2 (sndX c)
  | .pop _ => sns_pop
  | .popS _ _ => sns_popS
  | .ext _ c => sns_ext (sndX c)
  | .ex c => sns_ex (sndX c)
  | .iff c a b => sns_iff (sndX c) (snSs a) (snSs b)
  | .whl c b => sns_whl (sndX c) (snSs b)
  | .forr _ it b => sns_for (sndR it) (snSs b)
  | .ret c => sns_ret (sndX c)
  | .retN => sns_retN
  | .brk => sns_brk
  | .cont => sns_cont
  | .pas => sns_pas
  | .fgt _ => sns_no fun nm st => by simp [okS]
theorem snSs : ∀ c : Cms, SndSs t Γ c
  | .nil => snss_nil
  | .cons c cs => snss_cons (snS c) (snSs cs)
end
end
/-! ### a def -/
def startD (n : Nat) (ds : List D) : Pl := ds.map .fz ++ List.replicate (n - ds.length) .un
def retOk (d : D) (l : Lv) : Prop := d.imm = true ∨ l = .deep ∨ (l = .top ∧ d.kimm = true)
def endsD (Kk : D → Prop) : EndsD := { nx := fun _ => Kk .non, rt := fun d l => retOk d l ∧ Kk d, bk := fun _ => False, ct := fun _ => False }
theorem startD_pt {n : Nat} {ds : List D} (i : Nat) : (startD n ds).pt i = match ds[i]? with | some d => .fz d | none => .un := by
  unfold startD
  induction ds generalizing n i with
  | nil =>
    simp only [List.map_nil, List.nil_append, List.length_nil, Nat.sub_zero, List.getElem?_nil]
    induction n generalizing i with
    | zero => rfl
    | succ n ih =>
      rw [List.replicate_succ]
      cases i with
      | zero => rfl
      | succ i => exact ih i
  | cons d r ih =>
    cases i with
    | zero => rfl
    | succ i =>
      have e : n - (d :: r).length = (n - 1) - r.length := by rw [List.length_cons]; omega
      rw [e]
      exact ih i
section
variable {P : Program} {w : World} {K : PySem.W.Frag} {mg : Str → Option Value} {base : Heap}
structure CallIn (P : Program) (w : World) (K : PySem.W.Frag) (mg : Str → Option Value) (base : Heap) (k : Nat) (sh : Bool) (y : Str) (sp : SpD) : Prop where
  ex : ∃ (f : Addr) (fd : FuncData) (ps : List Str), FnG P w K mg base k f fd ps (spW sh K ps.length sp) ∧ mg y = some (.ref f) ∧ PySem.W.keepIn K (.ref f) = true ∧ Binds K fd ps [] ∧ ∀ ds Kk, sp ds Kk → ds.length = ps.length
theorem CallIn.mono {j k : Nat} {sh : Bool} {y : Str} {sp : SpD} (c : CallIn P w K mg base j sh y sp) (h : j ≤ k) : CallIn P w K mg base k sh y sp := by
  obtain ⟨f, fd, ps, F, r⟩ := c.ex
  exact ⟨f, fd, ps, F.mono h, r⟩
/-- nothing is promised -/
theorem CallIn.no {k : Nat} {y : Str} {f : Addr} {fd : FuncData} {ps : List Str} (hm : mg y = some (.ref f)) (hk : PySem.W.keepIn K (.ref f) = true) (hb : Binds K fd ps []) : CallIn P w K mg base k false y fun _ _ => False :=
  ⟨f, fd, ps, ⟨fun vs H Q E h => by obtain ⟨_, ds, As, Kk, _, h, _⟩ := h; exact h.elim, fun A outer s H args us vs Q E gd hr he hb hv h => by obtain ⟨_, ds, As, Kk, _, h, _⟩ := h; exact h.elim⟩, hm, hk, hb, fun _ _ h => h.elim⟩
/-- the value is all new, or shares with the arguments -/
def retQ (sh : Bool) (H : Hp) (As A : List Addr) : Prop := match sh with | false => A.Nodup ∧ ∀ a ∈ A, H a = none | true => ∀ a ∈ A, H a = none ∨ a ∈ As
def endsW (sh : Bool) (Kk : D → Prop) : EndsD := match sh with | false => endsD Kk | true => { nx := fun _ => Kk .non, rt := fun d _ => Kk d, bk := fun _ => False, ct := fun _ => False }
theorem spW_eq {sh : Bool} {n : Nat} {sp : SpD} {vs : List V} {H : Hp} {Q : VK} {E : XK} (h : spW sh K n sp vs H Q E) : vs.length = n ∧ ∃ (ds : List D) (As : List Addr) (Kk : D → Prop), Reps K H vs ds As ∧ sp ds Kk ∧
    ∀ d, Kk d → ∀ v H' A, Same H H' → Rep K H' v d A → retQ sh H As A → Q v H' := by
  cases sh with
  | false =>
    obtain ⟨hl, ds, As, Kk, rs, hsp, q⟩ := h
    exact ⟨hl, ds, As, Kk, rs, hsp, fun d k v H' A s r z => q d k v H' A s r z.1 z.2⟩
  | true =>
    obtain ⟨hl, ds, As, Kk, rs, hsp, q⟩ := h
    exact ⟨hl, ds, As, Kk, rs, hsp, fun d k v H' A s r z => q d k v H' A s r z⟩
theorem fn_okW (sh : Bool) {x qual : Str} {st : Stmt} {f : Addr} {fd : FuncData} (F : Fun K x qual st f fd) {ps : List Str} (t : Tab) (S : FnScope t.N ps (defScope st)) (Γ : List SpD) (code : Cms) (ok : okSs t (defScope st).names code (defBody st) = true) (k : Nat)
    (calls : ∀ (g : Nat) (y : Str), t.G[g]? = some y → CallIn P w K mg base k (t.F.getD g false) y (Γ.getD g fun _ _ => False)) (blt : ∀ y ∈ t.B, mg y = none) (con : ∀ p ∈ t.C, ∃ u v, mg p.1 = some u ∧ RelV v u ∧ p.2.imm = true ∧ ∀ H, Rep K H v p.2 [])
    (sp : SpD) (hlen : ∀ ds Kk, sp ds Kk → ds.length = ps.length) (body : ∀ ds Kk, sp ds Kk → wpSs Γ code (startD t.N.length ds) (endsW sh Kk)) : FnG P w K mg base (k + 1) f fd ps (spW sh K ps.length sp) := by
  have hpl : ps.length ≤ t.N.length := by have := congrArg List.length S.pre; rw [List.length_take] at this; omega
  refine FnG.of F S (fun vs H Q E h => (spW_eq h).1) fun cdv A outer s H vs Q E gd hr h => ⟨_, pssS, ?_⟩
  obtain ⟨hl, ds, As, Kk, rs, hsp, q⟩ := spW_eq h
  have hd := hlen ds Kk hsp
  let X : Cx := (cxOf CX0 P w K mg base t.N qual (defScope st) f cdv A outer s H E).nox
  have g : Good X t (defScope st).names (fun _ => true) Γ := {
    N := rfl
    calm := rfl
    nd := S.nd
    nm := rfl
    kind := S.kind
    fn := fun _ _ => rfl
    room := hr.mono (Nat.zero_le _)
    gd := gd
    call := fun gi y hy => by
      obtain ⟨f, fd, ps, F, r1, r2, r3, r4⟩ := (calls gi y hy).ex
      exact ⟨f, fd, ps, k, F, hr, r1, r2, r3, r4⟩
    blt := blt
    con := con
    pass := PassesOwn.never }
  -- the parameters' addresses
  have hW : ∃ W : Nat → List Addr, ∀ (i : Nat) (d : D), ds[i]? = some d → ∃ v, vs[i]? = some v ∧ Rep K H v d (W i) ∧ ∀ a ∈ W i, a ∈ As := by
    have : ∀ i : Nat, ∃ B, ∀ d, ds[i]? = some d → ∃ v, vs[i]? = some v ∧ Rep K H v d B ∧ ∀ a ∈ B, a ∈ As := fun i => by
      cases e : ds[i]? with
      | none => exact ⟨[], fun d h => by cases h⟩
      | some d =>
        obtain ⟨v, B, h1, h2, h3⟩ := rs.at' e
        exact ⟨B, fun d' h => by cases h; exact ⟨v, h1, h2, fun a ha => h3.subset ha⟩⟩
    exact ⟨fun i => Classical.choose (this i), fun i => Classical.choose_spec (this i)⟩
  obtain ⟨W, hW⟩ := hW
  have own0 : ∀ i, ((startD t.N.length ds).pt i).own (W i) = [] := fun i => by
    rw [startD_pt]; split <;> rfl
  have st0 : ∀ (i : Nat) v, vs[i]? = some v → (L2.start t.N vs)[i]? = some (some v) := fun i v h => by
    unfold L2.start
    have hi : i < vs.length := (List.getElem?_eq_some_iff.mp h).1
    rw [List.getElem?_append_left (by rw [List.length_map]; exact hi), List.getElem?_map, h]; rfl
  have r : RL K ⟨H, fun a => H a = none ∨ a ∈ As⟩ [] (startD t.N.length ds) (L2.start t.N vs) H W := by
    refine ⟨?_, fun i hi => ?_, Same.refl, fun i => (by rw [own0]; exact List.nodup_nil), fun i j a _ h => (by rw [own0] at h; cases h), fun i a h => (by rw [own0] at h; cases h), fun i j a _ => (by rw [own0]; exact List.not_mem_nil), fun p hp => (by cases hp), fun i a _ => List.not_mem_nil, fun i d e => ?_, fun a h => .inl h, fun i a h => ?_⟩
    · unfold startD L2.start
      simp only [List.length_append, List.length_map, List.length_replicate]
      omega
    · rw [startD_pt] at hi ⊢
      cases e : ds[i]? with
      | none => rw [e] at hi; cases hi
      | some d =>
        obtain ⟨v, h1, h2, _⟩ := hW i d e
        exact ⟨v, st0 i v h1, h2⟩
    · rw [startD_pt] at e
      split at e <;> cases e
    · rw [startD_pt] at h
      cases e : ds[i]? with
      | none => rw [e] at h; cases h
      | some d =>
        rw [e] at h
        obtain ⟨v, _, _, h3⟩ := hW i d e
        exact .inr (h3 a h)
  cases sh with
  | true =>
    refine snSs code X _ g (defBody st) ok ⟨H, fun a => H a = none ∨ a ∈ As⟩ [] _ _ H W (endsW true Kk) _ r (body ds Kk hsp) ⟨fun ρ σ H' W' r' k => ?_, fun ρ σ H' W' r' k => k.elim, fun ρ σ H' W' r' k => k.elim, fun d l v H' A' k rv s nd n un => ?_⟩
    · exact q _ k _ _ [] r'.same .non fun a h => absurd h List.not_mem_nil
    · exact q _ k _ _ A' s rv un
  | false =>
  refine snSs code X _ g (defBody st) ok ⟨H, fun a => H a = none ∨ a ∈ As⟩ [] _ _ H W (endsD Kk) _ r (body ds Kk hsp) ⟨fun ρ σ H' W' r' k => ?_, fun ρ σ H' W' r' k => k.elim, fun ρ σ H' W' r' k => k.elim, fun d l v H' A' k rv s nd n _ => ?_⟩
  · exact q _ k _ _ [] r'.same .non ⟨List.nodup_nil, fun a h => absurd h List.not_mem_nil⟩
  · obtain ⟨hr, k⟩ := k
    have fresh : A'.Nodup ∧ ∀ a ∈ A', H a = none := by
      rcases hr with im | rfl | ⟨rfl, im⟩
      · rw [rv.imm im]
        exact ⟨List.nodup_nil, fun a h => absurd h List.not_mem_nil⟩
      · exact ⟨nd, n⟩
      · generalize hA : A' = A'' at rv nd n ⊢
        cases rv with
        | non => exact ⟨List.nodup_nil, fun a h => absurd h List.not_mem_nil⟩
        | bl => exact ⟨List.nodup_nil, fun a h => absurd h List.not_mem_nil⟩
        | int => exact ⟨List.nodup_nil, fun a h => absurd h List.not_mem_nil⟩
        | str => exact ⟨List.nodup_nil, fun a h => absurd h List.not_mem_nil⟩
        | tup e rs => rw [rs.imm im]; exact ⟨List.nodup_nil, fun a h => absurd h List.not_mem_nil⟩
        | lst e rs =>
          have e := rs.imm im
          subst e
          exact ⟨nd, n⟩
        | fro e rs => exact ⟨List.nodup_nil, fun a h => absurd h List.not_mem_nil⟩
        | froK e rs => exact ⟨List.nodup_nil, fun a h => absurd h List.not_mem_nil⟩
        | set e x => exact ⟨nd, n⟩
        | dic e l rs =>
          have e := rs.imm im
          subst e
          exact ⟨nd, n⟩
    exact q _ k _ _ A' s rv fresh
/-- the usual kind -/
theorem fn_ok {x qual : Str} {st : Stmt} {f : Addr} {fd : FuncData} (F : Fun K x qual st f fd) {ps : List Str} (t : Tab) (S : FnScope t.N ps (defScope st)) (Γ : List SpD) (code : Cms) (ok : okSs t (defScope st).names code (defBody st) = true) (k : Nat)
    (calls : ∀ (g : Nat) (y : Str), t.G[g]? = some y → CallIn P w K mg base k (t.F.getD g false) y (Γ.getD g fun _ _ => False)) (blt : ∀ y ∈ t.B, mg y = none) (con : ∀ p ∈ t.C, ∃ u v, mg p.1 = some u ∧ RelV v u ∧ p.2.imm = true ∧ ∀ H, Rep K H v p.2 [])
    (sp : SpD) (hlen : ∀ ds Kk, sp ds Kk → ds.length = ps.length) (body : ∀ ds Kk, sp ds Kk → wpSs Γ code (startD t.N.length ds) (endsD Kk)) : FnG P w K mg base (k + 1) f fd ps (spOf K ps.length sp) :=
  fn_okW false F t S Γ code ok k calls blt con sp hlen body
end
end R

namespace R
open PySem PySem.Spec PyProof.Rows L2

/-! ### symbolic steps: one row a form -/
section
variable {Γ : List SpD} {m : Md} {ρ : Pl} {K : KE} {E : EndsD} {a b c e : Ex} {es : Exs}
theorem w_num {i : Int} : wpE Γ m (.num i) ρ K = K (.int i) .deep ρ := rfl
theorem w_bool {i : Bool} : wpE Γ m (.bool i) ρ K = K (.bl i) .deep ρ := rfl
theorem w_non : wpE Γ m .non ρ K = K .non .deep ρ := rfl
theorem w_str {i : Str} : wpE Γ m (.str i) ρ K = K (.str i) .deep ρ := rfl
theorem w_con {i : Str} {d : D} : wpE Γ m (.con i d) ρ K = K d .deep ρ := rfl
def varC (c : Cell) (m : Md) (ρ : Pl) (i : Nat) (K : KE) : Prop :=
  match c, m with
  | .un, _ => False
  | .fz d, _ => K d .froz ρ
  | .ln d, .own => False
  | .ln d, _ => K d .froz ρ
  | .tp d, .own => K d .froz (ρ.set i (.fz d))
  | .tp d, _ => K d .froz ρ
  | .dp d, .own => K d .froz (ρ.set i (.fz d))
  | .dp d, .kid => K d .froz (ρ.set i (.tp d))
  | .dp d, .bor => K d .froz ρ
def takC (c : Cell) (m : Md) (ρ : Pl) (i : Nat) (K : KE) : Prop :=
  match m, c with
  | .own, .tp d => K d .top (ρ.set i .un)
  | .own, .dp d => K d .deep (ρ.set i .un)
  | .kid, .dp d => K d .deep (ρ.set i .un)
  | m, c => varC c m ρ i K
theorem w_var {i : Nat} : wpE Γ m (.var i) ρ K = varC (ρ.pt i) m ρ i K := rfl
theorem w_take {i : Nat} : wpE Γ m (.take i) ρ K = takC (ρ.pt i) m ρ i K := by
  show takeD m ρ i K = _
  unfold takeD takC varD
  cases m <;> cases ρ.pt i <;> rfl
theorem varC_fz {d : D} {i : Nat} : varC (.fz d) m ρ i K = K d .froz ρ := by cases m <;> rfl
theorem varC_lnb {d : D} {i : Nat} : varC (.ln d) .bor ρ i K = K d .froz ρ := rfl
theorem varC_lnk {d : D} {i : Nat} : varC (.ln d) .kid ρ i K = K d .froz ρ := rfl
theorem varC_tpo {d : D} {i : Nat} : varC (.tp d) .own ρ i K = K d .froz (ρ.set i (.fz d)) := rfl
theorem varC_tpk {d : D} {i : Nat} : varC (.tp d) .kid ρ i K = K d .froz ρ := rfl
theorem varC_tpb {d : D} {i : Nat} : varC (.tp d) .bor ρ i K = K d .froz ρ := rfl
theorem varC_dpo {d : D} {i : Nat} : varC (.dp d) .own ρ i K = K d .froz (ρ.set i (.fz d)) := rfl
theorem varC_dpk {d : D} {i : Nat} : varC (.dp d) .kid ρ i K = K d .froz (ρ.set i (.tp d)) := rfl
theorem varC_dpb {d : D} {i : Nat} : varC (.dp d) .bor ρ i K = K d .froz ρ := rfl
theorem takC_fz {d : D} {i : Nat} : takC (.fz d) m ρ i K = K d .froz ρ := by cases m <;> rfl
theorem takC_tp {d : D} {i : Nat} : takC (.tp d) .own ρ i K = K d .top (ρ.set i .un) := rfl
theorem takC_dp {d : D} {i : Nat} : takC (.dp d) .own ρ i K = K d .deep (ρ.set i .un) := rfl
theorem takC_tpk {d : D} {i : Nat} : takC (.tp d) .kid ρ i K = K d .froz ρ := rfl
theorem takC_tpb {d : D} {i : Nat} : takC (.tp d) .bor ρ i K = K d .froz ρ := rfl
theorem takC_dpk {d : D} {i : Nat} : takC (.dp d) .kid ρ i K = K d .deep (ρ.set i .un) := rfl
theorem takC_dpb {d : D} {i : Nat} : takC (.dp d) .bor ρ i K = K d .froz ρ := rfl
theorem takC_lnb {d : D} {i : Nat} : takC (.ln d) .bor ρ i K = K d .froz ρ := rfl
theorem w_bin {op : Bop} : wpE Γ m (.bin op a b) ρ K = wpE Γ .bor a ρ fun x _ _ => wpE Γ .bor b ρ fun y _ _ => binD op x y fun z => K z .deep ρ := rfl
theorem w_neg : wpE Γ m (.neg a) ρ K = wpE Γ .bor a ρ fun x _ _ => ∃ i, x = .int i ∧ K (.int (-i)) .deep ρ := rfl
theorem w_cmp {op : Cop} : wpE Γ m (.cmp op a b) ρ K = wpE Γ .bor a ρ fun x _ _ => wpE Γ .bor b ρ fun y _ _ => cmpD op x y fun z => K (.bl z) .deep ρ := rfl
theorem w_chn {op op' : Cop} : wpE Γ m (.chn op op' a b c) ρ K = wpE Γ .bor a ρ fun x _ _ => wpE Γ .bor b ρ fun y _ _ => cmpD op x y fun z =>
      if z = true then wpE Γ .bor c ρ fun w _ _ => cmpD op' y w fun z => K (.bl z) .deep ρ else K (.bl false) .deep ρ := rfl
theorem w_not : wpE Γ m (.not a) ρ K = wpE Γ .bor a ρ fun x _ _ => ∃ b, x = .bl b ∧ K (.bl (!b)) .deep ρ := rfl
theorem w_and : wpE Γ m (.and a b) ρ K = wpE Γ .bor a ρ fun x _ _ => ∃ c, x = .bl c ∧ if c = true then wpE Γ .bor b ρ fun y _ _ => ∃ d, y = .bl d ∧ K (.bl d) .deep ρ else K (.bl false) .deep ρ := rfl
theorem w_or : wpE Γ m (.or a b) ρ K = wpE Γ .bor a ρ fun x _ _ => ∃ c, x = .bl c ∧ if c = true then K (.bl true) .deep ρ else wpE Γ .bor b ρ fun y _ _ => ∃ d, y = .bl d ∧ K (.bl d) .deep ρ := rfl
theorem w_one : wpE Γ m (.one a) ρ K = wpE Γ m a ρ K := rfl
theorem w_ite : wpE Γ m (.ite c a b) ρ K = wpE Γ .bor c ρ fun x _ _ => ∃ k, x = .bl k ∧ if k = true then wpE Γ m a ρ K else wpE Γ m b ρ K := rfl
theorem w_lst : wpE Γ m (.lst es) ρ K = wpEs Γ (emd m) es ρ fun ds al ρ' => ds.length ≤ sizeLine ∧ K (.lst ds) (if al = true then .deep else .top) ρ' := rfl
theorem w_tup : wpE Γ m (.tup es) ρ K = wpEs Γ (emd m) es ρ fun ds al ρ' => ds.length ≤ sizeLine ∧ K (.tup ds) (if al = true then .deep else .froz) ρ' := rfl
theorem w_ix : wpE Γ m (.ix a b) ρ K = wpE Γ (smd m) a ρ fun x la ρ1 => wpE Γ .bor b ρ fun y _ _ => ixD x y fun z => keepD m z la ρ ρ1 K := rfl
theorem w_slc : wpE Γ m (.slc a b c) ρ K = wpE Γ (smd m) a ρ fun x la ρ1 => partD b.isNop (fun k => wpE Γ .bor b ρ fun y _ _ => k y) fun l => partD c.isNop (fun k => wpE Γ .bor c ρ fun y _ _ => k y) fun h => slcD x l h fun z => copyD m x z la ρ ρ1 K := rfl
theorem w_call {g : Nat} : wpE Γ m (.call g es) ρ K = wpEs Γ .bor es ρ fun ds _ _ => (Γ.getD g fun _ _ => False) ds fun z => K z .deep ρ := rfl
theorem w_callF {g : Nat} : wpE Γ m (.callF g es) ρ K = wpEs Γ (emd m) es ρ fun ds _ ρ' => (Γ.getD g fun _ _ => False) ds fun z => K z .froz ρ' := rfl
theorem w_blt {f : Blt} : wpE Γ m (.blt f es) ρ K = wpEs Γ .bor es ρ fun ds _ _ => bltD f ds fun z => K z .deep ρ := rfl
theorem w_cpy {f : Cpy} : wpE Γ m (.cpy f a) ρ K = wpE Γ (smd m) a ρ fun x la ρ1 => cpyD f x fun z => copyD m x z la ρ ρ1 K := rfl
theorem w_lrg : wpE Γ m (.lrg a b) ρ K = wpE Γ .bor a ρ fun x _ _ => wpE Γ .bor b ρ fun y _ _ => ∃ i j, x = .int i ∧ y = .int j ∧ RgOk i j ∧ K (.lst (rngL i j)) .deep ρ := rfl
theorem w_isi {t : Ty} : wpE Γ m (.isi a t) ρ K = wpE Γ .bor a ρ fun x _ _ => isiC t x fun z => K (.bl z) .deep ρ := rfl
theorem w_nil {Q : List D → Bool → Pl → Prop} : wpEs Γ m .nil ρ Q = Q [] true ρ := rfl
theorem w_cons {Q : List D → Bool → Pl → Prop} : wpEs Γ m (.cons e es) ρ Q = wpE Γ m e ρ fun d l ρ1 => wpEs Γ m es ρ1 fun ds al ρ2 => Q (d :: ds) ((d.imm || isDeep l) && al) ρ2 := rfl
def catL (la lb : Lv) : Lv := if isDeep la && isDeep lb then .deep else .top
theorem w_mn2 : wpE Γ .bor (.mn2 a b) ρ K = wpE Γ .bor a ρ fun x _ _ => wpE Γ .bor b ρ fun y _ _ => ∃ xs ys ns ms, x = .lst xs ∧ y = .lst ys ∧ D.ints xs = some ns ∧ D.ints ys = some ms ∧ K (.lst ((if ltL ms ns = true then ms else ns).map .int)) .froz ρ := rfl
theorem w_mn : wpE Γ m (.mn a) ρ K = wpE Γ (smd m) a ρ fun x la ρ1 => minLD x fun z => keepD m z la ρ ρ1 K := rfl
theorem w_cat : wpE Γ m (.cat a b) ρ K = wpE Γ (smd m) a ρ fun x la ρ1 => wpE Γ (smd m) b ρ1 fun y lb ρ2 => catD x y fun z => K z (catL la lb) ρ2 := rfl
theorem cat_ll {xs ys : List D} {Kd : D → Prop} : catD (.lst xs) (.lst ys) Kd = (xs.length + ys.length ≤ sizeLine ∧ Kd (.lst (xs ++ ys))) := rfl
theorem cat_dd : catL .deep .deep = .deep := rfl
theorem cat_f {l : Lv} : catL .froz l = .top := rfl
theorem cat_t {l : Lv} : catL .top l = .top := rfl
theorem cat_df : catL .deep .froz = .top := rfl
theorem cat_dt : catL .deep .top = .top := rfl
theorem w_fz {f : Fz} : wpE Γ m (.fz f a) ρ K = wpE Γ .bor a ρ fun x _ _ => fzD f x fun z => K z .deep ρ := rfl
theorem w_mth {f : Mth} {i : Nat} : wpE Γ m (.mth f i e) ρ K = wpE Γ .bor (.var i) ρ fun x _ _ => ∃ xs, x = .lst xs ∧ wpE Γ .bor e ρ fun y _ _ => mthD f (.lst xs) y fun z => K z .deep ρ := rfl
theorem w_dct : wpE Γ m .dct ρ K = K (.dic [] []) .deep ρ := rfl
theorem w_get {i : Nat} : wpE Γ m (.get i a b) ρ K = wpE Γ .bor (.var i) ρ fun x _ _ => ∃ ks vs, x = .dic ks vs ∧ wpE Γ .bor a ρ fun y _ _ => wpE Γ .bor b ρ fun z _ _ => getD (.dic ks vs) y z fun v => K v .deep ρ := rfl
/-- two clauses, not opened -/
def lc2S (Γ : List SpD) (m : Md) (own own1 : List Nat) (elt : Ex) (tg : Tg) (it : Rg) (cs : Exs) (tg1 : Tg) (it1 : Rg) (cs1 : Exs) (ρ : Pl) (K : KE) : Prop := wpE Γ m (.lc2 own own1 elt tg it cs tg1 it1 cs1) ρ K
theorem w_lc2 {own own1 : List Nat} {tg tg1 : Tg} {it it1 : Rg} {es1 : Exs} : wpE Γ m (.lc2 own own1 e tg it es tg1 it1 es1) ρ K = lc2S Γ m own own1 e tg it es tg1 it1 es1 ρ K := rfl
/-- a comprehension, not opened -/
def lcS (Γ : List SpD) (m : Md) (own : List Nat) (elt : Ex) (tg : Tg) (it : Rg) (cs : Exs) (ρ : Pl) (K : KE) : Prop := wpE Γ m (.lc own elt tg it cs) ρ K
theorem w_lc {own : List Nat} {tg : Tg} {it : Rg} : wpE Γ m (.lc own e tg it es) ρ K = lcS Γ m own e tg it es ρ K := rfl
/-- a call's own word -/
theorem getD_0 {α : Type} {x d : α} {l : List α} : (x :: l).getD 0 d = x := rfl
theorem getD_s {α : Type} {x d : α} {l : List α} {n : Nat} : (x :: l).getD (n + 1) d = l.getD n d := rfl

theorem s_set {i : Nat} : wpS Γ (.set i e) ρ E = wpE Γ .own e ρ fun d l ρ' => free ρ' i ∧ E.nx (ρ'.set i (mkCell d l)) := rfl
theorem s_unp {is : List Nat} : wpS Γ (.unp is e) ρ E = wpE Γ .own e ρ fun d l ρ' => (∀ i ∈ is, free ρ' i) ∧ ∃ ds, d = .tup ds ∧ is.length = ds.length ∧ is.Nodup ∧ E.nx (cells l is ds ρ') := rfl
theorem s_par {i j : Nat} : wpS Γ (.par i j a b) ρ E = wpE Γ .own a ρ fun x la ρ1 => wpE Γ .own b ρ1 fun y lb ρ2 => free ρ2 i ∧ free ρ2 j ∧ i ≠ j ∧ E.nx ((ρ2.set i (mkCell x la)).set j (mkCell y lb)) := rfl
theorem s_par3 {i j l : Nat} : wpS Γ (.par3 i j l a b c) ρ E = wpE Γ .own a ρ fun x _ ρ1 => wpE Γ .own b ρ1 fun y _ ρ2 => wpE Γ .own c ρ2 fun z _ ρ3 => (free ρ3 i ∧ free ρ3 j ∧ free ρ3 l) ∧ E.nx (((ρ3.set i (.fz x)).set j (.fz y)).set l (.fz z)) := rfl
theorem s_put {i : Nat} : wpS Γ (.put i a e) ρ E = wpE Γ .own e ρ fun d l ρ1 => (ρ1.pt i).isLD ∧ wpE Γ .bor a ρ1 fun y _ _ => putC (ρ1.pt i) y d l fun c => E.nx (ρ1.set i c) := rfl
theorem s_app {i : Nat} : wpS Γ (.app i e) ρ E = ((ρ.pt i).isL ∧ wpE Γ .own e ρ fun d l ρ1 => appC (ρ1.pt i) d l fun c => E.nx (ρ1.set i c)) := rfl
theorem s_app1 {i : Nat} : wpS Γ (.app1 i a e) ρ E = ((ρ.pt i).live = true ∧ wpE Γ .bor a ρ fun x _ _ => appOk (ρ.pt i) [x] ∧ wpE Γ .bor e ρ fun d _ _ => d.imm = true ∧ E.nx (ρ.set i (appRes (ρ.pt i) [x] d))) := rfl
theorem s_app2 {i : Nat} {n n2 : Int} : wpS Γ (.app2 i n n2 e) ρ E = (appOk (ρ.pt i) [.int n, .int n2] ∧ wpE Γ .bor e ρ fun d _ _ => d.imm = true ∧ E.nx (ρ.set i (appRes (ρ.pt i) [.int n, .int n2] d))) := rfl
theorem s_ext {i : Nat} : wpS Γ (.ext i e) ρ E = ((ρ.pt i).isL ∧ wpE Γ .bor e ρ fun d _ _ => extC (ρ.pt i) d fun c => E.nx (ρ.set i c)) := rfl
theorem s_pop {i : Nat} : wpS Γ (.pop i) ρ E = popC (ρ.pt i) fun c _ _ => E.nx (ρ.set i c) := rfl
theorem s_popS {x i : Nat} : wpS Γ (.popS x i) ρ E = popC (ρ.pt i) fun c y l => free ρ x ∧ x ≠ i ∧ E.nx ((ρ.set i c).set x (mkCell y l)) := rfl
theorem s_ex : wpS Γ (.ex e) ρ E = wpE Γ .bor e ρ fun _ _ _ => E.nx ρ := rfl
theorem s_iff {s s' : Cms} : wpS Γ (.iff c s s') ρ E = wpE Γ .bor c ρ fun x _ _ => ∃ k, x = .bl k ∧ if k = true then wpSs Γ s ρ E else wpSs Γ s' ρ E := rfl
def whlS (Γ : List SpD) (c : Ex) (s : Cms) (ρ : Pl) (E : EndsD) : Prop := wpS Γ (.whl c s) ρ E
def forS (Γ : List SpD) (tg : Tg) (it : Rg) (s : Cms) (ρ : Pl) (E : EndsD) : Prop := wpS Γ (.forr tg it s) ρ E
theorem s_whl {s : Cms} : wpS Γ (.whl c s) ρ E = whlS Γ c s ρ E := rfl
theorem s_for {tg : Tg} {it : Rg} {s : Cms} : wpS Γ (.forr tg it s) ρ E = forS Γ tg it s ρ E := rfl
theorem s_ret : wpS Γ (.ret e) ρ E = wpE Γ .own e ρ fun d l _ => E.rt d l := rfl
theorem s_retN : wpS Γ .retN ρ E = E.rt .non .deep := rfl
theorem s_brk : wpS Γ .brk ρ E = E.bk ρ := rfl
theorem s_cont : wpS Γ .cont ρ E = E.ct ρ := rfl
theorem s_pas : wpS Γ .pas ρ E = E.nx ρ := rfl
theorem s_fgt {is : List Nat} : wpS Γ (.fgt is) ρ E = ((∀ i ∈ is, (ρ.pt i).nl) ∧ E.nx (wipeD ρ is)) := rfl
theorem s_nil : wpSs Γ .nil ρ E = E.nx ρ := rfl
theorem s_cons {s : Cm} {ss : Cms} : wpSs Γ (.cons s ss) ρ E = wpS Γ s ρ { E with nx := fun ρ' => wpSs Γ ss ρ' E } := rfl
end
/-! the values' rows -/
section
variable {a b i j k : Int} {x y : Str} {K : D → Prop} {Kb : Bool → Prop} {xs ys : List D} {ns ms : List Int} {d : D}
theorem b_add : binD .add (.int a) (.int b) K = K (.int (a + b)) := rfl
theorem b_addl : binD .add (.lst xs) (.lst ys) K = ((D.immL xs = true ∧ D.immL ys = true ∧ xs.length + ys.length ≤ sizeLine) ∧ K (.lst (xs ++ ys))) := rfl
theorem b_sub : binD .sub (.int a) (.int b) K = K (.int (a - b)) := rfl
theorem b_mul : binD .mul (.int a) (.int b) K = ((Sm a ∧ Sm b) ∧ K (.int (a * b))) := rfl
theorem b_mull : binD .mul (.lst xs) (.int k) K = ((D.immL xs = true ∧ k < 2 ^ 62 ∧ -(2 ^ 62) < k ∧ xs.length * k.toNat ≤ sizeLine) ∧ K (.lst (List.replicate k.toNat xs).flatten)) := rfl
theorem b_fdiv : binD .fdiv (.int a) (.int b) K = ((0 < b ∧ SmD b) ∧ K (.int (a / b))) := rfl
theorem b_fdivN : binD .fdivN (.int a) (.int b) K = ((b ≠ 0 ∧ b.natAbs < 1073741824) ∧ K (.int (a.fdiv b))) := rfl
theorem b_mod : binD .mod (.int a) (.int b) K = (0 < b ∧ K (.int (a % b))) := rfl
theorem b_modN : binD .modN (.int a) (.int b) K = (b ≠ 0 ∧ K (.int (a.fmod b))) := rfl
theorem b_pow : binD .pow (.int a) (.int b) K = ((0 ≤ b ∧ b ≤ 1000000 ∧ a.natAbs < 2 ^ 64) ∧ K (.int (a ^ b.toNat))) := rfl
theorem b_shl : binD .shl (.int a) (.int b) K = ((0 ≤ b ∧ b ≤ 1000000 ∧ a.natAbs < 2 ^ 64) ∧ K (.int (a * 2 ^ b.toNat))) := rfl
theorem b_shr : binD .shr (.int a) (.int b) K = (0 ≤ b ∧ K (.int (a / 2 ^ b.toNat))) := rfl
theorem c_eqi : cmpD .eq (.int a) (.int b) Kb = Kb (decide (a = b)) := rfl
theorem c_eqs : cmpD .eq (.str x) (.str y) Kb = Kb (decide (x = y)) := rfl
theorem c_nei : cmpD .ne (.int a) (.int b) Kb = Kb (!decide (a = b)) := rfl
theorem c_nes : cmpD .ne (.str x) (.str y) Kb = Kb (!decide (x = y)) := rfl
theorem c_lt : cmpD .lt (.int a) (.int b) Kb = Kb (decide (a < b)) := rfl
theorem c_le : cmpD .le (.int a) (.int b) Kb = Kb (decide (a ≤ b)) := rfl
theorem c_gt : cmpD .gt (.int a) (.int b) Kb = Kb (decide (b < a)) := rfl
theorem c_ge : cmpD .ge (.int a) (.int b) Kb = Kb (decide (b ≤ a)) := rfl
theorem c_isn : cmpD .is d .non Kb = Kb d.isNon := by cases d <;> rfl
theorem c_isntn : cmpD .isnt d .non Kb = Kb (!d.isNon) := by cases d <;> rfl
theorem c_isb {p q : Bool} : cmpD .is (.bl p) (.bl q) Kb = Kb (p == q) := rfl
theorem c_isntb {p q : Bool} : cmpD .isnt (.bl p) (.bl q) Kb = Kb (!(p == q)) := rfl

/-! shapes: lists of ints -/
def Ds (ns : List Int) : List D := ns.map .int
theorem immL_append : ∀ {xs ys : List D}, D.immL (xs ++ ys) = (D.immL xs && D.immL ys)
  | [], ys => by simp [D.immL]
  | x :: xs, ys => by simp [D.immL, immL_append, Bool.and_assoc]
theorem immL_ints : D.immL (ns.map .int) = true := by
  induction ns with
  | nil => rfl
  | cons n r ih => simp [D.immL, D.imm, ih]
theorem kimm_ints : (D.lst (ns.map .int)).kimm = true := immL_ints
theorem toPyL_ints : D.toPyL (ns.map .int) = ns.map .int := by
  induction ns with
  | nil => rfl
  | cons n r ih => simp [D.toPyL, D.toPy, ih]
theorem depthAll_ints : ∀ ns : List Int, PyData.canLayAll0 (ns.map .int) = true
  | [] => rfl
  | n :: r => by simp [PyData.canLayAll0, PyData.canLay0, depthAll_ints r]
end
end R

namespace R
open PySem PySem.Spec PyProof.Rows L2
/-! ### places by number -/
section
variable {c0 c1 c2 c3 c4 c5 c6 c7 c8 c9 c10 c11 c12 c13 c14 c15 c16 c17 c18 c19 x : Cell} {r : List Cell}
theorem pt_0 : List.pt (c0 :: r) 0 = c0 := rfl
theorem st_0 : List.set (c0 :: r) 0 x = x :: r := rfl
theorem pt_1 : List.pt (c0 :: c1 :: r) 1 = c1 := rfl
theorem st_1 : List.set (c0 :: c1 :: r) 1 x = c0 :: x :: r := rfl
theorem pt_2 : List.pt (c0 :: c1 :: c2 :: r) 2 = c2 := rfl
theorem st_2 : List.set (c0 :: c1 :: c2 :: r) 2 x = c0 :: c1 :: x :: r := rfl
theorem pt_3 : List.pt (c0 :: c1 :: c2 :: c3 :: r) 3 = c3 := rfl
theorem st_3 : List.set (c0 :: c1 :: c2 :: c3 :: r) 3 x = c0 :: c1 :: c2 :: x :: r := rfl
theorem pt_4 : List.pt (c0 :: c1 :: c2 :: c3 :: c4 :: r) 4 = c4 := rfl
theorem st_4 : List.set (c0 :: c1 :: c2 :: c3 :: c4 :: r) 4 x = c0 :: c1 :: c2 :: c3 :: x :: r := rfl
theorem pt_5 : List.pt (c0 :: c1 :: c2 :: c3 :: c4 :: c5 :: r) 5 = c5 := rfl
theorem st_5 : List.set (c0 :: c1 :: c2 :: c3 :: c4 :: c5 :: r) 5 x = c0 :: c1 :: c2 :: c3 :: c4 :: x :: r := rfl
theorem pt_6 : List.pt (c0 :: c1 :: c2 :: c3 :: c4 :: c5 :: c6 :: r) 6 = c6 := rfl
theorem st_6 : List.set (c0 :: c1 :: c2 :: c3 :: c4 :: c5 :: c6 :: r) 6 x = c0 :: c1 :: c2 :: c3 :: c4 :: c5 :: x :: r := rfl
theorem pt_7 : List.pt (c0 :: c1 :: c2 :: c3 :: c4 :: c5 :: c6 :: c7 :: r) 7 = c7 := rfl
theorem st_7 : List.set (c0 :: c1 :: c2 :: c3 :: c4 :: c5 :: c6 :: c7 :: r) 7 x = c0 :: c1 :: c2 :: c3 :: c4 :: c5 :: c6 :: x :: r := rfl
theorem pt_8 : List.pt (c0 :: c1 :: c2 :: c3 :: c4 :: c5 :: c6 :: c7 :: c8 :: r) 8 = c8 := rfl
theorem st_8 : List.set (c0 :: c1 :: c2 :: c3 :: c4 :: c5 :: c6 :: c7 :: c8 :: r) 8 x = c0 :: c1 :: c2 :: c3 :: c4 :: c5 :: c6 :: c7 :: x :: r := rfl
theorem pt_9 : List.pt (c0 :: c1 :: c2 :: c3 :: c4 :: c5 :: c6 :: c7 :: c8 :: c9 :: r) 9 = c9 := rfl
theorem st_9 : List.set (c0 :: c1 :: c2 :: c3 :: c4 :: c5 :: c6 :: c7 :: c8 :: c9 :: r) 9 x = c0 :: c1 :: c2 :: c3 :: c4 :: c5 :: c6 :: c7 :: c8 :: x :: r := rfl
theorem pt_10 : List.pt (c0 :: c1 :: c2 :: c3 :: c4 :: c5 :: c6 :: c7 :: c8 :: c9 :: c10 :: r) 10 = c10 := rfl
theorem st_10 : List.set (c0 :: c1 :: c2 :: c3 :: c4 :: c5 :: c6 :: c7 :: c8 :: c9 :: c10 :: r) 10 x = c0 :: c1 :: c2 :: c3 :: c4 :: c5 :: c6 :: c7 :: c8 :: c9 :: x :: r := rfl
theorem pt_11 : List.pt (c0 :: c1 :: c2 :: c3 :: c4 :: c5 :: c6 :: c7 :: c8 :: c9 :: c10 :: c11 :: r) 11 = c11 := rfl
theorem st_11 : List.set (c0 :: c1 :: c2 :: c3 :: c4 :: c5 :: c6 :: c7 :: c8 :: c9 :: c10 :: c11 :: r) 11 x = c0 :: c1 :: c2 :: c3 :: c4 :: c5 :: c6 :: c7 :: c8 :: c9 :: c10 :: x :: r := rfl
theorem pt_12 : List.pt (c0 :: c1 :: c2 :: c3 :: c4 :: c5 :: c6 :: c7 :: c8 :: c9 :: c10 :: c11 :: c12 :: r) 12 = c12 := rfl
theorem st_12 : List.set (c0 :: c1 :: c2 :: c3 :: c4 :: c5 :: c6 :: c7 :: c8 :: c9 :: c10 :: c11 :: c12 :: r) 12 x = c0 :: c1 :: c2 :: c3 :: c4 :: c5 :: c6 :: c7 :: c8 :: c9 :: c10 :: c11 :: x :: r := rfl
theorem pt_13 : List.pt (c0 :: c1 :: c2 :: c3 :: c4 :: c5 :: c6 :: c7 :: c8 :: c9 :: c10 :: c11 :: c12 :: c13 :: r) 13 = c13 := rfl
theorem st_13 : List.set (c0 :: c1 :: c2 :: c3 :: c4 :: c5 :: c6 :: c7 :: c8 :: c9 :: c10 :: c11 :: c12 :: c13 :: r) 13 x = c0 :: c1 :: c2 :: c3 :: c4 :: c5 :: c6 :: c7 :: c8 :: c9 :: c10 :: c11 :: c12 :: x :: r := rfl
theorem pt_14 : List.pt (c0 :: c1 :: c2 :: c3 :: c4 :: c5 :: c6 :: c7 :: c8 :: c9 :: c10 :: c11 :: c12 :: c13 :: c14 :: r) 14 = c14 := rfl
theorem st_14 : List.set (c0 :: c1 :: c2 :: c3 :: c4 :: c5 :: c6 :: c7 :: c8 :: c9 :: c10 :: c11 :: c12 :: c13 :: c14 :: r) 14 x = c0 :: c1 :: c2 :: c3 :: c4 :: c5 :: c6 :: c7 :: c8 :: c9 :: c10 :: c11 :: c12 :: c13 :: x :: r := rfl
theorem pt_15 : List.pt (c0 :: c1 :: c2 :: c3 :: c4 :: c5 :: c6 :: c7 :: c8 :: c9 :: c10 :: c11 :: c12 :: c13 :: c14 :: c15 :: r) 15 = c15 := rfl
theorem st_15 : List.set (c0 :: c1 :: c2 :: c3 :: c4 :: c5 :: c6 :: c7 :: c8 :: c9 :: c10 :: c11 :: c12 :: c13 :: c14 :: c15 :: r) 15 x = c0 :: c1 :: c2 :: c3 :: c4 :: c5 :: c6 :: c7 :: c8 :: c9 :: c10 :: c11 :: c12 :: c13 :: c14 :: x :: r := rfl
theorem pt_16 : List.pt (c0 :: c1 :: c2 :: c3 :: c4 :: c5 :: c6 :: c7 :: c8 :: c9 :: c10 :: c11 :: c12 :: c13 :: c14 :: c15 :: c16 :: r) 16 = c16 := rfl
theorem st_16 : List.set (c0 :: c1 :: c2 :: c3 :: c4 :: c5 :: c6 :: c7 :: c8 :: c9 :: c10 :: c11 :: c12 :: c13 :: c14 :: c15 :: c16 :: r) 16 x = c0 :: c1 :: c2 :: c3 :: c4 :: c5 :: c6 :: c7 :: c8 :: c9 :: c10 :: c11 :: c12 :: c13 :: c14 :: c15 :: x :: r := rfl
theorem pt_17 : List.pt (c0 :: c1 :: c2 :: c3 :: c4 :: c5 :: c6 :: c7 :: c8 :: c9 :: c10 :: c11 :: c12 :: c13 :: c14 :: c15 :: c16 :: c17 :: r) 17 = c17 := rfl
theorem st_17 : List.set (c0 :: c1 :: c2 :: c3 :: c4 :: c5 :: c6 :: c7 :: c8 :: c9 :: c10 :: c11 :: c12 :: c13 :: c14 :: c15 :: c16 :: c17 :: r) 17 x = c0 :: c1 :: c2 :: c3 :: c4 :: c5 :: c6 :: c7 :: c8 :: c9 :: c10 :: c11 :: c12 :: c13 :: c14 :: c15 :: c16 :: x :: r := rfl
theorem pt_18 : List.pt (c0 :: c1 :: c2 :: c3 :: c4 :: c5 :: c6 :: c7 :: c8 :: c9 :: c10 :: c11 :: c12 :: c13 :: c14 :: c15 :: c16 :: c17 :: c18 :: r) 18 = c18 := rfl
theorem st_18 : List.set (c0 :: c1 :: c2 :: c3 :: c4 :: c5 :: c6 :: c7 :: c8 :: c9 :: c10 :: c11 :: c12 :: c13 :: c14 :: c15 :: c16 :: c17 :: c18 :: r) 18 x = c0 :: c1 :: c2 :: c3 :: c4 :: c5 :: c6 :: c7 :: c8 :: c9 :: c10 :: c11 :: c12 :: c13 :: c14 :: c15 :: c16 :: c17 :: x :: r := rfl
theorem pt_19 : List.pt (c0 :: c1 :: c2 :: c3 :: c4 :: c5 :: c6 :: c7 :: c8 :: c9 :: c10 :: c11 :: c12 :: c13 :: c14 :: c15 :: c16 :: c17 :: c18 :: c19 :: r) 19 = c19 := rfl
theorem st_19 : List.set (c0 :: c1 :: c2 :: c3 :: c4 :: c5 :: c6 :: c7 :: c8 :: c9 :: c10 :: c11 :: c12 :: c13 :: c14 :: c15 :: c16 :: c17 :: c18 :: c19 :: r) 19 x = c0 :: c1 :: c2 :: c3 :: c4 :: c5 :: c6 :: c7 :: c8 :: c9 :: c10 :: c11 :: c12 :: c13 :: c14 :: c15 :: c16 :: c17 :: c18 :: x :: r := rfl
end
section
variable {α : Type} {c0 c1 c2 c3 c4 c5 c6 c7 c8 c9 c10 c11 c12 c13 x : α} {r : List α}
theorem gd_0 : List.getD (c0 :: r) 0 x = c0 := rfl
theorem gd_1 : List.getD (c0 :: c1 :: r) 1 x = c1 := rfl
theorem gd_2 : List.getD (c0 :: c1 :: c2 :: r) 2 x = c2 := rfl
theorem gd_3 : List.getD (c0 :: c1 :: c2 :: c3 :: r) 3 x = c3 := rfl
theorem gd_4 : List.getD (c0 :: c1 :: c2 :: c3 :: c4 :: r) 4 x = c4 := rfl
theorem gd_5 : List.getD (c0 :: c1 :: c2 :: c3 :: c4 :: c5 :: r) 5 x = c5 := rfl
theorem gd_6 : List.getD (c0 :: c1 :: c2 :: c3 :: c4 :: c5 :: c6 :: r) 6 x = c6 := rfl
theorem gd_7 : List.getD (c0 :: c1 :: c2 :: c3 :: c4 :: c5 :: c6 :: c7 :: r) 7 x = c7 := rfl
theorem gd_8 : List.getD (c0 :: c1 :: c2 :: c3 :: c4 :: c5 :: c6 :: c7 :: c8 :: r) 8 x = c8 := rfl
theorem gd_9 : List.getD (c0 :: c1 :: c2 :: c3 :: c4 :: c5 :: c6 :: c7 :: c8 :: c9 :: r) 9 x = c9 := rfl
theorem gd_10 : List.getD (c0 :: c1 :: c2 :: c3 :: c4 :: c5 :: c6 :: c7 :: c8 :: c9 :: c10 :: r) 10 x = c10 := rfl
theorem gd_11 : List.getD (c0 :: c1 :: c2 :: c3 :: c4 :: c5 :: c6 :: c7 :: c8 :: c9 :: c10 :: c11 :: r) 11 x = c11 := rfl
theorem gd_12 : List.getD (c0 :: c1 :: c2 :: c3 :: c4 :: c5 :: c6 :: c7 :: c8 :: c9 :: c10 :: c11 :: c12 :: r) 12 x = c12 := rfl
theorem gd_13 : List.getD (c0 :: c1 :: c2 :: c3 :: c4 :: c5 :: c6 :: c7 :: c8 :: c9 :: c10 :: c11 :: c12 :: c13 :: r) 13 x = c13 := rfl
end

section
variable {Γ : List SpD} {m : Md} {ρ ρ1 : Pl} {K : KE} {E : EndsD} {a b c e : Ex} {es : Exs} {d z : D} {l la : Lv} {xs ys : List D} {ns ms : List Int} {i j k : Int} {Kd : D → Prop} {Kb : Bool → Prop} {P : D → Prop} {n q : Nat} {x : Str} {p : Bool}
theorem ex_bl {P : Bool → Prop} : (∃ k, D.bl p = .bl k ∧ P k) = P p := propext ⟨fun ⟨_, h, k⟩ => by cases h; exact k, fun h => ⟨_, rfl, h⟩⟩
theorem ex_int {P : Int → Prop} : (∃ k, D.int i = .int k ∧ P k) = P i := propext ⟨fun ⟨_, h, k⟩ => by cases h; exact k, fun h => ⟨_, rfl, h⟩⟩
theorem ex_tup {P : List D → Prop} : (∃ k, D.tup xs = .tup k ∧ P k) = P xs := propext ⟨fun ⟨_, h, k⟩ => by cases h; exact k, fun h => ⟨_, rfl, h⟩⟩
theorem ex_rg {P : Int → Int → Prop} : (∃ k k', D.int i = .int k ∧ D.int j = .int k' ∧ P k k') = P i j := propext ⟨fun ⟨_, _, h, h', k⟩ => by cases h; cases h'; exact k, fun h => ⟨_, _, rfl, rfl, h⟩⟩
theorem mk_int : mkCell (.int i) l = .fz (.int i) := rfl
theorem mk_bl : mkCell (.bl p) l = .fz (.bl p) := rfl
theorem mk_str : mkCell (.str x) l = .fz (.str x) := rfl
theorem mk_non : mkCell .non l = .fz .non := rfl
theorem mk_lf : mkCell (.lst xs) .froz = .fz (.lst xs) := rfl
theorem mk_lt : mkCell (.lst xs) .top = .tp (.lst xs) := rfl
theorem mk_ld : mkCell (.lst xs) .deep = .dp (.lst xs) := rfl
theorem mk_f : mkCell d .froz = .fz d := by unfold mkCell; split <;> rfl
theorem mk_ti {i j : Int} : mkCell (.tup [.int i, .int j]) l = .fz (.tup [.int i, .int j]) := rfl
theorem mk_imm (h : d.imm = true) : mkCell d l = .fz d := by unfold mkCell; rw [if_pos h]
theorem wp_n : wipeD ρ [] = ρ := rfl
theorem wp_c {v : Nat} {vs : List Nat} : wipeD ρ (v :: vs) = (wipeD ρ vs).set v .un := rfl
theorem uw_n : unwipe ρ ρ1 [] = ρ1 := rfl
theorem uw_c {v : Nat} {vs : List Nat} : unwipe ρ ρ1 (v :: vs) = (unwipe ρ ρ1 vs).set v (keepC (ρ.pt v)) := rfl
theorem kc_u : keepC .un = .un := rfl
theorem kc_f : keepC (.fz d) = .fz d := rfl
theorem kc_l : keepC (.ln d) = .un := rfl
theorem kc_t : keepC (.tp d) = .un := rfl
theorem kc_d : keepC (.dp d) = .un := rfl
def freeC (c : Cell) (p : Prop) : Prop := match c with | .ln _ => False | _ => p
theorem fr_eq : free ρ n = freeC (ρ.pt n) (n < ρ.length) := by unfold free freeC; cases ρ.pt n <;> rfl
theorem fr_u {p : Prop} : freeC .un p = p := rfl
theorem fr_f {p : Prop} : freeC (.fz d) p = p := rfl
theorem fr_t {p : Prop} : freeC (.tp d) p = p := rfl
theorem fr_d {p : Prop} : freeC (.dp d) p = p := rfl
theorem nl_u : Cell.nl .un = True := rfl
theorem nl_f : Cell.nl (.fz d) = True := rfl
theorem nl_t : Cell.nl (.tp d) = True := rfl
theorem nl_d : Cell.nl (.dp d) = True := rfl
theorem is_t : Cell.isL (.tp (.lst xs)) = True := rfl
theorem is_d : Cell.isL (.dp (.lst xs)) = True := rfl
theorem atI_mapE {f : Int → D} : atI (ns.map f) i = (atI ns i).map f := by
  unfold atI
  rw [List.length_map]
  cases ixN ns.length i with
  | none => rfl
  | some j => exact List.getElem?_map ..
theorem ex_at {P : D → Prop} {f : Int → D} : (∃ z, atI (ns.map f) i = some z ∧ P z) = ∃ x, atI ns i = some x ∧ P (f x) := by
  rw [atI_mapE]
  refine propext ⟨fun ⟨z, h, k⟩ => ?_, fun ⟨x, h, k⟩ => ⟨f x, by rw [h]; rfl, k⟩⟩
  cases e : atI ns i with
  | none => rw [e] at h; cases h
  | some x => rw [e] at h; cases h; exact ⟨x, rfl, k⟩
theorem i_lst : ixD (.lst (ns.map .int)) (.int i) Kd = ∃ x, atI ns i = some x ∧ Kd (.int x) := ex_at
theorem i_tup : ixD (.tup (ns.map .int)) (.int i) Kd = ∃ x, atI ns i = some x ∧ Kd (.int x) := ex_at
theorem i_fro : ixD (.fro (ns.map .int)) (.int i) Kd = ∃ x, atI ns i = some x ∧ Kd (.int x) := ex_at
theorem kp_b : keepD .bor z la ρ ρ1 K = K z .froz ρ := rfl
theorem kp_i : keepD .own (.int i) la ρ ρ1 K = K (.int i) .deep ρ := rfl
theorem kp_k : keepD .kid (.int i) la ρ ρ1 K = K (.int i) .deep ρ := rfl
theorem kp_s : keepD .own (.str x) la ρ ρ1 K = K (.str x) .deep ρ := rfl
theorem kp_l : keepD .own (.lst xs) la ρ ρ1 K = K (.lst xs) (kdLv la) ρ1 := rfl
theorem kp_lk : keepD .kid (.lst xs) la ρ ρ1 K = K (.lst xs) (kdLv la) ρ1 := rfl
theorem cy_b {w : D} : copyD .bor w z la ρ ρ1 K = K z .froz ρ := rfl
theorem cy_o : copyD .own (.lst (ns.map .int)) z la ρ ρ1 K = K z .deep ρ := by unfold copyD; exact if_pos kimm_ints
theorem cy_k : copyD .kid (.lst (ns.map .int)) z la ρ ρ1 K = K z .deep ρ := by unfold copyD; exact if_pos kimm_ints
theorem cy_of : copyD .own (.fro (ns.map .int)) z la ρ ρ1 K = K z .deep ρ := by unfold copyD; exact if_pos kimm_ints
theorem cy_kf : copyD .kid (.fro (ns.map .int)) z la ρ ρ1 K = K z .deep ρ := by unfold copyD; exact if_pos kimm_ints
theorem cy_ot : copyD .own (.tup (ns.map .int)) z la ρ ρ1 K = K z .deep ρ := by unfold copyD; exact if_pos kimm_ints
theorem cy_kt : copyD .kid (.tup (ns.map .int)) z la ρ ρ1 K = K z .deep ρ := by unfold copyD; exact if_pos kimm_ints
theorem sm_b : smd .bor = .bor := rfl
theorem sm_k : smd .kid = .kid := rfl
theorem sm_o : smd .own = .kid := rfl
theorem em_b : emd .bor = .bor := rfl
theorem em_k : emd .kid = .own := rfl
theorem em_o : emd .own = .own := rfl
theorem kd_d : kdLv .deep = .deep := rfl
theorem kd_t : kdLv .top = .froz := rfl
theorem kd_f : kdLv .froz = .froz := rfl
theorem dp_d : isDeep .deep = true := rfl
theorem dp_t : isDeep .top = false := rfl
theorem dp_f : isDeep .froz = false := rfl
theorem im_i : D.imm (.int i) = true := rfl
theorem im_b : D.imm (.bl p) = true := rfl
theorem im_s : D.imm (.str x) = true := rfl
theorem im_n : D.imm .non = true := rfl
theorem im_l : D.imm (.lst xs) = false := rfl
theorem im_f : D.imm (.fro xs) = false := rfl
theorem im_t : D.imm (.tup xs) = D.immL xs := rfl
theorem iL_n : D.immL [] = true := rfl
theorem iL_c : D.immL (d :: xs) = (d.imm && D.immL xs) := rfl
theorem f_len : bltD .len [.lst xs] Kd = Kd (.int xs.length) := rfl
theorem f_lent : bltD .len [.tup xs] Kd = Kd (.int xs.length) := rfl
theorem f_lenf : bltD .len [.fro xs] Kd = Kd (.int xs.length) := rfl
theorem f_lens : bltD .len [.str x] Kd = (x.length ≤ sizeLine ∧ Kd (.int x.length)) := rfl
theorem f_abs : bltD .abs [.int i] Kd = Kd (.int i.natAbs) := rfl
theorem f_min2 : bltD .min [.int i, .int j] Kd = Kd (.int (min i j)) := rfl
theorem f_max2 : bltD .max [.int i, .int j] Kd = Kd (.int (max i j)) := rfl
theorem ints_mapE : D.ints (ns.map .int) = some ns := by
  induction ns with
  | nil => rfl
  | cons n r ih => show (D.ints (r.map .int)).map _ = _; rw [ih]; rfl
theorem ex_ints {P : List Int → Prop} : (∃ ms, D.ints (ns.map .int) = some ms ∧ P ms) = P ns := by
  rw [ints_mapE]
  exact propext ⟨fun ⟨_, h, k⟩ => by cases h; exact k, fun h => ⟨_, rfl, h⟩⟩
theorem f_sum : bltD .sum [.lst (ns.map .int)] Kd = Kd (.int ns.sum) := ex_ints
theorem f_min : bltD .min [.lst (ns.map .int)] Kd = (ns ≠ [] ∧ ∀ m, m ∈ ns → (∀ y ∈ ns, m ≤ y) → Kd (.int m)) := ex_ints
theorem f_max : bltD .max [.lst (ns.map .int)] Kd = (ns ≠ [] ∧ ∀ m, m ∈ ns → (∀ y ∈ ns, y ≤ m) → Kd (.int m)) := ex_ints
theorem f_int : bltD .int [.int i] Kd = Kd (.int i) := rfl
theorem f_intb : bltD .int [.bl p] Kd = Kd (.int (if p then 1 else 0)) := rfl
theorem p_list : cpyD .list (.lst xs) Kd = Kd (.lst xs) := rfl
theorem p_listt : cpyD .list (.tup xs) Kd = Kd (.lst xs) := rfl
theorem p_sorted : cpyD .sorted (.lst (ns.map .int)) Kd = Kd (.lst ((isort ns).map .int)) := ex_ints
theorem p_tuple : cpyD .tuple (.lst xs) Kd = Kd (.tup xs) := rfl
theorem cut_map {α β : Type} {f : α → β} {xs : List α} {lo hi : Option Int} : cut (xs.map f) lo hi = (cut xs lo hi).map f := by
  unfold cut
  rw [List.length_map, List.map_take, List.map_drop]
theorem sl_l {lo hi : Option Int} : slcD (.lst (ns.map .int)) lo hi Kd = Kd (.lst ((cut ns lo hi).map .int)) := by
  show Kd (.lst (cut (ns.map .int) lo hi)) = _
  rw [cut_map]
theorem sl_f {lo hi : Option Int} : slcD (.fro (ns.map .int)) lo hi Kd = Kd (.lst ((cut ns lo hi).map .int)) := by
  show Kd (.lst (cut (ns.map .int) lo hi)) = _
  rw [cut_map]
theorem pa_t {f : (D → Prop) → Prop} {Ko : Option Int → Prop} : partD true f Ko = Ko none := rfl
theorem pa_f {f : (D → Prop) → Prop} {Ko : Option Int → Prop} : partD false f Ko = f fun y => ∃ i, y = .int i ∧ Ko (some i) := rfl
theorem ty_i {t : Ty} : isiC t (.int i) Kb = Kb (isiD t (.int i)) := rfl
theorem ty_b {t : Ty} : isiC t (.bl p) Kb = Kb (isiD t (.bl p)) := rfl
theorem ty_s {t : Ty} : isiC t (.str x) Kb = Kb (isiD t (.str x)) := rfl
theorem ty_l {t : Ty} : isiC t (.lst xs) Kb = Kb (isiD t (.lst xs)) := rfl
theorem ty_t {t : Ty} : isiC t (.tup xs) Kb = Kb (isiD t (.tup xs)) := rfl
theorem ty_n {t : Ty} : isiC t .non Kb = Kb (isiD t .non) := rfl
theorem t_1 {Kp : Pl → Prop} : tgD (.one n) d ρ Kp = Kp (ρ.set n (.fz d)) := rfl
theorem t_2 {Kp : Pl → Prop} {n1 n2 : Nat} {d1 d2 : D} : tgD (.many [n1, n2]) (.tup [d1, d2]) ρ Kp = Kp ((ρ.set n1 (.fz d1)).set n2 (.fz d2)) := propext ⟨fun h => h.2, fun h => ⟨rfl, h⟩⟩
theorem t_3 {Kp : Pl → Prop} {n1 n2 n3 : Nat} {d1 d2 d3 : D} : tgD (.many [n1, n2, n3]) (.tup [d1, d2, d3]) ρ Kp = Kp (((ρ.set n1 (.fz d1)).set n2 (.fz d2)).set n3 (.fz d3)) := propext ⟨fun h => h.2, fun h => ⟨rfl, h⟩⟩
theorem tf_1 : tgFree ρ (.one n) = free ρ n := rfl
theorem tf_m {is : List Nat} : tgFree ρ (.many is) = ∀ i ∈ is, free ρ i := rfl
theorem ap_i {Kc : Cell → Prop} : appC (.dp (.lst (ns.map .int))) (.int i) l Kc = (ns.length < sizeLine ∧ Kc (.dp (.lst ((ns ++ [i]).map .int)))) := by
  show ((ns.map D.int).length < sizeLine ∧ _) = _
  rw [List.length_map, List.map_append]; rfl
theorem ap_ti {Kc : Cell → Prop} : appC (.tp (.lst (ns.map .int))) (.int i) l Kc = (ns.length < sizeLine ∧ Kc (.tp (.lst ((ns ++ [i]).map .int)))) := by
  show ((ns.map D.int).length < sizeLine ∧ _) = _
  rw [List.length_map, List.map_append]; rfl
theorem ap_t {Kc : Cell → Prop} : appC (.tp (.lst xs)) d l Kc = (xs.length < sizeLine ∧ Kc (.tp (.lst (xs ++ [d])))) := rfl
theorem ap_d {Kc : Cell → Prop} : appC (.dp (.lst xs)) d l Kc = (xs.length < sizeLine ∧ Kc (if (d.imm || isDeep l) = true then .dp (.lst (xs ++ [d])) else .tp (.lst (xs ++ [d])))) := rfl
theorem pu_i {Kc : Cell → Prop} : putC (.dp (.lst (ns.map .int))) (.int i) (.int j) l Kc = ∃ n, ixN ns.length i = some n ∧ Kc (.dp (.lst ((ns.set n j).map .int))) := by
  show (∃ n, ixN (ns.map D.int).length i = some n ∧ _) = _
  rw [List.length_map]
  simp only [List.map_set]; rfl
theorem pu_ti {Kc : Cell → Prop} : putC (.tp (.lst (ns.map .int))) (.int i) (.int j) l Kc = ∃ n, ixN ns.length i = some n ∧ Kc (.tp (.lst ((ns.set n j).map .int))) := by
  show (∃ n, ixN (ns.map D.int).length i = some n ∧ _) = _
  rw [List.length_map]
  simp only [List.map_set]
theorem it_l {Kx : List D → Prop} : itemsD (.lst xs) Kx = Kx xs := rfl
theorem it_t {Kx : List D → Prop} : itemsD (.tup xs) Kx = Kx xs := rfl
theorem kk_o {A B : Prop} : kidK .own xs A B = B := rfl
theorem kk_b {A B : Prop} : kidK .bor xs A B = B := rfl
theorem kk_k {A B : Prop} : kidK .kid (ns.map .int) A B = A := if_pos immL_ints
theorem dec_bl : (decide (p = true)) = p := by cases p <;> rfl
end
/-! ### equality -/
theorem beqd {α : Type} [DecidableEq α] [BEq α] [LawfulBEq α] (a b : α) : (a == b) = decide (a = b) := by by_cases h : a = b <;> simp [h]
structure Eqc {α : Type} [DecidableEq α] (e : α → D) (n : Nat) : Prop where
  lay : ∀ a, (e a).toPy.canLay0 = true
  dep : ∀ a, (e a).toPy.depth ≤ n
  eqv : ∀ a b, PyData.eqv (e a).toPy (e b).toPy = decide (a = b)
theorem Eqc.int : Eqc D.int 0 := ⟨fun _ => rfl, fun _ => Nat.le_refl _, fun a b => by show (a == b) = _; exact beqd ..⟩
theorem Eqc.bl : Eqc D.bl 0 := ⟨fun _ => rfl, fun _ => Nat.le_refl _, fun a b => by show (a == b) = _; exact beqd ..⟩
theorem Eqc.lst {α : Type} [DecidableEq α] {e : α → D} {n : Nat} (E : Eqc e n) : Eqc (fun xs : List α => .lst (xs.map e)) (n + 1) := by
  refine ⟨fun xs => ?_, fun xs => ?_, fun xs ys => ?_⟩
  · show PyData.canLayAll0 (D.toPyL (xs.map e)) = true
    induction xs with
    | nil => rfl
    | cons x r ih => show (PyData.canLay0 (e x).toPy && PyData.canLayAll0 (D.toPyL (r.map e))) = true; rw [E.lay, ih]; rfl
  · show PyData.depthAll (D.toPyL (xs.map e)) + 1 ≤ n + 1
    refine Nat.succ_le_succ ?_
    induction xs with
    | nil => exact Nat.zero_le _
    | cons x r ih => exact Nat.max_le.mpr ⟨E.dep x, ih⟩
  · show PyData.eqvAll (D.toPyL (xs.map e)) (D.toPyL (ys.map e)) = _
    induction xs generalizing ys with
    | nil => cases ys <;> rfl
    | cons x r ih =>
      cases ys with
      | nil => rfl
      | cons y s =>
        show (PyData.eqv (e x).toPy (e y).toPy && PyData.eqvAll (D.toPyL (r.map e)) (D.toPyL (s.map e))) = _
        rw [E.eqv, ih, ← Bool.decide_and]
        exact decide_eq_decide.mpr (List.cons.injEq .. ▸ Iff.rfl)
theorem Eqc.tup {α : Type} [DecidableEq α] {e : α → D} {n : Nat} (E : Eqc e n) : Eqc (fun xs : List α => .tup (xs.map e)) (n + 1) := by
  refine ⟨fun xs => E.lst.lay xs, fun xs => E.lst.dep xs, fun xs ys => E.lst.eqv xs ys⟩
theorem Eqc.two {α β : Type} [DecidableEq α] [DecidableEq β] {e : α → D} {f : β → D} {n : Nat} (E : Eqc e n) (F : Eqc f n) : Eqc (fun x : α × β => .tup [e x.1, f x.2]) (n + 1) := by
  refine ⟨fun x => ?_, fun x => ?_, fun x y => ?_⟩
  · show (PyData.canLay0 (e x.1).toPy && (PyData.canLay0 (f x.2).toPy && true)) = true
    rw [E.lay, F.lay]; rfl
  · show max _ (max _ 0) + 1 ≤ n + 1
    have := E.dep x.1
    have := F.dep x.2
    omega
  · show (PyData.eqv (e x.1).toPy (e y.1).toPy && (PyData.eqv (f x.2).toPy (f y.2).toPy && true)) = _
    rw [E.eqv, F.eqv, Bool.and_true, ← Bool.decide_and]
    exact decide_eq_decide.mpr Prod.ext_iff.symm
theorem Eqc.shp {α : Type} [DecidableEq α] {e : α → D} {n : Nat} (E : Eqc e n) (h : n ≤ 64) (a : α) : (e a).shp := by
  show (PyData.canLay0 _ && decide _) = true
  rw [E.lay, decide_eq_true (Nat.le_trans (E.dep a) h)]; rfl
theorem Eqc.eqc {α : Type} [DecidableEq α] {e : α → D} {n : Nat} (E : Eqc e n) (h : n ≤ 64) (a b : α) (K : Bool → Prop) (hK : K (decide (a = b))) : cmpD .eq (e a) (e b) K := by
  have e1 := E.eqv a b
  show eqC (e a) (e b) K
  unfold eqC
  split
  · next i j h1 h2 => rw [h1, h2] at e1; have : (i == j) = _ := e1; rw [beqd] at this; rw [this]; exact hK
  · next i j h1 h2 => rw [h1, h2] at e1; have : (i == j) = _ := e1; rw [beqd] at this; rw [this]; exact hK
  · refine ⟨⟨E.shp h a, E.shp h b⟩, ?_⟩
    unfold D.eqv
    rw [e1]; exact hK
theorem Eqc.nec {α : Type} [DecidableEq α] {e : α → D} {n : Nat} (E : Eqc e n) (h : n ≤ 64) (a b : α) (K : Bool → Prop) (hK : K (!decide (a = b))) : cmpD .ne (e a) (e b) K :=
  E.eqc h a b (fun z => K (!z)) hK
section
variable {ns ms : List Int} {Kb : Bool → Prop} {i : Int}
theorem c_eql : cmpD .eq (.lst (ns.map .int)) (.lst (ms.map .int)) Kb = Kb (decide (ns = ms)) := by
  refine propext ⟨fun h => ?_, fun h => Eqc.int.lst.eqc (by decide) ns ms _ h⟩
  have h := h.2
  have e := Eqc.int.lst.eqv ns ms
  unfold D.eqv at h
  exact e ▸ h
theorem c_ltl : cmpD .lt (.lst (ns.map .int)) (.lst (ms.map .int)) Kb = Kb (ltL ns ms) := by
  show (∃ ns' ms', D.ints (ns.map .int) = some ns' ∧ D.ints (ms.map .int) = some ms' ∧ Kb (ltL ns' ms')) = _
  rw [ints_mapE, ints_mapE]
  exact propext ⟨fun ⟨_, _, e1, e2, k⟩ => by cases e1; cases e2; exact k, fun k => ⟨_, _, rfl, rfl, k⟩⟩
theorem c_lel : cmpD .le (.lst (ns.map .int)) (.lst (ms.map .int)) Kb = Kb (!ltL ms ns) := by
  show (∃ ns' ms', D.ints (ns.map .int) = some ns' ∧ D.ints (ms.map .int) = some ms' ∧ Kb (!ltL ms' ns')) = _
  rw [ints_mapE, ints_mapE]
  exact propext ⟨fun ⟨_, _, e1, e2, k⟩ => by cases e1; cases e2; exact k, fun k => ⟨_, _, rfl, rfl, k⟩⟩
theorem c_gtl : cmpD .gt (.lst (ns.map .int)) (.lst (ms.map .int)) Kb = Kb (ltL ms ns) := by
  show (∃ ns' ms', D.ints (ns.map .int) = some ns' ∧ D.ints (ms.map .int) = some ms' ∧ Kb (ltL ms' ns')) = _
  rw [ints_mapE, ints_mapE]
  exact propext ⟨fun ⟨_, _, e1, e2, k⟩ => by cases e1; cases e2; exact k, fun k => ⟨_, _, rfl, rfl, k⟩⟩
theorem c_gel : cmpD .ge (.lst (ns.map .int)) (.lst (ms.map .int)) Kb = Kb (!ltL ns ms) := by
  show (∃ ns' ms', D.ints (ns.map .int) = some ns' ∧ D.ints (ms.map .int) = some ms' ∧ Kb (!ltL ns' ms')) = _
  rw [ints_mapE, ints_mapE]
  exact propext ⟨fun ⟨_, _, e1, e2, k⟩ => by cases e1; cases e2; exact k, fun k => ⟨_, _, rfl, rfl, k⟩⟩
theorem c_nel : cmpD .ne (.lst (ns.map .int)) (.lst (ms.map .int)) Kb = Kb (!decide (ns = ms)) := c_eql (Kb := fun z => Kb (!z))
theorem shp_ints : D.shp (.lst (ns.map .int)) := Eqc.int.lst.shp (by decide) ns
theorem any_ints : (ns.map D.int).any (fun y => y.eqv (.int i)) = decide (i ∈ ns) := by
  induction ns with
  | nil => rfl
  | cons n r ih =>
    show (PyData.eqv (.int n) (.int i) || (r.map D.int).any _) = _
    rw [ih]
    show ((n == i) || _) = _
    rw [beqd, ← Bool.decide_or]
    exact decide_eq_decide.mpr (by rw [List.mem_cons]; exact or_congr eq_comm Iff.rfl)
theorem c_in : cmpD .isin (.int i) (.lst (ns.map .int)) Kb = Kb (decide (i ∈ ns)) := by
  show ((_ ∧ _) ∧ Kb _) = _
  rw [any_ints]
  exact propext ⟨fun h => h.2, fun h => ⟨⟨rfl, shp_ints⟩, h⟩⟩
theorem c_nin : cmpD .nin (.int i) (.lst (ns.map .int)) Kb = Kb (!decide (i ∈ ns)) := c_in (Kb := fun z => Kb (!z))
end
/-! ### loops -/
theorem cutS {Γ : List SpD} {s : Cm} {ss : Cms} {ρ : Pl} {E : EndsD} (Q : Pl → Prop) (h : ∀ ρ', Q ρ' → wpSs Γ ss ρ' E) (g : ∀ nx : Pl → Prop, (∀ ρ', Q ρ' → nx ρ') → wpS Γ s ρ { E with nx := nx }) : wpSs Γ (.cons s ss) ρ E := g _ h
theorem forD_inv {tg : Tg} {body : Pl → EndsD → Prop} {i : Option (Nat × Cell)} {xs : List D} {ρ : Pl} {E : EndsD} (Inv : Nat → Pl → Prop) (h0 : Inv 0 ρ)
    (step : ∀ k x ρ (nxt bk : Pl → Prop), xs[k]? = some x → Inv k ρ → (∀ ρ', Inv (k + 1) ρ' → nxt ρ') → (∀ ρ', forD.backD i ρ' E.nx → bk ρ') → tgFree ρ tg ∧ tgD tg x ρ fun ρ1 => body ρ1 { nx := nxt, ct := nxt, bk := bk, rt := E.rt })
    (stop : ∀ ρ, Inv xs.length ρ → forD.backD i ρ E.nx) : forD tg body i xs ρ E := by
  suffices h : ∀ (zs ys : List D) ρ, xs = ys ++ zs → Inv ys.length ρ → forD tg body i zs ρ E from h xs [] ρ rfl h0
  intro zs
  induction zs with
  | nil => intro ys ρ e q; rw [List.append_nil] at e; subst e; exact stop ρ q
  | cons z r ih =>
    intro ys ρ e q
    refine step ys.length z ρ _ _ ?_ q (fun ρ' q' => ih (ys ++ [z]) ρ' (by rw [e]; simp) (by simpa using q')) (fun _ h => h)
    rw [e]; simp
/-- for i in range -/
theorem for_rng1 {Γ : List SpD} {tg : Tg} {e : Ex} {s : Cms} {ρ : Pl} {E : EndsD} (j : Int) (he : ∀ K : KE, K (.int j) .froz ρ → K (.int j) .deep ρ → wpE Γ .bor e ρ K) (hj : -(2 ^ 62) ≤ j ∧ j < 2 ^ 62)
    (Inv : Nat → Pl → Prop) (h0 : Inv 0 ρ)
    (step : ∀ (k : Nat) ρ (nxt bk : Pl → Prop), (k : Int) < j → Inv k ρ → (∀ ρ', Inv (k + 1) ρ' → nxt ρ') → (∀ ρ', E.nx ρ' → bk ρ') → tgFree ρ tg ∧ tgD tg (.int k) ρ fun ρ1 => wpSs Γ s ρ1 { nx := nxt, ct := nxt, bk := bk, rt := E.rt })
    (stop : ∀ ρ, Inv j.toNat ρ → E.nx ρ) : forS Γ tg (.rng1 e) s ρ E := by
  have g : forD tg (fun ρ E => wpSs Γ s ρ E) none (rngL 0 j) ρ E := by
    have len : (rngL 0 j).length = j.toNat := by simp [rngL]
    refine forD_inv Inv h0 (fun k x ρ nxt bk hx q n b => ?_) (fun ρ q => stop ρ (len ▸ q))
    have hk : k < j.toNat := by
      have := (List.getElem?_eq_some_iff.mp hx).1
      omega
    have : x = .int k := by
      unfold rngL at hx
      rw [List.getElem?_map, List.getElem?_range (by omega)] at hx
      cases hx
      simp
    subst this
    exact step k ρ nxt bk (by omega) q n b
  exact he _ ⟨j, rfl, hj, g⟩ ⟨j, rfl, hj, g⟩
theorem for_rng2 {Γ : List SpD} {tg : Tg} {e f : Ex} {s : Cms} {ρ : Pl} {E : EndsD} (i j : Int) (he : ∀ K : KE, (∀ l, K (.int i) l ρ) → wpE Γ .bor e ρ K) (hf : ∀ K : KE, (∀ l, K (.int j) l ρ) → wpE Γ .bor f ρ K) (hj : -(2 ^ 62) ≤ i ∧ i < 2 ^ 62 ∧ -(2 ^ 62) ≤ j ∧ j < 2 ^ 62)
    (Inv : Nat → Pl → Prop) (h0 : Inv 0 ρ)
    (step : ∀ (k : Nat) ρ (nxt bk : Pl → Prop), i + k < j → Inv k ρ → (∀ ρ', Inv (k + 1) ρ' → nxt ρ') → (∀ ρ', E.nx ρ' → bk ρ') → tgFree ρ tg ∧ tgD tg (.int (i + k)) ρ fun ρ1 => wpSs Γ s ρ1 { nx := nxt, ct := nxt, bk := bk, rt := E.rt })
    (stop : ∀ ρ, Inv (j - i).toNat ρ → E.nx ρ) : forS Γ tg (.rng2 e f) s ρ E := by
  have g : forD tg (fun ρ E => wpSs Γ s ρ E) none (rngL i j) ρ E := by
    have len : (rngL i j).length = (j - i).toNat := by simp [rngL]
    refine forD_inv Inv h0 (fun k x ρ nxt bk hx q n b => ?_) (fun ρ q => stop ρ (len ▸ q))
    have hk : k < (j - i).toNat := by
      have := (List.getElem?_eq_some_iff.mp hx).1
      omega
    have : x = .int (i + k) := by
      unfold rngL at hx
      rw [List.getElem?_map, List.getElem?_range (by omega)] at hx
      cases hx
      rfl
    subst this
    exact step k ρ nxt bk (by omega) q n b
  exact he _ fun _ => hf _ fun _ => ⟨i, j, rfl, rfl, by omega, g⟩
/-- for x in a collection -/
theorem for_col {Γ : List SpD} {tg : Tg} {e : Ex} {s : Cms} {ρ : Pl} {E : EndsD} (xs : List D) (ρ0 : Pl) (hl : lentAt ρ (.col e) = none) (he : ∀ K : KE, (∀ l, K (.lst xs) l ρ0) → wpE Γ .own e ρ K)
    (Inv : Nat → Pl → Prop) (h0 : Inv 0 ρ0)
    (step : ∀ (k : Nat) x ρ (nxt bk : Pl → Prop), xs[k]? = some x → Inv k ρ → (∀ ρ', Inv (k + 1) ρ' → nxt ρ') → (∀ ρ', E.nx ρ' → bk ρ') → tgFree ρ tg ∧ tgD tg x ρ fun ρ1 => wpSs Γ s ρ1 { nx := nxt, ct := nxt, bk := bk, rt := E.rt })
    (stop : ∀ ρ, Inv xs.length ρ → E.nx ρ) : forS Γ tg (.col e) s ρ E := by
  have g : forD tg (fun ρ E => wpSs Γ s ρ E) none xs ρ0 E := forD_inv Inv h0 (fun k x ρ nxt bk hx q n b => step k x ρ nxt bk hx q n b) stop
  show wpS Γ (.forr tg (.col e) s) ρ E
  unfold wpS
  rw [hl]
  show wpE Γ .own e ρ _
  exact he _ fun l => g
theorem for_lent {Γ : List SpD} {tg : Tg} {n : Nat} {s : Cms} {ρ : Pl} {E : EndsD} (xs : List D) (c : Cell) (hl : lentAt ρ (.col (.var n)) = some (n, c)) (hc : c.d = .lst xs)
    (Inv : Nat → Pl → Prop) (h0 : Inv 0 (ρ.set n (.ln (.lst xs))))
    (step : ∀ (k : Nat) x ρ (nxt bk : Pl → Prop), xs[k]? = some x → Inv k ρ → (∀ ρ', Inv (k + 1) ρ' → nxt ρ') → (∀ ρ', E.nx (ρ'.set n (c.back (ρ'.pt n))) → bk ρ') → tgFree ρ tg ∧ tgD tg x ρ fun ρ1 => wpSs Γ s ρ1 { nx := nxt, ct := nxt, bk := bk, rt := E.rt })
    (stop : ∀ ρ, Inv xs.length ρ → E.nx (ρ.set n (c.back (ρ.pt n)))) : forS Γ tg (.col (.var n)) s ρ E := by
  have hc' : c = .tp (.lst xs) ∨ c = .dp (.lst xs) ∨ c = .ln (.lst xs) := by
    have hl : (match ρ.pt n with | .tp (.lst xs) => some (n, Cell.tp (.lst xs)) | .dp (.lst xs) => some (n, Cell.dp (.lst xs)) | .ln (.lst xs) => if D.immL xs = true then some (n, Cell.ln (.lst xs)) else none | _ => none) = some (n, c) := hl
    split at hl
    · cases hl; left; cases hc; rfl
    · cases hl; right; left; cases hc; rfl
    · split at hl
      · cases hl; right; right; cases hc; rfl
      · cases hl
    · cases hl
  have hd : c.lend = .ln (.lst xs) := by rcases hc' with rfl | rfl | rfl <;> rfl
  have g : forD tg (fun ρ E => wpSs Γ s ρ E) (some (n, c)) xs (ρ.set n (.ln (.lst xs))) E := forD_inv Inv h0 (fun k x ρ nxt bk hx q n b => step k x ρ nxt bk hx q n b) stop
  show wpS Γ (.forr tg (.col (.var n)) s) ρ E
  unfold wpS
  rw [hl]
  show itemsD c.d _
  rw [hc, hd]
  exact g
theorem whl_inv {Γ : List SpD} {c : Ex} {s : Cms} {ρ : Pl} {E : EndsD} (I : Nat → Pl → Prop) (m : Nat) (h0 : I m ρ)
    (step : ∀ m ρ (nxt : Pl → Prop), I m ρ → (∀ m' ρ', m' < m → I m' ρ' → nxt ρ') → wpE Γ .bor c ρ fun x _ _ => ∃ k, x = .bl k ∧ if k = true then wpSs Γ s ρ { nx := nxt, ct := nxt, bk := E.nx, rt := E.rt } else E.nx ρ) : whlS Γ c s ρ E :=
  ⟨I, ⟨m, h0⟩, fun m ρ h => step m ρ _ h fun m' ρ' a b => ⟨m', a, b⟩⟩
/-- a comprehension whose parts are atoms -/
theorem loopC_atoms {step : D → List D → Bool → Pl → (List D → Bool → Pl → Prop) → Prop} {ρ : Pl} {K : List D → Bool → Pl → Prop} {xs : List D} (f : D → Option D) (h : xs.length ≤ sizeLine)
    (hs : ∀ x acc k, x ∈ xs → acc.length < sizeLine → k (match f x with | some y => acc ++ [y] | none => acc) true ρ → step x acc true ρ k) (hk : K (xs.filterMap f) true ρ) : loopC step xs [] true ρ K := by
  suffices g : ∀ (zs acc : List D), (∀ x ∈ zs, x ∈ xs) → acc.length + zs.length ≤ sizeLine → K (acc ++ zs.filterMap f) true ρ → loopC step zs acc true ρ K from g xs [] (fun _ h => h) (by simpa using h) hk
  intro zs
  induction zs with
  | nil => intro acc _ _ hk; rw [List.filterMap_nil, List.append_nil] at hk; exact hk
  | cons z r ih =>
    intro acc hm hl hk
    rw [List.length_cons] at hl
    refine hs z acc _ (hm z (List.mem_cons_self ..)) (by omega) ?_
    rw [List.filterMap_cons] at hk
    cases e : f z with
    | none => rw [e] at hk; exact ih acc (fun x h => hm x (List.mem_cons_of_mem _ h)) (by omega) hk
    | some y =>
      rw [e] at hk
      refine ih (acc ++ [y]) (fun x h => hm x (List.mem_cons_of_mem _ h)) (by rw [List.length_append]; simp; omega) ?_
      rw [List.append_assoc]; exact hk
def resK (m : Md) (ρ ρ2 : Pl) (K : KE) (d : D) : Prop := match m with | .bor => K d .froz ρ | _ => K d .deep ρ2
theorem rs_b {ρ ρ2 : Pl} {K : KE} {d : D} : resK .bor ρ ρ2 K d = K d .froz ρ := rfl
theorem rs_k {ρ ρ2 : Pl} {K : KE} {d : D} : resK .kid ρ ρ2 K d = K d .deep ρ2 := rfl
theorem rs_o {ρ ρ2 : Pl} {K : KE} {d : D} : resK .own ρ ρ2 K d = K d .deep ρ2 := rfl
/-- the comprehension over a known row, its parts plain -/
theorem lc_gen {α β : Type} {Γ : List SpD} {m : Md} {own : List Nat} {elt : Ex} {tg : Tg} {it : Rg} {cs : Exs} {ρ ρ1 ρw : Pl} {K : KE} (as : List α) (e : α → D) (p : α → Bool) (h : α → β) (e' : β → D)
    (hi : ∀ Q : List D → Pl → Prop, Q (as.map e) ρ1 → wpI Γ .kid it ρ Q) (hf : ∀ i ∈ own, free ρ1 i) (hw : wipeD ρ1 own = ρw) (hl : as.length ≤ sizeLine)
    (hs : ∀ a, a ∈ as → ∀ (kd : D → Lv → Pl → Pl → Prop) (kn : Pl → Prop),
      (p a = true → ∀ l ρa ρb, wipeD ρa own = ρw → ((e' (h a)).imm = true ∨ (isDeep l = true ∧ wipeD ρb own = ρw)) → kd (e' (h a)) l ρa ρb) → (p a = false → ∀ ρa, wipeD ρa own = ρw → kn ρa) →
      tgD tg (e a) ρw fun ρa => wpCs Γ cs ρa fun b => if b = true then wpE Γ .own elt ρa fun d l ρb => kd d l ρa ρb else kn ρa)
    (hk : resK m ρ (unwipe ρ1 ρw own) K (.lst (((as.filter p).map h).map e'))) : lcS Γ m own elt tg it cs ρ K := by
  subst hw
  refine hi _ ⟨hf, ?_⟩
  suffices g : ∀ (KK : List D → Bool → Pl → Prop) (zs : List α) (bs : List β), (∀ a ∈ zs, a ∈ as) → bs.length + zs.length ≤ sizeLine → KK ((bs ++ (zs.filter p).map h).map e') true (wipeD ρ1 own) →
      loopC (fun x acc al ρ k => tgD tg x ρ fun ρa => wpCs Γ cs ρa fun b =>
          if b = true then wpE Γ .own elt ρa fun d l ρb => acc.length < sizeLine ∧ (if d.imm = true then k (acc ++ [d]) al (wipeD ρa own) else k (acc ++ [d]) (al && isDeep l) (wipeD ρb own))
          else k acc al (wipeD ρa own)) (zs.map e) (bs.map e') true (wipeD ρ1 own) KK by
    refine g _ as [] (fun _ h => h) (by simpa using hl) ?_
    cases m <;> exact hk
  intro KK zs
  induction zs with
  | nil =>
    intro bs _ _ hk
    rw [List.filter_nil, List.map_nil, List.append_nil] at hk
    exact hk
  | cons z r ih =>
    intro bs hm hl hk
    rw [List.length_cons] at hl
    rw [List.map_cons]
    refine hs z (hm z (List.mem_cons_self ..)) _ _ (fun hp l ρa ρb h1 h2 => ?_) (fun hp ρa h1 => ?_)
    · rw [List.filter_cons_of_pos hp] at hk
      have g := ih (bs ++ [h z]) (fun x h => hm x (List.mem_cons_of_mem _ h)) (by rw [List.length_append]; simp; omega) (by rw [List.append_assoc]; exact hk)
      rw [List.map_append] at g
      refine ⟨by rw [List.length_map]; omega, ?_⟩
      rcases h2 with h2 | ⟨h2, h3⟩
      · rw [if_pos h2, h1]; exact g
      · split
        · rw [h1]; exact g
        · rw [h2, h3]; exact g
    · rw [List.filter_cons_of_neg (by rw [hp]; decide)] at hk
      rw [h1]
      exact ih bs (fun x h => hm x (List.mem_cons_of_mem _ h)) (by omega) hk
theorem lc_map {α β : Type} {Γ : List SpD} {m : Md} {own : List Nat} {elt : Ex} {tg : Tg} {it : Rg} {ρ ρ1 ρw : Pl} {K : KE} (as : List α) (e : α → D) (h : α → β) (e' : β → D)
    (hi : ∀ Q : List D → Pl → Prop, Q (as.map e) ρ1 → wpI Γ .kid it ρ Q) (hf : ∀ i ∈ own, free ρ1 i) (hw : wipeD ρ1 own = ρw) (hl : as.length ≤ sizeLine)
    (hs : ∀ a, a ∈ as → ∀ (kd : D → Lv → Pl → Pl → Prop),
      (∀ l ρa ρb, wipeD ρa own = ρw → ((e' (h a)).imm = true ∨ (isDeep l = true ∧ wipeD ρb own = ρw)) → kd (e' (h a)) l ρa ρb) →
      tgD tg (e a) ρw fun ρa => wpE Γ .own elt ρa fun d l ρb => kd d l ρa ρb)
    (hk : resK m ρ (unwipe ρ1 ρw own) K (.lst ((as.map h).map e'))) : lcS Γ m own elt tg it .nil ρ K := by
  refine lc_gen as e (fun _ => true) h e' hi hf hw hl (fun a ha kd kn h1 h2 => ?_) (by rw [List.filter_eq_self.mpr (fun _ _ => rfl)]; exact hk)
  have g := hs a ha kd (h1 rfl)
  simpa only [wpCs, if_true] using g
/-- the range's numbers -/
def rgI (a b : Int) : List Int := (List.range (b - a).toNat).map fun i => a + (i : Nat)
theorem rngL_eq {a b : Int} : rngL a b = (rgI a b).map .int := by
  unfold rngL rgI
  rw [List.map_map]; rfl
theorem rgI_len {a b : Int} : (rgI a b).length = (b - a).toNat := by simp [rgI]
theorem mem_rgI {a b x : Int} : x ∈ rgI a b ↔ a ≤ x ∧ x < b := by
  unfold rgI
  rw [List.mem_map]
  constructor
  · rintro ⟨i, hi, rfl⟩
    rw [List.mem_range] at hi
    omega
  · intro h
    exact ⟨(x - a).toNat, by rw [List.mem_range]; omega, by omega⟩
section
variable {Γ : List SpD} {m : Md} {ρ : Pl} {a b : Ex} {Q : List D → Pl → Prop}
theorem r_1 : wpI Γ m (.rng1 b) ρ Q = wpE Γ .bor b ρ fun x _ _ => ∃ j, x = .int j ∧ (-(2 ^ 62) ≤ j ∧ j < 2 ^ 62) ∧ Q (rngL 0 j) ρ := rfl
theorem r_2 : wpI Γ m (.rng2 a b) ρ Q = wpE Γ .bor a ρ fun x _ _ => wpE Γ .bor b ρ fun y _ _ => ∃ i j, x = .int i ∧ y = .int j ∧ (-(2 ^ 180) ≤ i ∧ i < 2 ^ 180 ∧ -(2 ^ 180) ≤ j ∧ j < 2 ^ 180) ∧ Q (rngL i j) ρ := rfl
theorem r_c : wpI Γ m (.col a) ρ Q = wpE Γ m a ρ fun x l ρ1 => itemsD x fun xs => kidK m xs (Q xs ρ) (Q xs ρ1) := rfl
end
end R

namespace R
open PySem PySem.Spec PyProof.Rows L2
/-- what follows, not opened -/
def rest (Γ : List SpD) (ss : Cms) (E : EndsD) : Pl → Prop := fun ρ' => wpSs Γ ss ρ' E
theorem rest_ap {Γ : List SpD} {ss : Cms} {E : EndsD} {ρ : Pl} : rest Γ ss E ρ = wpSs Γ ss ρ E := rfl
theorem s_consR {Γ : List SpD} {s : Cm} {ss : Cms} {ρ : Pl} {E : EndsD} : wpSs Γ (.cons s ss) ρ E = wpS Γ s ρ { nx := rest Γ ss E, rt := E.rt, bk := E.bk, ct := E.ct } := rfl
theorem Sm_of {a : Int} (h1 : -(1000000000000000000000000000000000000000000000000000000000000) ≤ a) (h2 : a ≤ 1000000000000000000000000000000000000000000000000000000000000) : Sm a := by
  have h : a.natAbs < 2 ^ 200 := by omega
  exact Nat.lt_of_lt_of_le h (Nat.pow_le_pow_right (by decide) (by decide))
theorem SmD_of {a : Int} (h1 : -(1000000000000000000000000000000000000000000000000000000000000) ≤ a) (h2 : a ≤ 1000000000000000000000000000000000000000000000000000000000000) : SmD a := by
  have h : a.natAbs < 2 ^ 200 := by omega
  exact Nat.lt_of_lt_of_le h (Nat.pow_le_pow_right (by decide) (by decide))
theorem end_nx {Kk : D → Prop} {ρ : Pl} : (endsD Kk).nx ρ = Kk .non := rfl
theorem end_rt {Kk : D → Prop} {d : D} {l : Lv} : (endsD Kk).rt d l = (retOk d l ∧ Kk d) := rfl
theorem end_bk {Kk : D → Prop} {ρ : Pl} : (endsD Kk).bk ρ = False := rfl
theorem end_ct {Kk : D → Prop} {ρ : Pl} : (endsD Kk).ct ρ = False := rfl
theorem ret_d {d : D} : retOk d .deep = True := eq_true (Or.inr (Or.inl rfl))
theorem ret_i {i : Int} {l : Lv} : retOk (.int i) l = True := eq_true (Or.inl rfl)
theorem ret_b {i : Bool} {l : Lv} : retOk (.bl i) l = True := eq_true (Or.inl rfl)
theorem ret_n {l : Lv} : retOk .non l = True := eq_true (Or.inl rfl)
theorem ret_t {ns : List Int} : retOk (.lst (ns.map .int)) .top = True := eq_true (Or.inr (Or.inr ⟨rfl, kimm_ints⟩))
theorem start_eq {n : Nat} {ds : List D} : startD n ds = ds.map .fz ++ List.replicate (n - ds.length) .un := rfl
theorem len_c {α : Type} {a : α} {l : List α} : (a :: l).length = l.length + 1 := rfl
theorem len_n {α : Type} : ([] : List α).length = 0 := rfl
theorem all_c {P : Nat → Prop} {a : Nat} {l : List Nat} : (∀ i ∈ a :: l, P i) = (P a ∧ ∀ i ∈ l, P i) := propext List.forall_mem_cons
theorem all_n {P : Nat → Prop} : (∀ i ∈ ([] : List Nat), P i) = True := eq_true (fun _ h => absurd h List.not_mem_nil)
end R
namespace R
theorem sizeLine_eq : PySem.sizeLine = 16777216 := rfl
theorem map_get {α : Type} {f : α → D} {xs : List α} {k : Nat} {x : D} (h : (xs.map f)[k]? = some x) : ∃ a, xs[k]? = some a ∧ x = f a := by
  rw [List.getElem?_map] at h
  cases e : xs[k]? with
  | none => rw [e] at h; cases h
  | some a => rw [e] at h; cases h; exact ⟨a, rfl, rfl⟩
theorem cut_to {α : Type} {xs : List α} {n : Int} (h : 0 ≤ n) : cut xs none (some n) = xs.take n.toNat := by
  unfold cut
  have e1 : HT.sIx xs.length 0 none = 0 := rfl
  have e2 : HT.sIx xs.length xs.length (some n) = min n.toNat xs.length := by
    show (if n < 0 then (n + (xs.length : Int)).toNat else min n.toNat xs.length) = _
    rw [if_neg (by omega)]
  rw [e1, e2]
  simp [List.take_eq_take_iff]
theorem cut_from {α : Type} {xs : List α} {n : Int} (h : 0 ≤ n) : cut xs (some n) none = xs.drop n.toNat := by
  unfold cut
  have e1 : HT.sIx xs.length xs.length none = xs.length := rfl
  have e2 : HT.sIx xs.length 0 (some n) = min n.toNat xs.length := by
    show (if n < 0 then (n + (xs.length : Int)).toNat else min n.toNat xs.length) = _
    rw [if_neg (by omega)]
  rw [e1, e2]
  by_cases q : n.toNat ≤ xs.length
  · rw [Nat.min_eq_left q]; exact List.take_of_length_le (by simp)
  · rw [Nat.min_eq_right (by omega), List.drop_of_length_le (Nat.le_refl _), List.drop_of_length_le (by omega)]; simp
theorem atI_nat {α : Type} {xs : List α} {n : Nat} {x : α} (h : xs[n]? = some x) : L2.atI xs (n : Int) = some x := by
  unfold L2.atI L2.ixN
  have := (List.getElem?_eq_some_iff.mp h).1
  rw [if_pos (by omega), if_pos (by omega)]
  simpa using h
theorem atI_int {α : Type} {xs : List α} {i : Int} (h0 : 0 ≤ i) (h : i < xs.length) : ∃ x, xs[i.toNat]? = some x ∧ L2.atI xs i = some x := by
  refine ⟨xs[i.toNat]'(by omega), List.getElem?_eq_getElem _, ?_⟩
  unfold L2.atI L2.ixN
  rw [if_pos h0, if_pos h]
  exact List.getElem?_eq_getElem _
theorem atI_mem {α : Type} {xs : List α} {i : Int} {x : α} (h : L2.atI xs i = some x) : x ∈ xs := by
  unfold L2.atI at h
  cases q : L2.ixN xs.length i with
  | none => rw [q] at h; cases h
  | some j => rw [q] at h; exact List.mem_of_getElem? h
theorem ixN_int {n : Nat} {i : Int} (h0 : 0 ≤ i) (h : i < n) : L2.ixN n i = some i.toNat := by
  unfold L2.ixN
  rw [if_pos h0, if_pos h]
end R
namespace R
theorem ediv_bd {a c M : Int} (h : 0 < c) (hM : 0 ≤ M) (h1 : -M ≤ a) (h2 : a ≤ M) : -M ≤ a / c ∧ a / c ≤ M := by
  have e : M * 1 ≤ M * c := Int.mul_le_mul_of_nonneg_left (by omega) hM
  refine ⟨Int.le_ediv_of_mul_le h ?_, Int.ediv_le_of_le_mul h ?_⟩
  · rw [Int.neg_mul]; omega
  · omega
theorem range_map_succ {α : Type} {f : Nat → α} {k : Nat} : (List.range k).map f ++ [f k] = (List.range (k + 1)).map f := by
  rw [List.range_succ, List.map_append]; rfl
theorem mem_isort {x : Int} : ∀ {xs : List Int}, x ∈ isort xs ↔ x ∈ xs
  | [] => Iff.rfl
  | y :: r => by
    have h : ∀ {z : List Int}, x ∈ ins y z ↔ x = y ∨ x ∈ z := by
      intro z
      induction z with
      | nil => simp [ins]
      | cons w t ih =>
        unfold ins
        split
        · simp
        · simp [ih]
          constructor
          · rintro (h | h | h)
            · exact .inr (.inl h)
            · exact .inl h
            · exact .inr (.inr h)
          · rintro (h | h | h)
            · exact .inr (.inl h)
            · exact .inl h
            · exact .inr (.inr h)
    show x ∈ ins y (isort r) ↔ _
    rw [h, mem_isort, List.mem_cons]
theorem insPerm {x : Int} : ∀ {xs : List Int}, (ins x xs).Perm (x :: xs)
  | [] => .refl _
  | y :: r => by
    unfold ins
    split
    · exact .refl _
    · exact (List.Perm.cons y insPerm).trans (.swap ..)
theorem isortPerm : ∀ {xs : List Int}, (isort xs).Perm xs
  | [] => .refl _
  | x :: r => insPerm.trans (List.Perm.cons x isortPerm)
theorem ins_pw {x : Int} : ∀ {xs : List Int}, xs.Pairwise (· ≤ ·) → (ins x xs).Pairwise (· ≤ ·)
  | [], _ => by simp [ins]
  | y :: r, h => by
    unfold ins
    rw [List.pairwise_cons] at h
    split
    · next q =>
      rw [List.pairwise_cons]
      refine ⟨fun z hz => ?_, List.pairwise_cons.mpr h⟩
      rcases List.mem_cons.mp hz with rfl | hz
      · exact q
      · exact Int.le_trans q (h.1 z hz)
    · next q =>
      rw [List.pairwise_cons]
      refine ⟨fun z hz => ?_, ins_pw h.2⟩
      rcases List.mem_cons.mp (insPerm.mem_iff.mp hz) with rfl | hz
      · omega
      · exact h.1 z hz
theorem isort_pw : ∀ {xs : List Int}, (isort xs).Pairwise (· ≤ ·)
  | [] => .nil
  | x :: r => ins_pw isort_pw
theorem isort_len {xs : List Int} : (isort xs).length = xs.length := isortPerm.length_eq
/-- an ascending row is known by its parts -/
theorem pw_unique : ∀ {xs ys : List Int}, xs.Pairwise (· ≤ ·) → ys.Pairwise (· ≤ ·) → xs.Perm ys → xs = ys
  | [], ys, _, _, p => (List.Perm.nil_eq p)
  | x :: r, [], _, _, p => absurd p.length_eq (by simp)
  | x :: r, y :: t, h, g, p => by
    rw [List.pairwise_cons] at h g
    have e : x = y := by
      have h1 : x ∈ y :: t := p.mem_iff.mp (List.mem_cons_self ..)
      have h2 : y ∈ x :: r := p.mem_iff.mpr (List.mem_cons_self ..)
      rcases List.mem_cons.mp h1 with h1 | h1
      · exact h1
      · rcases List.mem_cons.mp h2 with h2 | h2
        · exact h2.symm
        · exact Int.le_antisymm (h.1 y h2) (g.1 x h1)
    subst e
    rw [pw_unique h.2 g.2 ((List.perm_cons _).mp p)]
theorem isortEq {xs ys : List Int} (p : xs.Perm ys) : isort xs = isort ys := pw_unique isort_pw isort_pw (isortPerm.trans (p.trans isortPerm.symm))
theorem isort_id {xs : List Int} (h : xs.Pairwise (· ≤ ·)) : isort xs = xs := pw_unique isort_pw h isortPerm
theorem isort_lt {xs : List Int} (h : xs.Nodup) : (isort xs).Pairwise (· < ·) := by
  have n : (isort xs).Nodup := isortPerm.nodup_iff.mpr h
  exact (List.Pairwise.and isort_pw n).imp fun ⟨a, b⟩ => by omega
theorem lt_unique {xs ys : List Int} (h : xs.Pairwise (· < ·)) (g : ys.Pairwise (· < ·)) (m : ∀ x, x ∈ xs ↔ x ∈ ys) : xs = ys := by
  refine pw_unique (h.imp fun a => Int.le_of_lt a) (g.imp fun a => Int.le_of_lt a) ?_
  have n1 : xs.Nodup := h.imp fun a => by omega
  have n2 : ys.Nodup := g.imp fun a => by omega
  exact (List.perm_ext_iff_of_nodup n1 n2).mpr m
end R
namespace R
theorem rep_int {k : Nat} {x : Int} : (List.replicate k [D.int x]).flatten = (List.replicate k x).map .int := by
  induction k with
  | zero => rfl
  | succ k ih => rw [List.replicate_succ, List.flatten_cons, ih, List.replicate_succ]; rfl
theorem app_int {xs ys : List Int} : xs.map D.int ++ ys.map D.int = (xs ++ ys).map .int := List.map_append.symm
end R
namespace R
theorem rest_mk {Γ : List SpD} {ss : Cms} {E : EndsD} {ρ : Pl} (h : wpSs Γ ss ρ E) : rest Γ ss E ρ := h
theorem join {c : Prop} [Decidable c] {F : Pl → Prop} {ρ1 ρ2 : Pl} (Q : Pl → Prop) (h : ∀ ρ, Q ρ → F ρ) (h1 : c → Q ρ1) (h2 : ¬c → Q ρ2) : if c then F ρ1 else F ρ2 := by
  split
  · next q => exact h _ (h1 q)
  · next q => exact h _ (h2 q)
theorem join1 {c : Prop} [Decidable c] {F : Pl → Prop} {P1 : Prop} {ρ2 : Pl} (Q : Pl → Prop) (h : ∀ ρ, Q ρ → F ρ) (h1 : c → (∀ ρ, Q ρ → F ρ) → P1) (h2 : ¬c → Q ρ2) : if c then P1 else F ρ2 := by
  split
  · next q => exact h1 q h
  · next q => exact h _ (h2 q)
end R
namespace R
theorem rest_nil {Γ : List SpD} {E : EndsD} {ρ : Pl} : rest Γ .nil E ρ = E.nx ρ := rfl
end R

namespace R
open PySem PySem.Spec PyProof.Rows L2
section
variable {P : Program} {w : World} {K : PySem.W.Frag} {mg : Str → Option Value} {base : Heap}
theorem call_okW (sh : Bool) {x qual : Str} {st : Stmt} {f : Addr} {fd : FuncData} (F : Fun K x qual st f fd) (hm : mg x = some (.ref f)) {ps : List Str} (b : Binds K fd ps []) (t : Tab) (S : FnScope t.N ps (defScope st)) (Γ : List SpD) (code : Cms) (ok : okSs t (defScope st).names code (defBody st) = true) (k : Nat)
    (calls : ∀ (g : Nat) (y : Str), t.G[g]? = some y → CallIn P w K mg base k (t.F.getD g false) y (Γ.getD g fun _ _ => False)) (blt : ∀ y ∈ t.B, mg y = none) (con : ∀ p ∈ t.C, ∃ u v, mg p.1 = some u ∧ RelV v u ∧ p.2.imm = true ∧ ∀ H, Rep K H v p.2 [])
    (sp : SpD) (hlen : ∀ ds Kk, sp ds Kk → ds.length = ps.length) (body : ∀ ds Kk, sp ds Kk → wpSs Γ code (startD t.N.length ds) (endsW sh Kk)) : CallIn P w K mg base (k + 1) sh x sp :=
  ⟨⟨f, fd, ps, fn_okW sh F t S Γ code ok k calls blt con sp hlen body, hm, F.kp, b, hlen⟩⟩
theorem call_ok {x qual : Str} {st : Stmt} {f : Addr} {fd : FuncData} (F : Fun K x qual st f fd) (hm : mg x = some (.ref f)) {ps : List Str} (b : Binds K fd ps []) (t : Tab) (S : FnScope t.N ps (defScope st)) (Γ : List SpD) (code : Cms) (ok : okSs t (defScope st).names code (defBody st) = true) (k : Nat)
    (calls : ∀ (g : Nat) (y : Str), t.G[g]? = some y → CallIn P w K mg base k (t.F.getD g false) y (Γ.getD g fun _ _ => False)) (blt : ∀ y ∈ t.B, mg y = none) (con : ∀ p ∈ t.C, ∃ u v, mg p.1 = some u ∧ RelV v u ∧ p.2.imm = true ∧ ∀ H, Rep K H v p.2 [])
    (sp : SpD) (hlen : ∀ ds Kk, sp ds Kk → ds.length = ps.length) (body : ∀ ds Kk, sp ds Kk → wpSs Γ code (startD t.N.length ds) (endsD Kk)) : CallIn P w K mg base (k + 1) false x sp :=
  call_okW false F hm b t S Γ code ok k calls blt con sp hlen body
theorem calls_n {k : Nat} {F : List Bool} {Γ : List SpD} : ∀ (g : Nat) (y : Str), ([] : List Str)[g]? = some y → CallIn P w K mg base k (F.getD g false) y (Γ.getD g fun _ _ => False) := fun g y h => by cases g <;> cases h
theorem calls_c {k j : Nat} {y0 : Str} {G : List Str} {sh : Bool} {F : List Bool} {s0 : SpD} {Γ : List SpD} (c : CallIn P w K mg base j sh y0 s0) (hj : j ≤ k) (r : ∀ (g : Nat) (y : Str), G[g]? = some y → CallIn P w K mg base k (F.getD g false) y (Γ.getD g fun _ _ => False)) :
    ∀ (g : Nat) (y : Str), (y0 :: G)[g]? = some y → CallIn P w K mg base k ((sh :: F).getD g false) y ((s0 :: Γ).getD g fun _ _ => False) := fun g y h => by
  cases g with
  | zero => cases h; exact c.mono hj
  | succ g => exact r g y h
theorem blt_n : ∀ y ∈ ([] : List Str), mg y = none := fun _ h => absurd h List.not_mem_nil
theorem blt_c {y0 : Str} {B : List Str} (h : mg y0 = none) (r : ∀ y ∈ B, mg y = none) : ∀ y ∈ y0 :: B, mg y = none := List.forall_mem_cons.mpr ⟨h, r⟩
theorem con_n : ∀ p ∈ ([] : List (Str × D)), ∃ u v, mg p.1 = some u ∧ RelV v u ∧ p.2.imm = true ∧ ∀ H, Rep K H v p.2 [] := fun _ h => absurd h List.not_mem_nil
end
def SpLaw : SpD := fun ds Kk => ∃ ns : List Int, ds = [.fro (ns.map .int)] ∧ ns.length ≤ 63 ∧ Kk (.bl true)
theorem reps_intsV {K : PySem.W.Frag} {H : Hp} : ∀ ns : List Int, Reps K H (ns.map V.int) (ns.map D.int) []
  | [] => .nil
  | n :: r => .cons (A := []) (.int n) (reps_intsV r)
theorem law_sp {K : PySem.W.Frag} (H : Hp) (a : Addr) (ns : List Int) (hl : ns.length ≤ 63) (hO : Only H) (hS : SqL K H a (ns.map V.int)) : spOf K 1 SpLaw [.ref a] H (fun v _ => v = .bl true) fun _ _ _ => False := by
  have r : Rep K H (.ref a) (.fro (ns.map .int)) [] := by
    by_cases q : ∃ (o : Obj) (its : Array Value) (n : Nat), K.lookup a = some o ∧ o.cls = .type "list" ∧ o.dict = none ∧ o.data = .seq its n ∧ its.size ≤ sizeLine ∧ Vals (ns.map V.int) its.toList
    · exact .froK (fun H' => .inr q) (reps_intsV ns)
    · rcases hS with h | h
      · rcases h with h | ⟨o, h⟩
        · rcases hO a with g | ⟨o, xs, g⟩
          · rw [g] at h; cases h
          · rw [g] at h; cases h
        · exact .fro h (reps_intsV ns)
      · exact absurd h q
  refine ⟨rfl, [.fro (ns.map .int)], [], fun d => d = .bl true, .cons (A := []) r .nil, ⟨ns, rfl, hl, rfl⟩, fun d hd v H' A s r nd n => ?_⟩
  subst hd
  cases r
  rfl
end R

namespace R
open PySem PySem.Spec PyProof.Rows L2
section
variable {Γ : List SpD} {m : Md} {ρ ρ1 : Pl} {K : KE} {d z a b c e x y : D} {l la : Lv} {xs ys r : List D} {Kd : D → Prop} {Kb : Bool → Prop}
theorem ret_tp : retOk (.tup xs) l = (D.immL xs = true ∨ l = .deep ∨ (l = .top ∧ D.immL xs = true)) := rfl
theorem ret_s {q : Str} : retOk (.str q) l = True := eq_true (Or.inl rfl)
theorem cells_n {is : List Nat} : cells l is [] ρ = ρ := by cases is <;> rfl
theorem cells_c {i : Nat} {is : List Nat} : cells l (i :: is) (d :: xs) ρ = cells l is xs (ρ.set i (mkCell d (kdLv l))) := rfl
theorem cells_n' : cells l [] [] ρ = ρ := rfl
theorem ex_one {α : Type} {P : α → Prop} {a : α} : (∃ z, some a = some z ∧ P z) = P a := propext ⟨fun ⟨_, h, k⟩ => by cases h; exact k, fun h => ⟨_, rfl, h⟩⟩
theorem at_0 : L2.atI (a :: r) 0 = some a := atI_nat (n := 0) rfl
theorem at_1 : L2.atI (a :: b :: r) 1 = some b := atI_nat (n := 1) rfl
theorem at_2 : L2.atI (a :: b :: c :: r) 2 = some c := atI_nat (n := 2) rfl
theorem at_3 : L2.atI (a :: b :: c :: d :: r) 3 = some d := atI_nat (n := 3) rfl
theorem at_4 : L2.atI (a :: b :: c :: d :: e :: r) 4 = some e := atI_nat (n := 4) rfl
theorem it_0 : ixD (.tup (a :: r)) (.int 0) Kd = Kd a := by show (∃ z, L2.atI _ _ = some z ∧ _) = _; rw [at_0]; exact ex_one
theorem it_1 : ixD (.tup (a :: b :: r)) (.int 1) Kd = Kd b := by show (∃ z, L2.atI _ _ = some z ∧ _) = _; rw [at_1]; exact ex_one
theorem it_2 : ixD (.tup (a :: b :: c :: r)) (.int 2) Kd = Kd c := by show (∃ z, L2.atI _ _ = some z ∧ _) = _; rw [at_2]; exact ex_one
theorem it_3 : ixD (.tup (a :: b :: c :: d :: r)) (.int 3) Kd = Kd d := by show (∃ z, L2.atI _ _ = some z ∧ _) = _; rw [at_3]; exact ex_one
theorem il_0 : ixD (.lst (a :: r)) (.int 0) Kd = Kd a := by show (∃ z, L2.atI _ _ = some z ∧ _) = _; rw [at_0]; exact ex_one
theorem il_1 : ixD (.lst (a :: b :: r)) (.int 1) Kd = Kd b := by show (∃ z, L2.atI _ _ = some z ∧ _) = _; rw [at_1]; exact ex_one
theorem il_2 : ixD (.lst (a :: b :: c :: r)) (.int 2) Kd = Kd c := by show (∃ z, L2.atI _ _ = some z ∧ _) = _; rw [at_2]; exact ex_one
theorem il_3 : ixD (.lst (a :: b :: c :: d :: r)) (.int 3) Kd = Kd d := by show (∃ z, L2.atI _ _ = some z ∧ _) = _; rw [at_3]; exact ex_one
theorem kp_to : keepD .own (.tup xs) la ρ ρ1 K = if D.immL xs = true then K (.tup xs) .deep ρ else K (.tup xs) (kdLv la) ρ1 := rfl
theorem kp_tk : keepD .kid (.tup xs) la ρ ρ1 K = if D.immL xs = true then K (.tup xs) .deep ρ else K (.tup xs) (kdLv la) ρ1 := rfl
theorem kp_sk {q : Str} : keepD .kid (.str q) la ρ ρ1 K = K (.str q) .deep ρ := rfl
theorem kp_bo {q : Bool} : keepD .own (.bl q) la ρ ρ1 K = K (.bl q) .deep ρ := rfl
theorem kp_bk {q : Bool} : keepD .kid (.bl q) la ρ ρ1 K = K (.bl q) .deep ρ := rfl
theorem kp_no : keepD .own .non la ρ ρ1 K = K .non .deep ρ := rfl
theorem mk_t (h : D.immL xs = true) : mkCell (.tup xs) l = .fz (.tup xs) := mk_imm h
theorem c_eqb {p q : Bool} : cmpD .eq (.bl p) (.bl q) Kb = Kb (p == q) := by
  show ((_ ∧ _) ∧ Kb _) = _
  exact propext ⟨fun h => h.2, fun h => ⟨⟨rfl, rfl⟩, h⟩⟩
theorem c_neb {p q : Bool} : cmpD .ne (.bl p) (.bl q) Kb = Kb (!(p == q)) := c_eqb (Kb := fun z => Kb (!z))
end
theorem c_eqn {ns : List Int} {Kb : Bool → Prop} : cmpD .eq (.lst (ns.map .int)) (.lst []) Kb = Kb (decide (ns = [])) := c_eql (ms := [])
theorem c_nen {ns : List Int} {Kb : Bool → Prop} : cmpD .ne (.lst (ns.map .int)) (.lst []) Kb = Kb (!decide (ns = [])) := c_nel (ms := [])
theorem cs_1 {Γ : List SpD} {e : Ex} {ρ : Pl} {K : Bool → Prop} : wpCs Γ (.cons e .nil) ρ K = wpE Γ .bor e ρ fun x _ _ => ∃ b, x = .bl b ∧ K b := rfl
theorem cs_0 {Γ : List SpD} {ρ : Pl} {K : Bool → Prop} : wpCs Γ .nil ρ K = K true := rfl
theorem rgI_pw {a b : Int} : (rgI a b).Pairwise (· < ·) := by
  unfold rgI
  rw [List.pairwise_map]
  exact List.pairwise_lt_range.imp fun h => by omega
section
variable {α : Type} {a b c d e f : α} {r : List α}
theorem atg_0 : L2.atI (a :: r) 0 = some a := atI_nat (n := 0) rfl
theorem atg_1 : L2.atI (a :: b :: r) 1 = some b := atI_nat (n := 1) rfl
theorem atg_2 : L2.atI (a :: b :: c :: r) 2 = some c := atI_nat (n := 2) rfl
theorem atg_3 : L2.atI (a :: b :: c :: d :: r) 3 = some d := atI_nat (n := 3) rfl
theorem atg_4 : L2.atI (a :: b :: c :: d :: e :: r) 4 = some e := atI_nat (n := 4) rfl
theorem atg_5 : L2.atI (a :: b :: c :: d :: e :: f :: r) 5 = some f := atI_nat (n := 5) rfl
end
/-! ### further forms -/
section
variable {Γ : List SpD} {m : Md} {ρ : Pl} {K : KE} {d e : D} {l : Lv} {xs ys r : List D} {ns ms : List Int} {i j : Int} {Kd : D → Prop} {Kb : Bool → Prop} {Kc : Cell → Prop} {ks : List Key} {vs : List D}
theorem ap_gd : appC (.dp (.lst xs)) d .deep Kc = (xs.length < sizeLine ∧ Kc (.dp (.lst (xs ++ [d])))) := by
  show (_ ∧ Kc (if (d.imm || true) = true then _ else _)) = _
  rw [Bool.or_true, if_pos rfl]
theorem ap_gt : appC (.tp (.lst xs)) d l Kc = (xs.length < sizeLine ∧ Kc (.tp (.lst (xs ++ [d])))) := rfl
theorem ap_gf : appC (.dp (.lst xs)) d .froz Kc = (xs.length < sizeLine ∧ Kc (if d.imm = true then .dp (.lst (xs ++ [d])) else .tp (.lst (xs ++ [d])))) := by
  show (_ ∧ Kc (if (d.imm || false) = true then _ else _)) = _
  rw [Bool.or_false]
theorem rep_map {k : Nat} : (List.replicate k (ns.map D.int)).flatten = ((List.replicate k ns).flatten).map .int := by
  induction k with
  | zero => rfl
  | succ k ih => rw [List.replicate_succ, List.flatten_cons, ih, List.replicate_succ, List.flatten_cons, List.map_append]
theorem app_one : ns.map D.int ++ [D.int i] = (ns ++ [i]).map .int := by rw [List.map_append]; rfl
theorem atI_last {α : Type} {xs : List α} {x : α} : L2.atI (xs ++ [x]) (-1) = some x := by
  unfold L2.atI L2.ixN
  rw [if_neg (by decide), if_pos (by rw [List.length_append]; simp; omega)]
  have e : (-1 + ((xs ++ [x]).length : Int)).toNat = xs.length := by simp; omega
  show (xs ++ [x])[_]? = _
  rw [e]; simp
theorem ld_t : Cell.isLD (.tp (.lst xs)) = True := rfl
theorem ld_d : Cell.isLD (.dp (.lst xs)) = True := rfl
theorem ld_k : Cell.isLD (.dp (.dic ks vs)) = True := rfl
theorem lv_f : (Cell.fz d).live = true := rfl
theorem lv_t : (Cell.tp d).live = true := rfl
theorem lv_d : (Cell.dp d).live = true := rfl
theorem z_sset : fzD .sset (.lst (ns.map .int)) Kd = (ns.length < 4000 ∧ Kd (.lst ((isort (dd ns)).map .int))) := ex_ints
theorem z_lset : fzD .lset (.lst (ns.map .int)) Kd = (ns.length < 4000 ∧ Kd (.int (dd ns).length)) := ex_ints
theorem z_setof : fzD .setof (.lst (ns.map .int)) Kd = (ns.length < 4000 ∧ Kd (.set (dd ns))) := ex_ints
theorem z_sset0 : fzD .sset (.lst []) Kd = Kd (.lst []) := by rw [show (D.lst []) = .lst (([] : List Int).map .int) from rfl, z_sset]; simp [dd, isort]
theorem m_count : mthD .count (.lst (ns.map .int)) (.int i) Kd = Kd (.int (ns.count i)) := ex_ints
theorem m_index : mthD .index (.lst (ns.map .int)) (.int i) Kd = (i ∈ ns ∧ Kd (.int (ns.idxOf i))) := ex_ints
theorem ex_lst {P : List D → Prop} : (∃ xs, D.lst ys = .lst xs ∧ P xs) = P ys := propext ⟨fun ⟨_, h, k⟩ => by cases h; exact k, fun h => ⟨_, rfl, h⟩⟩
theorem ex_dic {P : List Key → List D → Prop} : (∃ ks' vs', D.dic ks vs = .dic ks' vs' ∧ P ks' vs') = P ks vs := propext ⟨fun ⟨_, _, h, k⟩ => by cases h; exact k, fun h => ⟨_, _, rfl, h⟩⟩
theorem p_rev : cpyD .rev (.lst xs) Kd = Kd (.lst xs.reverse) := rfl
theorem rev_int : (ns.map D.int).reverse = ns.reverse.map .int := List.map_reverse.symm
theorem f_str : bltD .str [.int i] Kd = (i.natAbs.log2 < 1920 ∧ Kd (.str (toString i))) := rfl
theorem f_lend : bltD .len [.dic ks vs] Kd = Kd (.int ks.length) := rfl
theorem c_ins : cmpD .isin (.int i) (.set ns) Kb = Kb (decide (i ∈ ns)) := rfl
theorem c_nins : cmpD .nin (.int i) (.set ns) Kb = Kb (!decide (i ∈ ns)) := rfl
theorem in_dd : (i ∈ dd ns) = (i ∈ ns) := propext mem_dd
theorem ext_t : extC (.tp (.lst (ns.map .int))) (.lst (ms.map .int)) Kc = (ns.length + ms.length ≤ sizeLine ∧ Kc (.tp (.lst ((ns ++ ms).map .int)))) := by
  show ((_ ∧ _) ∧ _) = _
  rw [immL_ints, List.length_map, List.length_map, ← List.map_append]
  simp
theorem ext_d : extC (.dp (.lst (ns.map .int))) (.lst (ms.map .int)) Kc = (ns.length + ms.length ≤ sizeLine ∧ Kc (.dp (.lst ((ns ++ ms).map .int)))) := by
  show ((_ ∧ _) ∧ _) = _
  rw [immL_ints, List.length_map, List.length_map, ← List.map_append]
  simp
theorem r_3 {a b c : Ex} {Q : List D → Pl → Prop} : wpI Γ m (.rng3 a b c) ρ Q = wpE Γ .bor a ρ fun x _ _ => wpE Γ .bor b ρ fun y _ _ => wpE Γ .bor c ρ fun z _ _ => ∃ i j s n, x = .int i ∧ y = .int j ∧ z = .int s ∧ RgC i j s n ∧ Q ((List.range n).map fun k => .int (i + (k : Nat) * s)) ρ := rfl
theorem ap_isS {P : D → Prop} : (D.appAt (.lst xs) [] d).isSome = decide (xs.length < sizeLine) := by
  unfold D.appAt
  split <;> simp [*]
theorem ao_t0 : appOk (.dp (.tup (.lst ys :: r))) [.int 0] = (ys.length < sizeLine) := by
  show ((D.appAt _ [.int 0] .non).isSome = true) = _
  have e : ixN (D.lst ys :: r).length 0 = some 0 := ixN_int (by decide) (by simp)
  simp only [D.appAt, e, Option.bind_some, List.getElem?_cons_zero, Option.isSome_map]
  split <;> simp [*]
theorem ao_t1 : appOk (.dp (.tup (d :: .lst ys :: r))) [.int 1] = (ys.length < sizeLine) := by
  show ((D.appAt _ [.int 1] .non).isSome = true) = _
  have e : ixN (d :: D.lst ys :: r).length 1 = some 1 := ixN_int (by decide) (by simp; omega)
  simp only [D.appAt, e, Option.bind_some, List.getElem?_cons_succ, List.getElem?_cons_zero, Option.isSome_map]
  split <;> simp [*]
theorem ao_t2 : appOk (.dp (.tup (d :: e :: .lst ys :: r))) [.int 2] = (ys.length < sizeLine) := by
  show ((D.appAt _ [.int 2] .non).isSome = true) = _
  have e1 : ixN (d :: e :: D.lst ys :: r).length 2 = some 2 := ixN_int (by decide) (by simp; omega)
  simp only [D.appAt, e1, Option.bind_some, List.getElem?_cons_succ, List.getElem?_cons_zero, Option.isSome_map]
  split <;> simp [*]
theorem ao_l0 : appOk (.dp (.lst (.lst ys :: r))) [.int 0] = (ys.length < sizeLine) := by
  show ((D.appAt _ [.int 0] .non).isSome = true) = _
  have e : ixN (D.lst ys :: r).length 0 = some 0 := ixN_int (by decide) (by simp)
  simp only [D.appAt, e, Option.bind_some, List.getElem?_cons_zero, Option.isSome_map]
  split <;> simp [*]
end
/-- two clauses over known rows, the elements plain -/
theorem lc2_gen {α β γ : Type} {Γ : List SpD} {m : Md} {own own1 : List Nat} {elt : Ex} {tg tg1 : Tg} {it it1 : Rg} {cs cs1 : Exs} {ρ ρ1 : Pl} {K : KE} (as : List α) (e : α → D) (p : α → Bool) (bs : α → List β) (e1 : β → D) (p1 : α → β → Bool) (h : α → β → γ) (e' : γ → D)
    (hi : ∀ Q : List D → Pl → Prop, Q (as.map e) ρ1 → wpI Γ .kid it ρ Q) (hf : ∀ i ∈ own, free ρ1 i)
    (hl : ((as.filter p).map fun a => ((bs a).filter (p1 a)).length).sum ≤ sizeLine)
    (hs : ∀ a, a ∈ as → ∀ (kd : Pl → Prop) (kn : Prop), (p a = true → ∀ ρa, (∀ b, b ∈ bs a → ∀ (kd1 : D → Lv → Pl → Pl → Prop) (kn1 : Prop), (p1 a b = true → ∀ l ρc ρd, ((e' (h a b)).imm = true ∨ (isDeep l = true ∧ ρd = ρc)) → kd1 (e' (h a b)) l ρc ρd) → (p1 a b = false → kn1) →
          tgD tg1 (e1 b) (wipeD ρa own1) fun ρc => wpCs Γ cs1 ρc fun z => if z = true then wpE Γ .own elt ρc fun d l ρd => kd1 d l ρc ρd else kn1) →
        (∀ Q : List D → Pl → Prop, (∀ ρb, (D.immL ((bs a).map e1) = true ∨ ρb = ρa) → Q ((bs a).map e1) ρb) → wpI Γ .own it1 ρa Q) → kd ρa) → (p a = false → kn) →
        tgD tg (e a) (wipeD ρ1 own) fun ρa => wpCs Γ cs ρa fun z => if z = true then kd ρa else kn)
    (hk : resK m ρ (unwipe ρ1 (wipeD ρ1 own) own) K (.lst ((((as.filter p).map fun a => ((bs a).filter (p1 a)).map (h a)).flatten).map e'))) : lc2S Γ m own own1 elt tg it cs tg1 it1 cs1 ρ K := by
  refine hi _ ⟨hf, ?_⟩
  generalize hfin : (fun ds : List D => (match m with | .bor => K (.lst ds) .froz ρ | _ => K (.lst ds) .deep (unwipe ρ1 (wipeD ρ1 own) own))) = KK
  have hk : KK ((((as.filter p).map fun a => ((bs a).filter (p1 a)).map (h a)).flatten).map e') := by rw [← hfin]; cases m <;> exact hk
  suffices g : ∀ (zs : List α) (gs : List γ), (∀ a ∈ zs, a ∈ as) → gs.length + ((zs.filter p).map fun a => ((bs a).filter (p1 a)).length).sum ≤ sizeLine → KK ((gs ++ ((zs.filter p).map fun a => ((bs a).filter (p1 a)).map (h a)).flatten).map e') →
      loopB (fun x acc k => tgD tg x (wipeD ρ1 own) fun ρa => wpCs Γ cs ρa fun b =>
          if b = true then wpI Γ .own it1 ρa fun xs1 ρb => (D.immL xs1 = true ∨ ρb = ρa) ∧
            loopB (fun x acc k => tgD tg1 x (wipeD ρa own1) fun ρc => wpCs Γ cs1 ρc fun b =>
                if b = true then wpE Γ .own elt ρc fun d l ρd => acc.length < sizeLine ∧ (d.imm = true ∨ (isDeep l = true ∧ ρd = ρc)) ∧ k (acc ++ [d])
                else k acc) xs1 acc k
          else k acc) (zs.map e) (gs.map e') KK from g as [] (fun _ h => h) (by simpa using hl) hk
  intro zs
  induction zs with
  | nil =>
    intro gs _ _ hk
    show KK (gs.map e')
    simpa using hk
  | cons z r ih =>
    intro gs hm hl hk
    rw [List.map_cons]
    refine hs z (hm z (List.mem_cons_self ..)) _ _ (fun hp ρa inner hit => ?_) (fun hp => ?_)
    · refine hit _ fun ρb hb => ⟨hb, ?_⟩
      rw [List.filter_cons_of_pos hp, List.map_cons] at hk hl
      rw [List.flatten_cons] at hk
      rw [List.sum_cons] at hl
      suffices g2 : ∀ (ys : List β) (gs : List γ), (∀ b ∈ ys, b ∈ bs z) → gs.length + (ys.filter (p1 z)).length + ((r.filter p).map fun a => ((bs a).filter (p1 a)).length).sum ≤ sizeLine → KK ((gs ++ ((ys.filter (p1 z)).map (h z) ++ ((r.filter p).map fun a => ((bs a).filter (p1 a)).map (h a)).flatten)).map e') →
          loopB (fun x acc k => tgD tg1 x (wipeD ρa own1) fun ρc => wpCs Γ cs1 ρc fun b =>
                if b = true then wpE Γ .own elt ρc fun d l ρd => acc.length < sizeLine ∧ (d.imm = true ∨ (isDeep l = true ∧ ρd = ρc)) ∧ k (acc ++ [d])
                else k acc) (ys.map e1) (gs.map e') (fun acc => loopB (fun x acc k => tgD tg x (wipeD ρ1 own) fun ρa => wpCs Γ cs ρa fun b =>
          if b = true then wpI Γ .own it1 ρa fun xs1 ρb => (D.immL xs1 = true ∨ ρb = ρa) ∧
            loopB (fun x acc k => tgD tg1 x (wipeD ρa own1) fun ρc => wpCs Γ cs1 ρc fun b =>
                if b = true then wpE Γ .own elt ρc fun d l ρd => acc.length < sizeLine ∧ (d.imm = true ∨ (isDeep l = true ∧ ρd = ρc)) ∧ k (acc ++ [d])
                else k acc) xs1 acc k
          else k acc) (r.map e) acc KK) from g2 (bs z) gs (fun _ h => h) (by omega) hk
      intro ys
      induction ys with
      | nil =>
        intro gs _ hl hk
        refine ih gs (fun x h => hm x (List.mem_cons_of_mem _ h)) (by simpa using hl) ?_
        simpa using hk
      | cons y t ih2 =>
        intro gs hm2 hl hk
        rw [List.map_cons]
        refine inner y (hm2 y (List.mem_cons_self ..)) _ _ (fun hp1 l ρc ρd hc => ?_) (fun hp1 => ?_)
        · rw [List.filter_cons_of_pos hp1, List.length_cons] at hl
          rw [List.filter_cons_of_pos hp1, List.map_cons, List.cons_append] at hk
          refine ⟨by rw [List.length_map]; omega, hc, ?_⟩
          have g := ih2 (gs ++ [h z y]) (fun x h => hm2 x (List.mem_cons_of_mem _ h)) (by rw [List.length_append]; simp; omega) (by rw [List.append_assoc]; exact hk)
          rw [List.map_append] at g
          exact g
        · rw [List.filter_cons_of_neg (by rw [hp1]; decide)] at hl hk
          exact ih2 gs (fun x h => hm2 x (List.mem_cons_of_mem _ h)) hl hk
    · rw [List.filter_cons_of_neg (by rw [hp]; decide)] at hk hl
      exact ih gs (fun x h => hm x (List.mem_cons_of_mem _ h)) hl hk
/-- a for over what an expression makes -/
theorem for_open {Γ : List SpD} {tg : Tg} {e : Ex} {s : Cms} {ρ : Pl} {E : EndsD} (hl : lentAt ρ (.col e) = none) (h : wpE Γ .own e ρ fun x _ ρ1 => itemsD x fun xs => forD tg (fun ρ E => wpSs Γ s ρ E) none xs ρ1 E) : forS Γ tg (.col e) s ρ E := by
  show wpS Γ (.forr tg (.col e) s) ρ E
  unfold wpS
  rw [hl]
  exact h
/-! ### values that are alike -/
def D.good : Nat → D → Bool
  | _, .non => true
  | _, .bl _ => true
  | _, .int _ => true
  | _, .str _ => true
  | n + 1, .tup xs => xs.all (D.good n) && decide (xs.length ≤ sizeLine)
  | n + 1, .lst xs => xs.all (D.good n) && decide (xs.length ≤ sizeLine)
  | _, _ => false
def prevSp (Sp : Nat → SpD) : Nat → SpD
  | 0 => fun _ _ => False
  | n + 1 => Sp n
section
variable {P : Program} {w : World} {K : PySem.W.Frag} {mg : Str → Option Value} {base : Heap}
theorem call_rec {x qual : Str} {st : Stmt} {f : Addr} {fd : FuncData} (F : Fun K x qual st f fd) (hm : mg x = some (.ref f)) {ps : List Str} (b : Binds K fd ps []) (t : Tab) (S : FnScope t.N ps (defScope st)) (Γ : SpD → List SpD) (code : Cms) (ok : okSs t (defScope st).names code (defBody st) = true) (k : Nat) (Sp : Nat → SpD)
    (calls : ∀ j, k ≤ j → ∀ sp, CallIn P w K mg base j false x sp → ∀ (g : Nat) (y : Str), t.G[g]? = some y → CallIn P w K mg base j (t.F.getD g false) y ((Γ sp).getD g fun _ _ => False)) (blt : ∀ y ∈ t.B, mg y = none) (con : ∀ p ∈ t.C, ∃ u v, mg p.1 = some u ∧ RelV v u ∧ p.2.imm = true ∧ ∀ H, Rep K H v p.2 [])
    (hlen : ∀ n ds Kk, Sp n ds Kk → ds.length = ps.length) (body : ∀ n ds Kk, Sp n ds Kk → wpSs (Γ (prevSp Sp n)) code (startD t.N.length ds) (endsD Kk)) : ∀ n, CallIn P w K mg base (k + n + 1) false x (Sp n)
  | 0 => call_ok F hm b t S (Γ (prevSp Sp 0)) code ok (k + 0) (calls _ (Nat.le_refl _) _ (CallIn.no hm F.kp b)) blt con (Sp 0) (hlen 0) (body 0)
  | n + 1 => call_ok F hm b t S (Γ (prevSp Sp (n + 1))) code ok (k + n + 1) (calls _ (by omega) _ (call_rec F hm b t S Γ code ok k Sp calls blt con hlen body n)) blt con (Sp (n + 1)) (hlen (n + 1)) (body (n + 1))
end
theorem range_len {n : Nat} {P : Prop} (h : n ≤ sizeLine → P) (g : n ≤ sizeLine) : P := h g
end R

namespace R
open PySem PySem.Spec PyProof.Rows L2
section
variable {l : Lv} {i j a b c d : Int} {xs ys : List D} {ns ms : List Int} {Kb : Bool → Prop} {x : Str}
theorem mk_tild : mkCell (.tup [.int i, .lst xs]) .deep = .dp (.tup [.int i, .lst xs]) := rfl
theorem mk_tlld : mkCell (.tup [.lst xs, .lst ys]) .deep = .dp (.tup [.lst xs, .lst ys]) := rfl
theorem mk_tilld : mkCell (.tup [.int i, .lst xs, .lst ys]) .deep = .dp (.tup [.int i, .lst xs, .lst ys]) := rfl
theorem Eqc.mono {α : Type} [DecidableEq α] {e : α → D} {n m : Nat} (E : Eqc e n) (h : n ≤ m) : Eqc e m := ⟨E.lay, fun a => Nat.le_trans (E.dep a) h, E.eqv⟩
theorem Eqc.row {α : Type} [DecidableEq α] {e : α → D} {n : Nat} (E : Eqc e n) (h : n ≤ 64) (hi : ∀ a b (K : Bool → Prop), cmpD .eq (e a) (e b) K → K (decide (a = b))) (x y : α) : cmpD .eq (e x) (e y) Kb = Kb (decide (x = y)) :=
  propext ⟨hi x y Kb, E.eqc h x y Kb⟩
theorem c_eqt2 : cmpD .eq (.tup [.int a, .int b]) (.tup [.int c, .int d]) Kb = Kb (decide (a = c ∧ b = d)) := by
  have e : decide (([a, b] : List Int) = [c, d]) = decide (a = c ∧ b = d) := decide_eq_decide.mpr (by simp)
  refine propext ⟨fun h => ?_, fun h => Eqc.int.tup.eqc (by decide) [a, b] [c, d] _ (e ▸ h)⟩
  have h := h.2
  have e' := Eqc.int.tup.eqv [a, b] [c, d]
  unfold D.eqv at h
  rw [← e]
  exact e' ▸ h
theorem c_net2 : cmpD .ne (.tup [.int a, .int b]) (.tup [.int c, .int d]) Kb = Kb (!decide (a = c ∧ b = d)) := c_eqt2 (Kb := fun z => Kb (!z))
def encDays (x : Int × List Int) : D := .tup [.int x.1, .lst (x.2.map .int)]
theorem eqcDays : Eqc encDays 2 := (Eqc.int.mono (by decide)).two Eqc.int.lst
theorem c_eqd : cmpD .eq (.tup [.int i, .lst (ns.map .int)]) (.tup [.int j, .lst (ms.map .int)]) Kb = Kb (decide (i = j ∧ ns = ms)) := by
  have e : decide ((i, ns) = (j, ms)) = decide (i = j ∧ ns = ms) := decide_eq_decide.mpr (by simp)
  refine propext ⟨fun h => ?_, fun h => eqcDays.eqc (by decide) (i, ns) (j, ms) _ (e ▸ h)⟩
  have h := h.2
  have e' := eqcDays.eqv (i, ns) (j, ms)
  unfold D.eqv at h
  rw [← e]
  exact e' ▸ h
theorem c_ned : cmpD .ne (.tup [.int i, .lst (ns.map .int)]) (.tup [.int j, .lst (ms.map .int)]) Kb = Kb (!decide (i = j ∧ ns = ms)) := c_eqd (Kb := fun z => Kb (!z))
theorem c_eqll2 {ns' ms' : List Int} : cmpD .eq (.lst [.lst (ns.map .int), .lst (ms.map .int)]) (.lst [.lst (ns'.map .int), .lst (ms'.map .int)]) Kb = Kb (decide (ns = ns' ∧ ms = ms')) := by
  have e : decide (([ns, ms] : List (List Int)) = [ns', ms']) = decide (ns = ns' ∧ ms = ms') := decide_eq_decide.mpr (by simp)
  refine propext ⟨fun h => ?_, fun h => Eqc.int.lst.lst.eqc (by decide) [ns, ms] [ns', ms'] _ (e ▸ h)⟩
  have h := h.2
  have e' := Eqc.int.lst.lst.eqv [ns, ms] [ns', ms']
  unfold D.eqv at h
  rw [← e]
  exact e' ▸ h
theorem c_nell2 {ns' ms' : List Int} : cmpD .ne (.lst [.lst (ns.map .int), .lst (ms.map .int)]) (.lst [.lst (ns'.map .int), .lst (ms'.map .int)]) Kb = Kb (!decide (ns = ns' ∧ ms = ms')) := c_eqll2 (Kb := fun z => Kb (!z))
theorem c_eqtl2 {ns' ms' : List Int} : cmpD .eq (.tup [.lst (ns.map .int), .lst (ms.map .int)]) (.tup [.lst (ns'.map .int), .lst (ms'.map .int)]) Kb = Kb (decide (ns = ns' ∧ ms = ms')) := by
  have e : decide (([ns, ms] : List (List Int)) = [ns', ms']) = decide (ns = ns' ∧ ms = ms') := decide_eq_decide.mpr (by simp)
  refine propext ⟨fun h => ?_, fun h => Eqc.int.lst.tup.eqc (by decide) [ns, ms] [ns', ms'] _ (e ▸ h)⟩
  have h := h.2
  have e' := Eqc.int.lst.tup.eqv [ns, ms] [ns', ms']
  unfold D.eqv at h
  rw [← e]
  exact e' ▸ h
theorem c_netl2 {ns' ms' : List Int} : cmpD .ne (.tup [.lst (ns.map .int), .lst (ms.map .int)]) (.tup [.lst (ns'.map .int), .lst (ms'.map .int)]) Kb = Kb (!decide (ns = ns' ∧ ms = ms')) := c_eqtl2 (Kb := fun z => Kb (!z))
theorem mk_llld : mkCell (.lst xs) .deep = .dp (.lst xs) := rfl
end
theorem for_rng3 {Γ : List SpD} {tg : Tg} {e f g : Ex} {s : Cms} {ρ : Pl} {E : EndsD} (i j c : Int) (n : Nat) (hr : RgC i j c n) (he : ∀ K : KE, (∀ l, K (.int i) l ρ) → wpE Γ .bor e ρ K) (hf : ∀ K : KE, (∀ l, K (.int j) l ρ) → wpE Γ .bor f ρ K) (hg : ∀ K : KE, (∀ l, K (.int c) l ρ) → wpE Γ .bor g ρ K)
    (Inv : Nat → Pl → Prop) (h0 : Inv 0 ρ)
    (step : ∀ (k : Nat) ρ (nxt bk : Pl → Prop), k < n → Inv k ρ → (∀ ρ', Inv (k + 1) ρ' → nxt ρ') → (∀ ρ', E.nx ρ' → bk ρ') → tgFree ρ tg ∧ tgD tg (.int (i + (k : Nat) * c)) ρ fun ρ1 => wpSs Γ s ρ1 { nx := nxt, ct := nxt, bk := bk, rt := E.rt })
    (stop : ∀ ρ, Inv n ρ → E.nx ρ) : forS Γ tg (.rng3 e f g) s ρ E := by
  have h : forD tg (fun ρ E => wpSs Γ s ρ E) none ((List.range n).map fun k => .int (i + (k : Nat) * c)) ρ E := by
    refine forD_inv Inv h0 (fun k x ρ nxt bk hx q nn b => ?_) (fun ρ q => stop ρ (by simpa using q))
    have hk : k < n := by
      have := (List.getElem?_eq_some_iff.mp hx).1
      simpa using this
    rw [List.getElem?_map, List.getElem?_range hk] at hx
    cases hx
    exact step k ρ nxt bk hk q nn b
  exact he _ fun _ => hf _ fun _ => hg _ fun _ => ⟨i, j, c, n, rfl, rfl, rfl, hr, h⟩
/-- a selection, not opened -/
def selS (Γ : List SpD) (m : Md) (own : List Nat) (i : Nat) (a : Ex) (cs : Exs) (ρ : Pl) (K : KE) : Prop := wpE Γ m (.sel own i a cs) ρ K
theorem w_sel {Γ : List SpD} {m : Md} {own : List Nat} {i : Nat} {a : Ex} {cs : Exs} {ρ : Pl} {K : KE} : wpE Γ m (.sel own i a cs) ρ K = selS Γ m own i a cs ρ K := rfl
theorem r_rev {Γ : List SpD} {m : Md} {a : Ex} {ρ : Pl} {Q : List D → Pl → Prop} : wpI Γ m (.rev a) ρ Q = wpE Γ m a ρ fun x l ρ1 => ∃ xs, x = .lst xs ∧ D.immL xs = true ∧ kidK m xs (Q xs.reverse ρ) (Q xs.reverse ρ1) := rfl
def selK (m : Md) (la : Lv) (ρ ρ2 : Pl) (K : KE) (d : D) : Prop := match m with | .bor => K d .froz ρ | _ => K d (if isDeep la = true then .deep else .top) ρ2
theorem sk_b {la : Lv} {ρ ρ2 : Pl} {K : KE} {d : D} : selK .bor la ρ ρ2 K d = K d .froz ρ := rfl
theorem sk_od {ρ ρ2 : Pl} {K : KE} {d : D} : selK .own .deep ρ ρ2 K d = K d .deep ρ2 := rfl
theorem sk_kd {ρ ρ2 : Pl} {K : KE} {d : D} : selK .kid .deep ρ ρ2 K d = K d .deep ρ2 := rfl
theorem sk_of {ρ ρ2 : Pl} {K : KE} {d : D} : selK .own .froz ρ ρ2 K d = K d .top ρ2 := rfl
theorem sk_kf {ρ ρ2 : Pl} {K : KE} {d : D} : selK .kid .froz ρ ρ2 K d = K d .top ρ2 := rfl
theorem sel_gen {α : Type} {Γ : List SpD} {m : Md} {own : List Nat} {i : Nat} {a : Ex} {cs : Exs} {ρ ρ1 ρw : Pl} {K : KE} (la : Lv) (as : List α) (e : α → D) (p : α → Bool)
    (ha : ∀ Q : KE, Q (.lst (as.map e)) la ρ1 → wpE Γ .kid a ρ Q) (hf : ∀ j ∈ own, free ρ1 j) (hw : wipeD ρ1 own = ρw) (hl : as.length ≤ sizeLine)
    (hs : ∀ x, x ∈ as → ∀ kd kn : Prop, (p x = true → kd) → (p x = false → kn) → tgD (.one i) (e x) ρw fun ρa => wpCs Γ cs ρa fun b => if b = true then kd else kn)
    (hk : selK m la ρ (unwipe ρ1 ρw own) K (.lst ((as.filter p).map e))) : selS Γ m own i a cs ρ K := by
  subst hw
  refine ha _ ⟨_, rfl, hf, ?_⟩
  suffices g : ∀ (KK : List D → Prop) (zs ys : List α), (∀ x ∈ zs, x ∈ as) → ys.length + zs.length ≤ sizeLine → KK ((ys ++ zs.filter p).map e) →
      loopB (fun x acc k => tgD (.one i) x (wipeD ρ1 own) fun ρa => wpCs Γ cs ρa fun b => if b = true then acc.length < sizeLine ∧ k (acc ++ [x]) else k acc) (zs.map e) (ys.map e) KK by
    refine g _ as [] (fun _ h => h) (by simpa using hl) ?_
    cases m <;> exact hk
  intro KK zs
  induction zs with
  | nil =>
    intro ys _ _ hk
    rw [List.filter_nil, List.append_nil] at hk
    exact hk
  | cons z r ih =>
    intro ys hm hl hk
    rw [List.length_cons] at hl
    rw [List.map_cons]
    refine hs z (hm z (List.mem_cons_self ..)) _ _ (fun hp => ?_) (fun hp => ?_)
    · rw [List.filter_cons_of_pos hp] at hk
      refine ⟨by rw [List.length_map]; omega, ?_⟩
      have g := ih (ys ++ [z]) (fun x h => hm x (List.mem_cons_of_mem _ h)) (by rw [List.length_append]; simp; omega) (by rw [List.append_assoc]; exact hk)
      rw [List.map_append] at g
      exact g
    · rw [List.filter_cons_of_neg (by rw [hp]; decide)] at hk
      exact ih ys (fun x h => hm x (List.mem_cons_of_mem _ h)) (by omega) hk
/-- for x in reversed(a list of plain parts) -/
theorem for_rev {Γ : List SpD} {tg : Tg} {e : Ex} {s : Cms} {ρ : Pl} {E : EndsD} (xs : List D) (ρ0 : Pl) (he : ∀ K : KE, (∀ l, K (.lst xs) l ρ0) → wpE Γ .own e ρ K) (im : D.immL xs = true)
    (Inv : Nat → Pl → Prop) (h0 : Inv 0 ρ0)
    (step : ∀ (k : Nat) x ρ (nxt bk : Pl → Prop), xs.reverse[k]? = some x → Inv k ρ → (∀ ρ', Inv (k + 1) ρ' → nxt ρ') → (∀ ρ', E.nx ρ' → bk ρ') → tgFree ρ tg ∧ tgD tg x ρ fun ρ1 => wpSs Γ s ρ1 { nx := nxt, ct := nxt, bk := bk, rt := E.rt })
    (stop : ∀ ρ, Inv xs.length ρ → E.nx ρ) : forS Γ tg (.rev e) s ρ E := by
  have g : forD tg (fun ρ E => wpSs Γ s ρ E) none xs.reverse ρ0 E := forD_inv Inv h0 (fun k x ρ nxt bk hx q nn b => step k x ρ nxt bk hx q nn b) (fun ρ q => stop ρ (by rwa [List.length_reverse] at q))
  show wpE Γ .own e ρ _
  exact he _ fun _ => ⟨xs, rfl, im, g⟩
theorem one_app {i : Int} {ns : List Int} : [D.int i] ++ ns.map D.int = (i :: ns).map .int := rfl
theorem sl_t1 {a : D} {r : List D} {Kd : D → Prop} : slcD (.tup (a :: r)) (some 1) none Kd = Kd (.tup r) := by
  have e1 : HT.sIx (a :: r).length 0 (some 1) = 1 := by
    show (if (1 : Int) < 0 then ((1 : Int) + ((a :: r).length : Int)).toNat else min (1 : Int).toNat (a :: r).length) = 1
    rw [if_neg (by decide)]
    show min 1 (r.length + 1) = 1
    omega
  have e2 : HT.sIx (a :: r).length (a :: r).length none = (a :: r).length := rfl
  have e3 : cut (a :: r) (some 1) none = r := by
    unfold cut
    rw [e1, e2]
    show r.take (r.length + 1 - 1) = r
    exact List.take_of_length_le (by omega)
  show (¬ (HT.sIx (a :: r).length 0 (some 1) = 0 ∧ HT.sIx (a :: r).length (a :: r).length none = (a :: r).length) ∧ Kd (.tup (cut (a :: r) (some 1) none))) = _
  rw [e1, e3]
  exact propext ⟨fun h => h.2, fun h => ⟨(fun z => absurd z.1 (by decide)), h⟩⟩
end R

namespace R
open PySem PySem.Spec PyProof.Rows L2

/-! ### comprehensions whose row leaves the places as they are -/
section
variable {α β : Type} {Γ : List SpD} {m : Md} {own : List Nat} {elt : Ex} {tg : Tg} {it : Rg} {cs : Exs} {ρ : Pl} {K : KE}
theorem lcM (as : List α) (e : α → D) (h : α → β) (e' : β → D)
    (hi : ∀ Q : List D → Pl → Prop, Q (as.map e) ρ → wpI Γ .kid it ρ Q) (hf : ∀ i ∈ own, free ρ i) (hl : as.length ≤ sizeLine)
    (hs : ∀ a, a ∈ as → ∀ (kd : D → Lv → Pl → Pl → Prop),
      (∀ l ρa ρb, wipeD ρa own = wipeD ρ own → ((e' (h a)).imm = true ∨ (isDeep l = true ∧ wipeD ρb own = wipeD ρ own)) → kd (e' (h a)) l ρa ρb) →
      tgD tg (e a) (wipeD ρ own) fun ρa => wpE Γ .own elt ρa fun d l ρb => kd d l ρa ρb)
    (hk : resK m ρ (unwipe ρ (wipeD ρ own) own) K (.lst ((as.map h).map e'))) : lcS Γ m own elt tg it .nil ρ K := lc_map as e h e' hi hf rfl hl hs hk
theorem lcG (as : List α) (e : α → D) (p : α → Bool) (h : α → β) (e' : β → D)
    (hi : ∀ Q : List D → Pl → Prop, Q (as.map e) ρ → wpI Γ .kid it ρ Q) (hf : ∀ i ∈ own, free ρ i) (hl : as.length ≤ sizeLine)
    (hs : ∀ a, a ∈ as → ∀ (kd : D → Lv → Pl → Pl → Prop) (kn : Pl → Prop),
      (p a = true → ∀ l ρa ρb, wipeD ρa own = wipeD ρ own → ((e' (h a)).imm = true ∨ (isDeep l = true ∧ wipeD ρb own = wipeD ρ own)) → kd (e' (h a)) l ρa ρb) → (p a = false → ∀ ρa, wipeD ρa own = wipeD ρ own → kn ρa) →
      tgD tg (e a) (wipeD ρ own) fun ρa => wpCs Γ cs ρa fun b => if b = true then wpE Γ .own elt ρa fun d l ρb => kd d l ρa ρb else kn ρa)
    (hk : resK m ρ (unwipe ρ (wipeD ρ own) own) K (.lst (((as.filter p).map h).map e'))) : lcS Γ m own elt tg it cs ρ K := lc_gen as e p h e' hi hf rfl hl hs hk
/-- a comprehension of which something is known -/
theorem lcI (as : List α) (e : α → D) (e' : β → D) (P : Nat → List β → Prop) (h0 : P 0 [])
    (hi : ∀ Q : List D → Pl → Prop, Q (as.map e) ρ → wpI Γ .kid it ρ Q) (hf : ∀ i ∈ own, free ρ i) (hl : as.length ≤ sizeLine)
    (hs : ∀ (k : Nat) a, as[k]? = some a → ∀ bs, P k bs → bs.length ≤ k → ∀ (kd : D → Lv → Pl → Pl → Prop) (kn : Pl → Prop),
      (∀ b, P (k + 1) (bs ++ [b]) → ∀ l ρa ρb, wipeD ρa own = wipeD ρ own → ((e' b).imm = true ∨ (isDeep l = true ∧ wipeD ρb own = wipeD ρ own)) → kd (e' b) l ρa ρb) → (P (k + 1) bs → ∀ ρa, wipeD ρa own = wipeD ρ own → kn ρa) →
      tgD tg (e a) (wipeD ρ own) fun ρa => wpCs Γ cs ρa fun b => if b = true then wpE Γ .own elt ρa fun d l ρb => kd d l ρa ρb else kn ρa)
    (hk : ∀ bs, P as.length bs → bs.length ≤ as.length → resK m ρ (unwipe ρ (wipeD ρ own) own) K (.lst (bs.map e'))) : lcS Γ m own elt tg it cs ρ K := by
  refine hi _ ⟨hf, ?_⟩
  suffices g : ∀ (KK : List D → Bool → Pl → Prop) (zs ys : List α) (bs : List β), as = ys ++ zs → P ys.length bs → bs.length ≤ ys.length → (∀ bs, P as.length bs → bs.length ≤ as.length → KK (bs.map e') true (wipeD ρ own)) →
      loopC (fun x acc al ρ k => tgD tg x ρ fun ρa => wpCs Γ cs ρa fun b =>
          if b = true then wpE Γ .own elt ρa fun d l ρb => acc.length < sizeLine ∧ (if d.imm = true then k (acc ++ [d]) al (wipeD ρa own) else k (acc ++ [d]) (al && isDeep l) (wipeD ρb own))
          else k acc al (wipeD ρa own)) (zs.map e) (bs.map e') true (wipeD ρ own) KK by
    refine g _ as [] [] rfl h0 (Nat.le_refl _) fun bs hb hb2 => ?_
    have := hk bs hb hb2
    cases m <;> exact this
  intro KK zs
  induction zs with
  | nil =>
    intro ys bs ey hp hb hk
    rw [List.append_nil] at ey
    subst ey
    exact hk bs hp hb
  | cons z r ih =>
    intro ys bs ey hp hb hk
    have zk : as[ys.length]? = some z := by rw [ey]; simp
    have zl : ys.length < as.length := (List.getElem?_eq_some_iff.mp zk).1
    rw [List.map_cons]
    refine hs ys.length z zk bs hp hb _ _ (fun b hp' l ρa ρb h1 h2 => ?_) (fun hp' ρa h1 => ?_)
    · have g := ih (ys ++ [z]) (bs ++ [b]) (by rw [ey]; simp) (by simpa using hp') (by simp; omega) hk
      rw [List.map_append] at g
      refine ⟨by rw [List.length_map]; omega, ?_⟩
      rcases h2 with h2 | ⟨h2, h3⟩
      · rw [if_pos h2, h1]; exact g
      · split
        · rw [h1]; exact g
        · rw [h2, h3]; exact g
    · rw [h1]
      exact ih (ys ++ [z]) bs (by rw [ey]; simp) (by simpa using hp') (by simp; omega) hk
end
theorem rgI_get {a b z : Int} {k : Nat} (h : (rgI a b)[k]? = some z) : z = a + k ∧ a + k < b := by
  unfold rgI at h
  rw [List.getElem?_map] at h
  cases e : (List.range (b - a).toNat)[k]? with
  | none => rw [e] at h; cases h
  | some y =>
    obtain ⟨l, e2⟩ := List.getElem?_eq_some_iff.mp e
    rw [List.getElem_range] at e2
    rw [List.length_range] at l
    rw [e] at h
    have h : a + (y : Int) = z := Option.some.inj h
    omega
/-- the code from the n-th statement on -/
def drS : Nat → Cms → Cms
  | 0, c => c
  | n + 1, .cons _ r => drS n r
  | _ + 1, .nil => .nil
end R

namespace R
open PySem PySem.Spec PyProof.Rows L2
/-! ### the law's own call, where its promise is one of FnG -/
section
variable {P : Program} {w : World} {K : PySem.W.Frag} {mg mb : Str → Option Value} {k : Nat} {fa a : Addr} {fd : FuncData} {x : Str} {sp : Sp} {t : Shared} {us : List Value} {ns : List Int}
/-- the script alone may be tracked -/
def seen (K : PySem.W.Frag) (a : Addr) (o : Obj) (c : HO) : Hp := match K.lookup a with
  | some _ => fun _ => none
  | none => fun b => if b = a then some (.frz o c) else none
theorem lawG_at (inK : K.In t.heap) (hns : t.heap.Ns mainGlobals mg) (hb : t.heap.Ns builtinsNs mb) (hbb : ∀ y : Str, y ≠ "__name__" → mb y = bootBuiltins y) (lim : t.heap.NoLimit) (gens : t.gens = #[])
    (at_a : t.heap.get? a = some { cls := .type "list", data := .seq us.toArray }) (rm : Room k callerA) (F : ∀ base : Heap, K.In base → base.Ns mainGlobals mg → FnG P w K mg base k fa fd [x] sp)
    (bind : ∀ (s : Shared) (u : Value), BindsTo s fd ⟨[u], []⟩ [(x, u)]) (G : Hp) (ok : HOk P w G t.heap) (only : Only G) (one : ∀ b, G b ≠ none → b = a) (out : G a ≠ none → K.lookup a = none)
    (hsp : sp [.ref a] G (fun v _ => v = .bl true) fun _ _ _ => False) :
    codeAny (model P w) callerA (.call (.ref fa) ⟨[.ref a], []⟩) (fun r t' => r = .ok (.ret (.bool true)) ∧ OldK t.heap t'.heap ∧ t'.os = t.os ∧ AllBare t'.gens) t := by
  have low : ∀ {b : Addr} {o : Obj}, t.heap.get? b = some o → G b = none → (hidT t.heap G).get? b = some o := fun q n => hidT_get q n
  -- no namespace is tracked
  have noD : ∀ {b : Addr} {o : Obj} {ds : Array DictEntry} {m : Nat}, t.heap.get? b = some o → o.data = .dict ds m → G b = none := fun {b o ds m} q d => Classical.byContradiction fun n => by
    have z := one b n
    subst z
    rw [at_a] at q
    cases q
    have z : Data.seq us.toArray _ = Data.dict ds m := d
    cases z
  have keepN : ∀ {b : Addr} {m : Str → Option Value}, t.heap.Ns b m → (hidT t.heap G).Ns b m := fun {b m} z => by
    obtain ⟨o, ds, e, h1, h2, h3⟩ := z
    exact ⟨o, ds, e, low h1 (noD h1 h2), h2, h3⟩
  have inB : K.In (hidT t.heap G) := fun b o q => low (inK b o q) (Classical.byContradiction fun n => by
    have z := one b n
    subst z
    have z := out n
    rw [q] at z
    cases z)
  have md : Mod K mg (hidT t.heap G) := by
    obtain ⟨mc, l1, l2⟩ := lim
    exact ⟨inB, keepN hns, ⟨mb, keepN hb, hbb⟩, ⟨mc, keepN l1, l2⟩⟩
  have env : Env0 P w K mg (hidT t.heap G) callerA [] t G := ⟨rfl, md, fun b o q => of_hidT q, Nat.le_of_eq (hidT_size _ _), trivial, fun b m => absurd m List.not_mem_nil, ok, .of_eq gens⟩
  refine codeAny_mono ((F _ inB (keepN hns)).run callerA [] t G ⟨[.ref a], []⟩ [.ref a] [.ref a] _ _ rfl rm env (bind t (.ref a)) (.cons rfl .nil) hsp) fun r t' z => ?_
  match r, z with
  | .error _, z => exact z.elim
  | .ok .next, z => exact z.elim
  | .ok .brk, z => exact z.elim
  | .ok .cont, z => exact z.elim
  | .ok (.ret u), ⟨v, G', os, bare, un, ok', rv, q⟩ =>
    have q : v = .bl true := q
    subst q
    have ru : u = Value.bool true := rv
    subst ru
    refine ⟨rfl, OldK.of_keep fun b o q => ?_, os, bare⟩
    rcases only b with z | ⟨o1, xs, z⟩
    · exact un.keep b o q z (fun m => absurd m List.not_mem_nil) (by simp)
    · obtain ⟨q1, _⟩ := ok b _ z
      obtain ⟨q2, _⟩ := ok' b _ (un.frzs b o1 _ z)
      rw [q] at q1
      cases q1
      exact q2
theorem lawG (inK : K.In t.heap) (hns : t.heap.Ns mainGlobals mg) (hb : t.heap.Ns builtinsNs mb) (hbb : ∀ y : Str, y ≠ "__name__" → mb y = bootBuiltins y) (lim : t.heap.NoLimit) (gens : t.gens = #[])
    (at_a : t.heap.get? a = some { cls := .type "list", data := .seq us.toArray }) (nums : IntsAre us ns) (hl : ns.length ≤ sizeLine) (rm : Room k callerA) (F : ∀ base : Heap, K.In base → base.Ns mainGlobals mg → FnG P w K mg base k fa fd [x] sp)
    (bind : ∀ (s : Shared) (u : Value), BindsTo s fd ⟨[u], []⟩ [(x, u)]) (hsp : ∀ G : Hp, Only G → SqL K G a (ns.map V.int) → sp [.ref a] G (fun v _ => v = .bl true) fun _ _ _ => False) :
    codeAny (model P w) callerA (.call (.ref fa) ⟨[.ref a], []⟩) (fun r t' => r = .ok (.ret (.bool true)) ∧ OldK t.heap t'.heap ∧ t'.os = t.os ∧ AllBare t'.gens) t := by
  have vals := vals_ints nums
  have len := nums.length
  cases look : K.lookup a with
  | some o =>
    have q := inK a o look
    rw [at_a] at q
    cases q
    have only : Only fun _ => none := fun _ => .inl rfl
    refine lawG_at inK hns hb hbb lim gens at_a rm F bind (fun _ => none) (fun b c z => by cases z) only (fun b z => absurd rfl z) (fun z => absurd rfl z) (hsp _ only ?_)
    exact .inr ⟨_, us.toArray, _, look, rfl, rfl, rfl, by rw [List.size_toArray, len]; exact hl, by simpa using vals⟩
  | none =>
    have atA : (fun b => if b = a then some (HO.frz { cls := .type "list", data := .seq us.toArray } (.lst (ns.map V.int))) else none : Hp) a = some (HO.frz { cls := .type "list", data := .seq us.toArray } (.lst (ns.map V.int))) := if_pos rfl
    have offA : ∀ b, b ≠ a → (fun b => if b = a then some (HO.frz { cls := .type "list", data := .seq us.toArray } (.lst (ns.map V.int))) else none : Hp) b = none := fun b n => if_neg n
    generalize (fun b => if b = a then some (HO.frz { cls := .type "list", data := .seq us.toArray } (.lst (ns.map V.int))) else none : Hp) = G at *
    have only : Only G := fun b => by
      by_cases z : b = a
      · exact .inr ⟨_, _, z ▸ atA⟩
      · exact .inl (offA b z)
    refine lawG_at inK hns hb hbb lim gens at_a rm F bind G (fun b c z => ?_) only (fun b z => ?_) (fun _ => look) (hsp _ only (.inl (.inr ⟨_, atA⟩)))
    · by_cases n : b = a
      · subst n
        rw [atA] at z
        cases z
        exact ⟨at_a, by rw [List.length_map]; exact hl, us, _, vals, at_a⟩
      · rw [offA b n] at z; cases z
    · exact Classical.byContradiction fun n => z (offA b n)
end
theorem walkG {l : PySem.W.OpenLaw} {n k : Nat} {q : Program} {loose : List Str} {XP : (Str → Option Value) → Heap → Prop} {YP : World → Heap → Prop} {d : DefRec} {K : Params → PySem.W.Frag} {sp : World → Sp} {x : Str}
    (most : l.most = some n) (small : n ≤ sizeLine) (nodef : d.params.defaults = []) (rm : Room k callerA) (hY : ∀ (w : World) (h : Heap), YP w h → (K w.params).In h)
    (F : ∀ (w : World) (mg : Str → Option Value) (fa : Addr) (h : Heap), (K w.params).In h → h.Ns mainGlobals mg → mg d.name = some (.ref fa) → ∃ fd : FuncData, (∀ (s : Shared) (u : Value), BindsTo s fd ⟨[u], []⟩ [(x, u)]) ∧
        ∀ base : Heap, (K w.params).In base → base.Ns mainGlobals mg → FnG l.prog w (K w.params) mg base k fa fd [x] (sp w))
    (hsp : ∀ (w : World) (G : Hp) (a : Addr) (ns : List Int), ns.length ≤ n → Only G → SqL (K w.params) G a (ns.map V.int) → sp w [.ref a] G (fun v _ => v = .bl true) fun _ _ _ => False) :
    PySem.W.WalkO q loose XP YP l.row.toRowW d [] (fun f vs => PySem.call f vs) :=
  Att.attach_call most nodef fun w s0 t mg mb fa o pm cd doc a us ns G Y ho hd hcd at_mg at_a nums hl gens => by
    obtain ⟨fd, bind, hF⟩ := F w mg fa _ (hY w _ Y) G.T.g at_mg
    exact lawG (hY w _ Y) G.T.g G.T.b G.T.builtins G.T.nolimit gens at_a nums (Nat.le_trans hl small) rm hF bind fun H hO hS => hsp w H a ns hl hO hS
end R

namespace R
open PySem PySem.Spec PyProof.Rows L2

/-! ### repr: what may be written, and how long it gets -/
structure Rok (n m : Nat) (d : D) : Prop where
  lay : PyData.canLay0 d.toPy = true
  show' : PyData.showable d.toPy = true
  depth : d.toPy.depth ≤ n
  len : d.toPy.shown.length ≤ m
theorem Rok.mono {n m n' m' : Nat} {d : D} (r : Rok n m d) (h : n ≤ n') (g : m ≤ m') : Rok n' m' d := ⟨r.lay, r.show', Nat.le_trans r.depth h, Nat.le_trans r.len g⟩
theorem Rok.int {i : Int} (h : i.natAbs.log2 < 1920) : Rok 0 1921 (.int i) := ⟨rfl, by simpa [D.toPy, PyData.showable] using h, Nat.le_refl _, int_text_len_1921 h⟩
theorem log_of {i : Int} (h1 : -(1000000000000000000000000000000000000000000000000000000000000) ≤ i) (h2 : i ≤ 1000000000000000000000000000000000000000000000000000000000000) : i.natAbs.log2 < 1920 := by
  by_cases z : i.natAbs = 0
  · rw [z]; decide
  · rw [Nat.log2_lt z]
    have : i.natAbs ≤ 1000000000000000000000000000000000000000000000000000000000000 := by omega
    exact Nat.lt_of_le_of_lt this (by decide +kernel)
theorem Rok.non : Rok 0 1921 .non := ⟨rfl, rfl, Nat.le_refl _, by decide +kernel⟩
theorem Rok.bl {b : Bool} : Rok 0 1921 (.bl b) := ⟨rfl, rfl, Nat.le_refl _, by cases b <;> decide +kernel⟩
theorem Rok.str {x : Str} (h : (reprText x).length ≤ 1921) (hs : PyData.strOk x = true) : Rok 0 1921 (.str x) := ⟨by simpa [D.toPy, PyData.canLay0] using hs, by simp [D.toPy, PyData.showable], by simp [D.toPy, PyData.depth], h⟩
theorem piled_le {m : Nat} : ∀ {ts : List Str}, (∀ t ∈ ts, t.length ≤ m) → piled ts ≤ ts.length * (m + 2)
  | [], _ => by simp [piled]
  | t :: r, h => by
    rw [piled_cons, List.length_cons, Nat.add_mul]
    have := piled_le (ts := r) fun x hx => h x (List.mem_cons_of_mem _ hx)
    have := h t (List.mem_cons_self ..)
    omega
theorem listText_le {m : Nat} {ts : List Str} (h : ∀ t ∈ ts, t.length ≤ m) : (listText ts).length ≤ ts.length * (m + 2) + 4 := by
  have e : ("]" : Str).length = 1 := rfl
  have e' : ("[" : Str).length = 1 := rfl
  cases ts with
  | nil =>
    have : (listText []).length = 2 := by decide +kernel
    rw [this]; omega
  | cons t r =>
    have l := textFrom_length_pos r 1 (("[" : Str) ++ (if (0 : Nat) > 0 then ", " else "" : String) ++ t) (Nat.succ_pos 0)
    have a : (listText (t :: r)).length = (("[" : Str) ++ (if (0 : Nat) > 0 then ", " else "" : String) ++ t).length + piled r + 1 := by
      show (textFrom 1 _ r ++ "]").length = _
      rw [strLen_append, l, e]
    have b : (("[" : Str) ++ (if (0 : Nat) > 0 then ", " else "" : String) ++ t).length = 1 + t.length := by
      rw [strLen_append, strLen_append]
      rfl
    have c := piled_le (ts := r) fun x hx => h x (List.mem_cons_of_mem _ hx)
    have d := h t (List.mem_cons_self ..)
    rw [a, b, List.length_cons, Nat.add_mul]
    omega
theorem tupleText_le {m : Nat} {ts : List Str} (h : ∀ t ∈ ts, t.length ≤ m) : (tupleText ts).length ≤ ts.length * (m + 2) + 4 := by
  have a : (tupleText ts).length = 1 + (Str.join ", " ts).length + (if ts.length == 1 then 2 else 1) := by
    unfold tupleText
    rw [strLen_append, strLen_append]
    have : ((("(" : String) : Str)).length = 1 := rfl
    rw [this]
    congr 1
    split <;> rfl
  rw [a]
  have c := piled_le h
  cases ts with
  | nil =>
    show 1 + (Str.join ", " []).length + _ ≤ _
    have : (Str.join ", " []).length = 0 := rfl
    rw [this]
    simp
  | cons t r =>
    have j := join_length_add (t :: r) (by simp)
    split <;> omega
section
variable {n m : Nat}
theorem rok_all : ∀ {xs : List D}, (∀ x ∈ xs, Rok n m x) → PyData.canLayAll0 (D.toPyL xs) = true ∧ PyData.showableAll (D.toPyL xs) = true ∧ PyData.depthAll (D.toPyL xs) ≤ n + 1 ∧ (PyData.shownAll (D.toPyL xs)).length = xs.length ∧ ∀ t ∈ PyData.shownAll (D.toPyL xs), t.length ≤ m
  | [], _ => ⟨rfl, rfl, by simp [D.toPyL, PyData.depthAll], rfl, fun t h => by cases h⟩
  | x :: r, h => by
    obtain ⟨a, b, c, d, e⟩ := rok_all (xs := r) fun y hy => h y (List.mem_cons_of_mem _ hy)
    have q := h x (List.mem_cons_self ..)
    refine ⟨by simp [D.toPyL, PyData.canLayAll0, q.lay, a], by simp [D.toPyL, PyData.showableAll, q.show', b], ?_, by simp [D.toPyL, PyData.shownAll, d], fun t ht => ?_⟩
    · have := q.depth
      simp only [D.toPyL, PyData.depthAll]
      omega
    · rcases List.mem_cons.mp ht with rfl | ht
      · exact q.len
      · exact e t ht
theorem Rok.lst {xs : List D} (h : ∀ x ∈ xs, Rok n m x) : Rok (n + 2) (xs.length * (m + 2) + 4) (.lst xs) := by
  obtain ⟨a, b, c, d, e⟩ := rok_all h
  refine ⟨by simpa [D.toPy, PyData.canLay0] using a, by simpa [D.toPy, PyData.showable] using b, ?_, ?_⟩
  · simp only [D.toPy, PyData.depth]; omega
  · have := listText_le e
    rw [d] at this
    simpa only [D.toPy, PyData.shown] using this
theorem Rok.tup {xs : List D} (h : ∀ x ∈ xs, Rok n m x) : Rok (n + 2) (xs.length * (m + 2) + 4) (.tup xs) := by
  obtain ⟨a, b, c, d, e⟩ := rok_all h
  refine ⟨by simpa [D.toPy, PyData.canLay0] using a, by simpa [D.toPy, PyData.showable] using b, ?_, ?_⟩
  · simp only [D.toPy, PyData.depth]; omega
  · have := tupleText_le e
    rw [d] at this
    simpa only [D.toPy, PyData.shown] using this
theorem Rok.ints {ns : List Int} (h : ∀ i ∈ ns, i.natAbs.log2 < 1920) : Rok 2 (ns.length * 1923 + 4) (.lst (ns.map .int)) := by
  have := Rok.lst (n := 0) (m := 1921) (xs := ns.map D.int) fun x hx => by
    obtain ⟨i, hi, rfl⟩ := List.mem_map.mp hx
    exact .int (h i hi)
  rwa [List.length_map] at this
end
theorem b_band {a b : Int} {K : D → Prop} : binD .band (.int a) (.int b) K = K (.int (Builtin.bitAnd a b)) := rfl
theorem b_bor {a b : Int} {K : D → Prop} : binD .bor (.int a) (.int b) K = K (.int (Builtin.bitOr a b)) := rfl
theorem kk_s {m : Md} {xs : List D} {A : Prop} : kidK m xs A A = A := by cases m <;> simp [kidK]
theorem cut_mid {α : Type} {xs : List α} {a b : Int} (h0 : 0 ≤ a) (h1 : a ≤ b) (h2 : b ≤ xs.length) : cut xs (some a) (some b) = (xs.drop a.toNat).take (b.toNat - a.toNat) := by
  have e : ∀ (d : Nat) (x : Int), 0 ≤ x → x ≤ xs.length → HT.sIx xs.length d (some x) = x.toNat := fun d x x0 x1 => by
    simp only [HT.sIx]
    first | omega | (split <;> omega) | (simp; omega)
  unfold cut
  rw [e _ a h0 (by omega), e _ b (by omega) h2]
theorem cut_subl {α : Type} {xs : List α} {lo hi : Option Int} : (cut xs lo hi).Sublist xs := by
  unfold cut
  exact (List.take_sublist ..).trans (List.drop_sublist ..)
theorem bk_i {x : D} {ns : List Int} : (Cell.dp x).back (.ln (.lst (ns.map .int))) = .dp (.lst (ns.map .int)) := by
  show (if (D.lst (ns.map .int)).kimm = true then _ else _) = _
  rw [if_pos kimm_ints]
theorem bk_t {x d : D} : (Cell.tp x).back (.ln d) = .tp d := rfl
theorem last_of {α : Type} {xs : List α} (h : xs ≠ []) : ∃ ys y, xs = ys ++ [y] := by
  induction xs with
  | nil => exact absurd rfl h
  | cons x r ih =>
    by_cases c : r = []
    · subst c; exact ⟨[], x, rfl⟩
    · obtain ⟨ys, y, e⟩ := ih c
      exact ⟨x :: ys, y, by rw [e]; rfl⟩
theorem endW_nx {Kk : D → Prop} {ρ : Pl} : (endsW true Kk).nx ρ = Kk .non := rfl
theorem endW_rt {Kk : D → Prop} {d : D} {l : Lv} : (endsW true Kk).rt d l = Kk d := rfl
theorem endW_bk {Kk : D → Prop} {ρ : Pl} : (endsW true Kk).bk ρ = False := rfl
theorem endW_ct {Kk : D → Prop} {ρ : Pl} : (endsW true Kk).ct ρ = False := rfl
theorem b_addt {xs ys : List D} {K : D → Prop} : binD .add (.tup xs) (.tup ys) K = ((D.immL xs = true ∧ D.immL ys = true ∧ xs ≠ [] ∧ xs.length + ys.length ≤ sizeLine) ∧ K (.tup (xs ++ ys))) := rfl
theorem kp_s0 {z : D} {la : Lv} {ρ : Pl} {F : D → Pl → Prop} : keepD .own z la ρ ρ (fun y _ ρ2 => F y ρ2) = F z ρ := by
  show (if z.imm = true then F z ρ else F z ρ) = F z ρ
  split <;> rfl
/-- the text of a value -/
def reprD (d : D) : Str := d.toPy.shown
theorem f_repr {d : D} {Kd : D → Prop} (h : ∃ n m, Rok n m d ∧ n ≤ 60 ∧ m ≤ 16777216) (b : d.box = true) (k : Kd (.str (reprD d))) : bltD .repr [d] Kd := by
  obtain ⟨n, m, r, hn, hm⟩ := h
  exact ⟨⟨b, r.lay, r.show', Nat.le_trans r.depth hn, Nat.le_trans r.len (by rw [sizeLine_eq]; exact hm)⟩, k⟩
end R

namespace R
open PySem PySem.Spec PyProof.Rows L2
theorem keyD_int {l : List Int} : (l.map Sum.inl).map keyD = l.map D.int := by rw [List.map_map]; rfl
theorem p_listk {l : List Int} {vs : List D} {Kd : D → Prop} : cpyD .list (.dic (l.map Sum.inl) vs) Kd = Kd (.lst (l.map .int)) := by
  show Kd (.lst ((l.map Sum.inl).map keyD)) = _
  rw [keyD_int]
/-! rows in order: lists of lists of whole numbers (rowsL), lists of tuples of whole numbers (rowsT) -/
def rowT (l : List Int) : D := .tup (l.map .int)
def rowL (l : List Int) : D := .lst (l.map .int)
theorem encR_f : encR false = rowL := rfl
theorem encR_t : encR true = rowT := rfl
theorem decL_enc {b : Bool} : ∀ {L : List (List Int)}, decL b (L.map (encR b)) = some L
  | [] => rfl
  | l :: L => by
    have h : decR b (encR b l) = some l := by cases b <;> exact ints_mapE
    show (match decR b (encR b l), decL b (L.map (encR b)) with | some l, some L => some (l :: L) | _, _ => none) = _
    rw [h, decL_enc (L := L)]
theorem decL_other {b : Bool} {L : List (List Int)} {L' : List (List Int)} (h : decL b (L.map (encR (!b))) = some L') : L = [] := by
  cases L with
  | nil => rfl
  | cons l L =>
    exfalso
    have e : decR b (encR (!b) l) = none := by cases b <;> rfl
    have h : (match decR b (encR (!b) l), decL b (L.map (encR (!b))) with | some l, some L => some (l :: L) | _, _ => none) = some L' := h
    rw [e] at h
    cases h
section
variable {L : List (List Int)} {Kd : D → Prop}
theorem p_sortl : cpyD .sortd (.lst (L.map rowL)) Kd = Kd (.lst ((srtR L).map rowL)) := by
  refine propext ⟨?_, fun h => ⟨false, L, (show decL false (L.map (encR false)) = some L from decL_enc), fun (z : false = true) => Bool.noConfusion z, h⟩⟩
  rintro ⟨b, L', h, ne, k⟩
  cases b with
  | false =>
    have := (decL_enc (b := false) (L := L)).symm.trans h
    cases this
    exact k
  | true =>
    obtain rfl := decL_other (b := true) h
    cases h
    exact k
theorem p_sortt : cpyD .sortd (.lst (L.map rowT)) Kd = ((∀ l ∈ L, l ≠ []) ∧ Kd (.lst ((srtR L).map rowT))) := by
  refine propext ⟨?_, fun h => ⟨true, L, (show decL true (L.map (encR true)) = some L from decL_enc), fun _ => h.1, h.2⟩⟩
  rintro ⟨b, L', h, ne, k⟩
  cases b with
  | true =>
    have := (decL_enc (b := true) (L := L)).symm.trans h
    cases this
    exact ⟨ne rfl, k⟩
  | false =>
    obtain rfl := decL_other (b := false) h
    cases h
    exact ⟨fun _ h => (by cases h), k⟩
end
section
variable {ns ms : List Int} {Kb : Bool → Prop} {i : Int}
theorem c_ltt : cmpD .lt (.tup (ns.map .int)) (.tup (ms.map .int)) Kb = Kb (ltL ns ms) := by
  show (∃ ns' ms', D.ints (ns.map .int) = some ns' ∧ D.ints (ms.map .int) = some ms' ∧ Kb (ltL ns' ms')) = _
  rw [ints_mapE, ints_mapE]
  exact propext ⟨fun ⟨_, _, a, b, k⟩ => by cases a; cases b; exact k, fun k => ⟨_, _, rfl, rfl, k⟩⟩
theorem c_let : cmpD .le (.tup (ns.map .int)) (.tup (ms.map .int)) Kb = Kb (!ltL ms ns) := by
  show (∃ ns' ms', D.ints (ns.map .int) = some ns' ∧ D.ints (ms.map .int) = some ms' ∧ Kb (!ltL ms' ns')) = _
  rw [ints_mapE, ints_mapE]
  exact propext ⟨fun ⟨_, _, a, b, k⟩ => by cases a; cases b; exact k, fun k => ⟨_, _, rfl, rfl, k⟩⟩
theorem c_gtt : cmpD .gt (.tup (ns.map .int)) (.tup (ms.map .int)) Kb = Kb (ltL ms ns) := by
  show (∃ ns' ms', D.ints (ns.map .int) = some ns' ∧ D.ints (ms.map .int) = some ms' ∧ Kb (ltL ms' ns')) = _
  rw [ints_mapE, ints_mapE]
  exact propext ⟨fun ⟨_, _, a, b, k⟩ => by cases a; cases b; exact k, fun k => ⟨_, _, rfl, rfl, k⟩⟩
theorem c_get : cmpD .ge (.tup (ns.map .int)) (.tup (ms.map .int)) Kb = Kb (!ltL ns ms) := by
  show (∃ ns' ms', D.ints (ns.map .int) = some ns' ∧ D.ints (ms.map .int) = some ms' ∧ Kb (!ltL ns' ms')) = _
  rw [ints_mapE, ints_mapE]
  exact propext ⟨fun ⟨_, _, a, b, k⟩ => by cases a; cases b; exact k, fun k => ⟨_, _, rfl, rfl, k⟩⟩
theorem c_int : cmpD .isin (.int i) (.tup (ns.map .int)) Kb = Kb (decide (i ∈ ns)) := by
  show ((_ ∧ _) ∧ Kb _) = _
  rw [any_ints]
  exact propext ⟨fun h => h.2, fun h => ⟨⟨rfl, Eqc.int.tup.shp (by decide) ns⟩, h⟩⟩
theorem c_nint : cmpD .nin (.int i) (.tup (ns.map .int)) Kb = Kb (!decide (i ∈ ns)) := c_int (Kb := fun z => Kb (!z))
theorem c_int2 {a b : Int} : cmpD .isin (.int i) (.tup [.int a, .int b]) Kb = Kb (decide (i ∈ [a, b])) := c_int (ns := [a, b])
/-- pairs -/
def ltP (a b c d : Int) : Bool := if a = c then decide (b < d) else decide (a < c)
theorem ltL2 {a b c d : Int} : ltL [a, b] [c, d] = ltP a b c d := by
  unfold ltP
  show (if a = c then (if b = d then false else decide (b < d)) else decide (a < c)) = _
  by_cases h : b = d
  · subst h; simp
  · rw [if_neg h]
theorem c_ltt2 {a b c d : Int} : cmpD .lt (.tup [.int a, .int b]) (.tup [.int c, .int d]) Kb = Kb (ltP a b c d) := by rw [← ltL2]; exact c_ltt (ns := [a, b]) (ms := [c, d])
theorem c_let2 {a b c d : Int} : cmpD .le (.tup [.int a, .int b]) (.tup [.int c, .int d]) Kb = Kb (!ltP c d a b) := by rw [← ltL2]; exact c_let (ns := [a, b]) (ms := [c, d])
theorem c_gtt2 {a b c d : Int} : cmpD .gt (.tup [.int a, .int b]) (.tup [.int c, .int d]) Kb = Kb (ltP c d a b) := by rw [← ltL2]; exact c_gtt (ns := [a, b]) (ms := [c, d])
theorem c_get2 {a b c d : Int} : cmpD .ge (.tup [.int a, .int b]) (.tup [.int c, .int d]) Kb = Kb (!ltP a b c d) := by rw [← ltL2]; exact c_get (ns := [a, b]) (ms := [c, d])
end
/-! the keys of a dict by their numbers -/
def dselQ (own : List Nat) (ge : Bool) (n : Int) (ρ : Pl) (K : KE) (x : D) : Prop := ∃ l ws, x = .dic (l.map Sum.inl) (ws.map .int) ∧ l.length = ws.length ∧ l.Nodup ∧ l.length ≤ sizeLine ∧ (∀ j ∈ own, free ρ j) ∧ K (.lst ((dselL ge n l ws).map .int)) .deep ρ
theorem w_dsel {Γ : List SpD} {m : Md} {own : List Nat} {i v : Nat} {ge : Bool} {n : Int} {ρ : Pl} {K : KE} : wpE Γ m (.dsel own i v ge n) ρ K = wpE Γ .bor (.var v) ρ fun x _ _ => dselQ own ge n ρ K x := rfl
end R

namespace R
open PySem PySem.Spec PyProof.Rows L2
local macro_rules | `(tactic| walk_at "wp") => `(tactic| simp only [↓w_num, ↓w_dsel, ↓w_bool, ↓w_non, ↓w_str, ↓w_con, ↓w_var, ↓w_take, ↓varC_fz, ↓varC_lnb, ↓varC_lnk, ↓varC_tpo, ↓varC_tpk, ↓varC_tpb, ↓varC_dpo, ↓varC_dpk, ↓varC_dpb, ↓takC_fz, ↓takC_tp, ↓takC_dp, ↓takC_tpk, ↓takC_tpb, ↓takC_dpk, ↓takC_dpb, ↓takC_lnb, ↓w_bin, ↓w_neg, ↓w_cmp, ↓w_chn, ↓w_not, ↓w_and, ↓w_or, ↓w_one, ↓w_ite, ↓w_lst, ↓w_tup, ↓w_ix, ↓w_slc, ↓w_call, ↓w_callF, ↓w_blt, ↓w_cpy, ↓w_lrg, ↓w_fz, ↓w_cat, ↓w_mn, ↓w_mn2, p_sortl, p_sortt, p_listk, c_int2, c_ltt2, c_let2, c_gtt2, c_get2, c_ltl, c_lel, c_gtl, c_gel, cat_ll, cat_dd, cat_f, cat_t, cat_df, cat_dt, ↓w_mth, ↓w_dct, ↓w_get, ↓w_lc2, ↓w_sel, ↓r_rev, sk_b, sk_od, sk_kd, sk_of, sk_kf, ↓s_app1, ↓s_app2, ↓s_ext, rep_map, app_one, ap_gd, ap_gt, ap_gf, ld_t, ld_d, ld_k, lv_f, lv_t, lv_d, z_sset, z_lset, z_setof, z_sset0, m_count, m_index, ex_lst, ex_dic, p_rev, rev_int, f_str, f_lend, c_ins, c_nins, in_dd, ext_t, ext_d, ↓r_3, ao_t0, ao_t1, ao_t2, ao_l0, ↓w_isi, ↓w_nil, ↓w_cons, ↓w_lc, getD_0, getD_s, ↓s_set, ↓s_unp, ↓s_par, ↓s_par3, ↓s_put, ↓s_app, ↓s_pop, ↓s_popS, ↓s_ex, ↓s_iff, ↓s_whl, ↓s_for, ↓s_ret, ↓s_retN, ↓s_brk, ↓s_cont, ↓s_pas, ↓s_fgt, ↓s_nil, b_add, b_addl, b_sub, b_mul, b_mull, b_fdiv, b_fdivN, b_mod, b_modN, b_pow, b_shl, b_shr, c_eqi, c_eqs, c_nei, c_nes, c_lt, c_le, c_gt, c_ge, c_isn, c_isntn, c_isb, c_isntb, pt_0, st_0, pt_1, st_1, pt_2, st_2, pt_3, st_3, pt_4, st_4, pt_5, st_5, pt_6, st_6, pt_7, st_7, pt_8, st_8, pt_9, st_9, pt_10, st_10, pt_11, st_11, pt_12, st_12, pt_13, st_13, pt_14, st_14, pt_15, st_15, pt_16, st_16, pt_17, st_17, pt_18, st_18, pt_19, st_19, gd_0, gd_1, gd_2, gd_3, gd_4, gd_5, gd_6, gd_7, gd_8, gd_9, gd_10, gd_11, gd_12, gd_13, ex_bl, ex_int, ex_tup, ex_rg, mk_int, mk_bl, mk_str, mk_non, mk_lf, mk_lt, mk_ld, mk_ti, wp_n, wp_c, uw_n, uw_c, kc_u, kc_f, kc_l, kc_t, kc_d, fr_eq, fr_u, fr_f, fr_t, fr_d, nl_u, nl_f, nl_t, nl_d, is_t, is_d, i_lst, i_tup, i_fro, kp_b, kp_i, kp_k, kp_s, kp_l, kp_lk, cy_b, cy_o, cy_k, cy_of, cy_kf, cy_ot, cy_kt, sm_b, sm_k, sm_o, em_b, em_k, em_o, kd_d, kd_t, kd_f, dp_d, dp_t, dp_f, im_i, im_b, im_s, im_n, im_l, im_f, im_t, iL_n, iL_c, f_len, f_lent, f_lenf, f_lens, f_abs, f_min2, f_max2, f_sum, f_min, f_max, f_int, f_intb, p_list, p_listt, p_sorted, p_tuple, sl_l, sl_f, pa_t, pa_f, ty_i, ty_b, ty_s, ty_l, ty_t, ty_n, t_1, t_2, t_3, tf_1, tf_m, ap_i, ap_ti, pu_i, pu_ti, it_l, it_t, kk_o, kk_b, kk_k, c_eql, c_nel, c_in, c_nin, rs_b, rs_k, rs_o, r_1, r_2, r_c, ↓s_consR, end_nx, end_rt, end_bk, end_ct, ret_d, ret_i, ret_b, ret_n, ret_t, len_c, len_n, all_c, all_n, List.length_map, List.length_range, Bool.true_and, Bool.and_true, Bool.false_and, Bool.and_false, Bool.true_or, Bool.or_true, Bool.not_true, Bool.not_false, if_true, if_false, true_and, and_true, decide_eq_true_eq, Ex.isNop, isiD, D.isNon, Bool.or_self, Bool.or_false, Bool.false_or, bne_iff_ne, ne_eq, Bool.not_eq_true, decide_eq_false_iff_not, Bool.decide_eq_true, reduceIte, Bool.false_eq_true, Bool.not_eq_eq_eq_not, decide_true, decide_false, Nat.reduceAdd, Nat.reduceLT, Nat.reduceLeDiff, Nat.zero_le, Int.reduceLT, Int.reduceLE, Int.reducePow, Int.reduceNeg, Int.reduceMul, Int.reduceAdd, Int.reduceSub, Int.reduceToNat, Nat.reducePow, and_assoc, Bool.true_eq_false, eq_self, not_true_eq_false, not_false_eq_true, rngL_eq, List.length_replicate, List.length_append, isort_len, ret_tp, ret_s, cells_n', cells_c, it_0, it_1, it_2, it_3, il_0, il_1, il_2, il_3, kp_to, kp_tk, kp_sk, kp_bo, kp_bk, kp_no, c_eqb, c_neb, beq_self_eq_true, true_or, or_true, false_or, or_false, c_eqn, c_nen, ↓cs_1, ↓cs_0, mk_t, atg_0, atg_1, atg_2, atg_3, atg_4, atg_5, ex_one, rest_nil, rep_int, app_int, immL_ints, mk_f, mk_tild, mk_tlld, mk_tilld, c_eqt2, c_net2, c_eqd, c_ned, c_eqll2, c_nell2, c_eqtl2, c_netl2, one_app, sl_t1, b_band, b_bor, kk_s, bk_i, bk_t, endW_nx, endW_rt, endW_bk, endW_ct, b_addt, kp_s0])
local macro_rules | `(tactic| walk_at "sd") => `(tactic| first | with_reducible exact True.intro | (with_reducible refine Sm_of ?_ ?_ <;> omega) | (with_reducible refine SmD_of ?_ ?_ <;> omega) | omega | (rw [sizeLine_eq]; omega) | (show List.Nodup (α := Nat) _; decide))
local macro_rules | `(tactic| walk_at "go") => `(tactic| repeat (first | with_reducible refine rest_mk ?_ | with_reducible refine And.intro (by walk_at "sd") ?_ | walk_at "wp"))
local macro_rules | `(tactic| walk_at "g1") => `(tactic| repeat (first | with_reducible refine And.intro (by walk_at "sd") ?_ | walk_at "wp"))

/-! 1 is_number(value) -/
def Cis_number : Cms := (.cons (.ret (.and (.isi (.var 0) .int) (.one (.not (.isi (.var 0) .bool))))) .nil)
def Tis_number : Tab := { N := ["value"], G := [], B := ["isinstance", "bool", "int"], C := [] }
/-! 2 is_numbers(value) -/
def Cis_numbers_0 : Cms := (.cons (.iff (.not (.call 0 (.cons (.var 1) .nil))) (.cons (.ret (.bool false)) .nil) .nil) (.cons (.fgt [1]) .nil))
def Cis_numbers : Cms := (.cons (.iff (.not (.isi (.var 0) .list)) (.cons (.ret (.bool false)) .nil) .nil) (.cons (.forr (.one 1) (.col (.var 0)) Cis_numbers_0) (.cons (.ret (.bool true)) .nil)))
def Tis_numbers : Tab := { N := ["value", "item"], G := ["is_number"], B := ["isinstance", "list"], C := [], F := [false] }
/-! 4 remainders_of_sums(n, first, second) -/
def Cremainders_of_sums_0 : Cms := (.cons (.set 6 (.bin .mod (.bin .add (.var 4) (.var 5)) (.var 0))) (.cons (.put 3 (.var 6) (.bin .add (.get 3 (.var 6) (.num 0)) (.num 1))) (.cons (.fgt [5, 6]) .nil)))
def Cremainders_of_sums_1 : Cms := (.cons (.fgt [5, 6]) (.cons (.forr (.one 5) (.col (.var 2)) Cremainders_of_sums_0) (.cons (.fgt [4]) .nil)))
def Cremainders_of_sums : Cms := (.cons (.set 3 .dct) (.cons (.forr (.one 4) (.col (.var 1)) Cremainders_of_sums_1) (.cons (.ret (.take 3)) .nil)))
def Tremainders_of_sums : Tab := { N := ["n", "first", "second", "counts", "day", "other", "place"], G := [], B := [], C := [] }
/-! 5 is_factoring(n, first, second) -/
def Cis_factoring : Cms := (.cons (.iff (.or (.not (.call 0 (.cons (.var 2) .nil))) (.one (.cmp .ne (.bin .mul (.blt .len (.cons (.var 1) .nil)) (.blt .len (.cons (.var 2) .nil))) (.var 0)))) (.cons (.ret (.bool false)) .nil) .nil) (.cons (.ret (.cmp .eq (.blt .len (.cons (.call 1 (.cons (.var 0) (.cons (.var 1) (.cons (.var 2) .nil)))) .nil)) (.var 0))) .nil))
def Tis_factoring : Tab := { N := ["n", "first", "second"], G := ["is_numbers", "remainders_of_sums"], B := ["len"], C := [], F := [false, false] }
/-! 6 least_missing(counts) -/
def Cleast_missing_0 : Cms := (.cons (.iff (.cmp .nin (.var 1) (.var 0)) (.cons (.ret (.take 1)) .nil) .nil) (.cons (.fgt [1]) .nil))
def Cleast_missing : Cms := (.cons (.forr (.one 1) (.rng1 (.bin .add (.blt .len (.cons (.var 0) .nil)) (.num 1))) Cleast_missing_0) (.cons (.ret .non) .nil))
def Tleast_missing : Tab := { N := ["counts", "place"], G := [], B := ["range", "len"], C := [] }
/-! 7 fault_of(n, first, second) -/
def Cfault_of : Cms := (.cons (.set 3 (.call 0 (.cons (.var 0) (.cons (.var 1) (.cons (.var 2) .nil))))) (.cons (.set 4 (.dsel [5] 5 3 false 1)) (.cons (.iff (.cmp .gt (.blt .len (.cons (.var 4) .nil)) (.num 0)) (.cons (.ret (.tup (.cons (.str "twice") (.cons (.blt .min (.cons (.var 4) .nil)) .nil)))) .nil) .nil) (.cons (.iff (.cmp .lt (.blt .len (.cons (.var 3) .nil)) (.var 0)) (.cons (.ret (.tup (.cons (.str "missing") (.cons (.call 1 (.cons (.var 3) .nil)) .nil)))) .nil) .nil) (.cons (.ret .non) .nil)))))
def Tfault_of : Tab := { N := ["n", "first", "second", "counts", "doubled", "place"], G := ["remainders_of_sums", "least_missing"], B := ["min", "len"], C := [], F := [false, false] }
/-! 9 _law_draws(script, many) -/
def C_law_draws_0 : Cms := (.cons (.iff (.cmp .gt (.var 4) (.num 0)) (.cons (.app 2 (.bin .mod (.var 4) (.num 1000003))) (.cons (.set 4 (.bin .fdiv (.var 4) (.num 1000003))) .nil)) .nil) (.cons (.fgt [5]) .nil))
def C_law_draws_1 : Cms := (.cons (.set 6 (.bin .mod (.bin .add (.bin .add (.bin .add (.bin .mul (.var 6) (.num 69621)) (.bin .fdiv (.var 6) (.num 65536))) (.bin .mul (.num 13) (.var 5))) (.num 5)) (.num 2147483629))) (.cons (.app 2 (.bin .mod (.bin .fdiv (.var 6) (.num 8)) (.num 1000003))) (.cons (.fgt [5]) .nil)))
def C_law_draws_2 : Cms := (.cons (.set 4 (.blt .abs (.cons (.blt .int (.cons (.var 3) .nil)) .nil))) (.cons (.iff (.cmp .ge (.var 4) (.bin .pow (.num 10) (.num 18))) (.cons (.fgt [3, 5, 6]) (.cons (.forr (.one 5) (.rng1 (.num 60)) C_law_draws_0) .nil)) (.cons (.set 6 (.bin .mod (.bin .add (.bin .add (.bin .mul (.var 4) (.num 48271)) (.bin .mul (.num 7) (.blt .len (.cons (.var 2) .nil)))) (.num 11)) (.num 2147483647))) (.cons (.fgt [3, 4, 5]) (.cons (.forr (.one 5) (.rng1 (.num 4)) C_law_draws_1) .nil)))) (.cons (.fgt [3, 4, 5, 6]) .nil)))
def C_law_draws_3 : Cms := (.cons (.iff (.cmp .lt (.blt .len (.cons (.var 2) .nil)) (.var 1)) (.cons (.set 7 (.num 0)) (.cons (.iff (.cmp .gt (.blt .len (.cons (.var 2) .nil)) (.num 0)) (.cons (.set 7 (.ix (.var 2) (.bin .mod (.var 5) (.blt .len (.cons (.var 2) .nil))))) .nil) .nil) (.cons (.app 2 (.bin .mod (.bin .add (.bin .add (.bin .mul (.var 7) (.num 16807)) (.bin .mul (.num 31) (.blt .len (.cons (.var 2) .nil)))) (.num 17)) (.num 1000003))) .nil))) .nil) (.cons (.fgt [5, 7]) .nil))
def C_law_draws : Cms := (.cons (.set 2 (.lst .nil)) (.cons (.forr (.one 3) (.col (.slc (.var 0) .nop (.num 63))) C_law_draws_2) (.cons (.forr (.one 5) (.rng1 (.var 1)) C_law_draws_3) (.cons (.ret (.slc (.var 2) .nop (.var 1))) .nil))))
def T_law_draws : Tab := { N := ["script", "many", "found", "cell", "number", "k", "mixed", "base"], G := [], B := ["abs", "int", "range", "len"], C := [] }
/-! 10 _law_is_number(value) -/
def C_law_is_number : Cms := (.cons (.ret (.and (.isi (.var 0) .int) (.one (.not (.isi (.var 0) .bool))))) .nil)
def T_law_is_number : Tab := { N := ["value"], G := [], B := ["isinstance", "bool", "int"], C := [] }
/-! 11 _law_tagged(paper, tag, length) -/
def C_law_tagged : Cms := (.cons (.iff (.or (.not (.isi (.var 0) .tuple)) (.or (.cmp .ne (.blt .len (.cons (.var 0) .nil)) (.var 2)) (.one (.not (.isi (.ix (.var 0) (.num 0)) .str))))) (.cons (.ret (.bool false)) .nil) .nil) (.cons (.ret (.cmp .eq (.ix (.var 0) (.num 0)) (.var 1))) .nil))
def T_law_tagged : Tab := { N := ["paper", "tag", "length"], G := [], B := ["isinstance", "str", "len", "tuple"], C := [] }
/-! 12 _law_put(line, at, item) -/
def C_law_put : Cms := (.cons (.ret (.bin .add (.bin .add (.slc (.var 0) .nop (.var 1)) (.lst (.cons (.var 2) .nil))) (.slc (.var 0) (.bin .add (.var 1) (.num 1)) .nop))) .nil)
def T_law_put : Tab := { N := ["line", "at", "item"], G := [], B := [], C := [] }
/-! 13 _law_factoring(cells) -/
def C_law_factoring : Cms := (.cons (.set 1 (.bin .mod (.ix (.var 0) (.num 0)) (.num 4))) (.cons (.unp [2, 3] (.tup (.cons (.bin .add (.num 1) (.bin .mod (.ix (.var 0) (.num 1)) (.num 5))) (.cons (.bin .add (.num 1) (.bin .mod (.ix (.var 0) (.num 2)) (.num 5))) .nil)))) (.cons (.set 4 (.bin .add (.num 1) (.bin .mod (.ix (.var 0) (.num 3)) (.num 3)))) (.cons (.set 5 (.bin .mul (.bin .mul (.var 2) (.var 3)) (.var 4))) (.cons (.set 6 (.lc [7] (.var 7) (.one 7) (.rng1 (.var 2)) .nil)) (.cons (.set 8 (.lc [7] (.bin .mul (.var 2) (.var 7)) (.one 7) (.rng1 (.bin .mul (.var 3) (.var 4))) .nil)) (.cons (.iff (.cmp .eq (.var 1) (.num 1)) (.cons (.set 6 (.call 0 (.cons (.lrg (.num 0) (.var 2)) (.cons (.lc [9] (.bin .mul (.bin .mul (.var 2) (.var 3)) (.var 9)) (.one 9) (.rng1 (.var 4)) .nil) .nil)))) (.cons (.set 8 (.lc [7] (.bin .mul (.var 2) (.var 7)) (.one 7) (.rng1 (.var 3)) .nil)) .nil)) .nil) (.cons (.iff (.cmp .eq (.var 1) (.num 2)) (.cons (.set 6 (.lc [7] (.bin .mul (.var 2) (.var 7)) (.one 7) (.rng1 (.var 3)) .nil)) (.cons (.set 8 (.call 0 (.cons (.lrg (.num 0) (.var 2)) (.cons (.lc [9] (.bin .mul (.bin .mul (.var 2) (.var 3)) (.var 9)) (.one 9) (.rng1 (.var 4)) .nil) .nil)))) .nil)) .nil) (.cons (.iff (.cmp .eq (.var 1) (.num 3)) (.cons (.set 6 (.lc [7] (.bin .mul (.bin .mul (.var 3) (.var 4)) (.var 7)) (.one 7) (.rng1 (.var 2)) .nil)) (.cons (.set 8 (.lc [7] (.bin .add (.var 7) (.bin .mul (.bin .mul (.var 3) (.var 4)) (.bin .mod (.bin .fdiv (.ix (.var 0) (.bin .add (.num 4) (.bin .mod (.var 7) (.num 4)))) (.bin .add (.var 7) (.num 1))) (.var 2)))) (.one 7) (.rng1 (.bin .mul (.var 3) (.var 4))) .nil)) .nil)) .nil) (.cons (.ret (.tup (.cons (.take 5) (.cons (.take 6) (.cons (.take 8) .nil))))) .nil))))))))))
def T_law_factoring : Tab := { N := ["cells", "kind", "a", "b", "c", "n", "first", "k", "second", "j"], G := ["_law_added"], B := ["range", "list"], C := [], F := [false] }
/-! 14 _law_shaken(n, days, cells) -/
def C_law_shaken_0 : Cms := (.cons (.app 3 (.bin .add (.ix (.var 1) (.var 4)) (.bin .mul (.var 0) (.bin .sub (.bin .mod (.bin .fdiv (.ix (.var 2) (.bin .mod (.var 4) (.blt .len (.cons (.var 2) .nil)))) (.bin .add (.var 4) (.num 1))) (.num 7)) (.num 3))))) (.cons (.fgt [4]) .nil))
def C_law_shaken : Cms := (.cons (.set 3 (.lst .nil)) (.cons (.forr (.one 4) (.rng1 (.blt .len (.cons (.var 1) .nil))) C_law_shaken_0) (.cons (.set 5 (.bin .mod (.ix (.var 2) (.num 0)) (.blt .len (.cons (.var 3) .nil)))) (.cons (.ret (.bin .add (.slc (.var 3) (.var 5) .nop) (.slc (.var 3) .nop (.var 5)))) .nil))))
def T_law_shaken : Tab := { N := ["n", "days", "cells", "found", "k", "at"], G := [], B := ["range", "len"], C := [] }
/-! 15 _law_added(ones, others) -/
def C_law_added_0 : Cms := (.cons (.set 2 (.bin .add (.var 2) (.lc [4] (.bin .add (.var 4) (.var 3)) (.one 4) (.col (.var 0)) .nil))) (.cons (.fgt [3]) .nil))
def C_law_added : Cms := (.cons (.set 2 (.lst .nil)) (.cons (.forr (.one 3) (.col (.var 1)) C_law_added_0) (.cons (.ret (.take 2)) .nil)))
def T_law_added : Tab := { N := ["ones", "others", "found", "other", "one"], G := [], B := [], C := [] }
/-! 16 _law_due(n, first, second) -/
def C_law_due_0 : Cms := (.cons (.set 6 (.bin .mod (.bin .add (.var 4) (.var 5)) (.var 0))) (.cons (.put 3 (.var 6) (.bin .add (.get 3 (.var 6) (.num 0)) (.num 1))) (.cons (.fgt [5, 6]) .nil)))
def C_law_due_1 : Cms := (.cons (.fgt [5, 6]) (.cons (.forr (.one 5) (.col (.var 2)) C_law_due_0) (.cons (.fgt [4]) .nil)))
def C_law_due_2 : Cms := (.cons (.iff (.cmp .nin (.var 6) (.var 3)) (.cons (.ret (.tup (.cons (.str "missing") (.cons (.take 6) .nil)))) .nil) .nil) (.cons (.fgt [6]) .nil))
def C_law_due : Cms := (.cons (.set 3 .dct) (.cons (.forr (.one 4) (.col (.var 1)) C_law_due_1) (.cons (.set 7 (.cpy .sorted (.dsel [6] 6 3 true 2))) (.cons (.iff (.cmp .ne (.var 7) (.lst .nil)) (.cons (.ret (.tup (.cons (.str "twice") (.cons (.ix (.var 7) (.num 0)) .nil)))) .nil) .nil) (.cons (.fgt [7]) (.cons (.forr (.one 6) (.rng1 (.blt .min (.cons (.var 0) (.cons (.bin .add (.bin .mul (.blt .len (.cons (.var 1) .nil)) (.blt .len (.cons (.var 2) .nil))) (.num 1)) .nil)))) C_law_due_2) (.cons (.ret .non) .nil)))))))
def T_law_due : Tab := { N := ["n", "first", "second", "counts", "day", "other", "place", "twice"], G := [], B := ["sorted", "range", "min", "len"], C := [] }
/-! 17 _law_told(n, first, second) -/
def C_law_told_0 : Cms := (.cons (.set 6 (.call 1 (.cons (.var 0) (.cons (.ix (.var 4) (.num 0)) (.cons (.ix (.var 4) (.num 1)) .nil))))) (.cons (.iff (.cmp .ne (.var 4) (.lst (.cons (.var 1) (.cons (.var 2) .nil)))) (.cons (.ret (.bool false)) .nil) .nil) (.cons (.iff (.and (.cmp .is (.var 3) .non) (.one (.cmp .isnt (.var 6) .non))) (.cons (.ret (.bool false)) .nil) .nil) (.cons (.iff (.and (.cmp .isnt (.var 3) .non) (.one (.or (.not (.call 3 (.cons (.var 6) (.cons (.ix (.var 3) (.num 0)) (.cons (.num 2) .nil))))) (.or (.not (.call 2 (.cons (.ix (.var 6) (.num 1)) .nil))) (.one (.cmp .ne (.var 6) (.var 3))))))) (.cons (.ret (.bool false)) .nil) .nil) (.cons (.fgt [5, 6]) .nil)))))
def C_law_told : Cms := (.cons (.set 3 (.call 0 (.cons (.var 0) (.cons (.var 1) (.cons (.var 2) .nil))))) (.cons (.set 4 (.lst (.cons (.cpy .list (.var 1)) (.cons (.cpy .list (.var 2)) .nil)))) (.cons (.forr (.one 5) (.rng1 (.num 2)) C_law_told_0) (.cons (.ret (.cmp .eq (.call 4 (.cons (.var 0) (.cons (.cpy .list (.var 1)) (.cons (.cpy .list (.var 2)) .nil)))) (.cmp .is (.var 3) .non))) .nil))))
def T_law_told : Tab := { N := ["n", "first", "second", "due", "passed", "turn", "told"], G := ["_law_due", "fault_of", "_law_is_number", "_law_tagged", "is_factoring"], B := ["list", "range"], C := [], F := [false, false, false, false, false] }
/-! 18 _law_free(draws, at, most) -/
def C_law_free_0 : Cms := (.cons (.app 3 (.bin .sub (.bin .mod (.bin .add (.bin .mul (.ix (.var 0) (.bin .add (.bin .add (.var 1) (.num 1)) (.var 4))) (.num 1000003)) (.ix (.var 0) (.var 1))) (.bin .add (.bin .mul (.num 2) (.var 2)) (.num 1))) (.var 2))) (.cons (.fgt [4]) .nil))
def C_law_free : Cms := (.cons (.set 3 (.lst .nil)) (.cons (.forr (.one 4) (.rng1 (.bin .add (.num 1) (.bin .mod (.ix (.var 0) (.var 1)) (.num 8)))) C_law_free_0) (.cons (.ret (.take 3)) .nil)))
def T_law_free : Tab := { N := ["draws", "at", "most", "found", "k"], G := [], B := ["range"], C := [] }
/-! 19 _law_great(draws) -/
def C_law_great : Cms := (.cons (.set 1 (.lst (.cons (.bin .add (.num 1) (.bin .mod (.ix (.var 0) (.num 40)) (.num 60))) (.cons (.bin .add (.num 1) (.bin .mod (.ix (.var 0) (.num 41)) (.num 60))) .nil)))) (.cons (.set 2 (.lc [3] (.var 3) (.one 3) (.rng1 (.ix (.var 1) (.num 0))) .nil)) (.cons (.set 4 (.lc [3] (.bin .mul (.ix (.var 1) (.num 0)) (.var 3)) (.one 3) (.rng1 (.ix (.var 1) (.num 1))) .nil)) (.cons (.set 5 (.bin .mul (.ix (.var 1) (.num 0)) (.ix (.var 1) (.num 1)))) (.cons (.set 6 (.bin .sub (.bin .pow (.num 10) (.num 6)) (.bin .mod (.ix (.var 0) (.num 42)) (.num 1000)))) (.cons (.iff (.or (.not (.call 0 (.cons (.var 5) (.cons (.var 2) (.cons (.var 4) .nil))))) (.or (.not (.call 0 (.cons (.var 6) (.cons (.var 2) (.cons (.var 4) .nil))))) (.one (.not (.call 0 (.cons (.bin .add (.var 5) (.num 1)) (.cons (.var 4) (.cons (.var 2) .nil)))))))) (.cons (.ret (.bool false)) .nil) .nil) (.cons (.set 7 (.bin .add (.slc (.var 4) .nop (.neg (.num 1))) (.lst (.cons (.bin .add (.bin .add (.ix (.var 4) (.neg (.num 1))) (.bin .mod (.ix (.var 0) (.num 43)) (.num 4))) (.bin .mul (.bin .pow (.num 10) (.num 6)) (.bin .mod (.ix (.var 0) (.num 44)) (.num 9)))) .nil)))) (.cons (.ret (.and (.call 0 (.cons (.var 5) (.cons (.var 2) (.cons (.var 7) .nil)))) (.one (.call 0 (.cons (.blt .max (.cons (.num 1) (.cons (.bin .sub (.var 5) (.num 1)) .nil))) (.cons (.var 2) (.cons (.var 4) .nil))))))) .nil))))))))
def T_law_great : Tab := { N := ["draws", "many", "first", "k", "second", "n", "far", "bent"], G := ["_law_told"], B := ["range", "max"], C := [], F := [false] }
/-! 20 law(script) -/
def Claw_0 : Cms := (.cons (.iff (.and (.cmp .ne (.var 8) (.lst .nil)) (.and (.cmp .le (.blt .len (.cons (.var 8) .nil)) (.num 60)) (.one (.not (.call 4 (.cons (.var 2) (.cons (.var 3) (.cons (.var 8) .nil)))))))) (.cons (.ret (.bool false)) .nil) .nil) (.cons (.iff (.and (.cmp .ne (.var 8) (.lst .nil)) (.and (.cmp .le (.blt .len (.cons (.var 8) .nil)) (.num 60)) (.one (.not (.call 4 (.cons (.var 2) (.cons (.var 8) (.cons (.var 3) .nil)))))))) (.cons (.ret (.bool false)) .nil) .nil) (.cons (.fgt [8]) .nil)))
def Claw_1 : Cms := (.cons (.iff (.not (.call 4 (.cons (.var 11) (.cons (.var 10) (.cons (.var 8) .nil))))) (.cons (.ret (.bool false)) .nil) .nil) (.cons (.fgt [11]) .nil))
def Claw : Cms := (.cons (.set 1 (.call 0 (.cons (.var 0) (.cons (.num 60) .nil)))) (.cons (.unp [2, 3, 4] (.call 1 (.cons (.slc (.var 1) (.num 0) (.num 8)) .nil))) (.cons (.set 3 (.call 2 (.cons (.var 2) (.cons (.var 3) (.cons (.slc (.var 1) (.num 10) (.num 20)) .nil))))) (.cons (.set 4 (.call 2 (.cons (.var 2) (.cons (.var 4) (.cons (.slc (.var 1) (.num 20) (.num 30)) .nil))))) (.cons (.iff (.or (.not (.call 4 (.cons (.var 2) (.cons (.var 3) (.cons (.var 4) .nil))))) (.one (.cmp .isnt (.call 3 (.cons (.var 2) (.cons (.cpy .list (.var 3)) (.cons (.cpy .list (.var 4)) .nil)))) .non))) (.cons (.ret (.bool false)) .nil) .nil) (.cons (.set 5 (.bin .mod (.ix (.var 1) (.num 30)) (.blt .len (.cons (.var 4) .nil)))) (.cons (.set 6 (.lst (.cons (.bin .add (.slc (.var 4) .nop (.var 5)) (.slc (.var 4) (.bin .add (.var 5) (.num 1)) .nop)) (.cons (.bin .add (.var 4) (.lst (.cons (.bin .add (.ix (.var 4) (.var 5)) (.bin .mod (.ix (.var 1) (.num 31)) (.num 5))) .nil))) (.cons (.call 5 (.cons (.var 4) (.cons (.var 5) (.cons (.bin .add (.bin .add (.ix (.var 4) (.var 5)) (.num 1)) (.bin .mod (.ix (.var 1) (.num 32)) (.var 2))) .nil)))) .nil))))) (.cons (.set 6 (.cat (.take 6) (.lst (.cons (.bin .add (.var 4) (.lst (.cons (.ix (.var 4) (.num 0)) .nil))) (.cons (.call 5 (.cons (.var 4) (.cons (.var 5) (.cons (.ix (.var 4) (.num 0)) .nil)))) (.cons (.lc [7] (.bin .add (.var 7) (.num 3)) (.one 7) (.col (.var 4)) .nil) (.cons (.bin .add (.slc (.var 4) (.num 1) .nop) (.slc (.var 4) .nop (.num 1))) .nil))))))) (.cons (.fgt [5]) (.cons (.forr (.one 8) (.col (.var 6)) Claw_0) (.cons (.set 9 (.num 30)) (.cons (.iff (.cmp .eq (.bin .mod (.ix (.var 1) (.num 33)) (.num 8)) (.num 3)) (.cons (.set 9 (.bin .mul (.num 9) (.bin .pow (.num 10) (.num 11)))) .nil) .nil) (.cons (.par 10 8 (.call 6 (.cons (.var 1) (.cons (.num 34) (.cons (.var 9) .nil)))) (.call 6 (.cons (.var 1) (.cons (.num 45) (.cons (.var 9) .nil))))) (.cons (.fgt [6, 9]) (.cons (.forr (.one 11) (.col (.lst (.cons (.bin .mul (.blt .len (.cons (.var 10) .nil)) (.blt .len (.cons (.var 8) .nil))) (.cons (.num 1) (.cons (.bin .add (.num 1) (.bin .mod (.ix (.var 1) (.num 55)) (.num 12))) (.cons (.bin .add (.num 1) (.bin .mod (.ix (.var 1) (.num 56)) (.bin .pow (.num 10) (.num 6)))) .nil)))))) Claw_1) (.cons (.iff (.and (.cmp .eq (.bin .mod (.ix (.var 1) (.num 57)) (.num 12)) (.num 5)) (.one (.not (.call 7 (.cons (.var 1) .nil))))) (.cons (.ret (.bool false)) .nil) .nil) (.cons (.ret (.call 4 (.cons (.var 2) (.cons (.var 3) (.cons (.var 4) .nil))))) .nil)))))))))))))))))
def Tlaw : Tab := { N := ["script", "draws", "n", "first", "second", "at", "others", "day", "other", "most", "one", "m"], G := ["_law_draws", "_law_factoring", "_law_shaken", "fault_of", "_law_told", "_law_put", "_law_free", "_law_great"], B := ["list", "len"], C := [], F := [false, false, false, false, false, false, false, false] }

/-! values of any kind, with longer lists -/
inductive Gq : Nat → D → Prop
  | non {n : Nat} : Gq n .non
  | bl {n : Nat} {b : Bool} : Gq n (.bl b)
  | int {n : Nat} {i : Int} (h : i.natAbs < 10 ^ 51) : Gq n (.int i)
  | str {n : Nat} {x : Str} (h : (reprText x).length ≤ 150) (ok : PyData.strOk x = true) : Gq n (.str x)
  | tup {n : Nat} {xs : List D} (h : ∀ x ∈ xs, Gq n x) (l : xs.length ≤ 80) : Gq (n + 1) (.tup xs)
  | lst {n : Nat} {xs : List D} (h : ∀ x ∈ xs, Gq n x) (l : xs.length ≤ 80) : Gq (n + 1) (.lst xs)
def gqM : Nat → Nat
  | 0 => 150
  | n + 1 => 80 * (gqM n + 2) + 4
theorem gqM_le : ∀ n, 150 ≤ gqM n
  | 0 => Nat.le_refl _
  | n + 1 => by have := gqM_le n; show 150 ≤ 80 * (gqM n + 2) + 4; omega
theorem Rok.int2 {i : Int} (h : i.natAbs < 10 ^ 51) : Rok 0 150 (.int i) := by
  have lg : i.natAbs.log2 < 1920 := by
    by_cases z : i.natAbs = 0
    · rw [z]; decide
    · rw [Nat.log2_lt z]; exact Nat.lt_of_lt_of_le h (by decide +kernel)
  refine ⟨(Rok.int lg).lay, (Rok.int lg).show', Nat.le_refl _, ?_⟩
  have := PySem.int_text_length_le10 (k := 51) (by decide) h
  show (Str.ofString (toString i)).length ≤ 150
  rw [PySem.ofString_length]; omega
theorem Rok.str2 {x : Str} (h : (reprText x).length ≤ 150) (hs : PyData.strOk x = true) : Rok 0 150 (.str x) := by
  have r := Rok.str (x := x) (by omega) hs
  exact ⟨r.lay, r.show', r.depth, h⟩
theorem Gq.rok {n : Nat} {d : D} (g : Gq n d) : Rok (2 * n) (gqM n) d := by
  induction g with
  | @non n => exact Rok.mono ⟨Rok.non.lay, Rok.non.show', Rok.non.depth, (by decide +kernel : (D.toPy .non).shown.length ≤ 150)⟩ (Nat.zero_le _) (gqM_le n)
  | @bl n b => exact Rok.mono ⟨Rok.bl.lay, Rok.bl.show', Rok.bl.depth, (by cases b <;> decide +kernel : (D.toPy (.bl b)).shown.length ≤ 150)⟩ (Nat.zero_le _) (gqM_le n)
  | @int n i h => exact (Rok.int2 h).mono (Nat.zero_le _) (gqM_le n)
  | @str n x h ok => exact (Rok.str2 h ok).mono (Nat.zero_le _) (gqM_le n)
  | @tup n xs h l ih =>
    refine (Rok.tup ih).mono (by omega) ?_
    have := Nat.mul_le_mul_right (gqM n + 2) l
    show _ ≤ 80 * (gqM n + 2) + 4
    omega
  | @lst n xs h l ih =>
    refine (Rok.lst ih).mono (by omega) ?_
    have := Nat.mul_le_mul_right (gqM n + 2) l
    show _ ≤ 80 * (gqM n + 2) + 4
    omega
theorem Gq.up {n : Nat} {d : D} (g : Gq n d) : Gq (n + 1) d := by
  induction g with
  | non => exact .non
  | bl => exact .bl
  | int h => exact .int h
  | str h ok => exact .str h ok
  | tup h l ih => exact .tup ih l
  | lst h l ih => exact .lst ih l
/-- the kinds that a judge tells apart -/
theorem Gq.isi {n : Nat} {d : D} (g : Gq n d) {t : Ty} {K : Bool → Prop} : isiC t d K = K (isiD t d) := by cases g <;> rfl
def numB : D → Bool | .int _ => true | _ => false
def ixB (n : Int) : D → Bool | .int i => decide (0 ≤ i ∧ i < n) | _ => false
def tagB (t : Str) (k : Int) : D → Bool | .tup (.str s :: r) => decide ((r.length : Int) + 1 = k) && decide (s = t) | _ => false
def Spis_number : SpD := fun ds K => ∃ (d : D), ds = [d] ∧ (∃ n, Gq n d) ∧ K (.bl (numB d))
theorem wpis_number (ds : List D) (Kk : D → Prop) (h : Spis_number ds Kk) : wpSs [] Cis_number (startD Tis_number.N.length ds) (endsD Kk) := by
  obtain ⟨d, rfl, ⟨n, g⟩, hK⟩ := h
  show wpSs [] Cis_number [.fz d] (endsD Kk)
  unfold Cis_number
  cases g <;> (walk_at "go"; exact hK)
def Sp_law_is_number : SpD := fun ds K => ∃ (d : D), ds = [d] ∧ (∃ n, Gq n d) ∧ K (.bl (numB d))
theorem wp_law_is_number (ds : List D) (Kk : D → Prop) (h : Sp_law_is_number ds Kk) : wpSs [] C_law_is_number (startD T_law_is_number.N.length ds) (endsD Kk) := by
  obtain ⟨d, rfl, ⟨n, g⟩, hK⟩ := h
  show wpSs [] C_law_is_number [.fz d] (endsD Kk)
  unfold C_law_is_number
  cases g <;> (walk_at "go"; exact hK)
/-- a list of numbers -/
def numsB : D → Bool | .lst xs => xs.all numB | _ => false
/-- what a judge of lists of numbers may be given -/
def Gk (d : D) : Prop := ∃ n, Gq n d ∨ ∃ xs, d = .lst xs ∧ ∀ x ∈ xs, Gq n x
theorem Gq.k {n : Nat} {d : D} (g : Gq n d) : Gk d := ⟨n, .inl g⟩
theorem Gk.two {d : D} (g : Gk d) : (∃ n xs, d = .lst xs ∧ ∀ x ∈ xs, Gq n x) ∨ ((∀ xs, d ≠ .lst xs) ∧ ∃ n, Gq n d) := by
  obtain ⟨n, g | ⟨xs, rfl, h⟩⟩ := g
  · cases g with
    | @lst n xs h l => exact .inl ⟨n, xs, rfl, h⟩
    | @int _ i h => exact .inr ⟨(fun xs e => by cases e), n, .int h⟩
    | @str _ x h ok => exact .inr ⟨(fun xs e => by cases e), n, .str h ok⟩
    | non => exact .inr ⟨(fun xs e => by cases e), n, .non⟩
    | bl => exact .inr ⟨(fun xs e => by cases e), n, .bl⟩
    | @tup n xs h l => exact .inr ⟨(fun xs e => by cases e), n + 1, .tup h l⟩
  · exact .inl ⟨n, xs, rfl, h⟩
def Spis_numbers : SpD := fun ds K => ∃ (d : D), ds = [d] ∧ Gk d ∧ K (.bl (numsB d))
theorem wpis_numbers (ds : List D) (Kk : D → Prop) (h : Spis_numbers ds Kk) : wpSs [Spis_number] Cis_numbers (startD Tis_numbers.N.length ds) (endsD Kk) := by
  obtain ⟨d, rfl, g, hK⟩ := h
  show wpSs [Spis_number] Cis_numbers [.fz d, .un] (endsD Kk)
  unfold Cis_numbers
  rcases g.two with ⟨n, xs, rfl, h⟩ | ⟨no, n, g⟩
  · walk_at "go"
    refine for_open rfl ?_
    walk_at "go"
    refine forD_inv (fun k ρ => ρ = [.fz (.lst xs), .un] ∧ (xs.take k).all numB = true) ⟨rfl, rfl⟩ (fun k x ρ nxt bk hx q nn _ => ?_) (fun ρ q => ?_)
    · obtain ⟨rfl, hp⟩ := q
      refine ⟨by walk_at "go", ?_⟩
      show tgD (.one 1) x _ _
      walk_at "go"
      unfold Cis_numbers_0
      walk_at "go"
      refine ⟨x, rfl, ⟨n, h x (List.mem_of_getElem? hx)⟩, ?_⟩
      cases c : numB x with
      | true =>
        show ∃ b, _
        refine ⟨true, rfl, ?_⟩
        walk_at "go"
        exact nn _ ⟨rfl, by rw [List.take_add_one, hx, List.all_append, hp]; simp [c]⟩
      | false =>
        show ∃ b, _
        refine ⟨false, rfl, ?_⟩
        walk_at "go"
        have e : numsB (.lst xs) = false := by
          show xs.all numB = false
          rw [List.all_eq_false]
          exact ⟨x, List.mem_of_getElem? hx, by rw [c]; decide⟩
        rw [e] at hK
        exact hK
    · obtain ⟨rfl, hp⟩ := q
      rw [List.take_of_length_le (Nat.le_refl _)] at hp
      show rest _ _ _ _
      walk_at "go"
      have e : numsB (.lst xs) = true := hp
      rw [e] at hK
      exact hK
  · cases g with
    | lst h l => exact absurd rfl (no _)
    | _ =>
      walk_at "go"
      exact hK

/-- the keys of a dict that counts -/
def ddK (l : List Int) : List Int := l.foldl (fun acc x => if x ∈ acc then acc else acc ++ [x]) []
theorem ddK_snoc {l : List Int} {x : Int} : ddK (l ++ [x]) = if x ∈ ddK l then ddK l else ddK l ++ [x] := by
  unfold ddK; rw [List.foldl_append]; rfl
theorem ddK_ok : ∀ l : List Int, (ddK l).Nodup ∧ (∀ x, x ∈ ddK l ↔ x ∈ l) ∧ (ddK l).length ≤ l.length ∧ ((ddK l).length = l.length ↔ l.Nodup) := by
  intro l
  suffices h : ∀ r : List Int, (ddK r.reverse).Nodup ∧ (∀ x, x ∈ ddK r.reverse ↔ x ∈ r.reverse) ∧ (ddK r.reverse).length ≤ r.length ∧ ((ddK r.reverse).length = r.length ↔ r.Nodup) by
    have := h l.reverse
    rw [List.reverse_reverse, List.length_reverse] at this
    refine ⟨this.1, this.2.1, this.2.2.1, this.2.2.2.trans ?_⟩
    exact List.pairwise_reverse.trans ⟨fun h => h.imp Ne.symm, fun h => h.imp Ne.symm⟩
  intro r
  induction r with
  | nil => exact ⟨List.nodup_nil, fun x => Iff.rfl, Nat.le_refl _, ⟨fun _ => List.nodup_nil, fun _ => rfl⟩⟩
  | cons a r ih =>
    obtain ⟨i1, i2, i3, i4⟩ := ih
    rw [List.reverse_cons, ddK_snoc]
    by_cases q : a ∈ ddK r.reverse
    · rw [if_pos q]
      refine ⟨i1, fun x => ?_, by rw [List.length_cons]; omega, ⟨fun e => by rw [List.length_cons] at e; omega, fun e => ?_⟩⟩
      · rw [i2 x, List.mem_append, List.mem_singleton]
        exact ⟨.inl, fun z => z.elim id fun z => z ▸ (i2 a).mp q⟩
      · have := (List.nodup_cons.mp e).1
        exact absurd (List.mem_reverse.mp ((i2 a).mp q)) this
    · rw [if_neg q]
      refine ⟨List.nodup_append.mpr ⟨i1, List.nodup_cons.mpr ⟨List.not_mem_nil, List.nodup_nil⟩, fun x hx y hy e => ?_⟩, fun x => ?_, by rw [List.length_append, List.length_cons]; simp; omega, ?_⟩
      · rw [List.mem_singleton] at hy; subst hy; subst e; exact q hx
      · rw [List.mem_append, List.mem_append, i2 x]
      · rw [List.length_append, List.length_cons, List.nodup_cons]
        simp only [List.length_cons, List.length_nil]
        have na : a ∉ r := fun z => q ((i2 a).mpr (List.mem_reverse.mpr z))
        exact ⟨fun e => ⟨na, i4.mp (by omega)⟩, fun e => by have := i4.mpr e.2; omega⟩
theorem kIn_inl {l : List Int} {p : Int} : kIn (.inl p) (l.map Sum.inl) = decide (p ∈ l) := by
  unfold kIn
  induction l with
  | nil => rfl
  | cons a r ih =>
    rw [List.map_cons, List.any_cons, ih, ← Bool.decide_or]
    refine decide_eq_decide.mpr ?_
    rw [List.mem_cons]
    exact ⟨fun h => h.elim (fun e => .inl (Sum.inl.inj e).symm) .inr, fun h => h.elim (fun e => .inl (by rw [e])) .inr⟩
theorem dget_int {ks : List Key} {ws : List Int} {k : Key} : ∃ v : Int, (dGet ks (ws.map .int) k).getD (.int 0) = .int v := by
  unfold dGet
  cases e : (ks.zip (ws.map D.int)).find? (fun kv => decide (kv.1 = k)) with
  | none => exact ⟨0, rfl⟩
  | some kv =>
    have m := List.mem_of_find?_eq_some e
    have := (List.of_mem_zip (a := kv.1) (b := kv.2) m).2
    obtain ⟨v, _, hv⟩ := List.mem_map.mp this
    exact ⟨v, hv.symm⟩
theorem dput_k {L : List Int} {p : Int} : dPutK ((ddK L).map Sum.inl) (.inl p) = (ddK (L ++ [p])).map Sum.inl := by
  unfold dPutK
  rw [kIn_inl, ddK_snoc]
  by_cases q : p ∈ ddK L
  · rw [if_pos q, if_pos (decide_eq_true q)]
  · rw [if_neg q, if_neg (by rw [decide_eq_false q]; decide), List.map_append]; rfl
theorem dput_v {L ws : List Int} {p v : Int} (h : ws.length = (ddK L).length) : ∃ ws' : List Int, dPutV ((ddK L).map Sum.inl) (ws.map .int) (.inl p) (.int v) = ws'.map .int ∧ ws'.length = (ddK (L ++ [p])).length := by
  unfold dPutV
  rw [kIn_inl, ddK_snoc]
  by_cases q : p ∈ ddK L
  · rw [if_pos q, if_pos (decide_eq_true q)]
    refine ⟨((((ddK L).map (Sum.inl : Int → Key)).zip ws).map fun kv => if kv.1 = .inl p then v else kv.2), ?_, by simp [h]⟩
    rw [List.zip_map_right, List.map_map, List.map_map]
    refine List.map_congr_left fun kv _ => ?_
    show (if kv.1 = Sum.inl p then D.int v else .int kv.2) = .int (if kv.1 = Sum.inl p then v else kv.2)
    split <;> rfl
  · rw [if_neg q, if_neg (by rw [decide_eq_false q]; decide)]
    exact ⟨ws ++ [v], by rw [List.map_append]; rfl, by simp [h]⟩

/-! a dict that counts -/
def cdK (L : List Int) : List Key := (ddK L).map Sum.inl
def cdV (L : List Int) : List D := ((ddK L).map fun k => (L.count k : Int)).map D.int
theorem dget_f {f : Int → Int} {p : Int} : ∀ {ks : List Int}, dGet (ks.map Sum.inl) ((ks.map f).map D.int) (.inl p) = if p ∈ ks then some (.int (f p)) else none
  | [] => rfl
  | a :: r => by
    have ih := dget_f (f := f) (p := p) (ks := r)
    unfold dGet at ih ⊢
    rw [List.map_cons, List.map_cons, List.map_cons, List.zip_cons_cons, List.find?_cons]
    by_cases e : a = p
    · subst e
      simp
    · have : decide ((Sum.inl a : Key) = Sum.inl p) = false := decide_eq_false fun h => e (Sum.inl.inj h)
      simp only [this]
      rw [ih]
      have e' : ¬ p = a := fun h => e h.symm
      simp [e']
theorem cd_get {L : List Int} {p : Int} : (dGet (cdK L) (cdV L) (.inl p)).getD (.int 0) = .int (L.count p : Nat) := by
  unfold cdK cdV
  rw [dget_f]
  have ok := ddK_ok L
  by_cases h : p ∈ ddK L
  · rw [if_pos h]; rfl
  · rw [if_neg h]
    have : L.count p = 0 := List.count_eq_zero.mpr fun q => h ((ok.2.1 p).mpr q)
    rw [this]; rfl
theorem cd_at {L : List Int} {p : Int} (h : p ∈ L) : dGet (cdK L) (cdV L) (.inl p) = some (.int (L.count p : Nat)) := by
  unfold cdK cdV
  rw [dget_f, if_pos (((ddK_ok L).2.1 p).mpr h)]
theorem cd_putV {L : List Int} {p : Int} : dPutV (cdK L) (cdV L) (.inl p) (.int ((L.count p : Nat) + 1)) = cdV (L ++ [p]) := by
  have ok := ddK_ok L
  unfold dPutV cdK cdV
  rw [kIn_inl, ddK_snoc]
  have cnt : ∀ k : Int, (L ++ [p]).count k = L.count k + if k = p then 1 else 0 := fun k => by
    rw [List.count_append, List.count_singleton]
    congr 1
    by_cases e : k = p
    · subst e; simp
    · have : ¬ p = k := fun h => e h.symm
      simp [e, this]
  by_cases q : p ∈ ddK L
  · rw [if_pos q, if_pos (decide_eq_true q)]
    have gen : ∀ ks : List Int, (((ks.map Sum.inl : List Key).zip ((ks.map fun k => (L.count k : Int)).map D.int)).map fun kv => if kv.1 = Sum.inl p then D.int ((L.count p : Nat) + 1) else kv.2) = (ks.map fun k => ((L ++ [p]).count k : Int)).map D.int := fun ks => by
      induction ks with
      | nil => rfl
      | cons a r ih =>
        rw [List.map_cons, List.map_cons, List.map_cons, List.zip_cons_cons, List.map_cons, List.map_cons, List.map_cons, ih, cnt]
        congr 1
        by_cases e : a = p
        · subst e; simp
        · have : ¬ (Sum.inl a : Key) = Sum.inl p := fun h => e (Sum.inl.inj h)
          simp [e, this]
    exact gen _
  · rw [if_neg q, if_neg (by rw [decide_eq_false q]; decide), List.map_append, List.map_append]
    have c0 : L.count p = 0 := List.count_eq_zero.mpr fun h => q ((ok.2.1 p).mpr h)
    congr 1
    · congr 1
      refine List.map_congr_left fun k hk => ?_
      rw [cnt, if_neg (fun (e : k = p) => q (e ▸ hk)), Nat.add_zero]
    · show [D.int _] = [D.int ((L ++ [p]).count p : Nat)]
      rw [cnt, c0, if_pos rfl]; rfl
theorem cd_putK {L : List Int} {p : Int} : dPutK (cdK L) (.inl p) = cdK (L ++ [p]) := dput_k

/-! factorings, judged -/
def sumsR (n : Int) (A B : List Int) : List Int := (A.map fun a => B.map fun b => (a + b) % n).flatten
def FacD (n : Int) (A : List Int) (d : D) : Prop := ∃ B : List Int, d = .lst (B.map .int) ∧ (A.length : Int) * B.length = n ∧ (sumsR n A B).Nodup
noncomputable def facV (n : Int) (A : List Int) (d : D) : Bool := @decide (FacD n A d) (Classical.propDecidable _)
theorem facV_t {n : Int} {A : List Int} {d : D} (h : FacD n A d) : facV n A d = true := by unfold facV; exact @decide_eq_true _ (Classical.propDecidable _) h
theorem facV_f {n : Int} {A : List Int} {d : D} (h : ¬ FacD n A d) : facV n A d = false := by unfold facV; exact @decide_eq_false _ (Classical.propDecidable _) h
theorem ints_inj {A B : List Int} (h : D.lst (A.map .int) = .lst (B.map .int)) : A = B := by
  have h := D.lst.inj h
  have : ∀ (A B : List Int), A.map D.int = B.map D.int → A = B := fun A => by
    induction A with
    | nil => intro B h; cases B with | nil => rfl | cons b r => cases h
    | cons a r ih =>
      intro B h
      cases B with
      | nil => cases h
      | cons b s =>
        rw [List.map_cons, List.map_cons] at h
        injection h with h1 h2
        injection h1 with h1
        rw [h1, ih s h2]
  exact this A B h
theorem facV_l {n : Int} {A B : List Int} : FacD n A (.lst (B.map .int)) ↔ (A.length : Int) * B.length = n ∧ (sumsR n A B).Nodup := by
  refine ⟨fun ⟨B', e, h⟩ => ?_, fun h => ⟨B, rfl, h⟩⟩
  rw [ints_inj e]; exact h
theorem numsB_l {d : D} : numsB d = true ↔ ∃ B : List Int, d = .lst (B.map .int) := by
  constructor
  · intro h
    have key : ∀ xs : List D, xs.all numB = true → ∃ B : List Int, xs = B.map .int := fun xs => by
      induction xs with
      | nil => exact fun _ => ⟨[], rfl⟩
      | cons x r ih =>
        intro h
        rw [List.all_cons, Bool.and_eq_true] at h
        obtain ⟨B, rfl⟩ := ih h.2
        cases x with
        | int i => exact ⟨i :: B, rfl⟩
        | _ => cases h.1
    cases d with
    | lst xs =>
      obtain ⟨B, rfl⟩ := key xs h
      exact ⟨B, rfl⟩
    | _ => cases h
  · rintro ⟨B, rfl⟩
    show (B.map D.int).all numB = true
    rw [List.all_eq_true]
    intro x hx
    obtain ⟨i, _, rfl⟩ := List.mem_map.mp hx
    rfl
theorem facV_n {n : Int} {A : List Int} {d : D} (h : numsB d = false) : facV n A d = false := facV_f fun ⟨B, e, _⟩ => by
  rw [numsB_l.mpr ⟨B, e⟩] at h; cases h

/-- the sums up to the i-th day and the j-th other day -/
def sumsT (n : Int) (A B : List Int) (i : Nat) (a : Int) (j : Nat) : List Int := sumsR n (A.take i) B ++ (B.take j).map fun b => (a + b) % n
theorem sumsT_succ {n a b : Int} {A B : List Int} {i j : Nat} (h : B[j]? = some b) : sumsT n A B i a j ++ [(a + b) % n] = sumsT n A B i a (j + 1) := by
  unfold sumsT
  rw [List.take_add_one, h, List.map_append, List.append_assoc]; rfl
theorem sumsT_end {n a : Int} {A B : List Int} {i : Nat} (h : A[i]? = some a) : sumsT n A B i a B.length = sumsR n (A.take (i + 1)) B := by
  unfold sumsT sumsR
  rw [List.take_length, List.take_add_one, h]
  simp
theorem sumsT_0 {n a : Int} {A B : List Int} {i : Nat} : sumsT n A B i a 0 = sumsR n (A.take i) B := by
  unfold sumsT; simp
theorem sumsR_len {n : Int} {A B : List Int} : (sumsR n A B).length = A.length * B.length := by
  unfold sumsR
  induction A with
  | nil => simp
  | cons a r ih => rw [List.map_cons, List.flatten_cons, List.length_append, ih, List.length_map, List.length_cons, Nat.succ_mul]; omega
theorem sumsT_len {n a : Int} {A B : List Int} {i j : Nat} (hi : i < A.length) (hj : j ≤ B.length) : (sumsT n A B i a j).length ≤ A.length * B.length := by
  unfold sumsT
  rw [List.length_append, sumsR_len, List.length_map, List.length_take, List.length_take, Nat.min_eq_left (by omega), Nat.min_eq_left hj]
  have : (i + 1) * B.length ≤ A.length * B.length := Nat.mul_le_mul_right _ hi
  rw [Nat.succ_mul] at this
  omega

def Spremainders_of_sums : SpD := fun ds K => ∃ (n : Int) (A B : List Int), ds = [.int n, .lst (A.map .int), .lst (B.map .int)] ∧ (1 ≤ n ∧ A.length * B.length ≤ 1000000) ∧ K (.dic (cdK (sumsR n A B)) (cdV (sumsR n A B)))
theorem wpremainders_of_sums (ds : List D) (Kk : D → Prop) (h : Spremainders_of_sums ds Kk) : wpSs [] Cremainders_of_sums (startD Tremainders_of_sums.N.length ds) (endsD Kk) := by
  obtain ⟨n, A, B, rfl, ⟨n1, lm⟩, hK⟩ := h
  show wpSs [] Cremainders_of_sums [.fz (.int n), .fz (.lst (A.map .int)), .fz (.lst (B.map .int)), .un, .un, .un, .un] (endsD Kk)
  unfold Cremainders_of_sums
  walk_at "go"
  refine for_open rfl ?_
  walk_at "go"
  refine forD_inv (fun i ρ => ρ = [.fz (.int n), .fz (.lst (A.map .int)), .fz (.lst (B.map .int)), .dp (.dic (cdK (sumsR n (A.take i) B)) (cdV (sumsR n (A.take i) B))), .un, .un, .un]) rfl (fun i x ρ nxt bk hx q nn _ => ?_) (fun ρ q => ?_)
  · subst q
    obtain ⟨a, ha, rfl⟩ := map_get hx
    have hi := (List.getElem?_eq_some_iff.mp ha).1
    refine ⟨by walk_at "go", ?_⟩
    show tgD (.one 4) (.int a) _ _
    rw [← sumsT_0 (a := a)]
    walk_at "go"
    unfold Cremainders_of_sums_1
    walk_at "go"
    refine for_open rfl ?_
    walk_at "go"
    refine forD_inv (fun j ρ => ρ = [.fz (.int n), .fz (.lst (A.map .int)), .fz (.lst (B.map .int)), .dp (.dic (cdK (sumsT n A B i a j)) (cdV (sumsT n A B i a j))), .fz (.int a), .un, .un]) rfl (fun j x ρ nxt1 bk1 hx1 q nn1 _ => ?_) (fun ρ q => ?_)
    · subst q
      obtain ⟨b, hb, rfl⟩ := map_get hx1
      have hj := (List.getElem?_eq_some_iff.mp hb).1
      have tl := sumsT_len (n := n) (a := a) hi (Nat.le_of_lt hj)
      have dl := (ddK_ok (sumsT n A B i a j)).2.2.1
      refine ⟨by walk_at "go", ?_⟩
      show tgD (.one 5) (.int b) _ _
      walk_at "go"
      unfold Cremainders_of_sums_0
      walk_at "go"
      refine ⟨_, rfl, immL_ints, rfl, ?_⟩
      rw [cd_get]
      walk_at "go"
      refine ⟨_, rfl, by unfold cdK; rw [List.length_map, sizeLine_eq]; omega, immL_ints, rfl, ?_⟩
      rw [cd_putV, cd_putK, sumsT_succ hb]
      walk_at "go"
      exact nn1 _ rfl
    · subst q
      rw [List.length_map, sumsT_end ha]
      show rest _ _ _ _
      walk_at "go"
      exact nn _ rfl
  · subst q
    rw [List.length_map, List.take_length]
    show rest _ _ _ _
    walk_at "go"
    exact hK
def Spis_factoring : SpD := fun ds K => ∃ (n : Int) (A : List Int) (d : D), ds = [.int n, .lst (A.map .int), d] ∧ (1 ≤ n ∧ n ≤ 1000000 ∧ A.length ≤ 1000000 ∧ Gk d ∧ ∀ xs, d = .lst xs → xs.length ≤ 1000000) ∧ K (.bl (facV n A d))
theorem wpis_factoring (ds : List D) (Kk : D → Prop) (h : Spis_factoring ds Kk) : wpSs [Spis_numbers, Spremainders_of_sums] Cis_factoring (startD Tis_factoring.N.length ds) (endsD Kk) := by
  obtain ⟨n, A, d, rfl, ⟨n1, n2, al, gk, dl⟩, hK⟩ := h
  show wpSs [Spis_numbers, Spremainders_of_sums] Cis_factoring [.fz (.int n), .fz (.lst (A.map .int)), .fz d] (endsD Kk)
  unfold Cis_factoring
  walk_at "go"
  refine ⟨d, rfl, gk, ?_⟩
  cases c : numsB d with
  | false =>
    rw [facV_n c] at hK
    walk_at "go"
    exact hK
  | true =>
    obtain ⟨B, rfl⟩ := numsB_l.mp c
    have bl := dl _ rfl
    rw [List.length_map] at bl
    walk_at "go"
    by_cases e : (A.length : Int) * B.length = n
    · rw [if_neg (not_not_intro e)]
      walk_at "go"
      have en' : ((A.length * B.length : Nat) : Int) = n := by rw [Int.natCast_mul]; exact e
      have en : A.length * B.length ≤ 1000000 := by rw [← Int.natCast_mul] at e; omega
      refine ⟨n, A, B, rfl, ⟨n1, en⟩, ?_⟩
      walk_at "go"
      have sl := sumsR_len (n := n) (A := A) (B := B)
      obtain ⟨_, _, _, k4⟩ := ddK_ok (sumsR n A B)
      have : decide (((cdK (sumsR n A B)).length : Int) = n) = facV n A (.lst (B.map .int)) := by
        unfold cdK
        rw [List.length_map]
        by_cases q : (sumsR n A B).Nodup
        · rw [facV_t (facV_l.mpr ⟨e, q⟩)]
          refine decide_eq_true ?_
          have := k4.mpr q
          rw [this, sl]; exact en'
        · rw [facV_f fun z => q (facV_l.mp z).2]
          refine decide_eq_false fun z => q (k4.mp ?_)
          rw [sl]
          exact Int.ofNat.inj (z.trans en'.symm)
      rw [this]
      exact hK
    · rw [if_pos e]
      rw [facV_f fun z => e (facV_l.mp z).1] at hK
      exact hK

theorem same_ne {xs : List D} {n m : Nat} (r : Rok n m (.tup xs)) (h : n ≤ 64) {K : Bool → Prop} (k : K false) : cmpD .ne (.tup xs) (.tup xs) K := by
  have shp : D.shp (.tup xs) := by
    show (PyData.canLay0 _ && decide (PyData.depth _ ≤ 64)) = true
    rw [r.lay, decide_eq_true (Nat.le_trans r.depth h)]; rfl
  refine ⟨⟨shp, shp⟩, ?_⟩
  have e : D.eqv (.tup xs) (.tup xs) = true := SeqAt.eqv_refl _ r.lay
  rw [e]; exact k
theorem same_eq {xs : List D} {n m : Nat} (r : Rok n m (.tup xs)) (h : n ≤ 64) {K : Bool → Prop} (k : K true) : cmpD .eq (.tup xs) (.tup xs) K := by
  have shp : D.shp (.tup xs) := by
    show (PyData.canLay0 _ && decide (PyData.depth _ ≤ 64)) = true
    rw [r.lay, decide_eq_true (Nat.le_trans r.depth h)]; rfl
  refine ⟨⟨shp, shp⟩, ?_⟩
  have e : D.eqv (.tup xs) (.tup xs) = true := SeqAt.eqv_refl _ r.lay
  rw [e]; exact k

/-! what is at fault -/
theorem dsel_cd {ge : Bool} {n : Int} {L : List Int} {x : Int} : x ∈ dselL ge n (ddK L) ((ddK L).map fun k => (L.count k : Int)) ↔ x ∈ ddK L ∧ (if ge = true then n ≤ (L.count x : Int) else n < (L.count x : Int)) := by
  unfold dselL
  rw [List.mem_map]
  have zip : (ddK L).zip ((ddK L).map fun k => (L.count k : Int)) = (ddK L).map fun k => (k, (L.count k : Int)) := by
    generalize ddK L = l
    induction l with
    | nil => rfl
    | cons a r ih => rw [List.map_cons, List.zip_cons_cons, ih, List.map_cons]
  rw [zip]
  constructor
  · rintro ⟨p, hp, rfl⟩
    obtain ⟨h1, h2⟩ := List.mem_filter.mp hp
    obtain ⟨k, hk, rfl⟩ := List.mem_map.mp h1
    refine ⟨hk, ?_⟩
    cases ge <;> simpa using h2
  · rintro ⟨h1, h2⟩
    refine ⟨(x, (L.count x : Int)), List.mem_filter.mpr ⟨List.mem_map.mpr ⟨x, h1, rfl⟩, ?_⟩, rfl⟩
    cases ge <;> simpa using h2
theorem dsel_two {L : List Int} {x : Int} : (x ∈ dselL false 1 (ddK L) ((ddK L).map fun k => (L.count k : Int)) ↔ 2 ≤ L.count x) ∧ (x ∈ dselL true 2 (ddK L) ((ddK L).map fun k => (L.count k : Int)) ↔ 2 ≤ L.count x) := by
  have m : 2 ≤ L.count x → x ∈ ddK L := fun h => ((ddK_ok L).2.1 x).mpr (List.count_pos_iff.mp (by omega))
  rw [dsel_cd, dsel_cd]
  simp only [Bool.false_eq_true, if_false, if_true]
  exact ⟨⟨fun h => by omega, fun h => ⟨m h, by omega⟩⟩, ⟨fun h => by omega, fun h => ⟨m h, by omega⟩⟩⟩
theorem sumsR_rg {n : Int} {A B : List Int} (n1 : 1 ≤ n) {x : Int} (h : x ∈ sumsR n A B) : 0 ≤ x ∧ x < n := by
  obtain ⟨l, hl, hx⟩ := List.mem_flatten.mp h
  obtain ⟨a, _, rfl⟩ := List.mem_map.mp hl
  obtain ⟨b, _, rfl⟩ := List.mem_map.mp hx
  exact ⟨Int.emod_nonneg _ (by omega), Int.emod_lt_of_pos _ (by omega)⟩
inductive Fau (n : Int) (L : List Int) : D → Prop
  | twice (x : Int) (h : 2 ≤ L.count x) (l : ∀ y, 2 ≤ L.count y → x ≤ y) : Fau n L (.tup [.str "twice", .int x])
  | missing (nd : L.Nodup) (p : Nat) (h : ∀ q : Nat, q < p → (q : Int) ∈ L) (g : (p : Int) ∉ L) (pn : (p : Int) < n) : Fau n L (.tup [.str "missing", .int p])
  | none (nd : L.Nodup) (h : ∀ q : Nat, (q : Int) < n → (q : Int) ∈ L) : Fau n L .non
theorem nd_two {L : List Int} (h : L.Nodup) {x : Int} : ¬ 2 ≤ L.count x := fun z => by
  have := List.nodup_iff_count.mp h x
  omega
theorem nd_of {L : List Int} (h : ∀ x, ¬ 2 ≤ L.count x) : L.Nodup := List.nodup_iff_count.mpr fun x => by have := h x; omega
theorem Fau.uniq {n : Int} {L : List Int} {d e : D} (h : Fau n L d) (g : Fau n L e) : d = e := by
  cases h with
  | twice x h l =>
    cases g with
    | twice y h' l' =>
      have := l y h'
      have := l' x h
      obtain rfl : x = y := by omega
      rfl
    | missing nd _ _ _ _ => exact (nd_two nd h).elim
    | none nd _ => exact (nd_two nd h).elim
  | missing nd p h g' pn =>
    cases g with
    | twice y h' l' => exact (nd_two nd h').elim
    | missing nd' p' h' g2 pn' =>
      have e : p = p' := by
        rcases Nat.lt_trichotomy p p' with c | c | c
        · exact (g' (h' p c)).elim
        · exact c
        · exact (g2 (h p' c)).elim
      subst e; rfl
    | none nd' h' => exact (g' (h' p pn)).elim
  | none nd h =>
    cases g with
    | twice y h' l' => exact (nd_two nd h').elim
    | missing nd' p' h' g2 pn' => exact (g2 (h p' pn')).elim
    | none _ _ => rfl
/-- the least place that is missing -/
theorem least_gap {L : List Int} : ∃ p : Nat, p ≤ (ddK L).length ∧ (∀ q : Nat, q < p → (q : Int) ∈ L) ∧ (p : Int) ∉ L := by
  have ex : ∃ p : Nat, p ≤ (ddK L).length ∧ (p : Int) ∉ L := by
    apply Classical.byContradiction
    intro no
    have all : ∀ p : Nat, p ≤ (ddK L).length → (p : Int) ∈ ddK L := fun p hp => Classical.byContradiction fun z => no ⟨p, hp, fun q => z (((ddK_ok L).2.1 p).mpr q)⟩
    have nd : ((List.range ((ddK L).length + 1)).map Int.ofNat).Nodup := List.pairwise_map.mpr (List.nodup_range.imp fun {a b} h e => h (Int.ofNat.inj e))
    have := nd.length_le_of_subset (l₂ := ddK L) fun x hx => by
      obtain ⟨p, hp, rfl⟩ := List.mem_map.mp hx
      exact all p (by have := List.mem_range.mp hp; omega)
    rw [List.length_map, List.length_range] at this
    omega
  have gen : ∀ m p : Nat, p < m → (p : Int) ∉ L → ∃ p' : Nat, p' ≤ p ∧ (∀ q : Nat, q < p' → (q : Int) ∈ L) ∧ (p' : Int) ∉ L := fun m => by
    induction m with
    | zero => intro p h; omega
    | succ m ih =>
      intro p hp no
      by_cases z : ∃ q : Nat, q < p ∧ (q : Int) ∉ L
      · obtain ⟨q, q1, q2⟩ := z
        obtain ⟨p', h1, h2, h3⟩ := ih q (by omega) q2
        exact ⟨p', by omega, h2, h3⟩
      · exact ⟨p, Nat.le_refl _, fun q hq => Classical.byContradiction fun h => z ⟨q, hq, h⟩, no⟩
  obtain ⟨p, h1, h2⟩ := ex
  obtain ⟨p', a, b, c⟩ := gen (p + 1) p (by omega) h2
  exact ⟨p', by omega, b, c⟩
def Spleast_missing : SpD := fun ds K => ∃ (L : List Int), ds = [.dic (cdK L) (cdV L)] ∧ L.length ≤ 1000000 ∧ ∀ p : Nat, (∀ q : Nat, q < p → (q : Int) ∈ L) → (p : Int) ∉ L → p ≤ (ddK L).length → K (.int p)
theorem wpleast_missing (ds : List D) (Kk : D → Prop) (h : Spleast_missing ds Kk) : wpSs [] Cleast_missing (startD Tleast_missing.N.length ds) (endsD Kk) := by
  obtain ⟨L, rfl, ll, hK⟩ := h
  show wpSs [] Cleast_missing [.fz (.dic (cdK L) (cdV L)), .un] (endsD Kk)
  obtain ⟨p, h1, h2, h3⟩ := least_gap (L := L)
  have dl := (ddK_ok L).2.2.1
  have kl : (cdK L).length = (ddK L).length := by unfold cdK; rw [List.length_map]
  have fin := hK p h2 h3 h1
  unfold Cleast_missing
  walk_at "go"
  refine for_rng1 (((ddK L).length : Int) + 1) (fun K h1 h2 => by walk_at "go"; rw [kl]; first | exact h1 | exact h2) (by omega) (fun k ρ => k ≤ p ∧ ρ = [.fz (.dic (cdK L) (cdV L)), .un]) ⟨Nat.zero_le _, rfl⟩ (fun k ρ nxt bk hk q nn _ => ?_) (fun ρ q => ?_)
  · obtain ⟨kp, rfl⟩ := q
    refine ⟨by walk_at "go", ?_⟩
    show tgD (.one 1) (.int (k : Int)) _ _
    walk_at "go"
    unfold Cleast_missing_0
    walk_at "go"
    refine ⟨_, rfl, ?_⟩
    unfold cdK
    rw [kIn_inl]
    by_cases z : (k : Int) ∈ ddK L
    · rw [decide_eq_true z]
      have zl := ((ddK_ok L).2.1 _).mp z
      have ne : k ≠ p := fun e => h3 (e ▸ zl)
      dsimp only
      rw [if_neg (by decide)]
      walk_at "go"
      exact nn _ ⟨by omega, rfl⟩
    · rw [decide_eq_false z]
      have zl : (k : Int) ∉ L := fun q => z (((ddK_ok L).2.1 _).mpr q)
      have e : k = p := by
        rcases Nat.lt_or_eq_of_le kp with c | c
        · exact (zl (h2 k c)).elim
        · exact c
      subst e
      dsimp only
      rw [if_pos (by decide)]
      exact fin
  · obtain ⟨kp, rfl⟩ := q
    omega
def Spfault_of : SpD := fun ds K => ∃ (n : Int) (A B : List Int), ds = [.int n, .lst (A.map .int), .lst (B.map .int)] ∧ (1 ≤ n ∧ A.length * B.length ≤ 1000000) ∧ ∀ d, Fau n (sumsR n A B) d → K d
theorem wpfault_of (ds : List D) (Kk : D → Prop) (h : Spfault_of ds Kk) : wpSs [Spremainders_of_sums, Spleast_missing] Cfault_of (startD Tfault_of.N.length ds) (endsD Kk) := by
  obtain ⟨n, A, B, rfl, ⟨n1, lm⟩, hK⟩ := h
  show wpSs [Spremainders_of_sums, Spleast_missing] Cfault_of [.fz (.int n), .fz (.lst (A.map .int)), .fz (.lst (B.map .int)), .un, .un, .un] (endsD Kk)
  unfold Cfault_of
  walk_at "go"
  refine ⟨n, A, B, rfl, ⟨n1, lm⟩, ?_⟩
  have sl := sumsR_len (n := n) (A := A) (B := B)
  have rg := fun x => sumsR_rg (n := n) (A := A) (B := B) n1 (x := x)
  generalize sumsR n A B = L at *
  have ok := ddK_ok L
  walk_at "go"
  refine ⟨ddK L, (ddK L).map fun k => (L.count k : Int), rfl, by rw [List.length_map], ok.1, by rw [sizeLine_eq]; omega, fun j hj => by revert j; walk_at "go", ?_⟩
  have two := fun x => (dsel_two (L := L) (x := x)).1
  generalize dselL false 1 (ddK L) ((ddK L).map fun k => (L.count k : Int)) = T at *
  walk_at "go"
  by_cases z : T = []
  · subst z
    have nd : L.Nodup := nd_of fun x h => by have := (two x).mpr h; cases this
    rw [if_neg (by simp), show mkCell (D.dic (cdK L) (cdV L)) .deep = .dp (.dic (cdK L) (cdV L)) from rfl]
    walk_at "go"
    have kl : (cdK L).length = L.length := by unfold cdK; rw [List.length_map]; exact ok.2.2.2.mpr nd
    rw [kl]
    by_cases c : (L.length : Int) < n
    · rw [if_pos c]
      refine ⟨L, rfl, by omega, fun p h1 h2 h3 => ?_⟩
      have := ok.2.2.1
      walk_at "go"
      exact hK _ (.missing nd p h1 h2 (by omega))
    · rw [if_neg c]
      walk_at "go"
      refine hK _ (.none nd fun q hq => Classical.byContradiction fun no => ?_)
      have := (List.nodup_cons.mpr ⟨no, nd⟩).length_le_of_subset (l₂ := rgI 0 n) fun x hx => by
        rcases List.mem_cons.mp hx with rfl | hx
        · exact mem_rgI.mpr ⟨by omega, hq⟩
        · exact mem_rgI.mpr (rg x hx)
      rw [rgI_len, List.length_cons] at this
      omega
  · have tp := List.length_pos_iff.mpr z
    rw [if_pos (by omega)]
    refine ⟨z, fun m h1 h2 => ?_⟩
    walk_at "go"
    exact hK _ (.twice m ((two m).mp h1) fun y hy => h2 y ((two y).mpr hy))

def Sp_law_tagged : SpD := fun ds K => ∃ (s t : Str) (x : Int), ds = [.tup [.str s, .int x], .str t, .int 2] ∧ K (.bl (decide (s = t)))
theorem wp_law_tagged (ds : List D) (Kk : D → Prop) (h : Sp_law_tagged ds Kk) : wpSs [] C_law_tagged (startD T_law_tagged.N.length ds) (endsD Kk) := by
  obtain ⟨s, t, x, rfl, hK⟩ := h
  show wpSs [] C_law_tagged [.fz (.tup [.str s, .int x]), .fz (.str t), .fz (.int 2)] (endsD Kk)
  have a0 : L2.atI [D.str s, D.int x] 0 = some (.str s) := rfl
  unfold C_law_tagged
  walk_at "go"
  refine ⟨_, a0, ?_⟩
  walk_at "go"
  exact hK
def Sp_law_due : SpD := fun ds K => ∃ (n : Int) (A B : List Int), ds = [.int n, .lst (A.map .int), .lst (B.map .int)] ∧ (1 ≤ n ∧ n ≤ 1000000 ∧ A.length * B.length ≤ 1000000 ∧ A.length ≤ 1000000 ∧ B.length ≤ 1000000) ∧ ∀ d, Fau n (sumsR n A B) d → K d
theorem wp_law_due (ds : List D) (Kk : D → Prop) (h : Sp_law_due ds Kk) : wpSs [] C_law_due (startD T_law_due.N.length ds) (endsD Kk) := by
  obtain ⟨n, A, B, rfl, ⟨n1, n2, lm, la, lb⟩, hK⟩ := h
  show wpSs [] C_law_due [.fz (.int n), .fz (.lst (A.map .int)), .fz (.lst (B.map .int)), .un, .un, .un, .un, .un] (endsD Kk)
  unfold C_law_due
  walk_at "go"
  refine for_open rfl ?_
  walk_at "go"
  refine forD_inv (fun i ρ => ρ = [.fz (.int n), .fz (.lst (A.map .int)), .fz (.lst (B.map .int)), .dp (.dic (cdK (sumsR n (A.take i) B)) (cdV (sumsR n (A.take i) B))), .un, .un, .un, .un]) rfl (fun i x ρ nxt bk hx q nn _ => ?_) (fun ρ q => ?_)
  · subst q
    obtain ⟨a, ha, rfl⟩ := map_get hx
    have hi := (List.getElem?_eq_some_iff.mp ha).1
    refine ⟨by walk_at "go", ?_⟩
    show tgD (.one 4) (.int a) _ _
    rw [← sumsT_0 (a := a)]
    walk_at "go"
    unfold C_law_due_1
    walk_at "go"
    refine for_open rfl ?_
    walk_at "go"
    refine forD_inv (fun j ρ => ρ = [.fz (.int n), .fz (.lst (A.map .int)), .fz (.lst (B.map .int)), .dp (.dic (cdK (sumsT n A B i a j)) (cdV (sumsT n A B i a j))), .fz (.int a), .un, .un, .un]) rfl (fun j x ρ nxt1 bk1 hx1 q nn1 _ => ?_) (fun ρ q => ?_)
    · subst q
      obtain ⟨b, hb, rfl⟩ := map_get hx1
      have hj := (List.getElem?_eq_some_iff.mp hb).1
      have tl := sumsT_len (n := n) (a := a) hi (Nat.le_of_lt hj)
      have dl := (ddK_ok (sumsT n A B i a j)).2.2.1
      refine ⟨by walk_at "go", ?_⟩
      show tgD (.one 5) (.int b) _ _
      walk_at "go"
      unfold C_law_due_0
      walk_at "go"
      refine ⟨_, rfl, immL_ints, rfl, ?_⟩
      rw [cd_get]
      walk_at "go"
      refine ⟨_, rfl, by unfold cdK; rw [List.length_map, sizeLine_eq]; omega, immL_ints, rfl, ?_⟩
      rw [cd_putV, cd_putK, sumsT_succ hb]
      walk_at "go"
      exact nn1 _ rfl
    · subst q
      rw [List.length_map, sumsT_end ha]
      show rest _ _ _ _
      walk_at "go"
      exact nn _ rfl
  · subst q
    rw [List.length_map, List.take_length]
    show rest _ _ _ _
    have sl := sumsR_len (n := n) (A := A) (B := B)
    have rg := fun x => sumsR_rg (n := n) (A := A) (B := B) n1 (x := x)
    generalize sumsR n A B = L at *
    have ok := ddK_ok L
    walk_at "go"
    refine ⟨ddK L, (ddK L).map fun k => (L.count k : Int), rfl, by rw [List.length_map], ok.1, by rw [sizeLine_eq]; omega, fun j hj => by revert j; walk_at "go", ?_⟩
    have two := fun x => (dsel_two (L := L) (x := x)).2
    generalize dselL true 2 (ddK L) ((ddK L).map fun k => (L.count k : Int)) = T at *
    walk_at "go"
    by_cases z : isort T = []
    · have nd : L.Nodup := nd_of fun x h => by
        have h1 := mem_isort.mpr ((two x).mpr h)
        rw [z] at h1; cases h1
      rw [z, if_neg (by simp)]
      clear z
      generalize hM : min n ((A.length : Int) * B.length + 1) = M
      have hm : ((A.length * B.length : Nat) : Int) = (A.length : Int) * B.length := Int.natCast_mul ..
      walk_at "go"
      refine for_rng1 M (fun K h1 h2 => by walk_at "go"; rw [hM]; first | exact h1 | exact h2) (by omega) (fun k ρ => (∀ q : Nat, q < k → (q : Int) ∈ L) ∧ ρ = [.fz (.int n), .fz (.lst (A.map .int)), .fz (.lst (B.map .int)), .dp (.dic (cdK L) (cdV L)), .un, .un, .un, .un]) ⟨fun q h => by omega, rfl⟩ (fun k ρ nxt bk hk q nn _ => ?_) (fun ρ q => ?_)
      · obtain ⟨all, rfl⟩ := q
        refine ⟨by walk_at "go", ?_⟩
        show tgD (.one 6) (.int (k : Int)) _ _
        walk_at "go"
        unfold C_law_due_2
        walk_at "go"
        refine ⟨_, rfl, ?_⟩
        unfold cdK
        rw [kIn_inl]
        by_cases z : (k : Int) ∈ ddK L
        · rw [decide_eq_true z]
          have zl := (ok.2.1 _).mp z
          dsimp only
          rw [if_neg (by decide)]
          walk_at "go"
          refine nn _ ⟨fun q hq => ?_, rfl⟩
          rcases Nat.lt_or_eq_of_le (Nat.le_of_lt_succ hq) with c | c
          · exact all q c
          · subst c; exact zl
        · rw [decide_eq_false z]
          have zl : (k : Int) ∉ L := fun q => z ((ok.2.1 _).mpr q)
          dsimp only
          rw [if_pos (by decide)]
          walk_at "go"
          exact hK _ (.missing nd k all zl (by omega))
      · obtain ⟨all, rfl⟩ := q
        show rest _ _ _ _
        walk_at "go"
        refine hK _ (.none nd fun q hq => ?_)
        obtain ⟨p, p1, p2, p3⟩ := least_gap (L := L)
        have := ok.2.2.1
        by_cases c : q < M.toNat
        · exact all q c
        · exact (p3 (all p (by omega))).elim
    · rw [if_pos z]
      obtain ⟨x, r, e⟩ : ∃ x r, isort T = x :: r := by
        cases h : isort T with
        | nil => exact (z h).elim
        | cons x r => exact ⟨x, r, rfl⟩
      have pw := isort_pw (xs := T)
      rw [e] at pw ⊢
      refine ⟨x, show L2.atI (x :: r) ((0 : Nat) : Int) = some x from atI_nat rfl, by rw [sizeLine_eq]; omega, ?_⟩
      have mx : x ∈ T := mem_isort.mp (e ▸ List.mem_cons_self)
      refine hK _ (.twice x ((two x).mp mx) fun y hy => ?_)
      have my : y ∈ isort T := mem_isort.mpr ((two y).mpr hy)
      rw [e] at my
      rcases List.mem_cons.mp my with rfl | my
      · exact Int.le_refl _
      · exact (List.pairwise_cons.mp pw).1 y my

/-! the answers agree -/
theorem Fau.fac {n : Int} {A B : List Int} {d : D} (n1 : 1 ≤ n) (h : Fau n (sumsR n A B) d) : facV n A (.lst (B.map .int)) = d.isNon := by
  have sl := sumsR_len (n := n) (A := A) (B := B)
  have rg := fun x => sumsR_rg (n := n) (A := A) (B := B) n1 (x := x)
  have hm : ((A.length * B.length : Nat) : Int) = (A.length : Int) * B.length := Int.natCast_mul ..
  cases h with
  | twice x h l => exact facV_f fun z => nd_two (facV_l.mp z).2 h
  | missing nd p h g pn =>
    refine facV_f fun z => ?_
    have e := (facV_l.mp z).1
    have := (List.nodup_cons.mpr ⟨g, nd⟩).length_le_of_subset (l₂ := rgI 0 n) fun x hx => by
      rcases List.mem_cons.mp hx with rfl | hx
      · exact mem_rgI.mpr ⟨by omega, pn⟩
      · exact mem_rgI.mpr (rg x hx)
    rw [rgI_len, List.length_cons] at this
    omega
  | none nd h =>
    refine facV_t (facV_l.mpr ⟨?_, nd⟩)
    have l1 := nd.length_le_of_subset (l₂ := rgI 0 n) fun x hx => mem_rgI.mpr (rg x hx)
    have l2 := (show (rgI 0 n).Nodup from rgI_pw.imp fun {a b} h => Int.ne_of_lt h).length_le_of_subset (l₂ := sumsR n A B) fun x hx => by
      obtain ⟨x0, x1⟩ := mem_rgI.mp hx
      have := h x.toNat (by omega)
      rwa [show ((x.toNat : Nat) : Int) = x by omega] at this
    rw [rgI_len] at l1 l2
    omega
theorem Fau.gq {n : Int} {A B : List Int} {d : D} (n1 : 1 ≤ n) (n2 : n ≤ 1000000) (h : Fau n (sumsR n A B) d) : Gq 1 d := by
  have tw : Gq 0 (.str "twice") := .str (by decide +kernel) (by decide +kernel)
  have ms : Gq 0 (.str "missing") := .str (by decide +kernel) (by decide +kernel)
  cases h with
  | twice x h l =>
    have m := sumsR_rg n1 (List.count_pos_iff.mp (show 0 < (sumsR n A B).count x by omega))
    refine .tup (fun y hy => ?_) (show 2 ≤ 80 by decide)
    rcases List.mem_cons.mp hy with rfl | hy
    · exact tw
    · rw [List.mem_singleton] at hy; subst hy; exact .int (by omega)
  | missing nd p h g pn =>
    refine .tup (fun y hy => ?_) (show 2 ≤ 80 by decide)
    rcases List.mem_cons.mp hy with rfl | hy
    · exact ms
    · rw [List.mem_singleton] at hy; subst hy; exact .int (by omega)
  | none => exact .non
structure Sz (n : Int) (A B : List Int) : Prop where
  n1 : 1 ≤ n
  n2 : n ≤ 1000000
  la : A.length ≤ 100
  lb : B.length ≤ 100
  ba : ∀ x ∈ A, x.natAbs < 10 ^ 51
  bb : ∀ x ∈ B, x.natAbs < 10 ^ 51
theorem Sz.mul {n : Int} {A B : List Int} (h : Sz n A B) : A.length * B.length ≤ 10000 := Nat.mul_le_mul h.la h.lb
theorem Sz.gk {n : Int} {A B : List Int} (h : Sz n A B) : Gk (.lst (B.map .int)) := ⟨0, .inr ⟨_, rfl, fun x hx => by obtain ⟨i, hi, rfl⟩ := List.mem_map.mp hx; exact .int (h.bb i hi)⟩⟩
def Sp_law_told : SpD := fun ds K => ∃ (n : Int) (A B : List Int), ds = [.int n, .lst (A.map .int), .lst (B.map .int)] ∧ Sz n A B ∧ K (.bl true)
theorem wp_law_told (ds : List D) (Kk : D → Prop) (h : Sp_law_told ds Kk) : wpSs [Sp_law_due, Spfault_of, Sp_law_is_number, Sp_law_tagged, Spis_factoring] C_law_told (startD T_law_told.N.length ds) (endsD Kk) := by
  obtain ⟨n, A, B, rfl, sz, hK⟩ := h
  obtain ⟨n1, n2, la, lb, ba, bb⟩ := id sz
  have lm := sz.mul
  show wpSs [Sp_law_due, Spfault_of, Sp_law_is_number, Sp_law_tagged, Spis_factoring] C_law_told [.fz (.int n), .fz (.lst (A.map .int)), .fz (.lst (B.map .int)), .un, .un, .un, .un] (endsD Kk)
  unfold C_law_told
  walk_at "go"
  refine ⟨n, A, B, rfl, ⟨n1, n2, by omega, by omega, by omega⟩, fun d hd => ?_⟩
  have tl := ddK_ok (sumsR n A B)
  have fc := hd.fac n1
  have gq := hd.gq n1 n2
  have un := fun e => hd.uniq (e := e)
  have sh : (∃ s x, d = .tup [.str s, .int x]) ∨ d = .non := by
    cases hd with
    | twice x h l => exact .inl ⟨_, _, rfl⟩
    | missing nd p h g pn => exact .inl ⟨_, _, rfl⟩
    | none nd h => exact .inr rfl
  clear hd
  have a0 : L2.atI [D.lst (A.map .int), D.lst (B.map .int)] 0 = some (.lst (A.map .int)) := rfl
  have a1 : L2.atI [D.lst (A.map .int), D.lst (B.map .int)] 1 = some (.lst (B.map .int)) := rfl
  rcases sh with ⟨s, x, rfl⟩ | rfl
  · have gx : Gq 0 (.int x) := by
      cases gq with
      | tup h l => exact h _ (List.mem_cons_of_mem _ List.mem_cons_self)
    walk_at "go"
    refine for_rng1 2 (fun K h1 h2 => h2) (by omega) (fun k ρ => ρ = [.fz (.int n), .fz (.lst (A.map .int)), .fz (.lst (B.map .int)), .fz (.tup [.str s, .int x]), .dp (.lst [.lst (A.map .int), .lst (B.map .int)]), .un, .un]) rfl (fun k ρ nxt bk hk q nn _ => ?_) (fun ρ q => ?_)
    · subst q
      refine ⟨by walk_at "go", ?_⟩
      show tgD (.one 5) (.int (k : Int)) _ _
      walk_at "go"
      unfold C_law_told_0
      walk_at "go"
      refine ⟨n, A, B, rfl, ⟨n1, by omega⟩, fun e he => ?_⟩
      rw [← un e he]
      walk_at "go"
      refine ⟨s, s, x, rfl, ?_⟩
      rw [decide_eq_true rfl]
      walk_at "go"
      refine ⟨.int x, rfl, ⟨0, gx⟩, ?_⟩
      rw [show numB (.int x) = true from rfl]
      walk_at "go"
      refine same_ne gq.rok (by decide) ?_
      rw [if_neg (by decide)]
      walk_at "go"
      exact nn _ rfl
    · subst q
      show rest _ _ _ _
      walk_at "go"
      refine ⟨n, A, .lst (B.map .int), rfl, ⟨n1, n2, by omega, sz.gk, fun xs e => by cases e; rw [List.length_map]; omega⟩, ?_⟩
      rw [fc]
      walk_at "go"
      exact hK
  · walk_at "go"
    refine for_rng1 2 (fun K h1 h2 => h2) (by omega) (fun k ρ => ρ = [.fz (.int n), .fz (.lst (A.map .int)), .fz (.lst (B.map .int)), .fz (.non), .dp (.lst [.lst (A.map .int), .lst (B.map .int)]), .un, .un]) rfl (fun k ρ nxt bk hk q nn _ => ?_) (fun ρ q => ?_)
    · subst q
      refine ⟨by walk_at "go", ?_⟩
      show tgD (.one 5) (.int (k : Int)) _ _
      walk_at "go"
      unfold C_law_told_0
      walk_at "go"
      refine ⟨n, A, B, rfl, ⟨n1, by omega⟩, fun e he => ?_⟩
      rw [← un e he]
      walk_at "go"
      exact nn _ rfl
    · subst q
      show rest _ _ _ _
      walk_at "go"
      refine ⟨n, A, .lst (B.map .int), rfl, ⟨n1, n2, by omega, sz.gk, fun xs e => by cases e; rw [List.length_map]; omega⟩, ?_⟩
      rw [fc]
      walk_at "go"
      exact hK

def Sp_law_draws : SpD := fun ds K => ∃ (ns : List Int) (many : Nat), ds = [.fro (ns.map .int), .int many] ∧ many ≤ 10000 ∧ ∀ ms : List Int, ms.length = many → (∀ x ∈ ms, 0 ≤ x ∧ x < 1000003) → K (.lst (ms.map .int))
def DrIn (fs : List Int) : Prop := ∀ x ∈ fs, 0 ≤ x ∧ x < 1000003
theorem DrIn.add {fs : List Int} (h : DrIn fs) {x : Int} (h1 : 0 ≤ x) (h2 : x < 1000003) : DrIn (fs ++ [x]) := fun y hy => by
  rcases List.mem_append.mp hy with hy | hy
  · exact h y hy
  · rw [List.mem_singleton] at hy; subst hy; exact ⟨h1, h2⟩
theorem draws_0 {ns : List Int} {many : Nat} {fs : List Int} {a : Nat} {nxt bk ct : Pl → Prop} {rt : D → Lv → Prop} (hl : fs.length ≤ 100000) (hd : DrIn fs)
    (n : ∀ (gs : List Int) (b : Nat), gs.length ≤ fs.length + 60 → DrIn gs → nxt [.fz (.fro (ns.map .int)), .fz (.int many), .dp (.lst (gs.map .int)), .un, .fz (.int b), .un, .un, .un]) :
    forS [] (.one 5) (.rng1 (.num 60)) C_law_draws_0 [.fz (.fro (ns.map .int)), .fz (.int many), .dp (.lst (fs.map .int)), .un, .fz (.int a), .un, .un, .un] { nx := nxt, rt := rt, bk := bk, ct := ct } := by
  refine for_rng1 60 (fun K h1 h2 => h2) (by omega) (fun k ρ => ∃ (gs : List Int) (b : Nat), ρ = [.fz (.fro (ns.map .int)), .fz (.int many), .dp (.lst (gs.map .int)), .un, .fz (.int b), .un, .un, .un] ∧ gs.length ≤ fs.length + k ∧ DrIn gs)
    ⟨fs, a, rfl, by omega, hd⟩ (fun k ρ nx' bk' hk q n' b' => ?_) (fun ρ q => ?_)
  · obtain ⟨gs, b, rfl, hl', hd'⟩ := q
    unfold C_law_draws_0
    walk_at "go"
    split
    · walk_at "go"
      refine n' _ ⟨gs ++ [(b : Int) % 1000003], ((b : Int) / 1000003).toNat, ?_, by rw [List.length_append]; simp; omega, hd'.add (by omega) (by omega)⟩
      have : (((b : Int) / 1000003).toNat : Int) = (b : Int) / 1000003 := by omega
      rw [this]
    · walk_at "go"
      exact n' _ ⟨gs, b, rfl, by omega, hd'⟩
  · obtain ⟨gs, b, rfl, hl', hd'⟩ := q
    exact n gs b hl' hd'
theorem draws_1 {ns : List Int} {many : Nat} {fs : List Int} {a : Int} {nxt bk ct : Pl → Prop} {rt : D → Lv → Prop} (hl : fs.length ≤ 100000) (hd : DrIn fs) (ha : 0 ≤ a ∧ a < 2147483648)
    (n : ∀ (gs : List Int) (b : Int), gs.length ≤ fs.length + 60 → DrIn gs → nxt [.fz (.fro (ns.map .int)), .fz (.int many), .dp (.lst (gs.map .int)), .un, .un, .un, .fz (.int b), .un]) :
    forS [] (.one 5) (.rng1 (.num 4)) C_law_draws_1 [.fz (.fro (ns.map .int)), .fz (.int many), .dp (.lst (fs.map .int)), .un, .un, .un, .fz (.int a), .un] { nx := nxt, rt := rt, bk := bk, ct := ct } := by
  refine for_rng1 4 (fun K h1 h2 => h2) (by omega) (fun k ρ => ∃ (gs : List Int) (b : Int), ρ = [.fz (.fro (ns.map .int)), .fz (.int many), .dp (.lst (gs.map .int)), .un, .un, .un, .fz (.int b), .un] ∧ gs.length ≤ fs.length + k ∧ DrIn gs ∧ 0 ≤ b ∧ b < 2147483648)
    ⟨fs, a, rfl, by omega, hd, ha⟩ (fun k ρ nx' bk' hk q n' b' => ?_) (fun ρ q => ?_)
  · obtain ⟨gs, b, rfl, hl', hd', hb0, hb1⟩ := q
    unfold C_law_draws_1
    walk_at "go"
    exact n' _ ⟨_, _, rfl, by rw [List.length_append]; simp; omega, hd'.add (by omega) (by omega), by omega, by omega⟩
  · obtain ⟨gs, b, rfl, hl', hd', _⟩ := q
    exact n gs b (by omega) hd'
theorem wp_law_draws (ds : List D) (Kk : D → Prop) (h : Sp_law_draws ds Kk) : wpSs [] C_law_draws (startD T_law_draws.N.length ds) (endsD Kk) := by
  obtain ⟨ns, many, rfl, hm, hK⟩ := h
  show wpSs [] C_law_draws [.fz (.fro (ns.map .int)), .fz (.int many), .un, .un, .un, .un, .un, .un] (endsD Kk)
  unfold C_law_draws
  walk_at "go"
  have hl63 : (cut ns none (some 63)).length ≤ 63 := by rw [cut_to (by decide), List.length_take]; omega
  refine for_col ((cut ns none (some 63)).map .int) [.fz (.fro (ns.map .int)), .fz (.int many), .dp (.lst []), .un, .un, .un, .un, .un] rfl (fun K hK => ?_)
    (fun k ρ => ∃ fs : List Int, ρ = [.fz (.fro (ns.map .int)), .fz (.int many), .dp (.lst (fs.map .int)), .un, .un, .un, .un, .un] ∧ fs.length ≤ 60 * k ∧ DrIn fs) ⟨[], rfl, Nat.le_refl _, fun _ h => absurd h List.not_mem_nil⟩ (fun k x ρ nxt bk hx q n b => ?_) (fun ρ q => ?_)
  · walk_at "go"
    exact hK _
  · obtain ⟨fs, rfl, hl, hd⟩ := q
    obtain ⟨c, hc, rfl⟩ := map_get hx
    have hk : k < 63 := by
      have := (List.getElem?_eq_some_iff.mp hc).1
      omega
    unfold C_law_draws_2
    walk_at "go"
    split
    · refine draws_0 (by omega) hd fun gs b h1 h2 => ?_
      walk_at "go"
      exact n _ ⟨gs, rfl, by omega, h2⟩
    · next hc' =>
      walk_at "go"
      refine draws_1 (by omega) hd (by omega) fun gs b h1 h2 => ?_
      walk_at "go"
      exact n _ ⟨gs, rfl, by omega, h2⟩
  · obtain ⟨fs, rfl, hl, hd⟩ := q
    rw [List.length_map] at hl
    walk_at "go"
    refine for_rng1 many (fun K h1 h2 => h1) (by omega) (fun k ρ => ∃ gs : List Int, ρ = [.fz (.fro (ns.map .int)), .fz (.int many), .dp (.lst (gs.map .int)), .un, .un, .un, .un, .un] ∧ gs.length ≤ 63 * 60 + k ∧ min k many ≤ gs.length ∧ DrIn gs)
      ⟨fs, rfl, by omega, by omega, hd⟩ (fun k ρ nxt bk hk q n b => ?_) (fun ρ q => ?_)
    · obtain ⟨gs, rfl, h1, h2, hd⟩ := q
      unfold C_law_draws_3
      walk_at "go"
      split
      · walk_at "go"
        split
        · walk_at "go"
          obtain ⟨x, hx, hx'⟩ := atI_int (xs := gs) (i := (k : Int) % (gs.length : Int)) (Int.emod_nonneg _ (by omega)) (Int.emod_lt_of_pos _ (by omega))
          have hm := hd x (List.mem_of_getElem? hx)
          refine ⟨x, hx', ?_⟩
          walk_at "go"
          exact n _ ⟨_, rfl, by rw [List.length_append]; simp; omega, by rw [List.length_append]; simp; omega, hd.add (by omega) (by omega)⟩
        · walk_at "go"
          exact n _ ⟨_, rfl, by rw [List.length_append]; simp; omega, by rw [List.length_append]; simp; omega, hd.add (by omega) (by omega)⟩
      · walk_at "go"
        exact n _ ⟨_, rfl, by omega, by omega, hd⟩
    · obtain ⟨gs, rfl, h1, h2, hd⟩ := q
      walk_at "go"
      rw [cut_to (by omega)]
      exact hK _ (by rw [List.length_take]; omega) (fun x hx => hd x (List.mem_of_mem_take hx))

theorem draw {ms : List Int} {many : Nat} (ml : ms.length = many) (hd : DrIn ms) (k : Nat) (h : k < many) : ∃ x, L2.atI ms (k : Int) = some x ∧ 0 ≤ x ∧ x < 1000003 := by
  obtain ⟨x, e, h'⟩ := atI_int (xs := ms) (i := (k : Int)) (by omega) (by omega)
  have := hd x (List.mem_of_getElem? e)
  exact ⟨x, h', this⟩

/-! drawn lists -/
def Sp_law_put : SpD := fun ds K => ∃ (P : List Int) (i : Nat) (x : Int), ds = [.lst (P.map .int), .int i, .int x] ∧ (P.length ≤ 1000000 ∧ i ≤ 1000000) ∧ K (.lst ((P.take i ++ [x] ++ P.drop (i + 1)).map .int))
theorem wp_law_put (ds : List D) (Kk : D → Prop) (h : Sp_law_put ds Kk) : wpSs [] C_law_put (startD T_law_put.N.length ds) (endsD Kk) := by
  obtain ⟨P, i, x, rfl, ⟨pl, hi⟩, hK⟩ := h
  show wpSs [] C_law_put [.fz (.lst (P.map .int)), .fz (.int i), .fz (.int x)] (endsD Kk)
  have c1 := (cut_subl (xs := P) (lo := none) (hi := some (i : Int))).length_le
  have c2 := (cut_subl (xs := P) (lo := some ((i : Int) + 1)) (hi := none)).length_le
  have e1 : cut P none (some (i : Int)) = P.take i := by rw [cut_to (by omega), Int.toNat_natCast]
  have e2 : cut P (some ((i : Int) + 1)) none = P.drop (i + 1) := by rw [cut_from (by omega), show ((i : Int) + 1).toNat = i + 1 by omega]
  unfold C_law_put
  walk_at "go"
  rw [e1, e2]
  exact hK
def Sp_law_free : SpD := fun ds K => ∃ (ms : List Int) (i : Nat) (M : Int), ds = [.lst (ms.map .int), .int i, .int M] ∧ (DrIn ms ∧ ms.length = 60 ∧ i ≤ 50 ∧ 0 ≤ M ∧ M ≤ 1000000000000) ∧ ∀ R : List Int, 1 ≤ R.length → R.length ≤ 8 → (∀ x ∈ R, x.natAbs < 10 ^ 51) → K (.lst (R.map .int))
theorem wp_law_free (ds : List D) (Kk : D → Prop) (h : Sp_law_free ds Kk) : wpSs [] C_law_free (startD T_law_free.N.length ds) (endsD Kk) := by
  obtain ⟨ms, i, M, rfl, ⟨hD, ml, hi, m0, m1⟩, hK⟩ := h
  show wpSs [] C_law_free [.fz (.lst (ms.map .int)), .fz (.int i), .fz (.int M), .un, .un] (endsD Kk)
  obtain ⟨y, hy, y0, y1⟩ := draw ml hD i (by omega)
  unfold C_law_free
  walk_at "go"
  refine for_rng1 (1 + y % 8) (fun K h1 h2 => by walk_at "go"; refine ⟨_, hy, ?_⟩; walk_at "go"; first | exact h1 | exact h2) (by omega) (fun k ρ => ∃ R : List Int, R.length = k ∧ (∀ x ∈ R, x.natAbs < 10 ^ 51) ∧ ρ = [.fz (.lst (ms.map .int)), .fz (.int i), .fz (.int M), .dp (.lst (R.map .int)), .un]) ⟨[], rfl, fun x h => (by cases h), rfl⟩ (fun k ρ nxt bk hk q nn _ => ?_) (fun ρ q => ?_)
  · obtain ⟨R, rl, rb, rfl⟩ := q
    refine ⟨by walk_at "go", ?_⟩
    show tgD (.one 4) (.int (k : Int)) _ _
    obtain ⟨z, hz, z0, z1⟩ := draw ml hD (i + 1 + k) (by omega)
    have hz : L2.atI ms ((i : Int) + 1 + k) = some z := by
      have e : (i : Int) + 1 + k = ((i + 1 + k : Nat) : Int) := by omega
      rw [e]; exact hz
    walk_at "go"
    unfold C_law_free_0
    walk_at "go"
    refine ⟨z, hz, ?_⟩
    walk_at "go"
    refine ⟨_, hy, ?_⟩
    walk_at "go"
    have p0 := Int.emod_nonneg (z * 1000003 + y) (b := 2 * M + 1) (by omega)
    have p1 := Int.emod_lt_of_pos (z * 1000003 + y) (b := 2 * M + 1) (by omega)
    refine nn _ ⟨R ++ [(z * 1000003 + y) % (2 * M + 1) - M], by rw [List.length_append, rl]; rfl, fun x hx => ?_, rfl⟩
    rcases List.mem_append.mp hx with hx | hx
    · exact rb x hx
    · rw [List.mem_singleton] at hx; omega
  · obtain ⟨R, rl, rb, rfl⟩ := q
    show rest _ _ _ _
    walk_at "go"
    exact hK R (by omega) (by omega) rb
def gF (a : Nat) : List Int := rgI 0 (a : Int)
def gS (a b : Nat) : List Int := (rgI 0 (b : Int)).map fun k => (a : Int) * k
theorem gF_len {a : Nat} : (gF a).length = a := by unfold gF; rw [rgI_len]; omega
theorem gS_len {a b : Nat} : (gS a b).length = b := by unfold gS; rw [List.length_map, rgI_len]; omega
def Sp_law_great : SpD := fun ds K => ∃ (ms : List Int), ds = [.lst (ms.map .int)] ∧ (DrIn ms ∧ ms.length = 60) ∧ K (.bl true)
theorem wp_law_great (ds : List D) (Kk : D → Prop) (h : Sp_law_great ds Kk) : wpSs [Sp_law_told] C_law_great (startD T_law_great.N.length ds) (endsD Kk) := by
  obtain ⟨ms, rfl, ⟨hD, ml⟩, hK⟩ := h
  obtain ⟨x40, h40, a40, c40⟩ := draw ml hD 40 (by decide)
  obtain ⟨x41, h41, a41, c41⟩ := draw ml hD 41 (by decide)
  obtain ⟨x42, h42, a42, c42⟩ := draw ml hD 42 (by decide)
  obtain ⟨x43, h43, a43, c43⟩ := draw ml hD 43 (by decide)
  obtain ⟨x44, h44, a44, c44⟩ := draw ml hD 44 (by decide)
  show wpSs [Sp_law_told] C_law_great [.fz (.lst (ms.map .int)), .un, .un, .un, .un, .un, .un, .un] (endsD Kk)
  unfold C_law_great
  walk_at "go"
  refine ⟨x40, h40, ?_⟩
  walk_at "go"
  refine ⟨x41, h41, ?_⟩
  walk_at "go"
  obtain ⟨a, ea⟩ : ∃ a : Nat, 1 + x40 % 60 = a := ⟨(1 + x40 % 60).toNat, by omega⟩
  obtain ⟨b, eb⟩ : ∃ b : Nat, 1 + x41 % 60 = b := ⟨(1 + x41 % 60).toNat, by omega⟩
  have ha : 1 ≤ a ∧ a ≤ 60 := by omega
  have hb : 1 ≤ b ∧ b ≤ 60 := by omega
  rw [ea, eb]
  have ab : a * b ≤ 60 * 60 := Nat.mul_le_mul ha.2 hb.2
  have ab1 : 1 ≤ a * b := Nat.mul_pos ha.1 hb.1
  have abz : ((a * b : Nat) : Int) = (a : Int) * b := Int.natCast_mul ..
  refine lcM (rgI 0 (a : Int)) .int (fun x => x) .int (fun Q hQ => by walk_at "go"; exact hQ) (fun i hi => by revert i; walk_at "go") (by rw [rgI_len, sizeLine_eq]; omega) (fun x hx kd h1 => ?_) ?_
  · walk_at "go"
    exact h1 _ _ _ rfl (.inl rfl)
  rw [List.map_id' (rgI 0 (a : Int)), show rgI 0 (a : Int) = gF a from rfl]
  walk_at "go"
  refine lcM (rgI 0 (b : Int)) .int (fun k => (a : Int) * k) .int (fun Q hQ => by walk_at "go"; exact hQ) (fun i hi => by revert i; walk_at "go") (by rw [rgI_len, sizeLine_eq]; omega) (fun x hx kd h1 => ?_) ?_
  · have := mem_rgI.mp hx
    walk_at "go"
    exact h1 _ _ _ rfl (.inl rfl)
  rw [show (rgI 0 (b : Int)).map (fun k => (a : Int) * k) = gS a b from rfl]
  have fl := gF_len (a := a)
  have sl := gS_len (a := a) (b := b)
  have fb : ∀ x ∈ gF a, x.natAbs < 10 ^ 51 := fun x hx => by
    have := mem_rgI.mp (show x ∈ rgI 0 (a : Int) from hx)
    omega
  have sb : ∀ x ∈ gS a b, 0 ≤ x ∧ x ≤ 3600 := fun x hx => by
    obtain ⟨k, hk, rfl⟩ := List.mem_map.mp hx
    obtain ⟨k0, k1⟩ := mem_rgI.mp hk
    obtain ⟨k, rfl⟩ := Int.eq_ofNat_of_zero_le k0
    have : a * k ≤ 60 * 60 := Nat.mul_le_mul ha.2 (by omega)
    rw [← Int.natCast_mul]; omega
  generalize gF a = F at *
  generalize gS a b = S at *
  have cl := (cut_subl (xs := S) (lo := none) (hi := some (-1))).length_le
  obtain ⟨w, hw⟩ : ∃ w, L2.atI S (-1) = some w := by
    have ne : S ≠ [] := fun z => by rw [z] at sl; simp at sl; omega
    refine ⟨S.getLast ne, ?_⟩
    have e := atI_last (xs := S.dropLast) (x := S.getLast ne)
    rwa [List.dropLast_concat_getLast ne] at e
  have wb := sb w (atI_mem hw)
  have sb' : ∀ x ∈ S, x.natAbs < 10 ^ 51 := fun x hx => by have := sb x hx; omega
  have fs : ∀ m : Int, 1 ≤ m → m ≤ 1000000 → Sz m F S := fun m h1 h2 => ⟨h1, h2, by omega, by omega, fb, sb'⟩
  have bent : Sz ((a : Int) * b) F (cut S none (some (-1)) ++ [w + x43 % 4 + 1000000 * (x44 % 9)]) := ⟨by omega, by omega, by omega, by rw [List.length_append]; simp; omega, fb, fun x hx => by
    rcases List.mem_append.mp hx with hx | hx
    · exact sb' x ((cut_subl (xs := S)).subset hx)
    · rw [List.mem_singleton] at hx; omega⟩
  walk_at "go"
  refine ⟨x42, h42, ?_⟩
  walk_at "go"
  refine ⟨(a : Int) * b, F, S, rfl, fs _ (by omega) (by omega), ?_⟩
  walk_at "go"
  refine ⟨_, F, S, rfl, fs _ (by omega) (by omega), ?_⟩
  walk_at "go"
  refine ⟨_, S, F, rfl, ⟨by omega, by omega, by omega, by omega, sb', fb⟩, ?_⟩
  walk_at "go"
  refine ⟨w, hw, ?_⟩
  walk_at "go"
  refine ⟨x43, h43, ?_⟩
  walk_at "go"
  refine ⟨x44, h44, ?_⟩
  walk_at "go"
  refine ⟨_, F, _, rfl, bent, ?_⟩
  walk_at "go"
  refine ⟨_, F, S, rfl, fs _ (by omega) (by omega), ?_⟩
  walk_at "go"
  exact hK

/-! ### factorings of a round: each place once -/
def gI (l : List Int) (k : Nat) : Int := l.getD k 0
theorem gI_at {l : List Int} {k : Nat} (h : k < l.length) : l[k]? = some (gI l k) := by
  unfold gI
  rw [List.getD_eq_getElem?_getD, List.getElem?_eq_getElem h]; rfl
theorem gI_atI {l : List Int} {k : Nat} (h : k < l.length) : L2.atI l (k : Int) = some (gI l k) := by
  obtain ⟨x, e1, e2⟩ := atI_int (xs := l) (i := (k : Int)) (by omega) (by omega)
  rw [e2]
  rw [Int.toNat_natCast, gI_at h] at e1
  exact e1.symm ▸ rfl
theorem gI_mem {l : List Int} {x : Int} : x ∈ l ↔ ∃ k, k < l.length ∧ gI l k = x := by
  constructor
  · intro h
    obtain ⟨k, hk, e⟩ := List.getElem_of_mem h
    exact ⟨k, hk, by have := gI_at hk; rw [List.getElem?_eq_getElem hk, e] at this; exact (Option.some.inj this).symm⟩
  · rintro ⟨k, hk, rfl⟩
    exact List.mem_of_getElem? (gI_at hk)
def SmL (l : List Int) : Prop := ∀ x ∈ l, -1000000000 ≤ x ∧ x ≤ 1000000000
structure Fct (n : Nat) (A B : List Int) : Prop where
  len : A.length * B.length = n
  n1 : 1 ≤ n
  all : ∀ p : Nat, p < n → ∃ x ∈ A, ∃ y ∈ B, (x + y) % (n : Int) = p
/-! ### lists alike in a round -/
structure Sim (n : Nat) (A A' : List Int) (s : Int) : Prop where
  len : A'.length = A.length
  all : ∀ x ∈ A, ∃ x' ∈ A', ∃ k : Int, x' = x + s + n * k
theorem Sim.tr {n : Nat} {A B C : List Int} {s t : Int} (h : Sim n A B s) (g : Sim n B C t) : Sim n A C (s + t) :=
  ⟨g.len.trans h.len, fun x hx => by
    obtain ⟨y, hy, k, e⟩ := h.all x hx
    obtain ⟨z, hz, j, f⟩ := g.all y hy
    exact ⟨z, hz, k + j, by rw [f, e, Int.mul_add]; omega⟩⟩
theorem Sim.of {n : Nat} {A A' : List Int} {s t : Int} (h : Sim n A A' s) (e : s = t) : Sim n A A' t := e ▸ h
theorem Fct.sim {n : Nat} {A B A' B' : List Int} {s t : Int} (h : Fct n A B) (a : Sim n A A' s) (b : Sim n B B' t) : Fct n A' B' := by
  have n1 := h.n1
  refine ⟨by rw [a.len, b.len]; exact h.len, n1, fun p hp => ?_⟩
  have q0 := Int.emod_nonneg ((p : Int) - s - t) (b := (n : Int)) (by omega)
  have q1 := Int.emod_lt_of_pos ((p : Int) - s - t) (b := (n : Int)) (by omega)
  obtain ⟨x, hx, y, hy, e⟩ := h.all (((p : Int) - s - t) % n).toNat (by omega)
  obtain ⟨x', hx', k, ex⟩ := a.all x hx
  obtain ⟨y', hy', j, ey⟩ := b.all y hy
  refine ⟨x', hx', y', hy', ?_⟩
  rw [show ((((p : Int) - s - t) % n).toNat : Int) = ((p : Int) - s - t) % n by omega] at e
  have e1 := Int.emod_add_mul_ediv (x + y) (n : Int)
  have e2 := Int.emod_add_mul_ediv ((p : Int) - s - t) (n : Int)
  rw [e] at e1
  have e3 : x' + y' = p + n * ((x + y) / n - ((p : Int) - s - t) / n + k + j) := by
    rw [ex, ey, Int.mul_add, Int.mul_add, Int.mul_sub]
    omega
  rw [e3, Int.add_mul_emod_self_left]
  exact Int.emod_eq_of_lt (by omega) (by omega)
theorem Fct.swap {n : Nat} {A B : List Int} (h : Fct n A B) : Fct n B A := ⟨by rw [Nat.mul_comm]; exact h.len, h.n1, fun p hp => by
  obtain ⟨x, hx, y, hy, e⟩ := h.all p hp
  exact ⟨y, hy, x, hx, by rw [Int.add_comm]; exact e⟩⟩
theorem Fct.ne {n : Nat} {A B : List Int} (h : Fct n A B) : 0 < A.length ∧ 0 < B.length := by
  have l := h.len
  have n1 := h.n1
  constructor
  · refine Nat.pos_of_ne_zero fun z => ?_
    rw [z, Nat.zero_mul] at l; omega
  · refine Nat.pos_of_ne_zero fun z => ?_
    rw [z, Nat.mul_zero] at l; omega
theorem map_sim {n : Nat} {l : List Int} {c : Int} {f : Int → Int} (h : ∀ x, f x = x + c) : Sim n l (l.map f) c := ⟨List.length_map .., fun x hx => ⟨f x, List.mem_map.mpr ⟨x, hx, rfl⟩, 0, by rw [h]; omega⟩⟩
def Sp_law_added : SpD := fun ds K => ∃ (A B : List Int), ds = [.lst (A.map .int), .lst (B.map .int)] ∧ (A.length ≤ 100 ∧ B.length ≤ 100 ∧ SmL A ∧ SmL B) ∧ K (.lst (((B.map fun o => A.map fun x => x + o).flatten).map .int))
theorem addF_len {A : List Int} : ∀ {B : List Int}, ((B.map fun o => A.map fun x => x + o).flatten).length = A.length * B.length
  | [] => rfl
  | b :: r => by rw [List.map_cons, List.flatten_cons, List.length_append, addF_len (B := r), List.length_map, List.length_cons, Nat.mul_succ]; omega
theorem wp_law_added (ds : List D) (Kk : D → Prop) (h : Sp_law_added ds Kk) : wpSs [] C_law_added (startD T_law_added.N.length ds) (endsD Kk) := by
  obtain ⟨A, B, rfl, ⟨la, lb, sa, sb⟩, hK⟩ := h
  show wpSs [] C_law_added [.fz (.lst (A.map .int)), .fz (.lst (B.map .int)), .un, .un, .un] (endsD Kk)
  unfold C_law_added
  walk_at "go"
  refine for_open rfl ?_
  walk_at "go"
  refine forD_inv (fun k ρ => ρ = [.fz (.lst (A.map .int)), .fz (.lst (B.map .int)), .dp (.lst ((((B.take k).map fun o => A.map fun x => x + o).flatten).map .int)), .un, .un]) rfl (fun k x ρ nxt bk hx q nn _ => ?_) (fun ρ q => ?_)
  · subst q
    obtain ⟨b, hb, rfl⟩ := map_get hx
    have bb := sb b (List.mem_of_getElem? hb)
    have e : ((B.take (k + 1)).map fun o => A.map fun x => x + o).flatten = ((B.take k).map fun o => A.map fun x => x + o).flatten ++ A.map fun x => x + b := by rw [List.take_add_one, hb]; simp
    have l1 : (((B.take k).map fun o => A.map fun x => x + o).flatten).length ≤ 100 * 100 := by
      rw [addF_len]
      exact Nat.mul_le_mul la (by rw [List.length_take]; omega)
    rw [e] at nn
    generalize ((B.take k).map fun o => A.map fun x => x + o).flatten = js at *
    refine ⟨by walk_at "go", ?_⟩
    show tgD (.one 3) (.int b) _ _
    walk_at "go"
    unfold C_law_added_0
    walk_at "go"
    refine lc_map (ρ1 := [.fz (.lst (A.map .int)), .fz (.lst (B.map .int)), .dp (.lst (js.map .int)), .fz (.int b), .un]) (ρw := [.fz (.lst (A.map .int)), .fz (.lst (B.map .int)), .dp (.lst (js.map .int)), .fz (.int b), .un]) A .int (fun x => x + b) .int (fun Q hQ => ?_) (fun i hi => ?_) rfl ?_ (fun z hz kd h1 => ?_) ?_
    · walk_at "go"; exact hQ
    · revert i; walk_at "go"
    · rw [sizeLine_eq]; omega
    · have := sa z hz
      walk_at "go"
      exact h1 _ _ _ rfl (.inl rfl)
    walk_at "go"
    exact nn _ rfl
  · subst q
    rw [List.length_map, List.take_length]
    show rest _ _ _ _
    walk_at "go"
    exact hK
theorem rot_mem {l : List Int} {c : Int} (h0 : 0 ≤ c) {x : Int} : x ∈ l.drop c.toNat ++ l.take c.toNat ↔ x ∈ l := by
  rw [List.mem_append]
  have := List.take_append_drop c.toNat l
  constructor
  · rintro (h | h)
    · exact List.mem_of_mem_drop h
    · exact List.mem_of_mem_take h
  · intro h
    rw [← this, List.mem_append] at h
    exact h.symm
theorem mem_rgf {m : Nat} {f : Int → Int} {x : Int} : x ∈ (rgI 0 (m : Int)).map f ↔ ∃ k : Nat, k < m ∧ x = f k := by
  rw [List.mem_map]
  constructor
  · rintro ⟨z, hz, rfl⟩
    have := mem_rgI.mp hz
    exact ⟨z.toNat, by omega, by rw [show ((z.toNat : Nat) : Int) = z by omega]⟩
  · rintro ⟨k, hk, rfl⟩
    exact ⟨k, mem_rgI.mpr ⟨by omega, by omega⟩, rfl⟩
theorem fct_0 {a m : Nat} (ha : 1 ≤ a) (hm : 1 ≤ m) : Fct (a * m) (rgI 0 (a : Int)) ((rgI 0 (m : Int)).map fun k => (a : Int) * k) := by
  refine ⟨by rw [rgI_len, List.length_map, rgI_len]; simp, Nat.mul_pos ha hm, fun p hp => ?_⟩
  have r := Nat.mod_lt p ha
  have d : p / a < m := Nat.div_lt_of_lt_mul hp
  have e := Nat.mod_add_div p a
  refine ⟨((p % a : Nat) : Int), mem_rgI.mpr ⟨by omega, by omega⟩, (a : Int) * ((p / a : Nat) : Int), mem_rgf.mpr ⟨_, d, rfl⟩, ?_⟩
  rw [← Int.natCast_mul, ← Int.natCast_add, e]
  exact Int.emod_eq_of_lt (by omega) (by omega)
theorem fct_1 {a b c : Nat} (ha : 1 ≤ a) (hb : 1 ≤ b) (hc : 1 ≤ c) : Fct (a * b * c) ((((rgI 0 (c : Int)).map fun j => (a : Int) * b * j).map fun o => (rgI 0 (a : Int)).map fun x => x + o).flatten) ((rgI 0 (b : Int)).map fun k => (a : Int) * k) := by
  refine ⟨by rw [addF_len, List.length_map, List.length_map, rgI_len, rgI_len, rgI_len]; simp [Nat.mul_assoc, Nat.mul_comm, Nat.mul_left_comm], Nat.mul_pos (Nat.mul_pos ha hb) hc, fun p hp => ?_⟩
  have r := Nat.mod_lt p ha
  have d : p / a < b * c := Nat.div_lt_of_lt_mul (by rw [← Nat.mul_assoc]; exact hp)
  have e := Nat.mod_add_div p a
  have r2 := Nat.mod_lt (p / a) hb
  have d2 : p / a / b < c := Nat.div_lt_of_lt_mul d
  have e2 := Nat.mod_add_div (p / a) b
  refine ⟨((p % a : Nat) : Int) + (a : Int) * b * ((p / a / b : Nat) : Int), List.mem_flatten.mpr ⟨_, List.mem_map.mpr ⟨_, mem_rgf.mpr ⟨p / a / b, d2, rfl⟩, rfl⟩, List.mem_map.mpr ⟨_, mem_rgI.mpr ⟨by omega, by omega⟩, rfl⟩⟩, (a : Int) * ((p / a % b : Nat) : Int), mem_rgf.mpr ⟨_, r2, rfl⟩, ?_⟩
  have key : ((p % a : Nat) : Int) + (a : Int) * b * ((p / a / b : Nat) : Int) + (a : Int) * ((p / a % b : Nat) : Int) = (p : Int) := by
    have : p % a + a * b * (p / a / b) + a * (p / a % b) = p := by
      have h1 : a * (p / a % b + b * (p / a / b)) = a * (p / a) := by rw [e2]
      rw [Nat.mul_add, ← Nat.mul_assoc] at h1
      omega
    rw [← Int.natCast_mul, ← Int.natCast_mul, ← Int.natCast_mul, ← Int.natCast_add, ← Int.natCast_add, this]
  rw [key]
  exact Int.emod_eq_of_lt (by omega) (by omega)
theorem fct_3 {a m : Nat} (ha : 1 ≤ a) (hm : 1 ≤ m) (g : Int → Int) : Fct (a * m) ((rgI 0 (a : Int)).map fun k => (m : Int) * k) ((rgI 0 (m : Int)).map fun k => k + (m : Int) * g k) := by
  refine ⟨by rw [List.length_map, rgI_len, List.length_map, rgI_len]; simp, Nat.mul_pos ha hm, fun p hp => ?_⟩
  have r := Nat.mod_lt p hm
  have e := Nat.mod_add_div p m
  have q0 := Int.emod_nonneg (((p / m : Nat) : Int) - g ((p % m : Nat) : Int)) (b := (a : Int)) (by omega)
  have q1 := Int.emod_lt_of_pos (((p / m : Nat) : Int) - g ((p % m : Nat) : Int)) (b := (a : Int)) (by omega)
  have q2 := Int.emod_add_mul_ediv (((p / m : Nat) : Int) - g ((p % m : Nat) : Int)) (a : Int)
  refine ⟨(m : Int) * (((((p / m : Nat) : Int) - g ((p % m : Nat) : Int)) % (a : Int)).toNat : Int), mem_rgf.mpr ⟨(((((p / m : Nat) : Int) - g ((p % m : Nat) : Int)) % (a : Int)).toNat), by omega, rfl⟩, _, mem_rgf.mpr ⟨p % m, r, rfl⟩, ?_⟩
  rw [Int.toNat_of_nonneg q0]
  have e' : ((p % m : Nat) : Int) + (m : Int) * ((p / m : Nat) : Int) = p := by rw [← Int.natCast_mul, ← Int.natCast_add, e]
  generalize ((p % m : Nat) : Int) = u at *
  generalize ((p / m : Nat) : Int) = v at *
  generalize (v - g u) % (a : Int) = j at *
  generalize (v - g u) / (a : Int) = t at *
  have key : (m : Int) * j + (u + (m : Int) * g u) = p + ((a * m : Nat) : Int) * -t := by
    rw [Int.natCast_mul]
    have : j = v - g u - a * t := by omega
    subst this
    grind
  rw [key, Int.add_mul_emod_self_left]
  exact Int.emod_eq_of_lt (by omega) (by omega)

def drC : Nat → Cms → Cms
  | 0, c => c
  | n + 1, .cons _ r => drC n r
  | _ + 1, .nil => .nil
structure Mad (n : Nat) (A B : List Int) : Prop extends Fct n A B where
  n2 : n ≤ 75
  ba : ∀ x ∈ A, 0 ≤ x ∧ x ≤ 1000
  bb : ∀ x ∈ B, 0 ≤ x ∧ x ≤ 1000
theorem Mad.l {n : Nat} {A B : List Int} (h : Mad n A B) : (1 ≤ A.length ∧ A.length ≤ 75) ∧ (1 ≤ B.length ∧ B.length ≤ 75) := by
  have l := h.len
  have ne := h.toFct.ne
  have n2 := h.n2
  have a := Nat.le_mul_of_pos_right A.length ne.2
  have b := Nat.le_mul_of_pos_left B.length ne.1
  omega
theorem mul3 {a b c : Nat} (ha : 1 ≤ a ∧ a ≤ 5) (hb : 1 ≤ b ∧ b ≤ 5) (hc : 1 ≤ c ∧ c ≤ 3) : a * b * c ≤ 75 ∧ b * c ≤ 15 ∧ a * b ≤ 25 ∧ 1 ≤ b * c := by
  have h1 : a * b ≤ 5 * 5 := Nat.mul_le_mul ha.2 hb.2
  have h2 : a * b * c ≤ 25 * 3 := Nat.mul_le_mul h1 hc.2
  have h3 : b * c ≤ 5 * 3 := Nat.mul_le_mul hb.2 hc.2
  exact ⟨h2, h3, h1, Nat.mul_pos hb.1 hc.1⟩
theorem mul_rg {a k m : Nat} {M : Nat} (ha : a ≤ M) (hk : k < m) (hm : m ≤ 100) (hM : M ≤ 10) : 0 ≤ (a : Int) * k ∧ (a : Int) * k ≤ 1000 := by
  have : a * k ≤ 10 * 100 := Nat.mul_le_mul (by omega) (by omega)
  rw [← Int.natCast_mul]; omega
def Sp_law_factoring : SpD := fun ds K => ∃ (C : List Int), ds = [.lst (C.map .int)] ∧ (C.length = 8 ∧ ∀ x ∈ C, 0 ≤ x ∧ x < 1000003) ∧ ∀ (n : Nat) (A B : List Int), Mad n A B → K (.tup [.int n, .lst (A.map .int), .lst (B.map .int)])
theorem wp_law_factoring (ds : List D) (Kk : D → Prop) (h : Sp_law_factoring ds Kk) : wpSs [Sp_law_added] C_law_factoring (startD T_law_factoring.N.length ds) (endsD Kk) := by
  obtain ⟨C, rfl, ⟨c8, sc⟩, hK⟩ := h
  show wpSs [Sp_law_added] C_law_factoring [.fz (.lst (C.map .int)), .un, .un, .un, .un, .un, .un, .un, .un, .un] (endsD Kk)
  have cat : ∀ k : Nat, k < 8 → L2.atI C (k : Int) = some (gI C k) := fun k hk => gI_atI (by omega)
  have cb : ∀ k : Nat, k < 8 → 0 ≤ gI C k ∧ gI C k < 1000003 := fun k hk => sc _ (gI_mem.mpr ⟨k, by omega, rfl⟩)
  have b0 := cb 0 (by decide)
  have b1 := cb 1 (by decide)
  have b2 := cb 2 (by decide)
  have b3 := cb 3 (by decide)
  obtain ⟨a, ha⟩ := Int.eq_ofNat_of_zero_le (show 0 ≤ 1 + gI C 1 % 5 by omega)
  obtain ⟨b, hb⟩ := Int.eq_ofNat_of_zero_le (show 0 ≤ 1 + gI C 2 % 5 by omega)
  obtain ⟨c, hc⟩ := Int.eq_ofNat_of_zero_le (show 0 ≤ 1 + gI C 3 % 3 by omega)
  have a5 : 1 ≤ a ∧ a ≤ 5 := by omega
  have b5 : 1 ≤ b ∧ b ≤ 5 := by omega
  have c3 : 1 ≤ c ∧ c ≤ 3 := by omega
  obtain ⟨m1, m2, m3, m4⟩ := mul3 a5 b5 c3
  have fin : ∀ (κ : Int) (F S : List Int), Mad (a * b * c) F S → wpSs [Sp_law_added] (drC 9 C_law_factoring) [.fz (.lst (C.map .int)), .fz (.int κ), .fz (.int a), .fz (.int b), .fz (.int c), .fz (.int (a * b * c : Nat)), .dp (.lst (F.map .int)), .un, .dp (.lst (S.map .int)), .un] (endsD Kk) := fun κ F S hm => by
    have := hm.l
    unfold C_law_factoring
    simp only [drC]
    walk_at "go"
    exact hK _ _ _ hm
  have ec : ((a * b * c : Nat) : Int) = (a : Int) * b * c := by rw [Int.natCast_mul, Int.natCast_mul]
  have eb : ((b * c : Nat) : Int) = (b : Int) * c := Int.natCast_mul ..
  rw [ec] at fin
  unfold C_law_factoring
  walk_at "go"
  refine ⟨_, cat 0 (by decide), ?_⟩
  walk_at "go"
  refine ⟨_, cat 1 (by decide), ?_⟩
  walk_at "go"
  refine ⟨_, cat 2 (by decide), ?_⟩
  walk_at "go"
  refine ⟨_, cat 3 (by decide), ?_⟩
  walk_at "go"
  rw [ha, hb, hc]
  have eab : ((a * b : Nat) : Int) = (a : Int) * b := Int.natCast_mul ..
  have sab : 0 ≤ (a : Int) * b ∧ (a : Int) * b ≤ 25 := by rw [← eab]; omega
  have sbc : 1 ≤ (b : Int) * c ∧ (b : Int) * c ≤ 15 := by rw [← eb]; omega
  have sN : 0 ≤ (a : Int) * b * c ∧ (a : Int) * b * c ≤ 75 := by rw [← ec]; omega
  walk_at "go"
  generalize hκ : gI C 0 % 4 = κ at *
  generalize hN : (a : Int) * b * c = N at *
  refine lc_map (ρ1 := [.fz (.lst (C.map .int)), .fz (.int κ), .fz (.int a), .fz (.int b), .fz (.int c), .fz (.int N), .un, .un, .un, .un]) (ρw := [.fz (.lst (C.map .int)), .fz (.int κ), .fz (.int a), .fz (.int b), .fz (.int c), .fz (.int N), .un, .un, .un, .un]) (rgI 0 (a : Int)) .int id .int (fun Q hQ => ?_) (fun i hi => ?_) rfl ?_ (fun z hz kd h1 => ?_) ?_
  · walk_at "go"; exact hQ
  · revert i; walk_at "go"
  · rw [sizeLine_eq, rgI_len]; omega
  · walk_at "go"
    exact h1 _ _ _ rfl (.inl rfl)
  rw [List.map_id]
  walk_at "go"
  refine lc_map (ρ1 := [.fz (.lst (C.map .int)), .fz (.int κ), .fz (.int a), .fz (.int b), .fz (.int c), .fz (.int N), .dp (.lst ((rgI 0 (a : Int)).map .int)), .un, .un, .un]) (ρw := [.fz (.lst (C.map .int)), .fz (.int κ), .fz (.int a), .fz (.int b), .fz (.int c), .fz (.int N), .dp (.lst ((rgI 0 (a : Int)).map .int)), .un, .un, .un]) (rgI 0 ((b * c : Nat) : Int)) .int (fun k => (a : Int) * k) .int (fun Q hQ => ?_) (fun i hi => ?_) rfl ?_ (fun z hz kd h1 => ?_) ?_
  · walk_at "go"; try rw [← eb]; exact hQ
  · revert i; walk_at "go"
  · rw [sizeLine_eq, rgI_len]; omega
  · have := mem_rgI.mp hz
    walk_at "go"
    exact h1 _ _ _ rfl (.inl rfl)
  have bnd : ∀ (u : Nat) (m : Nat), u ≤ 25 → m ≤ 15 → ∀ x ∈ (rgI 0 (m : Int)).map (fun k => (u : Int) * k), 0 ≤ x ∧ x ≤ 1000 := fun u m hu hm x hx => by
    obtain ⟨k, hk, rfl⟩ := mem_rgf.mp hx
    have : u * k ≤ 25 * 15 := Nat.mul_le_mul hu (by omega)
    rw [← Int.natCast_mul]; omega
  have rga : ∀ x ∈ rgI 0 (a : Int), 0 ≤ x ∧ x ≤ 1000 := fun x hx => by have := mem_rgI.mp hx; omega
  have adB : ∀ x ∈ ((((rgI 0 (c : Int)).map fun j => (a : Int) * b * j).map fun o => (rgI 0 (a : Int)).map fun x => x + o).flatten), 0 ≤ x ∧ x ≤ 1000 := fun x hx => by
    obtain ⟨l, hl, hx⟩ := List.mem_flatten.mp hx
    obtain ⟨o, ho, rfl⟩ := List.mem_map.mp hl
    obtain ⟨y, hy, rfl⟩ := List.mem_map.mp hx
    have := mem_rgI.mp hy
    obtain ⟨j, hj, rfl⟩ := mem_rgf.mp ho
    have : a * b * j ≤ 25 * 3 := Nat.mul_le_mul m3 (by omega)
    rw [← eab, ← Int.natCast_mul]; omega
  have f0 : Mad (a * b * c) (rgI 0 (a : Int)) ((rgI 0 ((b * c : Nat) : Int)).map fun k => (a : Int) * k) := ⟨by rw [Nat.mul_assoc]; exact fct_0 a5.1 m4, m1, rga, bnd a (b * c) (by omega) m2⟩
  have f1 : Mad (a * b * c) ((((rgI 0 (c : Int)).map fun j => (a : Int) * b * j).map fun o => (rgI 0 (a : Int)).map fun x => x + o).flatten) ((rgI 0 (b : Int)).map fun k => (a : Int) * k) := ⟨fct_1 a5.1 b5.1 c3.1, m1, adB, bnd a b (by omega) (by omega)⟩
  have f2 : Mad (a * b * c) ((rgI 0 (b : Int)).map fun k => (a : Int) * k) ((((rgI 0 (c : Int)).map fun j => (a : Int) * b * j).map fun o => (rgI 0 (a : Int)).map fun x => x + o).flatten) := ⟨f1.toFct.swap, m1, f1.bb, f1.ba⟩
  have add : ∀ K : D → Prop, K (.lst (((((rgI 0 (c : Int)).map fun j => (a : Int) * b * j).map fun o => (rgI 0 (a : Int)).map fun x => x + o).flatten).map .int)) → Sp_law_added [.lst ((rgI 0 (a : Int)).map .int), .lst (((rgI 0 (c : Int)).map fun j => (a : Int) * b * j).map .int)] K := fun K h =>
    ⟨_, _, rfl, ⟨by rw [rgI_len]; omega, by rw [List.length_map, rgI_len]; omega, fun x hx => by have := rga x hx; omega, fun x hx => by
      obtain ⟨j, hj, rfl⟩ := mem_rgf.mp hx
      have : a * b * j ≤ 25 * 3 := Nat.mul_le_mul m3 (by omega)
      rw [← eab, ← Int.natCast_mul]; omega⟩, h⟩
  walk_at "go"
  by_cases k1 : κ = 1
  · rw [if_pos k1]
    walk_at "go"
    refine ⟨⟨by omega, by omega, by omega, by omega, by omega⟩, ?_⟩
    refine lc_map (ρ1 := [.fz (.lst (C.map .int)), .fz (.int κ), .fz (.int a), .fz (.int b), .fz (.int c), .fz (.int N), .dp (.lst ((rgI 0 (a : Int)).map .int)), .un, .dp (.lst (((rgI 0 ((b * c : Nat) : Int)).map fun k => (a : Int) * k).map .int)), .un]) (ρw := [.fz (.lst (C.map .int)), .fz (.int κ), .fz (.int a), .fz (.int b), .fz (.int c), .fz (.int N), .dp (.lst ((rgI 0 (a : Int)).map .int)), .un, .dp (.lst (((rgI 0 ((b * c : Nat) : Int)).map fun k => (a : Int) * k).map .int)), .un]) (rgI 0 (c : Int)) .int (fun k => (a : Int) * b * k) .int (fun Q hQ => ?_) (fun i hi => ?_) rfl ?_ (fun z hz kd h1 => ?_) ?_
    · walk_at "go"; exact hQ
    · revert i; walk_at "go"
    · rw [sizeLine_eq, rgI_len]; omega
    · have := mem_rgI.mp hz
      walk_at "go"
      exact h1 _ _ _ rfl (.inl rfl)
    walk_at "go"
    refine add _ ?_
    walk_at "go"
    refine lc_map (ρ1 := [.fz (.lst (C.map .int)), .fz (.int κ), .fz (.int a), .fz (.int b), .fz (.int c), .fz (.int N), .dp (.lst (((((rgI 0 (c : Int)).map fun j => (a : Int) * b * j).map fun o => (rgI 0 (a : Int)).map fun x => x + o).flatten).map .int)), .un, .dp (.lst (((rgI 0 ((b * c : Nat) : Int)).map fun k => (a : Int) * k).map .int)), .un]) (ρw := [.fz (.lst (C.map .int)), .fz (.int κ), .fz (.int a), .fz (.int b), .fz (.int c), .fz (.int N), .dp (.lst (((((rgI 0 (c : Int)).map fun j => (a : Int) * b * j).map fun o => (rgI 0 (a : Int)).map fun x => x + o).flatten).map .int)), .un, .dp (.lst (((rgI 0 ((b * c : Nat) : Int)).map fun k => (a : Int) * k).map .int)), .un]) (rgI 0 (b : Int)) .int (fun k => (a : Int) * k) .int (fun Q hQ => ?_) (fun i hi => ?_) rfl ?_ (fun z hz kd h1 => ?_) ?_
    · walk_at "go"; exact hQ
    · revert i; walk_at "go"
    · rw [sizeLine_eq, rgI_len]; omega
    · have := mem_rgI.mp hz
      walk_at "go"
      exact h1 _ _ _ rfl (.inl rfl)
    have go := fin κ _ _ f1
    generalize ((((rgI 0 (c : Int)).map fun j => (a : Int) * b * j).map fun o => (rgI 0 (a : Int)).map fun x => x + o).flatten) = F at *
    generalize ((rgI 0 (b : Int)).map fun k => (a : Int) * k) = S at *
    walk_at "go"
    rw [if_neg (by omega)]
    walk_at "go"
    rw [if_neg (by omega)]
    exact go
  rw [if_neg k1]
  walk_at "go"
  by_cases k2 : κ = 2
  · rw [if_pos k2]
    walk_at "go"
    refine lc_map (ρ1 := [.fz (.lst (C.map .int)), .fz (.int κ), .fz (.int a), .fz (.int b), .fz (.int c), .fz (.int N), .dp (.lst ((rgI 0 (a : Int)).map .int)), .un, .dp (.lst (((rgI 0 ((b * c : Nat) : Int)).map fun k => (a : Int) * k).map .int)), .un]) (ρw := [.fz (.lst (C.map .int)), .fz (.int κ), .fz (.int a), .fz (.int b), .fz (.int c), .fz (.int N), .dp (.lst ((rgI 0 (a : Int)).map .int)), .un, .dp (.lst (((rgI 0 ((b * c : Nat) : Int)).map fun k => (a : Int) * k).map .int)), .un]) (rgI 0 (b : Int)) .int (fun k => (a : Int) * k) .int (fun Q hQ => ?_) (fun i hi => ?_) rfl ?_ (fun z hz kd h1 => ?_) ?_
    · walk_at "go"; exact hQ
    · revert i; walk_at "go"
    · rw [sizeLine_eq, rgI_len]; omega
    · have := mem_rgI.mp hz
      walk_at "go"
      exact h1 _ _ _ rfl (.inl rfl)
    walk_at "go"
    refine ⟨⟨by omega, by omega, by omega, by omega, by omega⟩, ?_⟩
    refine lc_map (ρ1 := [.fz (.lst (C.map .int)), .fz (.int κ), .fz (.int a), .fz (.int b), .fz (.int c), .fz (.int N), .dp (.lst (((rgI 0 (b : Int)).map fun k => (a : Int) * k).map .int)), .un, .dp (.lst (((rgI 0 ((b * c : Nat) : Int)).map fun k => (a : Int) * k).map .int)), .un]) (ρw := [.fz (.lst (C.map .int)), .fz (.int κ), .fz (.int a), .fz (.int b), .fz (.int c), .fz (.int N), .dp (.lst (((rgI 0 (b : Int)).map fun k => (a : Int) * k).map .int)), .un, .dp (.lst (((rgI 0 ((b * c : Nat) : Int)).map fun k => (a : Int) * k).map .int)), .un]) (rgI 0 (c : Int)) .int (fun k => (a : Int) * b * k) .int (fun Q hQ => ?_) (fun i hi => ?_) rfl ?_ (fun z hz kd h1 => ?_) ?_
    · walk_at "go"; exact hQ
    · revert i; walk_at "go"
    · rw [sizeLine_eq, rgI_len]; omega
    · have := mem_rgI.mp hz
      walk_at "go"
      exact h1 _ _ _ rfl (.inl rfl)
    walk_at "go"
    refine add _ ?_
    have go := fin κ _ _ f2
    generalize ((((rgI 0 (c : Int)).map fun j => (a : Int) * b * j).map fun o => (rgI 0 (a : Int)).map fun x => x + o).flatten) = F at *
    generalize ((rgI 0 (b : Int)).map fun k => (a : Int) * k) = S at *
    walk_at "go"
    rw [if_neg (by omega)]
    exact go
  rw [if_neg k2]
  walk_at "go"
  by_cases k3 : κ = 3
  · rw [if_pos k3]
    obtain ⟨gV, hgV⟩ : ∃ gV : Int → Int, gV = fun k => gI C (4 + k.toNat % 4) / (k + 1) % (a : Int) := ⟨_, rfl⟩
    have gVe : ∀ k, gV k = gI C (4 + k.toNat % 4) / (k + 1) % (a : Int) := fun k => by rw [hgV]
    have gV0 : ∀ k, 0 ≤ gV k ∧ gV k ≤ 5 := fun k => by
      rw [gVe]
      have := Int.emod_nonneg (gI C (4 + k.toNat % 4) / (k + 1)) (b := (a : Int)) (by omega)
      have := Int.emod_lt_of_pos (gI C (4 + k.toNat % 4) / (k + 1)) (b := (a : Int)) (by omega)
      omega
    walk_at "go"
    refine lc_map (ρ1 := [.fz (.lst (C.map .int)), .fz (.int κ), .fz (.int a), .fz (.int b), .fz (.int c), .fz (.int N), .dp (.lst ((rgI 0 (a : Int)).map .int)), .un, .dp (.lst (((rgI 0 ((b * c : Nat) : Int)).map fun k => (a : Int) * k).map .int)), .un]) (ρw := [.fz (.lst (C.map .int)), .fz (.int κ), .fz (.int a), .fz (.int b), .fz (.int c), .fz (.int N), .dp (.lst ((rgI 0 (a : Int)).map .int)), .un, .dp (.lst (((rgI 0 ((b * c : Nat) : Int)).map fun k => (a : Int) * k).map .int)), .un]) (rgI 0 (a : Int)) .int (fun k => ((b * c : Nat) : Int) * k) .int (fun Q hQ => ?_) (fun i hi => ?_) rfl ?_ (fun z hz kd h1 => ?_) ?_
    · walk_at "go"; exact hQ
    · revert i; walk_at "go"
    · rw [sizeLine_eq, rgI_len]; omega
    · have := mem_rgI.mp hz
      walk_at "go"
      rw [← eb]
      exact h1 _ _ _ rfl (.inl rfl)
    walk_at "go"
    refine lc_map (ρ1 := [.fz (.lst (C.map .int)), .fz (.int κ), .fz (.int a), .fz (.int b), .fz (.int c), .fz (.int N), .dp (.lst (((rgI 0 (a : Int)).map fun k => ((b * c : Nat) : Int) * k).map .int)), .un, .dp (.lst (((rgI 0 ((b * c : Nat) : Int)).map fun k => (a : Int) * k).map .int)), .un]) (ρw := [.fz (.lst (C.map .int)), .fz (.int κ), .fz (.int a), .fz (.int b), .fz (.int c), .fz (.int N), .dp (.lst (((rgI 0 (a : Int)).map fun k => ((b * c : Nat) : Int) * k).map .int)), .un, .dp (.lst (((rgI 0 ((b * c : Nat) : Int)).map fun k => (a : Int) * k).map .int)), .un]) (rgI 0 ((b * c : Nat) : Int)) .int (fun k => k + ((b * c : Nat) : Int) * gV k) .int (fun Q hQ => ?_) (fun i hi => ?_) rfl ?_ (fun z hz kd h1 => ?_) ?_
    · walk_at "go"; try rw [← eb]; exact hQ
    · revert i; walk_at "go"
    · rw [sizeLine_eq, rgI_len]; omega
    · have := mem_rgI.mp hz
      have z4 : (4 + z.toNat % 4 : Nat) < 8 := by omega
      have at4 := cat _ z4
      have bd4 := cb _ z4
      rw [show ((4 + z.toNat % 4 : Nat) : Int) = 4 + z % 4 by omega] at at4
      walk_at "go"
      refine ⟨_, at4, ?_⟩
      walk_at "go"
      have gz := gV0 z
      rw [← eb, ← gVe z]
      walk_at "go"
      exact h1 _ _ _ rfl (.inl rfl)
    have f3 : Mad (a * b * c) ((rgI 0 (a : Int)).map fun k => ((b * c : Nat) : Int) * k) ((rgI 0 ((b * c : Nat) : Int)).map fun k => k + ((b * c : Nat) : Int) * gV k) := ⟨by rw [Nat.mul_assoc]; exact fct_3 a5.1 m4 gV, m1, bnd (b * c) a (by omega) (by omega), fun x hx => by
      obtain ⟨k, hk, rfl⟩ := mem_rgf.mp hx
      have g0 := gV0 (k : Int)
      have : ((b * c : Nat) : Int) * gV k ≤ 15 * 5 := Int.mul_le_mul (by omega) (by omega) g0.1 (by decide)
      have : 0 ≤ ((b * c : Nat) : Int) * gV k := Int.mul_nonneg (by omega) g0.1
      omega⟩
    have go := fin κ _ _ f3
    generalize ((rgI 0 (a : Int)).map fun k => ((b * c : Nat) : Int) * k) = F at *
    generalize ((rgI 0 ((b * c : Nat) : Int)).map fun k => k + ((b * c : Nat) : Int) * gV k) = S at *
    walk_at "g1"
    exact go
  · rw [if_neg k3]
    have go := fin κ _ _ f0
    generalize ((rgI 0 ((b * c : Nat) : Int)).map fun k => (a : Int) * k) = S at *
    walk_at "g1"
    exact go

theorem Fct.nd {n : Nat} {A B : List Int} (h : Fct n A B) : (sumsR n A B).Nodup := by
  obtain ⟨k1, k2, k3, k4⟩ := ddK_ok (sumsR n A B)
  refine k4.mp ?_
  rw [sumsR_len, h.len] at *
  have := (rgI_pw (a := 0) (b := (n : Int))).imp (fun {a b} h => Int.ne_of_lt h) |> fun (nd : (rgI 0 (n : Int)).Nodup) => nd.length_le_of_subset (l₂ := ddK (sumsR n A B)) fun x hx => by
    obtain ⟨x0, x1⟩ := mem_rgI.mp hx
    obtain ⟨a, ha, b, hb, e⟩ := h.all x.toNat (by omega)
    rw [Int.toNat_of_nonneg x0] at e
    refine (k2 x).mpr (List.mem_flatten.mpr ⟨_, List.mem_map.mpr ⟨a, ha, rfl⟩, List.mem_map.mpr ⟨b, hb, e⟩⟩)
  rw [rgI_len] at this
  omega
theorem Fct.facV {n : Nat} {A B : List Int} (h : Fct n A B) : facV n A (.lst (B.map .int)) = true :=
  facV_t (facV_l.mpr ⟨by rw [← Int.natCast_mul, h.len], h.nd⟩)

def Sp_law_shaken : SpD := fun ds K => ∃ (n : Nat) (A C : List Int), ds = [.int n, .lst (A.map .int), .lst (C.map .int)] ∧ (1 ≤ n ∧ n ≤ 1000 ∧ 1 ≤ A.length ∧ A.length ≤ 100 ∧ (∀ x ∈ A, 0 ≤ x ∧ x ≤ 1000) ∧ 1 ≤ C.length ∧ C.length ≤ 100 ∧ ∀ x ∈ C, 0 ≤ x ∧ x < 1000003) ∧ ∀ R : List Int, Sim n A R 0 → (∀ x ∈ R, -3000 ≤ x ∧ x ≤ 4000) → K (.lst (R.map .int))
theorem wp_law_shaken (ds : List D) (Kk : D → Prop) (h : Sp_law_shaken ds Kk) : wpSs [] C_law_shaken (startD T_law_shaken.N.length ds) (endsD Kk) := by
  obtain ⟨n, A, C, rfl, ⟨n1, n2, a1, a2, sa, c1, c2, sc⟩, hK⟩ := h
  show wpSs [] C_law_shaken [.fz (.int n), .fz (.lst (A.map .int)), .fz (.lst (C.map .int)), .un, .un, .un] (endsD Kk)
  unfold C_law_shaken
  walk_at "go"
  refine for_rng1 A.length (fun K h1 h2 => by walk_at "go"; first | exact h1 | exact h2) (by omega) (fun k ρ => ∃ R : List Int, R.length = k ∧ (∀ i : Nat, i < k → ∃ (x y q : Int), A[i]? = some x ∧ R[i]? = some y ∧ y = x + n * q) ∧ (∀ x ∈ R, -3000 ≤ x ∧ x ≤ 4000) ∧ ρ = [.fz (.int n), .fz (.lst (A.map .int)), .fz (.lst (C.map .int)), .dp (.lst (R.map .int)), .un, .un]) ⟨[], rfl, (fun i hi => by omega), (fun x hx => by cases hx), rfl⟩ (fun k ρ nxt bk hk q nn _ => ?_) (fun ρ q => ?_)
  · obtain ⟨R, rl, ri, rb, rfl⟩ := q
    have hk : (k : Int) < A.length := hk
    obtain ⟨a, ha, ha'⟩ := atI_int (xs := A) (i := (k : Int)) (by omega) hk
    have ab := sa a (List.mem_of_getElem? ha)
    have m0 := Int.emod_nonneg (k : Int) (b := (C.length : Int)) (by omega)
    have m1 := Int.emod_lt_of_pos (k : Int) (b := (C.length : Int)) (by omega)
    obtain ⟨c, hc, hc'⟩ := atI_int (xs := C) (i := (k : Int) % C.length) m0 m1
    have cb := sc c (List.mem_of_getElem? hc)
    refine ⟨by walk_at "go", ?_⟩
    show tgD (.one 4) (.int (k : Int)) _ _
    walk_at "go"
    unfold C_law_shaken_0
    walk_at "go"
    refine ⟨a, ha', ?_⟩
    walk_at "go"
    refine ⟨c, hc', ?_⟩
    walk_at "go"
    have r0 := Int.emod_nonneg (c / ((k : Int) + 1)) (b := 7) (by decide)
    have r1 := Int.emod_lt_of_pos (c / ((k : Int) + 1)) (b := 7) (by decide)
    have up : (n : Int) * (c / ((k : Int) + 1) % 7 - 3) ≤ n * 3 := Int.mul_le_mul_of_nonneg_left (by omega) (by omega)
    have dn : (n : Int) * -3 ≤ n * (c / ((k : Int) + 1) % 7 - 3) := Int.mul_le_mul_of_nonneg_left (by omega) (by omega)
    generalize c / ((k : Int) + 1) % 7 - 3 = w at *
    refine nn _ ⟨R ++ [a + n * w], by rw [List.length_append]; simp [rl], fun i hi => ?_, fun x hx => ?_, rfl⟩
    · by_cases e : i = k
      · subst e
        exact ⟨a, a + n * w, w, ha, by rw [List.getElem?_append_right (by omega), rl]; simp, rfl⟩
      · obtain ⟨x, y, q, hx, hy, e⟩ := ri i (by omega)
        exact ⟨x, y, q, hx, by rw [List.getElem?_append_left (by omega)]; exact hy, e⟩
    · rcases List.mem_append.mp hx with hx | hx
      · exact rb x hx
      · rw [List.mem_singleton] at hx; omega
  · obtain ⟨R, rl, ri, rb, rfl⟩ := q
    show rest _ _ _ _
    walk_at "go"
    obtain ⟨c, hc, hc'⟩ := atI_int (xs := C) (i := 0) (by omega) (by omega)
    refine ⟨c, hc', ?_⟩
    have rl : R.length = A.length := by simpa using rl
    walk_at "go"
    have m0 := Int.emod_nonneg c (b := (R.length : Int)) (by omega)
    have m1 := Int.emod_lt_of_pos c (b := (R.length : Int)) (by omega)
    generalize c % (R.length : Int) = t at *
    rw [cut_from m0, cut_to m0]
    walk_at "go"
    refine ⟨by rw [List.length_drop, List.length_take, sizeLine_eq]; omega, ?_⟩
    refine hK _ ⟨by rw [List.length_append, List.length_drop, List.length_take]; omega, fun x hx => ?_⟩ fun x hx => rb x ((rot_mem m0).mp hx)
    obtain ⟨i, hi, e⟩ := List.mem_iff_getElem.mp hx
    obtain ⟨x', y, q, hx', hy, e2⟩ := ri i (by simpa using hi)
    rw [List.getElem?_eq_getElem hi, e] at hx'
    have := Option.some.inj hx'
    subst this
    exact ⟨y, (rot_mem m0).mpr (List.mem_of_getElem? hy), q, by rw [e2, Int.add_zero]⟩

/-! the law -/
abbrev Splaw : SpD := SpLaw
theorem wplaw (ds : List D) (Kk : D → Prop) (h : Splaw ds Kk) : wpSs [Sp_law_draws, Sp_law_factoring, Sp_law_shaken, Spfault_of, Sp_law_told, Sp_law_put, Sp_law_free, Sp_law_great] Claw (startD Tlaw.N.length ds) (endsD Kk) := by
  obtain ⟨ns, rfl, hn, hK⟩ := h
  generalize hG : [Sp_law_draws, Sp_law_factoring, Sp_law_shaken, Spfault_of, Sp_law_told, Sp_law_put, Sp_law_free, Sp_law_great] = G
  show wpSs G Claw [.fz (.fro (ns.map .int)), .un, .un, .un, .un, .un, .un, .un, .un, .un, .un, .un] (endsD Kk)
  have G0 : G.getD 0 (fun _ _ => False) = Sp_law_draws := by rw [← hG]; rfl
  have G1 : G.getD 1 (fun _ _ => False) = Sp_law_factoring := by rw [← hG]; rfl
  have G2 : G.getD 2 (fun _ _ => False) = Sp_law_shaken := by rw [← hG]; rfl
  have G3 : G.getD 3 (fun _ _ => False) = Spfault_of := by rw [← hG]; rfl
  have G4 : G.getD 4 (fun _ _ => False) = Sp_law_told := by rw [← hG]; rfl
  have G5 : G.getD 5 (fun _ _ => False) = Sp_law_put := by rw [← hG]; rfl
  have G6 : G.getD 6 (fun _ _ => False) = Sp_law_free := by rw [← hG]; rfl
  have G7 : G.getD 7 (fun _ _ => False) = Sp_law_great := by rw [← hG]; rfl
  have tail4 : ∀ (ms : List Int) (n : Nat) (A B : List Int), ms.length = 60 → DrIn ms → Fct n A B → n ≤ 75 → 1 ≤ A.length → A.length ≤ 75 → 1 ≤ B.length → B.length ≤ 75 → (∀ x ∈ A, -4000 ≤ x ∧ x ≤ 4000) → (∀ x ∈ B, -4000 ≤ x ∧ x ≤ 4000) →
      wpSs G (drS 4 Claw) [.fz (.fro (ns.map .int)), .dp (.lst (ms.map .int)), .fz (.int n), .dp (.lst (A.map .int)), .dp (.lst (B.map .int)), .un, .un, .un, .un, .un, .un, .un] (endsD Kk) := fun ms n A B ml hD fc n2 a1 a2 b1 b2 ab bb => by
    obtain ⟨x30, h30, a30, c30⟩ := draw ml hD 30 (by decide)
    obtain ⟨x31, h31, a31, c31⟩ := draw ml hD 31 (by decide)
    obtain ⟨x32, h32, a32, c32⟩ := draw ml hD 32 (by decide)
    obtain ⟨x33, h33, a33, c33⟩ := draw ml hD 33 (by decide)
    obtain ⟨x55, h55, a55, c55⟩ := draw ml hD 55 (by decide)
    obtain ⟨x56, h56, a56, c56⟩ := draw ml hD 56 (by decide)
    obtain ⟨x57, h57, a57, c57⟩ := draw ml hD 57 (by decide)
    have n1 := fc.n1
    have at' : ∀ x ∈ A, x.natAbs < 10 ^ 51 := fun x hx => by have := ab x hx; omega
    have bt' : ∀ x ∈ B, x.natAbs < 10 ^ 51 := fun x hx => by have := bb x hx; omega
    have sz : Sz n A B := ⟨by omega, by omega, by omega, by omega, at', bt'⟩
    unfold Claw
    simp only [drS]
    walk_at "g1"
    try rw [G4]
    refine ⟨n, A, B, rfl, sz, ?_⟩
    walk_at "g1"
    try rw [G3]
    refine ⟨n, A, B, rfl, ⟨by omega, by have := sz.mul; omega⟩, fun d hd => ?_⟩
    obtain rfl : d = .non := by
      have e := hd.fac (by omega)
      rw [fc.facV] at e
      cases d <;> first | rfl | cases e
    dsimp only
    rw [if_neg (by decide)]
    walk_at "g1"
    refine rest_mk ?_
    walk_at "g1"
    refine ⟨x30, h30, by omega, ?_⟩
    have m0 := Int.emod_nonneg x30 (b := (B.length : Int)) (by omega)
    have m1 := Int.emod_lt_of_pos x30 (show (0 : Int) < B.length by omega)
    obtain ⟨t, et⟩ := Int.eq_ofNat_of_zero_le m0
    rw [et]
    have tl : t < B.length := by omega
    obtain ⟨y, hy⟩ : ∃ y, B[t]? = some y := ⟨_, List.getElem?_eq_getElem tl⟩
    obtain ⟨z, hz⟩ : ∃ z, B[0]? = some z := ⟨_, List.getElem?_eq_getElem (show 0 < B.length by omega)⟩
    have ay : L2.atI B (t : Int) = some y := atI_nat hy
    have az : L2.atI B 0 = some z := atI_nat (n := 0) hz
    have yb := bb y (List.mem_of_getElem? hy)
    have zb := bb z (List.mem_of_getElem? hz)
    have cb : ∀ lo hi, (cut B lo hi).length ≤ B.length ∧ ∀ x ∈ cut B lo hi, x.natAbs < 10 ^ 51 := fun lo hi => ⟨(cut_subl (xs := B)).length_le, fun x hx => bt' x ((cut_subl (xs := B)).subset hx)⟩
    have q1 := (cb none (some (t : Int))).1
    have q2 := (cb (some ((t : Int) + 1)) none).1
    have q3 := (cb (some 1) none).1
    have q4 := (cb none (some 1)).1
    walk_at "go"
    refine ⟨y, ay, ?_⟩
    walk_at "go"
    refine ⟨x31, h31, ?_⟩
    walk_at "go"
    refine ⟨y, ay, ?_⟩
    walk_at "go"
    refine ⟨x32, h32, by omega, ?_⟩
    try rw [G5]
    refine ⟨B, t, _, rfl, ⟨by omega, by omega⟩, ?_⟩
    walk_at "go"
    refine ⟨z, az, ?_⟩
    walk_at "go"
    refine ⟨z, az, ?_⟩
    try rw [G5]
    refine ⟨B, t, _, rfl, ⟨by omega, by omega⟩, ?_⟩
    walk_at "go"
    refine lcM B .int (fun v => v + 3) .int (fun Q hQ => by walk_at "go"; exact hQ) (fun i hi => by revert i; walk_at "go") (by rw [sizeLine_eq]; omega) (fun v hv kd h1 => ?_) ?_
    · have := bb v hv
      walk_at "go"
      exact h1 _ _ _ rfl (.inl rfl)
    walk_at "go"
    have each : ∀ w ∈ ([D.lst (List.map D.int (cut B none (some (t : Int)) ++ cut B (some ((t : Int) + 1)) none)), D.lst (List.map D.int (B ++ [y + x31 % 5])), D.lst (List.map D.int (List.take t B ++ [y + 1 + x32 % (n : Int)] ++ List.drop (t + 1) B))] ++
            [D.lst (List.map D.int (B ++ [z])), D.lst (List.map D.int (List.take t B ++ [z] ++ List.drop (t + 1) B)), D.lst (List.map D.int (List.map (fun v => v + 3) B)), D.lst (List.map D.int (cut B (some 1) none ++ cut B none (some 1)))]), ∃ O : List Int, w = .lst (O.map .int) ∧ O.length ≤ 100 ∧ ∀ x ∈ O, x.natAbs < 10 ^ 51 := by
      have app : ∀ {P Q : List Int}, P.length + Q.length ≤ 100 → (∀ x ∈ P, x.natAbs < 10 ^ 51) → (∀ x ∈ Q, x.natAbs < 10 ^ 51) → ∃ O : List Int, D.lst ((P ++ Q).map .int) = .lst (O.map .int) ∧ O.length ≤ 100 ∧ ∀ x ∈ O, x.natAbs < 10 ^ 51 := fun {P Q} h1 h3 h4 => ⟨P ++ Q, rfl, by rw [List.length_append]; omega, fun x hx => (List.mem_append.mp hx).elim (h3 x) (h4 x)⟩
      have app3 : ∀ v : Int, v.natAbs < 10 ^ 51 → ∃ O : List Int, D.lst ((List.take t B ++ [v] ++ List.drop (t + 1) B).map .int) = .lst (O.map .int) ∧ O.length ≤ 100 ∧ ∀ x ∈ O, x.natAbs < 10 ^ 51 := fun v hv => app (by rw [List.length_append, List.length_take, List.length_drop]; simp; omega) (fun x hx => by
        rcases List.mem_append.mp hx with hx | hx
        · exact bt' x (List.mem_of_mem_take hx)
        · rw [List.mem_singleton] at hx; subst hx; exact hv) fun x hx => bt' x (List.mem_of_mem_drop hx)
      have one : ∀ v : Int, v.natAbs < 10 ^ 51 → ∀ x ∈ [v], x.natAbs < 10 ^ 51 := fun v hv x hx => by rw [List.mem_singleton] at hx; subst hx; exact hv
      have xn := Int.emod_nonneg x32 (b := (n : Int)) (by omega)
      have xl := Int.emod_lt_of_pos x32 (show (0 : Int) < n by omega)
      have l1 : (cut B none (some (t : Int))).length + (cut B (some ((t : Int) + 1)) none).length ≤ 100 := by
        rw [cut_to (by omega), cut_from (by omega), List.length_take, List.length_drop]; omega
      have l7 : (cut B (some 1) none).length + (cut B none (some 1)).length ≤ 100 := by
        rw [cut_to (by omega), cut_from (by omega), List.length_take, List.length_drop]; omega
      intro w hw
      rcases List.mem_append.mp hw with hw | hw
      · rcases List.mem_cons.mp hw with rfl | hw
        · exact app l1 (cb _ _).2 (cb _ _).2
        rcases List.mem_cons.mp hw with rfl | hw
        · exact app (by simp; omega) bt' (one _ (by omega))
        rw [List.mem_singleton] at hw
        subst hw
        exact app3 _ (by omega)
      · rcases List.mem_cons.mp hw with rfl | hw
        · exact app (by simp; omega) bt' (one _ (by omega))
        rcases List.mem_cons.mp hw with rfl | hw
        · exact app3 _ (by omega)
        rcases List.mem_cons.mp hw with rfl | hw
        · refine ⟨B.map fun v => v + 3, rfl, by rw [List.length_map]; omega, fun x hx => ?_⟩
          obtain ⟨v, hv, rfl⟩ := List.mem_map.mp hx
          have := bb v hv
          omega
        rw [List.mem_singleton] at hw
        subst hw
        exact app l7 (cb _ _).2 (cb _ _).2
    have kim : (D.lst ([D.lst (List.map D.int (cut B none (some (t : Int)) ++ cut B (some ((t : Int) + 1)) none)), D.lst (List.map D.int (B ++ [y + x31 % 5])), D.lst (List.map D.int (List.take t B ++ [y + 1 + x32 % (n : Int)] ++ List.drop (t + 1) B))] ++
            [D.lst (List.map D.int (B ++ [z])), D.lst (List.map D.int (List.take t B ++ [z] ++ List.drop (t + 1) B)), D.lst (List.map D.int (List.map (fun v => v + 3) B)), D.lst (List.map D.int (cut B (some 1) none ++ cut B none (some 1)))])).kimm = false := rfl
    generalize [D.lst (List.map D.int (cut B none (some (t : Int)) ++ cut B (some ((t : Int) + 1)) none)), D.lst (List.map D.int (B ++ [y + x31 % 5])), D.lst (List.map D.int (List.take t B ++ [y + 1 + x32 % (n : Int)] ++ List.drop (t + 1) B))] ++
            [D.lst (List.map D.int (B ++ [z])), D.lst (List.map D.int (List.take t B ++ [z] ++ List.drop (t + 1) B)), D.lst (List.map D.int (List.map (fun v => v + 3) B)), D.lst (List.map D.int (cut B (some 1) none ++ cut B none (some 1)))] = Ws at *
    refine for_lent Ws (.dp (.lst Ws)) rfl rfl (fun k ρ => ρ = [.fz (.fro (ns.map .int)), .dp (.lst (ms.map .int)), .fz (.int n), .dp (.lst (A.map .int)), .dp (.lst (B.map .int)), .un, .ln (.lst Ws), .un, .un, .un, .un, .un]) rfl (fun k x ρ nxt bk hx q nn _ => ?_) (fun ρ q => ?_)
    · subst q
      obtain ⟨O, rfl, ol, ob⟩ := each x (List.mem_of_getElem? hx)
      refine ⟨by walk_at "go", ?_⟩
      show tgD (.one 8) (.lst (O.map .int)) _ _
      walk_at "go"
      unfold Claw_0
      walk_at "g1"
      have fin := nn _ rfl
      by_cases z : O = []
      · rw [if_neg (not_not_intro z)]
        refine rest_mk ?_
        walk_at "g1"
        rw [if_neg (not_not_intro z)]
        walk_at "go"
        exact fin
      · rw [if_pos z]
        by_cases c : (O.length : Int) ≤ 60
        · rw [if_pos c]
          try rw [G4]
          refine ⟨n, A, O, rfl, ⟨by omega, by omega, by omega, by omega, at', ob⟩, ?_⟩
          walk_at "g1"
          refine rest_mk ?_
          walk_at "g1"
          rw [if_pos z, if_pos c]
          try rw [G4]
          refine ⟨n, O, A, rfl, ⟨by omega, by omega, by omega, by omega, ob, at'⟩, ?_⟩
          walk_at "go"
          exact fin
        · rw [if_neg c]
          refine rest_mk ?_
          walk_at "g1"
          rw [if_pos z, if_neg c]
          walk_at "go"
          exact fin
    · subst q
      have ek : Cell.back (.dp (.lst Ws)) (.ln (.lst Ws)) = .tp (.lst Ws) := by
        show (if (D.lst Ws).kimm = true then Cell.dp (.lst Ws) else .tp (.lst Ws)) = _
        rw [kim]; rfl
      show rest G _ _ [.fz (.fro (ns.map .int)), .dp (.lst (ms.map .int)), .fz (.int n), .dp (.lst (A.map .int)), .dp (.lst (B.map .int)), .un, Cell.back (.dp (.lst Ws)) (.ln (.lst Ws)), .un, .un, .un, .un, .un]
      rw [ek]
      have tail12 : ∀ M : Int, 0 ≤ M → M ≤ 1000000000000 → wpSs G (drS 12 Claw) [.fz (.fro (ns.map .int)), .dp (.lst (ms.map .int)), .fz (.int n), .dp (.lst (A.map .int)), .dp (.lst (B.map .int)), .un, .tp (.lst Ws), .un, .un, .fz (.int M), .un, .un] (endsD Kk) := fun M m0 m1 => by
        unfold Claw
        simp only [drS]
        walk_at "g1"
        try rw [G6]
        refine ⟨ms, 34, M, rfl, ⟨hD, ml, by decide, m0, m1⟩, fun R1 r1 r2 rb => ?_⟩
        walk_at "g1"
        try rw [G6]
        refine ⟨ms, 45, M, rfl, ⟨hD, ml, by decide, m0, m1⟩, fun R2 s1 s2 sb => ?_⟩
        walk_at "go"
        have rs : R1.length * R2.length ≤ 8 * 8 := Nat.mul_le_mul r2 s2
        have rs1 : 1 ≤ R1.length * R2.length := Nat.mul_pos r1 s1
        have rsz : ((R1.length * R2.length : Nat) : Int) = (R1.length : Int) * R2.length := Int.natCast_mul ..
        refine for_open rfl ?_
        walk_at "go"
        refine ⟨x55, h55, ?_⟩
        walk_at "go"
        refine ⟨x56, h56, ?_⟩
        walk_at "g1"
        have each : ∀ w ∈ [D.int ((R1.length : Int) * R2.length), D.int 1, D.int (1 + x55 % 12), D.int (1 + x56 % 1000000)], ∃ m : Int, w = .int m ∧ Sz m R1 R2 := by
          have ok : ∀ m : Int, 1 ≤ m → m ≤ 1000000 → ∃ m' : Int, D.int m = .int m' ∧ Sz m' R1 R2 := fun m h1 h2 => ⟨m, rfl, h1, h2, by omega, by omega, rb, sb⟩
          intro w hw
          rcases List.mem_cons.mp hw with rfl | hw
          · exact ok _ (by omega) (by omega)
          rcases List.mem_cons.mp hw with rfl | hw
          · exact ok _ (by omega) (by omega)
          rcases List.mem_cons.mp hw with rfl | hw
          · exact ok _ (by omega) (by omega)
          rw [List.mem_singleton] at hw
          subst hw
          exact ok _ (by omega) (by omega)
        generalize [D.int ((R1.length : Int) * R2.length), D.int 1, D.int (1 + x55 % 12), D.int (1 + x56 % 1000000)] = ys at *
        refine forD_inv (fun k ρ => ρ = [.fz (.fro (ns.map .int)), .dp (.lst (ms.map .int)), .fz (.int n), .dp (.lst (A.map .int)), .dp (.lst (B.map .int)), .un, .un, .un, .dp (.lst (R2.map .int)), .un, .dp (.lst (R1.map .int)), .un]) rfl (fun k y ρ nxt bk hy q nn _ => ?_) (fun ρ q => ?_)
        · subst q
          obtain ⟨m, rfl, mz⟩ := each y (List.mem_of_getElem? hy)
          refine ⟨by walk_at "go", ?_⟩
          show tgD (.one 11) (.int m) _ _
          walk_at "go"
          unfold Claw_1
          walk_at "g1"
          try rw [G4]
          refine ⟨m, R1, R2, rfl, mz, ?_⟩
          walk_at "go"
          exact nn _ rfl
        · subst q
          show rest _ _ _ _
          refine rest_mk ?_
          walk_at "g1"
          refine ⟨x57, h57, ?_⟩
          walk_at "g1"
          by_cases c : x57 % 12 = 5
          · rw [if_pos c]
            try rw [G7]
            refine ⟨ms, rfl, ⟨hD, ml⟩, ?_⟩
            walk_at "go"
            try rw [G4]
            refine ⟨n, A, B, rfl, sz, ?_⟩
            walk_at "go"
            exact hK
          · rw [if_neg c]
            walk_at "go"
            try rw [G4]
            refine ⟨n, A, B, rfl, sz, ?_⟩
            walk_at "go"
            exact hK
      unfold Claw at tail12
      simp only [drS] at tail12
      refine rest_mk ?_
      walk_at "g1"
      refine rest_mk ?_
      walk_at "g1"
      refine ⟨x33, h33, ?_⟩
      walk_at "g1"
      by_cases c : x33 % 8 = 3
      · rw [if_pos c]
        have := tail12 900000000000 (by omega) (by omega)
        walk_at "g1"
        exact this
      · rw [if_neg c]
        have := tail12 30 (by omega) (by omega)
        exact this
  unfold Claw at tail4 ⊢
  simp only [drS] at tail4
  walk_at "g1"
  try rw [G0]
  refine ⟨ns, 60, rfl, by decide, fun ms ml hd => ?_⟩
  have hD : DrIn ms := hd
  have cutM : ∀ a b : Int, 0 ≤ a → a ≤ b → b ≤ 60 → (cut ms (some a) (some b)).length = b.toNat - a.toNat ∧ ∀ x ∈ cut ms (some a) (some b), 0 ≤ x ∧ x < 1000003 := fun a b h0 h1 h2 =>
    ⟨by rw [cut_mid h0 h1 (by omega), List.length_take, List.length_drop]; omega, fun x hx => hD x ((cut_subl (xs := ms)).subset hx)⟩
  obtain ⟨k1, k2⟩ := cutM 0 8 (by decide) (by decide) (by decide)
  obtain ⟨k3, k4⟩ := cutM 10 20 (by decide) (by decide) (by decide)
  obtain ⟨k5, k6⟩ := cutM 20 30 (by decide) (by decide) (by decide)
  walk_at "g1"
  refine rest_mk ?_
  walk_at "g1"
  try rw [G1]
  refine ⟨_, rfl, ⟨k1, k2⟩, fun n A B md => ?_⟩
  have n1 := md.n1
  have n2 := md.n2
  obtain ⟨⟨la1, la2⟩, lb1, lb2⟩ := md.l
  walk_at "g1"
  refine rest_mk ?_
  walk_at "g1"
  try rw [G2]
  refine ⟨n, A, _, rfl, ⟨n1, by omega, la1, by omega, md.ba, by omega, by omega, k4⟩, fun R sR bR => ?_⟩
  walk_at "g1"
  refine rest_mk ?_
  walk_at "g1"
  try rw [G2]
  refine ⟨n, B, _, rfl, ⟨n1, by omega, lb1, by omega, md.bb, by omega, by omega, k6⟩, fun S sS bS => ?_⟩
  walk_at "g1"
  have := sR.len
  have := sS.len
  exact tail4 ms n R S ml hD (md.toFct.sim sR sS) n2 (by omega) (by omega) (by omega) (by omega) (fun x hx => by have := bR x hx; omega) (fun x hx => by have := bS x hx; omega)

/-! ### the text -/
def topS (i : Nat) : Stmt := PySem.Challenge.pw_daysround_k34_faults.main.body.getD i (.Pass ⟨0, 0, 0, 0⟩)
theorem sc_law_draws : FnScope T_law_draws.N ["script", "many"] (defScope (topS 9)) := ⟨rfl, rfl, rfl, by decide +kernel, rfl, by decide +kernel, by decide +kernel⟩
theorem ok_law_draws : okSs T_law_draws (defScope (topS 9)).names C_law_draws (defBody (topS 9)) = true := by decide +kernel
theorem sc_law_added : FnScope T_law_added.N ["ones", "others"] (defScope (topS 15)) := ⟨rfl, rfl, rfl, by decide +kernel, rfl, by decide +kernel, by decide +kernel⟩
theorem ok_law_added : okSs T_law_added (defScope (topS 15)).names C_law_added (defBody (topS 15)) = true := by decide +kernel
theorem sc_law_factoring : FnScope T_law_factoring.N ["cells"] (defScope (topS 13)) := ⟨rfl, rfl, rfl, by decide +kernel, rfl, by decide +kernel, by decide +kernel⟩
theorem ok_law_factoring : okSs T_law_factoring (defScope (topS 13)).names C_law_factoring (defBody (topS 13)) = true := by decide +kernel
theorem sc_law_shaken : FnScope T_law_shaken.N ["n", "days", "cells"] (defScope (topS 14)) := ⟨rfl, rfl, rfl, by decide +kernel, rfl, by decide +kernel, by decide +kernel⟩
theorem ok_law_shaken : okSs T_law_shaken (defScope (topS 14)).names C_law_shaken (defBody (topS 14)) = true := by decide +kernel
theorem scremainders_of_sums : FnScope Tremainders_of_sums.N ["n", "first", "second"] (defScope (topS 4)) := ⟨rfl, rfl, rfl, by decide +kernel, rfl, by decide +kernel, by decide +kernel⟩
theorem okremainders_of_sums : okSs Tremainders_of_sums (defScope (topS 4)).names Cremainders_of_sums (defBody (topS 4)) = true := by decide +kernel
theorem scleast_missing : FnScope Tleast_missing.N ["counts"] (defScope (topS 6)) := ⟨rfl, rfl, rfl, by decide +kernel, rfl, by decide +kernel, by decide +kernel⟩
theorem okleast_missing : okSs Tleast_missing (defScope (topS 6)).names Cleast_missing (defBody (topS 6)) = true := by decide +kernel
theorem scfault_of : FnScope Tfault_of.N ["n", "first", "second"] (defScope (topS 7)) := ⟨rfl, rfl, rfl, by decide +kernel, rfl, by decide +kernel, by decide +kernel⟩
theorem okfault_of : okSs Tfault_of (defScope (topS 7)).names Cfault_of (defBody (topS 7)) = true := by decide +kernel
theorem sc_law_due : FnScope T_law_due.N ["n", "first", "second"] (defScope (topS 16)) := ⟨rfl, rfl, rfl, by decide +kernel, rfl, by decide +kernel, by decide +kernel⟩
theorem ok_law_due : okSs T_law_due (defScope (topS 16)).names C_law_due (defBody (topS 16)) = true := by decide +kernel
theorem sc_law_is_number : FnScope T_law_is_number.N ["value"] (defScope (topS 10)) := ⟨rfl, rfl, rfl, by decide +kernel, rfl, by decide +kernel, by decide +kernel⟩
theorem ok_law_is_number : okSs T_law_is_number (defScope (topS 10)).names C_law_is_number (defBody (topS 10)) = true := by decide +kernel
theorem sc_law_tagged : FnScope T_law_tagged.N ["paper", "tag", "length"] (defScope (topS 11)) := ⟨rfl, rfl, rfl, by decide +kernel, rfl, by decide +kernel, by decide +kernel⟩
theorem ok_law_tagged : okSs T_law_tagged (defScope (topS 11)).names C_law_tagged (defBody (topS 11)) = true := by decide +kernel
theorem scis_number : FnScope Tis_number.N ["value"] (defScope (topS 1)) := ⟨rfl, rfl, rfl, by decide +kernel, rfl, by decide +kernel, by decide +kernel⟩
theorem okis_number : okSs Tis_number (defScope (topS 1)).names Cis_number (defBody (topS 1)) = true := by decide +kernel
theorem scis_numbers : FnScope Tis_numbers.N ["value"] (defScope (topS 2)) := ⟨rfl, rfl, rfl, by decide +kernel, rfl, by decide +kernel, by decide +kernel⟩
theorem okis_numbers : okSs Tis_numbers (defScope (topS 2)).names Cis_numbers (defBody (topS 2)) = true := by decide +kernel
theorem scis_factoring : FnScope Tis_factoring.N ["n", "first", "second"] (defScope (topS 5)) := ⟨rfl, rfl, rfl, by decide +kernel, rfl, by decide +kernel, by decide +kernel⟩
theorem okis_factoring : okSs Tis_factoring (defScope (topS 5)).names Cis_factoring (defBody (topS 5)) = true := by decide +kernel
theorem sc_law_told : FnScope T_law_told.N ["n", "first", "second"] (defScope (topS 17)) := ⟨rfl, rfl, rfl, by decide +kernel, rfl, by decide +kernel, by decide +kernel⟩
theorem ok_law_told : okSs T_law_told (defScope (topS 17)).names C_law_told (defBody (topS 17)) = true := by decide +kernel
theorem sc_law_put : FnScope T_law_put.N ["line", "at", "item"] (defScope (topS 12)) := ⟨rfl, rfl, rfl, by decide +kernel, rfl, by decide +kernel, by decide +kernel⟩
theorem ok_law_put : okSs T_law_put (defScope (topS 12)).names C_law_put (defBody (topS 12)) = true := by decide +kernel
theorem sc_law_free : FnScope T_law_free.N ["draws", "at", "most"] (defScope (topS 18)) := ⟨rfl, rfl, rfl, by decide +kernel, rfl, by decide +kernel, by decide +kernel⟩
theorem ok_law_free : okSs T_law_free (defScope (topS 18)).names C_law_free (defBody (topS 18)) = true := by decide +kernel
theorem sc_law_great : FnScope T_law_great.N ["draws"] (defScope (topS 19)) := ⟨rfl, rfl, rfl, by decide +kernel, rfl, by decide +kernel, by decide +kernel⟩
theorem ok_law_great : okSs T_law_great (defScope (topS 19)).names C_law_great (defBody (topS 19)) = true := by decide +kernel
theorem sclaw : FnScope Tlaw.N ["script"] (defScope (topS 20)) := ⟨rfl, rfl, rfl, by decide +kernel, rfl, by decide +kernel, by decide +kernel⟩
theorem oklaw : okSs Tlaw (defScope (topS 20)).names Claw (defBody (topS 20)) = true := by decide +kernel
theorem ln_law_draws : ∀ ds Kk, Sp_law_draws ds Kk → ds.length = 2 := fun ds Kk h => by
  obtain ⟨_, _, rfl, _⟩ := h
  rfl
theorem ln_law_added : ∀ ds Kk, Sp_law_added ds Kk → ds.length = 2 := fun ds Kk h => by
  obtain ⟨_, _, rfl, _⟩ := h
  rfl
theorem ln_law_factoring : ∀ ds Kk, Sp_law_factoring ds Kk → ds.length = 1 := fun ds Kk h => by
  obtain ⟨_, rfl, _⟩ := h
  rfl
theorem ln_law_shaken : ∀ ds Kk, Sp_law_shaken ds Kk → ds.length = 3 := fun ds Kk h => by
  obtain ⟨_, _, _, rfl, _⟩ := h
  rfl
theorem lnremainders_of_sums : ∀ ds Kk, Spremainders_of_sums ds Kk → ds.length = 3 := fun ds Kk h => by
  obtain ⟨_, _, _, rfl, _⟩ := h
  rfl
theorem lnleast_missing : ∀ ds Kk, Spleast_missing ds Kk → ds.length = 1 := fun ds Kk h => by
  obtain ⟨_, rfl, _⟩ := h
  rfl
theorem lnfault_of : ∀ ds Kk, Spfault_of ds Kk → ds.length = 3 := fun ds Kk h => by
  obtain ⟨_, _, _, rfl, _⟩ := h
  rfl
theorem ln_law_due : ∀ ds Kk, Sp_law_due ds Kk → ds.length = 3 := fun ds Kk h => by
  obtain ⟨_, _, _, rfl, _⟩ := h
  rfl
theorem ln_law_is_number : ∀ ds Kk, Sp_law_is_number ds Kk → ds.length = 1 := fun ds Kk h => by
  obtain ⟨_, rfl, _⟩ := h
  rfl
theorem ln_law_tagged : ∀ ds Kk, Sp_law_tagged ds Kk → ds.length = 3 := fun ds Kk h => by
  obtain ⟨_, _, _, rfl, _⟩ := h
  rfl
theorem lnis_number : ∀ ds Kk, Spis_number ds Kk → ds.length = 1 := fun ds Kk h => by
  obtain ⟨_, rfl, _⟩ := h
  rfl
theorem lnis_numbers : ∀ ds Kk, Spis_numbers ds Kk → ds.length = 1 := fun ds Kk h => by
  obtain ⟨_, rfl, _⟩ := h
  rfl
theorem lnis_factoring : ∀ ds Kk, Spis_factoring ds Kk → ds.length = 3 := fun ds Kk h => by
  obtain ⟨_, _, _, rfl, _⟩ := h
  rfl
theorem ln_law_told : ∀ ds Kk, Sp_law_told ds Kk → ds.length = 3 := fun ds Kk h => by
  obtain ⟨_, _, _, rfl, _⟩ := h
  rfl
theorem ln_law_put : ∀ ds Kk, Sp_law_put ds Kk → ds.length = 3 := fun ds Kk h => by
  obtain ⟨_, _, _, rfl, _⟩ := h
  rfl
theorem ln_law_free : ∀ ds Kk, Sp_law_free ds Kk → ds.length = 3 := fun ds Kk h => by
  obtain ⟨_, _, _, rfl, _⟩ := h
  rfl
theorem ln_law_great : ∀ ds Kk, Sp_law_great ds Kk → ds.length = 1 := fun ds Kk h => by
  obtain ⟨_, rfl, _⟩ := h
  rfl
theorem lnlaw : ∀ ds Kk, Splaw ds Kk → ds.length = 1 := fun ds Kk h => by
  obtain ⟨_, rfl, _⟩ := h
  rfl
/-! ### what the top has written; the law -/
theorem all_mk {l : PySem.W.OpenLaw} {w : World} {K : PySem.W.Frag} {h : Heap} {mg : Str → Option Value} {fa f0 f1 f2 f3 f4 f5 f6 f7 f8 f9 f10 f11 f12 f13 f14 f15 f16 f17 : Addr} (X : K.In h) (G : h.Ns mainGlobals mg) (hfa : mg "law" = some (.ref fa))
    {od0 an0 od1 an1 od2 an2 od3 an3 od4 an4 od5 an5 od6 an6 od7 an7 od8 an8 od9 an9 od10 an10 od11 an11 od12 an12 od13 an13 od14 an14 od15 an15 od16 an16 od17 an17 : Option Addr} {sl0 sl1 sl2 sl3 sl4 sl5 sl6 sl7 sl8 sl9 sl10 sl11 sl12 sl13 sl14 sl15 sl16 sl17 : Array (Option Value)} {oc0 kV0 dc0 pm0 cd0 ct0 oc1 kV1 dc1 pm1 cd1 ct1 oc2 kV2 dc2 pm2 cd2 ct2 oc3 kV3 dc3 pm3 cd3 ct3 oc4 kV4 dc4 pm4 cd4 ct4 oc5 kV5 dc5 pm5 cd5 ct5 oc6 kV6 dc6 pm6 cd6 ct6 oc7 kV7 dc7 pm7 cd7 ct7 oc8 kV8 dc8 pm8 cd8 ct8 oc9 kV9 dc9 pm9 cd9 ct9 oc10 kV10 dc10 pm10 cd10 ct10 oc11 kV11 dc11 pm11 cd11 ct11 oc12 kV12 dc12 pm12 cd12 ct12 oc13 kV13 dc13 pm13 cd13 ct13 oc14 kV14 dc14 pm14 cd14 ct14 oc15 kV15 dc15 pm15 cd15 ct15 oc16 kV16 dc16 pm16 cd16 ct16 oc17 kV17 dc17 pm17 cd17 ct17 : Value}
    (a0 : PySem.W.nsIn K mainGlobals "_law_draws" = some (some (.ref f0))) (l0 : K.lookup f0 = some ⟨oc0, od0, .func (PySem.W.fnOf "_law_draws" "_law_draws" (defArgs (topS 9)) (defBody (topS 9)) (defScope (topS 9)) .none kV0 dc0 pm0 an0 cd0 ct0), sl0⟩) (c0 : PySem.W.codeIn K cd0 "_law_draws" = true) (k0 : PySem.W.keepIn K (.ref f0) = true)
    (a1 : PySem.W.nsIn K mainGlobals "_law_added" = some (some (.ref f1))) (l1 : K.lookup f1 = some ⟨oc1, od1, .func (PySem.W.fnOf "_law_added" "_law_added" (defArgs (topS 15)) (defBody (topS 15)) (defScope (topS 15)) .none kV1 dc1 pm1 an1 cd1 ct1), sl1⟩) (c1 : PySem.W.codeIn K cd1 "_law_added" = true) (k1 : PySem.W.keepIn K (.ref f1) = true)
    (a2 : PySem.W.nsIn K mainGlobals "_law_factoring" = some (some (.ref f2))) (l2 : K.lookup f2 = some ⟨oc2, od2, .func (PySem.W.fnOf "_law_factoring" "_law_factoring" (defArgs (topS 13)) (defBody (topS 13)) (defScope (topS 13)) .none kV2 dc2 pm2 an2 cd2 ct2), sl2⟩) (c2 : PySem.W.codeIn K cd2 "_law_factoring" = true) (k2 : PySem.W.keepIn K (.ref f2) = true)
    (a3 : PySem.W.nsIn K mainGlobals "_law_shaken" = some (some (.ref f3))) (l3 : K.lookup f3 = some ⟨oc3, od3, .func (PySem.W.fnOf "_law_shaken" "_law_shaken" (defArgs (topS 14)) (defBody (topS 14)) (defScope (topS 14)) .none kV3 dc3 pm3 an3 cd3 ct3), sl3⟩) (c3 : PySem.W.codeIn K cd3 "_law_shaken" = true) (k3 : PySem.W.keepIn K (.ref f3) = true)
    (a4 : PySem.W.nsIn K mainGlobals "remainders_of_sums" = some (some (.ref f4))) (l4 : K.lookup f4 = some ⟨oc4, od4, .func (PySem.W.fnOf "remainders_of_sums" "remainders_of_sums" (defArgs (topS 4)) (defBody (topS 4)) (defScope (topS 4)) .none kV4 dc4 pm4 an4 cd4 ct4), sl4⟩) (c4 : PySem.W.codeIn K cd4 "remainders_of_sums" = true) (k4 : PySem.W.keepIn K (.ref f4) = true)
    (a5 : PySem.W.nsIn K mainGlobals "least_missing" = some (some (.ref f5))) (l5 : K.lookup f5 = some ⟨oc5, od5, .func (PySem.W.fnOf "least_missing" "least_missing" (defArgs (topS 6)) (defBody (topS 6)) (defScope (topS 6)) .none kV5 dc5 pm5 an5 cd5 ct5), sl5⟩) (c5 : PySem.W.codeIn K cd5 "least_missing" = true) (k5 : PySem.W.keepIn K (.ref f5) = true)
    (a6 : PySem.W.nsIn K mainGlobals "fault_of" = some (some (.ref f6))) (l6 : K.lookup f6 = some ⟨oc6, od6, .func (PySem.W.fnOf "fault_of" "fault_of" (defArgs (topS 7)) (defBody (topS 7)) (defScope (topS 7)) .none kV6 dc6 pm6 an6 cd6 ct6), sl6⟩) (c6 : PySem.W.codeIn K cd6 "fault_of" = true) (k6 : PySem.W.keepIn K (.ref f6) = true)
    (a7 : PySem.W.nsIn K mainGlobals "_law_due" = some (some (.ref f7))) (l7 : K.lookup f7 = some ⟨oc7, od7, .func (PySem.W.fnOf "_law_due" "_law_due" (defArgs (topS 16)) (defBody (topS 16)) (defScope (topS 16)) .none kV7 dc7 pm7 an7 cd7 ct7), sl7⟩) (c7 : PySem.W.codeIn K cd7 "_law_due" = true) (k7 : PySem.W.keepIn K (.ref f7) = true)
    (a8 : PySem.W.nsIn K mainGlobals "_law_is_number" = some (some (.ref f8))) (l8 : K.lookup f8 = some ⟨oc8, od8, .func (PySem.W.fnOf "_law_is_number" "_law_is_number" (defArgs (topS 10)) (defBody (topS 10)) (defScope (topS 10)) .none kV8 dc8 pm8 an8 cd8 ct8), sl8⟩) (c8 : PySem.W.codeIn K cd8 "_law_is_number" = true) (k8 : PySem.W.keepIn K (.ref f8) = true)
    (a9 : PySem.W.nsIn K mainGlobals "_law_tagged" = some (some (.ref f9))) (l9 : K.lookup f9 = some ⟨oc9, od9, .func (PySem.W.fnOf "_law_tagged" "_law_tagged" (defArgs (topS 11)) (defBody (topS 11)) (defScope (topS 11)) .none kV9 dc9 pm9 an9 cd9 ct9), sl9⟩) (c9 : PySem.W.codeIn K cd9 "_law_tagged" = true) (k9 : PySem.W.keepIn K (.ref f9) = true)
    (a10 : PySem.W.nsIn K mainGlobals "is_number" = some (some (.ref f10))) (l10 : K.lookup f10 = some ⟨oc10, od10, .func (PySem.W.fnOf "is_number" "is_number" (defArgs (topS 1)) (defBody (topS 1)) (defScope (topS 1)) .none kV10 dc10 pm10 an10 cd10 ct10), sl10⟩) (c10 : PySem.W.codeIn K cd10 "is_number" = true) (k10 : PySem.W.keepIn K (.ref f10) = true)
    (a11 : PySem.W.nsIn K mainGlobals "is_numbers" = some (some (.ref f11))) (l11 : K.lookup f11 = some ⟨oc11, od11, .func (PySem.W.fnOf "is_numbers" "is_numbers" (defArgs (topS 2)) (defBody (topS 2)) (defScope (topS 2)) .none kV11 dc11 pm11 an11 cd11 ct11), sl11⟩) (c11 : PySem.W.codeIn K cd11 "is_numbers" = true) (k11 : PySem.W.keepIn K (.ref f11) = true)
    (a12 : PySem.W.nsIn K mainGlobals "is_factoring" = some (some (.ref f12))) (l12 : K.lookup f12 = some ⟨oc12, od12, .func (PySem.W.fnOf "is_factoring" "is_factoring" (defArgs (topS 5)) (defBody (topS 5)) (defScope (topS 5)) .none kV12 dc12 pm12 an12 cd12 ct12), sl12⟩) (c12 : PySem.W.codeIn K cd12 "is_factoring" = true) (k12 : PySem.W.keepIn K (.ref f12) = true)
    (a13 : PySem.W.nsIn K mainGlobals "_law_told" = some (some (.ref f13))) (l13 : K.lookup f13 = some ⟨oc13, od13, .func (PySem.W.fnOf "_law_told" "_law_told" (defArgs (topS 17)) (defBody (topS 17)) (defScope (topS 17)) .none kV13 dc13 pm13 an13 cd13 ct13), sl13⟩) (c13 : PySem.W.codeIn K cd13 "_law_told" = true) (k13 : PySem.W.keepIn K (.ref f13) = true)
    (a14 : PySem.W.nsIn K mainGlobals "_law_put" = some (some (.ref f14))) (l14 : K.lookup f14 = some ⟨oc14, od14, .func (PySem.W.fnOf "_law_put" "_law_put" (defArgs (topS 12)) (defBody (topS 12)) (defScope (topS 12)) .none kV14 dc14 pm14 an14 cd14 ct14), sl14⟩) (c14 : PySem.W.codeIn K cd14 "_law_put" = true) (k14 : PySem.W.keepIn K (.ref f14) = true)
    (a15 : PySem.W.nsIn K mainGlobals "_law_free" = some (some (.ref f15))) (l15 : K.lookup f15 = some ⟨oc15, od15, .func (PySem.W.fnOf "_law_free" "_law_free" (defArgs (topS 18)) (defBody (topS 18)) (defScope (topS 18)) .none kV15 dc15 pm15 an15 cd15 ct15), sl15⟩) (c15 : PySem.W.codeIn K cd15 "_law_free" = true) (k15 : PySem.W.keepIn K (.ref f15) = true)
    (a16 : PySem.W.nsIn K mainGlobals "_law_great" = some (some (.ref f16))) (l16 : K.lookup f16 = some ⟨oc16, od16, .func (PySem.W.fnOf "_law_great" "_law_great" (defArgs (topS 19)) (defBody (topS 19)) (defScope (topS 19)) .none kV16 dc16 pm16 an16 cd16 ct16), sl16⟩) (c16 : PySem.W.codeIn K cd16 "_law_great" = true) (k16 : PySem.W.keepIn K (.ref f16) = true)
    (a17 : PySem.W.nsIn K mainGlobals "law" = some (some (.ref f17))) (l17 : K.lookup f17 = some ⟨oc17, od17, .func (PySem.W.fnOf "law" "law" (defArgs (topS 20)) (defBody (topS 20)) (defScope (topS 20)) .none kV17 dc17 pm17 an17 cd17 ct17), sl17⟩) (c17 : PySem.W.codeIn K cd17 "law" = true) (k17 : PySem.W.keepIn K (.ref f17) = true)
    (z0 : PySem.W.nsIn K mainGlobals "abs" = some none)
    (z1 : PySem.W.nsIn K mainGlobals "bool" = some none)
    (z2 : PySem.W.nsIn K mainGlobals "int" = some none)
    (z3 : PySem.W.nsIn K mainGlobals "isinstance" = some none)
    (z4 : PySem.W.nsIn K mainGlobals "len" = some none)
    (z5 : PySem.W.nsIn K mainGlobals "list" = some none)
    (z6 : PySem.W.nsIn K mainGlobals "max" = some none)
    (z7 : PySem.W.nsIn K mainGlobals "min" = some none)
    (z8 : PySem.W.nsIn K mainGlobals "range" = some none)
    (z9 : PySem.W.nsIn K mainGlobals "sorted" = some none)
    (z10 : PySem.W.nsIn K mainGlobals "str" = some none)
    (z11 : PySem.W.nsIn K mainGlobals "tuple" = some none)
    : ∃ fd : FuncData, (∀ (s : Shared) (v : Value), BindsTo s fd ⟨[v], []⟩ [("script", v)]) ∧ ∀ base : Heap, K.In base → base.Ns mainGlobals mg → FnG l.prog w K mg base 6 fa fd ["script"] (spOf K 1 SpLaw) := by
  have e := hfa.symm.trans (PySem.W.mg_of X G a17)
  cases e
  have F0 := fun_mk (st := topS 9) l0 c0 k0
  have F1 := fun_mk (st := topS 15) l1 c1 k1
  have F2 := fun_mk (st := topS 13) l2 c2 k2
  have F3 := fun_mk (st := topS 14) l3 c3 k3
  have F4 := fun_mk (st := topS 4) l4 c4 k4
  have F5 := fun_mk (st := topS 6) l5 c5 k5
  have F6 := fun_mk (st := topS 7) l6 c6 k6
  have F7 := fun_mk (st := topS 16) l7 c7 k7
  have F8 := fun_mk (st := topS 10) l8 c8 k8
  have F9 := fun_mk (st := topS 11) l9 c9 k9
  have F10 := fun_mk (st := topS 1) l10 c10 k10
  have F11 := fun_mk (st := topS 2) l11 c11 k11
  have F12 := fun_mk (st := topS 5) l12 c12 k12
  have F13 := fun_mk (st := topS 17) l13 c13 k13
  have F14 := fun_mk (st := topS 12) l14 c14 k14
  have F15 := fun_mk (st := topS 18) l15 c15 k15
  have F16 := fun_mk (st := topS 19) l16 c16 k16
  have F17 := fun_mk (st := topS 20) l17 c17 k17
  have b0 := F0.binds (ps := ["script", "many"]) fun _ _ _ _ _ _ us hl => match us, hl with | [_, _], _ => rfl
  have b1 := F1.binds (ps := ["ones", "others"]) fun _ _ _ _ _ _ us hl => match us, hl with | [_, _], _ => rfl
  have b2 := F2.binds (ps := ["cells"]) fun _ _ _ _ _ _ us hl => match us, hl with | [_], _ => rfl
  have b3 := F3.binds (ps := ["n", "days", "cells"]) fun _ _ _ _ _ _ us hl => match us, hl with | [_, _, _], _ => rfl
  have b4 := F4.binds (ps := ["n", "first", "second"]) fun _ _ _ _ _ _ us hl => match us, hl with | [_, _, _], _ => rfl
  have b5 := F5.binds (ps := ["counts"]) fun _ _ _ _ _ _ us hl => match us, hl with | [_], _ => rfl
  have b6 := F6.binds (ps := ["n", "first", "second"]) fun _ _ _ _ _ _ us hl => match us, hl with | [_, _, _], _ => rfl
  have b7 := F7.binds (ps := ["n", "first", "second"]) fun _ _ _ _ _ _ us hl => match us, hl with | [_, _, _], _ => rfl
  have b8 := F8.binds (ps := ["value"]) fun _ _ _ _ _ _ us hl => match us, hl with | [_], _ => rfl
  have b9 := F9.binds (ps := ["paper", "tag", "length"]) fun _ _ _ _ _ _ us hl => match us, hl with | [_, _, _], _ => rfl
  have b10 := F10.binds (ps := ["value"]) fun _ _ _ _ _ _ us hl => match us, hl with | [_], _ => rfl
  have b11 := F11.binds (ps := ["value"]) fun _ _ _ _ _ _ us hl => match us, hl with | [_], _ => rfl
  have b12 := F12.binds (ps := ["n", "first", "second"]) fun _ _ _ _ _ _ us hl => match us, hl with | [_, _, _], _ => rfl
  have b13 := F13.binds (ps := ["n", "first", "second"]) fun _ _ _ _ _ _ us hl => match us, hl with | [_, _, _], _ => rfl
  have b14 := F14.binds (ps := ["line", "at", "item"]) fun _ _ _ _ _ _ us hl => match us, hl with | [_, _, _], _ => rfl
  have b15 := F15.binds (ps := ["draws", "at", "most"]) fun _ _ _ _ _ _ us hl => match us, hl with | [_, _, _], _ => rfl
  have b16 := F16.binds (ps := ["draws"]) fun _ _ _ _ _ _ us hl => match us, hl with | [_], _ => rfl
  have y0 := PySem.W.mg_none_of X G z0
  have y1 := PySem.W.mg_none_of X G z1
  have y2 := PySem.W.mg_none_of X G z2
  have y3 := PySem.W.mg_none_of X G z3
  have y4 := PySem.W.mg_none_of X G z4
  have y5 := PySem.W.mg_none_of X G z5
  have y6 := PySem.W.mg_none_of X G z6
  have y7 := PySem.W.mg_none_of X G z7
  have y8 := PySem.W.mg_none_of X G z8
  have y9 := PySem.W.mg_none_of X G z9
  have y10 := PySem.W.mg_none_of X G z10
  have y11 := PySem.W.mg_none_of X G z11
  refine ⟨PySem.W.fnOf "law" "law" (defArgs (topS 20)) (defBody (topS 20)) (defScope (topS 20)) .none kV17 dc17 pm17 an17 cd17 ct17, fun s v => .of_eq rfl, fun base _ _ => ?_⟩
  have x0 : CallIn l.prog w K mg base 1 false "_law_draws" Sp_law_draws := call_okW false F0 (PySem.W.mg_of X G a0) b0 T_law_draws sc_law_draws [] C_law_draws ok_law_draws 0 calls_n (blt_c y0 (blt_c y2 (blt_c y8 (blt_c y4 blt_n)))) con_n Sp_law_draws ln_law_draws wp_law_draws
  have x1 : CallIn l.prog w K mg base 1 false "_law_added" Sp_law_added := call_okW false F1 (PySem.W.mg_of X G a1) b1 T_law_added sc_law_added [] C_law_added ok_law_added 0 calls_n blt_n con_n Sp_law_added ln_law_added wp_law_added
  have x2 : CallIn l.prog w K mg base 2 false "_law_factoring" Sp_law_factoring := call_okW false F2 (PySem.W.mg_of X G a2) b2 T_law_factoring sc_law_factoring [Sp_law_added] C_law_factoring ok_law_factoring 1 (calls_c x1 (by decide) calls_n) (blt_c y8 (blt_c y5 blt_n)) con_n Sp_law_factoring ln_law_factoring wp_law_factoring
  have x3 : CallIn l.prog w K mg base 1 false "_law_shaken" Sp_law_shaken := call_okW false F3 (PySem.W.mg_of X G a3) b3 T_law_shaken sc_law_shaken [] C_law_shaken ok_law_shaken 0 calls_n (blt_c y8 (blt_c y4 blt_n)) con_n Sp_law_shaken ln_law_shaken wp_law_shaken
  have x4 : CallIn l.prog w K mg base 1 false "remainders_of_sums" Spremainders_of_sums := call_okW false F4 (PySem.W.mg_of X G a4) b4 Tremainders_of_sums scremainders_of_sums [] Cremainders_of_sums okremainders_of_sums 0 calls_n blt_n con_n Spremainders_of_sums lnremainders_of_sums wpremainders_of_sums
  have x5 : CallIn l.prog w K mg base 1 false "least_missing" Spleast_missing := call_okW false F5 (PySem.W.mg_of X G a5) b5 Tleast_missing scleast_missing [] Cleast_missing okleast_missing 0 calls_n (blt_c y8 (blt_c y4 blt_n)) con_n Spleast_missing lnleast_missing wpleast_missing
  have x6 : CallIn l.prog w K mg base 2 false "fault_of" Spfault_of := call_okW false F6 (PySem.W.mg_of X G a6) b6 Tfault_of scfault_of [Spremainders_of_sums, Spleast_missing] Cfault_of okfault_of 1 (calls_c x4 (by decide) (calls_c x5 (by decide) calls_n)) (blt_c y7 (blt_c y4 blt_n)) con_n Spfault_of lnfault_of wpfault_of
  have x7 : CallIn l.prog w K mg base 1 false "_law_due" Sp_law_due := call_okW false F7 (PySem.W.mg_of X G a7) b7 T_law_due sc_law_due [] C_law_due ok_law_due 0 calls_n (blt_c y9 (blt_c y8 (blt_c y7 (blt_c y4 blt_n)))) con_n Sp_law_due ln_law_due wp_law_due
  have x8 : CallIn l.prog w K mg base 1 false "_law_is_number" Sp_law_is_number := call_okW false F8 (PySem.W.mg_of X G a8) b8 T_law_is_number sc_law_is_number [] C_law_is_number ok_law_is_number 0 calls_n (blt_c y3 (blt_c y1 (blt_c y2 blt_n))) con_n Sp_law_is_number ln_law_is_number wp_law_is_number
  have x9 : CallIn l.prog w K mg base 1 false "_law_tagged" Sp_law_tagged := call_okW false F9 (PySem.W.mg_of X G a9) b9 T_law_tagged sc_law_tagged [] C_law_tagged ok_law_tagged 0 calls_n (blt_c y3 (blt_c y10 (blt_c y4 (blt_c y11 blt_n)))) con_n Sp_law_tagged ln_law_tagged wp_law_tagged
  have x10 : CallIn l.prog w K mg base 1 false "is_number" Spis_number := call_okW false F10 (PySem.W.mg_of X G a10) b10 Tis_number scis_number [] Cis_number okis_number 0 calls_n (blt_c y3 (blt_c y1 (blt_c y2 blt_n))) con_n Spis_number lnis_number wpis_number
  have x11 : CallIn l.prog w K mg base 2 false "is_numbers" Spis_numbers := call_okW false F11 (PySem.W.mg_of X G a11) b11 Tis_numbers scis_numbers [Spis_number] Cis_numbers okis_numbers 1 (calls_c x10 (by decide) calls_n) (blt_c y3 (blt_c y5 blt_n)) con_n Spis_numbers lnis_numbers wpis_numbers
  have x12 : CallIn l.prog w K mg base 3 false "is_factoring" Spis_factoring := call_okW false F12 (PySem.W.mg_of X G a12) b12 Tis_factoring scis_factoring [Spis_numbers, Spremainders_of_sums] Cis_factoring okis_factoring 2 (calls_c x11 (by decide) (calls_c x4 (by decide) calls_n)) (blt_c y4 blt_n) con_n Spis_factoring lnis_factoring wpis_factoring
  have x13 : CallIn l.prog w K mg base 4 false "_law_told" Sp_law_told := call_okW false F13 (PySem.W.mg_of X G a13) b13 T_law_told sc_law_told [Sp_law_due, Spfault_of, Sp_law_is_number, Sp_law_tagged, Spis_factoring] C_law_told ok_law_told 3 (calls_c x7 (by decide) (calls_c x6 (by decide) (calls_c x8 (by decide) (calls_c x9 (by decide) (calls_c x12 (by decide) calls_n))))) (blt_c y5 (blt_c y8 blt_n)) con_n Sp_law_told ln_law_told wp_law_told
  have x14 : CallIn l.prog w K mg base 1 false "_law_put" Sp_law_put := call_okW false F14 (PySem.W.mg_of X G a14) b14 T_law_put sc_law_put [] C_law_put ok_law_put 0 calls_n blt_n con_n Sp_law_put ln_law_put wp_law_put
  have x15 : CallIn l.prog w K mg base 1 false "_law_free" Sp_law_free := call_okW false F15 (PySem.W.mg_of X G a15) b15 T_law_free sc_law_free [] C_law_free ok_law_free 0 calls_n (blt_c y8 blt_n) con_n Sp_law_free ln_law_free wp_law_free
  have x16 : CallIn l.prog w K mg base 5 false "_law_great" Sp_law_great := call_okW false F16 (PySem.W.mg_of X G a16) b16 T_law_great sc_law_great [Sp_law_told] C_law_great ok_law_great 4 (calls_c x13 (by decide) calls_n) (blt_c y8 (blt_c y6 blt_n)) con_n Sp_law_great ln_law_great wp_law_great
  exact fn_ok F17 Tlaw sclaw [Sp_law_draws, Sp_law_factoring, Sp_law_shaken, Spfault_of, Sp_law_told, Sp_law_put, Sp_law_free, Sp_law_great] Claw oklaw 5 (calls_c x0 (by decide) (calls_c x2 (by decide) (calls_c x3 (by decide) (calls_c x6 (by decide) (calls_c x13 (by decide) (calls_c x14 (by decide) (calls_c x15 (by decide) (calls_c x16 (by decide) calls_n)))))))) (blt_c y5 (blt_c y4 blt_n)) con_n Splaw lnlaw wplaw
end R
open PySem PySem.W PyProof.Rows
set_option maxHeartbeats 0 in
theorem PySem.Challenge.cw_daysround_k34_faults_holds : PySem.Challenge.rw_daysround_k34_faults.Holds := by
  w_on; o_law; k_head; (case hw => w_witness2)
  k_fill
  refine R.walkG (l := PySem.Challenge.rw_daysround_k34_faults) (n := 63) (k := 6) (x := "script") (sp := fun w => R.spOf _ 1 R.SpLaw) rfl (by decide) rfl ⟨rfl, by decide, by decide⟩ (fun w h Y => PySem.W.kIn_of Y) ?F (fun _ H a ns hl hO hS => R.law_sp H a ns hl hO hS)
  case F =>
    intro w mg fa h KX G hmg
    refine' R.all_mk KX G hmg ?a0 ?l0 ?c0 ?k0 ?a1 ?l1 ?c1 ?k1 ?a2 ?l2 ?c2 ?k2 ?a3 ?l3 ?c3 ?k3 ?a4 ?l4 ?c4 ?k4 ?a5 ?l5 ?c5 ?k5 ?a6 ?l6 ?c6 ?k6 ?a7 ?l7 ?c7 ?k7 ?a8 ?l8 ?c8 ?k8 ?a9 ?l9 ?c9 ?k9 ?a10 ?l10 ?c10 ?k10 ?a11 ?l11 ?c11 ?k11 ?a12 ?l12 ?c12 ?k12 ?a13 ?l13 ?c13 ?k13 ?a14 ?l14 ?c14 ?k14 ?a15 ?l15 ?c15 ?k15 ?a16 ?l16 ?c16 ?k16 ?a17 ?l17 ?c17 ?k17 ?z0 ?z1 ?z2 ?z3 ?z4 ?z5 ?z6 ?z7 ?z8 ?z9 ?z10 ?z11
    (case a0 => k_is); (case l0 => k_is); (case c0 => k_is); (case k0 => k_is); (case a1 => k_is); (case l1 => k_is); (case c1 => k_is); (case k1 => k_is); (case a2 => k_is); (case l2 => k_is); (case c2 => k_is); (case k2 => k_is); (case a3 => k_is); (case l3 => k_is); (case c3 => k_is); (case k3 => k_is); (case a4 => k_is); (case l4 => k_is); (case c4 => k_is); (case k4 => k_is); (case a5 => k_is); (case l5 => k_is); (case c5 => k_is); (case k5 => k_is); (case a6 => k_is); (case l6 => k_is); (case c6 => k_is); (case k6 => k_is); (case a7 => k_is); (case l7 => k_is); (case c7 => k_is); (case k7 => k_is); (case a8 => k_is); (case l8 => k_is); (case c8 => k_is); (case k8 => k_is); (case a9 => k_is); (case l9 => k_is); (case c9 => k_is); (case k9 => k_is); (case a10 => k_is); (case l10 => k_is); (case c10 => k_is); (case k10 => k_is); (case a11 => k_is); (case l11 => k_is); (case c11 => k_is); (case k11 => k_is); (case a12 => k_is); (case l12 => k_is); (case c12 => k_is); (case k12 => k_is); (case a13 => k_is); (case l13 => k_is); (case c13 => k_is); (case k13 => k_is); (case a14 => k_is); (case l14 => k_is); (case c14 => k_is); (case k14 => k_is); (case a15 => k_is); (case l15 => k_is); (case c15 => k_is); (case k15 => k_is); (case a16 => k_is); (case l16 => k_is); (case c16 => k_is); (case k16 => k_is); (case a17 => k_is); (case l17 => k_is); (case c17 => k_is); (case k17 => k_is); (case z0 => k_is); (case z1 => k_is); (case z2 => k_is); (case z3 => k_is); (case z4 => k_is); (case z5 => k_is); (case z6 => k_is); (case z7 => k_is); (case z8 => k_is); (case z9 => k_is); (case z10 => k_is); (case z11 => k_is)
