import PyProof.Rows.All
import Wide.All
import OpenK.AllK
import Wide.FinOn
import HandS.ForMost
import HandS.SetFor
import HandS.Strs
import HandS.Deep
import HandS.TupSets
import HandS.Style
import KE.KTupSum
import HandS.Walk
import HandS.IsInst
import HandS.Wide
import HandS.Dict
import KE.DataMinMax
import HandS.Conv
import KE.SortData
import HandS.EndBits
import PySem.Challenge.RW_scorehands_k09_whole_way
set_option Elab.async false
set_option linter.all false
set_option maxRecDepth 100000
set_option maxHeartbeats 4000000
namespace G
open PySem PySem.Spec PyProof.Rows L2
/-! ### set(l) of a list of ints, told as SetR -/
abbrev emSet (w : World) : Obj :=
  ⟨.type "set", none, .set #[] 0 (.fresh 0 0 (!w.params.followText "set-order")), #[]⟩
section
variable {P : Program} {w : World} {A : Around} {E : Value → Shared → Prop} {s : Shared}
theorem set_of_list {l : Addr} {items : Array Value} (ms : List Int) {Q : Value → Shared → Prop}
    (quiet : A.handled = none) (lst : s.heap.IsList l items) (are : IntsAre items.toList ms)
    (few : ms.length + 1 < scanBound)
    (go : ∀ (h2 : Heap) (tk c : Nat), SetR w h2 s.heap.objs.size (fun j => decide (j ∈ ms)) c → c ≤ ms.length →
      (∀ b o, s.heap.get? b = some o → h2.get? b = some o) →
      Q (.ref s.heap.objs.size) { s with heap := h2, toks := tk }) :
    wpAny (model P w) A (call (.type "set") [.ref l]) Q E s := by
  have sz : items.size = ms.length := by
    have q := IntsAre.length are
    rwa [Array.length_toList] at q
  obtain ⟨c, tl, mro⟩ := F.called_set.mro
  have made := F.called_set.made; have sub := F.called_set.sub
  refine wpAny_call (codeAny_of_tree ?_)
  show wpAny _ _ (callAny (.type "set") _) _ _ _
  refine wpAny_pure ⟨Code.quiet_builtin _ (by decide +kernel),
    codeAny_builtin F.entry_type_call ?_⟩
  rw [Around.under_plain (weight_type_call_type "set" [.ref l] [])
    rfl]
  have n1 := F.called_set.notType; have n2 := F.called_set.canCreate; have n3 := F.typeCall_set_1 (.ref l)
  repeat (any_goals (first | assumption | wp_step))
  refine codeAny_mono (code_set_led1 (.ref l) (E := E)
    (Q₁ := fun obj t => obj = .ref s.heap.objs.size ∧ t = { s with heap := s.heap.push (emSet w) }) ⟨rfl, rfl⟩) fun r t hr => ?_
  cases r with
  | error e => exact hr
  | ok fl =>
    cases fl with
    | ret obj =>
      obtain ⟨rfl, rfl⟩ := hr
      have top : (s.heap.push (emSet w)).get? s.heap.objs.size = some (emSet w) := Heap.get?_push_size _ rfl
      have typ : Shared.TypeIs { s with heap := s.heap.push (emSet w) } (.ref s.heap.objs.size) "set" := ⟨_, top, rfl⟩
      have n4 := F.called_set.init.lookup; have n5 := F.called_set.init.bind (.ref s.heap.objs.size)
      repeat (any_goals (first | assumption | wp_step))
      refine codeAny_mono (codeAny_call_builtin (R := wants (fun r t2 => r = .none ∧ ∃ h2 tk c,
          t2 = { s with heap := h2, toks := tk } ∧ SetR w h2 s.heap.objs.size (fun j => decide (j ∈ ms)) c ∧ c ≤ ms.length ∧
          (∀ b o, s.heap.get? b = some o → h2.get? b = some o)) E) F.called_set.init.plain F.entry_set_init
        (check_set_init_1 typ ?_)) fun r2 t2 hr2 => ?_
      · obtain ⟨⟨lc, ld, lt, ls⟩, at0, isl, nl, seq⟩ := lst
        simp only at isl seq
        subst isl; subst seq
        have at1 : (s.heap.push (emSet w)).get? l = some ⟨.type "list", ld, .seq items nl, ls⟩ := Heap.get?_push_of_some _ at0
        have m1 := F.sub_list_set; have m2 := F.sub_list_frozenset
        have m3 : (Value.type "list" == Value.type "dict") = false := by decide
        have lst1 : (s.heap.push (emSet w)).IsList l items := ⟨_, at1, rfl, nl, rfl⟩
        unfold Builtin.«set.__init__» noKeywords
          Builtin.Frozenset.updateFrom
        generalize keep : pyIter = PI
        wp_walk
        subst keep
        refine wpAny_pyIter_list lst1 (wpAny_bind (wpAny_runValue ?_))
        have below : l < s.heap.objs.size := Heap.lt_size at0
        have quiet3 : A.in1.in1.in1.handled = none := by simp [quiet]
        have apart : l ≠ (s.heap.push (emSet w)).objs.size := by
          rw [Heap.size_push]
          exact Nat.ne_of_lt (Nat.lt_succ_of_lt below)
        have notin : s.heap.objs.size ∉ [(s.heap.push (emSet w)).objs.size, l] := by
          rw [Heap.size_push]
          intro z
          rcases List.mem_cons.mp z with z | z
          · exact absurd z (Nat.ne_of_lt (Nat.lt_succ_self _))
          · exact absurd (List.mem_singleton.mp z) (Nat.ne_of_gt below)
        have vals : ∀ (i : Nat) (v : Value), items[i]? = some v → ∃ k t, ms[i]? = some k ∧ v = .int k t := fun i v hv => by
          have lt : i < ms.length := by rw [← sz]; exact (Array.getElem?_eq_some_iff.mp hv).1
          obtain ⟨t, e⟩ := IntsAre.int_at are i v (by rw [Array.getElem?_toList]; exact hv)
          refine ⟨ms[i], t, List.getElem?_eq_getElem lt, ?_⟩
          rw [e, List.getD_eq_getElem?_getD, List.getElem?_eq_getElem lt]
          all_goals rfl
        refine set_update_ints ((Walks.list quiet3 _ l apart items).toS) s.heap.objs.size notin ms sz few vals
          (items.size - 0) 0 _ (by omega) (Nat.zero_le _) ⟨⟨_, Heap.get?_push_size _ rfl, rfl, rfl⟩, (lst1.push _)⟩
          ⟨0, Nat.le_refl 0, setR_new_at (Heap.get?_push_of_some _ top)⟩ ?_
        intro t c2 mv le st
        obtain ⟨h2, g2, d2, k2, o2⟩ := t
        obtain rfl : g2 = s.gens := mv.gens
        obtain rfl : d2 = s.drawn := mv.drawn
        obtain rfl : o2 = s.os := mv.os
        show wpAny _ _ _ _ _ _
        refine wpAny_pure ?_
        show wpAny _ _ (ret Value.none) _ _ _
        rw [sz] at le
        refine wpAny_pure ⟨rfl, h2, k2, c2, rfl, st, le, fun b o e => ?_⟩
        have lt : b < s.heap.objs.size := Heap.lt_size e
        refine mv.heap b o (fun z => ?_) (Heap.get?_push_of_some _ (Heap.get?_push_of_some _ e))
        rcases List.mem_cons.mp z with z | z
        · exact absurd z (Nat.ne_of_lt lt)
        · have z := List.mem_singleton.mp z
          rw [Heap.size_push] at z
          exact absurd z (Nat.ne_of_lt (Nat.lt_succ_of_lt lt))
      · cases r2 with
        | error e => exact hr2
        | ok f2 =>
          cases f2 with
          | ret r =>
            obtain ⟨rfl, h2, tk, c2, rfl, st, le, kp⟩ := hr2
            repeat (any_goals (first | assumption | wp_step))
            exact go _ _ _ st le kp
          | _ => exact hr2.elim
    | _ => exact hr.elim
end
/-- set(list of ints) over the layer -/
def rSetOfI (w : World) (K : PySem.W.Frag) : List V → Hp → VK → Prop := fun xs H Q => ∃ (p : Addr) (ns : List Int), xs = [.ref p] ∧ SqL K H p (ns.map V.int) ∧ ns.length < 60 ∧
  ∀ (q : Addr) (S : Int → Bool) (n : Nat), H q = none → (∀ k, S k = decide (k ∈ ns)) → n ≤ ns.length → Q (.ref q) (upd H q (SetO w q S n))
theorem cr_setL {X : Cx} (hc : X.calm = true) : CallR X (.type "set") (rSetOfI X.w X.K) := by
  intro pins s σ H xs us Q I r h
  obtain ⟨p, ns, rfl, hS, hn, q⟩ := h
  obtain ⟨u, rfl, ru⟩ := vals1 r
  cases ru
  obtain ⟨its, rv, pl, hz⟩ := I.list hS
  refine set_of_list ns (I.ok.hd hc) pl.isList (by simpa using intsAre_of rv) (Nat.lt_of_lt_of_le (show ns.length + 1 < 61 by omega) (by decide)) fun h2 tk c R le kp => ?_
  exact ⟨.ref _, _, I.laid (t' := tk) kp (Nat.le_refl _) (setO_new R), rfl, q _ _ c (I.hok.fresh (Nat.le_refl _)) (fun k => rfl) le⟩
end G

namespace G
open PySem PySem.Spec PyProof.Rows L2
section
variable {X : Cx}
/-- l.count(x), data of any depth -/
def rCntD (K : PySem.W.Frag) : V → List V → Hp → VK → Prop := fun x xs H Q => ∃ (a : Addr) (y : V) (d : PyData) (ds : List PyData), x = V.ref a ∧ xs = [y] ∧ Dp K H (V.ref a) (.list ds) ∧ Dp K H y d ∧
  SeqAt.shaped (.list ds) = true ∧ SeqAt.shaped d = true ∧ Q (.int ((ds.countP fun z => PyData.eqv z d : Nat) : Int)) H
theorem mt_cntD (hu : X.A.units + 65 < cLine) : MtR X "list.count" (rCntD X.K) := by
  intro pins s σ H x xs v us Q I rx rxs h
  obtain ⟨a, y, d, ds, rfl, rfl, hl, hy, sl, sd, q⟩ := h
  cases rx
  cases rxs with
  | cons ry rt =>
    rename_i uy ut
    cases rt
    obtain ⟨bs, r1⟩ := Dp.reads I d y uy hy ry
    have hxs : PyData.canLayAll0 ds = true := SeqAt.canLay_of_shaped sl
    have hroom : X.A.units + 1 + min (PyData.depthAll ds) d.depth < cLine := room_in_shaped sd hu
    cases hl with
    | lst hs ha =>
      obtain ⟨its, rv, ⟨⟨cls, dd, data, sls⟩, n, ho, hc, hdn, hdt⟩, hlen⟩ := I.list hs
      simp only at hc hdt
      subst hc hdt
      obtain ⟨as, h4⟩ := Dp.readsAll I ds _ its ha rv
      have hmap : its.map (SeqAt.readOf s.heap) = ds := SeqAt.readsAll_map ds its as hxs h4
      have ec : its.toArray.toList.countP (fun u => PyData.eqv (SeqAt.readOf s.heap u) d) = ds.countP fun z => PyData.eqv z d := by
        rw [← hmap, List.countP_map]
        rfl
      refine call_meets PySem.F.slot_list_count ⟨_, ho, rfl⟩ PySem.F.entry_list_count (PySem.F.args_list_count_2 _ _)
        (SeqAt.list_countAt a its.toArray n dd sls uy (fun u => PyData.eqv (SeqAt.readOf s.heap u) d)) ⟨ho, SeqAt.items_eqAt (vs := its.toArray) (show ReadsAll s.heap its.toArray.toList ds as from h4) r1 hxs (SeqAt.canLay_of_shaped sd) hroom, ?_⟩
      refine ⟨.int ((ds.countP fun z => PyData.eqv z d : Nat) : Int), H, I.tok _, ⟨s.toks, ?_⟩, q⟩
      show Value.int ((its.toArray.toList.countP (fun u => PyData.eqv (SeqAt.readOf s.heap u) d) : Nat) : Int) s.toks = _
      rw [ec]
/-- len(set(xs)), xs a list of tuples of ints -/
def tLenSetT (K : PySem.W.Frag) (ta : TE) : TE := fun σ H Q => ta σ H fun x H1 => ∃ (l : Addr) (ks : List (Addr × List Int)), x = V.ref l ∧ SqL K H1 l (ks.map fun p => V.ref p.1) ∧ (∀ p ∈ ks, SqT K H1 p.1 (p.2.map V.int)) ∧ ks.length < 64 ∧
  ∀ L : List (List Int), L.Nodup → (∀ x, x ∈ L ↔ x ∈ ks.map (·.2)) → Q (.int (L.length : Nat)) H1
theorem pe_lenSetT {a : Expr} {ta : TE} {p p2 q pos : Pos} (hc : X.calm = true) (hu : X.A.units + 65 < cLine) (hg : Gl X "len") (hm : X.mg "len" = none) (hg2 : Gl X "set") (hm2 : X.mg "set" = none) (ha : PE X a ta)
    (na : starEach [a] X.env = (false, eval a X.env) :: starEach [] X.env := by rfl) : PE X (.Call (.Name "len" p) [.Call (.Name "set" p2) [a] [] q] [] pos) (tLenSetT X.K ta) := by
  refine ⟨fun pins s σ H Q I h => ?_⟩
  refine Call_ (ld_blt I hg hm PySem.boot_len ?_)
  refine PyProof.Rows.callWith_builtin1 (PyProof.Rows.args_cons ?_ rfl) rfl rfl
  refine Call_ (ld_blt I hg2 hm2 PyProof.Rows.boot_set ?_)
  refine PyProof.Rows.callWith_type1 (PyProof.Rows.args_cons (thn (ha.run pins s σ H _ I h) fun v s1 ⟨x, H1, I1, r1, q1⟩ => PyProof.Rows.args_nil ?_) na) na rfl
  obtain ⟨l, ks, rfl, hl, hk, hf, q1⟩ := q1
  cases r1
  obtain ⟨its, rv, pl, hz⟩ := I1.list hl
  refine call_set_tups (P := X.prog) (w := X.w) ks (I1.ok.hd hc) pl.isList (by simpa using refs_of_vals rv) (fun p hp => I1.isT (hk p hp)) hf (by omega) fun h' tk L es ep t R g k => ?_
  refine PyProof.Rows.args_nil ?_
  have I2 : Inv X pins σ H1 { s1 with heap := h', toks := tk } := I1.kept k
  obtain ⟨o, ho, hex, hd⟩ := R.ob
  have hsz : es.size = L.length := by
    have := congrArg List.length R.rows
    simpa [rowsOf] using this
  refine call_len_set ho hex hd (SetTR.fits (s := { s1 with heap := h', toks := tk }) R) (by have := R.few; omega) ⟨.int (L.length : Nat), H1, I2.tok _, ⟨_, by rw [← hsz]⟩, ?_⟩
  have := q1 (L.map (·.2)) R.nd fun x => ⟨fun hx => ?_, fun hx => ?_⟩
  · rw [List.length_map] at this
    exact this
  · obtain ⟨p, hp, rfl⟩ := List.mem_map.mp hx
    exact List.mem_map.mpr ⟨p, List.mem_of_mem_take (g.sub p hp), rfl⟩
  · obtain ⟨p, hp, rfl⟩ := List.mem_map.mp hx
    exact g.all p (by rw [List.take_length]; exact hp)
/-! xs[::2] -/
def ev2 {α : Type} : List α → List α
  | [] => []
  | [x] => [x]
  | x :: _ :: r => x :: ev2 r
theorem ev2_le {α : Type} : ∀ l : List α, (ev2 l).length ≤ l.length
  | [] => Nat.le_refl _
  | [_] => Nat.le_refl _
  | x :: y :: r => by
    have := ev2_le r
    simp only [ev2, List.length_cons]
    omega
theorem ev2_sub {α : Type} : ∀ {l : List α} {x : α}, x ∈ ev2 l → x ∈ l
  | [], _, h => h
  | [_], _, h => h
  | a :: b :: r, x, h => by
    simp only [ev2, List.mem_cons] at h ⊢
    rcases h with h | h
    · exact .inl h
    · exact .inr (.inr (ev2_sub h))
theorem ev2_map {α β : Type} (f : α → β) : ∀ l : List α, ev2 (l.map f) = (ev2 l).map f
  | [] => rfl
  | [_] => rfl
  | a :: b :: r => by simp only [List.map_cons, ev2, ev2_map f r]
theorem ev2_vals : ∀ {xs : List V} {us : List Value}, Vals xs us → Vals (ev2 xs) (ev2 us)
  | [], us, h => by cases h; exact .nil
  | [x], us, h => by
    cases h with
    | cons h1 h2 => cases h2; exact .cons h1 .nil
  | x :: y :: r, us, h => by
    cases h with
    | cons h1 h2 =>
      cases h2 with
      | cons h3 h4 => exact .cons h1 (ev2_vals h4)
theorem ev2_pick {α : Type} : ∀ (l : List α), (List.range ((l.length + 1) / 2)).filterMap (fun k => l[2 * k]?) = ev2 l
  | [] => by simp [ev2]
  | [x] => by simp [ev2]
  | x :: y :: r => by
    have ih := ev2_pick r
    have e : ((x :: y :: r).length + 1) / 2 = (r.length + 1) / 2 + 1 := by
      simp only [List.length_cons]
      omega
    rw [e, List.range_succ_eq_map, List.filterMap_cons]
    simp only [Nat.mul_zero, List.getElem?_cons_zero, ev2]
    rw [List.filterMap_map, ← ih]
    congr 1
theorem ev2_range (n : Nat) : sliceRange 0 (n : Int) 2 = (List.range ((n + 1) / 2)).map fun k => 2 * k := by
  unfold sliceRange
  have h1 : (2 : Int) > 0 := by decide
  by_cases h : (0 : Int) < n
  · have e : (((n : Int) - 0 + 2 - 1) / 2).toNat = (n + 1) / 2 := by omega
    simp only [h1, if_true, h, e]
    apply List.map_congr_left
    intro k hk
    omega
  · have e : n = 0 := by omega
    subst e
    simp
theorem ev2_slice (items : Array Value) : slicePick items none none (some 2) = (ev2 items.toList).toArray := by
  unfold slicePick
  have b : sliceBounds none none (some 2) items.size = (0, (items.size : Int), 2) := by
    first
    | rfl
    | simp [sliceBounds]
  rw [b]
  show ((sliceRange 0 (items.size : Int) 2).filterMap (items[·]?)).toArray = _
  rw [ev2_range, List.filterMap_map, ← ev2_pick]
  rw [Array.length_toList]
  have e : ((fun x => items[x]?) ∘ fun k => 2 * k) = fun k => items.toList[2 * k]? := funext fun k => by simp
  rw [e]
def tEv2 (K : PySem.W.Frag) (te : TE) : TE := fun σ H Q => te σ H fun x H1 => ∃ a xs, x = .ref a ∧ SqL K H1 a xs ∧ ∀ p, H1 p = none → Q (.ref p) (upd H1 p (.lst (ev2 xs)))
theorem pe_ev2 {e : Expr} {te : TE} {k : Nat} {p1 p3 pos : Pos} (he : PE X e te) : PE X (.Subscript e (.Slice none none (some (.Constant (.int 2) k p1)) p3) pos) (tEv2 X.K te) := by
  refine ⟨fun pins s σ H Q I h => ?_⟩
  refine Subscript_ (thn (he.run pins s σ H _ I h) fun v s1 ⟨x, H1, I1, r1, q1⟩ => ?_)
  obtain ⟨a, xs, ex, hx, q⟩ := q1
  subst ex
  cases r1
  have hst : PO X (some (.Constant (.int 2) k p1)) (tPart (tC (.int 2))) := po_some pe_int
  refine wpAny_Slice (thn (po_none.run pins s1 σ H1 (fun o H2 => o = none ∧ H2 = H1) I1 ⟨rfl, rfl⟩) fun vl s2 ⟨l, H2, I2, pl, el, e2⟩ => ?_)
  subst el e2
  refine thn (po_none.run pins s2 σ H2 (fun o H3 => o = none ∧ H3 = H2) I2 ⟨rfl, rfl⟩) fun vu s3 ⟨u, H3, I3, pu, eu, e3⟩ => ?_
  subst eu e3
  refine thn (hst.run pins s3 σ H3 (fun o H4 => o = some 2 ∧ H4 = H3) I3 ⟨2, rfl, rfl, rfl⟩) fun vs s4 ⟨o, H4, I4, ps, eo, e4⟩ => ?_
  subst eo e4
  have I5 : Inv X pins σ H4 { s4 with heap := s4.heap.push { cls := .type "slice", data := .fields #[vl, vu, vs] } } := I4.kept (t' := s4.toks) fun b ob q => Heap.get?_push_of_some _ q
  obtain ⟨its, r, ht, hz⟩ := I5.list hx
  have hlen := r.length
  show wpAny (model X.prog X.w) X.A (subscriptTail e (.Slice none none (some (.Constant (.int 2) k p1)) p3) (.ref a) (.ref s4.heap.objs.size)) (EP X pins σ Q) X.xe { s4 with heap := s4.heap.push { cls := .type "slice", data := .fields #[vl, vu, vs] } }
  refine tail_any (ops := [.ref a, .ref s4.heap.objs.size]) ht.isList.typeIs (PySem.slot_list_getitem.lookup) ?_ (by with_unfolding_all rfl)
  refine wpAny_getItem_list_slice ht.isList (Heap.IsSliceOf.new _ vl vu vs) pl pu ps (by decide) ?_ (by rw [List.size_toArray]; omega)
  rw [ev2_slice]
  refine ⟨.ref _, _, I5.laid (t' := s4.toks) (o := .lst (ev2 xs)) (fun b ob q => Heap.get?_push_of_some _ q) (Nat.le_refl _) ?_, rfl, q _ (I5.hok.fresh (Nat.le_refl _))⟩
  exact ⟨Nat.le_trans (ev2_le xs) hz, _, 0, ev2_vals r, Heap.get?_push_size _ rfl⟩
/-! sum of a tuple of ints -/
def rSumT (K : PySem.W.Frag) : List V → Hp → VK → Prop := fun vs H Q => ∃ (a : Addr) (ns : List Int), vs = [V.ref a] ∧ SqT K H a (ns.map V.int) ∧ Q (.int ns.sum) H
theorem cr_sumT (hc : X.calm = true) : CallR X (.builtin "sum") (rSumT X.K) := by
  intro pins s σ H vs us Q I r h
  obtain ⟨a, ns, rfl, hs, q⟩ := h
  obtain ⟨its, rv, hl, _⟩ := I.tuple hs
  rw [Vals.ref1 r]
  have hi := rv.ints
  obtain ⟨xs, e⟩ := hi.allInts.items
  have hn : numsOf (intItems xs).toList = ns := by rw [← e]; exact hi.numsOf
  rw [nums_intItems] at hn
  rw [e] at hl
  refine PySem.W.ktm_sumG (I.ok.hd hc) hl fun h' tk t' hk => ?_
  rw [PySem.preSum_eq, List.take_of_length_le (by simp), hn]
  exact ⟨.int _, H, I.kept hk, ⟨_, rfl⟩, q⟩
/-! x[::k] -/
def pkk {α : Type} (k : Nat) (l : List α) : List α := (List.range ((l.length + (k - 1)) / k)).filterMap fun i => l[k * i]?
theorem pkk_sub {α : Type} {k : Nat} {l : List α} {x : α} (h : x ∈ pkk k l) : x ∈ l := by
  unfold pkk at h
  obtain ⟨i, _, e⟩ := List.mem_filterMap.mp h
  exact List.mem_of_getElem? e
theorem pkk_le {α : Type} {k : Nat} (hk : 0 < k) (l : List α) : (pkk k l).length ≤ l.length := by
  unfold pkk
  refine Nat.le_trans (List.length_filterMap_le _ _) ?_
  rw [List.length_range]
  refine Nat.le_trans (Nat.div_le_div_right (c := k) (show l.length + (k - 1) ≤ l.length * k + (k - 1) by have := Nat.mul_le_mul_left l.length hk; omega)) ?_
  rw [Nat.add_comm, Nat.add_mul_div_right _ _ hk, Nat.div_eq_of_lt (by omega), Nat.zero_add]
  exact Nat.le_refl _
theorem pkk_map {α β : Type} (f : α → β) (k : Nat) (l : List α) : pkk k (l.map f) = (pkk k l).map f := by
  unfold pkk
  rw [List.length_map, List.map_filterMap]
  congr 1
  funext i
  rw [List.getElem?_map]
theorem vals_fm {xs : List V} {us : List Value} (h : Vals xs us) (k : Nat) : ∀ is : List Nat, Vals (is.filterMap fun i => xs[k * i]?) (is.filterMap fun i => us[k * i]?)
  | [] => .nil
  | i :: is => by
    rw [List.filterMap_cons, List.filterMap_cons]
    by_cases hi : k * i < xs.length
    · obtain ⟨u, e, r⟩ := h.get (i := k * i) (List.getElem?_eq_getElem hi)
      rw [List.getElem?_eq_getElem hi, e]
      exact .cons r (vals_fm h k is)
    · rw [List.getElem?_eq_none (by omega), List.getElem?_eq_none (by rw [← h.length]; omega)]
      exact vals_fm h k is
theorem pkk_vals {xs : List V} {us : List Value} (h : Vals xs us) (k : Nat) : Vals (pkk k xs) (pkk k us) := by
  unfold pkk
  rw [← h.length]
  exact vals_fm h k _
theorem pkk_range (n k : Nat) (hk : 0 < k) : sliceRange 0 (n : Int) (k : Int) = (List.range ((n + (k - 1)) / k)).map fun i => k * i := by
  unfold sliceRange
  have h1 : (k : Int) > 0 := by omega
  by_cases h : (0 : Int) < n
  · have e : (((n : Int) - 0 + k - 1) / k).toNat = (n + (k - 1)) / k := by
      have : ((n : Int) - 0 + k - 1) = ((n + (k - 1) : Nat) : Int) := by omega
      rw [this]
      norm_cast
    simp only [h1, if_true, h, e]
    apply List.map_congr_left
    intro i hi
    have : (0 : Int) + (k : Int) * (i : Int) = ((k * i : Nat) : Int) := by rw [Int.natCast_mul]; omega
    rw [this]
    rfl
  · have e : n = 0 := by omega
    subst e
    have z : (0 + (k - 1)) / k = 0 := Nat.div_eq_of_lt (by omega)
    rw [z]
    simp [h1]
theorem pkk_slice (items : Array Value) (k : Nat) (hk : 0 < k) : slicePick items none none (some (k : Int)) = (pkk k items.toList).toArray := by
  unfold slicePick
  have b : sliceBounds none none (some (k : Int)) items.size = (0, (items.size : Int), (k : Int)) := by
    have h1 : (k : Int) > 0 := by omega
    have h2 : ¬ (k : Int) < 0 := by omega
    simp [sliceBounds, h1, h2]
    omega
  rw [b]
  show ((sliceRange 0 (items.size : Int) (k : Int)).filterMap (items[·]?)).toArray = _
  rw [pkk_range _ _ hk, List.filterMap_map]
  unfold pkk
  rw [Array.length_toList]
  have e : ((fun x => items[x]?) ∘ fun i => k * i) = fun i => items.toList[k * i]? := funext fun i => by simp
  rw [e]
def tStp (K : PySem.W.Frag) (te tk : TE) : TE := fun σ H Q => te σ H fun x H1 => tPart tk σ H1 fun y H2 => ∃ a xs k, y = some ((k : Nat) : Int) ∧ x = .ref a ∧ 0 < k ∧ k < 1000000 ∧ SqL K H2 a xs ∧ ∀ p, H2 p = none → Q (.ref p) (upd H2 p (.lst (pkk k xs)))
theorem pe_stp {e ek : Expr} {te tk : TE} {p3 pos : Pos} (he : PE X e te) (hk : PE X ek tk) : PE X (.Subscript e (.Slice none none (some ek) p3) pos) (tStp X.K te tk) := by
  refine ⟨fun pins s σ H Q I h => ?_⟩
  refine Subscript_ (thn (he.run pins s σ H _ I h) fun v s1 ⟨x, H1, I1, r1, q1⟩ => ?_)
  have hst : PO X (some ek) (tPart tk) := po_some hk
  refine wpAny_Slice (thn (po_none.run pins s1 σ H1 (fun o H2 => o = none ∧ H2 = H1) I1 ⟨rfl, rfl⟩) fun vl s2 ⟨l, H2, I2, pl, el, e2⟩ => ?_)
  subst el e2
  refine thn (po_none.run pins s2 σ H2 (fun o H3 => o = none ∧ H3 = H2) I2 ⟨rfl, rfl⟩) fun vu s3 ⟨u, H3, I3, pu, eu, e3⟩ => ?_
  subst eu e3
  refine thn (hst.run pins s3 σ H3 _ I3 q1) fun vs s4 ⟨o, H4, I4, ps, a, xs, k, eo, ex, k0, k1, hx, q⟩ => ?_
  subst eo ex
  cases r1
  have I5 : Inv X pins σ H4 { s4 with heap := s4.heap.push { cls := .type "slice", data := .fields #[vl, vu, vs] } } := I4.kept (t' := s4.toks) fun b ob q => Heap.get?_push_of_some _ q
  obtain ⟨its, r, ht, hz⟩ := I5.list hx
  have hlen := r.length
  show wpAny (model X.prog X.w) X.A (subscriptTail e (.Slice none none (some ek) p3) (.ref a) (.ref s4.heap.objs.size)) (EP X pins σ Q) X.xe { s4 with heap := s4.heap.push { cls := .type "slice", data := .fields #[vl, vu, vs] } }
  refine tail_any (ops := [.ref a, .ref s4.heap.objs.size]) ht.isList.typeIs (PySem.slot_list_getitem.lookup) ?_ (by with_unfolding_all rfl)
  refine wpAny_getItem_list_slice ht.isList (Heap.IsSliceOf.new _ vl vu vs) pl pu ps ?_ ?_ (by rw [List.size_toArray]; omega)
  · simp; omega
  rw [pkk_slice _ _ k0]
  refine ⟨.ref _, _, I5.laid (t' := s4.toks) (o := .lst (pkk k xs)) (fun b ob q => Heap.get?_push_of_some _ q) (Nat.le_refl _) ?_, rfl, q _ (I5.hok.fresh (Nat.le_refl _))⟩
  exact ⟨Nat.le_trans (pkk_le k0 xs) hz, _, 0, pkk_vals r k, Heap.get?_push_size _ rfl⟩
end
end G

namespace G
open PySem L2

/-! ### data -/
inductive D where
  | non | bl (b : Bool) | int (i : Int) | str (x : Str) | ls (xs : List D) | tp (xs : List D) | ob (c : Nat) (fs : List D) | dc (ks : List Key) (ds : List D)

def D.flat : D → Bool
  | .non => true | .bl _ => true | .int _ => true | .str _ => true | _ => false

structure Cf where
  K : PySem.W.Frag
  Cl : Nat → Addr × List Str
  w : World
  kv : Nat → V

mutual
def Rp (C : Cf) (H : Hp) : D → V → Prop
  | .non, v => v = .non
  | .bl b, v => v = .bl b
  | .int i, v => v = .int i
  | .str x, v => v = .str x
  | .ls ds, v => ∃ a xs, v = .ref a ∧ H a = some (.lst xs) ∧ Rps C H ds xs
  | .tp ds, v => ∃ a xs, v = .ref a ∧ SqT C.K H a xs ∧ Rps C H ds xs
  | .dc ks ds, v => ∃ a xs, v = .ref a ∧ H a = some (.dK (ks.zip xs)) ∧ xs.length = ks.length ∧ Rps C H ds xs
  | .ob c ds, v => ∃ a dx xs, v = .ref a ∧ H a = some (.ins (C.Cl c).1 dx ((C.Cl c).2.zip xs)) ∧ xs.length = (C.Cl c).2.length ∧ Rps C H ds xs
def Rps (C : Cf) (H : Hp) : List D → List V → Prop
  | [], vs => vs = []
  | d :: ds, vs => ∃ v r, vs = v :: r ∧ Rp C H d v ∧ Rps C H ds r
end

theorem sqt_mono {K : PySem.W.Frag} {H H' : Hp} {a : Addr} {xs : List V} (e : Same H H') (h : SqT K H a xs) : SqT K H' a xs := by
  rcases h with (h | ⟨o, h⟩) | h
  · exact .inl (.inl (e _ _ h))
  · exact .inl (.inr ⟨o, e _ _ h⟩)
  · exact .inr h

section
variable {C : Cf} {H H' : Hp}
mutual
theorem Rp.mono (e : Same H H') : ∀ {d : D} {v : V}, Rp C H d v → Rp C H' d v
  | .non, _, h => by simpa only [Rp] using h
  | .bl _, _, h => by simpa only [Rp] using h
  | .int _, _, h => by simpa only [Rp] using h
  | .str _, _, h => by simpa only [Rp] using h
  | .ls ds, v, h => by
    simp only [Rp] at h ⊢
    obtain ⟨a, xs, h1, h2, h3⟩ := h
    exact ⟨a, xs, h1, e _ _ h2, Rps.mono e h3⟩
  | .tp ds, v, h => by
    simp only [Rp] at h ⊢
    obtain ⟨a, xs, h1, h2, h3⟩ := h
    exact ⟨a, xs, h1, sqt_mono e h2, Rps.mono e h3⟩
  | .dc ks ds, v, h => by
    simp only [Rp] at h ⊢
    obtain ⟨a, xs, h1, h2, h4, h3⟩ := h
    exact ⟨a, xs, h1, e _ _ h2, h4, Rps.mono e h3⟩
  | .ob c ds, v, h => by
    simp only [Rp] at h ⊢
    obtain ⟨a, dx, xs, h1, h2, h4, h3⟩ := h
    exact ⟨a, dx, xs, h1, e _ _ h2, h4, Rps.mono e h3⟩
theorem Rps.mono (e : Same H H') : ∀ {ds : List D} {vs : List V}, Rps C H ds vs → Rps C H' ds vs
  | [], _, h => by simpa only [Rps] using h
  | d :: ds, vs, h => by
    simp only [Rps] at h ⊢
    obtain ⟨v, r, h1, h2, h3⟩ := h
    exact ⟨v, r, h1, Rp.mono e h2, Rps.mono e h3⟩
end
theorem Rps.len : ∀ {ds : List D} {vs : List V}, Rps C H ds vs → vs.length = ds.length
  | [], _, h => by
    simp only [Rps] at h
    subst h; rfl
  | d :: ds, vs, h => by
    simp only [Rps] at h
    obtain ⟨v, r, rfl, _, h3⟩ := h
    simp [Rps.len h3]
theorem Rps.get : ∀ {ds : List D} {vs : List V} {i : Nat} {d : D}, Rps C H ds vs → ds[i]? = some d → ∃ v, vs[i]? = some v ∧ Rp C H d v
  | [], _, _, _, _, e => by simp at e
  | d :: ds, vs, i, d', h, e => by
    simp only [Rps] at h
    obtain ⟨v, r, rfl, h2, h3⟩ := h
    cases i with
    | zero => simp at e; subst e; exact ⟨v, rfl, h2⟩
    | succ i =>
      obtain ⟨w, e1, e2⟩ := Rps.get (i := i) h3 (by simpa using e)
      exact ⟨w, by simpa using e1, e2⟩
theorem Rps.app : ∀ {ds es : List D} {vs ws : List V}, Rps C H ds vs → Rps C H es ws → Rps C H (ds ++ es) (vs ++ ws)
  | [], _, _, _, h, k => by
    simp only [Rps] at h
    subst h
    exact k
  | d :: ds, es, vs, ws, h, k => by
    simp only [Rps] at h
    obtain ⟨v, r, rfl, h2, h3⟩ := h
    simp only [List.cons_append, Rps]
    exact ⟨v, _, rfl, h2, Rps.app h3 k⟩
theorem Rps.drop : ∀ (n : Nat) {ds : List D} {vs : List V}, Rps C H ds vs → Rps C H (ds.drop n) (vs.drop n)
  | 0, _, _, h => h
  | n + 1, [], vs, h => by
    simp only [Rps] at h
    subst h
    simp [Rps]
  | n + 1, d :: ds, vs, h => by
    simp only [Rps] at h
    obtain ⟨v, r, rfl, h2, h3⟩ := h
    exact Rps.drop n h3
theorem Rps.take : ∀ (n : Nat) {ds : List D} {vs : List V}, Rps C H ds vs → Rps C H (ds.take n) (vs.take n)
  | 0, _, _, h => by simp [Rps]
  | n + 1, [], vs, h => by
    simp only [Rps] at h
    subst h
    simp [Rps]
  | n + 1, d :: ds, vs, h => by
    simp only [Rps] at h
    obtain ⟨v, r, rfl, h2, h3⟩ := h
    simp only [List.take_succ_cons, Rps]
    exact ⟨v, _, rfl, h2, Rps.take n h3⟩
theorem Rps.set : ∀ (j : Nat) {ds : List D} {vs : List V} {d : D} {v : V}, Rps C H ds vs → Rp C H d v → Rps C H (ds.set j d) (vs.set j v)
  | _, [], vs, _, _, h, _ => by
    simp only [Rps] at h
    subst h
    simp [Rps]
  | 0, d :: ds, vs, _, _, h, k => by
    simp only [Rps] at h
    obtain ⟨v, r, rfl, h2, h3⟩ := h
    simp only [List.set_cons_zero, Rps]
    exact ⟨_, _, rfl, k, h3⟩
  | j + 1, d :: ds, vs, _, _, h, k => by
    simp only [Rps] at h
    obtain ⟨v, r, rfl, h2, h3⟩ := h
    simp only [List.set_cons_succ, Rps]
    exact ⟨_, _, rfl, h2, Rps.set j h3 k⟩
theorem Rps.nil : Rps C H [] [] := by simp [Rps]
theorem Rps.cons {d : D} {v : V} {ds : List D} {vs : List V} (h : Rp C H d v) (k : Rps C H ds vs) : Rps C H (d :: ds) (v :: vs) := by
  simp only [Rps]
  exact ⟨_, _, rfl, h, k⟩
theorem Rps.one {d : D} {v : V} (h : Rp C H d v) : Rps C H [d] [v] := .cons h .nil
theorem Rp.flat {d : D} {v : V} (hd : d.flat = true) (h : Rp C H d v) : Rp C H' d v := by
  cases d <;> first | (simpa only [Rp] using h) | (simp [D.flat] at hd)
theorem rp_int {i : Int} {v : V} : Rp C H (.int i) v ↔ v = .int i := by simp only [Rp]
theorem rp_bl {i : Bool} {v : V} : Rp C H (.bl i) v ↔ v = .bl i := by simp only [Rp]
theorem rp_str {i : Str} {v : V} : Rp C H (.str i) v ↔ v = .str i := by simp only [Rp]
theorem rp_non {v : V} : Rp C H .non v ↔ v = .non := by simp only [Rp]
theorem rp_ls {ds : List D} {v : V} : Rp C H (.ls ds) v ↔ ∃ a xs, v = .ref a ∧ H a = some (.lst xs) ∧ Rps C H ds xs := by simp only [Rp]
theorem rp_tp {ds : List D} {v : V} : Rp C H (.tp ds) v ↔ ∃ a xs, v = .ref a ∧ SqT C.K H a xs ∧ Rps C H ds xs := by simp only [Rp]
theorem rp_dc {ks : List Key} {ds : List D} {v : V} : Rp C H (.dc ks ds) v ↔ ∃ a xs, v = .ref a ∧ H a = some (.dK (ks.zip xs)) ∧ xs.length = ks.length ∧ Rps C H ds xs := by simp only [Rp]
theorem rp_ob {c : Nat} {ds : List D} {v : V} : Rp C H (.ob c ds) v ↔ ∃ a dx xs, v = .ref a ∧ H a = some (.ins (C.Cl c).1 dx ((C.Cl c).2.zip xs)) ∧ xs.length = (C.Cl c).2.length ∧ Rps C H ds xs := by simp only [Rp]
end

/-! ### equality of data -/
mutual
def D.py : D → PyData
  | .non => .none | .bl b => .bool b | .int i => .int i | .str x => .str x | .ls xs => .list (D.pys xs) | .tp xs => .tuple (D.pys xs) | .ob _ _ => .none | .dc _ _ => .none
def D.pys : List D → List PyData
  | [] => [] | x :: r => D.py x :: D.pys r
end
mutual
def D.plain : D → Bool
  | .ls xs => D.plains xs | .tp xs => D.plains xs | .ob _ _ => false | .dc _ _ => false | _ => true
def D.plains : List D → Bool
  | [] => true | x :: r => D.plain x && D.plains r
end
def D.eqok (d : D) : Bool := d.plain && SeqAt.shaped d.py
def D.eqv (a b : D) : Bool := PyData.eqv a.py b.py
section
variable {C : Cf} {H : Hp}
mutual
theorem Rp.dp : ∀ {d : D} {v : V}, d.plain = true → Rp C H d v → Dp C.K H v d.py
  | .non, _, _, h => by
    rw [rp_non] at h
    subst h
    exact .non
  | .bl _, _, _, h => by
    rw [rp_bl] at h
    subst h
    exact .bl _
  | .int _, _, _, h => by
    rw [rp_int] at h
    subst h
    exact .int _
  | .str _, _, _, h => by
    rw [rp_str] at h
    subst h
    exact .str _
  | .ls ds, v, p, h => by
    rw [rp_ls] at h
    obtain ⟨a, xs, rfl, h2, h3⟩ := h
    exact .lst (SqL.of h2) (Rps.dp p h3)
  | .tp ds, v, p, h => by
    rw [rp_tp] at h
    obtain ⟨a, xs, rfl, h2, h3⟩ := h
    exact .tup h2 (Rps.dp p h3)
  | .ob c ds, v, p, h => by simp [D.plain] at p
  | .dc ks ds, v, p, h => by simp [D.plain] at p
theorem Rps.dp : ∀ {ds : List D} {vs : List V}, D.plains ds = true → Rps C H ds vs → DpAll C.K H vs (D.pys ds)
  | [], _, _, h => by
    simp only [Rps] at h
    subst h
    exact .nil
  | d :: ds, vs, p, h => by
    simp only [Rps] at h
    obtain ⟨v, r, rfl, h2, h3⟩ := h
    simp only [D.plains, Bool.and_eq_true] at p
    exact .cons (Rp.dp p.1 h2) (Rps.dp p.2 h3)
end
end

/-! ### regions -/
def Emp : Hp := fun _ => none
def Bn (H0 B : Hp) : Hp := fun p => match H0 p with | none => B p | some _ => none
def Rsd (B0 H0 H : Hp) : Hp := fun p => match B0 p, H0 p with | none, some _ => none | _, _ => H p
def Rg (B0 H0 B H : Hp) (f g : Bool) : Hp := match f, g with
  | true, true => Bn H0 B
  | true, false => B
  | false, true => Bn H0 H
  | false, false => Rsd B0 H0 H
theorem bn_mono {H0 B B' : Hp} (e : Same B B') : Same (Bn H0 B) (Bn H0 B') := fun p o h => by
  unfold Bn at h ⊢
  cases q : H0 p with
  | none => rw [q] at h; exact e _ _ h
  | some u => rw [q] at h; cases h
theorem rsd_mono {B0 H0 B B' : Hp} (e : Same B B') : Same (Rsd B0 H0 B) (Rsd B0 H0 B') := fun p o h => by
  unfold Rsd at h ⊢
  split at h
  · cases h
  · exact e _ _ h
theorem bn_sub {H0 B : Hp} : Same (Bn H0 B) B := fun p o h => by
  unfold Bn at h
  cases q : H0 p with
  | none => rw [q] at h; exact h
  | some u => rw [q] at h; cases h
theorem rsd_sub {B0 H0 H : Hp} : Same (Rsd B0 H0 H) H := fun p o h => by
  unfold Rsd at h
  split at h
  · cases h
  · exact h
theorem bn_rsd {B0 H0 H : Hp} : Same (Bn H0 H) (Rsd B0 H0 H) := fun p o h => by
  unfold Bn at h
  unfold Rsd
  cases q : H0 p with
  | none => rw [q] at h; cases B0 p <;> exact h
  | some u => rw [q] at h; cases h
theorem rg_mono {B0 H0 B B' H H' : Hp} (eb : Same B B') (eh : Same H H') : ∀ f g, Same (Rg B0 H0 B H f g) (Rg B0 H0 B' H' f g)
  | true, true => bn_mono eb
  | true, false => eb
  | false, true => bn_mono eh
  | false, false => rsd_mono eh

/-! ### trees of cells -/
mutual
/-- d stands at v as a tree: its lists and objects are the cells ps, its leaves stand in B -/
def Tr (C : Cf) (B H : Hp) : D → V → List Addr → Prop
  | .ls ds, v, ps => ∃ a xs qs, v = .ref a ∧ H a = some (.lst xs) ∧ ps = a :: qs ∧ Trs C B H ds xs qs
  | .dc ks ds, v, ps => ∃ a xs qs, v = .ref a ∧ H a = some (.dK (ks.zip xs)) ∧ xs.length = ks.length ∧ ps = a :: qs ∧ Trs C B H ds xs qs
  | .ob c ds, v, ps => ∃ a dx xs qs, v = .ref a ∧ H a = some (.ins (C.Cl c).1 dx ((C.Cl c).2.zip xs)) ∧ xs.length = (C.Cl c).2.length ∧ ps = a :: qs ∧ Trs C B H ds xs qs
  | .tp ds, v, ps => ps = [] ∧ Rp C B (.tp ds) v
  | .non, v, ps => ps = [] ∧ v = .non
  | .bl b, v, ps => ps = [] ∧ v = .bl b
  | .int i, v, ps => ps = [] ∧ v = .int i
  | .str x, v, ps => ps = [] ∧ v = .str x
def Trs (C : Cf) (B H : Hp) : List D → List V → List Addr → Prop
  | [], vs, ps => vs = [] ∧ ps = []
  | d :: ds, vs, ps => ∃ v r p1 p2, vs = v :: r ∧ ps = p1 ++ p2 ∧ Tr C B H d v p1 ∧ Trs C B H ds r p2
end
def D.leaf : D → Bool
  | .ls _ => false | .ob _ _ => false | .dc _ _ => false | _ => true
section
variable {C : Cf} {B B' H H' : Hp}
theorem tr_ls {ds : List D} {v : V} {ps : List Addr} : Tr C B H (.ls ds) v ps ↔ ∃ a xs qs, v = .ref a ∧ H a = some (.lst xs) ∧ ps = a :: qs ∧ Trs C B H ds xs qs := by simp only [Tr]
theorem tr_dc {ks : List Key} {ds : List D} {v : V} {ps : List Addr} : Tr C B H (.dc ks ds) v ps ↔ ∃ a xs qs, v = .ref a ∧ H a = some (.dK (ks.zip xs)) ∧ xs.length = ks.length ∧ ps = a :: qs ∧ Trs C B H ds xs qs := by simp only [Tr]
theorem tr_ob {c : Nat} {ds : List D} {v : V} {ps : List Addr} : Tr C B H (.ob c ds) v ps ↔ ∃ a dx xs qs, v = .ref a ∧ H a = some (.ins (C.Cl c).1 dx ((C.Cl c).2.zip xs)) ∧ xs.length = (C.Cl c).2.length ∧ ps = a :: qs ∧ Trs C B H ds xs qs := by simp only [Tr]
theorem trs_nil {vs : List V} {ps : List Addr} : Trs C B H [] vs ps ↔ vs = [] ∧ ps = [] := by simp only [Trs]
theorem trs_cons {d : D} {ds : List D} {vs : List V} {ps : List Addr} : Trs C B H (d :: ds) vs ps ↔ ∃ v r p1 p2, vs = v :: r ∧ ps = p1 ++ p2 ∧ Tr C B H d v p1 ∧ Trs C B H ds r p2 := by simp only [Trs]
theorem tr_leaf {d : D} {v : V} {ps : List Addr} (h : d.leaf = true) : Tr C B H d v ps ↔ ps = [] ∧ Rp C B d v := by
  cases d <;> simp [D.leaf] at h <;> simp only [Tr, Rp]
mutual
theorem Tr.keep (eb : Same B B') : ∀ {d : D} {v : V} {ps : List Addr}, Tr C B H d v ps → (∀ p ∈ ps, ∀ o, H p = some o → H' p = some o) → Tr C B' H' d v ps
  | .ls ds, v, ps, h, k => by
    rw [tr_ls] at h ⊢
    obtain ⟨a, xs, qs, h1, h2, rfl, h4⟩ := h
    exact ⟨a, xs, qs, h1, k a (by simp) _ h2, rfl, Trs.keep eb h4 fun p hp => k p (by simp [hp])⟩
  | .dc ks ds, v, ps, h, k => by
    rw [tr_dc] at h ⊢
    obtain ⟨a, xs, qs, h1, h2, h3, rfl, h4⟩ := h
    exact ⟨a, xs, qs, h1, k a (by simp) _ h2, h3, rfl, Trs.keep eb h4 fun p hp => k p (by simp [hp])⟩
  | .ob c ds, v, ps, h, k => by
    rw [tr_ob] at h ⊢
    obtain ⟨a, dx, xs, qs, h1, h2, h3, rfl, h4⟩ := h
    exact ⟨a, dx, xs, qs, h1, k a (by simp) _ h2, h3, rfl, Trs.keep eb h4 fun p hp => k p (by simp [hp])⟩
  | .tp ds, v, ps, h, k => by
    simp only [Tr] at h ⊢
    exact ⟨h.1, h.2.mono eb⟩
  | .non, _, _, h, _ => by simpa only [Tr] using h
  | .bl _, _, _, h, _ => by simpa only [Tr] using h
  | .int _, _, _, h, _ => by simpa only [Tr] using h
  | .str _, _, _, h, _ => by simpa only [Tr] using h
theorem Trs.keep (eb : Same B B') : ∀ {ds : List D} {vs : List V} {ps : List Addr}, Trs C B H ds vs ps → (∀ p ∈ ps, ∀ o, H p = some o → H' p = some o) → Trs C B' H' ds vs ps
  | [], _, _, h, _ => by simpa only [Trs] using h
  | d :: ds, vs, ps, h, k => by
    rw [trs_cons] at h ⊢
    obtain ⟨v, r, p1, p2, h1, rfl, h3, h4⟩ := h
    exact ⟨v, r, p1, p2, h1, rfl, Tr.keep eb h3 fun p hp => k p (by simp [hp]), Trs.keep eb h4 fun p hp => k p (by simp [hp])⟩
end
mutual
/-- a tree is read in any region that has its leaves and its cells -/
theorem Tr.rp {R : Hp} (eb : Same B R) : ∀ {d : D} {v : V} {ps : List Addr}, Tr C B H d v ps → (∀ p ∈ ps, ∀ o, H p = some o → R p = some o) → Rp C R d v
  | .ls ds, v, ps, h, k => by
    rw [tr_ls] at h
    rw [rp_ls]
    obtain ⟨a, xs, qs, h1, h2, rfl, h4⟩ := h
    exact ⟨a, xs, h1, k a (by simp) _ h2, Trs.rp eb h4 fun p hp => k p (by simp [hp])⟩
  | .dc ks ds, v, ps, h, k => by
    rw [tr_dc] at h
    rw [rp_dc]
    obtain ⟨a, xs, qs, h1, h2, h3, rfl, h4⟩ := h
    exact ⟨a, xs, h1, k a (by simp) _ h2, h3, Trs.rp eb h4 fun p hp => k p (by simp [hp])⟩
  | .ob c ds, v, ps, h, k => by
    rw [tr_ob] at h
    rw [rp_ob]
    obtain ⟨a, dx, xs, qs, h1, h2, h3, rfl, h4⟩ := h
    exact ⟨a, dx, xs, h1, k a (by simp) _ h2, h3, Trs.rp eb h4 fun p hp => k p (by simp [hp])⟩
  | .tp ds, v, ps, h, k => by
    simp only [Tr] at h
    exact h.2.mono eb
  | .non, _, _, h, _ => by
    simp only [Tr] at h
    simpa only [Rp] using h.2
  | .bl _, _, _, h, _ => by
    simp only [Tr] at h
    simpa only [Rp] using h.2
  | .int _, _, _, h, _ => by
    simp only [Tr] at h
    simpa only [Rp] using h.2
  | .str _, _, _, h, _ => by
    simp only [Tr] at h
    simpa only [Rp] using h.2
theorem Trs.rp {R : Hp} (eb : Same B R) : ∀ {ds : List D} {vs : List V} {ps : List Addr}, Trs C B H ds vs ps → (∀ p ∈ ps, ∀ o, H p = some o → R p = some o) → Rps C R ds vs
  | [], _, _, h, _ => by
    rw [trs_nil] at h
    simpa only [Rps] using h.1
  | d :: ds, vs, ps, h, k => by
    rw [trs_cons] at h
    obtain ⟨v, r, p1, p2, rfl, rfl, h3, h4⟩ := h
    exact .cons (Tr.rp eb h3 fun p hp => k p (by simp [hp])) (Trs.rp eb h4 fun p hp => k p (by simp [hp]))
end
theorem Trs.len : ∀ {ds : List D} {vs : List V} {ps : List Addr}, Trs C B H ds vs ps → vs.length = ds.length
  | [], _, _, h => by
    rw [trs_nil] at h
    rw [h.1]; rfl
  | d :: ds, vs, ps, h => by
    rw [trs_cons] at h
    obtain ⟨v, r, p1, p2, rfl, rfl, h3, h4⟩ := h
    simp [Trs.len h4]
/-- one of many -/
theorem Trs.split : ∀ {ds : List D} {vs : List V} {ps : List Addr} {k : Nat} {d : D}, Trs C B H ds vs ps → ds[k]? = some d → ∃ v p1 pk p2, vs[k]? = some v ∧ ps = p1 ++ (pk ++ p2) ∧ Tr C B H d v pk ∧
    ∀ {B' H' : Hp} {d' : D} {v' : V} {pk' : List Addr}, Same B B' → (∀ p, p ∈ p1 ∨ p ∈ p2 → ∀ o, H p = some o → H' p = some o) → Tr C B' H' d' v' pk' → Trs C B' H' (ds.set k d') (vs.set k v') (p1 ++ (pk' ++ p2))
  | [], _, _, _, _, _, e => by simp at e
  | d0 :: ds, vs, ps, 0, d, h, e => by
    rw [trs_cons] at h
    obtain ⟨v, r, p1, p2, rfl, rfl, h3, h4⟩ := h
    simp only [List.getElem?_cons_zero, Option.some.injEq] at e
    subst e
    refine ⟨v, [], p1, p2, rfl, rfl, h3, fun {B' H' d' v' pk'} eb k t => ?_⟩
    simp only [List.set_cons_zero, List.nil_append]
    rw [trs_cons]
    exact ⟨_, _, _, _, rfl, rfl, t, h4.keep eb fun p hp => k p (.inr hp)⟩
  | d0 :: ds, vs, ps, k + 1, d, h, e => by
    rw [trs_cons] at h
    obtain ⟨v, r, p1, p2, rfl, rfl, h3, h4⟩ := h
    simp only [List.getElem?_cons_succ] at e
    obtain ⟨w, q1, qk, q2, e1, rfl, t1, up⟩ := Trs.split (k := k) h4 e
    refine ⟨w, p1 ++ q1, qk, q2, by simpa using e1, by simp, t1, fun {B' H' d' v' pk'} eb kk t => ?_⟩
    simp only [List.set_cons_succ]
    rw [trs_cons]
    refine ⟨_, _, p1, q1 ++ (pk' ++ q2), rfl, by simp, h3.keep eb fun p hp => kk p (.inl (by simp [hp])), up eb (fun p hp => kk p ?_) t⟩
    rcases hp with hp | hp
    · exact .inl (by simp [hp])
    · exact .inr hp
theorem Trs.app : ∀ {ds es : List D} {vs ws : List V} {ps qs : List Addr}, Trs C B H ds vs ps → Trs C B H es ws qs → Trs C B H (ds ++ es) (vs ++ ws) (ps ++ qs)
  | [], _, _, _, _, _, h, k => by
    rw [trs_nil] at h
    obtain ⟨rfl, rfl⟩ := h
    exact k
  | d :: ds, es, vs, ws, ps, qs, h, k => by
    rw [trs_cons] at h
    obtain ⟨v, r, p1, p2, rfl, rfl, h3, h4⟩ := h
    simp only [List.cons_append, List.append_assoc]
    rw [trs_cons]
    exact ⟨_, _, _, _, rfl, rfl, h3, Trs.app h4 k⟩
theorem Trs.one {d : D} {v : V} {ps : List Addr} (h : Tr C B H d v ps) : Trs C B H [d] [v] ps := by
  rw [trs_cons]
  exact ⟨v, [], ps, [], rfl, by simp, h, by rw [trs_nil]; exact ⟨rfl, rfl⟩⟩
theorem Trs.of_leaves : ∀ {ds : List D} {vs : List V}, (ds.all D.leaf) = true → Rps C B ds vs → Trs C B H ds vs []
  | [], _, _, h => by
    simp only [Rps] at h
    rw [trs_nil]
    exact ⟨h, rfl⟩
  | d :: ds, vs, e, h => by
    simp only [List.all_cons, Bool.and_eq_true] at e
    simp only [Rps] at h
    obtain ⟨v, r, rfl, h2, h3⟩ := h
    rw [trs_cons]
    exact ⟨v, r, [], [], rfl, rfl, by rw [tr_leaf e.1]; exact ⟨rfl, h2⟩, Trs.of_leaves e.2 h3⟩
end
/-! ### paths -/
def Nav (C : Cf) (H : Hp) : List Nat → D → V → D → V → Prop
  | [], d, w, d', v => d' = d ∧ v = w
  | k :: q, .ls ds, w, d', v => ∃ a xs u e, w = .ref a ∧ H a = some (.lst xs) ∧ ds[k]? = some e ∧ xs[k]? = some u ∧ Nav C H q e u d' v
  | k :: q, .ob c ds, w, d', v => ∃ a dx xs u e, w = .ref a ∧ H a = some (.ins (C.Cl c).1 dx ((C.Cl c).2.zip xs)) ∧ xs.length = (C.Cl c).2.length ∧ ds[k]? = some e ∧ xs[k]? = some u ∧ Nav C H q e u d' v
  | _ :: _, _, _, _, _ => False
def D.sub : D → List Nat → Option D
  | d, [] => some d
  | .ls ds, k :: q => match ds[k]? with
    | some e => D.sub e q
    | none => none
  | .ob _ ds, k :: q => match ds[k]? with
    | some e => D.sub e q
    | none => none
  | _, _ :: _ => none
termination_by structural _ q => q
def D.put : D → List Nat → D → D
  | _, [], x => x
  | .ls ds, k :: q, x => match ds[k]? with
    | some e => .ls (ds.set k (D.put e q x))
    | none => .ls ds
  | .ob c ds, k :: q, x => match ds[k]? with
    | some e => .ob c (ds.set k (D.put e q x))
    | none => .ob c ds
  | d, _ :: _, _ => d
termination_by structural _ q => q
section
variable {C : Cf} {B B' H H' : Hp}
theorem sub_nil {d : D} : d.sub [] = some d := by rw [D.sub]
theorem sub_ls {ds : List D} {k : Nat} {q : List Nat} : (D.ls ds).sub (k :: q) = match ds[k]? with | some e => D.sub e q | none => none := by rw [D.sub]
theorem sub_ob {c : Nat} {ds : List D} {k : Nat} {q : List Nat} : (D.ob c ds).sub (k :: q) = match ds[k]? with | some e => D.sub e q | none => none := by rw [D.sub]
theorem put_nil {d x : D} : d.put [] x = x := by rw [D.put]
theorem put_ls {ds : List D} {k : Nat} {q : List Nat} {e x : D} (h : ds[k]? = some e) : (D.ls ds).put (k :: q) x = .ls (ds.set k (e.put q x)) := by rw [D.put, h]
theorem put_ob {c : Nat} {ds : List D} {k : Nat} {q : List Nat} {e x : D} (h : ds[k]? = some e) : (D.ob c ds).put (k :: q) x = .ob c (ds.set k (e.put q x)) := by rw [D.put, h]
theorem Nav.mono (e : Same H H') : ∀ {q : List Nat} {d d' : D} {w v : V}, Nav C H q d w d' v → Nav C H' q d w d' v
  | [], _, _, _, _, h => by simpa only [Nav] using h
  | k :: q, .ls ds, d', w, v, h => by
    simp only [Nav] at h ⊢
    obtain ⟨a, xs, u, x, h1, h2, h3, h4, h5⟩ := h
    exact ⟨a, xs, u, x, h1, e _ _ h2, h3, h4, h5.mono e⟩
  | k :: q, .ob c ds, d', w, v, h => by
    simp only [Nav] at h ⊢
    obtain ⟨a, dx, xs, u, x, h1, h2, hl, h3, h4, h5⟩ := h
    exact ⟨a, dx, xs, u, x, h1, e _ _ h2, hl, h3, h4, h5.mono e⟩
  | _ :: _, .tp _, _, _, _, h => by simp only [Nav] at h
  | _ :: _, .dc _ _, _, _, _, h => by simp only [Nav] at h
  | _ :: _, .non, _, _, _, h => by simp only [Nav] at h
  | _ :: _, .bl _, _, _, _, h => by simp only [Nav] at h
  | _ :: _, .int _, _, _, _, h => by simp only [Nav] at h
  | _ :: _, .str _, _, _, _, h => by simp only [Nav] at h
theorem Nav.sub : ∀ {q : List Nat} {d d' : D} {w v : V}, Nav C H q d w d' v → d.sub q = some d'
  | [], _, _, _, _, h => by
    simp only [Nav] at h
    rw [sub_nil, h.1]
  | k :: q, .ls ds, d', w, v, h => by
    simp only [Nav] at h
    obtain ⟨a, xs, u, x, h1, h2, h3, h4, h5⟩ := h
    rw [sub_ls, h3]
    exact h5.sub
  | k :: q, .ob c ds, d', w, v, h => by
    simp only [Nav] at h
    obtain ⟨a, dx, xs, u, x, h1, h2, hl, h3, h4, h5⟩ := h
    rw [sub_ob, h3]
    exact h5.sub
  | _ :: _, .tp _, _, _, _, h => by simp only [Nav] at h
  | _ :: _, .dc _ _, _, _, _, h => by simp only [Nav] at h
  | _ :: _, .non, _, _, _, h => by simp only [Nav] at h
  | _ :: _, .bl _, _, _, _, h => by simp only [Nav] at h
  | _ :: _, .int _, _, _, _, h => by simp only [Nav] at h
  | _ :: _, .str _, _, _, _, h => by simp only [Nav] at h
theorem Nav.fn : ∀ {q : List Nat} {d d1 d2 : D} {w v1 v2 : V}, Nav C H q d w d1 v1 → Nav C H q d w d2 v2 → d1 = d2 ∧ v1 = v2
  | [], _, _, _, _, _, _, h, h' => by
    simp only [Nav] at h h'
    exact ⟨by rw [h.1, h'.1], by rw [h.2, h'.2]⟩
  | k :: q, .ls ds, _, _, w, _, _, h, h' => by
    simp only [Nav] at h h'
    obtain ⟨a, xs, u, x, rfl, h2, h3, h4, h5⟩ := h
    obtain ⟨a', xs', u', x', e1, e2, e3, e4, e5⟩ := h'
    cases e1
    rw [h2] at e2
    cases e2
    rw [h3] at e3
    cases e3
    rw [h4] at e4
    cases e4
    exact h5.fn e5
  | k :: q, .ob c ds, _, _, w, _, _, h, h' => by
    simp only [Nav] at h h'
    obtain ⟨a, dx, xs, u, x, rfl, h2, hl, h3, h4, h5⟩ := h
    obtain ⟨a', dx', xs', u', x', e1, e2, el, e3, e4, e5⟩ := h'
    cases e1
    rw [h2] at e2
    simp only [Option.some.injEq, HO.ins.injEq] at e2
    have ex : xs = xs' := by
      have := congrArg (List.map Prod.snd) e2.2.2
      rwa [List.map_snd_zip (by omega), List.map_snd_zip (by omega)] at this
    subst ex
    rw [h3] at e3
    cases e3
    rw [h4] at e4
    cases e4
    exact h5.fn e5
  | _ :: _, .tp _, _, _, _, _, _, h, _ => by simp only [Nav] at h
  | _ :: _, .dc _ _, _, _, _, _, _, h, _ => by simp only [Nav] at h
  | _ :: _, .non, _, _, _, _, _, h, _ => by simp only [Nav] at h
  | _ :: _, .bl _, _, _, _, _, _, h, _ => by simp only [Nav] at h
  | _ :: _, .int _, _, _, _, _, _, h, _ => by simp only [Nav] at h
  | _ :: _, .str _, _, _, _, _, _, h, _ => by simp only [Nav] at h
/-- a path of the data is a path of the tree -/
theorem Tr.nav : ∀ {q : List Nat} {d d' : D} {w : V} {ps : List Addr}, Tr C B H d w ps → d.sub q = some d' → ∃ v qs, Nav C H q d w d' v ∧ Tr C B H d' v qs ∧ ∀ p ∈ qs, p ∈ ps
  | [], d, d', w, ps, t, h => by
    rw [sub_nil] at h
    cases h
    exact ⟨w, ps, by unfold Nav; exact ⟨rfl, rfl⟩, t, fun _ h => h⟩
  | k :: q, .ls ds, d', w, ps, t, h => by
    rw [sub_ls] at h
    split at h
    · rename_i e e1
      rw [tr_ls] at t
      obtain ⟨a, xs, qs, rfl, h2, rfl, h4⟩ := t
      obtain ⟨u, p1, pk, p2, ek, rfl, tk, _⟩ := h4.split e1
      obtain ⟨v, rs, n, t', sb⟩ := Tr.nav tk h
      refine ⟨v, rs, ?_, t', fun p hp => by simp [sb p hp]⟩
      simp only [Nav]
      exact ⟨a, xs, u, e, rfl, h2, e1, ek, n⟩
    · cases h
  | k :: q, .ob c ds, d', w, ps, t, h => by
    rw [sub_ob] at h
    split at h
    · rename_i e e1
      rw [tr_ob] at t
      obtain ⟨a, dx, xs, qs, rfl, h2, hl, rfl, h4⟩ := t
      obtain ⟨u, p1, pk, p2, ek, rfl, tk, _⟩ := h4.split e1
      obtain ⟨v, rs, n, t', sb⟩ := Tr.nav tk h
      refine ⟨v, rs, ?_, t', fun p hp => by simp [sb p hp]⟩
      simp only [Nav]
      exact ⟨a, dx, xs, u, e, rfl, h2, hl, e1, ek, n⟩
    · cases h
  | _ :: _, .tp _, _, _, _, _, h => by rw [D.sub] at h; cases h; all_goals (intros; simp_all)
  | _ :: _, .dc _ _, _, _, _, _, h => by rw [D.sub] at h; cases h; all_goals (intros; simp_all)
  | _ :: _, .non, _, _, _, _, h => by rw [D.sub] at h; cases h; all_goals (intros; simp_all)
  | _ :: _, .bl _, _, _, _, _, h => by rw [D.sub] at h; cases h; all_goals (intros; simp_all)
  | _ :: _, .int _, _, _, _, _, h => by rw [D.sub] at h; cases h; all_goals (intros; simp_all)
  | _ :: _, .str _, _, _, _, _, h => by rw [D.sub] at h; cases h; all_goals (intros; simp_all)
/-- a path stays while the tree's cells stay -/
theorem Nav.keep : ∀ {q : List Nat} {d d' : D} {w v : V} {ps : List Addr}, Tr C B H d w ps → (∀ p ∈ ps, ∀ o, H p = some o → H' p = some o) → Nav C H q d w d' v → Nav C H' q d w d' v
  | [], _, _, _, _, _, _, _, h => by simpa only [Nav] using h
  | k :: q, .ls ds, d', w, v, ps, t, kp, h => by
    simp only [Nav] at h ⊢
    obtain ⟨a, xs, u, x, rfl, h2, h3, h4, h5⟩ := h
    rw [tr_ls] at t
    obtain ⟨a', xs', qs, e1, e2, rfl, t4⟩ := t
    cases e1
    rw [h2] at e2
    cases e2
    obtain ⟨u', p1, pk, p2, ek, rfl, tk, _⟩ := t4.split h3
    rw [h4] at ek
    cases ek
    exact ⟨a, xs, u, x, rfl, kp a (by simp) _ h2, h3, h4, h5.keep tk fun p hp => kp p (by simp [hp])⟩
  | k :: q, .ob c ds, d', w, v, ps, t, kp, h => by
    simp only [Nav] at h ⊢
    obtain ⟨a, dx, xs, u, x, rfl, h2, hl, h3, h4, h5⟩ := h
    rw [tr_ob] at t
    obtain ⟨a', dx', xs', qs, e1, e2, el, rfl, t4⟩ := t
    cases e1
    rw [h2] at e2
    simp only [Option.some.injEq, HO.ins.injEq] at e2
    have ex : xs = xs' := by
      have := congrArg (List.map Prod.snd) e2.2.2
      rwa [List.map_snd_zip (by omega), List.map_snd_zip (by omega)] at this
    subst ex
    obtain ⟨u', p1, pk, p2, ek, rfl, tk, _⟩ := t4.split h3
    rw [h4] at ek
    cases ek
    exact ⟨a, dx, xs, u, x, rfl, kp a (by simp) _ h2, hl, h3, h4, h5.keep tk fun p hp => kp p (by simp [hp])⟩
  | _ :: _, .tp _, _, _, _, _, _, _, h => by simp only [Nav] at h
  | _ :: _, .dc _ _, _, _, _, _, _, _, h => by simp only [Nav] at h
  | _ :: _, .non, _, _, _, _, _, _, h => by simp only [Nav] at h
  | _ :: _, .bl _, _, _, _, _, _, _, h => by simp only [Nav] at h
  | _ :: _, .int _, _, _, _, _, _, _, h => by simp only [Nav] at h
  | _ :: _, .str _, _, _, _, _, _, _, h => by simp only [Nav] at h
end

/-! ### states -/
inductive Sl where
  | no | sh (d : D) (g : Bool) | ow (ds : List D) (g : Bool) | rg (d : D) | tr (d : D) | al (j : Nat) (q : List Nat)

/-- the slots that hold trees -/
structure TrOk (C : Cf) (H0 B H : Hp) (σ : St) (δ : List Sl) (φ : Nat → List Addr) : Prop where
  tr : ∀ (i : Nat) d, δ[i]? = some (.tr d) → ∃ v, σ[i]? = some (some v) ∧ Tr C B H d v (φ i)
  nd : ∀ (i : Nat) d, δ[i]? = some (.tr d) → (φ i).Nodup
  nw : ∀ (i : Nat) d p, δ[i]? = some (.tr d) → p ∈ φ i → H0 p = none ∧ B p = none ∧ (∃ o, H p = some o) ∧ ∀ (j : Nat) ds g, δ[j]? = some (.ow ds g) → σ[j]? ≠ some (some (.ref p))
  dj : ∀ (i j : Nat) d d' p, δ[i]? = some (.tr d) → δ[j]? = some (.tr d') → p ∈ φ i → p ∈ φ j → i = j

structure Stt (C : Cf) (B0 H0 B H : Hp) (σ : St) (δ : List Sl) : Prop where
  ex0 : Same H0 H
  exb : Same B0 B
  sub : Same B H
  new : ∀ p o, B p = some o → B0 p = some o ∨ H0 p = none
  len : σ.length = δ.length
  shr : ∀ (i : Nat) d g, δ[i]? = some (.sh d g) → ∃ v, σ[i]? = some (some v) ∧ Rp C (Rg B0 H0 B H true g) d v
  own : ∀ (i : Nat) ds g, δ[i]? = some (.ow ds g) → ∃ p vs, σ[i]? = some (some (.ref p)) ∧ H0 p = none ∧ B p = none ∧ H p = some (.lst vs) ∧ Rps C (Rg B0 H0 B H true g) ds vs
  dis : ∀ (i j : Nat) ds g ds' g' p, δ[i]? = some (.ow ds g) → δ[j]? = some (.ow ds' g') → σ[i]? = some (some (.ref p)) → σ[j]? = some (some (.ref p)) → i = j
  rgn : ∀ (i : Nat) d, δ[i]? = some (.rg d) → ∃ v, σ[i]? = some (some v) ∧ Rp C (Rsd B0 H0 H) d v
  tre : ∃ φ, TrOk C H0 B H σ δ φ
  ali : ∀ (i j : Nat) q, δ[i]? = some (.al j q) → ∃ v, σ[i]? = some (some v) ∧ ∀ d, δ[j]? = some (.tr d) → ∃ w d', σ[j]? = some (some w) ∧ Nav C H q d w d' v

section
variable {C : Cf} {B0 H0 B H : Hp} {σ : St} {δ : List Sl}
theorem Stt.b_rsd (S : Stt C B0 H0 B H σ δ) : Same B (Rsd B0 H0 H) := fun p o h => by
  unfold Rsd
  rcases S.new p o h with q | q
  · rw [q]; exact S.sub _ _ h
  · rw [q]; cases B0 p <;> exact S.sub _ _ h
theorem Stt.weak (S : Stt C B0 H0 B H σ δ) (f g f' g' : Bool) (hf : f' = true → f = true) (hg : g' = true → g = true) : Same (Rg B0 H0 B H f g) (Rg B0 H0 B H f' g') := by
  cases f' <;> cases g' <;> cases f <;> cases g <;> first
    | exact Same.refl _
    | exact bn_sub
    | exact S.b_rsd
    | exact bn_rsd
    | exact bn_mono S.sub
    | exact Same.trans bn_sub S.b_rsd
    | exact absurd (hf rfl) (by decide)
    | exact absurd (hg rfl) (by decide)
theorem Stt.weakL (S : Stt C B0 H0 B H σ δ) (f g f' g' : Bool) : Same (Rg B0 H0 B H f g) (Rg B0 H0 B H (f && f') (g && g')) :=
  S.weak f g _ _ (fun h => (Bool.and_eq_true_iff.mp h).1) (fun h => (Bool.and_eq_true_iff.mp h).1)
theorem Stt.weakR (S : Stt C B0 H0 B H σ δ) (f g f' g' : Bool) : Same (Rg B0 H0 B H f g) (Rg B0 H0 B H (f' && f) (g' && g)) :=
  S.weak f g _ _ (fun h => (Bool.and_eq_true_iff.mp h).2) (fun h => (Bool.and_eq_true_iff.mp h).2)
theorem Stt.toH (S : Stt C B0 H0 B H σ δ) (f g : Bool) : Same (Rg B0 H0 B H f g) H := by
  cases f <;> cases g
  · exact rsd_sub
  · exact bn_sub
  · exact S.sub
  · exact Same.trans bn_sub S.sub
/-- a new cell of the heap stands in what was not there at the start -/
theorem rsd_at {p : Addr} {o : HO} (h0 : H0 p = none) (h : H p = some o) : Rsd B0 H0 H p = some o := by
  unfold Rsd
  rw [h0]
  cases B0 p <;> exact h
theorem TrOk.grow {B' H' : Hp} {φ : Nat → List Addr} (T : TrOk C H0 B H σ δ φ) (eb : Same B B') (eh : Same H H') (new : ∀ p o, B' p = some o → B p = some o ∨ H p = none) : TrOk C H0 B' H' σ δ φ := by
  refine ⟨fun i d h => ?_, T.nd, fun i d p h hp => ?_, T.dj⟩
  · obtain ⟨v, e, t⟩ := T.tr i d h
    exact ⟨v, e, t.keep eb fun p _ o => eh p o⟩
  · obtain ⟨h0, hb, ⟨o, ho⟩, hw⟩ := T.nw i d p h hp
    refine ⟨h0, ?_, ⟨o, eh _ _ ho⟩, hw⟩
    cases q : B' p with
    | none => rfl
    | some o' =>
      rcases new p o' q with z | z
      · rw [hb] at z; cases z
      · rw [ho] at z; cases z
/-- the heap grows, the base may -/
theorem Stt.grow {B' H' : Hp} (S : Stt C B0 H0 B H σ δ) (eb : Same B B') (eh : Same H H') (sub : Same B' H') (new : ∀ p o, B' p = some o → B p = some o ∨ H p = none) : Stt C B0 H0 B' H' σ δ := by
  have nn : ∀ p, H p = none → H0 p = none := fun p h => S.ex0.free h
  refine ⟨S.ex0.trans eh, S.exb.trans eb, sub, fun p o h => ?_, S.len, fun i d g h => ?_, fun i ds g h => ?_, S.dis, fun i d h => ?_, ?_, fun i j q h => ?_⟩
  · rcases new p o h with q | q
    · exact S.new p o q
    · exact .inr (nn p q)
  · obtain ⟨v, e, r⟩ := S.shr i d g h
    exact ⟨v, e, r.mono (rg_mono eb eh _ _)⟩
  · obtain ⟨p, vs, e, h0, hb, hh, r⟩ := S.own i ds g h
    refine ⟨p, vs, e, h0, ?_, eh _ _ hh, r.mono (rg_mono eb eh _ _)⟩
    cases q : B' p with
    | none => rfl
    | some o =>
      rcases new p o q with z | z
      · rw [hb] at z; cases z
      · rw [hh] at z; cases z
  · obtain ⟨v, e, r⟩ := S.rgn i d h
    exact ⟨v, e, r.mono (rsd_mono eh)⟩
  · obtain ⟨φ, T⟩ := S.tre
    exact ⟨φ, T.grow eb eh new⟩
  · obtain ⟨v, e, a⟩ := S.ali i j q h
    refine ⟨v, e, fun d hd => ?_⟩
    obtain ⟨w, d', ew, n⟩ := a d hd
    exact ⟨w, d', ew, n.mono eh⟩
theorem same_upd {H : Hp} {p : Addr} {o : HO} (h : H p = none) : Same H (upd H p o) := fun b x e => by
  rw [upd_ne (ne_of_none e h)]
  exact e
/-- a new cell, not of the base -/
theorem Stt.cell {p : Addr} {o : HO} (S : Stt C B0 H0 B H σ δ) (hp : H p = none) : Stt C B0 H0 B (upd H p o) σ δ :=
  S.grow (Same.refl _) (same_upd hp) (S.sub.trans (same_upd hp)) (fun _ _ h => .inl h)
/-- a new cell, of the base -/
theorem Stt.base {p : Addr} {o : HO} (S : Stt C B0 H0 B H σ δ) (hp : H p = none) : Stt C B0 H0 (upd B p o) (upd H p o) σ δ := by
  have hb : B p = none := S.sub.free hp
  refine S.grow (same_upd hb) (same_upd hp) (fun q x h => ?_) (fun q x h => ?_)
  · by_cases e : q = p
    · subst e; rw [upd_same] at h ⊢; exact h
    · rw [upd_ne e] at h ⊢; exact S.sub _ _ h
  · by_cases e : q = p
    · subst e; exact .inr hp
    · rw [upd_ne e] at h; exact .inl h
/-- a cell that stands in the heap comes to the base -/
theorem Stt.alloc {p : Addr} {o : HO} (S : Stt C B0 H0 B H σ δ) (hp : H p = none) (f g : Bool) : ∃ B', Same B B' ∧ Stt C B0 H0 B' (upd H p o) σ δ ∧ (Rg B0 H0 B' (upd H p o) f g) p = some o := by
  have h0 : H0 p = none := S.ex0.free hp
  cases f with
  | true =>
    refine ⟨upd B p o, same_upd (S.sub.free hp), S.base hp, ?_⟩
    cases g
    · exact upd_same
    · show (match H0 p with | none => (upd B p o) p | some _ => none) = some o
      rw [h0]; exact upd_same
  | false =>
    refine ⟨B, Same.refl _, S.cell hp, ?_⟩
    cases g
    · show (match B0 p, H0 p with | none, some _ => none | _, _ => (upd H p o) p) = some o
      rw [h0]; cases B0 p <;> exact upd_same
    · show (match H0 p with | none => (upd H p o) p | some _ => none) = some o
      rw [h0]; exact upd_same
end
end G

namespace G
open PySem L2

/-! ### growing -/
structure Gro (B H B' H' : Hp) : Prop where
  eb : Same B B'
  eh : Same H H'
  nw : ∀ p o, B' p = some o → B p = some o ∨ H p = none
theorem Gro.refl (B H : Hp) : Gro B H B H := ⟨Same.refl _, Same.refl _, fun _ _ h => .inl h⟩
theorem Gro.trans {B H B' H' B2 H2 : Hp} (a : Gro B H B' H') (b : Gro B' H' B2 H2) : Gro B H B2 H2 :=
  ⟨a.eb.trans b.eb, a.eh.trans b.eh, fun p o h => by
    rcases b.nw p o h with q | q
    · exact a.nw p o q
    · exact .inr (a.eh.free q)⟩
section
variable {C : Cf} {B0 H0 B H B' H' : Hp} {σ σ' : St} {δ δ' : List Sl}
theorem Stt.by (S : Stt C B0 H0 B H σ δ) (G : Gro B H B' H') (S' : Stt C B0 H0 B' H' σ' δ') : Stt C B0 H0 B' H' σ δ := S.grow G.eb G.eh S'.sub G.nw
theorem Gro.rg (G : Gro B H B' H') (f g : Bool) : Same (Rg B0 H0 B H f g) (Rg B0 H0 B' H' f g) := rg_mono G.eb G.eh f g
theorem Stt.alloc2 {p : Addr} {o : HO} (S : Stt C B0 H0 B H σ δ) (hp : H p = none) (f g : Bool) : ∃ B', Gro B H B' (upd H p o) ∧ Stt C B0 H0 B' (upd H p o) σ δ ∧ (Rg B0 H0 B' (upd H p o) f g) p = some o := by
  have h0 : H0 p = none := S.ex0.free hp
  cases f with
  | true =>
    refine ⟨upd B p o, ⟨same_upd (S.sub.free hp), same_upd hp, fun q x h => ?_⟩, S.base hp, ?_⟩
    · by_cases e : q = p
      · subst e; exact .inr hp
      · rw [upd_ne e] at h; exact .inl h
    cases g
    · exact upd_same
    · show (match H0 p with | none => (upd B p o) p | some _ => none) = some o
      rw [h0]; exact upd_same
  | false =>
    refine ⟨B, ⟨Same.refl _, same_upd hp, fun _ _ h => .inl h⟩, S.cell hp, ?_⟩
    cases g
    · show (match B0 p, H0 p with | none, some _ => none | _, _ => (upd H p o) p) = some o
      rw [h0]; cases B0 p <;> exact upd_same
    · show (match H0 p with | none => (upd H p o) p | some _ => none) = some o
      rw [h0]; exact upd_same
theorem rg_true (f : Bool) : ∀ {B0 H0 B H H' : Hp}, Rg B0 H0 B H true f = Rg B0 H0 B H' true f := by
  cases f <;> intros <;> rfl
theorem get_set {α : Type} {l : List α} {i j : Nat} {x y : α} (h : (l.set j x)[i]? = some y) : (i = j ∧ y = x ∧ j < l.length) ∨ (i ≠ j ∧ l[i]? = some y) := by
  rw [List.getElem?_set] at h
  by_cases e : j = i
  · rw [if_pos e] at h
    split at h
    · exact .inl ⟨e.symm, (Option.some.inj h).symm, by assumption⟩
    · cases h
  · rw [if_neg e] at h
    exact .inr ⟨fun z => e z.symm, h⟩
theorem set_get {α : Type} {l : List α} {j : Nat} {x : α} (h : j < l.length) : (l.set j x)[j]? = some x := List.getElem?_set_self h
theorem set_ne {α : Type} {l : List α} {i j : Nat} {x : α} (h : i ≠ j) : (l.set j x)[i]? = l[i]? := List.getElem?_set_ne (Ne.symm h)
/-- a slot is stored that is no tree and no name of one -/
theorem Stt.tre_set {j : Nat} {s : Sl} {x : Option V} (S : Stt C B0 H0 B H σ δ) (hs : ∀ d, s ≠ .tr d) (ho : ∀ ds g, s ≠ .ow ds g) : ∃ φ, TrOk C H0 B H (σ.set j x) (δ.set j s) φ := by
  obtain ⟨φ, T⟩ := S.tre
  have back : ∀ {i : Nat} {d : D}, (δ.set j s)[i]? = some (.tr d) → i ≠ j ∧ δ[i]? = some (.tr d) := fun {i d} h => by
    rcases get_set h with ⟨_, e, _⟩ | ⟨ne, h⟩
    · exact absurd e.symm (hs d)
    · exact ⟨ne, h⟩
  refine ⟨φ, fun i d h => ?_, fun i d h => T.nd i d (back h).2, fun i d p h hp => ?_, fun i k d d' p h1 h2 => T.dj i k d d' p (back h1).2 (back h2).2⟩
  · obtain ⟨ne, h⟩ := back h
    rw [set_ne ne]
    exact T.tr i d h
  · obtain ⟨ne, h⟩ := back h
    obtain ⟨h0, hb, hh, hw⟩ := T.nw i d p h hp
    refine ⟨h0, hb, hh, fun k ds g hk => ?_⟩
    rcases get_set hk with ⟨_, e, _⟩ | ⟨nk, hk⟩
    · exact absurd e.symm (ho ds g)
    · rw [set_ne nk]
      exact hw k ds g hk
theorem Stt.ali_set {j : Nat} {s : Sl} {x : Option V} (S : Stt C B0 H0 B H σ δ) (hs : ∀ d, s ≠ .tr d) (ha : ∀ k q, s ≠ .al k q) (i k : Nat) (q : List Nat) (h : (δ.set j s)[i]? = some (.al k q)) : ∃ v, (σ.set j x)[i]? = some (some v) ∧ ∀ d, (δ.set j s)[k]? = some (.tr d) → ∃ w d', (σ.set j x)[k]? = some (some w) ∧ Nav C H q d w d' v := by
  rcases get_set h with ⟨_, e, _⟩ | ⟨ne, h⟩
  · exact absurd e.symm (ha k q)
  · obtain ⟨v, e, a⟩ := S.ali i k q h
    rw [set_ne ne]
    refine ⟨v, e, fun d hd => ?_⟩
    rcases get_set hd with ⟨_, e, _⟩ | ⟨nk, hd⟩
    · exact absurd e.symm (hs d)
    · rw [set_ne nk]
      exact a d hd
theorem Stt.rgn_set {j : Nat} {s : Sl} {x : Option V} (S : Stt C B0 H0 B H σ δ) (hs : ∀ d, s ≠ .rg d) (i : Nat) (d : D) (h : (δ.set j s)[i]? = some (.rg d)) : ∃ v, (σ.set j x)[i]? = some (some v) ∧ Rp C (Rsd B0 H0 H) d v := by
  rcases get_set h with ⟨_, e, _⟩ | ⟨ne, h⟩
  · exact absurd e.symm (hs d)
  · rw [set_ne ne]
    exact S.rgn i d h
theorem Stt.shr_set {j : Nat} {s : Sl} {x : Option V} (S : Stt C B0 H0 B H σ δ) (hs : ∀ d g, s ≠ .sh d g) (i : Nat) (d : D) (g : Bool) (h : (δ.set j s)[i]? = some (.sh d g)) : ∃ v, (σ.set j x)[i]? = some (some v) ∧ Rp C (Rg B0 H0 B H true g) d v := by
  rcases get_set h with ⟨_, e, _⟩ | ⟨ne, h⟩
  · exact absurd e.symm (hs d g)
  · rw [set_ne ne]
    exact S.shr i d g h
theorem Stt.own_set {j : Nat} {s : Sl} {x : Option V} (S : Stt C B0 H0 B H σ δ) (hs : ∀ d g, s ≠ .ow d g) (i : Nat) (ds : List D) (g : Bool) (h : (δ.set j s)[i]? = some (.ow ds g)) : ∃ p vs, (σ.set j x)[i]? = some (some (.ref p)) ∧ H0 p = none ∧ B p = none ∧ H p = some (.lst vs) ∧ Rps C (Rg B0 H0 B H true g) ds vs := by
  rcases get_set h with ⟨_, e, _⟩ | ⟨ne, h⟩
  · exact absurd e.symm (hs ds g)
  · rw [set_ne ne]
    exact S.own i ds g h
theorem Stt.dis_set {j : Nat} {s : Sl} {x : Option V} (S : Stt C B0 H0 B H σ δ) (hs : ∀ d g, s ≠ .ow d g) (i k : Nat) (ds : List D) (g : Bool) (ds' : List D) (g' : Bool) (p : Addr) (h1 : (δ.set j s)[i]? = some (.ow ds g)) (h2 : (δ.set j s)[k]? = some (.ow ds' g')) (h3 : (σ.set j x)[i]? = some (some (.ref p))) (h4 : (σ.set j x)[k]? = some (some (.ref p))) : i = k := by
  rcases get_set h1 with ⟨_, e, _⟩ | ⟨n1, h1⟩
  · exact absurd e.symm (hs ds g)
  · rcases get_set h2 with ⟨_, e, _⟩ | ⟨n2, h2⟩
    · exact absurd e.symm (hs ds' g')
    · rw [set_ne n1] at h3
      rw [set_ne n2] at h4
      exact S.dis i k _ _ _ _ p h1 h2 h3 h4
/-- a slot is stored -/
theorem Stt.setSh {j : Nat} {d : D} {g : Bool} {v : V} (S : Stt C B0 H0 B H σ δ) (r : Rp C (Rg B0 H0 B H true g) d v) : Stt C B0 H0 B H (σ.set j (some v)) (δ.set j (.sh d g)) := by
  refine ⟨S.ex0, S.exb, S.sub, S.new, by simp [S.len], fun i d' g' h => ?_, S.own_set fun _ _ => Sl.noConfusion, S.dis_set fun _ _ => Sl.noConfusion, S.rgn_set fun _ => Sl.noConfusion, S.tre_set (fun _ => Sl.noConfusion) (fun _ _ => Sl.noConfusion), S.ali_set (fun _ => Sl.noConfusion) (fun _ _ => Sl.noConfusion)⟩
  rcases get_set h with ⟨rfl, e, hl⟩ | ⟨ne, h⟩
  · cases e
    exact ⟨v, set_get (by rw [S.len]; exact hl), r⟩
  · rw [set_ne ne]; exact S.shr i d' g' h
theorem Stt.setRg {j : Nat} {d : D} {v : V} (S : Stt C B0 H0 B H σ δ) (r : Rp C (Rsd B0 H0 H) d v) : Stt C B0 H0 B H (σ.set j (some v)) (δ.set j (.rg d)) := by
  refine ⟨S.ex0, S.exb, S.sub, S.new, by simp [S.len], S.shr_set fun _ _ => Sl.noConfusion, S.own_set fun _ _ => Sl.noConfusion, S.dis_set fun _ _ => Sl.noConfusion, fun i d' h => ?_, S.tre_set (fun _ => Sl.noConfusion) (fun _ _ => Sl.noConfusion), S.ali_set (fun _ => Sl.noConfusion) (fun _ _ => Sl.noConfusion)⟩
  rcases get_set h with ⟨rfl, e, hl⟩ | ⟨ne, h⟩
  · cases e
    exact ⟨v, set_get (by rw [S.len]; exact hl), r⟩
  · rw [set_ne ne]; exact S.rgn i d' h
theorem Stt.setNo {j : Nat} {x : Option V} (S : Stt C B0 H0 B H σ δ) : Stt C B0 H0 B H (σ.set j x) (δ.set j .no) :=
  ⟨S.ex0, S.exb, S.sub, S.new, by simp [S.len], S.shr_set fun _ _ => Sl.noConfusion, S.own_set fun _ _ => Sl.noConfusion, S.dis_set fun _ _ => Sl.noConfusion, S.rgn_set fun _ => Sl.noConfusion, S.tre_set (fun _ => Sl.noConfusion) (fun _ _ => Sl.noConfusion), S.ali_set (fun _ => Sl.noConfusion) (fun _ _ => Sl.noConfusion)⟩
theorem Stt.setAl {i j : Nat} {q : List Nat} {v : V} (S : Stt C B0 H0 B H σ δ) (n : i ≠ j) (a : ∀ d, δ[j]? = some (.tr d) → ∃ w d', σ[j]? = some (some w) ∧ Nav C H q d w d' v) : Stt C B0 H0 B H (σ.set i (some v)) (δ.set i (.al j q)) := by
  refine ⟨S.ex0, S.exb, S.sub, S.new, by simp [S.len], S.shr_set fun _ _ => Sl.noConfusion, S.own_set fun _ _ => Sl.noConfusion, S.dis_set fun _ _ => Sl.noConfusion, S.rgn_set fun _ => Sl.noConfusion, S.tre_set (fun _ => Sl.noConfusion) (fun _ _ => Sl.noConfusion), fun i' k q' h => ?_⟩
  rcases get_set h with ⟨rfl, e, hl⟩ | ⟨ne, h⟩
  · cases e
    refine ⟨v, set_get (by rw [S.len]; exact hl), fun d hd => ?_⟩
    rw [set_ne (Ne.symm n)] at hd ⊢
    exact a d hd
  · obtain ⟨u, e, b⟩ := S.ali i' k q' h
    rw [set_ne ne]
    refine ⟨u, e, fun d hd => ?_⟩
    rcases get_set hd with ⟨_, e, _⟩ | ⟨nk, hd⟩
    · cases e
    · rw [set_ne nk]
      exact b d hd
theorem Stt.setOw {j : Nat} {ds : List D} {g : Bool} {p : Addr} {vs : List V} (S : Stt C B0 H0 B H σ δ) (h0 : H0 p = none) (hb : B p = none) (hp : H p = some (.lst vs)) (r : Rps C (Rg B0 H0 B H true g) ds vs)
    (no : ∀ (i : Nat) ds g, δ[i]? = some (.ow ds g) → i ≠ j → σ[i]? ≠ some (some (.ref p)))
    (nt : ∃ φ, TrOk C H0 B H σ δ φ ∧ ∀ (i : Nat) d, δ[i]? = some (.tr d) → p ∉ φ i) : Stt C B0 H0 B H (σ.set j (some (.ref p))) (δ.set j (.ow ds g)) := by
  refine ⟨S.ex0, S.exb, S.sub, S.new, by simp [S.len], S.shr_set fun _ _ => Sl.noConfusion, fun i ds' g' h => ?_, fun i k ds1 g1 ds2 g2 q h1 h2 h3 h4 => ?_, S.rgn_set fun _ => Sl.noConfusion, ?_, S.ali_set (fun _ => Sl.noConfusion) (fun _ _ => Sl.noConfusion)⟩
  · rcases get_set h with ⟨rfl, e, hl⟩ | ⟨ne, h⟩
    · cases e
      exact ⟨p, vs, set_get (by rw [S.len]; exact hl), h0, hb, hp, r⟩
    · rw [set_ne ne]; exact S.own i ds' g' h
  · rcases get_set h1 with ⟨e1, _, hl⟩ | ⟨n1, k1⟩
    · rw [e1, set_get (by rw [S.len]; exact hl)] at h3
      cases h3
      rcases get_set h2 with ⟨e2, _, _⟩ | ⟨n2, k2⟩
      · rw [e1, e2]
      · rw [set_ne n2] at h4
        exact absurd h4 (no k _ _ k2 n2)
    · rw [set_ne n1] at h3
      rcases get_set h2 with ⟨e2, _, hl⟩ | ⟨n2, k2⟩
      · rw [e2, set_get (by rw [S.len]; exact hl)] at h4
        cases h4
        exact absurd h3 (no i _ _ k1 n1)
      · rw [set_ne n2] at h4
        exact S.dis i k _ _ _ _ q k1 k2 h3 h4
  · obtain ⟨φ, T, np⟩ := nt
    have back : ∀ {i : Nat} {d : D}, (δ.set j (.ow ds g))[i]? = some (.tr d) → i ≠ j ∧ δ[i]? = some (.tr d) := fun {i d} h => by
      rcases get_set h with ⟨_, e, _⟩ | ⟨ne, h⟩
      · cases e
      · exact ⟨ne, h⟩
    refine ⟨φ, fun i d h => ?_, fun i d h => T.nd i d (back h).2, fun i d q h hp => ?_, fun i k d d' p h1 h2 => T.dj i k d d' p (back h1).2 (back h2).2⟩
    · obtain ⟨ne, h⟩ := back h
      rw [set_ne ne]
      exact T.tr i d h
    · obtain ⟨ne, h⟩ := back h
      obtain ⟨q0, qb, hh, hw⟩ := T.nw i d q h hp
      refine ⟨q0, qb, hh, fun k ds g hk => ?_⟩
      rcases get_set hk with ⟨e1, _, hl⟩ | ⟨nk, hk⟩
      · rw [e1, set_get (by rw [S.len]; exact hl)]
        intro z
        cases z
        exact np i d h hp
      · rw [set_ne nk]
        exact hw k ds g hk
theorem ne_mem {l : List Addr} {p q : Addr} (hp : p ∉ l) (hq : q ∈ l) : q ≠ p := fun z => hp (z ▸ hq)
def NoRg (δ : List Sl) : Prop := ∀ (i : Nat) d, δ[i]? ≠ some (.rg d)
theorem NoRg.set {δ : List Sl} {j : Nat} {s : Sl} (h : NoRg δ) (hs : ∀ d, s ≠ .rg d) : NoRg (δ.set j s) := fun i d e => by
  rcases get_set e with ⟨_, e, _⟩ | ⟨_, e⟩
  · exact hs d e.symm
  · exact h i d e
def noRg : Sl → Sl
  | .rg _ => .no
  | s => s
theorem noRg_get {δ : List Sl} {i : Nat} {s : Sl} (h : (δ.map noRg)[i]? = some s) (n : s ≠ .no) : δ[i]? = some s ∧ ∀ d, s ≠ .rg d := by
  rw [List.getElem?_map] at h
  cases e : δ[i]? with
  | none => rw [e] at h; cases h
  | some t =>
    rw [e] at h
    simp only [Option.map_some, Option.some.injEq] at h
    cases t with
    | rg d => exact absurd h.symm n
    | no => exact absurd h.symm n
    | sh d g => subst h; exact ⟨rfl, fun d => Sl.noConfusion⟩
    | ow d g => subst h; exact ⟨rfl, fun d => Sl.noConfusion⟩
    | tr d => subst h; exact ⟨rfl, fun d => Sl.noConfusion⟩
    | al k q => subst h; exact ⟨rfl, fun d => Sl.noConfusion⟩
theorem noRg_map (δ : List Sl) : NoRg (δ.map noRg) := fun i d h => absurd rfl ((noRg_get h Sl.noConfusion).2 d)
theorem map_noRg {δ : List Sl} (h : NoRg δ) : δ.map noRg = δ := by
  apply List.ext_getElem?
  intro i
  rw [List.getElem?_map]
  cases e : δ[i]? with
  | none => rfl
  | some s =>
    cases s with
    | rg d => exact absurd e (h i d)
    | _ => rfl
/-- what is read for now alone is given up -/
theorem Stt.dropRg (S : Stt C B0 H0 B H σ δ) : Stt C B0 H0 B H σ (δ.map noRg) := by
  obtain ⟨φ, T⟩ := S.tre
  refine ⟨S.ex0, S.exb, S.sub, S.new, by simp [S.len], fun i d g h => S.shr i d g (noRg_get h Sl.noConfusion).1, fun i ds g h => S.own i ds g (noRg_get h Sl.noConfusion).1, fun i k ds g1 ds' g2 q h1 h2 => S.dis i k _ _ _ _ q (noRg_get h1 Sl.noConfusion).1 (noRg_get h2 Sl.noConfusion).1, fun i d h => absurd h (noRg_map δ i d),
    ⟨φ, fun i d h => T.tr i d (noRg_get h Sl.noConfusion).1, fun i d h => T.nd i d (noRg_get h Sl.noConfusion).1, fun i d p h hp => ?_, fun i j d d' p h1 h2 => T.dj i j d d' p (noRg_get h1 Sl.noConfusion).1 (noRg_get h2 Sl.noConfusion).1⟩, fun i j q h => ?_⟩
  · obtain ⟨a, b, c, w⟩ := T.nw i d p (noRg_get h Sl.noConfusion).1 hp
    exact ⟨a, b, c, fun j ds g hj => w j ds g (noRg_get hj Sl.noConfusion).1⟩
  · obtain ⟨v, e, a⟩ := S.ali i j q (noRg_get h Sl.noConfusion).1
    exact ⟨v, e, fun d hd => a d (noRg_get hd Sl.noConfusion).1⟩
/-- a cell changes that is neither of the base nor of an owned list nor of a tree -/
theorem Stt.spoil {p : Addr} {o : HO} (S : Stt C B0 H0 B H σ δ) (nr : NoRg δ) (h0 : H0 p = none) (hb : B p = none) (no : ∀ (i : Nat) ds g, δ[i]? = some (.ow ds g) → σ[i]? ≠ some (some (.ref p)))
    (nt : ∃ φ, TrOk C H0 B H σ δ φ ∧ ∀ (i : Nat) d, δ[i]? = some (.tr d) → p ∉ φ i) : Stt C B0 H0 B (upd H p o) σ δ := by
  obtain ⟨φ, T, np⟩ := nt
  refine ⟨fun q x h => ?_, S.exb, fun q x h => ?_, S.new, S.len, fun i d g h => ?_, fun i ds g h1 => ?_, S.dis, fun i d h => absurd h (nr i d), ⟨φ, fun i d h => ?_, T.nd, fun i d q h hq => ?_, T.dj⟩, fun i j q h => ?_⟩
  · rw [upd_ne (ne_of_none h h0)]; exact S.ex0 _ _ h
  · rw [upd_ne (ne_of_none h hb)]; exact S.sub _ _ h
  · obtain ⟨v, e, r⟩ := S.shr i d g h
    exact ⟨v, e, by rw [rg_true g (H' := H)]; exact r⟩
  · obtain ⟨q, vs, e, q0, qb, qh, r⟩ := S.own i ds g h1
    have ne : q ≠ p := fun z => by subst z; exact no i ds g h1 e
    exact ⟨q, vs, e, q0, qb, by rw [upd_ne ne]; exact qh, by rw [rg_true g (H' := H)]; exact r⟩
  · obtain ⟨v, e, t⟩ := T.tr i d h
    refine ⟨v, e, t.keep (Same.refl _) fun q hq x hx => ?_⟩
    rw [upd_ne (ne_mem (np i d h) hq)]
    exact hx
  · obtain ⟨q0, qb, ⟨x, hx⟩, hw⟩ := T.nw i d q h hq
    exact ⟨q0, qb, ⟨x, by rw [upd_ne (ne_mem (np i d h) hq)]; exact hx⟩, hw⟩
  · obtain ⟨v, e, a⟩ := S.ali i j q h
    refine ⟨v, e, fun d hd => ?_⟩
    obtain ⟨w, d', ew, n⟩ := a d hd
    obtain ⟨w', ew', t⟩ := T.tr j d hd
    rw [ew] at ew'
    cases ew'
    exact ⟨w, d', ew, n.keep t fun q hq x hx => by rw [upd_ne (ne_mem (np j d hd) hq)]; exact hx⟩
/-- an owned list changes in place -/
theorem Stt.upOw {j : Nat} {ds ds' : List D} {g g' : Bool} {p : Addr} {vs' : List V} (S : Stt C B0 H0 B H σ δ) (nr : NoRg δ) (h : δ[j]? = some (.ow ds g)) (hv : σ[j]? = some (some (.ref p))) (r : Rps C (Rg B0 H0 B H true g') ds' vs') :
    Stt C B0 H0 B (upd H p (.lst vs')) σ (δ.set j (.ow ds' g')) := by
  obtain ⟨q, vs, e, h0, hb, hp, _⟩ := S.own j ds g h
  rw [hv] at e
  cases e
  have es : σ.set j (some (V.ref p)) = σ := by
    apply List.ext_getElem?
    intro i
    rw [List.getElem?_set]
    by_cases z : j = i
    · subst z
      rw [if_pos rfl, if_pos (List.getElem?_eq_some_iff.mp hv).1, hv]
    · rw [if_neg z]
  have S1 : Stt C B0 H0 B H σ (δ.set j .no) := by
    have := S.setNo (j := j) (x := some (.ref p))
    rwa [es] at this
  obtain ⟨φ, T⟩ := S.tre
  have back : ∀ {i : Nat} {d : D}, (δ.set j .no)[i]? = some (.tr d) → δ[i]? = some (.tr d) := fun {i d} h => by
    rcases get_set h with ⟨_, e, _⟩ | ⟨_, h⟩
    · cases e
    · exact h
  have backo : ∀ {i : Nat} {ds : List D} {g : Bool}, (δ.set j .no)[i]? = some (.ow ds g) → i ≠ j ∧ δ[i]? = some (.ow ds g) := fun {i ds g} h => by
    rcases get_set h with ⟨_, e, _⟩ | ⟨n, h⟩
    · cases e
    · exact ⟨n, h⟩
  have T1 : TrOk C H0 B H σ (δ.set j .no) φ := ⟨fun i d h => T.tr i d (back h), fun i d h => T.nd i d (back h), fun i d q h hq => by
    obtain ⟨a, b, c, w⟩ := T.nw i d q (back h) hq
    exact ⟨a, b, c, fun k ds g hk => w k ds g (backo hk).2⟩, fun i k d d' q h1 h2 => T.dj i k d d' q (back h1) (back h2)⟩
  have np : ∀ (i : Nat) d, (δ.set j .no)[i]? = some (.tr d) → p ∉ φ i := fun i d hd hq => (T.nw i d p (back hd) hq).2.2.2 j ds g h hv
  have S2 : Stt C B0 H0 B (upd H p (.lst vs')) σ (δ.set j .no) := S1.spoil (nr.set fun _ => Sl.noConfusion) h0 hb (fun i ds1 g1 k z => (backo k).1 (S.dis i j _ _ _ _ p (backo k).2 h z hv)) ⟨φ, T1, np⟩
  obtain ⟨φ2, T2⟩ := S2.tre
  have S3 := S2.setOw (j := j) (ds := ds') (g := g') h0 hb upd_same (by rw [rg_true g' (H' := H)]; exact r) (fun i ds1 g1 k n z => n (S.dis i j _ _ _ _ p (backo k).2 h z hv)) ⟨φ, ⟨fun i d hd => by
      obtain ⟨v, e, t⟩ := T1.tr i d hd
      exact ⟨v, e, t.keep (Same.refl _) fun q hq x hx => by rw [upd_ne (ne_mem (np i d hd) hq)]; exact hx⟩, T1.nd, fun i d q hd hq => by
      obtain ⟨a, b, ⟨x, hx⟩, w⟩ := T1.nw i d q hd hq
      exact ⟨a, b, ⟨x, by rw [upd_ne (ne_mem (np i d hd) hq)]; exact hx⟩, w⟩, T1.dj⟩, np⟩
  rw [es, List.set_set] at S3
  exact S3
/-- a change of the base by cells that stand -/
theorem Stt.rebase {B' : Hp} (S : Stt C B0 H0 B H σ δ) (eb : Same B B') (sub : Same B' H) (new : ∀ p o, B' p = some o → B p = some o ∨ (H0 p = none ∧ (∀ (i : Nat) ds g, δ[i]? = some (.ow ds g) → σ[i]? ≠ some (some (.ref p)))))
    (nt : ∃ φ, TrOk C H0 B H σ δ φ ∧ ∀ (i : Nat) d p, δ[i]? = some (.tr d) → p ∈ φ i → B' p = none) : Stt C B0 H0 B' H σ δ := by
  obtain ⟨φ, T, np⟩ := nt
  refine ⟨S.ex0, S.exb.trans eb, sub, fun p o h => ?_, S.len, fun i d g h => ?_, fun i ds g h => ?_, S.dis, S.rgn, ⟨φ, fun i d h => ?_, T.nd, fun i d p h hp => ?_, T.dj⟩, S.ali⟩
  · rcases new p o h with z | z
    · exact S.new p o z
    · exact .inr z.1
  · obtain ⟨v, e, r⟩ := S.shr i d g h
    exact ⟨v, e, r.mono (rg_mono eb (Same.refl _) _ _)⟩
  · obtain ⟨p, vs, e, h0, hb, hh, r⟩ := S.own i ds g h
    refine ⟨p, vs, e, h0, ?_, hh, r.mono (rg_mono eb (Same.refl _) _ _)⟩
    cases z : B' p with
    | none => rfl
    | some o =>
      rcases new p o z with y | y
      · rw [hb] at y; cases y
      · exact absurd e (y.2 i ds g h)
  · obtain ⟨v, e, t⟩ := T.tr i d h
    exact ⟨v, e, t.keep eb fun _ _ _ k => k⟩
  · obtain ⟨a, b, c, w⟩ := T.nw i d p h hp
    exact ⟨a, np i d p h hp, c, w⟩
theorem set_same {α : Type} {l : List α} {j : Nat} {x : α} (h : l[j]? = some x) : l.set j x = l := by
  apply List.ext_getElem?
  intro i
  rw [List.getElem?_set]
  by_cases z : j = i
  · subst z
    rw [if_pos rfl, if_pos (List.getElem?_eq_some_iff.mp h).1, h]
  · rw [if_neg z]
/-- an owned list is given to all -/
theorem Stt.freeze {j : Nat} {ds : List D} {g : Bool} (S : Stt C B0 H0 B H σ δ) (h : δ[j]? = some (.ow ds g)) : ∃ B', Same B B' ∧ Stt C B0 H0 B' H σ (δ.set j (.sh (.ls ds) g)) := by
  obtain ⟨p, vs, e, h0, hb, hp, r⟩ := S.own j ds g h
  have S1 : Stt C B0 H0 B H σ (δ.set j .no) := by
    have := S.setNo (j := j) (x := some (.ref p))
    rwa [set_same e] at this
  obtain ⟨φ, T⟩ := S1.tre
  obtain ⟨φ', T'⟩ := S.tre
  have eb : Same B (upd B p (.lst vs)) := same_upd hb
  have backo : ∀ {i : Nat} {ds : List D} {g : Bool}, (δ.set j .no)[i]? = some (.ow ds g) → i ≠ j ∧ δ[i]? = some (.ow ds g) := fun {i ds g} h => by
    rcases get_set h with ⟨_, e, _⟩ | ⟨n, h⟩
    · cases e
    · exact ⟨n, h⟩
  have back : ∀ {i : Nat} {d : D}, (δ.set j .no)[i]? = some (.tr d) → δ[i]? = some (.tr d) := fun {i d} h => by
    rcases get_set h with ⟨_, e, _⟩ | ⟨_, h⟩
    · cases e
    · exact h
  have T1 : TrOk C H0 B H σ (δ.set j .no) φ' := ⟨fun i d h => T'.tr i d (back h), fun i d h => T'.nd i d (back h), fun i d q h hq => by
    obtain ⟨a, b, c, w⟩ := T'.nw i d q (back h) hq
    exact ⟨a, b, c, fun k ds g hk => w k ds g (backo hk).2⟩, fun i k d d' q h1 h2 => T'.dj i k d d' q (back h1) (back h2)⟩
  have S2 : Stt C B0 H0 (upd B p (.lst vs)) H σ (δ.set j .no) := by
    refine S1.rebase eb (fun q x k => ?_) (fun q x k => ?_) ⟨φ', T1, fun i d q hd hq => ?_⟩
    · by_cases z : q = p
      · subst z; rw [upd_same] at k; rw [hp]; exact k
      · rw [upd_ne z] at k; exact S.sub _ _ k
    · by_cases z : q = p
      · subst z
        exact .inr ⟨h0, fun i ds1 g1 k z => (backo k).1 (S.dis i j _ _ _ _ q (backo k).2 h z e)⟩
      · rw [upd_ne z] at k; exact .inl k
    · have ne : q ≠ p := fun z => by
        subst z
        exact (T'.nw i d q (back hd) hq).2.2.2 j ds g h e
      rw [upd_ne ne]
      exact (T1.nw i d q hd hq).2.1
  have rr : Rp C (Rg B0 H0 (upd B p (.lst vs)) H true g) (.ls ds) (.ref p) := by
    rw [rp_ls]
    refine ⟨p, vs, rfl, ?_, r.mono (rg_mono eb (Same.refl _) _ _)⟩
    cases g
    · exact upd_same
    · show (match H0 p with | none => (upd B p (.lst vs)) p | some _ => none) = _
      rw [h0]; exact upd_same
  refine ⟨upd B p (.lst vs), eb, ?_⟩
  have S3 := S2.setSh (j := j) rr
  rw [set_same e, List.set_set] at S3
  exact S3
end
/-! ### targets -/
inductive Tg where
  | nm (j : Nat) | t2 (a b : Tg) | t3 (a b c : Tg)
def Tg.sl : Tg → List Nat
  | .nm j => [j] | .t2 a b => a.sl ++ b.sl | .t3 a b c => a.sl ++ (b.sl ++ c.sl)
def Tg.rd (K : PySem.W.Frag) : Tg → TG
  | .nm j => gName j
  | .t2 a b => gTup K 2 (gCons (a.rd K) (gCons (b.rd K) gNil))
  | .t3 a b c => gTup K 3 (gCons (a.rd K) (gCons (b.rd K) (gCons (c.rd K) gNil)))
def Tg.run (g : Bool) : Tg → D → List Sl → Option (List Sl)
  | .nm j, d, δ => some (δ.set j (.sh d g))
  | .t2 a b, .tp [x, y], δ => match a.run g x δ with
    | some δ1 => b.run g y δ1
    | none => none
  | .t3 a b c, .tp [x, y, z], δ => match a.run g x δ with
    | some δ1 => match b.run g y δ1 with
      | some δ2 => c.run g z δ2
      | none => none
    | none => none
  | _, _, _ => none
theorem wipe_set {σ : St} {x : Option V} {j : Nat} : ∀ {vs : List Nat}, j ∈ vs → wipe (σ.set j x) vs = wipe σ vs
  | v :: vs, h => by
    unfold wipe
    by_cases e : j = v
    · subst e
      by_cases k : j ∈ vs
      · rw [wipe_set k]
      · have : ∀ (us : List Nat), j ∉ us → wipe (σ.set j x) us = (wipe σ us).set j x := by
          intro us
          induction us with
          | nil => intro _; rfl
          | cons u us ih =>
            intro k
            have k1 : j ≠ u := fun z => k (by simp [z])
            have k2 : j ∉ us := fun z => k (by simp [z])
            unfold wipe
            rw [ih k2, List.set_comm _ _ k1]
        rw [this vs k, List.set_set]
    · have k : j ∈ vs := by
        rcases List.mem_cons.mp h with z | z
        · exact absurd z e
        · exact z
      rw [wipe_set k]
section
variable {C : Cf} {B0 H0 B H : Hp} {σ : St} {δ δ' : List Sl}
theorem Tg.ok (g : Bool) : ∀ (t : Tg) (d : D) {v : V} {σ : St} {δ δ' : List Sl}, Stt C B0 H0 B H σ δ → Rp C (Rg B0 H0 B H true g) d v → t.run g d δ = some δ' → ∀ {Q : St → Hp → Prop},
    (∀ σ', Stt C B0 H0 B H σ' δ' → (∀ vs, (∀ j ∈ t.sl, j ∈ vs) → wipe σ' vs = wipe σ vs) → Q σ' H) → t.rd C.K v σ H Q
  | .nm j, d, v, σ, δ, δ', S, r, e, Q, q => by
    simp only [Tg.run, Option.some.injEq] at e
    subst e
    exact q _ (S.setSh r) fun vs hv => wipe_set (hv j (by simp [Tg.sl]))
  | .t2 a b, d, v, σ, δ, δ', S, r, e, Q, q => by
    cases d with
    | tp xs =>
      rcases xs with _ | ⟨x, _ | ⟨y, _ | ⟨z, xs⟩⟩⟩
      · simp [Tg.run] at e
      · simp [Tg.run] at e
      · simp only [Tg.run] at e
        rw [rp_tp] at r
        obtain ⟨p, xs, rfl, h1, h2⟩ := r
        simp only [Rps] at h2
        obtain ⟨v1, _, rfl, r1, v2, _, rfl, r2, rfl⟩ := h2
        split at e
        · rename_i δ1 e1
          refine ⟨p, [v1, v2], rfl, sqt_mono (S.toH true g) h1, rfl, v1, [v2], rfl, ?_⟩
          refine Tg.ok g a x S r1 e1 fun σ1 S1 w1 => ?_
          refine ⟨v2, [], rfl, ?_⟩
          refine Tg.ok g b y S1 r2 e fun σ2 S2 w2 => ?_
          refine ⟨rfl, q σ2 S2 fun vs hv => ?_⟩
          rw [w2 vs fun j hj => hv j (by simp [Tg.sl, hj]), w1 vs fun j hj => hv j (by simp [Tg.sl, hj])]
        · cases e
      · simp [Tg.run] at e
    | _ => simp [Tg.run] at e
  | .t3 a b c, d, v, σ, δ, δ', S, r, e, Q, q => by
    cases d with
    | tp xs =>
      rcases xs with _ | ⟨x, _ | ⟨y, _ | ⟨z, _ | ⟨u, xs⟩⟩⟩⟩
      · simp [Tg.run] at e
      · simp [Tg.run] at e
      · simp [Tg.run] at e
      · simp only [Tg.run] at e
        rw [rp_tp] at r
        obtain ⟨p, xs, rfl, h1, h2⟩ := r
        simp only [Rps] at h2
        obtain ⟨v1, _, rfl, r1, v2, _, rfl, r2, v3, _, rfl, r3, rfl⟩ := h2
        split at e
        · rename_i δ1 e1
          split at e
          · rename_i δ2 e2
            refine ⟨p, [v1, v2, v3], rfl, sqt_mono (S.toH true g) h1, rfl, v1, [v2, v3], rfl, ?_⟩
            refine Tg.ok g a x S r1 e1 fun σ1 S1 w1 => ?_
            refine ⟨v2, [v3], rfl, ?_⟩
            refine Tg.ok g b y S1 r2 e2 fun σ2 S2 w2 => ?_
            refine ⟨v3, [], rfl, ?_⟩
            refine Tg.ok g c z S2 r3 e fun σ3 S3 w3 => ?_
            refine ⟨rfl, q σ3 S3 fun vs hv => ?_⟩
            rw [w3 vs fun j hj => hv j (by simp [Tg.sl, hj]), w2 vs fun j hj => hv j (by simp [Tg.sl, hj]), w1 vs fun j hj => hv j (by simp [Tg.sl, hj])]
          · cases e
        · cases e
      · simp [Tg.run] at e
    | _ => simp [Tg.run] at e
def wipeD (δ : List Sl) : List Nat → List Sl
  | [] => δ
  | v :: vs => (wipeD δ vs).set v .no
theorem Stt.wipe (S : Stt C B0 H0 B H σ δ) : ∀ vs : List Nat, Stt C B0 H0 B H (L2.wipe σ vs) (wipeD δ vs)
  | [] => S
  | v :: vs => by
    unfold L2.wipe wipeD
    exact (S.wipe vs).setNo
theorem wipe_wipe (σ : St) (vs : List Nat) : L2.wipe (L2.wipe σ vs) vs = L2.wipe σ vs := by
  have : ∀ (us ws : List Nat), (∀ j ∈ us, j ∈ ws) → L2.wipe (L2.wipe σ us) ws = L2.wipe σ ws := by
    intro us
    induction us with
    | nil => intro ws _; rfl
    | cons u us ih =>
      intro ws h
      show L2.wipe ((L2.wipe σ us).set u none) ws = _
      rw [wipe_set (h u (by simp)), ih ws fun j hj => h j (by simp [hj])]
  exact this vs vs fun _ h => h
end
end G

namespace G
open PySem L2
/-! ### dicts by keys -/
def lookD : List Key → List D → Key → Option D
  | k :: ks, d :: ds, x => if k = x then some d else lookD ks ds x
  | _, _, _ => none
/-- in its place, or at the end -/
def putD (ks : List Key) (ds : List D) (k : Key) (e : D) : List Key × List D :=
  if (ks.any fun q => decide (q = k)) = true then (ks, List.zipWith (fun q d => if q = k then e else d) ks ds) else (ks ++ [k], ds ++ [e])
theorem lookD_val {C : Cf} {H : Hp} : ∀ {ks : List Key} {ds : List D} {xs : List V} (k : Key), xs.length = ks.length → Rps C H ds xs → (∀ d, lookD ks ds k = some d → ∃ v, valV (ks.zip xs) k = some v ∧ Rp C H d v) ∧ (lookD ks ds k = none → valV (ks.zip xs) k = none)
  | [], ds, xs, k, hl, h => by
    refine ⟨fun d e => ?_, fun _ => by simp [valV]⟩
    cases ds <;> simp [lookD] at e
  | q :: ks, [], xs, k, hl, h => by
    simp only [Rps] at h
    subst h
    simp at hl
  | q :: ks, d :: ds, xs, k, hl, h => by
    simp only [Rps] at h
    obtain ⟨v, r, rfl, h2, h3⟩ := h
    have ih := lookD_val (ks := ks) (ds := ds) (xs := r) k (by simpa using hl) h3
    by_cases e : q = k
    · subst e
      refine ⟨fun d' e => ?_, fun e => ?_⟩
      · simp only [lookD, if_true, Option.some.injEq] at e
        subst e
        exact ⟨v, by simp [valV], h2⟩
      · simp [lookD] at e
    · have z : valV ((q :: ks).zip (v :: r)) k = valV (ks.zip r) k := by simp [valV, e]
      simp only [lookD, e, if_false]
      rw [z]
      exact ih
theorem zip_any (k : Key) : ∀ (ks : List Key) (xs : List V), xs.length = ks.length → ((ks.zip xs).any fun kv => decide (kv.1 = k)) = ks.any fun q => decide (q = k)
  | [], xs, _ => by cases xs <;> rfl
  | q :: ks, [], h => by simp at h
  | q :: ks, x :: xs, h => by
    simp only [List.zip_cons_cons, List.any_cons, zip_any k ks xs (by simpa using h)]
theorem zip_put (k : Key) (v : V) : ∀ (ks : List Key) (xs : List V), xs.length = ks.length → (ks.zip xs).map (fun kv => if kv.1 = k then (kv.1, v) else kv) = ks.zip (List.zipWith (fun q x => if q = k then v else x) ks xs)
  | [], xs, _ => by cases xs <;> rfl
  | q :: ks, [], h => by simp at h
  | q :: ks, x :: xs, h => by
    simp only [List.zip_cons_cons, List.map_cons, List.zipWith_cons_cons, zip_put k v ks xs (by simpa using h)]
    congr 1
    split <;> rfl
theorem rps_put {C : Cf} {H : Hp} {e : D} {v : V} (k : Key) (r : Rp C H e v) : ∀ {ks : List Key} {ds : List D} {xs : List V}, Rps C H ds xs → Rps C H (List.zipWith (fun q d => if q = k then e else d) ks ds) (List.zipWith (fun q x => if q = k then v else x) ks xs)
  | [], ds, xs, _ => by simp [Rps]
  | q :: ks, [], xs, h => by
    simp only [Rps] at h
    subst h
    simp [Rps]
  | q :: ks, d :: ds, xs, h => by
    simp only [Rps] at h
    obtain ⟨w, t, rfl, h2, h3⟩ := h
    simp only [List.zipWith_cons_cons]
    refine .cons ?_ (rps_put k r h3)
    split
    · exact r
    · exact h2
/-- a store, seen from the data -/
theorem putK_D {C : Cf} {H : Hp} {ks : List Key} {ds : List D} {xs : List V} {e : D} {v : V} (k : Key) (hl : xs.length = ks.length) (h : Rps C H ds xs) (r : Rp C H e v) :
    ∃ ys, putK (ks.zip xs) k v = (putD ks ds k e).1.zip ys ∧ ys.length = (putD ks ds k e).1.length ∧ Rps C H (putD ks ds k e).2 ys := by
  unfold putK putD
  rw [zip_any k ks xs hl]
  split
  · exact ⟨_, zip_put k v ks xs hl, by simp [hl], rps_put k r h⟩
  · refine ⟨xs ++ [v], ?_, by simp [hl], h.app (.one r)⟩
    rw [List.zip_append (by simp [hl])]
    rfl
end G

namespace G
open PySem L2

/-! ### the language -/
inductive Ty5 where
  | int | bool | str | list | tuple
def Ty5.nm : Ty5 → String
  | .int => "int" | .bool => "bool" | .str => "str" | .list => "list" | .tuple => "tuple"
def isT : Ty5 → D → Option Bool
  | _, .ob _ _ => none
  | .int, .int _ => some true
  | .int, .bl _ => some true
  | .bool, .bl _ => some true
  | .str, .str _ => some true
  | .list, .ls _ => some true
  | .tuple, .tp _ => some true
  | _, _ => some false
inductive Bo where
  | add | sub | mul | mod | fdiv | pow | shr
def mulok (i j : Int) : Bool := decide (i.natAbs < 18446744073709551616) || decide (j.natAbs < 18446744073709551616) || decide (i.natAbs.log2 + j.natAbs.log2 < 100000000)
def CMulX (i j : Int) : Prop := mulok i j = true
def Bo.run : Bo → Int → Int → Option Int
  | .add, i, j => some (i + j)
  | .sub, i, j => some (i - j)
  | .mul, i, j => if mulok i j = true then some (i * j) else none
  | .mod, i, j => if 0 < j then some (i % j) else none
  | .fdiv, i, j => if 0 < j ∧ j < 1073741824 then some (i / j) else none
  | .pow, i, j => if 0 ≤ j ∧ j ≤ 1000000 ∧ i.natAbs < 2 ^ 64 then some (i ^ j.toNat) else none
  | .shr, i, j => if 0 ≤ j then some (i / 2 ^ j.toNat) else none
def Bo.r : Bo → R2
  | .add => rI0 fun i j => .int (i + j)
  | .sub => rI0 fun i j => .int (i - j)
  | .mul => rI CMulX fun i j => .int (i * j)
  | .mod => rI (fun _ j => 0 < j) fun i j => .int (i % j)
  | .fdiv => rI CDiv fun i j => .int (i / j)
  | .pow => rI CPow fun i j => .int (i ^ j.toNat)
  | .shr => rI (fun _ j => 0 ≤ j) fun i j => .int (i / 2 ^ j.toNat)
inductive Co where
  | lt | le | gt | ge
def Co.f : Co → Int → Int → Bool
  | .lt, i, j => decide (i < j)
  | .le, i, j => decide (i ≤ j)
  | .gt, i, j => decide (j < i)
  | .ge, i, j => decide (j ≤ i)
def Co.r : Co → R2
  | .lt => rI0 fun i j => .bl (decide (i < j))
  | .le => rI0 fun i j => .bl (decide (i ≤ j))
  | .gt => rI0 fun i j => .bl (decide (j < i))
  | .ge => rI0 fun i j => .bl (decide (j ≤ i))

inductive E where
  | nil | cons (a r : E)
  | var (i : Nat) | int (n : Int) | str (x : Str) | bl (b : Bool) | non | kon (k : Nat)
  | bin (o : Bo) (a b : E) | cat (a b : E) | rep (a b : E) | neg (a : E) | not (a : E)
  | eq (a b : E) | ne (a b : E) | cmp (o : Co) (a b : E) | chn (o o' : Co) (a b c : E) | isb (a b : E) | isnb (a b : E)
  | and (a b : E) | or (a b : E) | ite (c a b : E)
  | ix (a b : E) | oix (i : Nat) (b : E) | sl (a lo hi : E)
  | tup (es : E) | lst (es : E)
  | inn (a b : E) | nin (a b : E) | inT (a b : E) | fld (f : Str) (a : E) | isC (c : Nat) (a : E) | minL (a : E) | maxL (a : E) | rev (a : E) | ev2 (a : E) | meth (m : Nat) (o es : E) | new (k : Nat) (es : E)
  | len (a : E) | isI (t : Ty5) (a : E) | toL (a : E) | toR (a : E) | cntD (a b : E) | tupL (a : E) | lenSet (a : E) | all (a : E) | any (a : E) | cnt (a b : E) | min2 (a b : E) | max2 (a b : E) | sum (a : E) | srt (a : E)
  | call (k : Nat) (es : E)
  | din (a b : E) | dix (a b : E) | dget (d k x : E) | dnew | stp (a k : E) | sumT (a : E)
  | itL (a : E) | itT (a : E) | itR (a : E) | itR2 (a b : E) | itR3 (a b c : E) | itZ (a b : E) | itE (a : E)
  | lc (t : Tg) (it e : E) | lcf (t : Tg) (it c e : E) | lcQ (t : Tg) (a e : E)

/-- what may be asked as a test -/
def isTst : E → Bool
  | .not a => isTst a
  | .and a b => isTst a && isTst b
  | .or a b => isTst a && isTst b
  | .var _ => true | .bl _ => true | .eq _ _ => true | .ne _ _ => true | .cmp _ _ _ => true | .chn _ _ _ _ _ => true | .isb _ _ => true | .isnb _ _ => true | .isI _ _ => true | .all _ => true | .any _ => true | .call _ _ => true | .inn _ _ => true | .nin _ _ => true | .inT _ _ => true | .isC _ _ => true | .meth _ _ _ => true | .ix _ _ => true | .din _ _ => true
  | _ => false
structure Fd where
  ar : Nat
  fr : Bool
  tr : Bool
  run : List D → Option D
/-- a class that is called: its number, its __init__ -/
structure Nd where
  cl : Nat
  ar : Nat
  fr : Bool
  tr : Bool
  run : List D → Option (List D)
/-- what a def may call: defs and classes, global tuples, the classes' fields, who is of whom, methods -/
structure Ga where
  fs : List Fd
  ks : List D
  cn : List (List Str)
  sub : List (List Bool)
  ms : List (Str × List (Nat × Fd))
  nd : List Nd
def ga0 (fs : List Fd) : Ga := ⟨fs, [], [], [], [], []⟩
abbrev Rs := D × Bool × Bool

/-! ### values -/
def intsOf : List D → Option (List Int)
  | [] => some []
  | .int i :: r => match intsOf r with
    | some ns => some (i :: ns)
    | none => none
  | _ => none
def blsOf : List D → Option (List Bool)
  | [] => some []
  | .bl i :: r => match blsOf r with
    | some ns => some (i :: ns)
    | none => none
  | _ => none
def strsOf : List D → Option (List Str)
  | [] => some []
  | .str i :: r => match strsOf r with
    | some ns => some (i :: ns)
    | none => none
  | _ => none
/-- pairs of a number and numbers -/
def isPr : D → Bool
  | .tp [.int _, .ls xs] => (intsOf xs).isSome
  | _ => false
def mmOk (ds : List D) : Bool := (intsOf ds).isSome || ds.all isPr
def ltD (a b : D) : Bool := PySem.W.dataLt a.py b.py
def minF (x : D) (xs : List D) : D := xs.foldl (fun a y => if ltD y a = true then y else a) x
def maxF (x : D) (xs : List D) : D := xs.foldl (fun a y => if ltD a y = true then y else a) x
def lookN : List (Nat × Fd) → Nat → Option Fd
  | [], _ => none
  | (c, F) :: r, k => if c = k then some F else lookN r k
def fldD (f : Str) : List Str → List D → Option D
  | n :: ns, d :: ds => if f = n then some d else fldD f ns ds
  | _, _ => none
def rsz (m n s : Int) : Nat := if m < n then ((n - m - 1) / s).toNat + 1 else 0
def rng3D (lo st : Int) (n : Nat) : List D := (List.range n).map fun (k : Nat) => D.int (lo + (k : Int) * st)
/-- tuples of ints -/
def tupsOf : List D → Option (List (List Int))
  | [] => some []
  | .tp xs :: r => match intsOf xs with
    | some ns => match tupsOf r with
      | some nss => some (ns :: nss)
      | none => none
    | none => none
  | _ => none
def ddp : List (List Int) → List (List Int)
  | [] => []
  | x :: r => if x ∈ r then ddp r else x :: ddp r
def cutD {α : Type} (xs : List α) (lo hi : Option Int) : List α := (xs.drop (HT.sIx xs.length 0 lo)).take (HT.sIx xs.length xs.length hi - HT.sIx xs.length 0 lo)
def rngD (lo : Int) (n : Nat) : List D := (List.range n).map fun (k : Nat) => D.int (lo + (k : Int))
def zipD : List D → List D → List D
  | x :: xs, y :: ys => .tp [x, y] :: zipD xs ys
  | _, _ => []
def enumD : Nat → List D → List D
  | _, [] => []
  | n, x :: xs => .tp [.int (n : Int), x] :: enumD (n + 1) xs
def insU (x : Int) : List Int → List Int
  | [] => [x]
  | y :: r => if x < y then x :: y :: r else if x = y then y :: r else y :: insU x r
def sdd (ns : List Int) : List Int := ns.foldr insU []
def flats (ds : List D) : Bool := ds.all D.flat
def tst : Option Rs → Option Bool
  | some (.bl b, _, _) => some b
  | _ => none
def lcRun (t : Tg) (g : Bool) (cf : List Sl → Option Bool) (ef : List Sl → Option Rs) (δ : List Sl) : List D → Option (List D × Bool)
  | [] => some ([], true)
  | d :: r => match t.run g d δ with
    | none => none
    | some δ2 => match cf δ2 with
      | none => none
      | some false => lcRun t g cf ef δ r
      | some true => match ef δ2 with
        | some (y, true, gy) => match lcRun t g cf ef δ r with
          | some (ys, gs) => some (y :: ys, gy && gs)
          | none => none
        | _ => none

mutual
def eval (Γ : Ga) : E → List Sl → Option Rs
  | .var i, δ => match δ[i]? with
    | some (.sh d g) => some (d, true, g)
    | some (.ow ds g) => some (.ls ds, false, g)
    | some (.rg d) => some (d, false, false)
    | some (.tr d) => some (d, false, false)
    | some (.al j q) => match δ[j]? with
      | some (.tr d) => match d.sub q with
        | some d' => some (d', false, false)
        | none => none
      | _ => none
    | _ => none
  | .int n, _ => some (.int n, true, true)
  | .str x, _ => some (.str x, true, true)
  | .bl b, _ => some (.bl b, true, true)
  | .non, _ => some (.non, true, true)
  | .kon k, _ => match Γ.ks[k]? with
    | some d => some (d, true, true)
    | none => none
  | .inn a b, δ => match eval Γ a δ with
    | some (x, _, _) => match eval Γ b δ with
      | some (.ls ys, _, _) => if (x.eqok && (D.ls ys).eqok) = true then some (.bl (ys.any fun z => z.eqv x), true, true) else none
      | _ => none
    | none => none
  | .nin a b, δ => match eval Γ a δ with
    | some (x, _, _) => match eval Γ b δ with
      | some (.ls ys, _, _) => if (x.eqok && (D.ls ys).eqok) = true then some (.bl (!ys.any fun z => z.eqv x), true, true) else none
      | _ => none
    | none => none
  | .inT a b, δ => match eval Γ a δ with
    | some (.str x, _, _) => match eval Γ b δ with
      | some (.tp ys, _, _) => match strsOf ys with
        | some ss => some (.bl (ss.any fun z => z == x), true, true)
        | none => none
      | _ => none
    | _ => none
  | .fld f a, δ => match eval Γ a δ with
    | some (.ob c fs, fl, g) => match Γ.cn[c]? with
      | some ns => if fs.length = ns.length then (match fldD f ns fs with
        | some d => some (d, fl, g)
        | none => none) else none
      | none => none
    | _ => none
  | .isC c' a, δ => match eval Γ a δ with
    | some (.ob c _, _, _) => match Γ.cn[c]? with
      | some _ => match Γ.sub[c]? with
        | some r => match r[c']? with
          | some b => some (.bl b, true, true)
          | none => none
        | none => none
      | none => none
    | _ => none
  | .minL a, δ => match eval Γ a δ with
    | some (.ls (x :: xs), f, g) => if mmOk (x :: xs) = true then some (minF x xs, f, g) else none
    | _ => none
  | .maxL a, δ => match eval Γ a δ with
    | some (.ls (x :: xs), f, g) => if mmOk (x :: xs) = true then some (maxF x xs, f, g) else none
    | _ => none
  | .rev a, δ => match eval Γ a δ with
    | some (.ls xs, f, g) => some (.ls xs.reverse, f || flats xs.reverse, g)
    | _ => none
  | .ev2 a, δ => match eval Γ a δ with
    | some (.ls xs, f, g) => some (.ls (G.ev2 xs), f || flats (G.ev2 xs), g)
    | _ => none
  | .new k es, δ => match Γ.nd[k]? with
    | some F => match evalA Γ es δ with
      | some (ds, f, _) => if ds.length = F.ar then (match F.run ds with
        | some fs => some (.ob F.cl fs, F.fr || f, F.fr)
        | none => none) else none
      | none => none
    | none => none
  | .meth m o es, δ => match Γ.ms[m]? with
    | some (nm, tb) => match eval Γ o δ with
      | some (.ob c fs, f, g) => match lookN tb c with
        | some F => match evalA Γ es δ with
          | some (ds, f', g') => if ds.length + 1 = F.ar ∧ (Γ.cn[c]?.map fun ns => ns.all fun n => n != nm) = some true then (match F.run (.ob c fs :: ds) with
            | some d => some (d, F.fr || (f && f') || d.flat, F.fr || d.flat)
            | none => none) else none
          | none => none
        | none => none
      | _ => none
    | none => none
  | .bin o a b, δ => match eval Γ a δ with
    | some (.int i, _, _) => match eval Γ b δ with
      | some (.int j, _, _) => match o.run i j with
        | some z => some (.int z, true, true)
        | none => none
      | _ => none
    | _ => none
  | .cat a b, δ => match eval Γ a δ with
    | some (.ls xs, f, g) => match eval Γ b δ with
      | some (.ls ys, f', g') => if xs.length + ys.length ≤ 100000 then some (.ls (xs ++ ys), (f && f') || flats (xs ++ ys), g && g') else none
      | _ => none
    | _ => none
  | .rep a b, δ => match eval Γ a δ with
    | some (.ls xs, f, g) => match eval Γ b δ with
      | some (.int k, _, _) => if 0 ≤ k ∧ k ≤ 1000 ∧ xs.length ≤ 1000 then some (.ls (List.replicate k.toNat xs).flatten, f || flats (List.replicate k.toNat xs).flatten, g) else none
      | _ => none
    | _ => none
  | .neg a, δ => match eval Γ a δ with
    | some (.int i, _, _) => some (.int (-i), true, true)
    | _ => none
  | .not a, δ => match eval Γ a δ with
    | some (.bl b, _, _) => some (.bl (!b), true, true)
    | _ => none
  | .eq a b, δ => match eval Γ a δ with
    | some (x, _, _) => match eval Γ b δ with
      | some (y, _, _) => if (x.eqok && y.eqok) = true then some (.bl (x.eqv y), true, true) else none
      | none => none
    | none => none
  | .ne a b, δ => match eval Γ a δ with
    | some (x, _, _) => match eval Γ b δ with
      | some (y, _, _) => if (x.eqok && y.eqok) = true then some (.bl (!x.eqv y), true, true) else none
      | none => none
    | none => none
  | .cmp o a b, δ => match eval Γ a δ with
    | some (.int i, _, _) => match eval Γ b δ with
      | some (.int j, _, _) => some (.bl (o.f i j), true, true)
      | _ => none
    | _ => none
  | .chn o o' a b c, δ => match eval Γ a δ with
    | some (.int i, _, _) => match eval Γ b δ with
      | some (.int j, _, _) => if o.f i j = true then (match eval Γ c δ with
        | some (.int k, _, _) => some (.bl (o'.f j k), true, true)
        | _ => none) else some (.bl false, true, true)
      | _ => none
    | _ => none
  | .isb a b, δ => match eval Γ a δ with
    | some (.bl i, _, _) => match eval Γ b δ with
      | some (.bl j, _, _) => some (.bl (decide (i = j)), true, true)
      | _ => none
    | _ => none
  | .isnb a b, δ => match eval Γ a δ with
    | some (.bl i, _, _) => match eval Γ b δ with
      | some (.bl j, _, _) => some (.bl (!decide (i = j)), true, true)
      | _ => none
    | _ => none
  | .and a b, δ => match eval Γ a δ with
    | some (.bl true, _, _) => eval Γ b δ
    | some (.bl false, _, _) => some (.bl false, true, true)
    | _ => none
  | .or a b, δ => match eval Γ a δ with
    | some (.bl false, _, _) => eval Γ b δ
    | some (.bl true, _, _) => some (.bl true, true, true)
    | _ => none
  | .ite c a b, δ => if isTst c = true then (match eval Γ c δ with
    | some (.bl true, _, _) => eval Γ a δ
    | some (.bl false, _, _) => eval Γ b δ
    | _ => none) else none
  | .ix a b, δ => match eval Γ a δ with
    | some (.ls xs, f, g) => match eval Γ b δ with
      | some (.int i, _, _) => match atI xs i with
        | some d => some (d, f, g)
        | none => none
      | _ => none
    | some (.tp xs, f, g) => match eval Γ b δ with
      | some (.int i, _, _) => match atI xs i with
        | some d => some (d, f, g)
        | none => none
      | _ => none
    | _ => none
  | .oix i b, δ => match δ[i]? with
    | some (.ow xs g) => match eval Γ b δ with
      | some (.int i, _, _) => match atI xs i with
        | some d => some (d, true, g)
        | none => none
      | _ => none
    | _ => none
  | .sl a lo hi, δ => match eval Γ a δ with
    | some (.ls xs, f, g) => match evalO Γ lo δ with
      | some l => match evalO Γ hi δ with
        | some h => some (.ls (cutD xs l h), f || flats (cutD xs l h), g)
        | none => none
      | none => none
    | _ => none
  | .tup es, δ => match evalA Γ es δ with
    | some (ds, f, g) => if ds.length ≤ 1000 then some (.tp ds, f, g) else none
    | none => none
  | .lst es, δ => match evalA Γ es δ with
    | some (ds, f, g) => if ds.length ≤ 1000 then some (.ls ds, f, g) else none
    | none => none
  | .len a, δ => match eval Γ a δ with
    | some (.ls xs, _, _) => some (.int (xs.length : Int), true, true)
    | some (.tp xs, _, _) => some (.int (xs.length : Int), true, true)
    | _ => none
  | .isI t a, δ => match eval Γ a δ with
    | some (d, _, _) => match isT t d with
      | some b => some (.bl b, true, true)
      | none => none
    | none => none
  | .toL a, δ => match eval Γ a δ with
    | some (.ls xs, f, g) => some (.ls xs, f || flats xs, g || flats xs)
    | some (.tp xs, f, g) => some (.ls xs, f || flats xs, g || flats xs)
    | _ => none
  | .toR a, δ => match eval Γ a δ with
    | some (.int n, _, _) => if -1000000 ≤ n ∧ n ≤ 1000000 then some (.ls (rngD 0 n.toNat), true, true) else none
    | _ => none
  | .all a, δ => match eval Γ a δ with
    | some (.ls xs, _, _) => match blsOf xs with
      | some bs => some (.bl (bs.all id), true, true)
      | none => none
    | _ => none
  | .any a, δ => match eval Γ a δ with
    | some (.ls xs, _, _) => match blsOf xs with
      | some bs => some (.bl (bs.any id), true, true)
      | none => none
    | _ => none
  | .cnt a b, δ => match eval Γ a δ with
    | some (.ls xs, _, _) => match eval Γ b δ with
      | some (.int k, _, _) => match intsOf xs with
        | some ns => some (.int ((ns.count k : Nat) : Int), true, true)
        | none => none
      | _ => none
    | _ => none
  | .cntD a b, δ => match eval Γ a δ with
    | some (.ls xs, _, _) => match eval Γ b δ with
      | some (y, _, _) => if ((D.ls xs).eqok && y.eqok) = true then some (.int ((xs.countP fun z => z.eqv y : Nat) : Int), true, true) else none
      | none => none
    | _ => none
  | .tupL a, δ => match eval Γ a δ with
    | some (.ls xs, f, g) => some (.tp xs, f || flats xs, g || flats xs)
    | _ => none
  | .lenSet a, δ => match eval Γ a δ with
    | some (.ls xs, _, _) => match tupsOf xs with
      | some nss => if nss.length < 64 then some (.int ((ddp nss).length : Int), true, true) else none
      | none => none
    | _ => none
  | .min2 a b, δ => match eval Γ a δ with
    | some (.int i, _, _) => match eval Γ b δ with
      | some (.int j, _, _) => some (.int (if j < i then j else i), true, true)
      | _ => none
    | _ => none
  | .max2 a b, δ => match eval Γ a δ with
    | some (.int i, _, _) => match eval Γ b δ with
      | some (.int j, _, _) => some (.int (if j > i then j else i), true, true)
      | _ => none
    | _ => none
  | .sum a, δ => match eval Γ a δ with
    | some (.ls xs, _, _) => match intsOf xs with
      | some ns => some (.int ns.sum, true, true)
      | none => none
    | _ => none
  | .srt a, δ => match eval Γ a δ with
    | some (.ls xs, _, _) => match intsOf xs with
      | some ns => if ns.length < 60 then some (.ls ((sdd ns).map D.int), true, true) else none
      | none => none
    | _ => none
  | .call k es, δ => match Γ.fs[k]? with
    | some F => match evalA Γ es δ with
      | some (ds, f, _) => if ds.length = F.ar then (match F.run ds with
        | some d => some (d, F.fr || f || d.flat, F.fr || d.flat)
        | none => none) else none
      | none => none
    | none => none
  | .din a b, δ => match eval Γ a δ with
    | some (.int k, _, _) => match eval Γ b δ with
      | some (.dc ks ds, _, _) => some (.bl (lookD ks ds (.inl k)).isSome, true, true)
      | _ => none
    | _ => none
  | .dix a b, δ => match eval Γ a δ with
    | some (.dc ks ds, f, g) => match eval Γ b δ with
      | some (.int k, _, _) => match lookD ks ds (.inl k) with
        | some d => some (d, f, g)
        | none => none
      | _ => none
    | _ => none
  | .dget a b c, δ => match eval Γ a δ with
    | some (.dc ks ds, f, g) => match eval Γ b δ with
      | some (.int k, _, _) => match eval Γ c δ with
        | some (x, f', g') => some ((lookD ks ds (.inl k)).getD x, f && f', g && g')
        | none => none
      | _ => none
    | _ => none
  | .sumT a, δ => match eval Γ a δ with
    | some (.tp xs, _, _) => match intsOf xs with
      | some ns => some (.int ns.sum, true, true)
      | none => none
    | _ => none
  | .dnew, _ => some (.dc [] [], true, true)
  | .stp a b, δ => match eval Γ a δ with
    | some (.ls xs, f, g) => match eval Γ b δ with
      | some (.int k, _, _) => if 0 < k ∧ k < 1000000 then some (.ls (pkk k.toNat xs), f || flats (pkk k.toNat xs), g) else none
      | _ => none
    | _ => none
  | .lc t it e, δ => match evalI Γ it δ with
    | some (ds, g) => if ds.length ≤ 50000 then (match lcRun t g (fun _ => some true) (fun δ2 => eval Γ e δ2) (wipeD δ t.sl) ds with
      | some (ys, gs) => some (.ls ys, true, gs)
      | none => none) else none
    | none => none
  | .lcQ t a e, δ => match eval Γ a δ with
    | some (.ls ds, _, _) => if ds.length ≤ 50000 ∧ flats ds = true then (match lcRun t true (fun _ => some true) (fun δ2 => eval Γ e δ2) (wipeD δ t.sl) ds with
      | some (ys, gs) => some (.ls ys, true, gs)
      | none => none) else none
    | _ => none
  | .lcf t it c e, δ => match evalI Γ it δ with
    | some (ds, g) => if ds.length ≤ 50000 ∧ isTst c = true then (match lcRun t g (fun δ2 => tst (eval Γ c δ2)) (fun δ2 => eval Γ e δ2) (wipeD δ t.sl) ds with
      | some (ys, gs) => some (.ls ys, true, gs)
      | none => none) else none
    | none => none
  | _, _ => none
def evalA (Γ : Ga) : E → List Sl → Option (List D × Bool × Bool)
  | .nil, _ => some ([], true, true)
  | .cons a r, δ => match eval Γ a δ with
    | some (d, f, g) => match evalA Γ r δ with
      | some (ds, f', g') => some (d :: ds, f && f', g && g')
      | none => none
    | none => none
  | _, _ => none
def evalO (Γ : Ga) : E → List Sl → Option (Option Int)
  | .nil, _ => some none
  | .cons a .nil, δ => match eval Γ a δ with
    | some (.int i, _, _) => some (some i)
    | _ => none
  | _, _ => none
def evalI (Γ : Ga) : E → List Sl → Option (List D × Bool)
  | .itL a, δ => match eval Γ a δ with
    | some (.ls ds, true, g) => some (ds, g)
    | _ => none
  | .itT a, δ => match eval Γ a δ with
    | some (.tp ds, true, g) => some (ds, g)
    | _ => none
  | .itR a, δ => match eval Γ a δ with
    | some (.int n, _, _) => if -1000000 ≤ n ∧ n ≤ 1000000 then some (rngD 0 n.toNat, true) else none
    | _ => none
  | .itR2 a b, δ => match eval Γ a δ with
    | some (.int m, _, _) => match eval Γ b δ with
      | some (.int n, _, _) => if -1000000 ≤ m ∧ m ≤ 1000000 ∧ -1000000 ≤ n ∧ n ≤ 1000000 then some (rngD m (n - m).toNat, true) else none
      | _ => none
    | _ => none
  | .itR3 a b c, δ => match eval Γ a δ with
    | some (.int m, _, _) => match eval Γ b δ with
      | some (.int n, _, _) => match eval Γ c δ with
        | some (.int s, _, _) => if -1000000 ≤ m ∧ m ≤ 1000000 ∧ -1000000 ≤ n ∧ n ≤ 1000000 ∧ 0 < s ∧ s < 1000 then some (rng3D m s (rsz m n s), true) else none
        | _ => none
      | _ => none
    | _ => none
  | .itZ a b, δ => match eval Γ a δ with
    | some (.ls xs, true, g) => match eval Γ b δ with
      | some (.ls ys, true, g') => some (zipD xs ys, g && g')
      | _ => none
    | _ => none
  | .itE a, δ => match eval Γ a δ with
    | some (.ls xs, true, g) => some (enumD 0 xs, g)
    | _ => none
  | _, _ => none
end

/-! ### trees -/
mutual
/-- all leaves are flat -/
def D.tflat : D → Bool
  | .ls ds => D.tflats ds
  | .ob _ ds => D.tflats ds
  | .dc _ ds => D.tflats ds
  | .tp _ => false
  | _ => true
def D.tflats : List D → Bool
  | [] => true
  | d :: ds => D.tflat d && D.tflats ds
end
/-- a tree of new cells, all of its leaves flat -/
def TreeAt (C : Cf) (H H' : Hp) (d : D) (v : V) : Prop := ∃ ps, Tr C Emp H' d v ps ∧ ps.Nodup ∧ ∀ p ∈ ps, H p = none
def TreesAt (C : Cf) (H H' : Hp) (ds : List D) (vs : List V) : Prop := ∃ ps, Trs C Emp H' ds vs ps ∧ ps.Nodup ∧ ∀ p ∈ ps, H p = none
/-! does the value d of e stand as a tree -/
mutual
def trOk (Γ : Ga) : E → D → Bool
  | .toL _, .ls ds => ds.all D.leaf
  | .dnew, _ => true
  | .toR _, .ls ds => ds.all D.leaf
  | .lst es, .ls ds => trOks Γ es ds
  | .lc _ _ e, .ls ds => ds.all fun d => trOk Γ e d
  | .lcf _ _ _ e, .ls ds => ds.all fun d => trOk Γ e d
  | .ite _ a b, d => trOk Γ a d && trOk Γ b d
  | .new k _, .ob _ ds => (match Γ.nd[k]? with | some F => F.tr | none => false) && D.tflats ds
  | .call k _, d => ((match Γ.fs[k]? with | some F => F.tr | none => false) && d.tflat) || d.leaf
  | _, d => d.leaf
def trOks (Γ : Ga) : E → List D → Bool
  | .nil, [] => true
  | .cons a r, d :: ds => trOk Γ a d && trOks Γ r ds
  | _, _ => false
end
/-! ### readings -/
def spOf (C : Cf) (F : Fd) : Sp := fun vs H Q _ => ∃ B ds d, Same B H ∧ Rps C B ds vs ∧ ds.length = F.ar ∧ F.run ds = some d ∧ ∀ v H', Same H H' → Rp C (Rsd (if F.fr = true then Emp else B) H H') d v → (F.tr = true → d.tflat = true → TreeAt C H H' d v) → Q v H'
/-- what an __init__ promises -/
def spIn (C : Cf) (F : Nd) : Sp := fun vs H Q _ => ∃ x dx us B ds fs, vs = .ref x :: us ∧ H x = some (.ins (C.Cl F.cl).1 dx []) ∧ Same B H ∧ B x = none ∧ Rps C B ds us ∧ ds.length = F.ar ∧ F.run ds = some fs ∧
  ∀ H' xs, (∀ p o, p ≠ x → H p = some o → H' p = some o) → H' x = some (.ins (C.Cl F.cl).1 dx ((C.Cl F.cl).2.zip xs)) → xs.length = (C.Cl F.cl).2.length → Rps C (Rsd (if F.fr = true then Emp else B) H H') fs xs → (F.tr = true → D.tflats fs = true → TreesAt C H H' fs xs) → Q .non H'
def tMs (C : Cf) (nm : Str) (to : TE) (ta : TA) : List (Nat × Fd) → TE
  | [] => fun _ _ _ => False
  | (c, F) :: r => fun σ H Q => tMeth (C.Cl c).1 nm (spOf C F) [] E0 to ta σ H Q ∨ tMs C nm to ta r σ H Q
/-- min, max of a list of alike data -/
def rMinDat (K : PySem.W.Frag) : List V → Hp → VK → Prop := fun vs H Q => ∃ a xs x r, vs = [.ref a] ∧ SqL K H a xs ∧ DpAll K H xs (x :: r) ∧ PySem.W.AlikeAll (x :: r) ∧ PyData.depthAll (x :: r) ≤ 60 ∧ ∀ (i : Nat) v, xs[i]? = some v → (∀ d, Dp K H v d → d = PySem.W.minD x r) → Q v H
def rMaxDat (K : PySem.W.Frag) : List V → Hp → VK → Prop := fun vs H Q => ∃ a xs x r, vs = [.ref a] ∧ SqL K H a xs ∧ DpAll K H xs (x :: r) ∧ PySem.W.AlikeAll (x :: r) ∧ PyData.depthAll (x :: r) ≤ 60 ∧ ∀ (i : Nat) v, xs[i]? = some v → (∀ d, Dp K H v d → d = PySem.W.maxD x r) → Q v H
def rTupS (K : PySem.W.Frag) : List V → Hp → VK → Prop := fun xs H Q => ∃ p ys, xs = [.ref p] ∧ ((SqL K H p ys ∧ ∀ l, H l = none → Q (.ref l) (upd H l (.tup ys))) ∨ (SqT K H p ys ∧ Q (.ref p) H))
def rLenS (K : PySem.W.Frag) : List V → Hp → VK → Prop := fun xs H Q => ∃ p ys, xs = [.ref p] ∧ (SqL K H p ys ∨ SqT K H p ys) ∧ Q (.int ys.length) H
def rListS (K : PySem.W.Frag) : List V → Hp → VK → Prop := fun xs H Q => ∃ p ys, xs = [.ref p] ∧ (SqL K H p ys ∨ SqT K H p ys) ∧ ∀ l, H l = none → Q (.ref l) (upd H l (.lst ys))
def rMax2 : List V → Hp → VK → Prop := fun xs H Q => ∃ i j, xs = [.int i, .int j] ∧ Q (.int (if j > i then j else i)) H
def rMin2 : List V → Hp → VK → Prop := fun xs H Q => ∃ i j, xs = [.int i, .int j] ∧ Q (.int (if j < i then j else i)) H
def tFalse {α : Type} : St → Hp → α → Prop := fun _ _ _ => False
mutual
def rd (C : Cf) (Γ : Ga) : E → TE
  | .var i => tVar i
  | .int n => tC (.int n)
  | .str x => tC (.str x)
  | .bl b => tC (.bl b)
  | .non => tC .non
  | .kon k => tC (C.kv k)
  | .inn a b => tOp (rInD C.K) (rd C Γ a) (rd C Γ b)
  | .nin a b => tOp (rNotInD C.K) (rd C Γ a) (rd C Γ b)
  | .inT a b => tOp (rIn C.K false) (rd C Γ a) (rd C Γ b)
  | .fld f a => tFld C.K (rd C Γ a) f
  | .isC c a => tCB (rIsi C.K) (tCons (rd C Γ a) (tCons (tC (.ref (C.Cl c).1)) tNil))
  | .minL a => tCB (rMinDat C.K) (tCons (rd C Γ a) tNil)
  | .maxL a => tCB (rMaxDat C.K) (tCons (rd C Γ a) tNil)
  | .rev a => tRevL C.K (rd C Γ a)
  | .ev2 a => tEv2 C.K (rd C Γ a)
  | .new k es => match Γ.nd[k]? with
    | some F => tMake (C.Cl F.cl).1 (spIn C F) [] E0 (rdA C Γ es)
    | none => tFalse
  | .meth m o es => match Γ.ms[m]? with
    | some p => tMs C p.1 (rd C Γ o) (rdA C Γ es) p.2
    | none => tFalse
  | .bin o a b => tOp o.r (rd C Γ a) (rd C Γ b)
  | .cat a b => tOp rCat (rd C Γ a) (rd C Γ b)
  | .rep a b => tOp rRep (rd C Γ a) (rd C Γ b)
  | .neg a => tUn (rU fun i => .int (-i)) (rd C Γ a)
  | .not a => tNotV (rd C Γ a)
  | .eq a b => tOp (rEqD C.K) (rd C Γ a) (rd C Γ b)
  | .ne a b => tOp (rNeD C.K) (rd C Γ a) (rd C Γ b)
  | .cmp o a b => tOp o.r (rd C Γ a) (rd C Γ b)
  | .chn o o' a b c => tChain o.r o'.r (rd C Γ a) (rd C Γ b) (rd C Γ c)
  | .isb a b => tOp rIsB (rd C Γ a) (rd C Γ b)
  | .isnb a b => tOp rNotB (rd C Γ a) (rd C Γ b)
  | .and a b => tAndV (rd C Γ a) (rd C Γ b)
  | .or a b => tOrV (rd C Γ a) (rd C Γ b)
  | .ite c a b => tIf (rdT C Γ c) (rd C Γ a) (rd C Γ b)
  | .ix a b => tOp (rIx C.K) (rd C Γ a) (rd C Γ b)
  | .oix i b => tOp (rIx C.K) (tVar i) (rd C Γ b)
  | .sl a lo hi => tSl (rSlL C.K) (rd C Γ a) (rdO C Γ lo) (rdO C Γ hi)
  | .tup es => tTup (rdA C Γ es)
  | .lst es => tLst (rdA C Γ es)
  | .len a => tCB (rLenS C.K) (tCons (rd C Γ a) tNil)
  | .isI t a => tCB (rIsi C.K) (tCons (rd C Γ a) (tCons (tC (.ty t.nm)) tNil))
  | .toL a => tCB (rListS C.K) (tCons (rd C Γ a) tNil)
  | .toR a => tLstRg (tRg1 (rd C Γ a))
  | .all a => tCB (rAll C.K) (tCons (rd C Γ a) tNil)
  | .any a => tCB (rAny C.K) (tCons (rd C Γ a) tNil)
  | .cnt a b => tBM C.K "list" (rCntI C.K) (rd C Γ a) (tCons (rd C Γ b) tNil)
  | .cntD a b => tBM C.K "list" (rCntD C.K) (rd C Γ a) (tCons (rd C Γ b) tNil)
  | .tupL a => tCB (rTupS C.K) (tCons (rd C Γ a) tNil)
  | .lenSet a => tLenSetT C.K (rd C Γ a)
  | .min2 a b => tCB rMin2 (tCons (rd C Γ a) (tCons (rd C Γ b) tNil))
  | .max2 a b => tCB rMax2 (tCons (rd C Γ a) (tCons (rd C Γ b) tNil))
  | .sum a => tCB (rSum C.K) (tCons (rd C Γ a) tNil)
  | .srt a => tCB (rSortedSet C.w) (tCons (tCB (rSetOfI C.w C.K) (tCons (rd C Γ a) tNil)) tNil)
  | .call k es => match Γ.fs[k]? with
    | some F => tCall (spOf C F) [] E0 (rdA C Γ es)
    | none => tFalse
  | .din a b => tDIn (rd C Γ a) (rd C Γ b)
  | .dix a b => tDGet (rd C Γ a) (rd C Γ b)
  | .dget a b c => tDGet2 (rd C Γ a) (rd C Γ b) (rd C Γ c)
  | .dnew => tDNewK
  | .sumT a => tCB (rSumT C.K) (tCons (rd C Γ a) tNil)
  | .stp a b => tStp C.K (rd C Γ a) (rd C Γ b)
  | .lc t it e => tLc (rdI C Γ it) (t.rd C.K) tYes (rd C Γ e) t.sl
  | .lcQ t a e => tLc (iList C.K (rd C Γ a)) (t.rd C.K) tYes (rd C Γ e) t.sl
  | .lcf t it c e => tLc (rdI C Γ it) (t.rd C.K) (rdT C Γ c) (rd C Γ e) t.sl
  | _ => tFalse
def rdA (C : Cf) (Γ : Ga) : E → TA
  | .nil => tNil
  | .cons a r => tCons (rd C Γ a) (rdA C Γ r)
  | _ => tFalse
def rdO (C : Cf) (Γ : Ga) : E → TO
  | .nil => tNoPart
  | .cons a _ => tPart (rd C Γ a)
  | _ => tFalse
def rdT (C : Cf) (Γ : Ga) : E → TT
  | .not a => tNot (rdT C Γ a)
  | .and a b => tAnd (rdT C Γ a) (rdT C Γ b)
  | .or a b => tOr (rdT C Γ a) (rdT C Γ b)
  | .var i => tB (tVar i)
  | .bl b => tB (tC (.bl b))
  | .eq a b => tB (tOp (rEqD C.K) (rd C Γ a) (rd C Γ b))
  | .ne a b => tB (tOp (rNeD C.K) (rd C Γ a) (rd C Γ b))
  | .cmp o a b => tB (tOp o.r (rd C Γ a) (rd C Γ b))
  | .chn o o' a b c => tB (tChain o.r o'.r (rd C Γ a) (rd C Γ b) (rd C Γ c))
  | .isb a b => tB (tOp rIsB (rd C Γ a) (rd C Γ b))
  | .isnb a b => tB (tOp rNotB (rd C Γ a) (rd C Γ b))
  | .isI t a => tB (tCB (rIsi C.K) (tCons (rd C Γ a) (tCons (tC (.ty t.nm)) tNil)))
  | .all a => tB (tCB (rAll C.K) (tCons (rd C Γ a) tNil))
  | .any a => tB (tCB (rAny C.K) (tCons (rd C Γ a) tNil))
  | .call k es => tB (match Γ.fs[k]? with
    | some F => tCall (spOf C F) [] E0 (rdA C Γ es)
    | none => tFalse)
  | .inn a b => tB (tOp (rInD C.K) (rd C Γ a) (rd C Γ b))
  | .nin a b => tB (tOp (rNotInD C.K) (rd C Γ a) (rd C Γ b))
  | .inT a b => tB (tOp (rIn C.K false) (rd C Γ a) (rd C Γ b))
  | .isC c a => tB (tCB (rIsi C.K) (tCons (rd C Γ a) (tCons (tC (.ref (C.Cl c).1)) tNil)))
  | .ix a b => tB (tOp (rIx C.K) (rd C Γ a) (rd C Γ b))
  | .din a b => tB (tDIn (rd C Γ a) (rd C Γ b))
  | .meth m o es => tB (match Γ.ms[m]? with
    | some p => tMs C p.1 (rd C Γ o) (rdA C Γ es) p.2
    | none => tFalse)
  | _ => tFalse
def rdI (C : Cf) (Γ : Ga) : E → TI
  | .itL a => iList C.K (rd C Γ a)
  | .itT a => iTup C.K (rd C Γ a)
  | .itR a => iRng1 (tCons (rd C Γ a) tNil)
  | .itR2 a b => iRng2 (tCons (rd C Γ a) (tCons (rd C Γ b) tNil))
  | .itR3 a b c => iRng3 (tCons (rd C Γ a) (tCons (rd C Γ b) (tCons (rd C Γ c) tNil)))
  | .itZ a b => iZip C.K (tCons (rd C Γ a) (tCons (rd C Γ b) tNil))
  | .itE a => iEnum C.K (tCons (rd C Γ a) tNil)
  | _ => tFalse
end
end G

namespace G
open PySem PySem.Spec PyProof.Rows L2
section
variable {X : Cx}
theorem cr_minDat (hc : X.calm = true) (hu : X.A.units + 64 < cLine) : CallR X (.builtin "min") (rMinDat X.K) := by
  intro pins s σ H vs us Q I r h
  obtain ⟨a, xs, x, rr, rfl, hs, hd, al, hdep, q⟩ := h
  obtain ⟨its, rv, hl, _⟩ := I.list hs
  rw [Vals.ref1 r]
  obtain ⟨as, ra⟩ := Dp.readsAll I (x :: rr) xs its hd rv
  refine PySem.W.min_list_data (I.ok.hd hc) hl.isList (by simpa using ra) al (by omega) fun i u h' tk bs hi hr hk => ?_
  have hi' : its[i]? = some u := by simpa using hi
  have hlt : i < xs.length := by
    rw [rv.length]
    exact (List.getElem?_eq_some_iff.mp hi').1
  obtain ⟨w, ew, rw'⟩ := rv.get (List.getElem?_eq_getElem hlt)
  rw [hi'] at ew
  cases ew
  refine ⟨_, H, I.kept hk, rw', q i _ (List.getElem?_eq_getElem hlt) fun d k => ?_⟩
  obtain ⟨cs, rd'⟩ := Dp.reads I d _ _ k rw'
  exact ((reads_det (fun b o e _ => hk b o e) rd' hr).1).symm
theorem cr_maxDat (hc : X.calm = true) (hu : X.A.units + 64 < cLine) : CallR X (.builtin "max") (rMaxDat X.K) := by
  intro pins s σ H vs us Q I r h
  obtain ⟨a, xs, x, rr, rfl, hs, hd, al, hdep, q⟩ := h
  obtain ⟨its, rv, hl, _⟩ := I.list hs
  rw [Vals.ref1 r]
  obtain ⟨as, ra⟩ := Dp.readsAll I (x :: rr) xs its hd rv
  refine PySem.W.max_list_data (I.ok.hd hc) hl.isList (by simpa using ra) al (by omega) fun i u h' tk bs hi hr hk => ?_
  have hi' : its[i]? = some u := by simpa using hi
  have hlt : i < xs.length := by
    rw [rv.length]
    exact (List.getElem?_eq_some_iff.mp hi').1
  obtain ⟨w, ew, rw'⟩ := rv.get (List.getElem?_eq_getElem hlt)
  rw [hi'] at ew
  cases ew
  refine ⟨_, H, I.kept hk, rw', q i _ (List.getElem?_eq_getElem hlt) fun d k => ?_⟩
  obtain ⟨cs, rd'⟩ := Dp.reads I d _ _ k rw'
  exact ((reads_det (fun b o e _ => hk b o e) rd' hr).1).symm
/-- either of two readings -/
theorem pe_or {e : Expr} {t u : TE} (h : PE X e t) (k : PE X e u) : PE X e (fun σ H Q => t σ H Q ∨ u σ H Q) :=
  ⟨fun pins s σ H Q I z => z.elim (h.1 pins s σ H Q I) (k.1 pins s σ H Q I)⟩
theorem pe_nope {e : Expr} : PE X e (fun _ _ _ => False) := ⟨fun pins s σ H Q I z => z.elim⟩
end
end G

namespace G
open PySem L2
section
variable (C : Cf) (B0 H0 : Hp)
def EvOk (te : TE) (δ : List Sl) (r : Rs) : Prop := ∀ B H σ, Stt C B0 H0 B H σ δ → ∀ Q : VK, (∀ v B' H', Gro B H B' H' → Stt C B0 H0 B' H' σ δ → Rp C (Rg B0 H0 B' H' r.2.1 r.2.2) r.1 v → Q v H') → te σ H Q
def ArOk (ta : TA) (δ : List Sl) (r : List D × Bool × Bool) : Prop := ∀ B H σ, Stt C B0 H0 B H σ δ → ∀ Q : List V → Hp → Prop, (∀ vs B' H', Gro B H B' H' → Stt C B0 H0 B' H' σ δ → Rps C (Rg B0 H0 B' H' r.2.1 r.2.2) r.1 vs → Q vs H') → ta σ H Q
def TtOk (tt : TT) (δ : List Sl) (b : Bool) : Prop := ∀ B H σ, Stt C B0 H0 B H σ δ → ∀ Q : Bool → Hp → Prop, (∀ B' H', Gro B H B' H' → Stt C B0 H0 B' H' σ δ → Q b H') → tt σ H Q
def PoOk (to : TO) (δ : List Sl) (o : Option Int) : Prop := ∀ B H σ, Stt C B0 H0 B H σ δ → ∀ Q : Option Int → Hp → Prop, (∀ B' H', Gro B H B' H' → Stt C B0 H0 B' H' σ δ → Q o H') → to σ H Q
def NwOk (te : TE) (δ : List Sl) (ds : List D) (f g : Bool) : Prop := ∀ B H σ, Stt C B0 H0 B H σ δ → ∀ Q : VK, (∀ p vs B' H', Gro B H B' H' → Stt C B0 H0 B' H' σ δ → H p = none → B' p = none → H' p = some (.lst vs) → Rps C (Rg B0 H0 B' H' f g) ds vs → Q (.ref p) H') → te σ H Q
def WkOk (J : It) (ds : List D) (g : Bool) (B1 : Hp) : Prop := ∃ (Gd : Hp → Prop) (Y : Nat → Hp → V → Hp → Prop), Walk J ds.length Gd Y ∧ (∀ B' H' σ' δ', Same B1 B' → Stt C B0 H0 B' H' σ' δ' → Gd H') ∧
  ∀ (i : Nat) H' x H2 B' σ' δ', i < ds.length → Same B1 B' → Stt C B0 H0 B' H' σ' δ' → Y i H' x H2 → ∃ d B2, ds[i]? = some d ∧ Gro B' H' B2 H2 ∧ Stt C B0 H0 B2 H2 σ' δ' ∧ Rp C (Rg B0 H0 B2 H2 true g) d x
def ItOk (wi : TI) (δ : List Sl) (r : List D × Bool) : Prop := ∀ B H σ, Stt C B0 H0 B H σ δ → ∀ R : It → Hp → Prop, (∀ J B' H', Gro B H B' H' → Stt C B0 H0 B' H' σ δ → WkOk C B0 H0 J r.1 r.2 B' → R J H') → wi σ H R
def WkOkW (J : It) (ds : List D) (g : Bool) (B1 H1 : Hp) : Prop := ∃ (Gd : Hp → Prop) (Y : Nat → Hp → V → Hp → Prop), Walk J ds.length Gd Y ∧ (∀ B' H' σ' δ', Same B1 B' → Same H1 H' → Stt C B0 H0 B' H' σ' δ' → Gd H') ∧
  ∀ (i : Nat) H' x H2 B' σ' δ', i < ds.length → Same B1 B' → Same H1 H' → Stt C B0 H0 B' H' σ' δ' → Y i H' x H2 → ∃ d B2, ds[i]? = some d ∧ Gro B' H' B2 H2 ∧ Stt C B0 H0 B2 H2 σ' δ' ∧ Rp C (Rg B0 H0 B2 H2 true g) d x
def ItOkW (wi : TI) (δ : List Sl) (r : List D × Bool) : Prop := ∀ B H σ, Stt C B0 H0 B H σ δ → ∀ R : It → Hp → Prop, (∀ J B' H', Gro B H B' H' → Stt C B0 H0 B' H' σ δ → WkOkW C B0 H0 J r.1 r.2 B' H' → R J H') → wi σ H R
end
section
variable {C : Cf} {B0 H0 : Hp} {δ : List Sl} {ta tb tc te : TE}
theorem NwOk.ev {ds : List D} {f g : Bool} (h : NwOk C B0 H0 te δ ds f g) : EvOk C B0 H0 te δ (.ls ds, f, g) := by
  intro B H σ S Q q
  refine h B H σ S Q fun p vs B' H' G S' hp hb hh r => ?_
  have h0 : H0 p = none := S.ex0.free hp
  cases f with
  | true =>
    have nw : ∀ z o, (upd B' p (.lst vs)) z = some o → B z = some o ∨ H z = none := fun z o k => by
      by_cases e : z = p
      · subst e; exact .inr hp
      · rw [upd_ne e] at k; exact G.nw z o k
    refine q _ (upd B' p (.lst vs)) H' ⟨G.eb.trans (same_upd hb), G.eh, nw⟩ (S.grow (G.eb.trans (same_upd hb)) G.eh (fun z o k => ?_) nw) ?_
    · by_cases e : z = p
      · subst e; rw [upd_same] at k; rw [hh]; exact k
      · rw [upd_ne e] at k; exact S'.sub _ _ k
    · show Rp C (Rg B0 H0 (upd B' p (.lst vs)) H' true g) (.ls ds) (.ref p)
      rw [rp_ls]
      refine ⟨p, vs, rfl, ?_, r.mono (rg_mono (same_upd hb) (Same.refl _) _ _)⟩
      cases g
      · exact upd_same
      · show (match H0 p with | none => (upd B' p (.lst vs)) p | some _ => none) = _
        rw [h0]; exact upd_same
  | false =>
    refine q _ B' H' G S' ?_
    show Rp C (Rg B0 H0 B' H' false g) (.ls ds) (.ref p)
    rw [rp_ls]
    refine ⟨p, vs, rfl, ?_, r⟩
    cases g
    · show (match B0 p, H0 p with | none, some _ => none | _, _ => H' p) = _
      rw [h0]; cases B0 p <;> exact hh
    · show (match H0 p with | none => H' p | some _ => none) = _
      rw [h0]; exact hh
theorem rps_flat {H H' : Hp} : ∀ {ds : List D} {vs : List V}, flats ds = true → Rps C H ds vs → Rps C H' ds vs
  | [], _, _, h => by simpa only [Rps] using h
  | d :: ds, vs, e, h => by
    simp only [flats, List.all_cons, Bool.and_eq_true] at e
    simp only [Rps] at h ⊢
    obtain ⟨v, r, h1, h2, h3⟩ := h
    exact ⟨v, r, h1, h2.flat e.1, rps_flat e.2 h3⟩
theorem NwOk.up {ds : List D} {f g : Bool} (h : NwOk C B0 H0 te δ ds f g) : NwOk C B0 H0 te δ ds (f || flats ds) g := by
  cases e : flats ds with
  | false => rw [Bool.or_false]; exact h
  | true =>
    rw [Bool.or_true]
    intro B H σ S Q q
    exact h B H σ S Q fun p vs B' H' G S' hp hb hh r => q p vs B' H' G S' hp hb hh (rps_flat e r)
theorem NwOk.up2 {ds : List D} {f g : Bool} (h : NwOk C B0 H0 te δ ds f g) : NwOk C B0 H0 te δ ds (f || flats ds) (g || flats ds) := by
  cases e : flats ds with
  | false => rw [Bool.or_false, Bool.or_false]; exact h
  | true =>
    rw [Bool.or_true, Bool.or_true]
    intro B H σ S Q q
    exact h B H σ S Q fun p vs B' H' G S' hp hb hh r => q p vs B' H' G S' hp hb hh (rps_flat e r)
/-- what a rule lays at any free place is a new list -/
theorem nw_of {ds : List D} {f g : Bool} {B H : Hp} {σ : St} {vs : List V} (S : Stt C B0 H0 B H σ δ) (r : Rps C (Rg B0 H0 B H f g) ds vs) {B1 H1 : Hp} (G : Gro B1 H1 B H) {Q : VK}
    (q : ∀ p vs B' H', Gro B1 H1 B' H' → Stt C B0 H0 B' H' σ δ → H1 p = none → B' p = none → H' p = some (.lst vs) → Rps C (Rg B0 H0 B' H' f g) ds vs → Q (.ref p) H') : ∀ p, H p = none → Q (.ref p) (upd H p (.lst vs)) := fun p hp =>
  q p vs B (upd H p (.lst vs)) ⟨G.eb, G.eh.trans (same_upd hp), G.nw⟩ (S.cell hp) (G.eh.free hp) (S.sub.free hp) upd_same (r.mono (rg_mono (Same.refl _) (same_upd hp) _ _))
theorem ev_c {d : D} {v : V} (r : Rp C Emp d v) : EvOk C B0 H0 (tC v) δ (d, true, true) := fun B H σ S Q q =>
  q v B H (Gro.refl _ _) S (r.mono fun _ _ h => by cases h)
theorem ev_sh {i : Nat} {d : D} {g : Bool} (h : δ[i]? = some (.sh d g)) : EvOk C B0 H0 (tVar i) δ (d, true, g) := fun B H σ S Q q => by
  obtain ⟨v, e, r⟩ := S.shr i d g h
  exact ⟨v, e, q v B H (Gro.refl _ _) S r⟩
theorem ev_ow {i : Nat} {ds : List D} {g : Bool} (h : δ[i]? = some (.ow ds g)) : EvOk C B0 H0 (tVar i) δ (.ls ds, false, g) := fun B H σ S Q q => by
  obtain ⟨p, vs, e, h0, hb, hh, r⟩ := S.own i ds g h
  refine ⟨.ref p, e, q _ B H (Gro.refl _ _) S ?_⟩
  show Rp C (Rg B0 H0 B H false g) (.ls ds) (.ref p)
  rw [rp_ls]
  refine ⟨p, vs, rfl, ?_, r.mono (S.weak true g false g (fun h => by cases h) id)⟩
  cases g
  · show (match B0 p, H0 p with | none, some _ => none | _, _ => H p) = _
    rw [h0]; cases B0 p <;> exact hh
  · show (match H0 p with | none => H p | some _ => none) = _
    rw [h0]; exact hh
theorem ev_rg {i : Nat} {d : D} (h : δ[i]? = some (.rg d)) : EvOk C B0 H0 (tVar i) δ (d, false, false) := fun B H σ S Q q => by
  obtain ⟨v, e, r⟩ := S.rgn i d h
  exact ⟨v, e, q v B H (Gro.refl _ _) S r⟩
theorem Stt.trRp {B H : Hp} {σ : St} (S : Stt C B0 H0 B H σ δ) {i : Nat} {d : D} (h : δ[i]? = some (.tr d)) : ∃ v ps, σ[i]? = some (some v) ∧ Tr C B H d v ps ∧ (∀ p ∈ ps, H0 p = none) ∧ Rp C (Rsd B0 H0 H) d v := by
  obtain ⟨φ, T⟩ := S.tre
  obtain ⟨v, e, t⟩ := T.tr i d h
  exact ⟨v, φ i, e, t, fun p hp => (T.nw i d p h hp).1, t.rp S.b_rsd fun p hp o ho => rsd_at (T.nw i d p h hp).1 ho⟩
theorem ev_tr {i : Nat} {d : D} (h : δ[i]? = some (.tr d)) : EvOk C B0 H0 (tVar i) δ (d, false, false) := fun B H σ S Q q => by
  obtain ⟨v, ps, e, _, _, r⟩ := S.trRp h
  exact ⟨v, e, q v B H (Gro.refl _ _) S r⟩
theorem ev_al {i j : Nat} {p : List Nat} {d d' : D} (h : δ[i]? = some (.al j p)) (hj : δ[j]? = some (.tr d)) (hs : d.sub p = some d') : EvOk C B0 H0 (tVar i) δ (d', false, false) := fun B H σ S Q q => by
  obtain ⟨v, e, a⟩ := S.ali i j p h
  obtain ⟨w, d2, ew, n⟩ := a d hj
  have n2 := n.sub
  rw [hs] at n2
  cases n2
  obtain ⟨w', ps, ew', t, h0, _⟩ := S.trRp hj
  rw [ew] at ew'
  cases ew'
  obtain ⟨v', qs, n', t', sb⟩ := t.nav hs
  obtain ⟨_, rfl⟩ := n.fn n'
  exact ⟨v, e, q v B H (Gro.refl _ _) S (t'.rp S.b_rsd fun p hp o ho => rsd_at (h0 p (sb p hp)) ho)⟩
/-- two operands -/
theorem ev_two {r : R2} {x y : D} {f g f' g' : Bool} (ha : EvOk C B0 H0 ta δ (x, f, g)) (hb : EvOk C B0 H0 tb δ (y, f', g')) {B H : Hp} {σ : St} (S : Stt C B0 H0 B H σ δ) {Q : VK}
    (k : ∀ v u B' H', Gro B H B' H' → Stt C B0 H0 B' H' σ δ → Rp C (Rg B0 H0 B' H' f g) x v → Rp C (Rg B0 H0 B' H' f' g') y u → r v u H' Q) : tOp r ta tb σ H Q :=
  ha B H σ S _ fun v B1 H1 G1 S1 r1 => hb B1 H1 σ S1 _ fun u B2 H2 G2 S2 r2 => k v u B2 H2 (G1.trans G2) S2 (r1.mono (G2.rg _ _)) r2
/-- two operands, a flat value that is made of them without a change -/
theorem ev_flat2 {r : R2} {x y z : D} {zv : V} {f g f' g' : Bool} (ha : EvOk C B0 H0 ta δ (x, f, g)) (hb : EvOk C B0 H0 tb δ (y, f', g')) (hz : Rp C Emp z zv)
    (k : ∀ v u H (Q : VK), Rp C H x v → Rp C H y u → Q zv H → r v u H Q) : EvOk C B0 H0 (tOp r ta tb) δ (z, true, true) := fun B H σ S Q q =>
  ev_two ha hb S fun v u B' H' G' S' r1 r2 => k v u H' Q (r1.mono (S'.toH _ _)) (r2.mono (S'.toH _ _)) (q zv B' H' G' S' (hz.mono fun _ _ h => by cases h))
theorem emp_int (i : Int) : Rp C Emp (.int i) (.int i) := by rw [rp_int]
theorem emp_bl (i : Bool) : Rp C Emp (.bl i) (.bl i) := by rw [rp_bl]
theorem emp_str (i : Str) : Rp C Emp (.str i) (.str i) := by rw [rp_str]
theorem emp_non : Rp C Emp .non .non := by rw [rp_non]
theorem bo_ok {o : Bo} {i j z : Int} (h : o.run i j = some z) {H : Hp} {Q : VK} (q : Q (.int z) H) : o.r (.int i) (.int j) H Q := by
  cases o <;> simp only [Bo.run] at h
  · cases h; exact ⟨i, j, rfl, rfl, q⟩
  · cases h; exact ⟨i, j, rfl, rfl, q⟩
  · split at h
    · cases h; exact ⟨i, j, rfl, rfl, (by assumption), q⟩
    · cases h
  · split at h
    · cases h; exact ⟨i, j, rfl, rfl, (by assumption), q⟩
    · cases h
  · split at h
    · cases h; exact ⟨i, j, rfl, rfl, (by assumption), q⟩
    · cases h
  · split at h
    · cases h; exact ⟨i, j, rfl, rfl, (by assumption), q⟩
    · cases h
  · split at h
    · cases h; exact ⟨i, j, rfl, rfl, (by assumption), q⟩
    · cases h
theorem co_ok {o : Co} {i j : Int} {H : Hp} {Q : VK} (q : Q (.bl (o.f i j)) H) : o.r (.int i) (.int j) H Q := by
  cases o <;> exact ⟨i, j, rfl, rfl, q⟩
theorem ev_bin {o : Bo} {i j z : Int} {f g f' g' : Bool} (ha : EvOk C B0 H0 ta δ (.int i, f, g)) (hb : EvOk C B0 H0 tb δ (.int j, f', g')) (h : o.run i j = some z) : EvOk C B0 H0 (tOp o.r ta tb) δ (.int z, true, true) :=
  ev_flat2 ha hb (emp_int z) fun v u H Q r1 r2 q => by
    rw [rp_int] at r1 r2
    subst r1 r2
    exact bo_ok h q
theorem ev_cmp {o : Co} {i j : Int} {f g f' g' : Bool} (ha : EvOk C B0 H0 ta δ (.int i, f, g)) (hb : EvOk C B0 H0 tb δ (.int j, f', g')) : EvOk C B0 H0 (tOp o.r ta tb) δ (.bl (o.f i j), true, true) :=
  ev_flat2 ha hb (emp_bl _) fun v u H Q r1 r2 q => by
    rw [rp_int] at r1 r2
    subst r1 r2
    exact co_ok q
theorem ev_eq {x y : D} {f g f' g' : Bool} (ha : EvOk C B0 H0 ta δ (x, f, g)) (hb : EvOk C B0 H0 tb δ (y, f', g')) (h : (x.eqok && y.eqok) = true) : EvOk C B0 H0 (tOp (rEqD C.K) ta tb) δ (.bl (x.eqv y), true, true) :=
  ev_flat2 ha hb (emp_bl _) fun v u H Q r1 r2 q => by
    rw [Bool.and_eq_true] at h
    obtain ⟨h1, h2⟩ := h
    simp only [D.eqok, Bool.and_eq_true] at h1 h2
    exact ⟨x.py, y.py, r1.dp h1.1, r2.dp h2.1, h1.2, h2.2, q⟩
theorem ev_ne {x y : D} {f g f' g' : Bool} (ha : EvOk C B0 H0 ta δ (x, f, g)) (hb : EvOk C B0 H0 tb δ (y, f', g')) (h : (x.eqok && y.eqok) = true) : EvOk C B0 H0 (tOp (rNeD C.K) ta tb) δ (.bl (!x.eqv y), true, true) :=
  ev_flat2 ha hb (emp_bl _) fun v u H Q r1 r2 q => by
    rw [Bool.and_eq_true] at h
    obtain ⟨h1, h2⟩ := h
    simp only [D.eqok, Bool.and_eq_true] at h1 h2
    exact ⟨x.py, y.py, r1.dp h1.1, r2.dp h2.1, h1.2, h2.2, q⟩
theorem ev_isb {i j : Bool} {f g f' g' : Bool} (ha : EvOk C B0 H0 ta δ (.bl i, f, g)) (hb : EvOk C B0 H0 tb δ (.bl j, f', g')) : EvOk C B0 H0 (tOp rIsB ta tb) δ (.bl (decide (i = j)), true, true) :=
  ev_flat2 ha hb (emp_bl _) fun v u H Q r1 r2 q => by
    rw [rp_bl] at r1 r2
    subst r1 r2
    exact ⟨i, j, rfl, rfl, q⟩
theorem ev_isnb {i j : Bool} {f g f' g' : Bool} (ha : EvOk C B0 H0 ta δ (.bl i, f, g)) (hb : EvOk C B0 H0 tb δ (.bl j, f', g')) : EvOk C B0 H0 (tOp rNotB ta tb) δ (.bl (!decide (i = j)), true, true) :=
  ev_flat2 ha hb (emp_bl _) fun v u H Q r1 r2 q => by
    rw [rp_bl] at r1 r2
    subst r1 r2
    exact ⟨i, j, rfl, rfl, q⟩
theorem sz_of {n : Nat} (h : n ≤ 1000000) : n ≤ sizeLine := Nat.le_trans h (by decide)
theorem nw_cat {xs ys : List D} {f g f' g' : Bool} (ha : EvOk C B0 H0 ta δ (.ls xs, f, g)) (hb : EvOk C B0 H0 tb δ (.ls ys, f', g')) (h : xs.length + ys.length ≤ 100000) : NwOk C B0 H0 (tOp rCat ta tb) δ (xs ++ ys) (f && f') (g && g') := fun B H σ S Q q =>
  ev_two ha hb S fun v u B' H' G' S' r1 r2 => by
    rw [rp_ls] at r1 r2
    obtain ⟨a, vs, rfl, h1, k1⟩ := r1
    obtain ⟨b, us, rfl, h2, k2⟩ := r2
    refine ⟨a, b, vs, us, rfl, rfl, S'.toH _ _ _ _ h1, S'.toH _ _ _ _ h2, sz_of (by rw [k1.len, k2.len]; omega), nw_of S' ?_ G' q⟩
    exact (k1.mono (S'.weakL f g f' g')).app (k2.mono (S'.weakR f' g' f g))
theorem rps_rep {H : Hp} {ds : List D} {vs : List V} (r : Rps C H ds vs) : ∀ n : Nat, Rps C H (List.replicate n ds).flatten (List.replicate n vs).flatten
  | 0 => by simp [Rps]
  | n + 1 => by
    rw [List.replicate_succ, List.replicate_succ, List.flatten_cons, List.flatten_cons]
    exact r.app (rps_rep r n)
theorem nw_rep {xs : List D} {k : Int} {f g f' g' : Bool} (ha : EvOk C B0 H0 ta δ (.ls xs, f, g)) (hb : EvOk C B0 H0 tb δ (.int k, f', g')) (h : 0 ≤ k ∧ k ≤ 1000 ∧ xs.length ≤ 1000) : NwOk C B0 H0 (tOp rRep ta tb) δ (List.replicate k.toNat xs).flatten f g := fun B H σ S Q q =>
  ev_two ha hb S fun v u B' H' G' S' r1 r2 => by
    rw [rp_ls] at r1
    rw [rp_int] at r2
    subst r2
    obtain ⟨a, vs, rfl, h1, k1⟩ := r1
    refine ⟨a, k, vs, rfl, rfl, S'.toH _ _ _ _ h1, by omega, by omega, sz_of ?_, nw_of S' (rps_rep k1 _) G' q⟩
    have e1 : k.toNat ≤ 1000 := by omega
    have e2 : vs.length ≤ 1000 := by rw [k1.len]; omega
    exact Nat.le_trans (Nat.mul_le_mul e2 e1) (by decide)
theorem ev_neg {i : Int} {f g : Bool} (ha : EvOk C B0 H0 ta δ (.int i, f, g)) : EvOk C B0 H0 (tUn (rU fun i => .int (-i)) ta) δ (.int (-i), true, true) := fun B H σ S Q q =>
  ha B H σ S _ fun v B1 H1 G1 S1 r1 => by
    rw [rp_int] at r1
    subst r1
    exact ⟨i, rfl, q _ B1 H1 G1 S1 ((emp_int _).mono fun _ _ h => by cases h)⟩
theorem rp_emp {H : Hp} {d : D} {v : V} (h : Rp C Emp d v) : Rp C H d v := h.mono fun _ _ h => by cases h
theorem ev_not {b : Bool} {f g : Bool} (ha : EvOk C B0 H0 ta δ (.bl b, f, g)) : EvOk C B0 H0 (tNotV ta) δ (.bl (!b), true, true) := fun B H σ S Q q =>
  ha B H σ S _ fun v B1 H1 G1 S1 r1 => by
    rw [rp_bl] at r1
    subst r1
    exact ⟨b, rfl, q _ B1 H1 G1 S1 (rp_emp (emp_bl _))⟩
theorem ev_chn1 {o o' : Co} {i j k : Int} {f g f' g' f2 g2 : Bool} (ha : EvOk C B0 H0 ta δ (.int i, f, g)) (hb : EvOk C B0 H0 tb δ (.int j, f', g')) (hc : EvOk C B0 H0 tc δ (.int k, f2, g2)) (h : o.f i j = true) : EvOk C B0 H0 (tChain o.r o'.r ta tb tc) δ (.bl (o'.f j k), true, true) := fun B H σ S Q q =>
  ha B H σ S _ fun v B1 H1 G1 S1 r1 => hb B1 H1 σ S1 _ fun u B2 H2 G2 S2 r2 => by
    rw [rp_int] at r1 r2
    subst r1 r2
    refine co_ok ⟨true, by rw [h], ?_⟩
    rw [if_pos rfl]
    refine hc B2 H2 σ S2 _ fun w B3 H3 G3 S3 r3 => ?_
    rw [rp_int] at r3
    subst r3
    exact co_ok (q _ B3 H3 ((G1.trans G2).trans G3) S3 (rp_emp (emp_bl _)))
theorem ev_chn0 {o o' : Co} {i j : Int} {f g f' g' : Bool} (ha : EvOk C B0 H0 ta δ (.int i, f, g)) (hb : EvOk C B0 H0 tb δ (.int j, f', g')) (h : ¬ o.f i j = true) : EvOk C B0 H0 (tChain o.r o'.r ta tb tc) δ (.bl false, true, true) := fun B H σ S Q q =>
  ha B H σ S _ fun v B1 H1 G1 S1 r1 => hb B1 H1 σ S1 _ fun u B2 H2 G2 S2 r2 => by
    rw [rp_int] at r1 r2
    subst r1 r2
    refine co_ok ⟨false, by rw [Bool.eq_false_iff.mpr h], ?_⟩
    rw [if_neg Bool.false_ne_true]
    exact q _ B2 H2 (G1.trans G2) S2 (rp_emp (emp_bl _))
theorem ev_and1 {r : Rs} {f g : Bool} (ha : EvOk C B0 H0 ta δ (.bl true, f, g)) (hb : EvOk C B0 H0 tb δ r) : EvOk C B0 H0 (tAndV ta tb) δ r := fun B H σ S Q q =>
  ha B H σ S _ fun v B1 H1 G1 S1 r1 => by
    rw [rp_bl] at r1
    subst r1
    refine ⟨true, rfl, ?_⟩
    rw [if_pos rfl]
    exact hb B1 H1 σ S1 _ fun v B2 H2 G2 S2 r2 => q v B2 H2 (G1.trans G2) S2 r2
theorem ev_and0 {f g : Bool} (ha : EvOk C B0 H0 ta δ (.bl false, f, g)) : EvOk C B0 H0 (tAndV ta tb) δ (.bl false, true, true) := fun B H σ S Q q =>
  ha B H σ S _ fun v B1 H1 G1 S1 r1 => by
    rw [rp_bl] at r1
    subst r1
    refine ⟨false, rfl, ?_⟩
    rw [if_neg Bool.false_ne_true]
    exact q _ B1 H1 G1 S1 (rp_emp (emp_bl _))
theorem ev_or0 {r : Rs} {f g : Bool} (ha : EvOk C B0 H0 ta δ (.bl false, f, g)) (hb : EvOk C B0 H0 tb δ r) : EvOk C B0 H0 (tOrV ta tb) δ r := fun B H σ S Q q =>
  ha B H σ S _ fun v B1 H1 G1 S1 r1 => by
    rw [rp_bl] at r1
    subst r1
    refine ⟨false, rfl, ?_⟩
    rw [if_neg Bool.false_ne_true]
    exact hb B1 H1 σ S1 _ fun v B2 H2 G2 S2 r2 => q v B2 H2 (G1.trans G2) S2 r2
theorem ev_or1 {f g : Bool} (ha : EvOk C B0 H0 ta δ (.bl true, f, g)) : EvOk C B0 H0 (tOrV ta tb) δ (.bl true, true, true) := fun B H σ S Q q =>
  ha B H σ S _ fun v B1 H1 G1 S1 r1 => by
    rw [rp_bl] at r1
    subst r1
    refine ⟨true, rfl, ?_⟩
    rw [if_pos rfl]
    exact q _ B1 H1 G1 S1 (rp_emp (emp_bl _))
theorem ev_ite1 {r : Rs} {t : TT} (ht : TtOk C B0 H0 t δ true) (ha : EvOk C B0 H0 ta δ r) : EvOk C B0 H0 (tIf t ta tb) δ r := fun B H σ S Q q =>
  ht B H σ S _ fun B1 H1 G1 S1 => by
    rw [if_pos rfl]
    exact ha B1 H1 σ S1 _ fun v B2 H2 G2 S2 r2 => q v B2 H2 (G1.trans G2) S2 r2
theorem ev_ite0 {r : Rs} {t : TT} (ht : TtOk C B0 H0 t δ false) (hb : EvOk C B0 H0 tb δ r) : EvOk C B0 H0 (tIf t ta tb) δ r := fun B H σ S Q q =>
  ht B H σ S _ fun B1 H1 G1 S1 => by
    rw [if_neg Bool.false_ne_true]
    exact hb B1 H1 σ S1 _ fun v B2 H2 G2 S2 r2 => q v B2 H2 (G1.trans G2) S2 r2
theorem atI_rps {H : Hp} {ds : List D} {vs : List V} {i : Int} {d : D} (r : Rps C H ds vs) (h : atI ds i = some d) : ∃ v, atI vs i = some v ∧ Rp C H d v := by
  unfold atI at h ⊢
  rw [r.len]
  cases e : ixN ds.length i with
  | none => rw [e] at h; cases h
  | some j =>
    rw [e] at h
    exact r.get (i := j) h
theorem ev_ixL {xs : List D} {i : Int} {d : D} {f g f' g' : Bool} (ha : EvOk C B0 H0 ta δ (.ls xs, f, g)) (hb : EvOk C B0 H0 tb δ (.int i, f', g')) (h : atI xs i = some d) : EvOk C B0 H0 (tOp (rIx C.K) ta tb) δ (d, f, g) := fun B H σ S Q q =>
  ev_two ha hb S fun v u B' H' G' S' r1 r2 => by
    rw [rp_ls] at r1
    rw [rp_int] at r2
    subst r2
    obtain ⟨a, vs, rfl, h1, k1⟩ := r1
    obtain ⟨v, e, r⟩ := atI_rps k1 h
    exact .inl ⟨a, vs, i, v, rfl, rfl, SqL.of (S'.toH _ _ _ _ h1), e, q v B' H' G' S' r⟩
theorem ev_ixT {xs : List D} {i : Int} {d : D} {f g f' g' : Bool} (ha : EvOk C B0 H0 ta δ (.tp xs, f, g)) (hb : EvOk C B0 H0 tb δ (.int i, f', g')) (h : atI xs i = some d) : EvOk C B0 H0 (tOp (rIx C.K) ta tb) δ (d, f, g) := fun B H σ S Q q =>
  ev_two ha hb S fun v u B' H' G' S' r1 r2 => by
    rw [rp_tp] at r1
    rw [rp_int] at r2
    subst r2
    obtain ⟨a, vs, rfl, h1, k1⟩ := r1
    obtain ⟨v, e, r⟩ := atI_rps k1 h
    exact .inr (.inl ⟨a, vs, i, v, rfl, rfl, sqt_mono (S'.toH _ _) h1, e, q v B' H' G' S' r⟩)
theorem ev_oix {j : Nat} {xs : List D} {i : Int} {d : D} {g f' g' : Bool} (hj : δ[j]? = some (.ow xs g)) (hb : EvOk C B0 H0 tb δ (.int i, f', g')) (h : atI xs i = some d) : EvOk C B0 H0 (tOp (rIx C.K) (tVar j) tb) δ (d, true, g) := fun B H σ S Q q => by
  obtain ⟨p, vs, e, h0, hb0, hh, r⟩ := S.own j xs g hj
  refine ⟨.ref p, e, ?_⟩
  refine hb B H σ S _ fun u B' H' G' S' r2 => ?_
  rw [rp_int] at r2
  subst r2
  obtain ⟨v, e, r⟩ := atI_rps (r.mono (G'.rg true g)) h
  exact .inl ⟨p, vs, i, v, rfl, rfl, SqL.of (G'.eh _ _ hh), e, q v B' H' G' S' r⟩
theorem rps_cut {H : Hp} {ds : List D} {vs : List V} (r : Rps C H ds vs) (lo hi : Option Int) : Rps C H (cutD ds lo hi) (cutV vs lo hi) := by
  unfold cutD cutV
  rw [r.len]
  exact (r.drop _).take _
theorem nw_sl {xs : List D} {lo hi : Option Int} {tl th : TO} {f g : Bool} (ha : EvOk C B0 H0 ta δ (.ls xs, f, g)) (hl : PoOk C B0 H0 tl δ lo) (hh : PoOk C B0 H0 th δ hi) : NwOk C B0 H0 (tSl (rSlL C.K) ta tl th) δ (cutD xs lo hi) f g := fun B H σ S Q q =>
  ha B H σ S _ fun v B1 H1 G1 S1 r1 => hl B1 H1 σ S1 _ fun B2 H2 G2 S2 => hh B2 H2 σ S2 _ fun B3 H3 G3 S3 => by
    rw [rp_ls] at r1
    obtain ⟨a, vs, rfl, h1, k1⟩ := r1
    refine ⟨a, vs, rfl, SqL.of ((G2.eh.trans G3.eh) _ _ (S1.toH _ _ _ _ h1)), nw_of S3 (rps_cut (k1.mono ((G2.trans G3).rg f g)) lo hi) ((G1.trans G2).trans G3) q⟩
theorem ev_tup {ta : TA} {ds : List D} {f g : Bool} (ha : ArOk C B0 H0 ta δ (ds, f, g)) (h : ds.length ≤ 1000) : EvOk C B0 H0 (tTup ta) δ (.tp ds, f, g) := fun B H σ S Q q =>
  ha B H σ S _ fun vs B1 H1 G1 S1 r1 => by
    refine ⟨sz_of (by rw [r1.len]; show ds.length ≤ _; omega), fun p hp => ?_⟩
    obtain ⟨B2, G2, S2, e⟩ := S1.alloc2 (o := .tup vs) hp f g
    refine q _ B2 _ (G1.trans G2) S2 ?_
    show Rp C (Rg B0 H0 B2 _ f g) (.tp ds) (.ref p)
    rw [rp_tp]
    exact ⟨p, vs, rfl, SqT.of e, r1.mono (G2.rg f g)⟩
theorem nw_lst {ta : TA} {ds : List D} {f g : Bool} (ha : ArOk C B0 H0 ta δ (ds, f, g)) (h : ds.length ≤ 1000) : NwOk C B0 H0 (tLst ta) δ ds f g := fun B H σ S Q q =>
  ha B H σ S _ fun vs B1 H1 G1 S1 r1 => ⟨sz_of (by rw [r1.len]; show ds.length ≤ _; omega), nw_of S1 r1 G1 q⟩
theorem ev_lenL {xs : List D} {f g : Bool} (ha : EvOk C B0 H0 ta δ (.ls xs, f, g)) : EvOk C B0 H0 (tCB (rLenS C.K) (tCons ta tNil)) δ (.int (xs.length : Int), true, true) := fun B H σ S Q q =>
  ha B H σ S _ fun v B1 H1 G1 S1 r1 => by
    rw [rp_ls] at r1
    obtain ⟨a, vs, rfl, h1, k1⟩ := r1
    refine ⟨a, vs, rfl, .inl (SqL.of (S1.toH _ _ _ _ h1)), ?_⟩
    rw [k1.len]
    exact q _ B1 H1 G1 S1 (rp_emp (emp_int _))
theorem ev_lenT {xs : List D} {f g : Bool} (ha : EvOk C B0 H0 ta δ (.tp xs, f, g)) : EvOk C B0 H0 (tCB (rLenS C.K) (tCons ta tNil)) δ (.int (xs.length : Int), true, true) := fun B H σ S Q q =>
  ha B H σ S _ fun v B1 H1 G1 S1 r1 => by
    rw [rp_tp] at r1
    obtain ⟨a, vs, rfl, h1, k1⟩ := r1
    refine ⟨a, vs, rfl, .inr (sqt_mono (S1.toH _ _) h1), ?_⟩
    rw [k1.len]
    exact q _ B1 H1 G1 S1 (rp_emp (emp_int _))
theorem nw_toL {xs : List D} {f g : Bool} (ha : EvOk C B0 H0 ta δ (.ls xs, f, g)) : NwOk C B0 H0 (tCB (rListS C.K) (tCons ta tNil)) δ xs f g := fun B H σ S Q q =>
  ha B H σ S _ fun v B1 H1 G1 S1 r1 => by
    rw [rp_ls] at r1
    obtain ⟨a, vs, rfl, h1, k1⟩ := r1
    exact ⟨a, vs, rfl, .inl (SqL.of (S1.toH _ _ _ _ h1)), nw_of S1 k1 G1 q⟩
theorem nw_toLT {xs : List D} {f g : Bool} (ha : EvOk C B0 H0 ta δ (.tp xs, f, g)) : NwOk C B0 H0 (tCB (rListS C.K) (tCons ta tNil)) δ xs f g := fun B H σ S Q q =>
  ha B H σ S _ fun v B1 H1 G1 S1 r1 => by
    rw [rp_tp] at r1
    obtain ⟨a, vs, rfl, h1, k1⟩ := r1
    exact ⟨a, vs, rfl, .inr (sqt_mono (S1.toH _ _) h1), nw_of S1 k1 G1 q⟩
theorem ints_of {H : Hp} : ∀ {ds : List D} {ns : List Int} {vs : List V}, intsOf ds = some ns → Rps C H ds vs → vs = ns.map V.int
  | [], ns, vs, h, r => by
    simp only [intsOf, Option.some.injEq] at h
    subst h
    simp only [Rps] at r
    exact r
  | d :: ds, ns, vs, h, r => by
    cases d with
    | int i =>
      simp only [intsOf] at h
      split at h
      · rename_i ms e
        cases h
        simp only [Rps] at r
        obtain ⟨v, us, rfl, r1, r2⟩ := r
        rw [rp_int] at r1
        subst r1
        rw [ints_of e r2]
        rfl
      · cases h
    | _ => simp [intsOf] at h
theorem bls_of {H : Hp} : ∀ {ds : List D} {ns : List Bool} {vs : List V}, blsOf ds = some ns → Rps C H ds vs → vs = ns.map V.bl
  | [], ns, vs, h, r => by
    simp only [blsOf, Option.some.injEq] at h
    subst h
    simp only [Rps] at r
    exact r
  | d :: ds, ns, vs, h, r => by
    cases d with
    | bl i =>
      simp only [blsOf] at h
      split at h
      · rename_i ms e
        cases h
        simp only [Rps] at r
        obtain ⟨v, us, rfl, r1, r2⟩ := r
        rw [rp_bl] at r1
        subst r1
        rw [bls_of e r2]
        rfl
      · cases h
    | _ => simp [blsOf] at h
theorem rps_ints {H : Hp} : ∀ ns : List Int, Rps C H (ns.map D.int) (ns.map V.int)
  | [] => by simp [Rps]
  | n :: ns => .cons (by rw [rp_int]) (rps_ints ns)
/-- a call of a list of truths, of ints -/
theorem ev_bls {r : List V → Hp → VK → Prop} {xs : List D} {bs : List Bool} {f g : Bool} {z : D} {zv : V} (ha : EvOk C B0 H0 ta δ (.ls xs, f, g)) (h : blsOf xs = some bs) (hz : Rp C Emp z zv) (k : ∀ a H (Q : VK), SqL C.K H a (bs.map V.bl) → Q zv H → r [.ref a] H Q) :
    EvOk C B0 H0 (tCB r (tCons ta tNil)) δ (z, true, true) := fun B H σ S Q q =>
  ha B H σ S _ fun v B1 H1 G1 S1 r1 => by
    rw [rp_ls] at r1
    obtain ⟨a, vs, rfl, h1, k1⟩ := r1
    have e := bls_of h k1
    subst e
    exact k a H1 Q (SqL.of (S1.toH _ _ _ _ h1)) (q _ B1 H1 G1 S1 (rp_emp hz))
theorem ev_ints {r : List V → Hp → VK → Prop} {xs : List D} {bs : List Int} {f g : Bool} {z : D} {zv : V} (ha : EvOk C B0 H0 ta δ (.ls xs, f, g)) (h : intsOf xs = some bs) (hz : Rp C Emp z zv) (k : ∀ a H (Q : VK), SqL C.K H a (bs.map V.int) → Q zv H → r [.ref a] H Q) :
    EvOk C B0 H0 (tCB r (tCons ta tNil)) δ (z, true, true) := fun B H σ S Q q =>
  ha B H σ S _ fun v B1 H1 G1 S1 r1 => by
    rw [rp_ls] at r1
    obtain ⟨a, vs, rfl, h1, k1⟩ := r1
    have e := ints_of h k1
    subst e
    exact k a H1 Q (SqL.of (S1.toH _ _ _ _ h1)) (q _ B1 H1 G1 S1 (rp_emp hz))
theorem ev_cnt {xs : List D} {ns : List Int} {n : Int} {f g f' g' : Bool} (ha : EvOk C B0 H0 ta δ (.ls xs, f, g)) (hb : EvOk C B0 H0 tb δ (.int n, f', g')) (h : intsOf xs = some ns) : EvOk C B0 H0 (tBM C.K "list" (rCntI C.K) ta (tCons tb tNil)) δ (.int ((ns.count n : Nat) : Int), true, true) := fun B H σ S Q q =>
  ha B H σ S _ fun v B1 H1 G1 S1 r1 => by
    rw [rp_ls] at r1
    obtain ⟨a, vs, rfl, h1, k1⟩ := r1
    have e := ints_of h k1
    subst e
    have h2 := S1.toH _ _ _ _ h1
    refine ⟨.inl ⟨rfl, _, SqL.of h2⟩, ?_⟩
    refine hb B1 H1 σ S1 _ fun u B2 H2 G2 S2 r2 => ?_
    rw [rp_int] at r2
    subst r2
    exact ⟨a, ns, n, rfl, rfl, SqL.of (G2.eh _ _ h2), q _ B2 H2 (G1.trans G2) S2 (rp_emp (emp_int _))⟩
theorem ev_mm {r : List V → Hp → VK → Prop} {i j z : Int} {f g f' g' : Bool} (ha : EvOk C B0 H0 ta δ (.int i, f, g)) (hb : EvOk C B0 H0 tb δ (.int j, f', g')) (k : ∀ H (Q : VK), Q (.int z) H → r [.int i, .int j] H Q) : EvOk C B0 H0 (tCB r (tCons ta (tCons tb tNil))) δ (.int z, true, true) := fun B H σ S Q q =>
  ha B H σ S _ fun v B1 H1 G1 S1 r1 => hb B1 H1 σ S1 _ fun u B2 H2 G2 S2 r2 => by
    rw [rp_int] at r1 r2
    subst r1 r2
    exact k H2 Q (q _ B2 H2 (G1.trans G2) S2 (rp_emp (emp_int _)))
/-! isinstance -/
theorem ty_sqt {K : PySem.W.Frag} {H : Hp} {a : Addr} {xs : List V} (h : SqT K H a xs) : TyX K H (.ref a) (.type "tuple") := by
  rcases h with (h | ⟨o, h⟩) | ⟨o, its, n, h, hc, _⟩
  · exact .base (.tup h)
  · exact .fTuple h
  · exact .kTuple h hc
theorem kit_all (K : PySem.W.Frag) : ∀ t : Ty5,
    PySem.W.kitOne K (.type "NoneType") (.type t.nm) = some false ∧ PySem.W.kitOne K (.type "bool") (.type t.nm) = some (match t with | .int => true | .bool => true | _ => false) ∧
    PySem.W.kitOne K (.type "int") (.type t.nm) = some (match t with | .int => true | _ => false) ∧ PySem.W.kitOne K (.type "str") (.type t.nm) = some (match t with | .str => true | _ => false) ∧
    PySem.W.kitOne K (.type "list") (.type t.nm) = some (match t with | .list => true | _ => false) ∧ PySem.W.kitOne K (.type "tuple") (.type t.nm) = some (match t with | .tuple => true | _ => false)
  | .int => ⟨kit_ty (by decide +kernel), kit_ty (by decide +kernel), kit_ty (by decide +kernel), kit_ty (by decide +kernel), kit_ty (by decide +kernel), kit_ty (by decide +kernel)⟩
  | .bool => ⟨kit_ty (by decide +kernel), kit_ty (by decide +kernel), kit_ty (by decide +kernel), kit_ty (by decide +kernel), kit_ty (by decide +kernel), kit_ty (by decide +kernel)⟩
  | .str => ⟨kit_ty (by decide +kernel), kit_ty (by decide +kernel), kit_ty (by decide +kernel), kit_ty (by decide +kernel), kit_ty (by decide +kernel), kit_ty (by decide +kernel)⟩
  | .list => ⟨kit_ty (by decide +kernel), kit_ty (by decide +kernel), kit_ty (by decide +kernel), kit_ty (by decide +kernel), kit_ty (by decide +kernel), kit_ty (by decide +kernel)⟩
  | .tuple => ⟨kit_ty (by decide +kernel), kit_ty (by decide +kernel), kit_ty (by decide +kernel), kit_ty (by decide +kernel), kit_ty (by decide +kernel), kit_ty (by decide +kernel)⟩
theorem isT_ok {t : Ty5} {d : D} {b : Bool} {v : V} {H : Hp} (h : isT t d = some b) (r : Rp C H d v) : ∃ tv, TyX C.K H v tv ∧ PySem.W.kitOne C.K tv (.type t.nm) = some b := by
  obtain ⟨k1, k2, k3, k4, k5, k6⟩ := kit_all C.K t
  cases d with
  | non => rw [rp_non] at r; subst r; exact ⟨_, .base .non, by rw [k1, ← h]; cases t <;> rfl⟩
  | bl x => rw [rp_bl] at r; subst r; exact ⟨_, .base (.bl x), by rw [k2, ← h]; cases t <;> rfl⟩
  | int x => rw [rp_int] at r; subst r; exact ⟨_, .base (.int x), by rw [k3, ← h]; cases t <;> rfl⟩
  | str x => rw [rp_str] at r; subst r; exact ⟨_, .base (.str x), by rw [k4, ← h]; cases t <;> rfl⟩
  | ls x => rw [rp_ls] at r; obtain ⟨a, vs, rfl, h1, _⟩ := r; exact ⟨_, .base (.lst h1), by rw [k5, ← h]; cases t <;> rfl⟩
  | tp x => rw [rp_tp] at r; obtain ⟨a, vs, rfl, h1, _⟩ := r; exact ⟨_, ty_sqt h1, by rw [k6, ← h]; cases t <;> rfl⟩
  | ob c x => cases t <;> simp [isT] at h
  | dc ks x =>
    rw [rp_dc] at r
    obtain ⟨a, vs, rfl, h1, _⟩ := r
    refine ⟨_, .base (.dK h1), ?_⟩
    have hb : b = false := by cases t <;> simpa [isT] using h.symm
    subst hb
    cases t <;> exact kit_ty (by decide +kernel)
theorem ev_isI {t : Ty5} {d : D} {b f g : Bool} (ha : EvOk C B0 H0 ta δ (d, f, g)) (h : isT t d = some b) : EvOk C B0 H0 (tCB (rIsi C.K) (tCons ta (tCons (tC (.ty t.nm)) tNil))) δ (.bl b, true, true) := fun B H σ S Q q =>
  ha B H σ S _ fun v B1 H1 G1 S1 r1 => by
    obtain ⟨tv, h1, h2⟩ := isT_ok h (r1.mono (S1.toH _ _))
    exact ⟨v, .ty t.nm, tv, .type t.nm, b, rfl, .ty _, h1, h2, q _ B1 H1 G1 S1 (rp_emp (emp_bl _))⟩
/-! sorted(set(..)) -/
theorem insU_mem (x : Int) : ∀ (l : List Int) (k : Int), k ∈ insU x l ↔ k = x ∨ k ∈ l
  | [], k => by simp [insU]
  | y :: r, k => by
    unfold insU
    split
    · simp
    · split
      · rename_i e
        subst e
        simp
      · simp only [List.mem_cons, insU_mem x r k]
        constructor
        · rintro (h | h | h)
          · exact .inr (.inl h)
          · exact .inl h
          · exact .inr (.inr h)
        · rintro (h | h | h)
          · exact .inr (.inl h)
          · exact .inl h
          · exact .inr (.inr h)
theorem insU_lt (x : Int) : ∀ {l : List Int}, l.Pairwise (· < ·) → (insU x l).Pairwise (· < ·)
  | [], _ => by simp [insU]
  | y :: r, h => by
    obtain ⟨h1, h2⟩ := List.pairwise_cons.mp h
    unfold insU
    split
    · rename_i e
      refine List.pairwise_cons.mpr ⟨fun z hz => ?_, h⟩
      rcases List.mem_cons.mp hz with rfl | hz
      · exact e
      · exact Int.lt_trans e (h1 z hz)
    · split
      · exact h
      · refine List.pairwise_cons.mpr ⟨fun z hz => ?_, insU_lt x h2⟩
        rcases (insU_mem x r z).mp hz with rfl | hz
        · omega
        · exact h1 z hz
theorem sdd_mem : ∀ (l : List Int) (k : Int), k ∈ sdd l ↔ k ∈ l
  | [], k => by simp [sdd]
  | x :: l, k => by
    show k ∈ insU x (sdd l) ↔ _
    rw [insU_mem, sdd_mem l k]
    simp
theorem sdd_lt : ∀ l : List Int, (sdd l).Pairwise (· < ·)
  | [] => List.Pairwise.nil
  | x :: l => insU_lt x (sdd_lt l)
theorem lt_same : ∀ {a b : List Int}, a.Pairwise (· < ·) → b.Pairwise (· < ·) → (∀ k, k ∈ a ↔ k ∈ b) → a = b
  | [], [], _, _, _ => rfl
  | [], y :: b, _, _, h => absurd ((h y).mpr (by simp)) (by simp)
  | x :: a, [], _, _, h => absurd ((h x).mp (by simp)) (by simp)
  | x :: a, y :: b, ha, hb, h => by
    obtain ⟨a1, a2⟩ := List.pairwise_cons.mp ha
    obtain ⟨b1, b2⟩ := List.pairwise_cons.mp hb
    have e : x = y := by
      have p := (h x).mp (by simp)
      have q := (h y).mpr (by simp)
      rcases List.mem_cons.mp p with p | p
      · exact p
      · rcases List.mem_cons.mp q with q | q
        · exact q.symm
        · have := b1 x p
          have := a1 y q
          omega
    subst e
    congr 1
    refine lt_same a2 b2 fun k => ⟨fun hk => ?_, fun hk => ?_⟩
    · rcases List.mem_cons.mp ((h k).mp (List.mem_cons_of_mem _ hk)) with e | e
      · have := a1 k hk
        omega
      · exact e
    · rcases List.mem_cons.mp ((h k).mpr (List.mem_cons_of_mem _ hk)) with e | e
      · have := b1 k hk
        omega
      · exact e
theorem nw_srt {xs : List D} {ns : List Int} {f g : Bool} (ha : EvOk C B0 H0 ta δ (.ls xs, f, g)) (h : intsOf xs = some ns) (hn : ns.length < 60) : NwOk C B0 H0 (tCB (rSortedSet C.w) (tCons (tCB (rSetOfI C.w C.K) (tCons ta tNil)) tNil)) δ ((sdd ns).map D.int) true true := fun B H σ S Q q =>
  ha B H σ S _ fun v B1 H1 G1 S1 r1 => by
    rw [rp_ls] at r1
    obtain ⟨a, vs, rfl, h1, k1⟩ := r1
    have e := ints_of h k1
    subst e
    refine ⟨a, ns, rfl, SqL.of (S1.toH _ _ _ _ h1), hn, fun s Sm n hs hS le => ?_⟩
    have S2 := S1.cell (o := SetO C.w s Sm n) hs
    refine ⟨s, Sm, n, rfl, upd_same, by omega, fun ms p lt mem _ hp => ?_⟩
    have e : ms = sdd ns := lt_same lt (sdd_lt ns) fun k => by
      rw [mem k, hS k, sdd_mem, decide_eq_true_eq]
    subst e
    exact nw_of S2 (rps_ints (sdd ns)) ⟨G1.eb, G1.eh.trans (same_upd hs), G1.nw⟩ q p hp
/-! arguments -/
theorem rps_rng (n : Nat) {H : Hp} : ∀ (f : Nat → Int) (l : List Nat), Rps C H (l.map fun k => D.int (f k)) (l.map fun k => V.int (f k))
  | f, [] => Rps.nil
  | f, k :: l => .cons (by rw [rp_int]) (rps_rng n f l)
theorem nw_toR {n : Int} {f g : Bool} (ha : EvOk C B0 H0 ta δ (.int n, f, g)) (h : -1000000 ≤ n ∧ n ≤ 1000000) : NwOk C B0 H0 (tLstRg (tRg1 ta)) δ (rngD 0 n.toNat) true true := fun B H σ S Q q =>
  ha B H σ S _ fun v B1 H1 G1 S1 r1 => by
    rw [rp_int] at r1
    subst r1
    refine ⟨n, rfl, ⟨by omega, by omega, by omega, by omega, by omega⟩, nw_of S1 ?_ G1 q⟩
    unfold rngD rgV
    rw [Int.sub_zero]
    exact rps_rng 0 (fun k => 0 + (k : Int)) _
theorem countP_pys (y : D) : ∀ xs : List D, ((D.pys xs).countP fun z => PyData.eqv z y.py) = xs.countP fun z => z.eqv y
  | [] => rfl
  | x :: xs => by
    simp only [D.pys, List.countP_cons, countP_pys y xs, D.eqv]
theorem ev_cntD {xs : List D} {y : D} {f g f' g' : Bool} (ha : EvOk C B0 H0 ta δ (.ls xs, f, g)) (hb : EvOk C B0 H0 tb δ (y, f', g')) (h : ((D.ls xs).eqok && y.eqok) = true) : EvOk C B0 H0 (tBM C.K "list" (rCntD C.K) ta (tCons tb tNil)) δ (.int ((xs.countP fun z => z.eqv y : Nat) : Int), true, true) := fun B H σ S Q q =>
  ha B H σ S _ fun v B1 H1 G1 S1 r1 => by
    have r1' := r1
    rw [rp_ls] at r1'
    obtain ⟨a, vs, rfl, h1, k1⟩ := r1'
    refine ⟨.inl ⟨rfl, vs, SqL.of (S1.toH _ _ _ _ h1)⟩, ?_⟩
    refine hb B1 H1 σ S1 _ fun u B2 H2 G2 S2 r2 => ?_
    rw [Bool.and_eq_true] at h
    obtain ⟨e1, e2⟩ := h
    simp only [D.eqok, Bool.and_eq_true] at e1 e2
    have d1 := (r1.mono ((S1.toH f g).trans G2.eh)).dp e1.1
    refine ⟨a, u, y.py, D.pys xs, rfl, rfl, d1, (r2.mono (S2.toH f' g')).dp e2.1, e1.2, e2.2, ?_⟩
    rw [countP_pys]
    exact q _ B2 H2 (G1.trans G2) S2 (rp_emp (emp_int _))
theorem ev_tupL {xs : List D} {f g : Bool} (ha : EvOk C B0 H0 ta δ (.ls xs, f, g)) : EvOk C B0 H0 (tCB (rTupS C.K) (tCons ta tNil)) δ (.tp xs, f || flats xs, g || flats xs) := fun B H σ S Q q =>
  ha B H σ S _ fun v B1 H1 G1 S1 r1 => by
    rw [rp_ls] at r1
    obtain ⟨a, vs, rfl, h1, k1⟩ := r1
    refine ⟨a, vs, rfl, .inl ⟨SqL.of (S1.toH _ _ _ _ h1), fun l hl => ?_⟩⟩
    obtain ⟨B2, G2, S2, e2⟩ := S1.alloc2 (o := .tup vs) hl (f || flats xs) (g || flats xs)
    refine q _ B2 _ (G1.trans G2) S2 ?_
    show Rp C (Rg B0 H0 B2 (upd H1 l (.tup vs)) (f || flats xs) (g || flats xs)) (.tp xs) (.ref l)
    rw [rp_tp]
    refine ⟨l, vs, rfl, SqT.of e2, ?_⟩
    have k2 := k1.mono (G2.rg f g)
    cases e : flats xs with
    | true => exact rps_flat e k2
    | false => rw [Bool.or_false, Bool.or_false]; exact k2
theorem tups_of {H : Hp} : ∀ {ds : List D} {nss : List (List Int)} {vs : List V}, tupsOf ds = some nss → Rps C H ds vs → ∃ ks : List (Addr × List Int), vs = ks.map (fun p => V.ref p.1) ∧ ks.map (·.2) = nss ∧ ∀ p ∈ ks, SqT C.K H p.1 (p.2.map V.int)
  | [], nss, vs, h, r => by
    simp only [tupsOf, Option.some.injEq] at h
    simp only [Rps] at r
    subst h r
    exact ⟨[], rfl, rfl, by simp⟩
  | .tp xs :: ds, nss, vs, h, r => by
    simp only [tupsOf] at h
    split at h
    · rename_i ns e1
      split at h
      · rename_i nss' e2
        cases h
        simp only [Rps] at r
        obtain ⟨v, us, rfl, r1, r2⟩ := r
        rw [rp_tp] at r1
        obtain ⟨a, ws, rfl, h1, k1⟩ := r1
        obtain ⟨ks, e3, e4, e5⟩ := tups_of e2 r2
        have e6 := ints_of e1 k1
        refine ⟨(a, ns) :: ks, by simp [e3], by simp [e4], fun p hp => ?_⟩
        rcases List.mem_cons.mp hp with rfl | hp
        · rw [← e6]; exact h1
        · exact e5 p hp
      · cases h
    · cases h
  | .non :: _, _, _, h, _ => by simp [tupsOf] at h
  | .bl _ :: _, _, _, h, _ => by simp [tupsOf] at h
  | .int _ :: _, _, _, h, _ => by simp [tupsOf] at h
  | .str _ :: _, _, _, h, _ => by simp [tupsOf] at h
  | .ls _ :: _, _, _, h, _ => by simp [tupsOf] at h
  | .ob _ _ :: _, _, _, h, _ => by simp [tupsOf] at h
theorem ddp_mem : ∀ {l : List (List Int)} {x : List Int}, x ∈ ddp l ↔ x ∈ l
  | [], x => by simp [ddp]
  | y :: l, x => by
    unfold ddp
    split
    · rename_i h
      rw [ddp_mem, List.mem_cons]
      constructor
      · exact .inr
      · rintro (rfl | h')
        · exact h
        · exact h'
    · rw [List.mem_cons, List.mem_cons, ddp_mem]
theorem ddp_nodup : ∀ l : List (List Int), (ddp l).Nodup
  | [] => by simp [ddp]
  | y :: l => by
    unfold ddp
    split
    · exact ddp_nodup l
    · rename_i h
      rw [List.nodup_cons, ddp_mem]
      exact ⟨h, ddp_nodup l⟩
theorem nodup_le : ∀ {l m : List (List Int)}, l.Nodup → (∀ x ∈ l, x ∈ m) → l.length ≤ m.length
  | [], m, _, _ => Nat.zero_le _
  | x :: l, m, nd, h => by
    rw [List.nodup_cons] at nd
    have hx := h x (by simp)
    have := nodup_le (l := l) (m := m.erase x) nd.2 fun y hy => (List.mem_erase_of_ne (show y ≠ x from fun e => nd.1 (by rw [← e]; exact hy))).mpr (h y (by simp [hy]))
    rw [List.length_erase_of_mem hx] at this
    have : 0 < m.length := List.length_pos_of_mem hx
    simp only [List.length_cons]
    omega
theorem ev_lenSet {xs : List D} {nss : List (List Int)} {f g : Bool} (ha : EvOk C B0 H0 ta δ (.ls xs, f, g)) (h : tupsOf xs = some nss) (hn : nss.length < 64) : EvOk C B0 H0 (tLenSetT C.K ta) δ (.int ((ddp nss).length : Int), true, true) := fun B H σ S Q q =>
  ha B H σ S _ fun v B1 H1 G1 S1 r1 => by
    rw [rp_ls] at r1
    obtain ⟨a, vs, rfl, h1, k1⟩ := r1
    obtain ⟨ks, rfl, e2, e3⟩ := tups_of h k1
    refine ⟨a, ks, rfl, SqL.of (S1.toH _ _ _ _ h1), fun p hp => sqt_mono (S1.toH _ _) (e3 p hp), ?_, fun L nd mem => ?_⟩
    · rw [← e2, List.length_map] at hn
      exact hn
    · have : L.length = (ddp nss).length := by
        refine Nat.le_antisymm (nodup_le nd fun x hx => ?_) (nodup_le (ddp_nodup _) fun x hx => ?_)
        · rw [ddp_mem, ← e2]; exact (mem x).mp hx
        · rw [ddp_mem, ← e2] at hx; exact (mem x).mpr hx
      rw [this]
      exact q _ B1 H1 G1 S1 (rp_emp (emp_int _))
theorem ar_nil : ArOk C B0 H0 tNil δ ([], true, true) := fun B H σ S Q q => q [] B H (Gro.refl _ _) S Rps.nil
theorem ar_cons {ta : TE} {tr : TA} {d : D} {ds : List D} {f g f' g' : Bool} (ha : EvOk C B0 H0 ta δ (d, f, g)) (hr : ArOk C B0 H0 tr δ (ds, f', g')) : ArOk C B0 H0 (tCons ta tr) δ (d :: ds, f && f', g && g') := fun B H σ S Q q =>
  ha B H σ S _ fun v B1 H1 G1 S1 r1 => hr B1 H1 σ S1 _ fun vs B2 H2 G2 S2 r2 =>
    q _ B2 H2 (G1.trans G2) S2 (.cons (r1.mono (Same.trans (G2.rg f g) (S2.weakL f g f' g'))) (r2.mono (S2.weakR f' g' f g)))
theorem po_none : PoOk C B0 H0 tNoPart δ none := fun B H σ S Q q => q B H (Gro.refl _ _) S
theorem po_some {i : Int} {f g : Bool} (ha : EvOk C B0 H0 ta δ (.int i, f, g)) : PoOk C B0 H0 (tPart ta) δ (some i) := fun B H σ S Q q =>
  ha B H σ S _ fun v B1 H1 G1 S1 r1 => by
    rw [rp_int] at r1
    exact ⟨i, r1, q B1 H1 G1 S1⟩
/-! tests -/
theorem tt_B {b f g : Bool} (ha : EvOk C B0 H0 ta δ (.bl b, f, g)) : TtOk C B0 H0 (tB ta) δ b := fun B H σ S Q q =>
  ha B H σ S _ fun v B1 H1 G1 S1 r1 => by
    rw [rp_bl] at r1
    exact ⟨b, r1, q B1 H1 G1 S1⟩
theorem tt_not {t : TT} {b : Bool} (h : TtOk C B0 H0 t δ b) : TtOk C B0 H0 (tNot t) δ (!b) := fun B H σ S Q q => h B H σ S _ q
theorem tt_and1 {t u : TT} {b : Bool} (h : TtOk C B0 H0 t δ true) (k : TtOk C B0 H0 u δ b) : TtOk C B0 H0 (tAnd t u) δ b := fun B H σ S Q q =>
  h B H σ S _ fun B1 H1 G1 S1 => by
    rw [if_pos rfl]
    exact k B1 H1 σ S1 _ fun B2 H2 G2 S2 => q B2 H2 (G1.trans G2) S2
theorem tt_and0 {t u : TT} (h : TtOk C B0 H0 t δ false) : TtOk C B0 H0 (tAnd t u) δ false := fun B H σ S Q q =>
  h B H σ S _ fun B1 H1 G1 S1 => by
    rw [if_neg Bool.false_ne_true]
    exact q B1 H1 G1 S1
theorem tt_or0 {t u : TT} {b : Bool} (h : TtOk C B0 H0 t δ false) (k : TtOk C B0 H0 u δ b) : TtOk C B0 H0 (tOr t u) δ b := fun B H σ S Q q =>
  h B H σ S _ fun B1 H1 G1 S1 => by
    rw [if_neg Bool.false_ne_true]
    exact k B1 H1 σ S1 _ fun B2 H2 G2 S2 => q B2 H2 (G1.trans G2) S2
theorem tt_or1 {t u : TT} (h : TtOk C B0 H0 t δ true) : TtOk C B0 H0 (tOr t u) δ true := fun B H σ S Q q =>
  h B H σ S _ fun B1 H1 G1 S1 => by
    rw [if_pos rfl]
    exact q B1 H1 G1 S1
theorem tt_yes : TtOk C B0 H0 tYes δ true := fun B H σ S Q q => q B H (Gro.refl _ _) S
/-! a call -/
theorem call_core {fr : Bool} {d : D} {f g : Bool} {B H B1 H1 H2 : Hp} {σ : St} {v : V} (G1 : Gro B H B1 H1) (S1 : Stt C B0 H0 B1 H1 σ δ) (e : Same H1 H2) (r : Rp C (Rsd (if fr = true then Emp else Rg B0 H0 B1 H1 f g) H1 H2) d v) {Q : VK}
    (q : ∀ v B' H', Gro B H B' H' → Stt C B0 H0 B' H' σ δ → Rp C (Rg B0 H0 B' H' (fr || f || d.flat) (fr || d.flat)) d v → Q v H') : Q v H2 := by
    -- the base behind the call: with all that is new
    have G2 : Gro B1 H1 (Rsd B1 H1 H2) H2 := by
      refine ⟨fun p o h => ?_, e, fun p o h => ?_⟩
      · unfold Rsd
        rw [h]
        exact e _ _ (S1.sub _ _ h)
      · unfold Rsd at h
        cases hb : B1 p with
        | some x =>
          rw [hb] at h
          have h : H2 p = some o := h
          have := e _ _ (S1.sub _ _ hb)
          rw [h] at this
          exact .inl this.symm
        | none =>
          cases hh : H1 p with
          | none => exact .inr rfl
          | some x => rw [hb, hh] at h; cases h
    have S2 : Stt C B0 H0 (Rsd B1 H1 H2) H2 σ δ := S1.grow G2.eb G2.eh rsd_sub G2.nw
    have n0 : ∀ p, H1 p = none → H0 p = none := fun p h => S1.ex0.free h
    by_cases fl : d.flat = true
    · exact q v _ H2 (G1.trans G2) S2 (r.flat fl)
    · have fl : d.flat = false := Bool.eq_false_iff.mpr fl
      rw [fl, Bool.or_false, Bool.or_false] at q
      cases hf : fr with
      | true =>
        rw [hf, if_pos rfl] at r
        rw [hf] at q
        refine q v _ H2 (G1.trans G2) S2 (r.mono fun p o h => ?_)
        show (match H0 p with | none => Rsd B1 H1 H2 p | some _ => none) = some o
        unfold Rsd Emp at h
        cases hh : H1 p with
        | some x => rw [hh] at h; cases h
        | none =>
          rw [hh] at h
          rw [n0 p hh]
          show Rsd B1 H1 H2 p = some o
          unfold Rsd
          rw [hh]
          cases B1 p <;> exact h
      | false =>
        rw [hf, if_neg Bool.false_ne_true] at r
        rw [hf] at q
        cases f with
        | true =>
          refine q v _ H2 (G1.trans G2) S2 (r.mono fun p o h => ?_)
          show Rsd B1 H1 H2 p = some o
          have w : ∀ p o, Rg B0 H0 B1 H1 true g p = some o → B1 p = some o := S1.weak true g true false id (fun h => by cases h)
          unfold Rsd at h ⊢
          cases hh : H1 p with
          | none => rw [hh] at h; cases B1 p <;> cases hx : Rg B0 H0 B1 H1 true g p <;> rw [hx] at h <;> exact h
          | some x =>
            rw [hh] at h
            cases hx : Rg B0 H0 B1 H1 true g p with
            | none => rw [hx] at h; cases h
            | some y => rw [hx] at h; rw [w p y hx]; exact h
        | false =>
          refine q v _ H2 (G1.trans G2) S2 (r.mono fun p o h => ?_)
          show Rsd B0 H0 H2 p = some o
          have w : ∀ p o, Rg B0 H0 B1 H1 false g p = some o → Rsd B0 H0 H1 p = some o := S1.weak false g false false id (fun h => by cases h)
          have h2 : H2 p = some o := rsd_sub p o h
          unfold Rsd at h
          cases hh : H1 p with
          | none =>
            unfold Rsd
            rw [n0 p hh]
            cases B0 p <;> exact h2
          | some x =>
            rw [hh] at h
            cases hx : Rg B0 H0 B1 H1 false g p with
            | none => rw [hx] at h; cases h
            | some y =>
              have z := w p y hx
              unfold Rsd at z ⊢
              split at z
              · cases z
              · exact h2
theorem ev_call {F : Fd} {ta : TA} {ds : List D} {d : D} {f g : Bool} {E : XK} (ha : ArOk C B0 H0 ta δ (ds, f, g)) (hl : ds.length = F.ar) (h : F.run ds = some d) : EvOk C B0 H0 (tCall (spOf C F) [] E ta) δ (d, F.fr || f || d.flat, F.fr || d.flat) := fun B H σ S Q q =>
  ha B H σ S _ fun vs B1 H1 G1 S1 r1 => by
    rw [List.append_nil]
    exact ⟨Rg B0 H0 B1 H1 f g, ds, d, S1.toH f g, r1, hl, h, fun v H2 e r _ => call_core G1 S1 e r q⟩
end
end G

namespace G
open PySem L2
section
variable {C : Cf} {B0 H0 : Hp} {δ : List Sl} {ta tb tc te : TE}
theorem Rps.back {H : Hp} : ∀ {ds : List D} {vs : List V} {i : Nat} {v : V}, Rps C H ds vs → vs[i]? = some v → ∃ d, ds[i]? = some d ∧ Rp C H d v := fun {ds vs i v} r h => by
  have hi : i < vs.length := (List.getElem?_eq_some_iff.mp h).1
  have hd : i < ds.length := by rw [← r.len]; exact hi
  obtain ⟨w, e, q⟩ := r.get (i := i) (List.getElem?_eq_getElem hd)
  rw [h] at e
  cases e
  exact ⟨_, List.getElem?_eq_getElem hd, q⟩
theorem rg_up {B H B' H' : Hp} (e : Same B B') (g : Bool) : Same (Rg B0 H0 B H true g) (Rg B0 H0 B' H' true g) := by
  rw [rg_true g (H := H') (H' := H)]
  exact rg_mono e (Same.refl _) true g
theorem it_L {ds : List D} {g : Bool} (ha : EvOk C B0 H0 ta δ (.ls ds, true, g)) : ItOk C B0 H0 (iList C.K ta) δ (ds, g) := fun B H σ S R q =>
  ha B H σ S _ fun v B1 H1 G1 S1 r1 => by
    rw [rp_ls] at r1
    obtain ⟨a, vs, rfl, h1, k1⟩ := r1
    have hb : B1 a = some (.lst vs) := S1.weak true g true false id (fun h => by cases h) _ _ h1
    refine ⟨a, rfl, ⟨vs, SqL.of (S1.sub _ _ hb)⟩, q _ B1 H1 G1 S1 ⟨fun H => SqL C.K H a vs, YAt vs, ?_, fun B' H' σ' δ' e S' => ?_, fun i H' x H2 B' σ' δ' hi e S' y => ?_⟩⟩
    · rw [show ds.length = vs.length from k1.len.symm]
      exact walk_list
    · exact SqL.of (S'.sub _ _ (e _ _ hb))
    · obtain ⟨rfl, y⟩ := y
      obtain ⟨d, h2, r⟩ := k1.back y
      exact ⟨d, B', h2, Gro.refl _ _, S', r.mono (rg_up e g)⟩
theorem it_T {ds : List D} {g : Bool} (ha : EvOk C B0 H0 ta δ (.tp ds, true, g)) : ItOk C B0 H0 (iTup C.K ta) δ (ds, g) := fun B H σ S R q =>
  ha B H σ S _ fun v B1 H1 G1 S1 r1 => by
    rw [rp_tp] at r1
    obtain ⟨a, vs, rfl, h1, k1⟩ := r1
    have hb : SqT C.K B1 a vs := sqt_mono (S1.weak true g true false id (fun h => by cases h)) h1
    refine ⟨a, rfl, ⟨vs, sqt_mono S1.sub hb⟩, q _ B1 H1 G1 S1 ⟨fun H => SqT C.K H a vs, YAt vs, ?_, fun B' H' σ' δ' e S' => ?_, fun i H' x H2 B' σ' δ' hi e S' y => ?_⟩⟩
    · rw [show ds.length = vs.length from k1.len.symm]
      exact walk_tup
    · exact sqt_mono S'.sub (sqt_mono e hb)
    · obtain ⟨rfl, y⟩ := y
      obtain ⟨d, h2, r⟩ := k1.back y
      exact ⟨d, B', h2, Gro.refl _ _, S', r.mono (rg_up e g)⟩
theorem rngD_len (lo : Int) (n : Nat) : (rngD lo n).length = n := by simp [rngD]
theorem rngD_get {lo : Int} {n i : Nat} (h : i < n) : (rngD lo n)[i]? = some (.int (lo + (i : Int))) := by
  unfold rngD
  rw [List.getElem?_map, List.getElem?_range h]
  rfl
theorem wk_rng (lo : Int) (n : Nat) (B1 : Hp) : WkOk C B0 H0 (Itr lo n) (rngD lo n) true B1 := by
  refine ⟨fun _ => True, YFn fun i => .int (lo + i), ?_, fun _ _ _ _ _ _ => trivial, fun i H' x H2 B' σ' δ' hi e S' y => ?_⟩
  · rw [rngD_len]
    exact walk_range
  · obtain ⟨rfl, rfl⟩ := y
    rw [rngD_len] at hi
    exact ⟨_, B', rngD_get hi, Gro.refl _ _, S', by rw [rp_int]⟩
theorem it_R {n : Int} {f g : Bool} (ha : EvOk C B0 H0 ta δ (.int n, f, g)) (h : -1000000 ≤ n ∧ n ≤ 1000000) : ItOk C B0 H0 (iRng1 (tCons ta tNil)) δ (rngD 0 n.toNat, true) := fun B H σ S R q =>
  ha B H σ S _ fun v B1 H1 G1 S1 r1 => by
    rw [rp_int] at r1
    subst r1
    exact ⟨n, rfl, by omega, by omega, q _ B1 H1 G1 S1 (wk_rng 0 n.toNat B1)⟩
theorem it_R2 {m n : Int} {f g f' g' : Bool} (ha : EvOk C B0 H0 ta δ (.int m, f, g)) (hb : EvOk C B0 H0 tb δ (.int n, f', g')) (h : -1000000 ≤ m ∧ m ≤ 1000000 ∧ -1000000 ≤ n ∧ n ≤ 1000000) : ItOk C B0 H0 (iRng2 (tCons ta (tCons tb tNil))) δ (rngD m (n - m).toNat, true) := fun B H σ S R q =>
  ha B H σ S _ fun v B1 H1 G1 S1 r1 => hb B1 H1 σ S1 _ fun u B2 H2 G2 S2 r2 => by
    rw [rp_int] at r1 r2
    subst r1 r2
    exact ⟨m, n, rfl, ⟨by omega, by omega, by omega, by omega⟩, q _ B2 H2 (G1.trans G2) S2 (wk_rng m _ B2)⟩
theorem zipD_len : ∀ xs ys : List D, (zipD xs ys).length = min xs.length ys.length
  | [], _ => by simp [zipD]
  | x :: xs, [] => by simp [zipD]
  | x :: xs, y :: ys => by
    simp only [zipD, List.length_cons, zipD_len xs ys]
    omega
theorem zipD_get : ∀ {xs ys : List D} {i : Nat} {x y : D}, xs[i]? = some x → ys[i]? = some y → (zipD xs ys)[i]? = some (.tp [x, y])
  | [], _, _, _, _, h, _ => by simp at h
  | _ :: _, [], _, _, _, _, h => by simp at h
  | a :: xs, b :: ys, 0, x, y, h, k => by
    simp at h k
    subst h k
    rfl
  | a :: xs, b :: ys, i + 1, x, y, h, k => by
    simp only [zipD, List.getElem?_cons_succ] at h k ⊢
    exact zipD_get h k
theorem it_Z {xs ys : List D} {g g' : Bool} (ha : EvOk C B0 H0 ta δ (.ls xs, true, g)) (hb : EvOk C B0 H0 tb δ (.ls ys, true, g')) : ItOk C B0 H0 (iZip C.K (tCons ta (tCons tb tNil))) δ (zipD xs ys, g && g') := fun B H σ S R q =>
  ha B H σ S _ fun v B1 H1 G1 S1 r1 => hb B1 H1 σ S1 _ fun u B2 H2 G2 S2 r2 => by
    have r1 := r1.mono (G2.rg true g)
    rw [rp_ls] at r1 r2
    obtain ⟨a, vs, rfl, h1, k1⟩ := r1
    obtain ⟨b, us, rfl, h2, k2⟩ := r2
    have hb1 : B2 a = some (.lst vs) := S2.weak true g true false id (fun h => by cases h) _ _ h1
    have hb2 : B2 b = some (.lst us) := S2.weak true g' true false id (fun h => by cases h) _ _ h2
    refine ⟨a, b, vs, us, rfl, SqL.of (S2.sub _ _ hb1), SqL.of (S2.sub _ _ hb2), q _ B2 H2 (G1.trans G2) S2 ⟨_, _, walk_zip (xs := vs) (ys := us) ?_, fun B' H' σ' δ' e S' => ?_, fun i H' x H3 B' σ' δ' hi e S' y => ?_⟩⟩
    · show (zipD xs ys).length = _
      rw [zipD_len, k1.len, k2.len]
    · exact ⟨SqL.of (S'.sub _ _ (e _ _ hb1)), SqL.of (S'.sub _ _ (e _ _ hb2))⟩
    · obtain ⟨T, x1, x2, rfl, hT, rfl, y1, y2⟩ := y
      obtain ⟨d1, e1, q1⟩ := k1.back y1
      obtain ⟨d2, e2, q2⟩ := k2.back y2
      obtain ⟨B3, G3, S3, e3⟩ := S'.alloc2 (o := .tup [x1, x2]) hT true (g && g')
      refine ⟨.tp [d1, d2], B3, zipD_get e1 e2, G3, S3, ?_⟩
      rw [rp_tp]
      refine ⟨T, [x1, x2], rfl, SqT.of e3, .cons (q1.mono ?_) (.one (q2.mono ?_))⟩
      · exact Same.trans (rg_up (e.trans G3.eb) g) (S3.weakL true g true g')
      · exact Same.trans (rg_up (e.trans G3.eb) g') (S3.weakR true g' true g)
theorem enumD_len : ∀ (n : Nat) (xs : List D), (enumD n xs).length = xs.length
  | _, [] => rfl
  | n, x :: xs => by simp [enumD, enumD_len (n + 1) xs]
theorem enumD_get : ∀ {xs : List D} {n i : Nat} {x : D}, xs[i]? = some x → (enumD n xs)[i]? = some (.tp [.int ((n + i : Nat) : Int), x])
  | [], _, _, _, h => by simp at h
  | a :: xs, n, 0, x, h => by
    simp at h
    subst h
    rfl
  | a :: xs, n, i + 1, x, h => by
    simp only [enumD, List.getElem?_cons_succ] at h ⊢
    rw [enumD_get h]
    congr 5
    omega
theorem it_E {xs : List D} {g : Bool} (ha : EvOk C B0 H0 ta δ (.ls xs, true, g)) : ItOk C B0 H0 (iEnum C.K (tCons ta tNil)) δ (enumD 0 xs, g) := fun B H σ S R q =>
  ha B H σ S _ fun v B1 H1 G1 S1 r1 => by
    rw [rp_ls] at r1
    obtain ⟨a, vs, rfl, h1, k1⟩ := r1
    have hb1 : B1 a = some (.lst vs) := S1.weak true g true false id (fun h => by cases h) _ _ h1
    refine ⟨a, vs, rfl, SqL.of (S1.sub _ _ hb1), q _ B1 H1 G1 S1 ⟨fun H => SqL C.K H a vs, YPair (fun i => some (.int (i : Nat))) (fun i => vs[i]?), ?_, fun B' H' σ' δ' e S' => ?_, fun i H' x H3 B' σ' δ' hi e S' y => ?_⟩⟩
    · rw [show (enumD 0 xs, g).1.length = vs.length by rw [show (enumD 0 xs, g).1 = enumD 0 xs from rfl, enumD_len, k1.len]]
      exact walk_enum (xs := vs)
    · exact SqL.of (S'.sub _ _ (e _ _ hb1))
    · obtain ⟨T, x1, x2, rfl, hT, rfl, y1, y2⟩ := y
      cases y1
      obtain ⟨d2, e2, q2⟩ := k1.back y2
      obtain ⟨B3, G3, S3, e3⟩ := S'.alloc2 (o := .tup [.int (i : Nat), x2]) hT true g
      have e4 := enumD_get (n := 0) e2
      rw [Nat.zero_add] at e4
      refine ⟨.tp [.int ((i : Nat) : Int), d2], B3, e4, G3, S3, ?_⟩
      rw [rp_tp]
      exact ⟨T, _, rfl, SqT.of e3, .cons (by rw [rp_int]) (.one (q2.mono (rg_up (e.trans G3.eb) g)))⟩
/-! comprehensions -/
theorem ItOk.w {wi : TI} {r : List D × Bool} (h : ItOk C B0 H0 wi δ r) : ItOkW C B0 H0 wi δ r := fun B H σ S R q =>
  h B H σ S R fun J B' H' G S' wk => q J B' H' G S' (by
    obtain ⟨Gd, Y, w, wg, wy⟩ := wk
    exact ⟨Gd, Y, w, fun B2 H2 σ2 δ2 e _ S2 => wg B2 H2 σ2 δ2 e S2, fun i H2 x H3 B2 σ2 δ2 hi e _ S2 y => wy i H2 x H3 B2 σ2 δ2 hi e S2 y⟩)
/-- a list that stands for now, of flat ones -/
theorem it_Q {ds : List D} {f g : Bool} (ha : EvOk C B0 H0 ta δ (.ls ds, f, g)) (hf : flats ds = true) : ItOkW C B0 H0 (iList C.K ta) δ (ds, true) := fun B H σ S R q =>
  ha B H σ S _ fun v B1 H1 G1 S1 r1 => by
    rw [rp_ls] at r1
    obtain ⟨a, vs, rfl, h1, k1⟩ := r1
    have hh : H1 a = some (.lst vs) := S1.toH _ _ _ _ h1
    refine ⟨a, rfl, ⟨vs, SqL.of hh⟩, q _ B1 H1 G1 S1 ⟨fun H => SqL C.K H a vs, YAt vs, ?_, fun B' H' σ' δ' e eh S' => ?_, fun i H' x H2 B' σ' δ' hi e eh S' y => ?_⟩⟩
    · rw [show ds.length = vs.length from k1.len.symm]
      exact walk_list
    · exact SqL.of (eh _ _ hh)
    · obtain ⟨rfl, y⟩ := y
      obtain ⟨d, h2, r⟩ := k1.back y
      exact ⟨d, B', h2, Gro.refl _ _, S', r.flat (List.all_eq_true.mp hf d (List.mem_of_getElem? h2))⟩
theorem nw_lc {wi : TI} {t : Tg} {tt : TT} {ds : List D} {g : Bool} {cf : List Sl → Option Bool} {ef : List Sl → Option Rs} {ys : List D} {gs : Bool}
    (hi : ItOkW C B0 H0 wi δ (ds, g)) (hn : ds.length ≤ 50000) (h : lcRun t g cf ef (wipeD δ t.sl) ds = some (ys, gs)) (hc : ∀ δ2 b, cf δ2 = some b → TtOk C B0 H0 tt δ2 b) (he : ∀ δ2 r, ef δ2 = some r → EvOk C B0 H0 te δ2 r) :
    NwOk C B0 H0 (tLc wi (t.rd C.K) tt te t.sl) δ ys true gs := fun B H σ S Q q => by
  refine hi B H σ S _ fun J B1 H1 G1 S1 wk => ?_
  obtain ⟨Gd, Y, w, wg, wy⟩ := wk
  intro L hL
  have h0L : H0 L = none := S1.ex0.free hL
  refine lc_it w (fun i Hc => ∃ B' acc ys1 ys2 gs2, Gro B1 H1 B' Hc ∧ Stt C B0 H0 B' Hc σ δ ∧ B' L = none ∧ Hc L = some (.lst acc) ∧ Rps C (Rg B0 H0 B' Hc true gs) ys1 acc ∧ ys1.length ≤ i ∧
    lcRun t g cf ef (wipeD δ t.sl) (ds.drop i) = some (ys2, gs2) ∧ (gs = true → gs2 = true) ∧ ys1 ++ ys2 = ys) ?_ ?_ ?_ ?_
  · refine ⟨B1, [], [], ys, gs, ⟨Same.refl _, same_upd hL, fun _ _ h => .inl h⟩, S1.cell hL, S1.sub.free hL, upd_same, Rps.nil, Nat.le_refl _, h, id, rfl⟩
  · rintro i Hc _ ⟨B', acc, ys1, ys2, gs2, G', S', _⟩
    exact wg B' Hc σ δ G'.eb G'.eh S'
  · rintro i x Hc Hd hlt ⟨B', acc, ys1, ys2, gs2, G', S', bL, cL, ra, hl, run, hg, ey⟩ y
    obtain ⟨d, B2, ed, G2, S2, rd⟩ := wy i Hc x Hd B' σ δ hlt G'.eb G'.eh S' y
    have edr : ds.drop i = d :: ds.drop (i + 1) := by
      have hlt' : i < ds.length := hlt
      rw [List.getElem?_eq_getElem hlt'] at ed
      rw [List.drop_eq_getElem_cons hlt']
      cases ed
      rfl
    rw [edr] at run
    simp only [lcRun] at run
    split at run
    · cases run
    · rename_i δ2 e2
      have b2L : B2 L = none := by
        cases z : B2 L with
        | none => rfl
        | some o =>
          rcases G2.nw L o z with k | k
          · rw [bL] at k; cases k
          · rw [cL] at k; cases k
      refine Tg.ok g t d (S2.wipe t.sl) rd e2 fun σ2 S3 w2 => ⟨?_, ?_⟩
      · rw [w2 t.sl fun _ h => h, wipe_wipe]
      · cases ec : cf δ2 with
        | none => rw [ec] at run; cases run
        | some b =>
          rw [ec] at run
          refine hc δ2 b ec B2 Hd σ2 S3 _ fun B3 H3 G3 S4 => ?_
          have c3 : H3 L = some (.lst acc) := G3.eh _ _ (G2.eh _ _ cL)
          have b3L : B3 L = none := by
            cases z : B3 L with
            | none => rfl
            | some o =>
              rcases G3.nw L o z with k | k
              · rw [b2L] at k; cases k
              · rw [G2.eh _ _ cL] at k; cases k
          have S3' : Stt C B0 H0 B3 H3 σ δ := S2.by G3 S4
          cases b with
          | false =>
            rw [if_neg Bool.false_ne_true]
            exact ⟨B3, acc, ys1, ys2, gs2, (G'.trans G2).trans G3, S3', b3L, c3, ra.mono ((G2.trans G3).rg true gs), by omega, run, hg, ey⟩
          | true =>
            rw [if_pos rfl]
            dsimp only at run
            split at run
            · rename_i y gy ee
              split at run
              · rename_i ys3 gs3 er
                cases run
                refine he δ2 _ ee B3 H3 σ2 S4 _ fun v B4 H4 G4 S5 rv => ?_
                have c4 : H4 L = some (.lst acc) := G4.eh _ _ c3
                have b4L : B4 L = none := by
                  cases z : B4 L with
                  | none => rfl
                  | some o =>
                    rcases G4.nw L o z with k | k
                    · rw [b3L] at k; cases k
                    · rw [c3] at k; cases k
                have S4' : Stt C B0 H0 B4 H4 σ δ := S3'.by G4 S5
                have G5 := ((G'.trans G2).trans G3).trans G4
                refine ⟨acc, c4, ?_, B4, acc ++ [v], ys1 ++ [y], ys3, gs3, ⟨G5.eb, fun p o k => ?_, G5.nw⟩, S1.grow G5.eb (fun p o k => ?_) (fun p o k => ?_) G5.nw, b4L, upd_same, ?_, ?_, er, fun k => ?_, ?_⟩
                · have hlt' : i < ds.length := hlt
                  rw [ra.len]
                  exact Nat.lt_of_lt_of_le (show ys1.length < 100000 by omega) (by decide)
                · rw [upd_ne (ne_of_none k hL)]
                  exact G5.eh _ _ k
                · rw [upd_ne (ne_of_none k hL)]
                  exact G5.eh _ _ k
                · rw [upd_ne (ne_of_none k b4L)]
                  exact S5.sub _ _ k
                · rw [rg_true gs (H' := H4)]
                  refine (ra.mono (((G2.trans G3).trans G4).rg true gs)).app (.one (rv.mono ?_))
                  exact S5.weak true gy true gs id fun k => (Bool.and_eq_true_iff.mp (hg k)).1
                · rw [List.length_append]
                  show ys1.length + 1 ≤ i + 1
                  omega
                · exact (Bool.and_eq_true_iff.mp (hg k)).2
                · rw [List.append_assoc]
                  exact ey
              · cases run
            · cases run
  · rintro Hc ⟨B', acc, ys1, ys2, gs2, G', S', bL, cL, ra, hl, run, hg, ey⟩
    rw [show ds.drop ds.length = [] from List.drop_length] at run
    simp only [lcRun, Option.some.injEq, Prod.mk.injEq] at run
    obtain ⟨rfl, rfl⟩ := run
    rw [List.append_nil] at ey
    subst ey
    exact q L acc B' Hc (G1.trans G') S' (G1.eh.free hL) bL cL ra
end
end G

namespace G
open PySem L2
/-- what isinstance asks of an own class -/
structure TyF (K : PySem.W.Frag) (A : Addr) : Prop where
  a : PySem.W.findIn K (.ref A) (Str.ofString "__class__") = some (some (.builtin "object.__class__"))
  b : PySem.W.specialIn K (.builtin "object.__class__") (Str.ofString "__get__") = some (some (.builtin "getset_descriptor.__get__"))
  c : PySem.W.takesIn K (.builtin "object.__class__") = some true
  d : PySem.W.mroIn K A (.type "object") = some true
/-- what the table's facts say -/
structure KsOk (C : Cf) (Γ : Ga) : Prop where
  ks : ∀ (k : Nat) d, Γ.ks[k]? = some d → Rp C Emp d (C.kv k)
  cn : ∀ (c : Nat) ns, Γ.cn[c]? = some ns → (C.Cl c).2 = ns ∧ Cls C.K (C.Cl c).1 ∧ TyF C.K (C.Cl c).1 ∧ ∀ f ∈ ns, NoAttr C.K (C.Cl c).1 f
  sub : ∀ (c : Nat) r (c' : Nat) b, Γ.sub[c]? = some r → r[c']? = some b → PySem.W.kitOne C.K (.ref (C.Cl c).1) (.ref (C.Cl c').1) = some b
section
variable {C : Cf} {B0 H0 : Hp} {δ : List Sl} {ta tb tc te : TE} {Γ : Ga}
theorem any_pys (x : D) : ∀ ys : List D, ((D.pys ys).any fun z => PyData.eqv z x.py) = ys.any fun z => z.eqv x
  | [] => rfl
  | y :: ys => by
    simp only [D.pys, List.any_cons, any_pys x ys]
    rfl
theorem ev_inn {x : D} {ys : List D} {f g f' g' : Bool} (ha : EvOk C B0 H0 ta δ (x, f, g)) (hb : EvOk C B0 H0 tb δ (.ls ys, f', g')) (h : (x.eqok && (D.ls ys).eqok) = true) : EvOk C B0 H0 (tOp (rInD C.K) ta tb) δ (.bl (ys.any fun z => z.eqv x), true, true) :=
  ev_flat2 ha hb (emp_bl _) fun v u H Q r1 r2 q => by
    rw [Bool.and_eq_true] at h
    obtain ⟨h1, h2⟩ := h
    simp only [D.eqok, Bool.and_eq_true] at h1 h2
    have k := r2.dp h2.1
    simp only [D.py] at k
    exact ⟨x.py, D.pys ys, r1.dp h1.1, k, h1.2, by simpa only [D.py] using h2.2, by rw [any_pys]; exact q⟩
theorem ev_nin {x : D} {ys : List D} {f g f' g' : Bool} (ha : EvOk C B0 H0 ta δ (x, f, g)) (hb : EvOk C B0 H0 tb δ (.ls ys, f', g')) (h : (x.eqok && (D.ls ys).eqok) = true) : EvOk C B0 H0 (tOp (rNotInD C.K) ta tb) δ (.bl (!ys.any fun z => z.eqv x), true, true) :=
  ev_flat2 ha hb (emp_bl _) fun v u H Q r1 r2 q => by
    rw [Bool.and_eq_true] at h
    obtain ⟨h1, h2⟩ := h
    simp only [D.eqok, Bool.and_eq_true] at h1 h2
    have k := r2.dp h2.1
    simp only [D.py] at k
    exact ⟨x.py, D.pys ys, r1.dp h1.1, k, h1.2, by simpa only [D.py] using h2.2, by rw [any_pys]; exact q⟩
theorem strs_of {H : Hp} : ∀ {ds : List D} {ss : List Str} {vs : List V}, strsOf ds = some ss → Rps C H ds vs → vs = ss.map V.str
  | [], ss, vs, h, r => by
    simp only [strsOf, Option.some.injEq] at h
    subst h
    simp only [Rps] at r
    exact r
  | d :: ds, ss, vs, h, r => by
    cases d with
    | str i =>
      simp only [strsOf] at h
      split at h
      · rename_i ms e
        cases h
        simp only [Rps] at r
        obtain ⟨v, us, rfl, r1, r2⟩ := r
        rw [rp_str] at r1
        subst r1
        rw [strs_of e r2]
        rfl
      · cases h
    | _ => simp [strsOf] at h
theorem inV_strs (x : Str) : ∀ ss : List Str, inV (.str x) (ss.map V.str) = ss.any fun z => z == x
  | [] => rfl
  | s :: ss => by
    have := inV_strs x ss
    unfold inV at this ⊢
    rw [List.map_cons, List.any_cons, List.any_cons, this]
    rfl
theorem flatV_strs : ∀ ss : List Str, (ss.map V.str).all flatV = true
  | [] => rfl
  | s :: ss => by
    rw [List.map_cons, List.all_cons, flatV_strs ss]
    rfl
theorem ev_inT {x : Str} {ys : List D} {ss : List Str} {f g f' g' : Bool} (ha : EvOk C B0 H0 ta δ (.str x, f, g)) (hb : EvOk C B0 H0 tb δ (.tp ys, f', g')) (h : strsOf ys = some ss) : EvOk C B0 H0 (tOp (rIn C.K false) ta tb) δ (.bl (ss.any fun z => z == x), true, true) :=
  ev_flat2 ha hb (emp_bl _) fun v u H Q r1 r2 q => by
    rw [rp_str] at r1
    rw [rp_tp] at r2
    subst r1
    obtain ⟨a, xs, rfl, h1, h2⟩ := r2
    have e := strs_of h h2
    subst e
    refine ⟨a, _, rfl, .inr h1, rfl, flatV_strs ss, ?_⟩
    rw [if_neg Bool.false_ne_true, inV_strs]
    exact q
theorem fld_look {H : Hp} (f : Str) : ∀ {ns : List Str} {ds : List D} {xs : List V} {d : D}, fldD f ns ds = some d → Rps C H ds xs → f ∈ ns ∧ ∃ v, (ns.zip xs).lookup f = some v ∧ Rp C H d v
  | [], _, _, _, h, _ => by simp [fldD] at h
  | n :: ns, [], _, _, h, _ => by simp [fldD] at h
  | n :: ns, d :: ds, xs, d', h, r => by
    simp only [Rps] at r
    obtain ⟨v, us, rfl, r1, r2⟩ := r
    simp only [fldD] at h
    rw [List.zip_cons_cons, List.lookup_cons]
    split at h
    · rename_i e
      cases h
      subst e
      exact ⟨by simp, v, by simp, r1⟩
    · rename_i e
      obtain ⟨h1, w, h2, h3⟩ := fld_look f h r2
      refine ⟨by simp [h1], w, ?_, h3⟩
      rw [show (f == n) = false by simpa using e]
      exact h2
theorem ev_fld (hk : KsOk C Γ) {nm : Str} {c : Nat} {fs : List D} {ns : List Str} {d : D} {f g : Bool} (ha : EvOk C B0 H0 ta δ (.ob c fs, f, g)) (hn : Γ.cn[c]? = some ns) (h : fldD nm ns fs = some d) : EvOk C B0 H0 (tFld C.K ta nm) δ (d, f, g) := fun B H σ S Q q =>
  ha B H σ S _ fun v B1 H1 G1 S1 r1 => by
    rw [rp_ob] at r1
    obtain ⟨a, dx, xs, rfl, h1, hl, k1⟩ := r1
    obtain ⟨e, cl, _, na⟩ := hk.cn c ns hn
    obtain ⟨hm, w, h2, h3⟩ := fld_look nm h k1
    exact ⟨a, _, dx, _, w, rfl, S1.toH _ _ _ _ h1, cl, na nm hm, by rw [e]; exact h2, q w B1 H1 G1 S1 h3⟩
theorem ev_isC (hk : KsOk C Γ) {c c' : Nat} {fs : List D} {r : List Bool} {b : Bool} {f g : Bool} {ns : List Str} (ha : EvOk C B0 H0 ta δ (.ob c fs, f, g)) (hn : Γ.cn[c]? = some ns) (h1 : Γ.sub[c]? = some r) (h2 : r[c']? = some b) : EvOk C B0 H0 (tCB (rIsi C.K) (tCons ta (tCons (tC (.ref (C.Cl c').1)) tNil))) δ (.bl b, true, true) := fun B H σ S Q q =>
  ha B H σ S _ fun v B1 H1 G1 S1 r1 => by
    rw [rp_ob] at r1
    obtain ⟨a, dx, xs, rfl, k1, hl, k2⟩ := r1
    obtain ⟨_, cl, ty, _⟩ := hk.cn c ns hn
    exact ⟨.ref a, _, _, _, b, rfl, .own _, .base (.ins (S1.toH _ _ _ _ k1) cl ty.a ty.b ty.c ty.d), hk.sub c r c' b h1 h2, q _ B1 H1 G1 S1 (rp_emp (emp_bl _))⟩
/-! min, max of alike data -/
theorem py_inj : ∀ {a b : D}, a.plain = true → b.plain = true → a.py = b.py → a = b := by
  have key : (∀ a b : D, a.plain = true → b.plain = true → a.py = b.py → a = b) := by
    intro a
    refine D.rec (motive_1 := fun a => ∀ b : D, a.plain = true → b.plain = true → a.py = b.py → a = b) (motive_2 := fun xs => ∀ ys : List D, D.plains xs = true → D.plains ys = true → D.pys xs = D.pys ys → xs = ys) ?_ ?_ ?_ ?_ ?_ ?_ ?_ ?_ ?_ ?_ a
    · intro b _ hb e; cases b <;> simp_all [D.py, D.plain]
    · intro x b _ hb e; cases b <;> simp_all [D.py, D.plain]
    · intro x b _ hb e; cases b <;> simp_all [D.py, D.plain]
    · intro x b _ hb e; cases b <;> simp_all [D.py, D.plain]
    · intro xs ih b ha hb e
      cases b with
      | ls ys =>
        simp only [D.py, PyData.list.injEq] at e
        rw [ih ys ha hb e]
      | _ => simp_all [D.py, D.plain]
    · intro xs ih b ha hb e
      cases b with
      | tp ys =>
        simp only [D.py, PyData.tuple.injEq] at e
        rw [ih ys ha hb e]
      | _ => simp_all [D.py, D.plain]
    · intro c xs ih b ha hb e; simp [D.plain] at ha
    · intro c xs ih b ha hb e; simp [D.plain] at ha
    · intro ys _ _ e; cases ys <;> simp_all [D.pys]
    · intro x xs ih1 ih2 ys ha hb e
      cases ys with
      | nil => simp [D.pys] at e
      | cons y ys =>
        simp only [D.plains, Bool.and_eq_true] at ha hb
        simp only [D.pys, List.cons.injEq] at e
        rw [ih1 y ha.1 hb.1 e.1, ih2 ys ha.2 hb.2 e.2]
  exact fun {a b} => key a b
theorem minF_py (xs : List D) : ∀ x : D, (minF x xs).py = PySem.W.minD x.py (D.pys xs) := by
  unfold minF PySem.W.minD
  induction xs with
  | nil => intro x; rfl
  | cons y ys ih =>
    intro x
    simp only [D.pys, List.foldl_cons]
    rw [ih]
    congr 1
    unfold ltD
    split <;> rfl
theorem maxF_py (xs : List D) : ∀ x : D, (maxF x xs).py = PySem.W.maxD x.py (D.pys xs) := by
  unfold maxF PySem.W.maxD
  induction xs with
  | nil => intro x; rfl
  | cons y ys ih =>
    intro x
    simp only [D.pys, List.foldl_cons]
    rw [ih]
    congr 1
    unfold ltD
    split <;> rfl
theorem minF_mem (xs : List D) : ∀ x : D, minF x xs ∈ x :: xs := by
  unfold minF
  induction xs with
  | nil => intro x; simp
  | cons y ys ih =>
    intro x
    simp only [List.foldl_cons]
    split
    · exact List.mem_cons_of_mem _ (ih y)
    · rcases List.mem_cons.mp (ih x) with h | h
      · rw [h]; simp
      · simp [h]
theorem maxF_mem (xs : List D) : ∀ x : D, maxF x xs ∈ x :: xs := by
  unfold maxF
  induction xs with
  | nil => intro x; simp
  | cons y ys ih =>
    intro x
    simp only [List.foldl_cons]
    split
    · exact List.mem_cons_of_mem _ (ih y)
    · rcases List.mem_cons.mp (ih x) with h | h
      · rw [h]; simp
      · simp [h]
theorem intsOf_mem : ∀ {ds : List D} {ns : List Int}, intsOf ds = some ns → ds = ns.map D.int
  | [], ns, h => by
    simp only [intsOf, Option.some.injEq] at h
    subst h
    rfl
  | d :: ds, ns, h => by
    cases d with
    | int i =>
      simp only [intsOf] at h
      split at h
      · rename_i ms e
        cases h
        rw [intsOf_mem e]
        rfl
      · cases h
    | _ => simp [intsOf] at h
theorem pys_map (ds : List D) : D.pys ds = ds.map D.py := by
  induction ds with
  | nil => rfl
  | cons d ds ih => simp only [D.pys, ih, List.map_cons]
theorem pl_ints (ns : List Int) : D.plains (ns.map D.int) = true := by
  induction ns with
  | nil => rfl
  | cons n ns ih => simp [D.plains, D.plain, ih]
theorem dep_ints (ns : List Int) : PyData.depthAll (D.pys (ns.map D.int)) = 0 := by
  induction ns with
  | nil => simp [D.pys, PyData.depthAll]
  | cons n ns ih => simp [D.pys, D.py, PyData.depthAll, PyData.depth, ih]
theorem alike_ints : ∀ ns ms : List Int, PySem.W.alikeAll (D.pys (ns.map D.int)) (D.pys (ms.map D.int)) = true
  | [], _ => by simp [D.pys, PySem.W.alikeAll]
  | n :: ns, [] => by simp [D.pys, PySem.W.alikeAll]
  | n :: ns, m :: ms => by simp [D.pys, D.py, PySem.W.alikeAll, PySem.W.alike, alike_ints ns ms]
theorem isPr_of {d : D} (h : isPr d = true) : ∃ i ns, d = .tp [.int i, .ls (List.map D.int ns)] := by
  unfold isPr at h
  split at h
  · rename_i i xs
    cases e : intsOf xs with
    | none => rw [e] at h; cases h
    | some ns => exact ⟨i, ns, by rw [intsOf_mem e]⟩
  · cases h
theorem mm_facts {ds : List D} (h : mmOk ds = true) : (∀ d ∈ ds, d.plain = true) ∧ PySem.W.AlikeAll (D.pys ds) ∧ PyData.depthAll (D.pys ds) ≤ 60 := by
  unfold mmOk at h
  rw [Bool.or_eq_true] at h
  rcases h with h | h
  · cases e : intsOf ds with
    | none => rw [e] at h; cases h
    | some ns =>
      have e := intsOf_mem e
      subst e
      refine ⟨fun d hd => ?_, ⟨fun x hx y hy => ?_, fun x hx => ?_⟩, by rw [dep_ints]; omega⟩
      · obtain ⟨i, _, rfl⟩ := List.mem_map.mp hd
        rfl
      · rw [pys_map] at hx hy
        obtain ⟨a, ha, rfl⟩ := List.mem_map.mp hx
        obtain ⟨b, hb, rfl⟩ := List.mem_map.mp hy
        obtain ⟨i, _, rfl⟩ := List.mem_map.mp ha
        obtain ⟨j, _, rfl⟩ := List.mem_map.mp hb
        simp [D.py, PySem.W.alike]
      · rw [pys_map] at hx
        obtain ⟨a, ha, rfl⟩ := List.mem_map.mp hx
        obtain ⟨i, _, rfl⟩ := List.mem_map.mp ha
        simp [D.py]
  · rw [List.all_eq_true] at h
    refine ⟨fun d hd => ?_, ⟨fun x hx y hy => ?_, fun x hx => ?_⟩, ?_⟩
    · obtain ⟨i, ns, rfl⟩ := isPr_of (h d hd)
      simp [D.plain, D.plains, pl_ints]
    · rw [pys_map] at hx hy
      obtain ⟨a, ha, rfl⟩ := List.mem_map.mp hx
      obtain ⟨b, hb, rfl⟩ := List.mem_map.mp hy
      obtain ⟨i, ns, rfl⟩ := isPr_of (h a ha)
      obtain ⟨j, ms, rfl⟩ := isPr_of (h b hb)
      simp [D.py, D.pys, PySem.W.alike, PySem.W.alikeAll, alike_ints]
    · rw [pys_map] at hx
      obtain ⟨a, ha, rfl⟩ := List.mem_map.mp hx
      obtain ⟨i, ns, rfl⟩ := isPr_of (h a ha)
      simp [D.py]
    · have : ∀ l : List D, (∀ d ∈ l, isPr d = true) → PyData.depthAll (D.pys l) ≤ 60 := by
        intro l
        induction l with
        | nil => intro _; simp [D.pys, PyData.depthAll]
        | cons d l ih =>
          intro hl
          obtain ⟨i, ns, rfl⟩ := isPr_of (hl d (by simp))
          have := ih fun d hd => hl d (by simp [hd])
          simp only [D.pys, D.py, PyData.depthAll, PyData.depth, dep_ints]
          omega
      exact this ds h
theorem plains_of : ∀ {ds : List D}, (∀ d ∈ ds, d.plain = true) → D.plains ds = true
  | [], _ => rfl
  | d :: ds, h => by
    simp only [D.plains, Bool.and_eq_true]
    exact ⟨h d (by simp), plains_of fun d hd => h d (by simp [hd])⟩
theorem ev_minL {x : D} {xs : List D} {f g : Bool} (ha : EvOk C B0 H0 ta δ (.ls (x :: xs), f, g)) (h : mmOk (x :: xs) = true) : EvOk C B0 H0 (tCB (rMinDat C.K) (tCons ta tNil)) δ (minF x xs, f, g) := fun B H σ S Q q =>
  ha B H σ S _ fun v B1 H1 G1 S1 r1 => by
    rw [rp_ls] at r1
    obtain ⟨a, vs, rfl, h1, k1⟩ := r1
    obtain ⟨m1, m2, m3⟩ := mm_facts h
    have k2 := k1.mono (S1.toH f g)
    refine ⟨a, vs, x.py, D.pys xs, rfl, SqL.of (S1.toH _ _ _ _ h1), k2.dp (plains_of m1), m2, m3, fun i v hv hu => ?_⟩
    obtain ⟨d, ed, rd'⟩ := k1.back hv
    have hd := m1 d (List.mem_of_getElem? ed)
    have e := hu d.py (Rp.dp hd (rd'.mono (S1.toH f g)))
    have e2 : d = minF x xs := py_inj hd (m1 _ (minF_mem xs x)) (by rw [e, minF_py])
    subst e2
    exact q v B1 H1 G1 S1 rd'
theorem ev_maxL {x : D} {xs : List D} {f g : Bool} (ha : EvOk C B0 H0 ta δ (.ls (x :: xs), f, g)) (h : mmOk (x :: xs) = true) : EvOk C B0 H0 (tCB (rMaxDat C.K) (tCons ta tNil)) δ (maxF x xs, f, g) := fun B H σ S Q q =>
  ha B H σ S _ fun v B1 H1 G1 S1 r1 => by
    rw [rp_ls] at r1
    obtain ⟨a, vs, rfl, h1, k1⟩ := r1
    obtain ⟨m1, m2, m3⟩ := mm_facts h
    have k2 := k1.mono (S1.toH f g)
    refine ⟨a, vs, x.py, D.pys xs, rfl, SqL.of (S1.toH _ _ _ _ h1), k2.dp (plains_of m1), m2, m3, fun i v hv hu => ?_⟩
    obtain ⟨d, ed, rd'⟩ := k1.back hv
    have hd := m1 d (List.mem_of_getElem? ed)
    have e := hu d.py (Rp.dp hd (rd'.mono (S1.toH f g)))
    have e2 : d = maxF x xs := py_inj hd (m1 _ (maxF_mem xs x)) (by rw [e, maxF_py])
    subst e2
    exact q v B1 H1 G1 S1 rd'
theorem rps_rev {H : Hp} : ∀ {ds : List D} {vs : List V}, Rps C H ds vs → Rps C H ds.reverse vs.reverse
  | [], _, h => by
    simp only [Rps] at h
    subst h
    simp [Rps]
  | d :: ds, vs, h => by
    simp only [Rps] at h
    obtain ⟨v, r, rfl, h2, h3⟩ := h
    rw [List.reverse_cons, List.reverse_cons]
    exact (rps_rev h3).app (.one h2)
theorem nw_rev {xs : List D} {f g : Bool} (ha : EvOk C B0 H0 ta δ (.ls xs, f, g)) : NwOk C B0 H0 (tRevL C.K ta) δ xs.reverse f g := fun B H σ S Q q =>
  ha B H σ S _ fun v B1 H1 G1 S1 r1 => by
    rw [rp_ls] at r1
    obtain ⟨a, vs, rfl, h1, k1⟩ := r1
    exact ⟨a, vs, rfl, SqL.of (S1.toH _ _ _ _ h1), nw_of S1 (rps_rev k1) G1 q⟩
theorem rps_ev2 {H : Hp} : ∀ {ds : List D} {vs : List V}, Rps C H ds vs → Rps C H (G.ev2 ds) (G.ev2 vs)
  | [], vs, h => by
    simp only [Rps] at h
    subst h
    simp [G.ev2, Rps]
  | [d], vs, h => by
    simp only [Rps] at h
    obtain ⟨v, r, rfl, h1, rfl⟩ := h
    simp only [G.ev2, Rps]
    exact ⟨v, [], rfl, h1, rfl⟩
  | d :: e :: ds, vs, h => by
    simp only [Rps] at h
    obtain ⟨v, r, rfl, h1, u, r', rfl, h2, h3⟩ := h
    simp only [G.ev2, Rps]
    exact ⟨v, _, rfl, h1, rps_ev2 h3⟩
theorem nw_ev2 {xs : List D} {f g : Bool} (ha : EvOk C B0 H0 ta δ (.ls xs, f, g)) : NwOk C B0 H0 (tEv2 C.K ta) δ (G.ev2 xs) f g := fun B H σ S Q q =>
  ha B H σ S _ fun v B1 H1 G1 S1 r1 => by
    rw [rp_ls] at r1
    obtain ⟨a, vs, rfl, h1, k1⟩ := r1
    exact ⟨a, vs, rfl, SqL.of (S1.toH _ _ _ _ h1), nw_of S1 (rps_ev2 k1) G1 q⟩
/-! range with a step -/
theorem rng3D_len (lo st : Int) (n : Nat) : (rng3D lo st n).length = n := by simp [rng3D]
theorem rng3D_get {lo st : Int} {n i : Nat} (h : i < n) : (rng3D lo st n)[i]? = some (.int (lo + (i : Int) * st)) := by
  unfold rng3D
  rw [List.getElem?_map, List.getElem?_range h]
  rfl
theorem rgC_up {m n s : Int} (h : -1000000 ≤ m ∧ m ≤ 1000000 ∧ -1000000 ≤ n ∧ n ≤ 1000000 ∧ 0 < s ∧ s < 1000) : RgC m n s (rsz m n s) := by
  obtain ⟨h1, h2, h3, h4, h5, h6⟩ := h
  have hd0 : 0 ≤ (n - m - 1) / s ∨ ¬ m < n := by
    by_cases k : m < n
    · exact .inl (Int.ediv_nonneg (by omega) (by omega))
    · exact .inr k
  refine ⟨by omega, by omega, ?_, ?_⟩
  · have hs : Builtin.Range.rangeSize m n s ≤ 2000001 := by
      unfold Builtin.Range.rangeSize
      rw [if_pos (by omega)]
      split
      · have : (n - m - 1) / s ≤ n - m - 1 := Int.ediv_le_self _ (by omega)
        omega
      · omega
    have hs0 : 0 ≤ Builtin.Range.rangeSize m n s := by
      unfold Builtin.Range.rangeSize
      rw [if_pos (by omega)]
      split
      · rename_i k
        rcases hd0 with z | z
        · omega
        · exact absurd k z
      · omega
    unfold Builtin.Range.small
    simp only [Builtin.Range.rangeFitsLong, Bool.and_eq_true, Bool.or_eq_true, decide_eq_true_eq, beq_iff_eq, show s > 0 from h5, if_true]
    omega
  · unfold Builtin.Range.rangeSize rsz
    rw [if_pos (by omega)]
    split
    · rename_i k
      rcases hd0 with z | z
      · omega
      · exact absurd k z
    · rfl
theorem it_R3 {m n s : Int} {f g f' g' f2 g2 : Bool} (ha : EvOk C B0 H0 ta δ (.int m, f, g)) (hb : EvOk C B0 H0 tb δ (.int n, f', g')) (hc : EvOk C B0 H0 tc δ (.int s, f2, g2)) (h : -1000000 ≤ m ∧ m ≤ 1000000 ∧ -1000000 ≤ n ∧ n ≤ 1000000 ∧ 0 < s ∧ s < 1000) : ItOk C B0 H0 (iRng3 (tCons ta (tCons tb (tCons tc tNil)))) δ (rng3D m s (rsz m n s), true) := fun B H σ S R q =>
  ha B H σ S _ fun v B1 H1 G1 S1 r1 => hb B1 H1 σ S1 _ fun u B2 H2 G2 S2 r2 => hc B2 H2 σ S2 _ fun w B3 H3 G3 S3 r3 => by
    rw [rp_int] at r1 r2 r3
    subst r1 r2 r3
    refine ⟨m, n, s, _, rfl, rgC_up h, q _ B3 H3 ((G1.trans G2).trans G3) S3 ⟨fun _ => True, YFn fun i => .int (m + (i : Nat) * s), ?_, fun _ _ _ _ _ _ => trivial, fun i H' x H4 B' σ' δ' hi e S' y => ?_⟩⟩
    · rw [show (rng3D m s (rsz m n s), true).1.length = rsz m n s from rng3D_len _ _ _]
      exact walk_rangeC
    · obtain ⟨rfl, rfl⟩ := y
      rw [show (rng3D m s (rsz m n s), true).1.length = rsz m n s from rng3D_len _ _ _] at hi
      exact ⟨_, B', rng3D_get hi, Gro.refl _ _, S', by rw [rp_int]⟩
/-! objects -/
theorem ev_new {F : Nd} {ta : TA} {ds fs : List D} {f g : Bool} {E : XK} (ha : ArOk C B0 H0 ta δ (ds, f, g)) (hl : ds.length = F.ar) (h : F.run ds = some fs) : EvOk C B0 H0 (tMake (C.Cl F.cl).1 (spIn C F) [] E ta) δ (.ob F.cl fs, F.fr || f, F.fr) := fun B H σ S Q q =>
  ha B H σ S _ fun vs B1 H1 G1 S1 r1 => by
    intro x dx hx hdx ne
    rw [List.append_nil]
    have n1 : ∀ p o, H1 p = some o → (upd (upd H1 dx (.own x)) x (.ins (C.Cl F.cl).1 dx [])) p = some o := fun p o h => by
      rw [upd_ne (ne_of_none h hx), upd_ne (ne_of_none h hdx)]
      exact h
    refine ⟨x, dx, vs, Rg B0 H0 B1 H1 f g, ds, fs, rfl, upd_same, fun p o k => n1 p o (S1.toH f g p o k), (S1.toH f g).free hx, r1, hl, h, fun H2 xs hs hx2 hn r _ => ?_⟩
    refine ⟨rfl, ?_⟩
    have e : Same H1 H2 := fun p o k => hs p o (ne_of_none k hx) (n1 p o k)
    refine call_core (fr := F.fr) (d := .ob F.cl fs) (f := f) (g := g) G1 S1 e ?_ (fun v B' H' G' S' r' => ?_)
    · rw [rp_ob]
      refine ⟨x, dx, xs, rfl, ?_, hn, r.mono fun p o k => ?_⟩
      · unfold Rsd
        rw [hx]
        split
        · rename_i e1 e2; cases e2
        · exact hx2
      · unfold Rsd at k ⊢
        split at k
        · cases k
        · rename_i e1
          split
          · rename_i e2 e3
            exact absurd (n1 _ _ e3) (fun z => e1 _ e2 z)
          · exact k
    · simp only [D.flat, Bool.or_false] at r'
      exact q v B' H' G' S' r'
theorem lookup_none {nm : Str} : ∀ {ns : List Str} {xs : List V}, (ns.all fun n => n != nm) = true → (ns.zip xs).lookup nm = none
  | [], _, _ => rfl
  | n :: ns, [], _ => rfl
  | n :: ns, x :: xs, h => by
    simp only [List.all_cons, Bool.and_eq_true] at h
    rw [List.zip_cons_cons, List.lookup_cons]
    have : (nm == n) = false := by
      have := h.1
      simp only [bne_iff_ne, ne_eq] at this
      simp only [beq_eq_false_iff_ne, ne_eq]
      exact fun z => this z.symm
    rw [this]
    exact lookup_none h.2
theorem ev_meth (hk : KsOk C Γ) {nm : Str} {to : TE} {ta : TA} {c : Nat} {fs ds : List D} {d : D} {f g f' g' : Bool} (ho : EvOk C B0 H0 to δ (.ob c fs, f, g)) (ha : ArOk C B0 H0 ta δ (ds, f', g')) :
    ∀ {tb : List (Nat × Fd)} {F : Fd}, lookN tb c = some F → (ds.length + 1 = F.ar ∧ (Γ.cn[c]?.map fun ns => ns.all fun n => n != nm) = some true) → F.run (.ob c fs :: ds) = some d → EvOk C B0 H0 (tMs C nm to ta tb) δ (d, F.fr || (f && f') || d.flat, F.fr || d.flat)
  | [], F, h, _, _ => by simp [lookN] at h
  | (c1, F1) :: r, F, h, hl, hr => fun B H σ S Q q => by
    simp only [lookN] at h
    split at h
    · rename_i e
      cases h
      subst e
      refine .inl (ho B H σ S _ fun v B1 H1 G1 S1 r1 => ?_)
      have r1' := r1
      rw [rp_ob] at r1
      obtain ⟨a, dx, xs, rfl, k1, hn, k2⟩ := r1
      have hno : ((C.Cl c1).2.zip xs).lookup nm = none := by
        cases z : Γ.cn[c1]? with
        | none => rw [z] at hl; exact absurd hl.2 (by simp)
        | some ns =>
          rw [z] at hl
          rw [(hk.cn c1 ns z).1]
          exact lookup_none (by simpa using hl.2)
      refine ⟨a, dx, _, rfl, S1.toH _ _ _ _ k1, hno, ?_⟩
      refine ha B1 H1 σ S1 _ fun vs B2 H2 G2 S2 r2 => ?_
      rw [List.append_nil]
      refine ⟨Rg B0 H0 B2 H2 (f && f') (g && g'), .ob c1 fs :: ds, d, S2.toH _ _, .cons (r1'.mono (Same.trans (G2.rg f g) (S2.weakL f g f' g'))) (r2.mono (S2.weakR f' g' f g)), by simpa using hl.1, hr, fun v H3 e r _ => ?_⟩
      exact call_core (G1.trans G2) S2 e r q
    · exact .inr (ev_meth hk ho ha h hl hr B H σ S Q q)
end
end G

namespace G
open PySem L2
section
variable {C : Cf} {B0 H0 : Hp} {δ : List Sl} {ta tb tc : TE}
/-! ### dicts are read -/
theorem ev_din {k : Int} {ks : List Key} {ds : List D} {f g f' g' : Bool} (ha : EvOk C B0 H0 ta δ (.int k, f, g)) (hb : EvOk C B0 H0 tb δ (.dc ks ds, f', g')) : EvOk C B0 H0 (tDIn ta tb) δ (.bl (lookD ks ds (.inl k)).isSome, true, true) := fun B H σ S Q q =>
  ha B H σ S _ fun v B1 H1 G1 S1 r1 => hb B1 H1 σ S1 _ fun u B2 H2 G2 S2 r2 => by
    rw [rp_int] at r1
    subst r1
    rw [rp_dc] at r2
    obtain ⟨a, xs, rfl, h1, hl, k1⟩ := r2
    obtain ⟨z1, z2⟩ := lookD_val (.inl k) hl k1
    refine ⟨a, _, rfl, DGet.k (k := .inl k) (S2.toH _ _ _ _ h1), ?_⟩
    have e : (valV (ks.zip xs) (.inl k)).isSome = (lookD ks ds (.inl k)).isSome := by
      cases e : lookD ks ds (.inl k) with
      | none => rw [z2 e]; rfl
      | some d =>
        obtain ⟨v, e2, _⟩ := z1 d e
        rw [e2]
        rfl
    rw [e]
    exact q _ B2 H2 (G1.trans G2) S2 (by rw [rp_bl])
theorem ev_dix {k : Int} {ks : List Key} {ds : List D} {d : D} {f g f' g' : Bool} (ha : EvOk C B0 H0 ta δ (.dc ks ds, f, g)) (hb : EvOk C B0 H0 tb δ (.int k, f', g')) (h : lookD ks ds (.inl k) = some d) : EvOk C B0 H0 (tDGet ta tb) δ (d, f, g) := fun B H σ S Q q =>
  ha B H σ S _ fun v B1 H1 G1 S1 r1 => hb B1 H1 σ S1 _ fun u B2 H2 G2 S2 r2 => by
    rw [rp_int] at r2
    subst r2
    rw [rp_dc] at r1
    obtain ⟨a, xs, rfl, h1, hl, k1⟩ := r1
    obtain ⟨z1, z2⟩ := lookD_val (.inl k) hl k1
    obtain ⟨v, e2, r⟩ := z1 d h
    refine ⟨a, v, rfl, ?_, q v B2 H2 (G1.trans G2) S2 (r.mono (G2.rg f g))⟩
    rw [← e2]
    exact DGet.k (k := .inl k) (G2.eh _ _ (S1.toH _ _ _ _ h1))
theorem ev_dget {k : Int} {ks : List Key} {ds : List D} {x : D} {f g f1 g1 f' g' : Bool} (ha : EvOk C B0 H0 ta δ (.dc ks ds, f, g)) (hb : EvOk C B0 H0 tb δ (.int k, f1, g1)) (hc : EvOk C B0 H0 tc δ (x, f', g')) : EvOk C B0 H0 (tDGet2 ta tb tc) δ ((lookD ks ds (.inl k)).getD x, f && f', g && g') := fun B H σ S Q q =>
  ha B H σ S _ fun v B1 H1 G1 S1 r1 => by
    rw [rp_dc] at r1
    obtain ⟨a, xs, rfl, h1, hl, k1⟩ := r1
    refine ⟨a, rfl, .inl ⟨_, .inl (S1.toH _ _ _ _ h1)⟩, hb B1 H1 σ S1 _ fun u B2 H2 G2 S2 r2 => hc B2 H2 σ S2 _ fun w B3 H3 G3 S3 r3 => ?_⟩
    rw [rp_int] at r2
    subst r2
    obtain ⟨z1, z2⟩ := lookD_val (.inl k) hl k1
    refine ⟨_, DGet.k (k := .inl k) ((G2.trans G3).eh _ _ (S1.toH _ _ _ _ h1)), ?_⟩
    cases e : lookD ks ds (.inl k) with
    | none =>
      rw [z2 e]
      exact q w B3 H3 ((G1.trans G2).trans G3) S3 (by simp only [e, Option.getD_none]; exact r3.mono (S3.weakR f' g' f g))
    | some d =>
      obtain ⟨v, e2, r⟩ := z1 d e
      rw [e2]
      exact q v B3 H3 ((G1.trans G2).trans G3) S3 (by simp only [e, Option.getD_some]; exact (r.mono ((G2.trans G3).rg f g)).mono (S3.weakL f g f' g'))
theorem ev_dnew : EvOk C B0 H0 tDNewK δ (.dc [] [], true, true) := fun B H σ S Q q p hp => by
  have h0 : H0 p = none := S.ex0.free hp
  have hb : B p = none := S.sub.free hp
  have nw : ∀ z o, (upd B p (.dK [])) z = some o → B z = some o ∨ H z = none := fun z o k => by
    by_cases e : z = p
    · subst e; exact .inr hp
    · rw [upd_ne e] at k; exact .inl k
  refine q (.ref p) (upd B p (.dK [])) _ ⟨same_upd hb, same_upd hp, nw⟩ (S.grow (same_upd hb) (same_upd hp) (fun z o k => ?_) nw) ?_
  · by_cases e : z = p
    · subst e; rw [upd_same] at k ⊢; exact k
    · rw [upd_ne e] at k ⊢; exact S.sub _ _ k
  · show Rp C (Rg B0 H0 (upd B p (.dK [])) (upd H p (.dK [])) true true) (.dc [] []) (.ref p)
    rw [rp_dc]
    refine ⟨p, [], rfl, ?_, rfl, by simp [Rps]⟩
    show (match H0 p with | none => (upd B p (.dK [])) p | some _ => none) = some (.dK [])
    rw [h0]
    exact upd_same
theorem rps_fm {H : Hp} {ds : List D} {vs : List V} (h : Rps C H ds vs) (k : Nat) : ∀ is : List Nat, Rps C H (is.filterMap fun i => ds[k * i]?) (is.filterMap fun i => vs[k * i]?)
  | [] => by simp [Rps]
  | i :: is => by
    rw [List.filterMap_cons, List.filterMap_cons]
    by_cases hi : k * i < ds.length
    · obtain ⟨u, e, r⟩ := h.get (i := k * i) (List.getElem?_eq_getElem hi)
      rw [List.getElem?_eq_getElem hi, e]
      exact .cons r (rps_fm h k is)
    · rw [List.getElem?_eq_none (by omega), List.getElem?_eq_none (by rw [h.len]; omega)]
      exact rps_fm h k is
theorem rps_pkk {H : Hp} {ds : List D} {vs : List V} {k : Nat} (h : Rps C H ds vs) : Rps C H (pkk k ds) (pkk k vs) := by
  unfold pkk
  rw [h.len]
  exact rps_fm h k _
theorem ev_sumT {xs : List D} {ns : List Int} {f g : Bool} (ha : EvOk C B0 H0 ta δ (.tp xs, f, g)) (h : intsOf xs = some ns) : EvOk C B0 H0 (tCB (rSumT C.K) (tCons ta tNil)) δ (.int ns.sum, true, true) := fun B H σ S Q q =>
  ha B H σ S _ fun v B1 H1 G1 S1 r1 => by
    rw [rp_tp] at r1
    obtain ⟨a, vs, rfl, h1, k1⟩ := r1
    have e := ints_of h k1
    subst e
    exact ⟨a, ns, rfl, sqt_mono (S1.toH _ _) h1, q _ B1 H1 G1 S1 (by rw [rp_int])⟩
theorem nw_stp {xs : List D} {k : Int} {f g f' g' : Bool} (ha : EvOk C B0 H0 ta δ (.ls xs, f, g)) (hb : EvOk C B0 H0 tb δ (.int k, f', g')) (hk : 0 < k ∧ k < 1000000) : NwOk C B0 H0 (tStp C.K ta tb) δ (pkk k.toNat xs) f g := fun B H σ S Q q =>
  ha B H σ S _ fun v B1 H1 G1 S1 r1 => hb B1 H1 σ S1 _ fun u B2 H2 G2 S2 r2 => by
    rw [rp_int] at r2
    subst r2
    rw [rp_ls] at r1
    obtain ⟨a, vs, rfl, h1, k1⟩ := r1
    refine ⟨k, rfl, a, vs, k.toNat, by rw [Int.toNat_of_nonneg (by omega)], rfl, by omega, by omega, SqL.of (G2.eh _ _ (S1.toH _ _ _ _ h1)), nw_of S2 (rps_pkk (k1.mono (G2.rg f g))) (G1.trans G2) q⟩
end
end G

namespace G
open PySem L2
section
variable {C : Cf} {B0 H0 : Hp} {Γ : Ga}
theorem tst_tt {c : E} {δ2 : List Sl} {b : Bool} (t : isTst c = true) (ih : ∀ δ b f g, isTst c = true → eval Γ c δ = some (.bl b, f, g) → TtOk C B0 H0 (rdT C Γ c) δ b) (h : tst (eval Γ c δ2) = some b) : TtOk C B0 H0 (rdT C Γ c) δ2 b := by
  cases e : eval Γ c δ2 with
  | none => rw [e] at h; cases h
  | some r =>
    obtain ⟨d, f, g⟩ := r
    rw [e] at h
    cases d with
    | bl x =>
      simp only [tst, Option.some.injEq] at h
      subst h
      exact ih δ2 x f g t e
    | _ => simp [tst] at h
theorem eval_all (hk : KsOk C Γ) : ∀ c : E, (∀ δ r, eval Γ c δ = some r → EvOk C B0 H0 (rd C Γ c) δ r) ∧ (∀ δ r, evalA Γ c δ = some r → ArOk C B0 H0 (rdA C Γ c) δ r) ∧ (∀ δ o, evalO Γ c δ = some o → PoOk C B0 H0 (rdO C Γ c) δ o) ∧
    (∀ δ r, evalI Γ c δ = some r → ItOk C B0 H0 (rdI C Γ c) δ r) ∧ (∀ δ b f g, isTst c = true → eval Γ c δ = some (.bl b, f, g) → TtOk C B0 H0 (rdT C Γ c) δ b) := by
  intro c
  induction c with
  | var i =>
    have ev : ∀ δ r, eval Γ (.var i) δ = some r → EvOk C B0 H0 (rd C Γ (.var i)) δ r := fun δ r h => by
      simp only [eval] at h
      split at h
      · rename_i d g e; cases h; simp only [rd]; exact ev_sh e
      · rename_i ds g e; cases h; simp only [rd]; exact ev_ow e
      · rename_i d e; cases h; simp only [rd]; exact ev_rg e
      · rename_i d e; cases h; simp only [rd]; exact ev_tr e
      · rename_i j q e
        split at h
        · rename_i d ej
          split at h
          · rename_i d2 es; cases h; simp only [rd]; exact ev_al e ej es
          · cases h
        · cases h
      · cases h
    refine ⟨ev, fun δ r h => ?_, fun δ r h => ?_, fun δ r h => ?_, fun δ b f g t h => ?_⟩
    · simp [evalA] at h
    · simp [evalO] at h
    · simp [evalI] at h
    · have k := ev δ _ h
      simp only [rd] at k
      simp only [rdT]
      exact tt_B k
  | int n =>
    have ev : ∀ δ r, eval Γ (.int n) δ = some r → EvOk C B0 H0 (rd C Γ (.int n)) δ r := fun δ r h => by
      simp only [eval] at h; cases h; simp only [rd]; exact ev_c (emp_int _)
    refine ⟨ev, fun δ r h => ?_, fun δ r h => ?_, fun δ r h => ?_, fun δ b f g t h => ?_⟩
    · simp [evalA] at h
    · simp [evalO] at h
    · simp [evalI] at h
    · simp [isTst] at t
  | str n =>
    have ev : ∀ δ r, eval Γ (.str n) δ = some r → EvOk C B0 H0 (rd C Γ (.str n)) δ r := fun δ r h => by
      simp only [eval] at h; cases h; simp only [rd]; exact ev_c (emp_str _)
    refine ⟨ev, fun δ r h => ?_, fun δ r h => ?_, fun δ r h => ?_, fun δ b f g t h => ?_⟩
    · simp [evalA] at h
    · simp [evalO] at h
    · simp [evalI] at h
    · simp [isTst] at t
  | bl n =>
    have ev : ∀ δ r, eval Γ (.bl n) δ = some r → EvOk C B0 H0 (rd C Γ (.bl n)) δ r := fun δ r h => by
      simp only [eval] at h; cases h; simp only [rd]; exact ev_c (emp_bl _)
    refine ⟨ev, fun δ r h => ?_, fun δ r h => ?_, fun δ r h => ?_, fun δ b f g t h => ?_⟩
    · simp [evalA] at h
    · simp [evalO] at h
    · simp [evalI] at h
    · have k := ev δ _ h
      simp only [rd] at k
      simp only [rdT]
      exact tt_B k
  | non  =>
    have ev : ∀ δ r, eval Γ (.non ) δ = some r → EvOk C B0 H0 (rd C Γ (.non )) δ r := fun δ r h => by
      simp only [eval] at h; cases h; simp only [rd]; exact ev_c emp_non
    refine ⟨ev, fun δ r h => ?_, fun δ r h => ?_, fun δ r h => ?_, fun δ b f g t h => ?_⟩
    · simp [evalA] at h
    · simp [evalO] at h
    · simp [evalI] at h
    · simp [isTst] at t
  | kon k =>
    have ev : ∀ δ r, eval Γ (.kon k) δ = some r → EvOk C B0 H0 (rd C Γ (.kon k)) δ r := fun δ r h => by
      simp only [eval] at h
      split at h
      · rename_i d e; cases h; simp only [rd]; exact ev_c (hk.ks _ _ e)
      · cases h
    refine ⟨ev, fun δ r h => ?_, fun δ r h => ?_, fun δ r h => ?_, fun δ b f g t h => ?_⟩
    · simp [evalA] at h
    · simp [evalO] at h
    · simp [evalI] at h
    · simp [isTst] at t
  | bin o a b iha ihb =>
    have ev : ∀ δ r, eval Γ (.bin o a b) δ = some r → EvOk C B0 H0 (rd C Γ (.bin o a b)) δ r := fun δ r h => by
      simp only [eval] at h
      split at h
      · rename_i i f1 g1 e1
        split at h
        · rename_i j f2 g2 e2
          split at h
          · rename_i z e3; cases h; simp only [rd]; exact ev_bin (iha.1 δ _ e1) (ihb.1 δ _ e2) e3
          · cases h
        · cases h
      · cases h
    refine ⟨ev, fun δ r h => ?_, fun δ r h => ?_, fun δ r h => ?_, fun δ b f g t h => ?_⟩
    · simp [evalA] at h
    · simp [evalO] at h
    · simp [evalI] at h
    · simp [isTst] at t
  | cat a b iha ihb =>
    have ev : ∀ δ r, eval Γ (.cat a b) δ = some r → EvOk C B0 H0 (rd C Γ (.cat a b)) δ r := fun δ r h => by
      simp only [eval] at h
      split at h
      · rename_i i f1 g1 e1
        split at h
        · rename_i j f2 g2 e2
          split at h
          · rename_i e3; cases h; simp only [rd]; exact (nw_cat (iha.1 δ _ e1) (ihb.1 δ _ e2) e3).up.ev
          · cases h
        · cases h
      · cases h
    refine ⟨ev, fun δ r h => ?_, fun δ r h => ?_, fun δ r h => ?_, fun δ b f g t h => ?_⟩
    · simp [evalA] at h
    · simp [evalO] at h
    · simp [evalI] at h
    · simp [isTst] at t
  | rep a b iha ihb =>
    have ev : ∀ δ r, eval Γ (.rep a b) δ = some r → EvOk C B0 H0 (rd C Γ (.rep a b)) δ r := fun δ r h => by
      simp only [eval] at h
      split at h
      · rename_i i f1 g1 e1
        split at h
        · rename_i j f2 g2 e2
          split at h
          · rename_i e3; cases h; simp only [rd]; exact (nw_rep (iha.1 δ _ e1) (ihb.1 δ _ e2) e3).up.ev
          · cases h
        · cases h
      · cases h
    refine ⟨ev, fun δ r h => ?_, fun δ r h => ?_, fun δ r h => ?_, fun δ b f g t h => ?_⟩
    · simp [evalA] at h
    · simp [evalO] at h
    · simp [evalI] at h
    · simp [isTst] at t
  | neg a iha =>
    have ev : ∀ δ r, eval Γ (.neg a) δ = some r → EvOk C B0 H0 (rd C Γ (.neg a)) δ r := fun δ r h => by
      simp only [eval] at h
      split at h
      · rename_i i f1 g1 e1; cases h; simp only [rd]; exact ev_neg (iha.1 δ _ e1)
      · cases h
    refine ⟨ev, fun δ r h => ?_, fun δ r h => ?_, fun δ r h => ?_, fun δ b f g t h => ?_⟩
    · simp [evalA] at h
    · simp [evalO] at h
    · simp [evalI] at h
    · simp [isTst] at t
  | not a iha =>
    have ev : ∀ δ r, eval Γ (.not a) δ = some r → EvOk C B0 H0 (rd C Γ (.not a)) δ r := fun δ r h => by
      simp only [eval] at h
      split at h
      · rename_i i f1 g1 e1; cases h; simp only [rd]; exact ev_not (iha.1 δ _ e1)
      · cases h
    refine ⟨ev, fun δ r h => ?_, fun δ r h => ?_, fun δ r h => ?_, fun δ b f g t h => ?_⟩
    · simp [evalA] at h
    · simp [evalO] at h
    · simp [evalI] at h
    · simp only [isTst] at t
      simp only [eval] at h
      split at h
      · rename_i i f1 g1 e1; cases h; simp only [rdT]; exact tt_not (iha.2.2.2.2 δ _ _ _ t e1)
      · cases h
  | eq a b iha ihb =>
    have ev : ∀ δ r, eval Γ (.eq a b) δ = some r → EvOk C B0 H0 (rd C Γ (.eq a b)) δ r := fun δ r h => by
      simp only [eval] at h
      split at h
      · rename_i x f1 g1 e1
        split at h
        · rename_i y f2 g2 e2
          split at h
          · rename_i e3; cases h; simp only [rd]; exact ev_eq (iha.1 δ _ e1) (ihb.1 δ _ e2) e3
          · cases h
        · cases h
      · cases h
    refine ⟨ev, fun δ r h => ?_, fun δ r h => ?_, fun δ r h => ?_, fun δ b f g t h => ?_⟩
    · simp [evalA] at h
    · simp [evalO] at h
    · simp [evalI] at h
    · have k := ev δ _ h
      simp only [rd] at k
      simp only [rdT]
      exact tt_B k
  | ne a b iha ihb =>
    have ev : ∀ δ r, eval Γ (.ne a b) δ = some r → EvOk C B0 H0 (rd C Γ (.ne a b)) δ r := fun δ r h => by
      simp only [eval] at h
      split at h
      · rename_i x f1 g1 e1
        split at h
        · rename_i y f2 g2 e2
          split at h
          · rename_i e3; cases h; simp only [rd]; exact ev_ne (iha.1 δ _ e1) (ihb.1 δ _ e2) e3
          · cases h
        · cases h
      · cases h
    refine ⟨ev, fun δ r h => ?_, fun δ r h => ?_, fun δ r h => ?_, fun δ b f g t h => ?_⟩
    · simp [evalA] at h
    · simp [evalO] at h
    · simp [evalI] at h
    · have k := ev δ _ h
      simp only [rd] at k
      simp only [rdT]
      exact tt_B k
  | cmp o a b iha ihb =>
    have ev : ∀ δ r, eval Γ (.cmp o a b) δ = some r → EvOk C B0 H0 (rd C Γ (.cmp o a b)) δ r := fun δ r h => by
      simp only [eval] at h
      split at h
      · rename_i i f1 g1 e1
        split at h
        · rename_i j f2 g2 e2
          cases h; simp only [rd]; exact ev_cmp (iha.1 δ _ e1) (ihb.1 δ _ e2)
        · cases h
      · cases h
    refine ⟨ev, fun δ r h => ?_, fun δ r h => ?_, fun δ r h => ?_, fun δ b f g t h => ?_⟩
    · simp [evalA] at h
    · simp [evalO] at h
    · simp [evalI] at h
    · have k := ev δ _ h
      simp only [rd] at k
      simp only [rdT]
      exact tt_B k
  | chn o o' a b c iha ihb ihc =>
    have ev : ∀ δ r, eval Γ (.chn o o' a b c) δ = some r → EvOk C B0 H0 (rd C Γ (.chn o o' a b c)) δ r := fun δ r h => by
      simp only [eval] at h
      split at h
      · rename_i i f1 g1 e1
        split at h
        · rename_i j f2 g2 e2
          split at h
          · rename_i e3
            split at h
            · rename_i k f3 g3 e4; cases h; simp only [rd]; exact ev_chn1 (iha.1 δ _ e1) (ihb.1 δ _ e2) (ihc.1 δ _ e4) e3
            · cases h
          · rename_i e3; cases h; simp only [rd]; exact ev_chn0 (iha.1 δ _ e1) (ihb.1 δ _ e2) e3
        · cases h
      · cases h
    refine ⟨ev, fun δ r h => ?_, fun δ r h => ?_, fun δ r h => ?_, fun δ b f g t h => ?_⟩
    · simp [evalA] at h
    · simp [evalO] at h
    · simp [evalI] at h
    · have k := ev δ _ h
      simp only [rd] at k
      simp only [rdT]
      exact tt_B k
  | isb a b iha ihb =>
    have ev : ∀ δ r, eval Γ (.isb a b) δ = some r → EvOk C B0 H0 (rd C Γ (.isb a b)) δ r := fun δ r h => by
      simp only [eval] at h
      split at h
      · rename_i i f1 g1 e1
        split at h
        · rename_i j f2 g2 e2
          cases h; simp only [rd]; exact ev_isb (iha.1 δ _ e1) (ihb.1 δ _ e2)
        · cases h
      · cases h
    refine ⟨ev, fun δ r h => ?_, fun δ r h => ?_, fun δ r h => ?_, fun δ b f g t h => ?_⟩
    · simp [evalA] at h
    · simp [evalO] at h
    · simp [evalI] at h
    · have k := ev δ _ h
      simp only [rd] at k
      simp only [rdT]
      exact tt_B k
  | isnb a b iha ihb =>
    have ev : ∀ δ r, eval Γ (.isnb a b) δ = some r → EvOk C B0 H0 (rd C Γ (.isnb a b)) δ r := fun δ r h => by
      simp only [eval] at h
      split at h
      · rename_i i f1 g1 e1
        split at h
        · rename_i j f2 g2 e2
          cases h; simp only [rd]; exact ev_isnb (iha.1 δ _ e1) (ihb.1 δ _ e2)
        · cases h
      · cases h
    refine ⟨ev, fun δ r h => ?_, fun δ r h => ?_, fun δ r h => ?_, fun δ b f g t h => ?_⟩
    · simp [evalA] at h
    · simp [evalO] at h
    · simp [evalI] at h
    · have k := ev δ _ h
      simp only [rd] at k
      simp only [rdT]
      exact tt_B k
  | and a b iha ihb =>
    have ev : ∀ δ r, eval Γ (.and a b) δ = some r → EvOk C B0 H0 (rd C Γ (.and a b)) δ r := fun δ r h => by
      simp only [eval] at h
      split at h
      · rename_i f1 g1 e1; simp only [rd]; exact ev_and1 (iha.1 δ _ e1) (ihb.1 δ _ h)
      · rename_i f1 g1 e1; cases h; simp only [rd]; exact ev_and0 (iha.1 δ _ e1)
      · cases h
    refine ⟨ev, fun δ r h => ?_, fun δ r h => ?_, fun δ r h => ?_, fun δ b f g t h => ?_⟩
    · simp [evalA] at h
    · simp [evalO] at h
    · simp [evalI] at h
    · simp only [isTst, Bool.and_eq_true] at t
      simp only [eval] at h
      split at h
      · rename_i f1 g1 e1; simp only [rdT]; exact tt_and1 (iha.2.2.2.2 δ _ _ _ t.1 e1) (ihb.2.2.2.2 δ _ _ _ t.2 h)
      · rename_i f1 g1 e1; cases h; simp only [rdT]; exact tt_and0 (iha.2.2.2.2 δ _ _ _ t.1 e1)
      · cases h
  | or a b iha ihb =>
    have ev : ∀ δ r, eval Γ (.or a b) δ = some r → EvOk C B0 H0 (rd C Γ (.or a b)) δ r := fun δ r h => by
      simp only [eval] at h
      split at h
      · rename_i f1 g1 e1; simp only [rd]; exact ev_or0 (iha.1 δ _ e1) (ihb.1 δ _ h)
      · rename_i f1 g1 e1; cases h; simp only [rd]; exact ev_or1 (iha.1 δ _ e1)
      · cases h
    refine ⟨ev, fun δ r h => ?_, fun δ r h => ?_, fun δ r h => ?_, fun δ b f g t h => ?_⟩
    · simp [evalA] at h
    · simp [evalO] at h
    · simp [evalI] at h
    · simp only [isTst, Bool.and_eq_true] at t
      simp only [eval] at h
      split at h
      · rename_i f1 g1 e1; simp only [rdT]; exact tt_or0 (iha.2.2.2.2 δ _ _ _ t.1 e1) (ihb.2.2.2.2 δ _ _ _ t.2 h)
      · rename_i f1 g1 e1; cases h; simp only [rdT]; exact tt_or1 (iha.2.2.2.2 δ _ _ _ t.1 e1)
      · cases h
  | ite c a b ihc iha ihb =>
    have ev : ∀ δ r, eval Γ (.ite c a b) δ = some r → EvOk C B0 H0 (rd C Γ (.ite c a b)) δ r := fun δ r h => by
      simp only [eval] at h
      split at h
      · rename_i t
        split at h
        · rename_i f1 g1 e1; simp only [rd]; exact ev_ite1 (ihc.2.2.2.2 δ _ _ _ t e1) (iha.1 δ _ h)
        · rename_i f1 g1 e1; simp only [rd]; exact ev_ite0 (ihc.2.2.2.2 δ _ _ _ t e1) (ihb.1 δ _ h)
        · cases h
      · cases h
    refine ⟨ev, fun δ r h => ?_, fun δ r h => ?_, fun δ r h => ?_, fun δ b f g t h => ?_⟩
    · simp [evalA] at h
    · simp [evalO] at h
    · simp [evalI] at h
    · simp [isTst] at t
  | ix a b iha ihb =>
    have ev : ∀ δ r, eval Γ (.ix a b) δ = some r → EvOk C B0 H0 (rd C Γ (.ix a b)) δ r := fun δ r h => by
      simp only [eval] at h
      split at h
      · rename_i xs f1 g1 e1
        split at h
        · rename_i i f2 g2 e2
          split at h
          · rename_i d e3; cases h; simp only [rd]; exact ev_ixL (iha.1 δ _ e1) (ihb.1 δ _ e2) e3
          · cases h
        · cases h
      · rename_i xs f1 g1 e1
        split at h
        · rename_i i f2 g2 e2
          split at h
          · rename_i d e3; cases h; simp only [rd]; exact ev_ixT (iha.1 δ _ e1) (ihb.1 δ _ e2) e3
          · cases h
        · cases h
      · cases h
    refine ⟨ev, fun δ r h => ?_, fun δ r h => ?_, fun δ r h => ?_, fun δ b f g t h => ?_⟩
    · simp [evalA] at h
    · simp [evalO] at h
    · simp [evalI] at h
    · have k := ev δ _ h
      simp only [rd] at k
      simp only [rdT]
      exact tt_B k
  | oix j b ihb =>
    have ev : ∀ δ r, eval Γ (.oix j b) δ = some r → EvOk C B0 H0 (rd C Γ (.oix j b)) δ r := fun δ r h => by
      simp only [eval] at h
      split at h
      · rename_i xs g1 e1
        split at h
        · rename_i i f2 g2 e2
          split at h
          · rename_i d e3; cases h; simp only [rd]; exact ev_oix e1 (ihb.1 δ _ e2) e3
          · cases h
        · cases h
      · cases h
    refine ⟨ev, fun δ r h => ?_, fun δ r h => ?_, fun δ r h => ?_, fun δ b f g t h => ?_⟩
    · simp [evalA] at h
    · simp [evalO] at h
    · simp [evalI] at h
    · simp [isTst] at t
  | sl a lo hi iha ihl ihh =>
    have ev : ∀ δ r, eval Γ (.sl a lo hi) δ = some r → EvOk C B0 H0 (rd C Γ (.sl a lo hi)) δ r := fun δ r h => by
      simp only [eval] at h
      split at h
      · rename_i xs f1 g1 e1
        split at h
        · rename_i l e2
          split at h
          · rename_i u e3; cases h; simp only [rd]; exact (nw_sl (iha.1 δ _ e1) (ihl.2.2.1 δ _ e2) (ihh.2.2.1 δ _ e3)).up.ev
          · cases h
        · cases h
      · cases h
    refine ⟨ev, fun δ r h => ?_, fun δ r h => ?_, fun δ r h => ?_, fun δ b f g t h => ?_⟩
    · simp [evalA] at h
    · simp [evalO] at h
    · simp [evalI] at h
    · simp [isTst] at t
  | tup es ihe =>
    have ev : ∀ δ r, eval Γ (.tup es) δ = some r → EvOk C B0 H0 (rd C Γ (.tup es)) δ r := fun δ r h => by
      simp only [eval] at h
      split at h
      · rename_i ds f1 g1 e1
        split at h
        · rename_i e2; cases h; simp only [rd]; exact ev_tup (ihe.2.1 δ _ e1) e2
        · cases h
      · cases h
    refine ⟨ev, fun δ r h => ?_, fun δ r h => ?_, fun δ r h => ?_, fun δ b f g t h => ?_⟩
    · simp [evalA] at h
    · simp [evalO] at h
    · simp [evalI] at h
    · simp [isTst] at t
  | lst es ihe =>
    have ev : ∀ δ r, eval Γ (.lst es) δ = some r → EvOk C B0 H0 (rd C Γ (.lst es)) δ r := fun δ r h => by
      simp only [eval] at h
      split at h
      · rename_i ds f1 g1 e1
        split at h
        · rename_i e2; cases h; simp only [rd]; exact (nw_lst (ihe.2.1 δ _ e1) e2).ev
        · cases h
      · cases h
    refine ⟨ev, fun δ r h => ?_, fun δ r h => ?_, fun δ r h => ?_, fun δ b f g t h => ?_⟩
    · simp [evalA] at h
    · simp [evalO] at h
    · simp [evalI] at h
    · simp [isTst] at t
  | len a iha =>
    have ev : ∀ δ r, eval Γ (.len a) δ = some r → EvOk C B0 H0 (rd C Γ (.len a)) δ r := fun δ r h => by
      simp only [eval] at h
      split at h
      · rename_i xs f1 g1 e1; cases h; simp only [rd]; exact ev_lenL (iha.1 δ _ e1)
      · rename_i xs f1 g1 e1; cases h; simp only [rd]; exact ev_lenT (iha.1 δ _ e1)
      · cases h
    refine ⟨ev, fun δ r h => ?_, fun δ r h => ?_, fun δ r h => ?_, fun δ b f g t h => ?_⟩
    · simp [evalA] at h
    · simp [evalO] at h
    · simp [evalI] at h
    · simp [isTst] at t
  | isI t a iha =>
    have ev : ∀ δ r, eval Γ (.isI t a) δ = some r → EvOk C B0 H0 (rd C Γ (.isI t a)) δ r := fun δ r h => by
      simp only [eval] at h
      split at h
      · rename_i d f1 g1 e1
        split at h
        · rename_i b e2; cases h; simp only [rd]; exact ev_isI (iha.1 δ _ e1) e2
        · cases h
      · cases h
    refine ⟨ev, fun δ r h => ?_, fun δ r h => ?_, fun δ r h => ?_, fun δ b f g t h => ?_⟩
    · simp [evalA] at h
    · simp [evalO] at h
    · simp [evalI] at h
    · have k := ev δ _ h
      simp only [rd] at k
      simp only [rdT]
      exact tt_B k
  | toL a iha =>
    have ev : ∀ δ r, eval Γ (.toL a) δ = some r → EvOk C B0 H0 (rd C Γ (.toL a)) δ r := fun δ r h => by
      simp only [eval] at h
      split at h
      · rename_i xs f1 g1 e1; cases h; simp only [rd]; exact (nw_toL (iha.1 δ _ e1)).up2.ev
      · rename_i xs f1 g1 e1; cases h; simp only [rd]; exact (nw_toLT (iha.1 δ _ e1)).up2.ev
      · cases h
    refine ⟨ev, fun δ r h => ?_, fun δ r h => ?_, fun δ r h => ?_, fun δ b f g t h => ?_⟩
    · simp [evalA] at h
    · simp [evalO] at h
    · simp [evalI] at h
    · simp [isTst] at t
  | all a iha =>
    have ev : ∀ δ r, eval Γ (.all a) δ = some r → EvOk C B0 H0 (rd C Γ (.all a)) δ r := fun δ r h => by
      simp only [eval] at h
      split at h
      · rename_i xs f1 g1 e1
        split at h
        · rename_i bs e2; cases h; simp only [rd]; exact ev_bls (iha.1 δ _ e1) e2 (emp_bl _) fun a H Q s q => ⟨a, bs, rfl, s, q⟩
        · cases h
      · cases h
    refine ⟨ev, fun δ r h => ?_, fun δ r h => ?_, fun δ r h => ?_, fun δ b f g t h => ?_⟩
    · simp [evalA] at h
    · simp [evalO] at h
    · simp [evalI] at h
    · have k := ev δ _ h
      simp only [rd] at k
      simp only [rdT]
      exact tt_B k
  | any a iha =>
    have ev : ∀ δ r, eval Γ (.any a) δ = some r → EvOk C B0 H0 (rd C Γ (.any a)) δ r := fun δ r h => by
      simp only [eval] at h
      split at h
      · rename_i xs f1 g1 e1
        split at h
        · rename_i bs e2; cases h; simp only [rd]; exact ev_bls (iha.1 δ _ e1) e2 (emp_bl _) fun a H Q s q => ⟨a, bs, rfl, s, q⟩
        · cases h
      · cases h
    refine ⟨ev, fun δ r h => ?_, fun δ r h => ?_, fun δ r h => ?_, fun δ b f g t h => ?_⟩
    · simp [evalA] at h
    · simp [evalO] at h
    · simp [evalI] at h
    · have k := ev δ _ h
      simp only [rd] at k
      simp only [rdT]
      exact tt_B k
  | cnt a b iha ihb =>
    have ev : ∀ δ r, eval Γ (.cnt a b) δ = some r → EvOk C B0 H0 (rd C Γ (.cnt a b)) δ r := fun δ r h => by
      simp only [eval] at h
      split at h
      · rename_i i f1 g1 e1
        split at h
        · rename_i j f2 g2 e2
          split at h
          · rename_i ns e3; cases h; simp only [rd]; exact ev_cnt (iha.1 δ _ e1) (ihb.1 δ _ e2) e3
          · cases h
        · cases h
      · cases h
    refine ⟨ev, fun δ r h => ?_, fun δ r h => ?_, fun δ r h => ?_, fun δ b f g t h => ?_⟩
    · simp [evalA] at h
    · simp [evalO] at h
    · simp [evalI] at h
    · simp [isTst] at t
  | min2 a b iha ihb =>
    have ev : ∀ δ r, eval Γ (.min2 a b) δ = some r → EvOk C B0 H0 (rd C Γ (.min2 a b)) δ r := fun δ r h => by
      simp only [eval] at h
      split at h
      · rename_i i f1 g1 e1
        split at h
        · rename_i j f2 g2 e2
          cases h; simp only [rd]; exact ev_mm (iha.1 δ _ e1) (ihb.1 δ _ e2) fun H Q q => ⟨_, _, rfl, q⟩
        · cases h
      · cases h
    refine ⟨ev, fun δ r h => ?_, fun δ r h => ?_, fun δ r h => ?_, fun δ b f g t h => ?_⟩
    · simp [evalA] at h
    · simp [evalO] at h
    · simp [evalI] at h
    · simp [isTst] at t
  | max2 a b iha ihb =>
    have ev : ∀ δ r, eval Γ (.max2 a b) δ = some r → EvOk C B0 H0 (rd C Γ (.max2 a b)) δ r := fun δ r h => by
      simp only [eval] at h
      split at h
      · rename_i i f1 g1 e1
        split at h
        · rename_i j f2 g2 e2
          cases h; simp only [rd]; exact ev_mm (iha.1 δ _ e1) (ihb.1 δ _ e2) fun H Q q => ⟨_, _, rfl, q⟩
        · cases h
      · cases h
    refine ⟨ev, fun δ r h => ?_, fun δ r h => ?_, fun δ r h => ?_, fun δ b f g t h => ?_⟩
    · simp [evalA] at h
    · simp [evalO] at h
    · simp [evalI] at h
    · simp [isTst] at t
  | sum a iha =>
    have ev : ∀ δ r, eval Γ (.sum a) δ = some r → EvOk C B0 H0 (rd C Γ (.sum a)) δ r := fun δ r h => by
      simp only [eval] at h
      split at h
      · rename_i xs f1 g1 e1
        split at h
        · rename_i bs e2; cases h; simp only [rd]; exact ev_ints (iha.1 δ _ e1) e2 (emp_int _) fun a H Q s q => ⟨a, bs, rfl, s, q⟩
        · cases h
      · cases h
    refine ⟨ev, fun δ r h => ?_, fun δ r h => ?_, fun δ r h => ?_, fun δ b f g t h => ?_⟩
    · simp [evalA] at h
    · simp [evalO] at h
    · simp [evalI] at h
    · simp [isTst] at t
  | cntD a b iha ihb =>
    have ev : ∀ δ r, eval Γ (.cntD a b) δ = some r → EvOk C B0 H0 (rd C Γ (.cntD a b)) δ r := fun δ r h => by
      simp only [eval] at h
      split at h
      · rename_i xs f1 g1 e1
        split at h
        · rename_i y f2 g2 e2
          split at h
          · rename_i e3; cases h; simp only [rd]; exact ev_cntD (iha.1 δ _ e1) (ihb.1 δ _ e2) e3
          · cases h
        · cases h
      · cases h
    refine ⟨ev, fun δ r h => ?_, fun δ r h => ?_, fun δ r h => ?_, fun δ b f g t h => ?_⟩
    · simp [evalA] at h
    · simp [evalO] at h
    · simp [evalI] at h
    · simp [isTst] at t
  | tupL a iha =>
    have ev : ∀ δ r, eval Γ (.tupL a) δ = some r → EvOk C B0 H0 (rd C Γ (.tupL a)) δ r := fun δ r h => by
      simp only [eval] at h
      split at h
      · rename_i xs f1 g1 e1; cases h; simp only [rd]; exact ev_tupL (iha.1 δ _ e1)
      · cases h
    refine ⟨ev, fun δ r h => ?_, fun δ r h => ?_, fun δ r h => ?_, fun δ b f g t h => ?_⟩
    · simp [evalA] at h
    · simp [evalO] at h
    · simp [evalI] at h
    · simp [isTst] at t
  | lenSet a iha =>
    have ev : ∀ δ r, eval Γ (.lenSet a) δ = some r → EvOk C B0 H0 (rd C Γ (.lenSet a)) δ r := fun δ r h => by
      simp only [eval] at h
      split at h
      · rename_i xs f1 g1 e1
        split at h
        · rename_i nss e2
          split at h
          · rename_i e3; cases h; simp only [rd]; exact ev_lenSet (iha.1 δ _ e1) e2 e3
          · cases h
        · cases h
      · cases h
    refine ⟨ev, fun δ r h => ?_, fun δ r h => ?_, fun δ r h => ?_, fun δ b f g t h => ?_⟩
    · simp [evalA] at h
    · simp [evalO] at h
    · simp [evalI] at h
    · simp [isTst] at t
  | toR a iha =>
    have ev : ∀ δ r, eval Γ (.toR a) δ = some r → EvOk C B0 H0 (rd C Γ (.toR a)) δ r := fun δ r h => by
      simp only [eval] at h
      split at h
      · rename_i n f1 g1 e1
        split at h
        · rename_i e2; cases h; simp only [rd]; exact (nw_toR (iha.1 δ _ e1) e2).ev
        · cases h
      · cases h
    refine ⟨ev, fun δ r h => ?_, fun δ r h => ?_, fun δ r h => ?_, fun δ b f g t h => ?_⟩
    · simp [evalA] at h
    · simp [evalO] at h
    · simp [evalI] at h
    · simp [isTst] at t
  | srt a iha =>
    have ev : ∀ δ r, eval Γ (.srt a) δ = some r → EvOk C B0 H0 (rd C Γ (.srt a)) δ r := fun δ r h => by
      simp only [eval] at h
      split at h
      · rename_i xs f1 g1 e1
        split at h
        · rename_i ns e2
          split at h
          · rename_i e3; cases h; simp only [rd]; exact (nw_srt (iha.1 δ _ e1) e2 e3).ev
          · cases h
        · cases h
      · cases h
    refine ⟨ev, fun δ r h => ?_, fun δ r h => ?_, fun δ r h => ?_, fun δ b f g t h => ?_⟩
    · simp [evalA] at h
    · simp [evalO] at h
    · simp [evalI] at h
    · simp [isTst] at t
  | call k es ihe =>
    have ev : ∀ δ r, eval Γ (.call k es) δ = some r → EvOk C B0 H0 (rd C Γ (.call k es)) δ r := fun δ r h => by
      simp only [eval] at h
      split at h
      · rename_i F eF
        split at h
        · rename_i ds f1 g1 e1
          split at h
          · rename_i e2
            split at h
            · rename_i d e3; cases h; simp only [rd, eF]; exact ev_call (ihe.2.1 δ _ e1) e2 e3
            · cases h
          · cases h
        · cases h
      · cases h
    refine ⟨ev, fun δ r h => ?_, fun δ r h => ?_, fun δ r h => ?_, fun δ b f g t h => ?_⟩
    · simp [evalA] at h
    · simp [evalO] at h
    · simp [evalI] at h
    · have k := ev δ _ h
      simp only [rd] at k
      simp only [rdT]
      exact tt_B k
  | lc t it e ihi ihe =>
    have ev : ∀ δ r, eval Γ (.lc t it e) δ = some r → EvOk C B0 H0 (rd C Γ (.lc t it e)) δ r := fun δ r h => by
      simp only [eval] at h
      split at h
      · rename_i ds g e1
        split at h
        · rename_i e2
          split at h
          · rename_i ys gs e3; cases h; simp only [rd]; exact (nw_lc (ihi.2.2.2.1 δ _ e1).w e2 e3 (fun δ2 b hb => by cases hb; exact tt_yes) (fun δ2 r hr => ihe.1 δ2 r hr)).ev
          · cases h
        · cases h
      · cases h
    refine ⟨ev, fun δ r h => ?_, fun δ r h => ?_, fun δ r h => ?_, fun δ b f g t h => ?_⟩
    · simp [evalA] at h
    · simp [evalO] at h
    · simp [evalI] at h
    · simp [isTst] at t
  | lcQ t a e iha ihe =>
    have ev : ∀ δ r, eval Γ (.lcQ t a e) δ = some r → EvOk C B0 H0 (rd C Γ (.lcQ t a e)) δ r := fun δ r h => by
      simp only [eval] at h
      split at h
      · rename_i ds f1 g1 e1
        split at h
        · rename_i e2
          split at h
          · rename_i ys gs e3; cases h; simp only [rd]; exact (nw_lc (it_Q (iha.1 δ _ e1) e2.2) e2.1 e3 (fun δ2 b hb => by cases hb; exact tt_yes) (fun δ2 r hr => ihe.1 δ2 r hr)).ev
          · cases h
        · cases h
      · cases h
    refine ⟨ev, fun δ r h => ?_, fun δ r h => ?_, fun δ r h => ?_, fun δ b f g t h => ?_⟩
    · simp [evalA] at h
    · simp [evalO] at h
    · simp [evalI] at h
    · simp [isTst] at t
  | lcf t it c e ihi ihc ihe =>
    have ev : ∀ δ r, eval Γ (.lcf t it c e) δ = some r → EvOk C B0 H0 (rd C Γ (.lcf t it c e)) δ r := fun δ r h => by
      simp only [eval] at h
      split at h
      · rename_i ds g e1
        split at h
        · rename_i e2
          split at h
          · rename_i ys gs e3; cases h; simp only [rd]; exact (nw_lc (ihi.2.2.2.1 δ _ e1).w e2.1 e3 (fun δ2 b hb => tst_tt e2.2 ihc.2.2.2.2 hb) (fun δ2 r hr => ihe.1 δ2 r hr)).ev
          · cases h
        · cases h
      · cases h
    refine ⟨ev, fun δ r h => ?_, fun δ r h => ?_, fun δ r h => ?_, fun δ b f g t h => ?_⟩
    · simp [evalA] at h
    · simp [evalO] at h
    · simp [evalI] at h
    · simp [isTst] at t
  | inn a b iha ihb =>
    have ev : ∀ δ r, eval Γ (.inn a b) δ = some r → EvOk C B0 H0 (rd C Γ (.inn a b)) δ r := fun δ r h => by
      simp only [eval] at h
      split at h
      · rename_i x f1 g1 e1
        split at h
        · rename_i ys f2 g2 e2
          split at h
          · rename_i e3; cases h; simp only [rd]; exact ev_inn (iha.1 δ _ e1) (ihb.1 δ _ e2) e3
          · cases h
        · cases h
      · cases h
    refine ⟨ev, fun δ r h => ?_, fun δ r h => ?_, fun δ r h => ?_, fun δ b f g t h => ?_⟩
    · simp [evalA] at h
    · simp [evalO] at h
    · simp [evalI] at h
    · have k := ev δ _ h
      simp only [rd] at k
      simp only [rdT]
      exact tt_B k
  | nin a b iha ihb =>
    have ev : ∀ δ r, eval Γ (.nin a b) δ = some r → EvOk C B0 H0 (rd C Γ (.nin a b)) δ r := fun δ r h => by
      simp only [eval] at h
      split at h
      · rename_i x f1 g1 e1
        split at h
        · rename_i ys f2 g2 e2
          split at h
          · rename_i e3; cases h; simp only [rd]; exact ev_nin (iha.1 δ _ e1) (ihb.1 δ _ e2) e3
          · cases h
        · cases h
      · cases h
    refine ⟨ev, fun δ r h => ?_, fun δ r h => ?_, fun δ r h => ?_, fun δ b f g t h => ?_⟩
    · simp [evalA] at h
    · simp [evalO] at h
    · simp [evalI] at h
    · have k := ev δ _ h
      simp only [rd] at k
      simp only [rdT]
      exact tt_B k
  | inT a b iha ihb =>
    have ev : ∀ δ r, eval Γ (.inT a b) δ = some r → EvOk C B0 H0 (rd C Γ (.inT a b)) δ r := fun δ r h => by
      simp only [eval] at h
      split at h
      · rename_i i f1 g1 e1
        split at h
        · rename_i j f2 g2 e2
          split at h
          · rename_i ss e3; cases h; simp only [rd]; exact ev_inT (iha.1 δ _ e1) (ihb.1 δ _ e2) e3
          · cases h
        · cases h
      · cases h
    refine ⟨ev, fun δ r h => ?_, fun δ r h => ?_, fun δ r h => ?_, fun δ b f g t h => ?_⟩
    · simp [evalA] at h
    · simp [evalO] at h
    · simp [evalI] at h
    · have k := ev δ _ h
      simp only [rd] at k
      simp only [rdT]
      exact tt_B k
  | fld nm a iha =>
    have ev : ∀ δ r, eval Γ (.fld nm a) δ = some r → EvOk C B0 H0 (rd C Γ (.fld nm a)) δ r := fun δ r h => by
      simp only [eval] at h
      split at h
      · rename_i c fs f1 g1 e1
        split at h
        · rename_i ns e2
          split at h
          · split at h
            · rename_i d e3; cases h; simp only [rd]; exact ev_fld hk (iha.1 δ _ e1) e2 e3
            · cases h
          · cases h
        · cases h
      · cases h
    refine ⟨ev, fun δ r h => ?_, fun δ r h => ?_, fun δ r h => ?_, fun δ b f g t h => ?_⟩
    · simp [evalA] at h
    · simp [evalO] at h
    · simp [evalI] at h
    · simp [isTst] at t
  | isC c' a iha =>
    have ev : ∀ δ r, eval Γ (.isC c' a) δ = some r → EvOk C B0 H0 (rd C Γ (.isC c' a)) δ r := fun δ r h => by
      simp only [eval] at h
      split at h
      · rename_i c fs f1 g1 e1
        split at h
        · rename_i ns e2
          split at h
          · rename_i r e3
            split at h
            · rename_i b e4; cases h; simp only [rd]; exact ev_isC hk (iha.1 δ _ e1) e2 e3 e4
            · cases h
          · cases h
        · cases h
      · cases h
    refine ⟨ev, fun δ r h => ?_, fun δ r h => ?_, fun δ r h => ?_, fun δ b f g t h => ?_⟩
    · simp [evalA] at h
    · simp [evalO] at h
    · simp [evalI] at h
    · have k := ev δ _ h
      simp only [rd] at k
      simp only [rdT]
      exact tt_B k
  | minL a iha =>
    have ev : ∀ δ r, eval Γ (.minL a) δ = some r → EvOk C B0 H0 (rd C Γ (.minL a)) δ r := fun δ r h => by
      simp only [eval] at h
      split at h
      · rename_i x xs f1 g1 e1
        split at h
        · rename_i e2; cases h; simp only [rd]; exact ev_minL (iha.1 δ _ e1) e2
        · cases h
      · cases h
    refine ⟨ev, fun δ r h => ?_, fun δ r h => ?_, fun δ r h => ?_, fun δ b f g t h => ?_⟩
    · simp [evalA] at h
    · simp [evalO] at h
    · simp [evalI] at h
    · simp [isTst] at t
  | maxL a iha =>
    have ev : ∀ δ r, eval Γ (.maxL a) δ = some r → EvOk C B0 H0 (rd C Γ (.maxL a)) δ r := fun δ r h => by
      simp only [eval] at h
      split at h
      · rename_i x xs f1 g1 e1
        split at h
        · rename_i e2; cases h; simp only [rd]; exact ev_maxL (iha.1 δ _ e1) e2
        · cases h
      · cases h
    refine ⟨ev, fun δ r h => ?_, fun δ r h => ?_, fun δ r h => ?_, fun δ b f g t h => ?_⟩
    · simp [evalA] at h
    · simp [evalO] at h
    · simp [evalI] at h
    · simp [isTst] at t
  | rev a iha =>
    have ev : ∀ δ r, eval Γ (.rev a) δ = some r → EvOk C B0 H0 (rd C Γ (.rev a)) δ r := fun δ r h => by
      simp only [eval] at h
      split at h
      · rename_i xs f1 g1 e1; cases h; simp only [rd]; exact (nw_rev (iha.1 δ _ e1)).up.ev
      · cases h
    refine ⟨ev, fun δ r h => ?_, fun δ r h => ?_, fun δ r h => ?_, fun δ b f g t h => ?_⟩
    · simp [evalA] at h
    · simp [evalO] at h
    · simp [evalI] at h
    · simp [isTst] at t
  | ev2 a iha =>
    have ev : ∀ δ r, eval Γ (.ev2 a) δ = some r → EvOk C B0 H0 (rd C Γ (.ev2 a)) δ r := fun δ r h => by
      simp only [eval] at h
      split at h
      · rename_i xs f1 g1 e1; cases h; simp only [rd]; exact (nw_ev2 (iha.1 δ _ e1)).up.ev
      · cases h
    refine ⟨ev, fun δ r h => ?_, fun δ r h => ?_, fun δ r h => ?_, fun δ b f g t h => ?_⟩
    · simp [evalA] at h
    · simp [evalO] at h
    · simp [evalI] at h
    · simp [isTst] at t
  | new k es ihe =>
    have ev : ∀ δ r, eval Γ (.new k es) δ = some r → EvOk C B0 H0 (rd C Γ (.new k es)) δ r := fun δ r h => by
      simp only [eval] at h
      split at h
      · rename_i F eF
        split at h
        · rename_i ds f1 g1 e1
          split at h
          · rename_i e2
            split at h
            · rename_i fs e3; cases h; simp only [rd, eF]; exact ev_new (ihe.2.1 δ _ e1) e2 e3
            · cases h
          · cases h
        · cases h
      · cases h
    refine ⟨ev, fun δ r h => ?_, fun δ r h => ?_, fun δ r h => ?_, fun δ b f g t h => ?_⟩
    · simp [evalA] at h
    · simp [evalO] at h
    · simp [evalI] at h
    · simp [isTst] at t
  | meth m o es iho ihe =>
    have ev : ∀ δ r, eval Γ (.meth m o es) δ = some r → EvOk C B0 H0 (rd C Γ (.meth m o es)) δ r := fun δ r h => by
      simp only [eval] at h
      split at h
      · rename_i nm tb eF
        split at h
        · rename_i c fs f1 g1 e0
          split at h
          · rename_i F e4
            split at h
            · rename_i ds f2 g2 e1
              split at h
              · rename_i e2
                split at h
                · rename_i d e3; cases h; simp only [rd, eF]; exact ev_meth hk (iho.1 δ _ e0) (ihe.2.1 δ _ e1) e4 e2 e3
                · cases h
              · cases h
            · cases h
          · cases h
        · cases h
      · cases h
    refine ⟨ev, fun δ r h => ?_, fun δ r h => ?_, fun δ r h => ?_, fun δ b f g t h => ?_⟩
    · simp [evalA] at h
    · simp [evalO] at h
    · simp [evalI] at h
    · have k := ev δ _ h
      simp only [rd] at k
      simp only [rdT]
      exact tt_B k
  | itR3 a b c iha ihb ihc =>
    have ev : ∀ δ r, eval Γ (.itR3 a b c) δ = some r → EvOk C B0 H0 (rd C Γ (.itR3 a b c)) δ r := fun δ r h => by
      simp [eval] at h
    refine ⟨ev, fun δ r h => ?_, fun δ r h => ?_, fun δ r h => ?_, fun δ b f g t h => ?_⟩
    · simp [evalA] at h
    · simp [evalO] at h
    · simp only [evalI] at h
      split at h
      · rename_i m f1 g1 e1
        split at h
        · rename_i n f2 g2 e2
          split at h
          · rename_i s f3 g3 e3
            split at h
            · rename_i e4; cases h; simp only [rdI]; exact it_R3 (iha.1 δ _ e1) (ihb.1 δ _ e2) (ihc.1 δ _ e3) e4
            · cases h
          · cases h
        · cases h
      · cases h
    · simp [isTst] at t
  | din a b iha ihb =>
    have ev : ∀ δ r, eval Γ (.din a b) δ = some r → EvOk C B0 H0 (rd C Γ (.din a b)) δ r := fun δ r h => by
      simp only [eval] at h
      split at h
      · rename_i k f1 g1 e1
        split at h
        · rename_i ks ds f2 g2 e2; cases h; simp only [rd]; exact ev_din (iha.1 δ _ e1) (ihb.1 δ _ e2)
        · cases h
      · cases h
    refine ⟨ev, fun δ r h => ?_, fun δ r h => ?_, fun δ r h => ?_, fun δ b f g t h => ?_⟩
    · simp [evalA] at h
    · simp [evalO] at h
    · simp [evalI] at h
    · have k := ev δ _ h
      simp only [rd] at k
      simp only [rdT]
      exact tt_B k
  | dix a b iha ihb =>
    have ev : ∀ δ r, eval Γ (.dix a b) δ = some r → EvOk C B0 H0 (rd C Γ (.dix a b)) δ r := fun δ r h => by
      simp only [eval] at h
      split at h
      · rename_i ks ds f1 g1 e1
        split at h
        · rename_i k f2 g2 e2
          split at h
          · rename_i d e3; cases h; simp only [rd]; exact ev_dix (iha.1 δ _ e1) (ihb.1 δ _ e2) e3
          · cases h
        · cases h
      · cases h
    refine ⟨ev, fun δ r h => ?_, fun δ r h => ?_, fun δ r h => ?_, fun δ b f g t h => ?_⟩
    · simp [evalA] at h
    · simp [evalO] at h
    · simp [evalI] at h
    · simp [isTst] at t
  | dget a b c iha ihb ihc =>
    have ev : ∀ δ r, eval Γ (.dget a b c) δ = some r → EvOk C B0 H0 (rd C Γ (.dget a b c)) δ r := fun δ r h => by
      simp only [eval] at h
      split at h
      · rename_i ks ds f1 g1 e1
        split at h
        · rename_i k f2 g2 e2
          split at h
          · rename_i x f3 g3 e3; cases h; simp only [rd]; exact ev_dget (iha.1 δ _ e1) (ihb.1 δ _ e2) (ihc.1 δ _ e3)
          · cases h
        · cases h
      · cases h
    refine ⟨ev, fun δ r h => ?_, fun δ r h => ?_, fun δ r h => ?_, fun δ b f g t h => ?_⟩
    · simp [evalA] at h
    · simp [evalO] at h
    · simp [evalI] at h
    · simp [isTst] at t
  | sumT a iha =>
    have ev : ∀ δ r, eval Γ (.sumT a) δ = some r → EvOk C B0 H0 (rd C Γ (.sumT a)) δ r := fun δ r h => by
      simp only [eval] at h
      split at h
      · rename_i xs f1 g1 e1
        split at h
        · rename_i ns e2; cases h; simp only [rd]; exact ev_sumT (iha.1 δ _ e1) e2
        · cases h
      · cases h
    refine ⟨ev, fun δ r h => ?_, fun δ r h => ?_, fun δ r h => ?_, fun δ b f g t h => ?_⟩
    · simp [evalA] at h
    · simp [evalO] at h
    · simp [evalI] at h
    · simp [isTst] at t
  | dnew  =>
    have ev : ∀ δ r, eval Γ (.dnew ) δ = some r → EvOk C B0 H0 (rd C Γ (.dnew )) δ r := fun δ r h => by
      simp only [eval] at h; cases h; simp only [rd]; exact ev_dnew
    refine ⟨ev, fun δ r h => ?_, fun δ r h => ?_, fun δ r h => ?_, fun δ b f g t h => ?_⟩
    · simp [evalA] at h
    · simp [evalO] at h
    · simp [evalI] at h
    · simp [isTst] at t
  | stp a b iha ihb =>
    have ev : ∀ δ r, eval Γ (.stp a b) δ = some r → EvOk C B0 H0 (rd C Γ (.stp a b)) δ r := fun δ r h => by
      simp only [eval] at h
      split at h
      · rename_i xs f1 g1 e1
        split at h
        · rename_i k f2 g2 e2
          split at h
          · rename_i e3; cases h; simp only [rd]; exact (nw_stp (iha.1 δ _ e1) (ihb.1 δ _ e2) e3).up.ev
          · cases h
        · cases h
      · cases h
    refine ⟨ev, fun δ r h => ?_, fun δ r h => ?_, fun δ r h => ?_, fun δ b f g t h => ?_⟩
    · simp [evalA] at h
    · simp [evalO] at h
    · simp [evalI] at h
    · simp [isTst] at t
  | nil  =>
    have ev : ∀ δ r, eval Γ (.nil ) δ = some r → EvOk C B0 H0 (rd C Γ (.nil )) δ r := fun δ r h => by
      simp [eval] at h
    refine ⟨ev, fun δ r h => ?_, fun δ r h => ?_, fun δ r h => ?_, fun δ b f g t h => ?_⟩
    · simp only [evalA] at h; cases h; simp only [rdA]; exact ar_nil
    · simp only [evalO] at h; cases h; simp only [rdO]; exact po_none
    · simp [evalI] at h
    · simp [isTst] at t
  | cons a tl iha ihr =>
    have ev : ∀ δ r, eval Γ (.cons a tl) δ = some r → EvOk C B0 H0 (rd C Γ (.cons a tl)) δ r := fun δ r h => by
      simp [eval] at h
    refine ⟨ev, fun δ r h => ?_, fun δ r h => ?_, fun δ r h => ?_, fun δ b f g t h => ?_⟩
    · simp only [evalA] at h
      split at h
      · rename_i d f1 g1 e1
        split at h
        · rename_i ds f2 g2 e2; cases h; simp only [rdA]; exact ar_cons (iha.1 δ _ e1) (ihr.2.1 δ _ e2)
        · cases h
      · cases h
    · cases tl with
      | nil =>
        simp only [evalO] at h
        split at h
        · rename_i i f1 g1 e1; cases h; simp only [rdO]; exact po_some (iha.1 δ _ e1)
        · cases h
      | _ => simp [evalO] at h
    · simp [evalI] at h
    · simp [isTst] at t
  | itL a iha =>
    have ev : ∀ δ r, eval Γ (.itL a) δ = some r → EvOk C B0 H0 (rd C Γ (.itL a)) δ r := fun δ r h => by
      simp [eval] at h
    refine ⟨ev, fun δ r h => ?_, fun δ r h => ?_, fun δ r h => ?_, fun δ b f g t h => ?_⟩
    · simp [evalA] at h
    · simp [evalO] at h
    · simp only [evalI] at h
      split at h
      · rename_i ds g e1; cases h; simp only [rdI]; exact it_L (iha.1 δ _ e1)
      · cases h
    · simp [isTst] at t
  | itT a iha =>
    have ev : ∀ δ r, eval Γ (.itT a) δ = some r → EvOk C B0 H0 (rd C Γ (.itT a)) δ r := fun δ r h => by
      simp [eval] at h
    refine ⟨ev, fun δ r h => ?_, fun δ r h => ?_, fun δ r h => ?_, fun δ b f g t h => ?_⟩
    · simp [evalA] at h
    · simp [evalO] at h
    · simp only [evalI] at h
      split at h
      · rename_i ds g e1; cases h; simp only [rdI]; exact it_T (iha.1 δ _ e1)
      · cases h
    · simp [isTst] at t
  | itE a iha =>
    have ev : ∀ δ r, eval Γ (.itE a) δ = some r → EvOk C B0 H0 (rd C Γ (.itE a)) δ r := fun δ r h => by
      simp [eval] at h
    refine ⟨ev, fun δ r h => ?_, fun δ r h => ?_, fun δ r h => ?_, fun δ b f g t h => ?_⟩
    · simp [evalA] at h
    · simp [evalO] at h
    · simp only [evalI] at h
      split at h
      · rename_i ds g e1; cases h; simp only [rdI]; exact it_E (iha.1 δ _ e1)
      · cases h
    · simp [isTst] at t
  | itR a iha =>
    have ev : ∀ δ r, eval Γ (.itR a) δ = some r → EvOk C B0 H0 (rd C Γ (.itR a)) δ r := fun δ r h => by
      simp [eval] at h
    refine ⟨ev, fun δ r h => ?_, fun δ r h => ?_, fun δ r h => ?_, fun δ b f g t h => ?_⟩
    · simp [evalA] at h
    · simp [evalO] at h
    · simp only [evalI] at h
      split at h
      · rename_i n f1 g1 e1
        split at h
        · rename_i e2; cases h; simp only [rdI]; exact it_R (iha.1 δ _ e1) e2
        · cases h
      · cases h
    · simp [isTst] at t
  | itR2 a b iha ihb =>
    have ev : ∀ δ r, eval Γ (.itR2 a b) δ = some r → EvOk C B0 H0 (rd C Γ (.itR2 a b)) δ r := fun δ r h => by
      simp [eval] at h
    refine ⟨ev, fun δ r h => ?_, fun δ r h => ?_, fun δ r h => ?_, fun δ b f g t h => ?_⟩
    · simp [evalA] at h
    · simp [evalO] at h
    · simp only [evalI] at h
      split at h
      · rename_i m f1 g1 e1
        split at h
        · rename_i n f2 g2 e2
          split at h
          · rename_i e3; cases h; simp only [rdI]; exact it_R2 (iha.1 δ _ e1) (ihb.1 δ _ e2) e3
          · cases h
        · cases h
      · cases h
    · simp [isTst] at t
  | itZ a b iha ihb =>
    have ev : ∀ δ r, eval Γ (.itZ a b) δ = some r → EvOk C B0 H0 (rd C Γ (.itZ a b)) δ r := fun δ r h => by
      simp [eval] at h
    refine ⟨ev, fun δ r h => ?_, fun δ r h => ?_, fun δ r h => ?_, fun δ b f g t h => ?_⟩
    · simp [evalA] at h
    · simp [evalO] at h
    · simp only [evalI] at h
      split at h
      · rename_i xs g1 e1
        split at h
        · rename_i ys g2 e2; cases h; simp only [rdI]; exact it_Z (iha.1 δ _ e1) (ihb.1 δ _ e2)
        · cases h
      · cases h
    · simp [isTst] at t
end
end G

namespace G
open PySem L2
section
variable {C : Cf} {B H H' : Hp}
mutual
theorem Tr.ex : ∀ {d : D} {v : V} {ps : List Addr}, Tr C B H d v ps → ∀ p ∈ ps, ∃ o, H p = some o
  | .ls ds, v, ps, h, p, hp => by
    rw [tr_ls] at h
    obtain ⟨a, xs, qs, h1, h2, rfl, h4⟩ := h
    rcases List.mem_cons.mp hp with rfl | hp
    · exact ⟨_, h2⟩
    · exact Trs.ex h4 p hp
  | .dc ks ds, v, ps, h, p, hp => by
    rw [tr_dc] at h
    obtain ⟨a, xs, qs, h1, h2, h3, rfl, h4⟩ := h
    rcases List.mem_cons.mp hp with rfl | hp
    · exact ⟨_, h2⟩
    · exact Trs.ex h4 p hp
  | .ob c ds, v, ps, h, p, hp => by
    rw [tr_ob] at h
    obtain ⟨a, dx, xs, qs, h1, h2, h3, rfl, h4⟩ := h
    rcases List.mem_cons.mp hp with rfl | hp
    · exact ⟨_, h2⟩
    · exact Trs.ex h4 p hp
  | .tp ds, v, ps, h, p, hp => by
    simp only [Tr] at h
    rw [h.1] at hp
    cases hp
  | .non, _, _, h, p, hp => by
    simp only [Tr] at h
    rw [h.1] at hp
    cases hp
  | .bl _, _, _, h, p, hp => by
    simp only [Tr] at h
    rw [h.1] at hp
    cases hp
  | .int _, _, _, h, p, hp => by
    simp only [Tr] at h
    rw [h.1] at hp
    cases hp
  | .str _, _, _, h, p, hp => by
    simp only [Tr] at h
    rw [h.1] at hp
    cases hp
theorem Trs.ex : ∀ {ds : List D} {vs : List V} {ps : List Addr}, Trs C B H ds vs ps → ∀ p ∈ ps, ∃ o, H p = some o
  | [], _, _, h, p, hp => by
    rw [trs_nil] at h
    rw [h.2] at hp
    cases hp
  | d :: ds, vs, ps, h, p, hp => by
    rw [trs_cons] at h
    obtain ⟨v, r, p1, p2, h1, rfl, h3, h4⟩ := h
    rcases List.mem_append.mp hp with hp | hp
    · exact Tr.ex h3 p hp
    · exact Trs.ex h4 p hp
end
mutual
theorem Tr.emp {B' : Hp} : ∀ {d : D} {v : V} {ps : List Addr}, d.tflat = true → Tr C B H d v ps → Tr C B' H d v ps
  | .ls ds, v, ps, e, h => by
    rw [tr_ls] at h ⊢
    obtain ⟨a, xs, qs, h1, h2, h3, h4⟩ := h
    exact ⟨a, xs, qs, h1, h2, h3, Trs.emp (by simpa only [D.tflat] using e) h4⟩
  | .dc ks ds, v, ps, e, h => by
    rw [tr_dc] at h ⊢
    obtain ⟨a, xs, qs, h1, h2, hl, h3, h4⟩ := h
    exact ⟨a, xs, qs, h1, h2, hl, h3, Trs.emp (by simpa only [D.tflat] using e) h4⟩
  | .ob c ds, v, ps, e, h => by
    rw [tr_ob] at h ⊢
    obtain ⟨a, dx, xs, qs, h1, h2, hl, h3, h4⟩ := h
    exact ⟨a, dx, xs, qs, h1, h2, hl, h3, Trs.emp (by simpa only [D.tflat] using e) h4⟩
  | .tp ds, v, ps, e, h => by simp [D.tflat] at e
  | .non, _, _, _, h => by simpa only [Tr] using h
  | .bl _, _, _, _, h => by simpa only [Tr] using h
  | .int _, _, _, _, h => by simpa only [Tr] using h
  | .str _, _, _, _, h => by simpa only [Tr] using h
theorem Trs.emp {B' : Hp} : ∀ {ds : List D} {vs : List V} {ps : List Addr}, D.tflats ds = true → Trs C B H ds vs ps → Trs C B' H ds vs ps
  | [], _, _, _, h => by simpa only [Trs] using h
  | d :: ds, vs, ps, e, h => by
    rw [trs_cons] at h ⊢
    simp only [D.tflats, Bool.and_eq_true] at e
    obtain ⟨v, r, p1, p2, h1, h2, h3, h4⟩ := h
    exact ⟨v, r, p1, p2, h1, h2, Tr.emp e.1 h3, Trs.emp e.2 h4⟩
end
theorem nd_app {l r : List Addr} (h1 : l.Nodup) (h2 : r.Nodup) (h : ∀ p ∈ l, p ∉ r) : (l ++ r).Nodup := by
  rw [List.nodup_append]
  exact ⟨h1, h2, fun a ha b hb e => h a ha (e ▸ hb)⟩
end
section
variable (C : Cf) (B0 H0 : Hp)
def TwOk (te : TE) (δ : List Sl) (d : D) : Prop := ∀ B H σ, Stt C B0 H0 B H σ δ → ∀ Q : VK, (∀ v ps B' H', Gro B H B' H' → Stt C B0 H0 B' H' σ δ → Tr C B' H' d v ps → ps.Nodup → (∀ p ∈ ps, H p = none ∧ B' p = none) → Q v H') → te σ H Q
def TwsOk (ta : TA) (δ : List Sl) (ds : List D) : Prop := ∀ B H σ, Stt C B0 H0 B H σ δ → ∀ Q : List V → Hp → Prop, (∀ vs ps B' H', Gro B H B' H' → Stt C B0 H0 B' H' σ δ → Trs C B' H' ds vs ps → ps.Nodup → (∀ p ∈ ps, H p = none ∧ B' p = none) → Q vs H') → ta σ H Q
end
theorem Gro.keepN {B H B' H' : Hp} (G : Gro B H B' H') {p : Addr} (hb : B p = none) (hh : ∃ o, H p = some o) : B' p = none := by
  obtain ⟨o, hh⟩ := hh
  cases z : B' p with
  | none => rfl
  | some o' =>
    rcases G.nw p o' z with k | k
    · rw [hb] at k; cases k
    · rw [hh] at k; cases k
section
variable {C : Cf} {B0 H0 : Hp} {δ : List Sl} {te ta : TE}
theorem tw_leaf {d : D} {g : Bool} (h : EvOk C B0 H0 te δ (d, true, g)) (hl : d.leaf = true) : TwOk C B0 H0 te δ d := fun B H σ S Q q =>
  h B H σ S Q fun v B' H' G S' r => q v [] B' H' G S' (by rw [tr_leaf hl]; exact ⟨rfl, r.mono (S'.weak true g true false id (fun h => by cases h))⟩) List.nodup_nil (fun p hp => by cases hp)
theorem tw_nw {ds : List D} {g : Bool} (h : NwOk C B0 H0 te δ ds true g) (hl : ds.all D.leaf = true) : TwOk C B0 H0 te δ (.ls ds) := fun B H σ S Q q =>
  h B H σ S Q fun p vs B' H' G S' hp hb hh r => q (.ref p) [p] B' H' G S' (by
    rw [tr_ls]
    exact ⟨p, vs, [], rfl, hh, rfl, Trs.of_leaves hl (r.mono (S'.weak true g true false id (fun h => by cases h)))⟩) (by simp) (fun x hx => by
    rw [List.mem_singleton] at hx
    subst hx
    exact ⟨hp, hb⟩)
theorem tws_nil : TwsOk C B0 H0 tNil δ [] := fun B H σ S Q q => q [] [] B H (Gro.refl _ _) S (by rw [trs_nil]; exact ⟨rfl, rfl⟩) List.nodup_nil (fun p hp => by cases hp)
theorem tws_cons {ta : TE} {tr : TA} {d : D} {ds : List D} (ha : TwOk C B0 H0 ta δ d) (hr : TwsOk C B0 H0 tr δ ds) : TwsOk C B0 H0 (tCons ta tr) δ (d :: ds) := fun B H σ S Q q =>
  ha B H σ S _ fun v p1 B1 H1 G1 S1 t1 n1 w1 => hr B1 H1 σ S1 _ fun vs p2 B2 H2 G2 S2 t2 n2 w2 => by
    refine q (v :: vs) (p1 ++ p2) B2 H2 (G1.trans G2) S2 ?_ (nd_app n1 n2 fun p hp hq => ?_) fun p hp => ?_
    · rw [trs_cons]
      exact ⟨v, vs, p1, p2, rfl, rfl, t1.keep G2.eb fun p _ o => G2.eh p o, t2⟩
    · obtain ⟨o, ho⟩ := t1.ex p hp
      rw [(w2 p hq).1] at ho
      cases ho
    · rcases List.mem_append.mp hp with hp | hp
      · exact ⟨(w1 p hp).1, G2.keepN (w1 p hp).2 (t1.ex p hp)⟩
      · exact ⟨G1.eh.free (w2 p hp).1, (w2 p hp).2⟩
theorem tw_lst {ta : TA} {ds : List D} (ha : TwsOk C B0 H0 ta δ ds) (h : ds.length ≤ 1000) : TwOk C B0 H0 (tLst ta) δ (.ls ds) := fun B H σ S Q q =>
  ha B H σ S _ fun vs ps B1 H1 G1 S1 t1 n1 w1 => by
    refine ⟨sz_of (by rw [t1.len]; omega), fun l hl => ?_⟩
    refine q (.ref l) (l :: ps) B1 (upd H1 l (.lst vs)) ⟨G1.eb, G1.eh.trans (same_upd hl), G1.nw⟩ (S1.cell hl) ?_ ?_ fun p hp => ?_
    · rw [tr_ls]
      exact ⟨l, vs, ps, rfl, upd_same, rfl, t1.keep (Same.refl _) fun p _ o => same_upd hl p o⟩
    · rw [List.nodup_cons]
      refine ⟨fun z => ?_, n1⟩
      obtain ⟨o, ho⟩ := t1.ex l z
      rw [hl] at ho
      cases ho
    · rcases List.mem_cons.mp hp with rfl | hp
      · exact ⟨G1.eh.free hl, S1.sub.free hl⟩
      · exact w1 p hp
theorem tw_ite1 {t : TT} {ta tb : TE} {d : D} (ht : TtOk C B0 H0 t δ true) (ha : TwOk C B0 H0 ta δ d) : TwOk C B0 H0 (tIf t ta tb) δ d := fun B H σ S Q q =>
  ht B H σ S _ fun B1 H1 G1 S1 => by
    rw [if_pos rfl]
    exact ha B1 H1 σ S1 _ fun v ps B2 H2 G2 S2 t n w => q v ps B2 H2 (G1.trans G2) S2 t n fun p hp => ⟨G1.eh.free (w p hp).1, (w p hp).2⟩
theorem tw_ite0 {t : TT} {ta tb : TE} {d : D} (ht : TtOk C B0 H0 t δ false) (ha : TwOk C B0 H0 tb δ d) : TwOk C B0 H0 (tIf t ta tb) δ d := fun B H σ S Q q =>
  ht B H σ S _ fun B1 H1 G1 S1 => by
    rw [if_neg Bool.false_ne_true]
    exact ha B1 H1 σ S1 _ fun v ps B2 H2 G2 S2 t n w => q v ps B2 H2 (G1.trans G2) S2 t n fun p hp => ⟨G1.eh.free (w p hp).1, (w p hp).2⟩
theorem tw_call {F : Fd} {ta : TA} {ds : List D} {d : D} {f g : Bool} {E : XK} (ha : ArOk C B0 H0 ta δ (ds, f, g)) (hl : ds.length = F.ar) (h : F.run ds = some d) (ht : F.tr = true) (hd : d.tflat = true) : TwOk C B0 H0 (tCall (spOf C F) [] E ta) δ d := fun B H σ S Q q =>
  ha B H σ S _ fun vs B1 H1 G1 S1 r1 => by
    rw [List.append_nil]
    refine ⟨Rg B0 H0 B1 H1 f g, ds, d, S1.toH f g, r1, hl, h, fun v H2 e r t => ?_⟩
    obtain ⟨ps, t, n, w⟩ := t ht hd
    exact q v ps B1 H2 ⟨G1.eb, G1.eh.trans e, G1.nw⟩ (S1.grow (Same.refl _) e (S1.sub.trans e) fun _ _ k => .inl k) (Tr.emp hd t) n fun p hp => ⟨G1.eh.free (w p hp), S1.sub.free (w p hp)⟩
theorem tw_new {F : Nd} {ta : TA} {ds fs : List D} {f g : Bool} {E : XK} (ha : ArOk C B0 H0 ta δ (ds, f, g)) (hl : ds.length = F.ar) (h : F.run ds = some fs) (ht : F.tr = true) (hd : D.tflats fs = true) : TwOk C B0 H0 (tMake (C.Cl F.cl).1 (spIn C F) [] E ta) δ (.ob F.cl fs) := fun B H σ S Q q =>
  ha B H σ S _ fun vs B1 H1 G1 S1 r1 => by
    intro x dx hx hdx ne
    rw [List.append_nil]
    have n1 : ∀ p o, H1 p = some o → (upd (upd H1 dx (.own x)) x (.ins (C.Cl F.cl).1 dx [])) p = some o := fun p o h => by
      rw [upd_ne (ne_of_none h hx), upd_ne (ne_of_none h hdx)]
      exact h
    refine ⟨x, dx, vs, Rg B0 H0 B1 H1 f g, ds, fs, rfl, upd_same, fun p o k => n1 p o (S1.toH f g p o k), (S1.toH f g).free hx, r1, hl, h, fun H2 xs hs hx2 hn r t => ?_⟩
    refine ⟨rfl, ?_⟩
    have e : Same H1 H2 := fun p o k => hs p o (ne_of_none k hx) (n1 p o k)
    obtain ⟨ps, t, n, w⟩ := t ht hd
    have w1 : ∀ p ∈ ps, H1 p = none := fun p hp => by
      cases z : H1 p with
      | none => rfl
      | some o =>
        have := w p hp
        rw [n1 p o z] at this
        cases this
    refine q (.ref x) (x :: ps) B1 H2 ⟨G1.eb, G1.eh.trans e, G1.nw⟩ (S1.grow (Same.refl _) e (S1.sub.trans e) fun _ _ k => .inl k) ?_ ?_ fun p hp => ?_
    · rw [tr_ob]
      exact ⟨x, dx, xs, ps, rfl, hx2, hn, rfl, Trs.emp hd t⟩
    · rw [List.nodup_cons]
      refine ⟨fun z => ?_, n⟩
      have := w x z
      rw [upd_same] at this
      cases this
    · rcases List.mem_cons.mp hp with rfl | hp
      · exact ⟨G1.eh.free hx, S1.sub.free hx⟩
      · exact ⟨G1.eh.free (w1 p hp), S1.sub.free (w1 p hp)⟩
theorem tw_lc {wi : TI} {t : Tg} {tt : TT} {ds : List D} {g : Bool} {cf : List Sl → Option Bool} {ef : List Sl → Option Rs} {ys : List D} {gs : Bool} {ok : D → Bool}
    (hi : ItOk C B0 H0 wi δ (ds, g)) (hn : ds.length ≤ 50000) (h : lcRun t g cf ef (wipeD δ t.sl) ds = some (ys, gs)) (hc : ∀ δ2 b, cf δ2 = some b → TtOk C B0 H0 tt δ2 b) (hy : ys.all ok = true) (he : ∀ δ2 d g, ef δ2 = some (d, true, g) → ok d = true → TwOk C B0 H0 te δ2 d) :
    TwOk C B0 H0 (tLc wi (t.rd C.K) tt te t.sl) δ (.ls ys) := fun B H σ S Q q => by
  refine hi B H σ S _ fun J B1 H1 G1 S1 wk => ?_
  obtain ⟨Gd, Y, w, wg, wy⟩ := wk
  intro L hL
  have h0L : H0 L = none := S1.ex0.free hL
  refine lc_it w (fun i Hc => ∃ B' acc ys1 ys2 gs2 ps, Gro B1 H1 B' Hc ∧ Stt C B0 H0 B' Hc σ δ ∧ B' L = none ∧ Hc L = some (.lst acc) ∧ Trs C B' Hc ys1 acc ps ∧ ps.Nodup ∧ (∀ p ∈ ps, H1 p = none ∧ B' p = none ∧ p ≠ L) ∧ ys1.length ≤ i ∧
    lcRun t g cf ef (wipeD δ t.sl) (ds.drop i) = some (ys2, gs2) ∧ ys1 ++ ys2 = ys) ?_ ?_ ?_ ?_
  · exact ⟨B1, [], [], ys, gs, [], ⟨Same.refl _, same_upd hL, fun _ _ h => .inl h⟩, S1.cell hL, S1.sub.free hL, upd_same, by rw [trs_nil]; exact ⟨rfl, rfl⟩, List.nodup_nil, (fun p hp => by cases hp), Nat.le_refl _, h, rfl⟩
  · rintro i Hc _ ⟨B', acc, ys1, ys2, gs2, ps, G', S', _⟩
    exact wg B' Hc σ δ G'.eb S'
  · rintro i x Hc Hd hlt ⟨B', acc, ys1, ys2, gs2, ps, G', S', bL, cL, ra, nd, wn, hl, run, ey⟩ y
    obtain ⟨d, B2, ed, G2, S2, rd⟩ := wy i Hc x Hd B' σ δ hlt G'.eb S' y
    have edr : ds.drop i = d :: ds.drop (i + 1) := by
      have hlt' : i < ds.length := hlt
      rw [List.getElem?_eq_getElem hlt'] at ed
      rw [List.drop_eq_getElem_cons hlt']
      cases ed
      rfl
    rw [edr] at run
    simp only [lcRun] at run
    split at run
    · cases run
    · rename_i δ2 e2
      have b2L : B2 L = none := G2.keepN bL ⟨_, cL⟩
      refine Tg.ok g t d (S2.wipe t.sl) rd e2 fun σ2 S3 w2 => ⟨?_, ?_⟩
      · rw [w2 t.sl fun _ h => h, wipe_wipe]
      · cases ec : cf δ2 with
        | none => rw [ec] at run; cases run
        | some b =>
          rw [ec] at run
          refine hc δ2 b ec B2 Hd σ2 S3 _ fun B3 H3 G3 S4 => ?_
          have c3 : H3 L = some (.lst acc) := G3.eh _ _ (G2.eh _ _ cL)
          have b3L : B3 L = none := G3.keepN b2L ⟨_, G2.eh _ _ cL⟩
          have S3' : Stt C B0 H0 B3 H3 σ δ := S2.by G3 S4
          have ra3 : Trs C B3 H3 ys1 acc ps := ra.keep (G2.trans G3).eb fun p _ o => (G2.trans G3).eh p o
          have wn3 : ∀ p ∈ ps, H1 p = none ∧ B3 p = none ∧ p ≠ L := fun p hp => ⟨(wn p hp).1, (G2.trans G3).keepN (wn p hp).2.1 (ra.ex p hp), (wn p hp).2.2⟩
          cases b with
          | false =>
            rw [if_neg Bool.false_ne_true]
            exact ⟨B3, acc, ys1, ys2, gs2, ps, (G'.trans G2).trans G3, S3', b3L, c3, ra3, nd, wn3, by omega, run, ey⟩
          | true =>
            rw [if_pos rfl]
            dsimp only at run
            split at run
            · rename_i y gy ee
              split at run
              · rename_i ys3 gs3 er
                cases run
                have oky : ok y = true := by
                  rw [← ey, List.all_append, Bool.and_eq_true] at hy
                  have := hy.2
                  rw [List.all_cons, Bool.and_eq_true] at this
                  exact this.1
                refine he δ2 y gy ee oky B3 H3 σ2 S4 _ fun v pv B4 H4 G4 S5 tv nv wv => ?_
                have c4 : H4 L = some (.lst acc) := G4.eh _ _ c3
                have b4L : B4 L = none := G4.keepN b3L ⟨_, c3⟩
                have G5 := ((G'.trans G2).trans G3).trans G4
                have nL : ∀ p ∈ pv, p ≠ L := fun p hp z => by
                  have := (wv p hp).1
                  rw [z, c3] at this
                  cases this
                refine ⟨acc, c4, ?_, B4, acc ++ [v], ys1 ++ [y], ys3, gs3, ps ++ pv, ⟨G5.eb, fun p o k => ?_, G5.nw⟩, S1.grow G5.eb (fun p o k => ?_) (fun p o k => ?_) G5.nw, b4L, upd_same, ?_, nd_app nd nv (fun p hp hq => ?_), fun p hp => ?_, ?_, er, ?_⟩
                · have hlt' : i < ds.length := hlt
                  rw [ra.len]
                  exact Nat.lt_of_lt_of_le (show ys1.length < 100000 by omega) (by decide)
                · rw [upd_ne (ne_of_none k hL)]
                  exact G5.eh _ _ k
                · rw [upd_ne (ne_of_none k hL)]
                  exact G5.eh _ _ k
                · rw [upd_ne (ne_of_none k b4L)]
                  exact S5.sub _ _ k
                · refine Trs.app (ra3.keep G4.eb fun p hp o k => ?_) (.one (tv.keep (Same.refl _) fun p hp o k => ?_))
                  · rw [upd_ne (wn3 p hp).2.2]
                    exact G4.eh _ _ k
                  · rw [upd_ne (nL p hp)]
                    exact k
                · obtain ⟨o, ho⟩ := ra3.ex p hp
                  rw [(wv p hq).1] at ho
                  cases ho
                · rcases List.mem_append.mp hp with hp | hp
                  · exact ⟨(wn p hp).1, G4.keepN (wn3 p hp).2.1 (ra3.ex p hp), (wn p hp).2.2⟩
                  · refine ⟨?_, (wv p hp).2, nL p hp⟩
                    cases z : H1 p with
                    | none => rfl
                    | some o =>
                      have := (wv p hp).1
                      rw [((G'.trans G2).trans G3).eh _ _ z] at this
                      cases this
                · rw [List.length_append]
                  show ys1.length + 1 ≤ i + 1
                  omega
                · rw [List.append_assoc]
                  exact ey
              · cases run
            · cases run
  · rintro Hc ⟨B', acc, ys1, ys2, gs2, ps, G', S', bL, cL, ra, nd, wn, hl, run, ey⟩
    rw [show ds.drop ds.length = [] from List.drop_length] at run
    simp only [lcRun, Option.some.injEq, Prod.mk.injEq] at run
    obtain ⟨rfl, rfl⟩ := run
    rw [List.append_nil] at ey
    subst ey
    refine q (.ref L) (L :: ps) B' Hc (G1.trans G') S' ?_ ?_ fun p hp => ?_
    · rw [tr_ls]
      exact ⟨L, acc, ps, rfl, cL, rfl, ra⟩
    · rw [List.nodup_cons]
      exact ⟨fun z => (wn L z).2.2 rfl, nd⟩
    · rcases List.mem_cons.mp hp with rfl | hp
      · exact ⟨G1.eh.free hL, bL⟩
      · exact ⟨G1.eh.free (wn p hp).1, (wn p hp).2.1⟩
end
section
variable {C : Cf} {B0 H0 : Hp} {Γ : Ga}
theorem eval_tree (hk : KsOk C Γ) : ∀ c : E, (∀ δ d g, eval Γ c δ = some (d, true, g) → trOk Γ c d = true → TwOk C B0 H0 (rd C Γ c) δ d) ∧ (∀ δ ds f g, evalA Γ c δ = some (ds, f, g) → f = true → trOks Γ c ds = true → TwsOk C B0 H0 (rdA C Γ c) δ ds) := by
  have ev := fun c => (eval_all (B0 := B0) (H0 := H0) hk c)
  intro c
  induction c with
  | toL a iha =>
    refine ⟨fun δ d g h t => ?_, fun δ ds f g h => by simp [evalA] at h⟩
    simp only [eval] at h
    split at h
    · rename_i xs f1 g1 e1
      simp only [Option.some.injEq, Prod.mk.injEq] at h
      obtain ⟨rfl, hf, hg⟩ := h
      simp only [rd]
      have := (nw_toL ((ev a).1 δ _ e1)).up2
      rw [hf] at this
      exact tw_nw this (by simpa only [trOk] using t)
    · rename_i xs f1 g1 e1
      simp only [Option.some.injEq, Prod.mk.injEq] at h
      obtain ⟨rfl, hf, hg⟩ := h
      simp only [rd]
      have := (nw_toLT ((ev a).1 δ _ e1)).up2
      rw [hf] at this
      exact tw_nw this (by simpa only [trOk] using t)
    · cases h
  | dnew =>
    refine ⟨fun δ d g h t => ?_, fun δ ds f g h => by simp [evalA] at h⟩
    simp only [eval, Option.some.injEq, Prod.mk.injEq] at h
    obtain ⟨rfl, _⟩ := h
    simp only [rd]
    intro B H σ S Q q p hp
    refine q (.ref p) [p] B _ ⟨Same.refl _, same_upd hp, fun _ _ k => .inl k⟩ (S.cell hp) ?_ (by simp) fun x hx => ?_
    · rw [tr_dc]
      exact ⟨p, [], [], rfl, upd_same, rfl, rfl, by rw [trs_nil]; exact ⟨rfl, rfl⟩⟩
    · rw [List.mem_singleton] at hx
      subst hx
      exact ⟨hp, S.sub.free hp⟩
  | toR a iha =>
    refine ⟨fun δ d g h t => ?_, fun δ ds f g h => by simp [evalA] at h⟩
    simp only [eval] at h
    split at h
    · rename_i n f1 g1 e1
      split at h
      · rename_i e2
        cases h
        simp only [rd]
        exact tw_nw (nw_toR ((ev a).1 δ _ e1) e2) (by simpa only [trOk] using t)
      · cases h
    · cases h
  | lst es ihe =>
    refine ⟨fun δ d g h t => ?_, fun δ ds f g h => by simp [evalA] at h⟩
    simp only [eval] at h
    split at h
    · rename_i ds f1 g1 e1
      split at h
      · rename_i e2
        simp only [Option.some.injEq, Prod.mk.injEq] at h
        obtain ⟨rfl, hf, hg⟩ := h
        simp only [rd]
        exact tw_lst (ihe.2 δ ds f1 g1 e1 hf (by simpa only [trOk] using t)) e2
      · cases h
    · cases h
  | lc t it e ihi ihe =>
    refine ⟨fun δ d g h tk => ?_, fun δ ds f g h => by simp [evalA] at h⟩
    simp only [eval] at h
    split at h
    · rename_i ds g1 e1
      split at h
      · rename_i e2
        split at h
        · rename_i ys gs e3
          cases h
          simp only [rd]
          exact tw_lc ((ev _).2.2.2.1 δ _ e1) e2 e3 (fun δ2 b hb => by cases hb; exact tt_yes) (by simpa only [trOk] using tk) (fun δ2 d g hr ho => ihe.1 δ2 d g hr ho)
        · cases h
      · cases h
    · cases h
  | lcf t it c e ihi ihc ihe =>
    refine ⟨fun δ d g h tk => ?_, fun δ ds f g h => by simp [evalA] at h⟩
    simp only [eval] at h
    split at h
    · rename_i ds g1 e1
      split at h
      · rename_i e2
        split at h
        · rename_i ys gs e3
          cases h
          simp only [rd]
          exact tw_lc ((ev _).2.2.2.1 δ _ e1) e2.1 e3 (fun δ2 b hb => tst_tt e2.2 (ev _).2.2.2.2 hb) (by simpa only [trOk] using tk) (fun δ2 d g hr ho => ihe.1 δ2 d g hr ho)
        · cases h
      · cases h
    · cases h
  | ite c a b ihc iha ihb =>
    refine ⟨fun δ d g h tk => ?_, fun δ ds f g h => by simp [evalA] at h⟩
    simp only [trOk, Bool.and_eq_true] at tk
    simp only [eval] at h
    split at h
    · rename_i t
      split at h
      · rename_i f1 g1 e1; simp only [rd]; exact tw_ite1 ((ev c).2.2.2.2 δ _ _ _ t e1) (iha.1 δ d g h tk.1)
      · rename_i f1 g1 e1; simp only [rd]; exact tw_ite0 ((ev c).2.2.2.2 δ _ _ _ t e1) (ihb.1 δ d g h tk.2)
      · cases h
    · cases h
  | new k es ihe =>
    refine ⟨fun δ d g h tk => ?_, fun δ ds f g h => by simp [evalA] at h⟩
    simp only [eval] at h
    split at h
    · rename_i F eF
      split at h
      · rename_i ds f1 g1 e1
        split at h
        · rename_i e2
          split at h
          · rename_i fs e3
            simp only [Option.some.injEq, Prod.mk.injEq] at h
            obtain ⟨rfl, hf, hg⟩ := h
            simp only [trOk, eF, Bool.and_eq_true] at tk
            simp only [rd, eF]
            exact tw_new ((ev es).2.1 δ _ e1) e2 e3 tk.1 tk.2
          · cases h
        · cases h
      · cases h
    · cases h
  | call k es ihe =>
    refine ⟨fun δ d g h tk => ?_, fun δ ds f g h => by simp [evalA] at h⟩
    have h' := h
    simp only [eval] at h
    split at h
    · rename_i F eF
      split at h
      · rename_i ds f1 g1 e1
        split at h
        · rename_i e2
          split at h
          · rename_i d' e3
            simp only [Option.some.injEq, Prod.mk.injEq] at h
            obtain ⟨rfl, hf, hg⟩ := h
            simp only [trOk, eF, Bool.or_eq_true, Bool.and_eq_true] at tk
            rcases tk with tk | tk
            · simp only [rd, eF]
              exact tw_call ((ev es).2.1 δ _ e1) e2 e3 tk.1 tk.2
            · exact tw_leaf ((ev _).1 δ _ h') tk
          · cases h
        · cases h
      · cases h
    · cases h
  | nil =>
    refine ⟨fun δ d g h tk => by simp [eval] at h, fun δ ds f g h hf t => ?_⟩
    simp only [evalA, Option.some.injEq, Prod.mk.injEq] at h
    obtain ⟨rfl, _⟩ := h
    simp only [rdA]
    exact tws_nil
  | cons a r iha ihr =>
    refine ⟨fun δ d g h tk => by simp [eval] at h, fun δ ds f g h hf t => ?_⟩
    simp only [evalA] at h
    split at h
    · rename_i d f1 g1 e1
      split at h
      · rename_i ds2 f2 g2 e2
        simp only [Option.some.injEq, Prod.mk.injEq] at h
        obtain ⟨rfl, h2, h3⟩ := h
        subst hf
        rw [Bool.and_eq_true] at h2
        obtain ⟨rfl, rfl⟩ := h2
        simp only [trOks, Bool.and_eq_true] at t
        simp only [rdA]
        exact tws_cons (iha.1 δ d g1 e1 t.1) (ihr.2 δ ds2 true g2 e2 rfl t.2)
      · cases h
    · cases h
  | _ =>
    refine ⟨fun δ d g h tk => tw_leaf ((ev _).1 δ _ h) (by simpa only [trOk] using tk), fun δ ds f g h => by simp [evalA] at h⟩
end
end G

namespace G
open PySem L2
/-! ### new lists -/
def isNew : E → Bool
  | .cat _ _ => true | .rep _ _ => true | .sl _ _ _ => true | .lst _ => true | .toL _ => true | .toR _ => true | .srt _ => true | .lc _ _ _ => true | .lcf _ _ _ _ => true | .rev _ => true | .stp _ _ => true
  | .ite _ a b => isNew a && isNew b
  | _ => false
theorem nw_ite1 {C : Cf} {B0 H0 : Hp} {δ : List Sl} {t : TT} {ta tb : TE} {ds : List D} {f g : Bool} (ht : TtOk C B0 H0 t δ true) (ha : NwOk C B0 H0 ta δ ds f g) : NwOk C B0 H0 (tIf t ta tb) δ ds f g := fun B H σ S Q q =>
  ht B H σ S _ fun B1 H1 G1 S1 => by
    rw [if_pos rfl]
    exact ha B1 H1 σ S1 _ fun p vs B2 H2 G2 S2 h1 h2 h3 r => q p vs B2 H2 (G1.trans G2) S2 (G1.eh.free h1) h2 h3 r
theorem nw_ite0 {C : Cf} {B0 H0 : Hp} {δ : List Sl} {t : TT} {ta tb : TE} {ds : List D} {f g : Bool} (ht : TtOk C B0 H0 t δ false) (ha : NwOk C B0 H0 tb δ ds f g) : NwOk C B0 H0 (tIf t ta tb) δ ds f g := fun B H σ S Q q =>
  ht B H σ S _ fun B1 H1 G1 S1 => by
    rw [if_neg Bool.false_ne_true]
    exact ha B1 H1 σ S1 _ fun p vs B2 H2 G2 S2 h1 h2 h3 r => q p vs B2 H2 (G1.trans G2) S2 (G1.eh.free h1) h2 h3 r
section
variable {C : Cf} {B0 H0 : Hp} {Γ : Ga}
theorem eval_new (hk : KsOk C Γ) : ∀ {c : E} {δ : List Sl} {ds : List D} {f g : Bool} (n : isNew c = true) (h : eval Γ c δ = some (.ls ds, f, g)), NwOk C B0 H0 (rd C Γ c) δ ds f g := by
  have ev := fun c => (eval_all (B0 := B0) (H0 := H0) hk c)
  intro c
  induction c <;> intro δ ds f g n h
  case ite c a b ihc iha ihb =>
    simp only [isNew, Bool.and_eq_true] at n
    simp only [eval] at h
    split at h
    · rename_i t
      split at h
      · rename_i f1 g1 e1; simp only [rd]; exact nw_ite1 ((eval_all hk c).2.2.2.2 δ _ _ _ t e1) (iha n.1 h)
      · rename_i f1 g1 e1; simp only [rd]; exact nw_ite0 ((eval_all hk c).2.2.2.2 δ _ _ _ t e1) (ihb n.2 h)
      · cases h
    · cases h
  all_goals simp only [isNew, Bool.false_eq_true] at n
  · simp only [eval] at h
    split at h
    · rename_i i f1 g1 e1
      split at h
      · rename_i j f2 g2 e2
        split at h
        · rename_i e3; cases h; simp only [rd]; exact (nw_cat ((ev _).1 δ _ e1) ((ev _).1 δ _ e2) e3).up
        · cases h
      · cases h
    · cases h
  · simp only [eval] at h
    split at h
    · rename_i i f1 g1 e1
      split at h
      · rename_i j f2 g2 e2
        split at h
        · rename_i e3; cases h; simp only [rd]; exact (nw_rep ((ev _).1 δ _ e1) ((ev _).1 δ _ e2) e3).up
        · cases h
      · cases h
    · cases h
  · simp only [eval] at h
    split at h
    · rename_i xs f1 g1 e1
      split at h
      · rename_i l e2
        split at h
        · rename_i u e3; cases h; simp only [rd]; exact (nw_sl ((ev _).1 δ _ e1) ((ev _).2.2.1 δ _ e2) ((ev _).2.2.1 δ _ e3)).up
        · cases h
      · cases h
    · cases h
  · simp only [eval] at h
    split at h
    · rename_i ds f1 g1 e1
      split at h
      · rename_i e2; cases h; simp only [rd]; exact nw_lst ((ev _).2.1 δ _ e1) e2
      · cases h
    · cases h
  · simp only [eval] at h
    split at h
    · rename_i xs f1 g1 e1; cases h; simp only [rd]; exact (nw_rev ((ev _).1 δ _ e1)).up
    · cases h
  · simp only [eval] at h
    split at h
    · rename_i xs f1 g1 e1; cases h; simp only [rd]; exact (nw_toL ((ev _).1 δ _ e1)).up2
    · rename_i xs f1 g1 e1; cases h; simp only [rd]; exact (nw_toLT ((ev _).1 δ _ e1)).up2
    · cases h
  · simp only [eval] at h
    split at h
    · rename_i n f1 g1 e1
      split at h
      · rename_i e2; cases h; simp only [rd]; exact nw_toR ((ev _).1 δ _ e1) e2
      · cases h
    · cases h
  · simp only [eval] at h
    split at h
    · rename_i xs f1 g1 e1
      split at h
      · rename_i ns e2
        split at h
        · rename_i e3; cases h; simp only [rd]; exact nw_srt ((ev _).1 δ _ e1) e2 e3
        · cases h
      · cases h
    · cases h
  · simp only [eval] at h
    split at h
    · rename_i xs f1 g1 e1
      split at h
      · rename_i k f2 g2 e2
        split at h
        · rename_i e3; cases h; simp only [rd]; exact (nw_stp ((ev _).1 δ _ e1) ((ev _).1 δ _ e2) e3).up
        · cases h
      · cases h
    · cases h
  · simp only [eval] at h
    split at h
    · rename_i ds g e1
      split at h
      · rename_i e2
        split at h
        · rename_i ys gs e3; cases h; simp only [rd]; exact nw_lc ((ev _).2.2.2.1 δ _ e1).w e2 e3 (fun δ2 b hb => by cases hb; exact tt_yes) (fun δ2 r hr => (ev _).1 δ2 r hr)
        · cases h
      · cases h
    · cases h
  · simp only [eval] at h
    split at h
    · rename_i ds g e1
      split at h
      · rename_i e2
        split at h
        · rename_i ys gs e3; cases h; simp only [rd]; exact nw_lc ((ev _).2.2.2.1 δ _ e1).w e2.1 e3 (fun δ2 b hb => tst_tt e2.2 (ev _).2.2.2.2 hb) (fun δ2 r hr => (ev _).1 δ2 r hr)
        · cases h
      · cases h
    · cases h
end

/-! ### statements -/
inductive S where
  | nil | seq (a r : S) | asg (t : Tg) (e : E) | own (i : Nat) (e : E) | par (i j : Nat) (oi oj : Bool) (a b : E)
  | app (i : Nat) (e : E) | ext (i : Nat) (e : E) | six (i : Nat) (b e : E) | aix (i : Nat) (b e : E) | aug (i : Nat) (e : E)
  | ite (c : E) (a b : S) | loop (t : Tg) (it : E) (b : S) | ret (e : E) | exp (e : E) | frz (i : Nat) (r : S) | die | pop0 (i : Nat) | whl (c : E) (b : S)
inductive Rz where
  | nx (δ : List Sl) | rt (r : Rs)
def slotOf (o : Bool) (e : E) : Rs → Option Sl
  | (d, true, g) => if o = true then (match d with
    | .ls ds => if isNew e = true then some (.ow ds g) else none
    | _ => none) else some (.sh d g)
  | _ => none
def forRun (t : Tg) (g : Bool) (ex : List Sl → Option Rz) : List D → List Sl → Option Rz
  | [], δ => some (.nx δ)
  | d :: r, δ => match t.run g d δ with
    | none => none
    | some δ1 => match ex δ1 with
      | some (.nx δ2) => forRun t g ex r δ2
      | some (.rt v) => some (.rt v)
      | none => none
def whRun (cf : List Sl → Option Bool) (ex : List Sl → Option Rz) : Nat → List Sl → Option Rz
  | 0, _ => none
  | n + 1, δ => match cf δ with
    | some true => match ex δ with
      | some (.nx δ1) => whRun cf ex n δ1
      | some (.rt v) => some (.rt v)
      | none => none
    | some false => some (.nx δ)
    | none => none
def exec (Γ : Ga) : S → List Sl → Option Rz
  | .nil, δ => some (.nx δ)
  | .seq a r, δ => match exec Γ a δ with
    | some (.nx δ1) => exec Γ r δ1
    | some (.rt v) => some (.rt v)
    | none => none
  | .asg t e, δ => match eval Γ e δ with
    | some (d, true, g) => match t.run g d δ with
      | some δ1 => some (.nx δ1)
      | none => none
    | _ => none
  | .own i e, δ => match eval Γ e δ with
    | some r => match slotOf true e r with
      | some s => some (.nx (δ.set i s))
      | none => none
    | none => none
  | .par i j oi oj a b, δ => match eval Γ a δ with
    | some r => match slotOf oi a r with
      | some s => match eval Γ b δ with
        | some r' => match slotOf oj b r' with
          | some s' => some (.nx ((δ.set i s).set j s'))
          | none => none
        | none => none
      | none => none
    | none => none
  | .app i e, δ => match δ[i]? with
    | some (.ow ds g) => match eval Γ e δ with
      | some (d, true, g') => if ds.length < 100000 then some (.nx (δ.set i (.ow (ds ++ [d]) (g && (g' || d.flat))))) else none
      | _ => none
    | _ => none
  | .ext i e, δ => match δ[i]? with
    | some (.ow ds g) => match eval Γ e δ with
      | some (.ls es, true, g') => if ds.length + es.length < 100000 then some (.nx (δ.set i (.ow (ds ++ es) (g && (g' || flats es))))) else none
      | _ => none
    | _ => none
  | .six i b e, δ => match δ[i]? with
    | some (.ow ds g) => match eval Γ e δ with
      | some (d, true, g') => match eval Γ b δ with
        | some (.int k, _, _) => match ixN ds.length k with
          | some j => some (.nx (δ.set i (.ow (ds.set j d) (g && (g' || d.flat)))))
          | none => none
        | _ => none
      | _ => none
    | _ => none
  | .aix i b e, δ => match δ[i]? with
    | some (.ow ds g) => match eval Γ b δ with
      | some (.int k, _, _) => match atI ds k with
        | some (.int x) => match eval Γ e δ with
          | some (.int y, _, _) => match ixN ds.length k with
            | some j => some (.nx (δ.set i (.ow (ds.set j (.int (x + y))) g)))
            | none => none
          | _ => none
        | _ => none
      | _ => none
    | _ => none
  | .aug i e, δ => match δ[i]? with
    | some (.sh (.int x) _) => match eval Γ e δ with
      | some (.int y, _, _) => some (.nx (δ.set i (.sh (.int (x + y)) true)))
      | _ => none
    | _ => none
  | .ite c a b, δ => if isTst c = true then (match eval Γ c δ with
    | some (.bl true, _, _) => exec Γ a δ
    | some (.bl false, _, _) => exec Γ b δ
    | _ => none) else none
  | .loop t it b, δ => match evalI Γ it δ with
    | some (ds, g) => forRun t g (fun δ => exec Γ b δ) ds δ
    | none => none
  | .ret e, δ => match eval Γ e δ with
    | some r => some (.rt r)
    | none => none
  | .exp e, δ => match eval Γ e δ with
    | some _ => some (.nx δ)
    | none => none
  | .frz i r, δ => match δ[i]? with
    | some (.ow ds g) => exec Γ r (δ.set i (.sh (.ls ds) g))
    | _ => none
  | .die, _ => none
  | .whl c b, δ => if isTst c = true then whRun (fun δ => tst (eval Γ c δ)) (fun δ => exec Γ b δ) 50 δ else none
  | .pop0 i, δ => match δ[i]? with
    | some (.ow (_ :: ds) g) => some (.nx (δ.set i (.ow ds g)))
    | _ => none
def rGetL (K : PySem.W.Frag) : V → V → Hp → VK → Prop := fun o i H Q => ∃ p xs k v, o = .ref p ∧ i = .int k ∧ SqL K H p xs ∧ atI xs k = some v ∧ Q v H
def rdS (C : Cf) (Γ : Ga) : S → TS
  | .nil => tNext
  | .seq a r => tSeq (rdS C Γ a) (rdS C Γ r)
  | .asg t e => tAsg (rd C Γ e) (t.rd C.K)
  | .own i e => tAsg (rd C Γ e) (gName i)
  | .par i j _ _ a b => tPar i j (tCons (rd C Γ a) (tCons (rd C Γ b) tNil))
  | .app i e => tDrop (tBM C.K "list" rAppend (tVar i) (tCons (rd C Γ e) tNil))
  | .ext i e => tDrop (tBM C.K "list" rExtend (tVar i) (tCons (rd C Γ e) tNil))
  | .pop0 i => tDrop (tBM C.K "list" rPopAt (tVar i) (tCons (tC (.int 0)) tNil))
  | .six i b e => tAsg (rd C Γ e) (gSub (tVar i) (rd C Γ b) rSetL)
  | .aix i b e => tAugS (tVar i) (rd C Γ b) (rd C Γ e) (rGetL C.K) (ipI fun i j => i + j) rSetL
  | .aug i e => tAug i (rd C Γ e) (ipI fun i j => i + j)
  | .ite c a b => tIfS (rdT C Γ c) (rdS C Γ a) (rdS C Γ b)
  | .loop t it b => tFor (rdI C Γ it) (t.rd C.K) (rdS C Γ b)
  | .ret e => tRet (rd C Γ e)
  | .exp e => tDrop (rd C Γ e)
  | .frz _ r => rdS C Γ r
  | .die => tNever
  | .whl c b => tWhile (rdT C Γ c) (rdS C Γ b)
/-- a value of this form is a tree if its leaves are flat -/
def stT (Γ : Ga) : E → Bool
  | .ite _ a b => stT Γ a && stT Γ b
  | .new k _ => match Γ.nd[k]? with | some F => F.tr | none => false
  | _ => false
def retT (Γ : Ga) : S → Bool
  | .ret e => stT Γ e
  | .seq a r => retT Γ a && retT Γ r
  | .ite _ a b => retT Γ a && retT Γ b
  | .loop _ _ b => retT Γ b
  | .whl _ b => retT Γ b
  | .frz _ r => retT Γ r
  | _ => true
theorem stT_ob {Γ : Ga} : ∀ {e : E} {δ : List Sl} {d : D} {f g : Bool}, stT Γ e = true → eval Γ e δ = some (d, f, g) → ∃ c xs, d = .ob c xs := by
  intro e
  induction e with
  | ite c a b _ iha ihb =>
    intro δ d f g s h
    simp only [stT, Bool.and_eq_true] at s
    simp only [eval] at h
    split at h
    · split at h
      · exact iha s.1 h
      · exact ihb s.2 h
      · cases h
    · cases h
  | new k es _ =>
    intro δ d f g s h
    simp only [eval] at h
    split at h
    · split at h
      · split at h
        · split at h
          · cases h; exact ⟨_, _, rfl⟩
          · cases h
        · cases h
      · cases h
    · cases h
  | _ => intro δ d f g s; simp [stT] at s
theorem stT_tr {Γ : Ga} : ∀ {e : E} {c : Nat} {xs : List D}, stT Γ e = true → D.tflats xs = true → trOk Γ e (.ob c xs) = true := by
  intro e
  induction e with
  | ite c a b _ iha ihb =>
    intro c xs s t
    simp only [stT, Bool.and_eq_true] at s
    simp only [trOk, Bool.and_eq_true]
    exact ⟨iha s.1 t, ihb s.2 t⟩
  | new k es _ =>
    intro c xs s t
    simp only [stT] at s
    simp only [trOk, Bool.and_eq_true]
    exact ⟨s, t⟩
  | _ => intro c xs s; simp [stT] at s
theorem stT_ok {Γ : Ga} {e : E} {δ : List Sl} {d : D} {f g : Bool} (s : stT Γ e = true) (t : d.tflat = true) (h : eval Γ e δ = some (d, f, g)) : trOk Γ e d = true := by
  obtain ⟨c, xs, rfl⟩ := stT_ob s h
  exact stT_tr s (by simpa only [D.tflat] using t)
section
variable (C : Cf) (B0 H0 : Hp)
def StOk (ts : TS) (δ : List Sl) (z : Rz) (T : Bool) : Prop := ∀ B H σ, Stt C B0 H0 B H σ δ → NoRg δ → ∀ Dn : Ends, (∀ δ', z = .nx δ' → ∀ B' H' σ', Same B B' → Stt C B0 H0 B' H' σ' δ' → NoRg δ' → Dn.nx σ' H') →
  (∀ r, z = .rt r → ∀ v B' H' σ' δ', Same B B' → Stt C B0 H0 B' H' σ' δ' → Rp C (Rg B0 H0 B' H' r.2.1 r.2.2) r.1 v → (T = true → r.1.tflat = true → r.2.1 = true → TreeAt C H0 H' r.1 v) → Dn.rt v H') → ts Dn σ H
end
section
variable {C : Cf} {B0 H0 : Hp} {Γ : Ga} {δ : List Sl}
/-- a value that is to be stored as s -/
def SlV (C : Cf) (B0 H0 H B' H' : Hp) (v : V) : Sl → Prop
  | .no => False
  | .rg _ => False
  | .tr _ => False
  | .al _ _ => False
  | .sh d g => Rp C (Rg B0 H0 B' H' true g) d v
  | .ow ds g => ∃ p vs, v = .ref p ∧ H p = none ∧ B' p = none ∧ H' p = some (.lst vs) ∧ Rps C (Rg B0 H0 B' H' true g) ds vs
theorem slot_ok (hk : KsOk C Γ) {o : Bool} {e : E} {r : Rs} {s : Sl} (h : eval Γ e δ = some r) (hs : slotOf o e r = some s) {B H : Hp} {σ : St} (S : Stt C B0 H0 B H σ δ) {Q : VK}
    (q : ∀ v B' H', Gro B H B' H' → Stt C B0 H0 B' H' σ δ → SlV C B0 H0 H B' H' v s → Q v H') : rd C Γ e σ H Q := by
  obtain ⟨d, f, g⟩ := r
  cases f with
  | false => simp [slotOf] at hs
  | true =>
    cases o with
    | false =>
      simp only [slotOf, Bool.false_eq_true, if_false, Option.some.injEq] at hs
      subst hs
      exact (eval_all hk e).1 δ _ h B H σ S Q q
    | true =>
      simp only [slotOf, if_true] at hs
      split at hs
      · split at hs
        · rename_i ds n
          cases hs
          exact eval_new hk n h B H σ S Q fun p vs B' H' G S' h1 h2 h3 r => q _ B' H' G S' ⟨p, vs, rfl, h1, h2, h3, r⟩
        · cases hs
      · cases hs
theorem SlV.up {H B' H' B2 H2 : Hp} {v : V} {s : Sl} (h : SlV C B0 H0 H B' H' v s) (G : Gro B' H' B2 H2) : SlV C B0 H0 H B2 H2 v s := by
  cases s with
  | no => exact h
  | rg d => exact h
  | tr d => exact h
  | al j q => exact h
  | sh d g => exact Rp.mono (G.rg true g) h
  | ow ds g =>
    obtain ⟨p, vs, e, h1, h2, h3, r⟩ := h
    refine ⟨p, vs, e, h1, ?_, G.eh _ _ h3, r.mono (G.rg true g)⟩
    cases z : B2 p with
    | none => rfl
    | some o =>
      rcases G.nw p o z with k | k
      · rw [h2] at k; cases k
      · rw [h3] at k; cases k
theorem Stt.noat {B H : Hp} {σ : St} (S : Stt C B0 H0 B H σ δ) {p : Addr} (hp : H p = none) (i : Nat) (ds : List D) (g : Bool) (k : δ[i]? = some (.ow ds g)) : σ[i]? ≠ some (some (.ref p)) := fun z => by
  obtain ⟨p', vs, e, _, _, hh, _⟩ := S.own i ds g k
  rw [z] at e
  cases e
  rw [hp] at hh
  cases hh
theorem Stt.noTr {B H B' H' : Hp} {σ : St} (S : Stt C B0 H0 B H σ δ) (G : Gro B H B' H') (S' : Stt C B0 H0 B' H' σ δ) : ∃ φ, TrOk C H0 B' H' σ δ φ ∧ ∀ p, H p = none → ∀ (i : Nat) d, δ[i]? = some (.tr d) → p ∉ φ i := by
  obtain ⟨φ, T⟩ := S.tre
  refine ⟨φ, T.grow G.eb G.eh G.nw, fun p hp i d h hq => ?_⟩
  obtain ⟨_, _, ⟨o, ho⟩, _⟩ := T.nw i d p h hq
  rw [hp] at ho
  cases ho
theorem Stt.setSl {B H B' H' : Hp} {σ : St} {v : V} {s : Sl} {j : Nat} (S : Stt C B0 H0 B H σ δ) (G : Gro B H B' H') (S' : Stt C B0 H0 B' H' σ δ) (h : SlV C B0 H0 H B' H' v s) : Stt C B0 H0 B' H' (σ.set j (some v)) (δ.set j s) := by
  cases s with
  | no => exact h.elim
  | rg d => exact h.elim
  | tr d => exact h.elim
  | al k q => exact h.elim
  | sh d g => exact S'.setSh h
  | ow ds g =>
    obtain ⟨p, vs, rfl, h1, h2, h3, r⟩ := h
    obtain ⟨φ, T, np⟩ := S.noTr G S'
    exact S'.setOw (S.ex0.free h1) h2 h3 r (fun i ds g k _ => S.noat h1 i ds g k) ⟨φ, T, np p h1⟩
theorem slV_nr {H B' H' : Hp} {v : V} {s : Sl} (h : SlV C B0 H0 H B' H' v s) : ∀ d, s ≠ .rg d := fun d e => by
  subst e
  exact h.elim
theorem run_nr (g : Bool) : ∀ (t : Tg) (d : D) {δ δ' : List Sl}, t.run g d δ = some δ' → NoRg δ → NoRg δ'
  | .nm j, d, δ, δ', e, n => by
    simp only [Tg.run, Option.some.injEq] at e
    subst e
    exact n.set fun _ => Sl.noConfusion
  | .t2 a b, d, δ, δ', e, n => by
    cases d with
    | tp xs =>
      rcases xs with _ | ⟨x, _ | ⟨y, _ | ⟨z, xs⟩⟩⟩
      · simp [Tg.run] at e
      · simp [Tg.run] at e
      · simp only [Tg.run] at e
        split at e
        · rename_i δ1 e1
          exact run_nr g b y e (run_nr g a x e1 n)
        · cases e
      · simp [Tg.run] at e
    | _ => simp [Tg.run] at e
  | .t3 a b c, d, δ, δ', e, n => by
    cases d with
    | tp xs =>
      rcases xs with _ | ⟨x, _ | ⟨y, _ | ⟨z, _ | ⟨u, xs⟩⟩⟩⟩
      · simp [Tg.run] at e
      · simp [Tg.run] at e
      · simp [Tg.run] at e
      · simp only [Tg.run] at e
        split at e
        · rename_i δ1 e1
          split at e
          · rename_i δ2 e2
            exact run_nr g c z e (run_nr g b y e2 (run_nr g a x e1 n))
          · cases e
        · cases e
      · simp [Tg.run] at e
    | _ => simp [Tg.run] at e
theorem rp_up {B H : Hp} {f g : Bool} {d : D} {v : V} (r : Rp C (Rg B0 H0 B H f g) d v) : Rp C (Rg B0 H0 B H f (g || d.flat)) d v := by
  cases e : d.flat with
  | true => exact r.flat e
  | false => rw [Bool.or_false]; exact r
theorem rps_up {B H : Hp} {f g : Bool} {ds : List D} {vs : List V} (r : Rps C (Rg B0 H0 B H f g) ds vs) : Rps C (Rg B0 H0 B H f (g || flats ds)) ds vs := by
  cases e : flats ds with
  | true => exact rps_flat e r
  | false => rw [Bool.or_false]; exact r
theorem ixN_lt {n : Nat} {k : Int} {j : Nat} (h : ixN n k = some j) : j < n := by
  unfold ixN at h
  split at h
  · split at h
    · cases h; omega
    · cases h
  · split at h
    · cases h; omega
    · cases h
theorem st_for {t : Tg} {wi : TI} {tb : TS} {ds : List D} {g T : Bool} {ex : List Sl → Option Rz} {z : Rz} (hi : ItOk C B0 H0 wi δ (ds, g)) (h : forRun t g ex ds δ = some z) (hb : ∀ δ1 z1, ex δ1 = some z1 → StOk C B0 H0 tb δ1 z1 T) : StOk C B0 H0 (tFor wi (t.rd C.K) tb) δ z T := by
  intro B H σ S nr Dn qn qr
  refine hi B H σ S _ fun J B1 H1 G1 S1 wk => ?_
  obtain ⟨Gd, Y, w, wg, wy⟩ := wk
  refine for_it w (fun i σ' H' => ∃ B' δ', Same B1 B' ∧ Stt C B0 H0 B' H' σ' δ' ∧ NoRg δ' ∧ forRun t g ex (ds.drop i) δ' = some z) ⟨B1, δ, Same.refl _, S1, nr, h⟩ ?_ ?_ ?_
  · rintro i σ' H' _ ⟨B', δ', e, S', _⟩
    exact wg B' H' σ' δ' e S'
  · rintro i x σ' H' H2 hlt ⟨B', δ', e, S', nr', run⟩ y
    obtain ⟨d, B2, ed, G2, S2, rx⟩ := wy i H' x H2 B' σ' δ' hlt e S' y
    have edr : ds.drop i = d :: ds.drop (i + 1) := by
      have hlt' : i < ds.length := hlt
      rw [List.getElem?_eq_getElem hlt'] at ed
      rw [List.drop_eq_getElem_cons hlt']
      cases ed
      rfl
    rw [edr] at run
    simp only [forRun] at run
    split at run
    · cases run
    · rename_i δ1 e1
      refine Tg.ok g t d S2 rx e1 fun σ2 S3 _ => ?_
      split at run
      · rename_i δ2 e2
        refine hb δ1 _ e2 B2 H2 σ2 S3 (run_nr g t d e1 nr') _ (fun δ3 hz B3 H3 σ3 e3 S4 nr4 => ?_) (fun r hz => by cases hz)
        cases hz
        exact ⟨B3, δ2, (e.trans G2.eb).trans e3, S4, nr4, run⟩
      · rename_i v e2
        refine hb δ1 _ e2 B2 H2 σ2 S3 (run_nr g t d e1 nr') _ (fun δ3 hz => by cases hz) (fun r hz v' B3 H3 σ3 δ3 e3 S4 rv tv => ?_)
        cases hz
        cases run
        exact qr _ rfl v' B3 H3 σ3 δ3 (G1.eb.trans ((e.trans G2.eb).trans e3)) S4 rv tv
      · cases run
  · rintro σ' H' ⟨B', δ', e, S', nr', run⟩
    rw [show ds.drop ds.length = [] from List.drop_length] at run
    simp only [forRun, Option.some.injEq] at run
    exact qn δ' run.symm B' H' σ' (G1.eb.trans e) S' nr'
theorem st_whl {tc : TT} {tb : TS} {T : Bool} {cf : List Sl → Option Bool} {ex : List Sl → Option Rz} {z : Rz} {n : Nat} (h : whRun cf ex n δ = some z) (hc : ∀ δ1 b, cf δ1 = some b → TtOk C B0 H0 tc δ1 b) (hb : ∀ δ1 z1, ex δ1 = some z1 → StOk C B0 H0 tb δ1 z1 T) : StOk C B0 H0 (tWhile tc tb) δ z T := by
  intro B H σ S nr Dn qn qr
  refine ⟨fun m σ' H' => ∃ B' δ', Same B B' ∧ Stt C B0 H0 B' H' σ' δ' ∧ NoRg δ' ∧ whRun cf ex m δ' = some z, ⟨n, B, δ, Same.refl _, S, nr, h⟩, ?_⟩
  rintro m σ' H' ⟨B', δ', e, S', nr', run⟩
  cases m with
  | zero => simp [whRun] at run
  | succ m =>
    simp only [whRun] at run
    split at run
    · rename_i ec
      refine hc _ _ ec B' H' σ' S' _ fun B2 H2 G2 S2 => ?_
      rw [if_pos rfl]
      refine ⟨fun σ3 H3 => ∃ B3 δ3, Same B B3 ∧ Stt C B0 H0 B3 H3 σ3 δ3 ∧ NoRg δ3 ∧ whRun cf ex m δ3 = some z, fun σ3 H3 w => ⟨m, by omega, w⟩, ?_⟩
      split at run
      · rename_i δ2 e2
        refine hb δ' _ e2 B2 H2 σ' S2 nr' _ (fun δ3 hz B3 H3 σ3 e3 S4 nr4 => ?_) (fun r hz => by cases hz)
        cases hz
        exact ⟨B3, δ2, (e.trans G2.eb).trans e3, S4, nr4, run⟩
      · rename_i v e2
        refine hb δ' _ e2 B2 H2 σ' S2 nr' _ (fun δ3 hz => by cases hz) (fun r hz v' B3 H3 σ3 δ3 e3 S4 rv tv => ?_)
        cases hz
        cases run
        exact qr _ rfl v' B3 H3 σ3 δ3 ((e.trans G2.eb).trans e3) S4 rv tv
      · cases run
    · rename_i ec
      cases run
      refine hc _ _ ec B' H' σ' S' _ fun B2 H2 G2 S2 => ?_
      rw [if_neg Bool.false_ne_true]
      exact qn δ' rfl B2 H2 σ' (e.trans G2.eb) S2 nr'
    · cases run
theorem exec_ok (hk : KsOk C Γ) : ∀ (c : S) (δ : List Sl) (z : Rz), exec Γ c δ = some z → StOk C B0 H0 (rdS C Γ c) δ z (retT Γ c) := by
  have ev := fun c => (eval_all (B0 := B0) (H0 := H0) hk c)
  intro c
  induction c with
  | nil =>
    intro δ z h B H σ S nr Dn qn qr
    simp only [exec] at h
    cases h
    simp only [rdS]
    exact qn δ rfl B H σ (Same.refl _) S nr
  | seq a r iha ihr =>
    intro δ z h B H σ S nr Dn qn qr
    simp only [exec] at h
    simp only [rdS]
    split at h
    · rename_i δ1 e1
      refine iha δ _ e1 B H σ S nr _ (fun δ' hz B' H' σ' e S' nr' => ?_) (fun r hz => by cases hz)
      cases hz
      exact ihr δ1 z h B' H' σ' S' nr' Dn (fun δ2 hz B2 H2 σ2 e2 S2 nr2 => qn δ2 hz B2 H2 σ2 (e.trans e2) S2 nr2) (fun r hz v B2 H2 σ2 δ2 e2 S2 rv tv => qr r hz v B2 H2 σ2 δ2 (e.trans e2) S2 rv fun k => tv (Bool.and_eq_true_iff.mp k).2)
    · rename_i v e1
      cases h
      exact iha δ _ e1 B H σ S nr _ (fun δ' hz => by cases hz) (fun r hz v B' H' σ' δ' e S' rv tv => qr r hz v B' H' σ' δ' e S' rv fun k => tv (Bool.and_eq_true_iff.mp k).1)
    · cases h
  | asg t e =>
    intro δ z h B H σ S nr Dn qn qr
    simp only [exec] at h
    simp only [rdS]
    split at h
    · rename_i d g e1
      split at h
      · rename_i δ1 e2
        cases h
        refine (ev e).1 δ _ e1 B H σ S _ fun v B' H' G S' r => ?_
        exact Tg.ok g t d S' r e2 fun σ' S2 _ => qn δ1 rfl B' H' σ' G.eb S2 (run_nr g t d e2 nr)
      · cases h
    · cases h
  | own i e =>
    intro δ z h B H σ S nr Dn qn qr
    simp only [exec] at h
    simp only [rdS]
    split at h
    · rename_i r e1
      split at h
      · rename_i s e2
        cases h
        refine slot_ok hk e1 e2 S fun v B' H' G S' r => ?_
        exact qn _ rfl B' H' _ G.eb (S.setSl G S' r) (nr.set (slV_nr r))
      · cases h
    · cases h
  | par i j oi oj a b =>
    intro δ z h B H σ S nr Dn qn qr
    simp only [exec] at h
    simp only [rdS]
    split at h
    · rename_i r e1
      split at h
      · rename_i s e2
        split at h
        · rename_i r' e3
          split at h
          · rename_i s' e4
            cases h
            refine slot_ok hk e1 e2 S fun v B' H' G S' r => ?_
            refine slot_ok hk e3 e4 S' fun u B2 H2 G2 S2 r2 => ?_
            refine ⟨v, u, rfl, ?_⟩
            have T0 := S.setSl (j := i) G S' r
            exact qn _ rfl B2 H2 _ (G.trans G2).eb (T0.setSl G2 (T0.by G2 S2) r2) ((nr.set (slV_nr r)).set (slV_nr r2))
          · cases h
        · cases h
      · cases h
    · cases h
  | pop0 i =>
    intro δ z h B H σ S nr Dn qn qr
    simp only [exec] at h
    simp only [rdS]
    split at h
    · rename_i d ds g e0
      cases h
      obtain ⟨p, vs, ei, h0, hb, hh, r⟩ := S.own i (d :: ds) g e0
      simp only [Rps] at r
      obtain ⟨v, us, rfl, r1, r2⟩ := r
      refine ⟨.ref p, ei, .inl ⟨rfl, _, SqL.of hh⟩, ?_⟩
      refine ⟨p, v :: us, 0, 0, v, rfl, rfl, hh, by decide, by decide, by simp [seqIndex?], rfl, ?_⟩
      exact qn _ rfl B _ σ (Same.refl _) (S.upOw nr e0 ei r2) (nr.set fun _ => Sl.noConfusion)
    · cases h
  | app i e =>
    intro δ z h B H σ S nr Dn qn qr
    simp only [exec] at h
    simp only [rdS]
    split at h
    · rename_i ds g e0
      split at h
      · rename_i d g' e1
        split at h
        · rename_i hz
          cases h
          obtain ⟨p, vs, ei, h0, hb, hh, r⟩ := S.own i ds g e0
          refine ⟨.ref p, ei, .inl ⟨rfl, _, SqL.of hh⟩, ?_⟩
          refine (ev e).1 δ _ e1 B H σ S _ fun v B' H' G S' rv => ?_
          refine ⟨p, vs, v, rfl, rfl, G.eh _ _ hh, Nat.lt_of_lt_of_le (show vs.length < 100000 by rw [r.len]; exact hz) (by decide), ?_⟩
          refine qn _ rfl B' _ σ G.eb (S'.upOw nr e0 ei ?_) (nr.set fun _ => Sl.noConfusion)
          exact ((r.mono (G.rg true g)).mono (S'.weakL true g true _)).app (.one ((rp_up rv).mono (S'.weakR true _ true g)))
        · cases h
      · cases h
    · cases h
  | ext i e =>
    intro δ z h B H σ S nr Dn qn qr
    simp only [exec] at h
    simp only [rdS]
    split at h
    · rename_i ds g e0
      split at h
      · rename_i es g' e1
        split at h
        · rename_i hz
          cases h
          obtain ⟨p, vs, ei, h0, hb, hh, r⟩ := S.own i ds g e0
          refine ⟨.ref p, ei, .inl ⟨rfl, _, SqL.of hh⟩, ?_⟩
          refine (ev e).1 δ _ e1 B H σ S _ fun v B' H' G S' rv => ?_
          rw [rp_ls] at rv
          obtain ⟨b, us, rfl, hb', ru⟩ := rv
          refine ⟨p, b, vs, us, rfl, rfl, G.eh _ _ hh, S'.toH _ _ _ _ hb', sz_of (by rw [r.len, ru.len]; omega), ?_⟩
          refine qn _ rfl B' _ σ G.eb (S'.upOw nr e0 ei ?_) (nr.set fun _ => Sl.noConfusion)
          exact ((r.mono (G.rg true g)).mono (S'.weakL true g true _)).app ((rps_up ru).mono (S'.weakR true _ true g))
        · cases h
      · cases h
    · cases h
  | six i b e =>
    intro δ z h B H σ S nr Dn qn qr
    simp only [exec] at h
    simp only [rdS]
    split at h
    · rename_i ds g e0
      split at h
      · rename_i d g' e1
        split at h
        · rename_i k f2 g2 e2
          split at h
          · rename_i j e3
            cases h
            refine (ev e).1 δ _ e1 B H σ S _ fun v B' H' G S' rv => ?_
            obtain ⟨p, vs, ei, h0, hb, hh, r⟩ := S'.own i ds g e0
            refine ⟨.ref p, ei, ?_⟩
            refine (ev b).1 δ _ e2 B' H' σ S' _ fun u B2 H2 G2 S2 r2 => ?_
            rw [rp_int] at r2
            subst r2
            refine ⟨p, vs, k, j, rfl, rfl, G2.eh _ _ hh, by rw [r.len]; exact e3, ?_⟩
            refine qn _ rfl B2 _ σ (G.trans G2).eb (S2.upOw nr e0 ei ?_) (nr.set fun _ => Sl.noConfusion)
            exact ((r.mono (G2.rg true g)).mono (S2.weakL true g true _)).set j ((rp_up (rv.mono (G2.rg true g'))).mono (S2.weakR true _ true g))
          · cases h
        · cases h
      · cases h
    · cases h
  | aix i b e =>
    intro δ z h B H σ S nr Dn qn qr
    simp only [exec] at h
    simp only [rdS]
    split at h
    · rename_i ds g e0
      split at h
      · rename_i k f2 g2 e2
        split at h
        · rename_i x e3
          split at h
          · rename_i y f4 g4 e4
            split at h
            · rename_i j e5
              cases h
              obtain ⟨p, vs, ei, h0, hb, hh, r⟩ := S.own i ds g e0
              refine ⟨.ref p, ei, ?_⟩
              refine (ev b).1 δ _ e2 B H σ S _ fun u B' H' G S' r2 => ?_
              rw [rp_int] at r2
              subst r2
              obtain ⟨v, ev', rv⟩ := atI_rps r e3
              rw [rp_int] at rv
              subst rv
              refine ⟨p, vs, k, .int x, rfl, rfl, SqL.of (G.eh _ _ hh), ev', ?_⟩
              refine (ev e).1 δ _ e4 B' H' σ S' _ fun u B2 H2 G2 S2 r3 => ?_
              rw [rp_int] at r3
              subst r3
              refine ⟨x, y, rfl, rfl, p, vs, k, j, rfl, rfl, (G.eh.trans G2.eh) _ _ hh, by rw [r.len]; exact e5, ?_⟩
              refine qn _ rfl B2 _ σ (G.trans G2).eb (S2.upOw nr e0 ei ?_) (nr.set fun _ => Sl.noConfusion)
              exact (r.mono ((G.trans G2).rg true g)).set j (by rw [rp_int])
            · cases h
          · cases h
        · cases h
      · cases h
    · cases h
  | aug i e =>
    intro δ z h B H σ S nr Dn qn qr
    simp only [exec] at h
    simp only [rdS]
    split at h
    · rename_i x g e0
      split at h
      · rename_i y f4 g4 e4
        cases h
        obtain ⟨v, ei, r⟩ := S.shr i _ g e0
        rw [rp_int] at r
        subst r
        refine ⟨.int x, ei, ?_⟩
        refine (ev e).1 δ _ e4 B H σ S _ fun u B2 H2 G2 S2 r3 => ?_
        rw [rp_int] at r3
        subst r3
        exact ⟨x, y, rfl, rfl, qn _ rfl B2 H2 _ G2.eb (S2.setSh (by rw [rp_int])) (nr.set fun _ => Sl.noConfusion)⟩
      · cases h
    · cases h
  | ite c a b iha ihb =>
    intro δ z h B H σ S nr Dn qn qr
    simp only [exec] at h
    simp only [rdS]
    split at h
    · rename_i t
      split at h
      · rename_i f1 g1 e1
        refine (ev c).2.2.2.2 δ _ _ _ t e1 B H σ S _ fun B' H' G S' => ?_
        rw [if_pos rfl]
        exact iha δ z h B' H' σ S' nr Dn (fun δ2 hz B2 H2 σ2 e2 S2 nr2 => qn δ2 hz B2 H2 σ2 (G.eb.trans e2) S2 nr2) (fun r hz v B2 H2 σ2 δ2 e2 S2 rv tv => qr r hz v B2 H2 σ2 δ2 (G.eb.trans e2) S2 rv fun k => tv (Bool.and_eq_true_iff.mp k).1)
      · rename_i f1 g1 e1
        refine (ev c).2.2.2.2 δ _ _ _ t e1 B H σ S _ fun B' H' G S' => ?_
        rw [if_neg Bool.false_ne_true]
        exact ihb δ z h B' H' σ S' nr Dn (fun δ2 hz B2 H2 σ2 e2 S2 nr2 => qn δ2 hz B2 H2 σ2 (G.eb.trans e2) S2 nr2) (fun r hz v B2 H2 σ2 δ2 e2 S2 rv tv => qr r hz v B2 H2 σ2 δ2 (G.eb.trans e2) S2 rv fun k => tv (Bool.and_eq_true_iff.mp k).2)
      · cases h
    · cases h
  | loop t it b ihb =>
    intro δ z h
    simp only [exec] at h
    simp only [rdS]
    split at h
    · rename_i ds g e1
      exact st_for (T := retT Γ b) ((ev it).2.2.2.1 δ _ e1) h fun δ1 z1 h1 => ihb δ1 z1 h1
    · cases h
  | ret e =>
    intro δ z h B H σ S nr Dn qn qr
    simp only [exec] at h
    simp only [rdS]
    split at h
    · rename_i r e1
      cases h
      by_cases hT : stT Γ e = true ∧ r.1.tflat = true ∧ r.2.1 = true
      · obtain ⟨d, f, g⟩ := r
        obtain ⟨h1, h2, h3⟩ := hT
        have h3 : f = true := h3
        subst h3
        refine (eval_tree hk e).1 δ d g e1 (stT_ok h1 h2 e1) B H σ S _ fun v ps B' H' G S' t n w => ?_
        have hb : ∀ p ∈ ps, H0 p = none := fun p hp => S.ex0.free (w p hp).1
        let B2 : Hp := fun p => if p ∈ ps then H' p else B' p
        have e2 : Same B' B2 := fun p o k => by
          show (if p ∈ ps then H' p else B' p) = some o
          split
          · exact S'.sub _ _ k
          · exact k
        have S2 : Stt C B0 H0 B2 H' σ δ := S.grow (G.eb.trans e2) G.eh (fun p o k => by
            have k : (if p ∈ ps then H' p else B' p) = some o := k
            split at k
            · exact k
            · exact S'.sub _ _ k) (fun p o k => by
            have k : (if p ∈ ps then H' p else B' p) = some o := k
            split at k
            · exact .inr (w p (by assumption)).1
            · exact G.nw p o k)
        refine qr _ rfl v B2 H' σ δ (G.eb.trans e2) S2 ?_ fun _ _ _ => ⟨ps, Tr.emp h2 t, n, hb⟩
        have nH : Tr C Emp H' d v ps := Tr.emp h2 t
        cases g with
        | false =>
          refine nH.rp (fun _ _ k => by cases k) fun p hp o k => ?_
          show (if p ∈ ps then H' p else B' p) = some o
          rw [if_pos hp]
          exact k
        | true =>
          refine nH.rp (fun _ _ k => by cases k) fun p hp o k => ?_
          show (match H0 p with | none => (if p ∈ ps then H' p else B' p) | some _ => none) = some o
          rw [hb p hp]
          show (if p ∈ ps then H' p else B' p) = some o
          rw [if_pos hp]
          exact k
      · exact (ev e).1 δ _ e1 B H σ S _ fun v B' H' G S' rv => qr r rfl v B' H' σ δ G.eb S' rv fun h1 h2 h3 => absurd ⟨h1, h2, h3⟩ hT
    · cases h
  | exp e =>
    intro δ z h B H σ S nr Dn qn qr
    simp only [exec] at h
    simp only [rdS]
    split at h
    · rename_i r e1
      cases h
      exact (ev e).1 δ _ e1 B H σ S _ fun v B' H' G S' rv => qn δ rfl B' H' σ G.eb S' nr
    · cases h
  | frz i r ihr =>
    intro δ z h B H σ S nr Dn qn qr
    simp only [exec] at h
    simp only [rdS]
    split at h
    · rename_i ds g e0
      obtain ⟨B', eb, S'⟩ := S.freeze e0
      exact ihr _ z h B' H σ S' (nr.set fun _ => Sl.noConfusion) Dn (fun δ2 hz B2 H2 σ2 e2 S2 nr2 => qn δ2 hz B2 H2 σ2 (eb.trans e2) S2 nr2) (fun r hz v B2 H2 σ2 δ2 e2 S2 rv tv => qr r hz v B2 H2 σ2 δ2 (eb.trans e2) S2 rv tv)
    · cases h
  | die =>
    intro δ z h
    simp only [exec] at h
    cases h
  | whl c b ihb =>
    intro δ z h
    simp only [exec] at h
    simp only [rdS]
    split at h
    · rename_i t
      exact st_whl (T := retT Γ b) h (fun δ1 b1 h1 => tst_tt t (ev c).2.2.2.2 h1) fun δ1 z1 h1 => ihb δ1 z1 h1
    · cases h
end
/-! ### a def by its compact text -/
def st0 (n : Nat) (ds : List D) : List Sl := ds.map (fun d => Sl.sh d false) ++ List.replicate (n - ds.length) .no
def endOf (fr : Bool) : Option Rz → Option D
  | some (.rt (d, _, g)) => if fr = true then (if (g || d.flat) = true then some d else none) else some d
  | some (.nx _) => some .non
  | none => none
def mkFd (Γ : Ga) (ar n : Nat) (fr : Bool) (c : S) : Fd := ⟨ar, fr, false, fun ds => endOf fr (exec Γ c (st0 n ds))⟩
/-- a def that gives a tree -/
def endOfT (fr : Bool) : Option Rz → Option D
  | some (.rt (d, f, g)) => if f = true then (if fr = true then (if (g || d.flat) = true then some d else none) else some d) else none
  | _ => none
def mkFdT (Γ : Ga) (ar n : Nat) (fr : Bool) (c : S) : Fd := ⟨ar, fr, true, fun ds => endOfT fr (exec Γ c (st0 n ds))⟩
end G

namespace G
open PySem PySem.Spec PyProof.Rows L2
/-! ### two more rules -/
theorem mulx_ok {i j : Int} (h : CMulX i j) : IntMulOk i j := by
  unfold CMulX mulok at h
  simp only [Bool.or_eq_true, decide_eq_true_eq] at h
  rcases h with (h | h) | h
  · exact CMul.ok (.inl ⟨by omega, by omega⟩)
  · exact CMul.ok (.inr ⟨by omega, by omega⟩)
  · have b : ∀ x : Int, Builtin.Int.intBits x ≤ x.natAbs.log2 + 1 := fun x => by
      unfold Builtin.Int.intBits
      split <;> omega
    have b1 := b i
    have b2 := b j
    have e : bitsLine = 134217728 := by decide
    intro z
    rw [Bool.and_eq_true] at z
    have z3 := z.2
    unfold Builtin.Int.intTooBig at z3
    have z4 := of_decide_eq_true z3
    rw [e] at z4
    omega
section
variable {X : Cx}
theorem op_mulX : OpR X (binaryOp .Mult) (Bo.r .mul) := opI fun _ _ _ _ _ _ _ hc q => PyProof.Rows.mul_int q (mulx_ok hc)
theorem get_list : PGet X (rGetL X.K) := by
  intro pins s σ H x y v u Q I rx ry h
  obtain ⟨p, xs, i, z, rfl, rfl, hq, he, q⟩ := h
  cases rx
  obtain ⟨t, rfl⟩ := ry
  obtain ⟨its, r, pl, hz⟩ := I.list hq
  obtain ⟨j, h1, h2, h3, h4, h5⟩ := atI_get he
  obtain ⟨w, ew, rw'⟩ := r.get h2
  have hl := r.length
  have hn := line63
  have fin : EP X pins σ Q w s := ⟨z, H, I, rw', q⟩
  by_cases h0 : 0 ≤ i
  · have hj : i.toNat = j := by
      rw [seqIndex_of h0 h5] at h1
      exact Option.some.inj h1
    exact wpAny_getItem_list pl.isList h0 (by omega) (by rw [hj]; simpa using ew) fin
  · have hj : (i + (its.toArray.size : Int)).toNat = j := by
      rw [seqIndex_neg (by omega) h4] at h1
      rw [List.size_toArray, ← hl]
      exact Option.some.inj h1
    exact wpAny_getItem_list_neg pl.isList (by omega) (by rw [List.size_toArray] <;> omega) (by omega) (by rw [hj]; simpa using ew) fin
end

/-! ### a def by its compact text -/
theorem stt_start {C : Cf} {B H : Hp} {N : List Str} {ds : List D} {vs : List V} (e : Same B H) (r : Rps C B ds vs) : Stt C B H B H (L2.start N vs) (st0 N.length ds) := by
  have hl := r.len
  have ge : ∀ (i : Nat) s, (st0 N.length ds)[i]? = some s → s ≠ .no → ∃ d, ds[i]? = some d ∧ s = .sh d false := fun i s h n => by
    unfold st0 at h
    by_cases hi : i < ds.length
    · rw [List.getElem?_append_left (by simpa using hi), List.getElem?_map, List.getElem?_eq_getElem hi] at h
      simp only [Option.map_some, Option.some.injEq] at h
      exact ⟨_, List.getElem?_eq_getElem hi, h.symm⟩
    · rw [List.getElem?_append_right (by simpa using hi), List.getElem?_replicate] at h
      split at h
      · exact absurd (Option.some.inj h).symm n
      · cases h
  refine ⟨Same.refl _, Same.refl _, e, fun _ _ h => .inl h, ?_, fun i d g h => ?_, fun i ds' g h => ?_, fun i j a b c d p h => ?_, fun i d h => ?_, ⟨fun _ => [], fun i d h => ?_, fun i d h => ?_, fun i d p h => ?_, fun i j d d' p h => ?_⟩, fun i j q h => ?_⟩
  · unfold L2.start st0
    simp only [List.length_append, List.length_map, List.length_replicate, hl]
  · obtain ⟨d', h1, h2⟩ := ge i _ h Sl.noConfusion
    cases h2
    obtain ⟨v, h3, h4⟩ := r.get h1
    refine ⟨v, ?_, h4⟩
    unfold L2.start
    have hi : i < vs.length := (List.getElem?_eq_some_iff.mp h3).1
    rw [List.getElem?_append_left (by simpa using hi), List.getElem?_map, h3]
    rfl
  all_goals
    obtain ⟨d', _, h2⟩ := ge i _ h Sl.noConfusion
    cases h2
theorem st0_nr (n : Nat) (ds : List D) : NoRg (st0 n ds) := fun i d h => by
  unfold st0 at h
  by_cases hi : i < ds.length
  · rw [List.getElem?_append_left (by simpa using hi), List.getElem?_map, List.getElem?_eq_getElem hi] at h
    simp at h
  · rw [List.getElem?_append_right (by simpa using hi), List.getElem?_replicate] at h
    split at h
    · simp at h
    · cases h
theorem fn_end2 {C : Cf} {B H B' H' : Hp} {σ' : L2.St} {δ' : List Sl} {d' : D} {f' g' fr : Bool} {d : D} {v : V} {R : Prop} (S' : Stt C B H B' H' σ' δ') (rv : Rp C (Rg B H B' H' f' g') d' v) (run : (if fr = true then (if (g' || d'.flat) = true then some d' else none) else some d') = some d)
    (q : Same H H' → Rp C (Rsd (if fr = true then Emp else B) H H') d v → R) : R := by
  cases fr with
  | false =>
    simp only [Bool.false_eq_true, if_false, Option.some.injEq] at run
    subst run
    refine q S'.ex0 ?_
    rw [if_neg Bool.false_ne_true]
    exact rv.mono (S'.weak f' g' false false (fun h => by cases h) (fun h => by cases h))
  | true =>
    simp only [if_true] at run
    split at run
    · rename_i hg
      cases run
      refine q S'.ex0 ?_
      rw [if_pos rfl]
      rw [Bool.or_eq_true] at hg
      rcases hg with hg | hg
      · have hg : g' = true := hg
        subst hg
        refine rv.mono (Same.trans (S'.weak f' true false true (fun h => by cases h) id) fun p o h => ?_)
        have h : (match H p with | none => H' p | some _ => none) = some o := h
        unfold Rsd Emp
        cases z : H p with
        | none => rw [z] at h; exact h
        | some u => rw [z] at h; cases h
      · exact rv.flat hg
    · cases run
theorem fn_end {C : Cf} {B H B' H' : Hp} {σ' : L2.St} {δ' : List Sl} {d' : D} {f' g' fr : Bool} {d : D} {v : V} {Q : V → Hp → Prop} (S' : Stt C B H B' H' σ' δ') (rv : Rp C (Rg B H B' H' f' g') d' v) (run : (if fr = true then (if (g' || d'.flat) = true then some d' else none) else some d') = some d)
    (q : ∀ v H', Same H H' → Rp C (Rsd (if fr = true then Emp else B) H H') d v → Q v H') : Q v H' := fn_end2 S' rv run (q v H')
section
variable {P : Program} {w : World} {K : PySem.W.Frag} {mg : Str → Option Value} {base : Heap}
theorem fn_c {Cl : Nat → Addr × List Str} {kv : Nat → V} {x qual : Str} {st : Stmt} {f : Addr} {fd : FuncData} {N ps : List Str} {k : Nat} {Γ : Ga} {fr : Bool} {c : S} (F : Fun K x qual st f fd) (sc : FnScope N ps (defScope st)) (hk : KsOk ⟨K, Cl, w, kv⟩ Γ)
    (body : ∀ (cdv : Value) (A : Around) (outer : List Env) (s : Shared) (H : Hp) (E : XK), Room k (A.deeper (envOfC qual (defScope st) s.heap.objs.size f cdv)) →
      PSs (cxOf CX0 P w K mg base N qual (defScope st) f cdv A outer s H E).nox (defBody st) (rdS ⟨K, Cl, w, kv⟩ Γ c)) : FnOk P w K mg base CX0 (k + 1) f fd ps (spOf ⟨K, Cl, w, kv⟩ (mkFd Γ ps.length N.length fr c)) := by
  refine F.ok sc (fun vs H Q E h => ?_) (fun cdv A outer s H vs Q E hr h => ?_)
  · obtain ⟨B, ds, d, e, r, hl, _⟩ := h
    exact r.len.trans hl
  · obtain ⟨B, ds, d, e, r, hl, run, q⟩ := h
    refine ⟨_, body cdv A outer s H E hr, ?_⟩
    have S := stt_start (N := N) e r
    have run : endOf fr (exec Γ c (st0 N.length ds)) = some d := run
    cases ex : exec Γ c (st0 N.length ds) with
    | none => rw [ex] at run; cases run
    | some z =>
      rw [ex] at run
      refine exec_ok hk c _ z ex B H _ S (st0_nr _ _) _ (fun δ' hz B' H' σ' eb S' _ => ?_) (fun rr hz v B' H' σ' δ' eb S' rv _ => ?_)
      · subst hz
        simp only [endOf, Option.some.injEq] at run
        subst run
        exact q _ H' S'.ex0 (by rw [rp_non]) (fun h => by cases h)
      · subst hz
        obtain ⟨d', f', g'⟩ := rr
        simp only [endOf] at run
        have q : ∀ v H', Same H H' → Rp ⟨K, Cl, w, kv⟩ (Rsd (if fr = true then Emp else B) H H') d v → (false = true → d.tflat = true → TreeAt ⟨K, Cl, w, kv⟩ H H' d v) → Q v H' := q
        refine fn_end S' rv run fun v' H2 e2 r2 => q v' H2 e2 r2 (fun h => by cases h)
/-- a def that gives a tree -/
theorem fnT_c {Cl : Nat → Addr × List Str} {kv : Nat → V} {x qual : Str} {st : Stmt} {f : Addr} {fd : FuncData} {N ps : List Str} {k : Nat} {Γ : Ga} {fr : Bool} {c : S} (F : Fun K x qual st f fd) (sc : FnScope N ps (defScope st)) (hk : KsOk ⟨K, Cl, w, kv⟩ Γ) (hT : retT Γ c = true)
    (body : ∀ (cdv : Value) (A : Around) (outer : List Env) (s : Shared) (H : Hp) (E : XK), Room k (A.deeper (envOfC qual (defScope st) s.heap.objs.size f cdv)) →
      PSs (cxOf CX0 P w K mg base N qual (defScope st) f cdv A outer s H E).nox (defBody st) (rdS ⟨K, Cl, w, kv⟩ Γ c)) : FnOk P w K mg base CX0 (k + 1) f fd ps (spOf ⟨K, Cl, w, kv⟩ (mkFdT Γ ps.length N.length fr c)) := by
  refine F.ok sc (fun vs H Q E h => ?_) (fun cdv A outer s H vs Q E hr h => ?_)
  · obtain ⟨B, ds, d, e, r, hl, _⟩ := h
    exact r.len.trans hl
  · obtain ⟨B, ds, d, e, r, hl, run, q⟩ := h
    refine ⟨_, body cdv A outer s H E hr, ?_⟩
    have S := stt_start (N := N) e r
    have run : endOfT fr (exec Γ c (st0 N.length ds)) = some d := run
    cases ex : exec Γ c (st0 N.length ds) with
    | none => rw [ex] at run; cases run
    | some z =>
      rw [ex] at run
      refine exec_ok hk c _ z ex B H _ S (st0_nr _ _) _ (fun δ' hz B' H' σ' eb S' _ => ?_) (fun rr hz v B' H' σ' δ' eb S' rv tv => ?_)
      · subst hz
        simp [endOfT] at run
      · subst hz
        obtain ⟨d', f', g'⟩ := rr
        simp only [endOfT] at run
        split at run
        · rename_i hf
          have q : ∀ v H', Same H H' → Rp ⟨K, Cl, w, kv⟩ (Rsd (if fr = true then Emp else B) H H') d v → (true = true → d.tflat = true → TreeAt ⟨K, Cl, w, kv⟩ H H' d v) → Q v H' := q
          have ed : d' = d := by
            split at run
            · split at run
              · exact Option.some.inj run
              · cases run
            · exact Option.some.inj run
          subst ed
          refine fn_end2 S' rv run fun e2 r2 => q v H' e2 r2 fun _ ht => tv hT ht hf
        · cases run
/-- a def whose arguments come by their places -/
structure Fn1 (K : PySem.W.Frag) (mg : Str → Option Value) (x : Str) (st : Stmt) (ps : List Str) (f : Addr) (fd : FuncData) : Prop where
  F : Fun K x x st f fd
  g : mg x = some (.ref f)
  b : Binds K fd ps []
/-! ### the law's own def: its script is cut first -/
def spLaw (K : PySem.W.Frag) : Sp := fun vs H Q _ => ∃ (a : Addr) (ns : List Int), vs = [.ref a] ∧ SqL K H a (ns.map V.int) ∧ ns.length ≤ 63 ∧ (∀ z ∈ ns, Builtin.Int.intBits z ≤ 1048576) ∧ ∀ H', Q (.bl true) H'
theorem cut63 {ns : List Int} (h : ns.length ≤ 63) : cutV (ns.map V.int) none (some 63) = ns.map V.int := by
  unfold cutV
  rw [HT.sIx_none, show HT.sIx (ns.map V.int).length (ns.map V.int).length (some 63) = min 63 (ns.map V.int).length from HT.sIx_nat _ _ 63]
  rw [List.drop_zero, Nat.sub_zero, List.take_of_length_le]
  simp only [List.length_map]
  omega
theorem law_c {Cl : Nat → Addr × List Str} {kv : Nat → V} {st : Stmt} {f : Addr} {fd : FuncData} {N : List Str} {x : Str} {k : Nat} {Γ : Ga} {c : S} (F : Fun K "law" "law" st f fd) (sc : FnScope N [x] (defScope st)) (hk : KsOk ⟨K, Cl, w, kv⟩ Γ)
    (body : ∀ (cdv : Value) (A : Around) (outer : List Env) (s : Shared) (H : Hp) (E : XK), Room k (A.deeper (envOfC "law" (defScope st) s.heap.objs.size f cdv)) →
      PSs (cxOf CX0 P w K mg base N "law" (defScope st) f cdv A outer s H E).nox (defBody st) (tSeq (tAsg (tSl (rSlL K) (tVar 0) tNoPart (tPart (tC (.int 63)))) (gName 0)) (rdS ⟨K, Cl, w, kv⟩ Γ c)))
    (run : ∀ ns : List Int, ns.length ≤ 63 → (∀ z ∈ ns, Builtin.Int.intBits z ≤ 1048576) → ∃ f g, exec Γ c (st0 N.length [.ls (ns.map D.int)]) = some (.rt (.bl true, f, g))) : FnOk P w K mg base CX0 (k + 1) f fd [x] (spLaw K) := by
  refine F.ok sc (fun vs H Q E h => ?_) (fun cdv A outer s H vs Q E hr h => ?_)
  · obtain ⟨a, ns, rfl, _⟩ := h
    rfl
  · obtain ⟨a, ns, rfl, hS, hl, hb, q⟩ := h
    refine ⟨_, body cdv A outer s H E hr, ?_⟩
    have hN : 0 < N.length := by
      have := congrArg List.length sc.pre
      simp only [List.length_take, List.length_singleton] at this
      omega
    refine ⟨.ref a, ?_, 63, rfl, a, ns.map V.int, rfl, hS, fun p hp => ?_⟩
    · unfold L2.start
      rfl
    · rw [cut63 hl]
      obtain ⟨f', g', ex⟩ := run ns hl hb
      have S : Stt ⟨K, Cl, w, kv⟩ (upd H p (.lst (ns.map V.int))) (upd H p (.lst (ns.map V.int))) (upd H p (.lst (ns.map V.int))) (upd H p (.lst (ns.map V.int))) (L2.start N [.ref p]) (st0 N.length [.ls (ns.map D.int)]) :=
        stt_start (Same.refl _) (.one (by rw [rp_ls]; exact ⟨p, _, rfl, upd_same, rps_ints ns⟩))
      have e : (L2.start N [V.ref a]).set 0 (some (V.ref p)) = L2.start N [.ref p] := by
        unfold L2.start
        rfl
      show rdS ⟨K, Cl, w, kv⟩ Γ c _ ((L2.start N [V.ref a]).set 0 (some (V.ref p))) _
      rw [e]
      refine exec_ok hk c _ _ ex _ _ _ S (st0_nr _ _) _ (fun δ' hz => by cases hz) (fun rr hz v B' H' σ' δ' eb S' rv _ => ?_)
      cases hz
      rw [rp_bl] at rv
      subst rv
      exact q H'
end
end G

namespace G
open PySem PySem.Spec PyProof.Rows L2
/-! ### an __init__ that sets fields -/
def evalF (Γ : Ga) : List (Str × E) → List Sl → Option (List D × Bool)
  | [], _ => some ([], true)
  | (_, e) :: r, δ => match eval Γ e δ with
    | some (d, true, g) => match evalF Γ r δ with
      | some (ds, g') => some (d :: ds, (g || d.flat) && g')
      | none => none
    | _ => none
def rdF (C : Cf) (Γ : Ga) : List (Str × E) → TS
  | [] => tNext
  | (f, e) :: r => tSeq (sFld C.K (tVar 0) (rd C Γ e) f) (rdF C Γ r)
def stI (n : Nat) (ds : List D) : List Sl := .no :: st0 (n - 1) ds
def trF (Γ : Ga) : List (Str × E) → List D → Bool
  | [], [] => true
  | (_, e) :: r, d :: ds => trOk Γ e d && trF Γ r ds
  | _, _ => false
/-- an __init__ whose fields are trees -/
def mkNdT (Γ : Ga) (c ar n : Nat) (fs : List (Str × E)) : Nd := ⟨c, ar, true, true, fun ds => match evalF Γ fs (stI n ds) with
  | some (xs, _) => if (trF Γ fs xs && D.tflats xs) = true then some xs else none
  | none => none⟩
def mkNd (Γ : Ga) (c ar n : Nat) (fr : Bool) (fs : List (Str × E)) : Nd := ⟨c, ar, fr, false, fun ds => match evalF Γ fs (stI n ds) with
  | some (xs, g) => if fr = true then (if g = true then some xs else none) else some xs
  | none => none⟩
/-- the same with a check ahead -/
def mkNdTK (Γ : Ga) (c ar n : Nat) (ck : E) (fs : List (Str × E)) : Nd := ⟨c, ar, true, true, fun ds => match isTst ck, eval Γ ck (stI n ds) with
  | true, some (.bl false, _, _) => match evalF Γ fs (stI n ds) with
    | some (xs, _) => if (trF Γ fs xs && D.tflats xs) = true then some xs else none
    | none => none
  | _, _ => none⟩
theorem putF_new {f : Str} {v : V} : ∀ {fs : List (Str × V)}, f ∉ fs.map (·.1) → putF f v fs = fs ++ [(f, v)]
  | [], _ => rfl
  | (g, x) :: r, h => by
    simp only [List.map_cons, List.mem_cons, not_or] at h
    unfold putF
    rw [if_neg (fun z => h.1 z.symm), putF_new h.2]
    rfl
theorem zip_snoc : ∀ {ns : List Str} {xs : List V} {f : Str} {v : V}, xs.length = ns.length → ns.zip xs ++ [(f, v)] = (ns ++ [f]).zip (xs ++ [v])
  | [], [], _, _, _ => rfl
  | [], _ :: _, _, _, h => by simp at h
  | _ :: _, [], _, _, h => by simp at h
  | n :: ns, x :: xs, f, v, h => by
    simp only [List.zip_cons_cons, List.cons_append, zip_snoc (ns := ns) (xs := xs) (by simpa using h)]
theorem initOk {C : Cf} {B0 H0 : Hp} {Γ : Ga} {δ : List Sl} {x dx : Addr} {Ca : Addr} (hk : KsOk C Γ) (cl : Cls C.K Ca) (nos : ∀ (i : Nat) s, δ[i]? = some s → s = .no ∨ ∃ d g, s = .sh d g) (h0 : H0 x = none) :
    ∀ (fs : List (Str × E)) (done : List Str) (B H : Hp) (σ : L2.St) (xs : List V) (ds ds' : List D) (g g' : Bool), Stt C B0 H0 B H σ δ → σ[0]? = some (some (.ref x)) → B x = none → H x = some (.ins Ca dx (done.zip xs)) → xs.length = done.length → done.length + fs.length < 1000 →
      (done ++ fs.map (·.1)).Nodup → (∀ f ∈ fs.map (·.1), NoAttr C.K Ca f) → Rps C (Rg B0 H0 B H true g) ds xs → evalF Γ fs δ = some (ds', g') → ∀ Dn : Ends,
      (∀ B' H' ys, Same B B' → B' x = none → (∀ p o, p ≠ x → H p = some o → H' p = some o) → Stt C B0 H0 B' H' σ δ → H' x = some (.ins Ca dx ((done ++ fs.map (·.1)).zip ys)) → ys.length = (done ++ fs.map (·.1)).length → Rps C (Rg B0 H0 B' H' true (g && g')) (ds ++ ds') ys → Dn.nx σ H') → rdF C Γ fs Dn σ H
  | [], done, B, H, σ, xs, ds, ds', g, g', S, e0, hb, hx, hl, hn, nd, na, r, h, Dn, q => by
    simp only [evalF, Option.some.injEq, Prod.mk.injEq] at h
    obtain ⟨rfl, rfl⟩ := h
    simp only [List.map_nil, List.append_nil, Bool.and_true] at q
    exact q B H xs (Same.refl _) hb (fun _ _ _ h => h) S hx hl r
  | (f, e) :: fs, done, B, H, σ, xs, ds, ds', g, g', S, e0, hb, hx, hl, hn, nd, na, r, h, Dn, q => by
    simp only [evalF] at h
    split at h
    · rename_i d gd e1
      split at h
      · rename_i ds2 g2 e2
        cases h
        refine (eval_all hk e).1 δ _ e1 B H σ S _ fun v B1 H1 G1 S1 r1 => ?_
        have hb1 : B1 x = none := by
          cases z : B1 x with
          | none => rfl
          | some o =>
            rcases G1.nw x o z with k | k
            · rw [hb] at k; cases k
            · rw [hx] at k; cases k
        simp only [List.map_cons, List.length_cons] at nd hn na
        have hf : f ∉ (done.zip xs).map (·.1) := by
          intro z
          have z2 : f ∈ done := by
            obtain ⟨p, hp, rfl⟩ := List.mem_map.mp z
            exact (List.of_mem_zip hp).1
          rw [List.nodup_append] at nd
          exact nd.2.2 f z2 f (by simp) rfl
        refine ⟨.ref x, e0, x, Ca, dx, _, rfl, G1.eh _ _ hx, cl, na f (by simp), ?_, ?_⟩
        · rw [List.length_zip]
          omega
        · rw [putF_new hf, zip_snoc hl]
          have S2 : Stt C B0 H0 B1 (upd H1 x (.ins Ca dx ((done ++ [f]).zip (xs ++ [v])))) σ δ := by
            obtain ⟨φ, T⟩ := S1.tre
            exact S1.spoil (o := .ins Ca dx ((done ++ [f]).zip (xs ++ [v]))) (fun i d k => by rcases nos i _ k with z | ⟨_, _, z⟩ <;> cases z) h0 hb1 (fun i ds g k => by
              rcases nos i _ k with z | ⟨_, _, z⟩ <;> cases z) ⟨φ, T, fun i d k => by rcases nos i _ k with z | ⟨_, _, z⟩ <;> cases z⟩
          refine initOk hk cl nos h0 fs (done ++ [f]) B1 _ σ (xs ++ [v]) (ds ++ [d]) ds2 (g && (gd || d.flat)) g2 S2 e0 hb1 upd_same (by simp [hl]) (by simp; omega) (by simpa [List.append_assoc] using nd) (fun f' hf' => na f' (by simp at hf' ⊢; exact .inr hf')) ?_ e2 Dn fun B' H' ys eb hbx eh S' hx' hl' r' => ?_
          · rw [rg_true _ (H' := H1)]
            exact ((r.mono (G1.rg true g)).mono (S1.weakL true g true _)).app (.one ((rp_up r1).mono (S1.weakR true _ true g)))
          · simp only [List.append_assoc, List.singleton_append] at hx' hl' r'
            refine q B' H' ys (G1.eb.trans eb) hbx (fun p o np k => eh p o np ?_) S' hx' hl' ?_
            · rw [upd_ne np]
              exact G1.eh _ _ k
            · rw [Bool.and_assoc] at r'
              exact r'
      · cases h
    · cases h
theorem initOkT {C : Cf} {B0 H0 : Hp} {Γ : Ga} {δ : List Sl} {x dx : Addr} {Ca : Addr} (hk : KsOk C Γ) (cl : Cls C.K Ca) (nos : ∀ (i : Nat) s, δ[i]? = some s → s = .no ∨ ∃ d g, s = .sh d g) (h0 : H0 x = none) (Hs : Hp) :
    ∀ (fs : List (Str × E)) (done : List Str) (B H : Hp) (σ : L2.St) (xs : List V) (ds ds' : List D) (ps : List Addr) (g' : Bool), Stt C B0 H0 B H σ δ → σ[0]? = some (some (.ref x)) → B x = none → H x = some (.ins Ca dx (done.zip xs)) → xs.length = done.length → done.length + fs.length < 1000 →
      (done ++ fs.map (·.1)).Nodup → (∀ f ∈ fs.map (·.1), NoAttr C.K Ca f) → Trs C B H ds xs ps → ps.Nodup → (∀ p ∈ ps, Hs p = none ∧ B p = none ∧ p ≠ x) → (∀ p o, p ≠ x → Hs p = some o → H p = some o) → evalF Γ fs δ = some (ds', g') → trF Γ fs ds' = true → ∀ Dn : Ends,
      (∀ B' H' ys ps', B' x = none → (∀ p o, p ≠ x → Hs p = some o → H' p = some o) → Stt C B0 H0 B' H' σ δ → H' x = some (.ins Ca dx ((done ++ fs.map (·.1)).zip ys)) → ys.length = (done ++ fs.map (·.1)).length → Trs C B' H' (ds ++ ds') ys ps' → ps'.Nodup → (∀ p ∈ ps', Hs p = none ∧ B' p = none ∧ p ≠ x) → Dn.nx σ H') → rdF C Γ fs Dn σ H
  | [], done, B, H, σ, xs, ds, ds', ps, g', S, e0, hb, hx, hl, hn, nd, na, r, n, w, hs, h, ht, Dn, q => by
    simp only [evalF, Option.some.injEq, Prod.mk.injEq] at h
    obtain ⟨rfl, rfl⟩ := h
    simp only [List.map_nil, List.append_nil] at q
    exact q B H xs ps hb hs S hx hl r n w
  | (f, e) :: fs, done, B, H, σ, xs, ds, ds', ps, g', S, e0, hb, hx, hl, hn, nd, na, r, n, w, hs, h, ht, Dn, q => by
    simp only [evalF] at h
    split at h
    · rename_i d gd e1
      split at h
      · rename_i ds2 g2 e2
        cases h
        simp only [trF, Bool.and_eq_true] at ht
        refine (eval_tree hk e).1 δ d gd e1 ht.1 B H σ S _ fun v pv B1 H1 G1 S1 tv nv wv => ?_
        have hb1 : B1 x = none := G1.keepN hb ⟨_, hx⟩
        simp only [List.map_cons, List.length_cons] at nd hn na
        have hf : f ∉ (done.zip xs).map (·.1) := by
          intro z
          have z2 : f ∈ done := by
            obtain ⟨p, hp, rfl⟩ := List.mem_map.mp z
            exact (List.of_mem_zip hp).1
          rw [List.nodup_append] at nd
          exact nd.2.2 f z2 f (by simp) rfl
        have vx : ∀ p ∈ pv, p ≠ x := fun p hp z => by
          have := (wv p hp).1
          rw [z, hx] at this
          cases this
        refine ⟨.ref x, e0, x, Ca, dx, _, rfl, G1.eh _ _ hx, cl, na f (by simp), ?_, ?_⟩
        · rw [List.length_zip]
          omega
        · rw [putF_new hf, zip_snoc hl]
          have S2 : Stt C B0 H0 B1 (upd H1 x (.ins Ca dx ((done ++ [f]).zip (xs ++ [v])))) σ δ := by
            obtain ⟨φ, T⟩ := S1.tre
            exact S1.spoil (o := .ins Ca dx ((done ++ [f]).zip (xs ++ [v]))) (fun i d k => by rcases nos i _ k with z | ⟨_, _, z⟩ <;> cases z) h0 hb1 (fun i ds g k => by
              rcases nos i _ k with z | ⟨_, _, z⟩ <;> cases z) ⟨φ, T, fun i d k => by rcases nos i _ k with z | ⟨_, _, z⟩ <;> cases z⟩
          refine initOkT hk cl nos h0 Hs fs (done ++ [f]) B1 _ σ (xs ++ [v]) (ds ++ [d]) ds2 (ps ++ pv) g2 S2 e0 hb1 upd_same (by simp [hl]) (by simp; omega) (by simpa [List.append_assoc] using nd) (fun f' hf' => na f' (by simp at hf' ⊢; exact .inr hf')) ?_ (nd_app n nv fun p hp hq => ?_) (fun p hp => ?_) (fun p o np k => ?_) e2 ht.2 Dn fun B' H' ys ps' hbx eh S' hx' hl' r' n' w' => ?_
          · refine Trs.app (r.keep G1.eb fun p hp o k => ?_) (.one (tv.keep (Same.refl _) fun p hp o k => ?_))
            · rw [upd_ne (w p hp).2.2]
              exact G1.eh _ _ k
            · rw [upd_ne (vx p hp)]
              exact k
          · obtain ⟨o, ho⟩ := r.ex p hp
            rw [(wv p hq).1] at ho
            cases ho
          · rcases List.mem_append.mp hp with hp | hp
            · exact ⟨(w p hp).1, G1.keepN (w p hp).2.1 (r.ex p hp), (w p hp).2.2⟩
            · refine ⟨?_, (wv p hp).2, vx p hp⟩
              cases z : Hs p with
              | none => rfl
              | some o =>
                have := (wv p hp).1
                rw [hs p o (vx p hp) z] at this
                cases this
          · rw [upd_ne np]
            exact G1.eh _ _ (hs p o np k)
          · simp only [List.append_assoc, List.singleton_append] at hx' hl' r'
            exact q B' H' ys ps' hbx eh S' hx' hl' r' n' w'
      · cases h
    · cases h
section
variable {P : Program} {w : World} {K : PySem.W.Frag} {mg : Str → Option Value} {base : Heap}
theorem in_c {Cl : Nat → Addr × List Str} {kv : Nat → V} {x qual : Str} {st : Stmt} {f : Addr} {fd : FuncData} {N ps : List Str} {k : Nat} {Γ : Ga} {fr : Bool} {c : Nat} {fs : List (Str × E)} (F : Fun K x qual st f fd) (sc : FnScope N ps (defScope st)) (hk : KsOk ⟨K, Cl, w, kv⟩ Γ)
    (cl : Cls K (Cl c).1) (na : ∀ f ∈ (Cl c).2, NoAttr K (Cl c).1 f) (hn : fs.map (·.1) = (Cl c).2) (hd : (fs.map (·.1)).Nodup) (hl : fs.length < 1000) (hp : 0 < ps.length)
    (body : ∀ (cdv : Value) (A : Around) (outer : List Env) (s : Shared) (H : Hp) (E : XK), Room k (A.deeper (envOfC qual (defScope st) s.heap.objs.size f cdv)) →
      PSs (cxOf CX0 P w K mg base N qual (defScope st) f cdv A outer s H E).nox (defBody st) (rdF ⟨K, Cl, w, kv⟩ Γ fs)) : FnOk P w K mg base CX0 (k + 1) f fd ps (spIn ⟨K, Cl, w, kv⟩ (mkNd Γ c (ps.length - 1) N.length fr fs)) := by
  refine F.ok sc (fun vs H Q E h => ?_) (fun cdv A outer s H vs Q E hr h => ?_)
  · obtain ⟨x, dx, us, B, ds, fs', rfl, _, _, _, r, hl, _⟩ := h
    have := r.len
    have hl : ds.length = ps.length - 1 := hl
    rw [List.length_cons, this]
    omega
  · obtain ⟨x, dx, us, B, ds, fs', rfl, hx, sb, hb, r, hl2, run, q⟩ := h
    refine ⟨_, body cdv A outer s H E hr, ?_⟩
    have run : (match evalF Γ fs (stI N.length ds) with
      | some (xs, g) => if fr = true then (if g = true then some xs else none) else some xs
      | none => none) = some fs' := run
    cases ev : evalF Γ fs (stI N.length ds) with
    | none => rw [ev] at run; cases run
    | some z =>
      obtain ⟨xs', g'⟩ := z
      rw [ev] at run
      let Hm : Hp := fun p => if p = x then none else H p
      have hm : Hm x = none := if_pos rfl
      have sm : Same Hm H := fun p o k => by
        simp only [Hm] at k
        split at k
        · cases k
        · exact k
      have sbm : Same B Hm := fun p o k => by
        simp only [Hm]
        rw [if_neg (ne_of_none k hb)]
        exact sb _ _ k
      have hN : ps.length ≤ N.length := by
        have := congrArg List.length sc.pre
        simp only [List.length_take] at this
        omega
      have hl2 : ds.length = ps.length - 1 := hl2
      have hlen := r.len
      have ge : ∀ (i : Nat) s, (stI N.length ds)[i]? = some s → s = .no ∨ ∃ d, i ≠ 0 ∧ ds[i - 1]? = some d ∧ s = .sh d false := fun i s h => by
        unfold stI at h
        cases i with
        | zero => simp at h; exact .inl h.symm
        | succ i =>
          rw [List.getElem?_cons_succ] at h
          unfold st0 at h
          by_cases hi : i < ds.length
          · rw [List.getElem?_append_left (by simpa using hi), List.getElem?_map, List.getElem?_eq_getElem hi] at h
            simp only [Option.map_some, Option.some.injEq] at h
            exact .inr ⟨_, by omega, by simpa using List.getElem?_eq_getElem hi, h.symm⟩
          · rw [List.getElem?_append_right (by simpa using hi), List.getElem?_replicate] at h
            split at h
            · exact .inl (Option.some.inj h).symm
            · cases h
      have S : Stt ⟨K, Cl, w, kv⟩ B Hm B H (L2.start N (.ref x :: us)) (stI N.length ds) := by
        refine ⟨sm, Same.refl _, sb, fun _ _ h => .inl h, ?_, fun i d g h => ?_, fun i ds' g h => ?_, fun i j a b c d p h => ?_, fun i d h => ?_, ⟨fun _ => [], fun i d h => ?_, fun i d h => ?_, fun i d p h => ?_, fun i j d d' p h => ?_⟩, fun i j q h => ?_⟩
        · unfold L2.start stI st0
          simp only [List.length_append, List.length_map, List.length_replicate, List.length_cons, hlen]
          omega
        · rcases ge i _ h with z | ⟨d', hi, h1, h2⟩
          · cases z
          · cases h2
            obtain ⟨v, h3, h4⟩ := r.get h1
            refine ⟨v, ?_, h4⟩
            unfold L2.start
            have hi2 : i - 1 < us.length := (List.getElem?_eq_some_iff.mp h3).1
            obtain ⟨j, rfl⟩ : ∃ j, i = j + 1 := ⟨i - 1, by omega⟩
            rw [List.getElem?_append_left (by simp only [List.length_map, List.length_cons]; omega), List.getElem?_map, List.getElem?_cons_succ]
            simp only [Nat.add_sub_cancel] at h3
            rw [h3]
            rfl
        all_goals
          rcases ge i _ h with z | ⟨d', hi, h1, h2⟩
          · cases z
          · cases h2
      refine initOk (x := x) (dx := dx) hk cl (fun i s h => ?_) hm fs [] B H _ [] [] xs' true g' S rfl hb hx rfl (by simpa using hl) (by simpa using hd) (fun f hf => na f (by rw [← hn]; exact hf)) Rps.nil ev _ fun B' H' ys eb hbx eh S' hx' hl' r' => ?_
      · rcases ge i _ h with z | ⟨d', hi, h1, h2⟩
        · exact .inl z
        · exact .inr ⟨_, _, h2⟩
      · simp only [List.nil_append, Bool.true_and] at hx' hl' r'
        rw [hn] at hx' hl'
        have q : ∀ H' xs, (∀ p o, p ≠ x → H p = some o → H' p = some o) → H' x = some (.ins (Cl c).1 dx ((Cl c).2.zip xs)) → xs.length = (Cl c).2.length → Rps ⟨K, Cl, w, kv⟩ (Rsd (if fr = true then Emp else B) H H') fs' xs → (false = true → D.tflats fs' = true → TreesAt ⟨K, Cl, w, kv⟩ H H' fs' xs) → Q .non H' := q
        refine q H' ys eh hx' hl' ?_ (fun h => by cases h)
        have np : ∀ p o, B' p = some o → p ≠ x := fun p o k => ne_of_none k hbx
        have hh : ∀ p, p ≠ x → Hm p = none → H p = none := fun p n k => by
          simp only [Hm] at k
          rw [if_neg n] at k
          exact k
        cases fr with
        | false =>
          simp only [Bool.false_eq_true, if_false, Option.some.injEq] at run
          subst run
          rw [if_neg Bool.false_ne_true]
          refine r'.mono (Same.trans (S'.weak true g' true false id (fun h => by cases h)) fun p o k => ?_)
          have k : B' p = some o := k
          unfold Rsd
          rcases S'.new p o k with z | z
          · rw [z]
            exact S'.sub _ _ k
          · rw [hh p (np p o k) z]
            cases B p <;> exact S'.sub _ _ k
        | true =>
          simp only [if_true] at run
          split at run
          · rename_i hg
            have hg : g' = true := hg
            cases run
            subst hg
            rw [if_pos rfl]
            refine r'.mono fun p o k => ?_
            have k : (match Hm p with | none => B' p | some _ => none) = some o := k
            cases z : Hm p with
            | some u => rw [z] at k; cases k
            | none =>
              rw [z] at k
              unfold Rsd Emp
              rw [hh p (np p o k) z]
              exact S'.sub _ _ k
          · cases run
theorem inT_c {Cl : Nat → Addr × List Str} {kv : Nat → V} {x qual : Str} {st : Stmt} {f : Addr} {fd : FuncData} {N ps : List Str} {k : Nat} {Γ : Ga} {c : Nat} {fs : List (Str × E)} (F : Fun K x qual st f fd) (sc : FnScope N ps (defScope st)) (hk : KsOk ⟨K, Cl, w, kv⟩ Γ)
    (cl : Cls K (Cl c).1) (na : ∀ f ∈ (Cl c).2, NoAttr K (Cl c).1 f) (hn : fs.map (·.1) = (Cl c).2) (hd : (fs.map (·.1)).Nodup) (hl : fs.length < 1000) (hp : 0 < ps.length)
    (body : ∀ (cdv : Value) (A : Around) (outer : List Env) (s : Shared) (H : Hp) (E : XK), Room k (A.deeper (envOfC qual (defScope st) s.heap.objs.size f cdv)) →
      PSs (cxOf CX0 P w K mg base N qual (defScope st) f cdv A outer s H E).nox (defBody st) (rdF ⟨K, Cl, w, kv⟩ Γ fs)) : FnOk P w K mg base CX0 (k + 1) f fd ps (spIn ⟨K, Cl, w, kv⟩ (mkNdT Γ c (ps.length - 1) N.length fs)) := by
  refine F.ok sc (fun vs H Q E h => ?_) (fun cdv A outer s H vs Q E hr h => ?_)
  · obtain ⟨x, dx, us, B, ds, fs', rfl, _, _, _, r, hl, _⟩ := h
    have := r.len
    have hl : ds.length = ps.length - 1 := hl
    rw [List.length_cons, this]
    omega
  · obtain ⟨x, dx, us, B, ds, fs', rfl, hx, sb, hb, r, hl2, run, q⟩ := h
    refine ⟨_, body cdv A outer s H E hr, ?_⟩
    have run : (match evalF Γ fs (stI N.length ds) with
      | some (xs, _) => if (trF Γ fs xs && D.tflats xs) = true then some xs else none
      | none => none) = some fs' := run
    cases ev : evalF Γ fs (stI N.length ds) with
    | none => rw [ev] at run; cases run
    | some z =>
      obtain ⟨xs', g'⟩ := z
      rw [ev] at run
      let Hm : Hp := fun p => if p = x then none else H p
      have hm : Hm x = none := if_pos rfl
      have sm : Same Hm H := fun p o k => by
        simp only [Hm] at k
        split at k
        · cases k
        · exact k
      have sbm : Same B Hm := fun p o k => by
        simp only [Hm]
        rw [if_neg (ne_of_none k hb)]
        exact sb _ _ k
      have hN : ps.length ≤ N.length := by
        have := congrArg List.length sc.pre
        simp only [List.length_take] at this
        omega
      have hl2 : ds.length = ps.length - 1 := hl2
      have hlen := r.len
      have ge : ∀ (i : Nat) s, (stI N.length ds)[i]? = some s → s = .no ∨ ∃ d, i ≠ 0 ∧ ds[i - 1]? = some d ∧ s = .sh d false := fun i s h => by
        unfold stI at h
        cases i with
        | zero => simp at h; exact .inl h.symm
        | succ i =>
          rw [List.getElem?_cons_succ] at h
          unfold st0 at h
          by_cases hi : i < ds.length
          · rw [List.getElem?_append_left (by simpa using hi), List.getElem?_map, List.getElem?_eq_getElem hi] at h
            simp only [Option.map_some, Option.some.injEq] at h
            exact .inr ⟨_, by omega, by simpa using List.getElem?_eq_getElem hi, h.symm⟩
          · rw [List.getElem?_append_right (by simpa using hi), List.getElem?_replicate] at h
            split at h
            · exact .inl (Option.some.inj h).symm
            · cases h
      have S : Stt ⟨K, Cl, w, kv⟩ B Hm B H (L2.start N (.ref x :: us)) (stI N.length ds) := by
        refine ⟨sm, Same.refl _, sb, fun _ _ h => .inl h, ?_, fun i d g h => ?_, fun i ds' g h => ?_, fun i j a b c d p h => ?_, fun i d h => ?_, ⟨fun _ => [], fun i d h => ?_, fun i d h => ?_, fun i d p h => ?_, fun i j d d' p h => ?_⟩, fun i j q h => ?_⟩
        · unfold L2.start stI st0
          simp only [List.length_append, List.length_map, List.length_replicate, List.length_cons, hlen]
          omega
        · rcases ge i _ h with z | ⟨d', hi, h1, h2⟩
          · cases z
          · cases h2
            obtain ⟨v, h3, h4⟩ := r.get h1
            refine ⟨v, ?_, h4⟩
            unfold L2.start
            have hi2 : i - 1 < us.length := (List.getElem?_eq_some_iff.mp h3).1
            obtain ⟨j, rfl⟩ : ∃ j, i = j + 1 := ⟨i - 1, by omega⟩
            rw [List.getElem?_append_left (by simp only [List.length_map, List.length_cons]; omega), List.getElem?_map, List.getElem?_cons_succ]
            simp only [Nat.add_sub_cancel] at h3
            rw [h3]
            rfl
        all_goals
          rcases ge i _ h with z | ⟨d', hi, h1, h2⟩
          · cases z
          · cases h2
      have run : (if (trF Γ fs xs' && D.tflats xs') = true then some xs' else none) = some fs' := run
      split at run
      · rename_i ht
        have run := Option.some.inj run
        subst run
        rw [Bool.and_eq_true] at ht
        refine initOkT (x := x) (dx := dx) hk cl (fun i s h => ?_) hm H fs [] B H _ [] [] xs' [] g' S rfl hb hx rfl (by simpa using hl) (by simpa using hd) (fun f hf => na f (by rw [← hn]; exact hf)) (by rw [trs_nil]; exact ⟨rfl, rfl⟩) List.nodup_nil (fun p hp => by cases hp) (fun p o _ k => k) ev ht.1 _ fun B' H' ys ps' hbx eh S' hx' hl' r' n' w' => ?_
        · rcases ge i _ h with z | ⟨d', hi, h1, h2⟩
          · exact .inl z
          · exact .inr ⟨_, _, h2⟩
        · simp only [List.nil_append] at hx' hl' r'
          rw [hn] at hx' hl'
          have q : ∀ H' xs, (∀ p o, p ≠ x → H p = some o → H' p = some o) → H' x = some (.ins (Cl c).1 dx ((Cl c).2.zip xs)) → xs.length = (Cl c).2.length → Rps ⟨K, Cl, w, kv⟩ (Rsd (if true = true then Emp else B) H H') xs' xs → (true = true → D.tflats xs' = true → TreesAt ⟨K, Cl, w, kv⟩ H H' xs' xs) → Q .non H' := q
          have tr : Trs ⟨K, Cl, w, kv⟩ Emp H' xs' ys ps' := Trs.emp ht.2 r'
          refine q H' ys eh hx' hl' (tr.rp (fun _ _ k => by cases k) fun p hp o k => ?_) fun _ _ => ⟨ps', tr, n', fun p hp => (w' p hp).1⟩
          rw [if_pos rfl]
          unfold Rsd Emp
          rw [(w' p hp).1]
          exact k
      · cases run
theorem inTK_c {Cl : Nat → Addr × List Str} {kv : Nat → V} {x qual : Str} {st : Stmt} {f : Addr} {fd : FuncData} {N ps : List Str} {k : Nat} {Γ : Ga} {c : Nat} {ck : E} {fs : List (Str × E)} (F : Fun K x qual st f fd) (sc : FnScope N ps (defScope st)) (hk : KsOk ⟨K, Cl, w, kv⟩ Γ)
    (cl : Cls K (Cl c).1) (na : ∀ f ∈ (Cl c).2, NoAttr K (Cl c).1 f) (hn : fs.map (·.1) = (Cl c).2) (hd : (fs.map (·.1)).Nodup) (hl : fs.length < 1000) (hp : 0 < ps.length)
    (body : ∀ (cdv : Value) (A : Around) (outer : List Env) (s : Shared) (H : Hp) (E : XK), Room k (A.deeper (envOfC qual (defScope st) s.heap.objs.size f cdv)) →
      PSs (cxOf CX0 P w K mg base N qual (defScope st) f cdv A outer s H E).nox (defBody st) (tSeq (tIfS (rdT ⟨K, Cl, w, kv⟩ Γ ck) tNever tNext) (rdF ⟨K, Cl, w, kv⟩ Γ fs))) : FnOk P w K mg base CX0 (k + 1) f fd ps (spIn ⟨K, Cl, w, kv⟩ (mkNdTK Γ c (ps.length - 1) N.length ck fs)) := by
  refine F.ok sc (fun vs H Q E h => ?_) (fun cdv A outer s H vs Q E hr h => ?_)
  · obtain ⟨x, dx, us, B, ds, fs', rfl, _, _, _, r, hl, _⟩ := h
    have := r.len
    have hl : ds.length = ps.length - 1 := hl
    rw [List.length_cons, this]
    omega
  · obtain ⟨x, dx, us, B, ds, fs', rfl, hx, sb, hb, r, hl2, run, q⟩ := h
    refine ⟨_, body cdv A outer s H E hr, ?_⟩
    have run : (match isTst ck, eval Γ ck (stI N.length ds) with
      | true, some (.bl false, _, _) => match evalF Γ fs (stI N.length ds) with
        | some (xs, _) => if (trF Γ fs xs && D.tflats xs) = true then some xs else none
        | none => none
      | _, _ => none) = some fs' := run
    split at run
    case h_2 => cases run
    rename_i fk gk tk ek
    cases ev : evalF Γ fs (stI N.length ds) with
    | none => rw [ev] at run; cases run
    | some z =>
      obtain ⟨xs', g'⟩ := z
      rw [ev] at run
      let Hm : Hp := fun p => if p = x then none else H p
      have hm : Hm x = none := if_pos rfl
      have sm : Same Hm H := fun p o k => by
        simp only [Hm] at k
        split at k
        · cases k
        · exact k
      have sbm : Same B Hm := fun p o k => by
        simp only [Hm]
        rw [if_neg (ne_of_none k hb)]
        exact sb _ _ k
      have hN : ps.length ≤ N.length := by
        have := congrArg List.length sc.pre
        simp only [List.length_take] at this
        omega
      have hl2 : ds.length = ps.length - 1 := hl2
      have hlen := r.len
      have ge : ∀ (i : Nat) s, (stI N.length ds)[i]? = some s → s = .no ∨ ∃ d, i ≠ 0 ∧ ds[i - 1]? = some d ∧ s = .sh d false := fun i s h => by
        unfold stI at h
        cases i with
        | zero => simp at h; exact .inl h.symm
        | succ i =>
          rw [List.getElem?_cons_succ] at h
          unfold st0 at h
          by_cases hi : i < ds.length
          · rw [List.getElem?_append_left (by simpa using hi), List.getElem?_map, List.getElem?_eq_getElem hi] at h
            simp only [Option.map_some, Option.some.injEq] at h
            exact .inr ⟨_, by omega, by simpa using List.getElem?_eq_getElem hi, h.symm⟩
          · rw [List.getElem?_append_right (by simpa using hi), List.getElem?_replicate] at h
            split at h
            · exact .inl (Option.some.inj h).symm
            · cases h
      have S : Stt ⟨K, Cl, w, kv⟩ B Hm B H (L2.start N (.ref x :: us)) (stI N.length ds) := by
        refine ⟨sm, Same.refl _, sb, fun _ _ h => .inl h, ?_, fun i d g h => ?_, fun i ds' g h => ?_, fun i j a b c d p h => ?_, fun i d h => ?_, ⟨fun _ => [], fun i d h => ?_, fun i d h => ?_, fun i d p h => ?_, fun i j d d' p h => ?_⟩, fun i j q h => ?_⟩
        · unfold L2.start stI st0
          simp only [List.length_append, List.length_map, List.length_replicate, List.length_cons, hlen]
          omega
        · rcases ge i _ h with z | ⟨d', hi, h1, h2⟩
          · cases z
          · cases h2
            obtain ⟨v, h3, h4⟩ := r.get h1
            refine ⟨v, ?_, h4⟩
            unfold L2.start
            have hi2 : i - 1 < us.length := (List.getElem?_eq_some_iff.mp h3).1
            obtain ⟨j, rfl⟩ : ∃ j, i = j + 1 := ⟨i - 1, by omega⟩
            rw [List.getElem?_append_left (by simp only [List.length_map, List.length_cons]; omega), List.getElem?_map, List.getElem?_cons_succ]
            simp only [Nat.add_sub_cancel] at h3
            rw [h3]
            rfl
        all_goals
          rcases ge i _ h with z | ⟨d', hi, h1, h2⟩
          · cases z
          · cases h2
      have run : (if (trF Γ fs xs' && D.tflats xs') = true then some xs' else none) = some fs' := run
      split at run
      · rename_i ht
        have run := Option.some.inj run
        subst run
        rw [Bool.and_eq_true] at ht
        refine (eval_all hk ck).2.2.2.2 _ _ _ _ tk ek B H _ S _ fun B1 H1 G1 S1 => ?_
        rw [if_neg Bool.false_ne_true]
        refine initOkT (x := x) (dx := dx) hk cl (fun i s h => ?_) hm H fs [] B1 H1 _ [] [] xs' [] g' S1 rfl (G1.keepN hb ⟨_, hx⟩) (G1.eh _ _ hx) rfl (by simpa using hl) (by simpa using hd) (fun f hf => na f (by rw [← hn]; exact hf)) (by rw [trs_nil]; exact ⟨rfl, rfl⟩) List.nodup_nil (fun p hp => by cases hp) (fun p o _ k => G1.eh _ _ k) ev ht.1 _ fun B' H' ys ps' hbx eh S' hx' hl' r' n' w' => ?_
        · rcases ge i _ h with z | ⟨d', hi, h1, h2⟩
          · exact .inl z
          · exact .inr ⟨_, _, h2⟩
        · simp only [List.nil_append] at hx' hl' r'
          rw [hn] at hx' hl'
          have q : ∀ H' xs, (∀ p o, p ≠ x → H p = some o → H' p = some o) → H' x = some (.ins (Cl c).1 dx ((Cl c).2.zip xs)) → xs.length = (Cl c).2.length → Rps ⟨K, Cl, w, kv⟩ (Rsd (if true = true then Emp else B) H H') xs' xs → (true = true → D.tflats xs' = true → TreesAt ⟨K, Cl, w, kv⟩ H H' xs' xs) → Q .non H' := q
          have tr : Trs ⟨K, Cl, w, kv⟩ Emp H' xs' ys ps' := Trs.emp ht.2 r'
          refine q H' ys eh hx' hl' (tr.rp (fun _ _ k => by cases k) fun p hp o k => ?_) fun _ _ => ⟨ps', tr, n', fun p hp => (w' p hp).1⟩
          rw [if_pos rfl]
          unfold Rsd Emp
          rw [(w' p hp).1]
          exact k
      · cases run
end
end G

namespace G
open PySem L2
section
variable {C : Cf} {B B' H H' : Hp}
/-- one of many, and the others -/
theorem Trs.split2 : ∀ {ds : List D} {vs : List V} {ps : List Addr} {k : Nat} {d : D}, Trs C B H ds vs ps → ds[k]? = some d → ∃ v p1 pk p2, vs[k]? = some v ∧ ps = p1 ++ (pk ++ p2) ∧ Tr C B H d v pk ∧
    (∀ {B' H' : Hp} {d' : D} {v' : V} {pk' : List Addr}, Same B B' → (∀ p, p ∈ p1 ∨ p ∈ p2 → ∀ o, H p = some o → H' p = some o) → Tr C B' H' d' v' pk' → Trs C B' H' (ds.set k d') (vs.set k v') (p1 ++ (pk' ++ p2))) ∧
    ∀ (k' : Nat) d', k' ≠ k → ds[k']? = some d' → ∃ v' pk', vs[k']? = some v' ∧ Tr C B H d' v' pk' ∧ ∀ p ∈ pk', p ∈ p1 ∨ p ∈ p2
  | [], _, _, _, _, _, e => by simp at e
  | d0 :: ds, vs, ps, 0, d, h, e => by
    rw [trs_cons] at h
    obtain ⟨v, r, p1, p2, rfl, rfl, h3, h4⟩ := h
    simp only [List.getElem?_cons_zero, Option.some.injEq] at e
    subst e
    refine ⟨v, [], p1, p2, rfl, rfl, h3, fun {B' H' d' v' pk'} eb k t => ?_, fun k' d' n e' => ?_⟩
    · simp only [List.set_cons_zero, List.nil_append]
      rw [trs_cons]
      exact ⟨_, _, _, _, rfl, rfl, t, h4.keep eb fun p hp => k p (.inr hp)⟩
    · obtain ⟨m, rfl⟩ : ∃ m, k' = m + 1 := ⟨k' - 1, by omega⟩
      simp only [List.getElem?_cons_succ] at e' ⊢
      obtain ⟨w, q1, qk, q2, e1, rfl, t1, _⟩ := Trs.split h4 e'
      exact ⟨w, qk, e1, t1, fun p hp => .inr (by simp [hp])⟩
  | d0 :: ds, vs, ps, k + 1, d, h, e => by
    rw [trs_cons] at h
    obtain ⟨v, r, p1, p2, rfl, rfl, h3, h4⟩ := h
    simp only [List.getElem?_cons_succ] at e
    obtain ⟨w, q1, qk, q2, e1, rfl, t1, up, ot⟩ := Trs.split2 (k := k) h4 e
    refine ⟨w, p1 ++ q1, qk, q2, by simpa using e1, by simp, t1, fun {B' H' d' v' pk'} eb kk t => ?_, fun k' d' n e' => ?_⟩
    · simp only [List.set_cons_succ]
      rw [trs_cons]
      refine ⟨_, _, p1, q1 ++ (pk' ++ q2), rfl, by simp, h3.keep eb fun p hp => kk p (.inl (by simp [hp])), up eb (fun p hp => kk p ?_) t⟩
      rcases hp with hp | hp
      · exact .inl (by simp [hp])
      · exact .inr hp
    · cases k' with
      | zero =>
        simp only [List.getElem?_cons_zero, Option.some.injEq] at e'
        subst e'
        exact ⟨v, p1, rfl, h3, fun p hp => .inl (by simp [hp])⟩
      | succ m =>
        simp only [List.getElem?_cons_succ] at e' ⊢
        obtain ⟨v', pk', e2, t2, sb⟩ := ot m d' (by omega) e'
        refine ⟨v', pk', e2, t2, fun p hp => ?_⟩
        rcases sb p hp with z | z
        · exact .inl (by simp [z])
        · exact .inr z
/-- q is a way to what stands above p -/
def thru : List Nat → List Nat → Bool
  | [], [] => false
  | [], _ :: _ => true
  | _ :: _, [] => false
  | a :: q, b :: p => decide (a = b) && thru q p
/-- a node of a tree, and what becomes of the tree when it is exchanged -/
theorem Tr.focus : ∀ {q : List Nat} {d e : D} {w : V} {ps : List Addr}, Tr C B H d w ps → d.sub q = some e → ∃ v l qs r, ps = l ++ (qs ++ r) ∧ Nav C H q d w e v ∧ Tr C B H e v qs ∧
    (∀ {B' H' : Hp} {e' : D} {qs' : List Addr}, Same B B' → (∀ p, p ∈ l ∨ p ∈ r → ∀ o, H p = some o → H' p = some o) → Tr C B' H' e' v qs' → Tr C B' H' (d.put q e') w (l ++ (qs' ++ r))) ∧
    ∀ {H' : Hp} {e' : D}, (∀ p, p ∈ l ∨ p ∈ r → ∀ o, H p = some o → H' p = some o) → ∀ (p : List Nat) d1 v1, thru q p = false → Nav C H p d w d1 v1 → ∃ d2, Nav C H' p (d.put q e') w d2 v1
  | [], d, e, w, ps, t, h => by
    rw [sub_nil] at h
    cases h
    refine ⟨w, [], ps, [], by simp, by unfold Nav; exact ⟨rfl, rfl⟩, t, fun {B' H' e' qs'} _ _ t' => ?_, fun {H' e'} _ p d1 v1 ht n => ?_⟩
    · rw [put_nil]
      simpa using t'
    · cases p with
      | nil =>
        unfold Nav at n
        exact ⟨e', by unfold Nav; exact ⟨put_nil.symm, n.2⟩⟩
      | cons a p => simp [thru] at ht
  | k :: q, .ls ds, e, w, ps, t, h => by
    rw [sub_ls] at h
    split at h
    · rename_i x e1
      rw [tr_ls] at t
      obtain ⟨a, xs, qs, rfl, h2, rfl, h4⟩ := t
      obtain ⟨u, p1, pk, p2, ek, rfl, tk, up, ot⟩ := h4.split2 e1
      obtain ⟨v, l, qs, r, rfl, n, t', up', nv⟩ := Tr.focus tk h
      have hu : (xs.set k u) = xs := set_same ek
      refine ⟨v, a :: (p1 ++ l), qs, r ++ p2, by simp, ?_, t', fun {B' H' e' qs'} eb kk tt => ?_, fun {H' e'} kk p d1 v1 ht nn => ?_⟩
      · simp only [Nav]
        exact ⟨a, xs, u, x, rfl, h2, e1, ek, n⟩
      · rw [put_ls e1, tr_ls]
        refine ⟨a, xs, p1 ++ (l ++ (qs' ++ r) ++ p2), rfl, kk a (.inl (by simp)) _ h2, by simp, ?_⟩
        have := up (v' := u) eb (fun p hp => kk p (by rcases hp with hp | hp <;> simp [hp])) (up' eb (fun p hp => kk p (by rcases hp with hp | hp <;> simp [hp])) tt)
        rwa [hu] at this
      · rw [put_ls e1]
        cases p with
        | nil =>
          simp only [Nav] at nn
          exact ⟨_, by simp only [Nav]; exact ⟨rfl, nn.2⟩⟩
        | cons k' p =>
          simp only [Nav] at nn
          obtain ⟨a', xs', u', x', ea, ha, e3, e4, n5⟩ := nn
          cases ea
          rw [h2] at ha
          cases ha
          by_cases hk : k = k'
          · subst hk
            rw [e1] at e3
            cases e3
            rw [ek] at e4
            cases e4
            obtain ⟨d2, n6⟩ := nv (H' := H') (e' := e') (fun p hp => kk p (by rcases hp with hp | hp <;> simp [hp])) p d1 v1 (by simpa [thru] using ht) n5
            refine ⟨d2, ?_⟩
            simp only [Nav]
            refine ⟨a, xs, u, _, rfl, kk a (.inl (by simp)) _ h2, ?_, ek, n6⟩
            rw [List.getElem?_set_self (List.getElem?_eq_some_iff.mp e1).1]
          · obtain ⟨v', pk', e5, t5, sb⟩ := ot k' x' (Ne.symm hk) e3
            rw [e4] at e5
            cases e5
            refine ⟨d1, ?_⟩
            simp only [Nav]
            refine ⟨a, xs, u', x', rfl, kk a (.inl (by simp)) _ h2, ?_, e4, n5.keep t5 fun p hp => kk p ?_⟩
            · rw [List.getElem?_set_ne hk]
              exact e3
            · rcases sb p hp with z | z <;> simp [z]
    · cases h
  | k :: q, .ob c ds, e, w, ps, t, h => by
    rw [sub_ob] at h
    split at h
    · rename_i x e1
      rw [tr_ob] at t
      obtain ⟨a, dx, xs, qs, rfl, h2, hl, rfl, h4⟩ := t
      obtain ⟨u, p1, pk, p2, ek, rfl, tk, up, ot⟩ := h4.split2 e1
      obtain ⟨v, l, qs, r, rfl, n, t', up', nv⟩ := Tr.focus tk h
      have hu : (xs.set k u) = xs := set_same ek
      refine ⟨v, a :: (p1 ++ l), qs, r ++ p2, by simp, ?_, t', fun {B' H' e' qs'} eb kk tt => ?_, fun {H' e'} kk p d1 v1 ht nn => ?_⟩
      · simp only [Nav]
        exact ⟨a, dx, xs, u, x, rfl, h2, hl, e1, ek, n⟩
      · rw [put_ob e1, tr_ob]
        refine ⟨a, dx, xs, p1 ++ (l ++ (qs' ++ r) ++ p2), rfl, kk a (.inl (by simp)) _ h2, hl, by simp, ?_⟩
        have := up (v' := u) eb (fun p hp => kk p (by rcases hp with hp | hp <;> simp [hp])) (up' eb (fun p hp => kk p (by rcases hp with hp | hp <;> simp [hp])) tt)
        rwa [hu] at this
      · rw [put_ob e1]
        cases p with
        | nil =>
          simp only [Nav] at nn
          exact ⟨_, by simp only [Nav]; exact ⟨rfl, nn.2⟩⟩
        | cons k' p =>
          simp only [Nav] at nn
          obtain ⟨a', dx', xs', u', x', ea, ha, hl', e3, e4, n5⟩ := nn
          cases ea
          rw [h2] at ha
          simp only [Option.some.injEq, HO.ins.injEq] at ha
          have ex : xs = xs' := by
            have := congrArg (List.map Prod.snd) ha.2.2
            rwa [List.map_snd_zip (by omega), List.map_snd_zip (by omega)] at this
          subst ex
          by_cases hk : k = k'
          · subst hk
            rw [e1] at e3
            cases e3
            rw [ek] at e4
            cases e4
            obtain ⟨d2, n6⟩ := nv (H' := H') (e' := e') (fun p hp => kk p (by rcases hp with hp | hp <;> simp [hp])) p d1 v1 (by simpa [thru] using ht) n5
            refine ⟨d2, ?_⟩
            simp only [Nav]
            refine ⟨a, dx, xs, u, _, rfl, kk a (.inl (by simp)) _ h2, hl, ?_, ek, n6⟩
            rw [List.getElem?_set_self (List.getElem?_eq_some_iff.mp e1).1]
          · obtain ⟨v', pk', e5, t5, sb⟩ := ot k' x' (Ne.symm hk) e3
            rw [e4] at e5
            cases e5
            refine ⟨d1, ?_⟩
            simp only [Nav]
            refine ⟨a, dx, xs, u', x', rfl, kk a (.inl (by simp)) _ h2, hl, ?_, e4, n5.keep t5 fun p hp => kk p ?_⟩
            · rw [List.getElem?_set_ne hk]
              exact e3
            · rcases sb p hp with z | z <;> simp [z]
    · cases h
  | _ :: _, .tp _, _, _, _, _, h => by rw [D.sub] at h; cases h; all_goals (intros; simp_all)
  | _ :: _, .non, _, _, _, _, h => by rw [D.sub] at h; cases h; all_goals (intros; simp_all)
  | _ :: _, .bl _, _, _, _, _, h => by rw [D.sub] at h; cases h; all_goals (intros; simp_all)
  | _ :: _, .int _, _, _, _, _, h => by rw [D.sub] at h; cases h; all_goals (intros; simp_all)
  | _ :: _, .str _, _, _, _, _, h => by rw [D.sub] at h; cases h; all_goals (intros; simp_all)
end
/-! ### states with trees -/
def keepAl (j : Nat) (q : List Nat) : Sl → Sl
  | .al k p => if k = j ∧ thru q p = true then .no else .al k p
  | .rg _ => .no
  | s => s
def dropAl (j : Nat) : Sl → Sl
  | .al k p => if k = j then .no else .al k p
  | s => s
theorem keep_get {δ : List Sl} {j i : Nat} {q : List Nat} {s : Sl} (h : (δ.map (keepAl j q))[i]? = some s) (n : s ≠ .no) : δ[i]? = some s ∧ (∀ d, s ≠ .rg d) ∧ ∀ p, s = .al j p → thru q p = false := by
  rw [List.getElem?_map] at h
  cases e : δ[i]? with
  | none => rw [e] at h; cases h
  | some t =>
    rw [e] at h
    simp only [Option.map_some, Option.some.injEq] at h
    cases t with
    | rg d => exact absurd h.symm n
    | no => exact absurd h.symm n
    | sh d g => subst h; exact ⟨rfl, fun d => Sl.noConfusion, fun p => Sl.noConfusion⟩
    | ow d g => subst h; exact ⟨rfl, fun d => Sl.noConfusion, fun p => Sl.noConfusion⟩
    | tr d => subst h; exact ⟨rfl, fun d => Sl.noConfusion, fun p => Sl.noConfusion⟩
    | al k p =>
      simp only [keepAl] at h
      split at h
      · exact absurd h.symm n
      · rename_i z
        subst h
        refine ⟨rfl, fun d => Sl.noConfusion, fun p' e' => ?_⟩
        cases e'
        cases w : thru q p with
        | false => rfl
        | true => exact absurd ⟨rfl, w⟩ z
theorem drop_get {δ : List Sl} {j i : Nat} {s : Sl} (h : (δ.map (dropAl j))[i]? = some s) (n : s ≠ .no) : δ[i]? = some s ∧ ∀ p, s ≠ .al j p := by
  rw [List.getElem?_map] at h
  cases e : δ[i]? with
  | none => rw [e] at h; cases h
  | some t =>
    rw [e] at h
    simp only [Option.map_some, Option.some.injEq] at h
    cases t with
    | rg d => subst h; exact ⟨rfl, fun p => Sl.noConfusion⟩
    | no => exact absurd h.symm n
    | sh d g => subst h; exact ⟨rfl, fun p => Sl.noConfusion⟩
    | ow d g => subst h; exact ⟨rfl, fun p => Sl.noConfusion⟩
    | tr d => subst h; exact ⟨rfl, fun p => Sl.noConfusion⟩
    | al k p =>
      simp only [dropAl] at h
      split at h
      · exact absurd h.symm n
      · rename_i z
        subst h
        refine ⟨rfl, fun p' e' => ?_⟩
        cases e'
        exact z rfl
section
variable {C : Cf} {B0 H0 B H : Hp} {σ : L2.St} {δ : List Sl}
/-- a new tree is stored -/
theorem Stt.setTr {i : Nat} {d : D} {v : V} {ps : List Addr} {φ : Nat → List Addr} (S : Stt C B0 H0 B H σ δ) (T : TrOk C H0 B H σ δ φ) (t : Tr C B H d v ps) (nd : ps.Nodup) (nw : ∀ p ∈ ps, H0 p = none ∧ B p = none ∧ (∀ (j : Nat) ds g, δ[j]? = some (.ow ds g) → σ[j]? ≠ some (some (.ref p))) ∧ ∀ (j : Nat) d, δ[j]? = some (.tr d) → p ∉ φ j) : Stt C B0 H0 B H (σ.set i (some v)) ((δ.map (dropAl i)).set i (.tr d)) := by
  have back : ∀ {k : Nat} {s : Sl}, ((δ.map (dropAl i)).set i (.tr d))[k]? = some s → s ≠ .no → (k = i ∧ s = .tr d ∧ i < σ.length) ∨ (k ≠ i ∧ δ[k]? = some s ∧ ∀ p, s ≠ .al i p) := fun {k s} h n => by
    rcases get_set h with ⟨e1, e2, hl⟩ | ⟨ne, h⟩
    · exact .inl ⟨e1, e2, by rw [S.len]; simpa using hl⟩
    · exact .inr ⟨ne, drop_get h n⟩
  refine ⟨S.ex0, S.exb, S.sub, S.new, by simp [S.len], fun k d' g h => ?_, fun k ds g h => ?_, fun k k' ds g ds' g' p h1 h2 h3 h4 => ?_, fun k d' h => ?_, ⟨fun k => if k = i then ps else φ k, fun k d' h => ?_, fun k d' h => ?_, fun k d' p h hp => ?_, fun k k' d1 d2 p h1 h2 hp hp' => ?_⟩, fun k j q h => ?_⟩
  · rcases back h Sl.noConfusion with ⟨_, z, _⟩ | ⟨ne, h, _⟩
    · cases z
    · rw [set_ne ne]; exact S.shr k d' g h
  · rcases back h Sl.noConfusion with ⟨_, z, _⟩ | ⟨ne, h, _⟩
    · cases z
    · rw [set_ne ne]; exact S.own k ds g h
  · rcases back h1 Sl.noConfusion with ⟨_, z, _⟩ | ⟨n1, h1, _⟩
    · cases z
    · rcases back h2 Sl.noConfusion with ⟨_, z, _⟩ | ⟨n2, h2, _⟩
      · cases z
      · rw [set_ne n1] at h3
        rw [set_ne n2] at h4
        exact S.dis k k' _ _ _ _ p h1 h2 h3 h4
  · rcases back h Sl.noConfusion with ⟨_, z, _⟩ | ⟨ne, h, _⟩
    · cases z
    · rw [set_ne ne]; exact S.rgn k d' h
  · rcases back h Sl.noConfusion with ⟨rfl, z, hl⟩ | ⟨ne, h, _⟩
    · cases z
      exact ⟨v, set_get hl, by rw [if_pos rfl]; exact t⟩
    · rw [set_ne ne, if_neg ne]; exact T.tr k d' h
  · rcases back h Sl.noConfusion with ⟨rfl, z, hl⟩ | ⟨ne, h, _⟩
    · rw [if_pos rfl]; exact nd
    · rw [if_neg ne]; exact T.nd k d' h
  · have key : ∀ (j : Nat) ds g, ((δ.map (dropAl i)).set i (.tr d))[j]? = some (.ow ds g) → j ≠ i ∧ δ[j]? = some (.ow ds g) := fun j ds g hj => by
      rcases back hj Sl.noConfusion with ⟨_, z, _⟩ | ⟨nj, hj, _⟩
      · cases z
      · exact ⟨nj, hj⟩
    rcases back h Sl.noConfusion with ⟨rfl, z, hl⟩ | ⟨ne, h, _⟩
    · rw [if_pos rfl] at hp
      obtain ⟨a, b, c, _⟩ := nw p hp
      exact ⟨a, b, t.ex p hp, fun j ds g hj => by rw [set_ne (key j ds g hj).1]; exact c j ds g (key j ds g hj).2⟩
    · rw [if_neg ne] at hp
      obtain ⟨a, b, c, e⟩ := T.nw k d' p h hp
      exact ⟨a, b, c, fun j ds g hj => by rw [set_ne (key j ds g hj).1]; exact e j ds g (key j ds g hj).2⟩
  · rcases back h1 Sl.noConfusion with ⟨e1, z, _⟩ | ⟨n1, h1, _⟩
    · rcases back h2 Sl.noConfusion with ⟨e2, z, _⟩ | ⟨n2, h2, _⟩
      · rw [e1, e2]
      · rw [if_pos e1] at hp
        rw [if_neg n2] at hp'
        exact absurd hp' ((nw p hp).2.2.2 k' d2 h2)
    · rcases back h2 Sl.noConfusion with ⟨e2, z, _⟩ | ⟨n2, h2, _⟩
      · rw [if_pos e2] at hp'
        rw [if_neg n1] at hp
        exact absurd hp ((nw p hp').2.2.2 k d1 h1)
      · rw [if_neg n1] at hp
        rw [if_neg n2] at hp'
        exact T.dj k k' d1 d2 p h1 h2 hp hp'
  · rcases back h Sl.noConfusion with ⟨_, z, _⟩ | ⟨ne, h, na⟩
    · cases z
    · obtain ⟨u, e, a⟩ := S.ali k j q h
      rw [set_ne ne]
      refine ⟨u, e, fun d1 hd => ?_⟩
      rcases back hd Sl.noConfusion with ⟨e1, _, _⟩ | ⟨nj, hd, _⟩
      · exact absurd (by rw [e1]) (na q)
      · rw [set_ne nj]; exact a d1 hd
/-- a node of a tree changes -/
theorem Stt.mutTr {j : Nat} {d e : D} {q : List Nat} {φ : Nat → List Addr} (S : Stt C B0 H0 B H σ δ) (T : TrOk C H0 B H σ δ φ) (hj : δ[j]? = some (.tr d)) (hs : d.sub q = some e) :
    ∃ w v qs, σ[j]? = some (some w) ∧ Nav C H q d w e v ∧ Tr C B H e v qs ∧ qs.Nodup ∧ (∀ p ∈ qs, p ∈ φ j) ∧
    ∀ {H' : Hp} {e' : D} {qs' : List Addr}, (∀ p, p ∉ qs → ∀ o, H p = some o → H' p = some o) → Tr C B H' e' v qs' → qs'.Nodup →
      (∀ p ∈ qs', p ∈ qs ∨ (H0 p = none ∧ B p = none ∧ (∀ (k : Nat) ds g, δ[k]? = some (.ow ds g) → σ[k]? ≠ some (some (.ref p))) ∧ ∀ (k : Nat) d, δ[k]? = some (.tr d) → p ∉ φ k)) →
      Stt C B0 H0 B H' σ ((δ.map (keepAl j q)).set j (.tr (d.put q e'))) := by
  obtain ⟨w, ew, t⟩ := T.tr j d hj
  obtain ⟨v, l, qs, r, eps, n, te, up, nv⟩ := t.focus hs
  have ndj := T.nd j d hj
  rw [eps] at ndj
  have nd1 : qs.Nodup := by
    rw [List.nodup_append, List.nodup_append] at ndj
    exact ndj.2.1.1
  have inj : ∀ p ∈ qs, p ∈ φ j := fun p hp => by rw [eps]; simp [hp]
  have out : ∀ p, p ∈ l ∨ p ∈ r → p ∉ qs := fun p hp hq => by
    rw [List.nodup_append, List.nodup_append] at ndj
    rcases hp with hp | hp
    · exact ndj.2.2 p hp p (by simp [hq]) rfl
    · exact ndj.2.1.2.2 p hq p hp rfl
  refine ⟨w, v, qs, ew, n, te, nd1, inj, fun {H' e' qs'} fr te' nd' nw' => ?_⟩
  have back : ∀ {k : Nat} {s : Sl}, ((δ.map (keepAl j q)).set j (.tr (d.put q e')))[k]? = some s → s ≠ .no → (k = j ∧ s = .tr (d.put q e')) ∨ (k ≠ j ∧ δ[k]? = some s ∧ (∀ d, s ≠ .rg d) ∧ ∀ p, s = .al j p → thru q p = false) := fun {k s} h n => by
    rcases get_set h with ⟨e1, e2, hl⟩ | ⟨ne, h⟩
    · exact .inl ⟨e1, e2⟩
    · exact .inr ⟨ne, keep_get h n⟩
  have kH : ∀ p o, (H0 p = some o ∨ B p = some o) → H p = some o → H' p = some o := fun p o h1 h2 => fr p (fun hq => by
    obtain ⟨a, b, _⟩ := T.nw j d p hj (inj p hq)
    rcases h1 with h1 | h1
    · rw [a] at h1; cases h1
    · rw [b] at h1; cases h1) o h2
  have fo : ∀ (k : Nat) d', k ≠ j → δ[k]? = some (.tr d') → ∀ p ∈ φ k, ∀ o, H p = some o → H' p = some o := fun k d' nk hk p hp o ho => fr p (fun hq => nk (T.dj k j d' d p hk hj hp (inj p hq))) o ho
  refine ⟨fun p o h => kH p o (.inl h) (S.ex0 _ _ h), S.exb, fun p o h => kH p o (.inr h) (S.sub _ _ h), S.new, by simp [S.len], fun k d' g h => ?_, fun k ds g h => ?_, fun k k' ds g ds' g' p h1 h2 h3 h4 => ?_, fun k d' h => ?_, ⟨fun k => if k = j then l ++ (qs' ++ r) else φ k, fun k d' h => ?_, fun k d' h => ?_, fun k d' p h hp => ?_, fun k k' d1 d2 p h1 h2 hp hp' => ?_⟩, fun k j' q' h => ?_⟩
  · rcases back h Sl.noConfusion with ⟨_, z⟩ | ⟨ne, h, _⟩
    · cases z
    · obtain ⟨u, e1, r1⟩ := S.shr k d' g h
      exact ⟨u, e1, by rw [rg_true g (H' := H)]; exact r1⟩
  · rcases back h Sl.noConfusion with ⟨_, z⟩ | ⟨ne, h, _⟩
    · cases z
    · obtain ⟨p, vs, e1, a, b, c, r1⟩ := S.own k ds g h
      refine ⟨p, vs, e1, a, b, fr p (fun hq => (T.nw j d p hj (inj p hq)).2.2.2 k ds g h e1) _ c, by rw [rg_true g (H' := H)]; exact r1⟩
  · rcases back h1 Sl.noConfusion with ⟨_, z⟩ | ⟨n1, h1, _⟩
    · cases z
    · rcases back h2 Sl.noConfusion with ⟨_, z⟩ | ⟨n2, h2, _⟩
      · cases z
      · exact S.dis k k' _ _ _ _ p h1 h2 h3 h4
  · rcases back h Sl.noConfusion with ⟨_, z⟩ | ⟨ne, h, nr, _⟩
    · cases z
    · exact absurd rfl (nr d')
  · rcases back h Sl.noConfusion with ⟨rfl, z⟩ | ⟨ne, h, _⟩
    · cases z
      refine ⟨w, ew, ?_⟩
      rw [if_pos rfl]
      exact up (Same.refl _) (fun p hp o ho => fr p (out p hp) o ho) te'
    · obtain ⟨u, e1, t1⟩ := T.tr k d' h
      rw [if_neg ne]
      exact ⟨u, e1, t1.keep (Same.refl _) fun p hp o ho => fo k d' ne h p hp o ho⟩
  · rcases back h Sl.noConfusion with ⟨rfl, z⟩ | ⟨ne, h, _⟩
    · rw [if_pos rfl]
      rw [List.nodup_append, List.nodup_append] at ndj ⊢
      obtain ⟨a1, ⟨a2, a3, a4⟩, a5⟩ := ndj
      have nn : ∀ p ∈ qs', p ∉ qs → p ∉ φ k := fun p hp hq => by
        rcases nw' p hp with z | z
        · exact absurd z hq
        · exact z.2.2.2 k d hj
      refine ⟨a1, ⟨nd', a3, fun x hx y hy e => ?_⟩, fun x hx y hy e => ?_⟩
      · subst e
        by_cases hq : x ∈ qs
        · exact a4 x hq x hy rfl
        · exact nn x hx hq (by rw [eps]; simp [hy])
      · subst e
        rcases List.mem_append.mp hy with hy | hy
        · by_cases hq : x ∈ qs
          · exact a5 x hx x (by simp [hq]) rfl
          · exact nn x hy hq (by rw [eps]; simp [hx])
        · exact a5 x hx x (by simp [hy]) rfl
    · rw [if_neg ne]; exact T.nd k d' h
  · have key : ∀ (k' : Nat) ds g, ((δ.map (keepAl j q)).set j (.tr (d.put q e')))[k']? = some (.ow ds g) → δ[k']? = some (.ow ds g) := fun k' ds g hj => by
      rcases back hj Sl.noConfusion with ⟨_, z⟩ | ⟨nj, hj, _⟩
      · cases z
      · exact hj
    rcases back h Sl.noConfusion with ⟨rfl, z⟩ | ⟨ne, h, _⟩
    · rw [if_pos rfl] at hp
      have ps' : (p ∈ l ∨ p ∈ r) ∨ p ∈ qs' := by
        simp only [List.mem_append] at hp
        rcases hp with hp | hp | hp
        · exact .inl (.inl hp)
        · exact .inr hp
        · exact .inl (.inr hp)
      have oldc : p ∈ φ k → (∃ o, H' p = some o) → H0 p = none ∧ B p = none ∧ (∃ o, H' p = some o) ∧ ∀ (i : Nat) ds g, ((δ.map (keepAl k q)).set k (.tr (d.put q e')))[i]? = some (.ow ds g) → σ[i]? ≠ some (some (.ref p)) := fun hq ho => by
        obtain ⟨a, b, c, e2⟩ := T.nw k d p hj hq
        exact ⟨a, b, ho, fun i ds g hi => e2 i ds g (key i ds g hi)⟩
      rcases ps' with hp | hp
      · refine oldc (by rw [eps]; rcases hp with hp | hp <;> simp [hp]) ?_
        obtain ⟨a, b, ⟨o, c⟩, e2⟩ := T.nw k d p hj (by rw [eps]; rcases hp with hp | hp <;> simp [hp])
        exact ⟨o, fr p (out p hp) o c⟩
      · rcases nw' p hp with z | ⟨a, b, c, _⟩
        · exact oldc (inj p z) (te'.ex p hp)
        · exact ⟨a, b, te'.ex p hp, fun i ds g hi => c i ds g (key i ds g hi)⟩
    · rw [if_neg ne] at hp
      obtain ⟨a, b, ⟨o, c⟩, e2⟩ := T.nw k d' p h hp
      exact ⟨a, b, ⟨o, fo k d' ne h p hp o c⟩, fun i ds g hi => e2 i ds g (key i ds g hi)⟩
  · have cross : ∀ (k : Nat) (d1 : D), k ≠ j → δ[k]? = some (.tr d1) → p ∈ φ k → p ∈ l ++ (qs' ++ r) → False := fun k d1 nk hk hp hp' => by
      have : p ∈ φ j ∨ p ∈ qs' := by
        simp only [List.mem_append] at hp'
        rcases hp' with z | z | z
        · exact .inl (by rw [eps]; simp [z])
        · exact .inr z
        · exact .inl (by rw [eps]; simp [z])
      rcases this with z | z
      · exact nk (T.dj k j d1 d p hk hj hp z)
      · rcases nw' p z with y | y
        · exact nk (T.dj k j d1 d p hk hj hp (inj p y))
        · exact y.2.2.2 k d1 hk hp
    rcases back h1 Sl.noConfusion with ⟨e1, z⟩ | ⟨n1, h1, _⟩
    · rcases back h2 Sl.noConfusion with ⟨e2, z⟩ | ⟨n2, h2, _⟩
      · rw [e1, e2]
      · rw [if_pos e1] at hp
        rw [if_neg n2] at hp'
        exact (cross k' d2 n2 h2 hp' hp).elim
    · rcases back h2 Sl.noConfusion with ⟨e2, z⟩ | ⟨n2, h2, _⟩
      · rw [if_pos e2] at hp'
        rw [if_neg n1] at hp
        exact (cross k d1 n1 h1 hp hp').elim
      · rw [if_neg n1] at hp
        rw [if_neg n2] at hp'
        exact T.dj k k' d1 d2 p h1 h2 hp hp'
  · rcases back h Sl.noConfusion with ⟨_, z⟩ | ⟨ne, h, _, na⟩
    · cases z
    · obtain ⟨u, e1, a⟩ := S.ali k j' q' h
      refine ⟨u, e1, fun d1 hd => ?_⟩
      rcases back hd Sl.noConfusion with ⟨e2, z⟩ | ⟨nj, hd, _⟩
      · cases z
        subst e2
        obtain ⟨w', d', ew', n'⟩ := a d hj
        rw [ew] at ew'
        cases ew'
        obtain ⟨d2, n2⟩ := nv (H' := H') (e' := e') (fun p hp o ho => fr p (out p hp) o ho) q' d' u (na q' rfl) n'
        exact ⟨w, d2, ew, n2⟩
      · obtain ⟨w', d', ew', n'⟩ := a d1 hd
        obtain ⟨w2, ew2, t2⟩ := T.tr j' d1 hd
        rw [ew'] at ew2
        cases ew2
        exact ⟨w', d', ew', n'.keep t2 fun p hp o ho => fo j' d1 nj hd p hp o ho⟩
/-- a tree is given to all -/
theorem Stt.frzTr {i : Nat} {d : D} (S : Stt C B0 H0 B H σ δ) (h : δ[i]? = some (.tr d)) : ∃ B', Same B B' ∧ Stt C B0 H0 B' H σ (δ.set i (.sh d false)) := by
  obtain ⟨φ, T⟩ := S.tre
  obtain ⟨v, ev, t⟩ := T.tr i d h
  have S1 : Stt C B0 H0 B H σ (δ.set i .no) := by
    have := S.setNo (j := i) (x := some v)
    rwa [set_same ev] at this
  let B' : Hp := fun p => if p ∈ φ i then H p else B p
  have eB : ∀ p, B' p = if p ∈ φ i then H p else B p := fun _ => rfl
  have eb : Same B B' := fun p o k => by
    rw [eB]
    split
    · exact S.sub _ _ k
    · exact k
  have bk : ∀ {k : Nat} {s : Sl}, (δ.set i .no)[k]? = some s → s ≠ .no → k ≠ i ∧ δ[k]? = some s := fun {k s} h n => by
    rcases get_set h with ⟨_, e, _⟩ | ⟨ne, h⟩
    · exact absurd e n
    · exact ⟨ne, h⟩
  have S2 : Stt C B0 H0 B' H σ (δ.set i .no) := by
    refine S1.rebase eb (fun p o k => ?_) (fun p o k => ?_) ⟨φ, ⟨fun k d' hk => T.tr k d' (bk hk Sl.noConfusion).2, fun k d' hk => T.nd k d' (bk hk Sl.noConfusion).2, fun k d' p hk hp => ?_, fun k k' d1 d2 p h1 h2 => T.dj k k' d1 d2 p (bk h1 Sl.noConfusion).2 (bk h2 Sl.noConfusion).2⟩, fun k d' p hk hp => ?_⟩
    · rw [eB] at k
      split at k
      · exact k
      · exact S.sub _ _ k
    · rw [eB] at k
      split at k
      · rename_i hp
        obtain ⟨a, b, c, e⟩ := T.nw i d p h hp
        exact .inr ⟨a, fun k ds g hk => e k ds g (bk hk Sl.noConfusion).2⟩
      · exact .inl k
    · obtain ⟨a, b, c, e⟩ := T.nw k d' p (bk hk Sl.noConfusion).2 hp
      exact ⟨a, b, c, fun m ds g hm => e m ds g (bk hm Sl.noConfusion).2⟩
    · obtain ⟨nk, hk⟩ := bk hk Sl.noConfusion
      rw [eB, if_neg fun z => nk (T.dj k i d' d p hk h hp z)]
      exact (T.nw k d' p hk hp).2.1
  refine ⟨B', eb, ?_⟩
  have r : Rp C (Rg B0 H0 B' H true false) d v := t.rp eb fun p hp o k => by
    show B' p = some o
    rw [eB, if_pos hp]
    exact k
  have S3 := S2.setSh (j := i) r
  rwa [set_same ev, List.set_set] at S3
end
end G

namespace G
open PySem L2
/-! ### ways into trees -/
inductive Ps where
  | fld (f : Str) | ix (e : E)
def fidx (f : Str) : List Str → Option Nat
  | [] => none
  | n :: ns => if f = n then some 0 else (fidx f ns).map (· + 1)
def rootOf (δ : List Sl) (i : Nat) : Option (Nat × List Nat × D) := match δ[i]? with
  | some (.tr d) => some (i, [], d)
  | some (.al j q) => match δ[j]? with
    | some (.tr d) => some (j, q, d)
    | _ => none
  | _ => none
def stepsOf (Γ : Ga) (δ : List Sl) (d : D) : List Ps → List Nat → Option (List Nat)
  | [], q => some q
  | .fld f :: r, q => match d.sub q with
    | some (.ob c fs) => match Γ.cn[c]? with
      | some ns => match fidx f ns with
        | some k => if k < fs.length then stepsOf Γ δ d r (q ++ [k]) else none
        | none => none
      | none => none
    | _ => none
  | .ix e :: r, q => match d.sub q with
    | some (.ls ds) => match eval Γ e δ with
      | some (.int k, _, _) => match ixN ds.length k with
        | some j => stepsOf Γ δ d r (q ++ [j])
        | none => none
      | _ => none
    | _ => none
/-- slot, way, tree, node -/
def nodeOf (Γ : Ga) (δ : List Sl) (i : Nat) (ss : List Ps) : Option (Nat × List Nat × D × D) := match rootOf δ i with
  | some (j, q, d) => match stepsOf Γ δ d ss q with
    | some q' => match d.sub q' with
      | some e => some (j, q', d, e)
      | none => none
    | none => none
  | none => none
def rdPs (C : Cf) (Γ : Ga) : List Ps → TE → TE
  | [], te => te
  | .fld f :: r, te => rdPs C Γ r (tFld C.K te f)
  | .ix e :: r, te => rdPs C Γ r (tOp (rIx C.K) te (rd C Γ e))
theorem Nav.app {C : Cf} {H : Hp} : ∀ {q p : List Nat} {d e e' : D} {w v v' : V}, Nav C H q d w e v → Nav C H p e v e' v' → Nav C H (q ++ p) d w e' v'
  | [], p, d, e, e', w, v, v', h, k => by
    simp only [Nav] at h
    obtain ⟨rfl, rfl⟩ := h
    exact k
  | x :: q, p, .ls ds, e, e', w, v, v', h, k => by
    simp only [Nav, List.cons_append] at h ⊢
    obtain ⟨a, xs, u, y, h1, h2, h3, h4, h5⟩ := h
    exact ⟨a, xs, u, y, h1, h2, h3, h4, h5.app k⟩
  | x :: q, p, .ob c ds, e, e', w, v, v', h, k => by
    simp only [Nav, List.cons_append] at h ⊢
    obtain ⟨a, dx, xs, u, y, h1, h2, hl, h3, h4, h5⟩ := h
    exact ⟨a, dx, xs, u, y, h1, h2, hl, h3, h4, h5.app k⟩
  | _ :: _, _, .tp _, _, _, _, _, _, h, _ => by simp only [Nav] at h
  | _ :: _, _, .non, _, _, _, _, _, h, _ => by simp only [Nav] at h
  | _ :: _, _, .bl _, _, _, _, _, _, h, _ => by simp only [Nav] at h
  | _ :: _, _, .int _, _, _, _, _, _, h, _ => by simp only [Nav] at h
  | _ :: _, _, .str _, _, _, _, _, _, h, _ => by simp only [Nav] at h
theorem zip_look {f : Str} : ∀ {ns : List Str} {xs : List V} {k : Nat} {u : V}, fidx f ns = some k → xs[k]? = some u → (ns.zip xs).lookup f = some u ∧ f ∈ ns
  | [], _, _, _, h, _ => by simp [fidx] at h
  | n :: ns, [], _, _, _, h => by simp at h
  | n :: ns, x :: xs, k, u, h, e => by
    simp only [fidx] at h
    rw [List.zip_cons_cons, List.lookup_cons]
    split at h
    · rename_i z
      cases h
      simp only [List.getElem?_cons_zero, Option.some.injEq] at e
      subst e z
      simp
    · rename_i z
      cases hk : fidx f ns with
      | none => rw [hk] at h; cases h
      | some m =>
        rw [hk] at h
        simp only [Option.map_some, Option.some.injEq] at h
        subst h
        simp only [List.getElem?_cons_succ] at e
        obtain ⟨h1, h2⟩ := zip_look hk e
        rw [show (f == n) = false by simpa using z]
        exact ⟨h1, by simp [h2]⟩
section
variable {C : Cf} {B0 H0 : Hp} {Γ : Ga} {δ : List Sl}
/-- te gives the node at the way q of the tree of slot j -/
def PtOk (C : Cf) (B0 H0 : Hp) (te : TE) (δ : List Sl) (j : Nat) (d : D) (q : List Nat) : Prop := ∀ B H σ, Stt C B0 H0 B H σ δ → ∀ Q : VK, (∀ v w e B' H', Gro B H B' H' → Stt C B0 H0 B' H' σ δ → σ[j]? = some (some w) → Nav C H' q d w e v → Q v H') → te σ H Q
theorem root_ok {i j : Nat} {q : List Nat} {d : D} (h : rootOf δ i = some (j, q, d)) : δ[j]? = some (.tr d) ∧ PtOk C B0 H0 (tVar i) δ j d q := by
  unfold rootOf at h
  split at h
  · rename_i d' e
    cases h
    refine ⟨e, fun B H σ S Q k => ?_⟩
    obtain ⟨φ, T⟩ := S.tre
    obtain ⟨v, ev, t⟩ := T.tr i d e
    exact ⟨v, ev, k v v d B H (Gro.refl _ _) S ev (by unfold Nav; exact ⟨rfl, rfl⟩)⟩
  · rename_i j' q' e
    split at h
    · rename_i d' e'
      cases h
      refine ⟨e', fun B H σ S Q k => ?_⟩
      obtain ⟨v, ev, a⟩ := S.ali i j q e
      obtain ⟨w, d2, ew, n⟩ := a d e'
      exact ⟨v, ev, k v w d2 B H (Gro.refl _ _) S ew n⟩
    · cases h
  · cases h
theorem steps_ok (hk : KsOk C Γ) {j : Nat} {d : D} (hj : δ[j]? = some (.tr d)) : ∀ {ss : List Ps} {te : TE} {q q' : List Nat}, PtOk C B0 H0 te δ j d q → stepsOf Γ δ d ss q = some q' → PtOk C B0 H0 (rdPs C Γ ss te) δ j d q'
  | [], te, q, q', h, e => by
    simp only [stepsOf, Option.some.injEq] at e
    subst e
    exact h
  | .fld f :: r, te, q, q', h, e => by
    simp only [stepsOf] at e
    split at e
    · rename_i c fs e1
      split at e
      · rename_i ns e2
        split at e
        · rename_i k e3
          split at e
          · rename_i e4
            simp only [rdPs]
            refine steps_ok hk hj (fun B H σ S Q kq => ?_) e
            refine h B H σ S _ fun v w x B1 H1 G1 S1 ew n => ?_
            obtain ⟨φ, T⟩ := S1.tre
            obtain ⟨w', ew', t⟩ := T.tr j d hj
            rw [ew] at ew'
            cases ew'
            obtain ⟨v', qs, n', t', _⟩ := t.nav e1
            obtain ⟨rfl, rfl⟩ := n.fn n'
            rw [tr_ob] at t'
            obtain ⟨a, dx, xs, ps, rfl, h2, hl, rfl, t4⟩ := t'
            obtain ⟨ec, cl, _, na⟩ := hk.cn c ns e2
            obtain ⟨fe, hfe⟩ : ∃ y, fs[k]? = some y := ⟨_, List.getElem?_eq_getElem e4⟩
            obtain ⟨u, p1, pk, p2, hu, _⟩ := t4.split hfe
            obtain ⟨lk, hm⟩ := zip_look e3 hu
            refine ⟨a, _, dx, _, u, rfl, h2, cl, na f hm, by rw [ec]; exact lk, kq u w fe B1 H1 G1 S1 ew (n.app ?_)⟩
            simp only [Nav]
            exact ⟨a, dx, xs, u, fe, rfl, h2, hl, hfe, hu, rfl, rfl⟩
          · cases e
        · cases e
      · cases e
    · cases e
  | .ix b :: r, te, q, q', h, e => by
    simp only [stepsOf] at e
    split at e
    · rename_i ds e1
      split at e
      · rename_i k f1 g1 e2
        split at e
        · rename_i m e3
          simp only [rdPs]
          refine steps_ok hk hj (fun B H σ S Q kq => ?_) e
          refine h B H σ S _ fun v w x B1 H1 G1 S1 ew n => ?_
          refine (eval_all hk b).1 δ _ e2 B1 H1 σ S1 _ fun u B2 H2 G2 S2 ru => ?_
          rw [rp_int] at ru
          subst ru
          have n2 := n.mono G2.eh
          obtain ⟨φ, T⟩ := S2.tre
          obtain ⟨w', ew', t⟩ := T.tr j d hj
          rw [ew] at ew'
          cases ew'
          obtain ⟨v', qs, n', t', _⟩ := t.nav e1
          obtain ⟨rfl, rfl⟩ := n2.fn n'
          rw [tr_ls] at t'
          obtain ⟨a, xs, ps, rfl, h2, rfl, t4⟩ := t'
          obtain ⟨fe, hfe⟩ : ∃ y, ds[m]? = some y := ⟨_, List.getElem?_eq_getElem (ixN_lt e3)⟩
          obtain ⟨u, p1, pk, p2, hu, _⟩ := t4.split hfe
          refine .inl ⟨a, xs, k, u, rfl, rfl, SqL.of h2, ?_, kq u w fe B2 H2 (G1.trans G2) S2 ew (n2.app ?_)⟩
          · unfold atI
            rw [t4.len, e3]
            exact hu
          · simp only [Nav]
            exact ⟨a, xs, u, fe, rfl, h2, hfe, hu, rfl, rfl⟩
        · cases e
      · cases e
    · cases e
theorem node_ok (hk : KsOk C Γ) {i j : Nat} {ss : List Ps} {q : List Nat} {d e : D} (h : nodeOf Γ δ i ss = some (j, q, d, e)) : δ[j]? = some (.tr d) ∧ d.sub q = some e ∧ PtOk C B0 H0 (rdPs C Γ ss (tVar i)) δ j d q := by
  unfold nodeOf at h
  split at h
  · rename_i j' q0 d' e1
    split at h
    · rename_i q1 e2
      split at h
      · rename_i x e3
        cases h
        obtain ⟨hj, hp⟩ := root_ok (C := C) (B0 := B0) (H0 := H0) e1
        exact ⟨hj, e3, steps_ok hk hj hp e2⟩
      · cases h
    · cases h
  · cases h
end
/-! ### loops that change a tree's lists in place -/
inductive M where
  | appI (n : Int) | appN | loop (x : Nat) (b : M) | seq (a b : M)
def mapO (f : D → Option D) : List D → Option (List D)
  | [] => some []
  | d :: r => match f d with
    | some e => match mapO f r with
      | some es => some (e :: es)
      | none => none
    | none => none
def M.run : M → D → Option D
  | .appI n, .ls ds => if ds.length < 100000 then some (.ls (ds ++ [.int n])) else none
  | .appN, .ls ds => if ds.length < 100000 then some (.ls (ds ++ [.ls []])) else none
  | .loop _ b, .ls ds => match mapO (fun d => b.run d) ds with
    | some es => some (.ls es)
    | none => none
  | .seq a b, d => match a.run d with
    | some e => b.run e
    | none => none
  | _, _ => none
def M.vars : M → List Nat
  | .loop x b => x :: b.vars
  | .seq a b => a.vars ++ b.vars
  | _ => []
def M.okk : M → Bool
  | .loop x b => !b.vars.contains x && b.okk
  | .seq a b => a.okk && b.okk
  | _ => true
def rdM (C : Cf) : M → Nat → TS
  | .appI n, y => tDrop (tBM C.K "list" rAppend (tVar y) (tCons (tC (.int n)) tNil))
  | .appN, y => tDrop (tBM C.K "list" rAppend (tVar y) (tCons (tLst tNil) tNil))
  | .loop x b, y => tFor (iList C.K (tVar y)) (gName x) (rdM C b x)
  | .seq a b, y => tSeq (rdM C a y) (rdM C b y)
theorem mapO_snoc {f : D → Option D} {x e : D} (hx : f x = some e) : ∀ {l es : List D}, mapO f l = some es → mapO f (l ++ [x]) = some (es ++ [e])
  | [], es, h => by
    simp only [mapO, Option.some.injEq] at h
    subst h
    simp [mapO, hx]
  | d :: l, es, h => by
    simp only [mapO] at h
    split at h
    · rename_i d' e1
      split at h
      · rename_i es' e2
        cases h
        simp only [List.cons_append, mapO, e1, mapO_snoc hx e2]
      · cases h
    · cases h
theorem mapO_len {f : D → Option D} : ∀ {l es : List D}, mapO f l = some es → es.length = l.length
  | [], es, h => by
    simp only [mapO, Option.some.injEq] at h
    subst h; rfl
  | d :: l, es, h => by
    simp only [mapO] at h
    split at h
    · split at h
      · rename_i es' e2
        cases h
        simp [mapO_len e2]
      · cases h
    · cases h
theorem mapO_get {f : D → Option D} : ∀ {l es : List D} {i : Nat} {d : D}, mapO f l = some es → l[i]? = some d → ∃ e, f d = some e
  | [], es, i, d, _, h => by simp at h
  | x :: l, es, i, d, h, k => by
    simp only [mapO] at h
    split at h
    · rename_i e1 he
      split at h
      · rename_i es' e2
        cases i with
        | zero => simp at k; subst k; exact ⟨_, he⟩
        | succ i => exact mapO_get e2 (by simpa using k)
      · cases h
    · cases h
theorem mapO_take {f : D → Option D} : ∀ {l es : List D} (i : Nat), mapO f l = some es → mapO f (l.take i) = some (es.take i)
  | [], es, i, h => by
    simp only [mapO, Option.some.injEq] at h
    subst h; simp [mapO]
  | d :: l, es, 0, h => by simp [mapO]
  | d :: l, es, i + 1, h => by
    simp only [mapO] at h
    split at h
    · rename_i d' e1
      split at h
      · rename_i es' e2
        cases h
        simp only [List.take_succ_cons, mapO, e1, mapO_take i e2]
      · cases h
    · cases h
theorem mrun_ok {C : Cf} {B : Hp} : ∀ (m : M) (y : Nat) {d d' : D} {v : V} {ps : List Addr} {σ : L2.St} {H : Hp}, σ[y]? = some (some v) → y ∉ m.vars → m.okk = true → (∀ x ∈ m.vars, x < σ.length) → Tr C B H d v ps → ps.Nodup → Same B H → (∀ p ∈ ps, B p = none) → m.run d = some d' → ∀ Dn : Ends,
    (∀ σ' H' ps', σ'.length = σ.length → (∀ i, i ∉ m.vars → σ'[i]? = σ[i]?) → Tr C B H' d' v ps' → ps'.Nodup → (∀ p, p ∉ ps → ∀ o, H p = some o → H' p = some o) → (∀ p ∈ ps', p ∈ ps ∨ H p = none) → Dn.nx σ' H') → rdM C m y Dn σ H
  | .appI n, y, d, d', v, ps, σ, H, hy, ny, ok, hv, t, nd, sb, nb, run, Dn, q => by
    cases d with
    | ls ds =>
      simp only [M.run] at run
      split at run
      · rename_i hl
        cases run
        rw [tr_ls] at t
        obtain ⟨a, xs, qs, rfl, h2, rfl, t4⟩ := t
        rw [List.nodup_cons] at nd
        simp only [rdM]
        refine ⟨.ref a, hy, .inl ⟨rfl, _, SqL.of h2⟩, a, xs, .int n, rfl, rfl, h2, Nat.lt_of_lt_of_le (show xs.length < 100000 by rw [t4.len]; exact hl) (by decide), ?_⟩
        refine q σ _ (a :: qs) rfl (fun _ _ => rfl) ?_ (by rw [List.nodup_cons]; exact nd) (fun p hp o ho => ?_) fun p hp => .inl hp
        · rw [tr_ls]
          refine ⟨a, xs ++ [.int n], qs, rfl, upd_same, rfl, ?_⟩
          have := Trs.app (t4.keep (H' := upd H a (.lst (xs ++ [.int n]))) (Same.refl _) fun p hp o ho => by rw [upd_ne (ne_mem nd.1 hp)]; exact ho) (.one (d := .int n) (v := .int n) (ps := []) (by unfold Tr; exact ⟨rfl, rfl⟩))
          rwa [List.append_nil] at this
        · rw [upd_ne (fun z => hp (by simp [z]))]
          exact ho
      · cases run
    | _ => simp [M.run] at run
  | .appN, y, d, d', v, ps, σ, H, hy, ny, ok, hv, t, nd, sb, nb, run, Dn, q => by
    cases d with
    | ls ds =>
      simp only [M.run] at run
      split at run
      · rename_i hl
        cases run
        rw [tr_ls] at t
        obtain ⟨a, xs, qs, rfl, h2, rfl, t4⟩ := t
        rw [List.nodup_cons] at nd
        simp only [rdM]
        refine ⟨.ref a, hy, .inl ⟨rfl, _, SqL.of h2⟩, sz_of (Nat.zero_le _), fun l hl' => ?_⟩
        have la : a ≠ l := fun z => by rw [z, hl'] at h2; cases h2
        have h2' : (upd H l (.lst [])) a = some (.lst xs) := by rw [upd_ne la]; exact h2
        have lq : ∀ p ∈ qs, p ≠ l := fun p hp z => by
          obtain ⟨o, ho⟩ := t4.ex p hp
          rw [z, hl'] at ho
          cases ho
        refine ⟨a, xs, .ref l, rfl, rfl, h2', Nat.lt_of_lt_of_le (show xs.length < 100000 by rw [t4.len]; exact hl) (by decide), ?_⟩
        refine q σ _ (a :: (qs ++ [l])) rfl (fun _ _ => rfl) ?_ ?_ (fun p hp o ho => ?_) fun p hp => ?_
        · rw [tr_ls]
          refine ⟨a, xs ++ [.ref l], qs ++ [l], rfl, upd_same, rfl, Trs.app (t4.keep (Same.refl _) fun p hp o ho => ?_) (.one ?_)⟩
          · rw [upd_ne (ne_mem nd.1 hp), upd_ne (lq p hp)]
            exact ho
          · rw [tr_ls]
            exact ⟨l, [], [], rfl, by rw [upd_ne (Ne.symm la)]; exact upd_same, rfl, by rw [trs_nil]; exact ⟨rfl, rfl⟩⟩
        · rw [List.nodup_cons]
          refine ⟨fun z => ?_, nd_app nd.2 (by simp) fun p hp hq => ?_⟩
          · rcases List.mem_append.mp z with z | z
            · exact nd.1 z
            · rw [List.mem_singleton] at z
              exact la z
          · rw [List.mem_singleton] at hq
            exact lq p hp hq
        · rw [upd_ne (fun z => hp (by simp [z])), upd_ne (ne_of_none ho hl')]
          exact ho
        · rcases List.mem_cons.mp hp with rfl | hp
          · exact .inl (by simp)
          · rcases List.mem_append.mp hp with hp | hp
            · exact .inl (by simp [hp])
            · rw [List.mem_singleton] at hp
              subst hp
              exact .inr hl'
      · cases run
    | _ => simp [M.run] at run
  | .seq m1 m2, y, d, d', v, ps, σ, H, hy, ny, ok, hv, t, nd, sb, nb, run, Dn, q => by
    simp only [M.run] at run
    split at run
    · rename_i e e1
      simp only [M.vars, List.mem_append, not_or] at ny hv q
      simp only [M.okk, Bool.and_eq_true] at ok
      simp only [rdM]
      refine mrun_ok m1 y hy ny.1 ok.1 (fun x hx => hv x (.inl hx)) t nd sb nb e1 _ fun σ1 H1 p1 l1 s1 t1 n1 f1 w1 => ?_
      have fb : Same B H1 := fun p o k => f1 p (fun hp => by rw [nb p hp] at k; cases k) o (sb _ _ k)
      refine mrun_ok m2 y (by rw [s1 y ny.1]; exact hy) ny.2 ok.2 (fun x hx => by rw [l1]; exact hv x (.inr hx)) t1 n1 fb (fun p hp => ?_) run Dn fun σ2 H2 p2 l2 s2 t2 n2 f2 w2 => ?_
      · rcases w1 p hp with z | z
        · exact nb p z
        · exact sb.free z
      · refine q σ2 H2 p2 (l2.trans l1) (fun i hi => (s2 i hi.2).trans (s1 i hi.1)) t2 n2 (fun p hp o ho => ?_) fun p hp => ?_
        · refine f2 p (fun hq => ?_) o (f1 p hp o ho)
          rcases w1 p hq with z | z
          · exact hp z
          · rw [ho] at z; cases z
        · rcases w2 p hp with z | z
          · exact w1 p z
          · by_cases hps : p ∈ ps
            · exact .inl hps
            · right
              cases k : H p with
              | none => rfl
              | some o => rw [f1 p hps o k] at z; cases z
    · cases run
  | .loop x b, y, d, d', v, ps, σ, H, hy, ny, ok, hv, t, nd, sb, nb, run, Dn, q => by
    cases d with
    | ls ds =>
      simp only [M.run] at run
      split at run
      · rename_i es0 em
        cases run
        simp only [M.vars, List.mem_cons, not_or] at ny hv q
        simp only [M.okk, Bool.and_eq_true, Bool.not_eq_true', List.contains_eq_mem, decide_eq_false_iff_not] at ok
        rw [tr_ls] at t
        obtain ⟨a, xs, qs, rfl, h2, rfl, t4⟩ := t
        rw [List.nodup_cons] at nd
        simp only [rdM]
        have hlx := t4.len
        refine ⟨.ref a, hy, a, rfl, ⟨xs, SqL.of h2⟩, ?_⟩
        refine for_it (walk_list (K := C.K) (a := a) (xs := xs)) (fun i σ' H' => ∃ qs', Trs C B H' (es0.take i ++ ds.drop i) xs qs' ∧ qs'.Nodup ∧ a ∉ qs' ∧ H' a = some (.lst xs) ∧ σ'.length = σ.length ∧ (∀ k, ¬ k = x ∧ k ∉ b.vars → σ'[k]? = σ[k]?) ∧ (∀ p, p ∉ a :: qs → ∀ o, H p = some o → H' p = some o) ∧ (∀ p ∈ qs', p ∈ a :: qs ∨ H p = none) ∧ Same B H') ⟨qs, by simpa using t4, nd.2, nd.1, h2, rfl, fun _ _ => rfl, fun _ _ _ h => h, fun p hp => .inl (by simp [hp]), sb⟩ ?_ ?_ ?_
        · rintro i σ' H' _ ⟨qs', _, _, _, ha, _⟩
          exact SqL.of ha
        · rintro i u σ' H' H2 hlt ⟨qs', ti, ni, na, ha, ls, ss, fr, wn, sb'⟩ ⟨eH, hu⟩
          rw [eH]
          clear eH H2
          have hid : i < ds.length := by rw [← hlx]; exact hlt
          have lent : (es0.take i).length = i := by
            rw [List.length_take, mapO_len em]
            omega
          obtain ⟨di, hdi⟩ : ∃ z, ds[i]? = some z := ⟨_, List.getElem?_eq_getElem hid⟩
          obtain ⟨ei, hei⟩ := mapO_get em hdi
          have hget : (es0.take i ++ ds.drop i)[i]? = some di := by
            rw [List.getElem?_append_right (by omega), lent, Nat.sub_self, List.getElem?_drop]
            simpa using hdi
          obtain ⟨u', p1, pk, p2, hu', rfl, tk, up, _⟩ := ti.split2 hget
          rw [hu] at hu'
          cases hu'
          have ni' := ni
          rw [List.nodup_append, List.nodup_append] at ni'
          have hx : x < σ'.length := by rw [ls]; exact hv x (.inl rfl)
          show rdM C b x _ (σ'.set x (some u)) H'
          refine mrun_ok b x (set_get hx) ok.1 ok.2 (fun z hz => by rw [List.length_set, ls]; exact hv z (.inr hz)) tk ni'.2.1.1 sb' (fun p hp => ?_) hei _ fun σ3 H3 pk' l3 s3 t3 n3 f3 w3 => ?_
          · rcases wn p (by simp [hp]) with z | z
            · exact nb p z
            · exact sb.free z
          · have out : ∀ p, p ∈ p1 ∨ p ∈ p2 → p ∉ pk := fun p hp hq => by
              rcases hp with hp | hp
              · exact ni'.2.2 p hp p (by simp [hq]) rfl
              · exact ni'.2.1.2.2 p hq p hp rfl
            have napk : a ∉ pk := fun z => na (by simp [z])
            have newn : ∀ p ∈ pk', p ∉ pk → H' p = none := fun p hp hq => by
              rcases w3 p hp with z | z
              · exact absurd z hq
              · exact z
            have oldx : ∀ p, p ∈ p1 ∨ p ∈ p2 → ∃ o, H' p = some o := fun p hp => ti.ex p (by rcases hp with hp | hp <;> simp [hp])
            have npk' : ∀ p, p ∈ p1 ∨ p ∈ p2 → p ∉ pk' := fun p hp hq => by
              obtain ⟨o, ho⟩ := oldx p hp
              rw [newn p hq (out p hp)] at ho
              cases ho
            refine ⟨p1 ++ (pk' ++ p2), ?_, ?_, ?_, f3 a napk _ ha, by rw [l3, List.length_set, ls], fun k hk => ?_, fun p hp o ho => ?_, fun p hp => ?_, fun p o k => ?_⟩
            · have := up (v' := u) (Same.refl _) (fun p hp o ho => f3 p (out p hp) o ho) t3
              rw [set_same hu] at this
              rw [List.set_append_right _ _ (by omega), lent, Nat.sub_self] at this
              have e1 : (ds.drop i).set 0 ei = ei :: ds.drop (i + 1) := by
                rw [List.drop_eq_getElem_cons hid]
                rfl
              rw [e1] at this
              have e2 : es0.take (i + 1) = es0.take i ++ [ei] := by
                have h1 := mapO_take (i + 1) em
                have h2 := mapO_snoc hei (mapO_take i em)
                have e3 : ds.take (i + 1) = ds.take i ++ [di] := by rw [List.take_succ, hdi]; rfl
                rw [e3, h2] at h1
                exact (Option.some.inj h1).symm
              rw [e2, List.append_assoc]
              exact this
            · rw [List.nodup_append, List.nodup_append]
              refine ⟨ni'.1, ⟨n3, ni'.2.1.2.1, fun z hz w hw e => npk' w (.inr hw) (e ▸ hz)⟩, fun z hz w hw e => ?_⟩
              subst e
              rcases List.mem_append.mp hw with hw | hw
              · exact npk' z (.inl hz) hw
              · exact ni'.2.2 z hz z (by simp [hw]) rfl
            · intro z
              simp only [List.mem_append] at z
              rcases z with z | z | z
              · exact na (by simp [z])
              · rw [newn a z napk] at ha; cases ha
              · exact na (by simp [z])
            · rw [s3 k hk.2, set_ne hk.1, ss k hk]
            · refine f3 p (fun hq => ?_) o (fr p hp o ho)
              rcases wn p (by simp [hq]) with z | z
              · exact hp z
              · rw [ho] at z; cases z
            · simp only [List.mem_append] at hp
              rcases hp with hp | hp | hp
              · exact wn p (by simp [hp])
              · by_cases hq : p ∈ pk
                · exact wn p (by simp [hq])
                · have hn := newn p hp hq
                  by_cases hps : p ∈ a :: qs
                  · exact .inl hps
                  · right
                    cases k : H p with
                    | none => rfl
                    | some o => rw [fr p hps o k] at hn; cases hn
              · exact wn p (by simp [hp])
            · refine f3 p (fun hq => ?_) o (sb' _ _ k)
              rcases wn p (by simp [hq]) with z | z
              · rw [nb p z] at k; cases k
              · rw [sb.free z] at k; cases k
        · rintro σ' H' ⟨qs', ti, ni, na, ha, ls, ss, fr, wn, sb'⟩
          rw [hlx, List.drop_length, List.append_nil, List.take_of_length_le (by rw [mapO_len em]; exact Nat.le_refl _)] at ti
          refine q σ' H' (a :: qs') ls (fun i hi => ss i hi) ?_ (by rw [List.nodup_cons]; exact ⟨na, ni⟩) fr fun p hp => ?_
          · rw [tr_ls]
            exact ⟨a, xs, qs', rfl, ha, rfl, ti⟩
          · rcases List.mem_cons.mp hp with rfl | hp
            · exact .inl (by simp)
            · exact wn p hp
      · cases run
    | _ => simp [M.run] at run
/-- slots that hold nothing may change -/
theorem Stt.other {C : Cf} {B0 H0 B H : Hp} {σ σ' : L2.St} {δ : List Sl} (S : Stt C B0 H0 B H σ δ) (hl : σ'.length = σ.length) (h : ∀ (i : Nat) s, δ[i]? = some s → s ≠ .no → σ'[i]? = σ[i]?) : Stt C B0 H0 B H σ' δ := by
  obtain ⟨φ, T⟩ := S.tre
  refine ⟨S.ex0, S.exb, S.sub, S.new, hl.trans S.len, fun i d g k => ?_, fun i ds g k => ?_, fun i j ds g ds' g' p k1 k2 k3 k4 => ?_, fun i d k => ?_, ⟨φ, fun i d k => ?_, T.nd, fun i d p k hp => ?_, T.dj⟩, fun i j q k => ?_⟩
  · rw [h i _ k Sl.noConfusion]; exact S.shr i d g k
  · rw [h i _ k Sl.noConfusion]; exact S.own i ds g k
  · rw [h i _ k1 Sl.noConfusion] at k3
    rw [h j _ k2 Sl.noConfusion] at k4
    exact S.dis i j _ _ _ _ p k1 k2 k3 k4
  · rw [h i _ k Sl.noConfusion]; exact S.rgn i d k
  · rw [h i _ k Sl.noConfusion]; exact T.tr i d k
  · obtain ⟨a, b, c, w⟩ := T.nw i d p k hp
    exact ⟨a, b, c, fun j ds g hj => by rw [h j _ hj Sl.noConfusion]; exact w j ds g hj⟩
  · obtain ⟨v, e, a⟩ := S.ali i j q k
    refine ⟨v, by rw [h i _ k Sl.noConfusion]; exact e, fun d hd => ?_⟩
    obtain ⟨w, d', ew, n⟩ := a d hd
    exact ⟨w, d', by rw [h j _ hd Sl.noConfusion]; exact ew, n⟩
theorem wipeD_mem {δ : List Sl} : ∀ {vs : List Nat} {i : Nat} {s : Sl}, (wipeD δ vs)[i]? = some s → s ≠ .no → i ∉ vs
  | [], i, s, _, _ => by simp
  | v :: vs, i, s, h, n => by
    unfold wipeD at h
    rcases get_set h with ⟨_, e, _⟩ | ⟨ne, h⟩
    · exact absurd e n
    · rw [List.mem_cons, not_or]
      exact ⟨ne, wipeD_mem h n⟩
theorem wipe_len {σ : L2.St} : ∀ vs : List Nat, (L2.wipe σ vs).length = σ.length
  | [] => rfl
  | v :: vs => by
    unfold L2.wipe
    rw [List.length_set, wipe_len vs]
theorem wipe_get {σ : L2.St} : ∀ {vs : List Nat} {i : Nat}, i ∉ vs → (L2.wipe σ vs)[i]? = σ[i]?
  | [], i, _ => rfl
  | v :: vs, i, h => by
    rw [List.mem_cons, not_or] at h
    unfold L2.wipe
    rw [set_ne h.1, wipe_get h.2]
/-! ### a method that changes its own tree -/
structure Md where
  ar : Nat
  run : D → List D → Option D
def isOb (c : Nat) : D → Bool
  | .ob k _ => k == c
  | _ => false
def spMu (C : Cf) (F : Md) : Sp := fun vs H Q _ => ∃ w us B d ds d' ps, vs = w :: us ∧ Same B H ∧ Tr C B H d w ps ∧ ps.Nodup ∧ (∀ p ∈ ps, B p = none) ∧ Rps C B ds us ∧ ds.length = F.ar ∧ F.run d ds = some d' ∧
  ∀ v H' B' ps', Same B B' → Same B' H' → (∀ p o, B' p = some o → B p = some o ∨ H p = none) → (∀ p, p ∉ ps → ∀ o, H p = some o → H' p = some o) → Tr C B' H' d' w ps' → ps'.Nodup → (∀ p ∈ ps', (p ∈ ps ∨ H p = none) ∧ B' p = none) → Q v H'
section
variable {C : Cf} {B H : Hp}
mutual
theorem Tr.uq : ∀ {d : D} {v : V} {ps qs : List Addr}, Tr C B H d v ps → Tr C B H d v qs → ps = qs
  | .ls ds, v, ps, qs, h, k => by
    rw [tr_ls] at h k
    obtain ⟨a, xs, p1, rfl, h2, rfl, h4⟩ := h
    obtain ⟨a', xs', p2, e, k2, rfl, k4⟩ := k
    cases e
    rw [h2] at k2
    cases k2
    rw [Trs.uq h4 k4]
  | .dc ks ds, v, ps, qs, h, k => by
    rw [tr_dc] at h k
    obtain ⟨a, xs, p1, rfl, h2, hl, rfl, h4⟩ := h
    obtain ⟨a', xs', p2, e, k2, kl, rfl, k4⟩ := k
    cases e
    rw [h2] at k2
    have e2 : xs = xs' := by
      simp only [Option.some.injEq, HO.dK.injEq] at k2
      have := congrArg (List.map Prod.snd) k2
      rwa [List.map_snd_zip (by omega), List.map_snd_zip (by omega)] at this
    subst e2
    rw [Trs.uq h4 k4]
  | .ob c ds, v, ps, qs, h, k => by
    rw [tr_ob] at h k
    obtain ⟨a, dx, xs, p1, rfl, h2, hl, rfl, h4⟩ := h
    obtain ⟨a', dx', xs', p2, e, k2, kl, rfl, k4⟩ := k
    cases e
    rw [h2] at k2
    have e2 : xs = xs' := by
      simp only [Option.some.injEq, HO.ins.injEq] at k2
      have := congrArg (List.map Prod.snd) k2.2.2
      rwa [List.map_snd_zip (by omega), List.map_snd_zip (by omega)] at this
    subst e2
    rw [Trs.uq h4 k4]
  | .tp ds, v, ps, qs, h, k => by
    rw [tr_leaf rfl] at h k
    rw [h.1, k.1]
  | .non, _, _, _, h, k => by
    rw [tr_leaf rfl] at h k
    rw [h.1, k.1]
  | .bl _, _, _, _, h, k => by
    rw [tr_leaf rfl] at h k
    rw [h.1, k.1]
  | .int _, _, _, _, h, k => by
    rw [tr_leaf rfl] at h k
    rw [h.1, k.1]
  | .str _, _, _, _, h, k => by
    rw [tr_leaf rfl] at h k
    rw [h.1, k.1]
theorem Trs.uq : ∀ {ds : List D} {vs : List V} {ps qs : List Addr}, Trs C B H ds vs ps → Trs C B H ds vs qs → ps = qs
  | [], _, _, _, h, k => by
    rw [trs_nil] at h k
    rw [h.2, k.2]
  | d :: ds, vs, ps, qs, h, k => by
    rw [trs_cons] at h k
    obtain ⟨v, r, p1, p2, rfl, rfl, h3, h4⟩ := h
    obtain ⟨v', r', q1, q2, e, rfl, k3, k4⟩ := k
    cases e
    rw [Tr.uq h3 k3, Trs.uq h4 k4]
end
end
/-! ### statements with trees -/
inductive S3 where
  | nil | seq (a r : S3) | pl (s : S) | ite (c : E) (a b : S3) | loop (t : Tg) (it : E) (b : S3) | ret (e : E)
  | ownT (i : Nat) (e : E) | frzT (i : Nat) (r : S3) | ali (i : Nat) (j : Nat) (ss : List Ps) | aliC (i : Nat) (c : E) (j : Nat) (ss : List Ps) (j' : Nat) (ss' : List Ps)
  | tapp (i : Nat) (ss : List Ps) (e : E) | tset (i : Nat) (ss : List Ps) (b e : E) | mutM (i : Nat) (m : M)
  | loopQ (x : Nat) (it c e : E) | par3T (i j l : Nat) (a b c : E) | par3U (i j l : Nat) (a b c : E) | mcall (i : Nat) (nm : Str) (c : Nat) (F : Md) (es : E)
/-- over a list that stands for now: what is asked of each, an early end -/
def runQ (x : Nat) (cf ef : List Sl → Option Rs) : List D → List Sl → Option Rz
  | [], δ => some (.nx δ)
  | d :: r, δ => match cf (δ.set x (.rg d)) with
    | some (.bl false, _, _) => runQ x cf ef r (δ.set x (.rg d))
    | some (.bl true, _, _) => match ef (δ.set x (.rg d)) with
      | some v => some (.rt v)
      | none => none
    | _ => none
def aliTo (i : Nat) (δ : List Sl) : Option (Nat × List Nat × D × D) → Option Rz
  | some (j, q, _, _) => if i ≠ j then some (.nx (δ.set i (.al j q))) else none
  | none => none
def exec3 (Γ : Ga) : S3 → List Sl → Option Rz
  | .nil, δ => some (.nx δ)
  | .seq a r, δ => match exec3 Γ a δ with
    | some (.nx δ1) => exec3 Γ r δ1
    | some (.rt v) => some (.rt v)
    | none => none
  | .pl s, δ => exec Γ s (δ.map noRg)
  | .ite c a b, δ => if isTst c = true then (match eval Γ c δ with
    | some (.bl true, _, _) => exec3 Γ a δ
    | some (.bl false, _, _) => exec3 Γ b δ
    | _ => none) else none
  | .loop t it b, δ => match evalI Γ it δ with
    | some (ds, g) => forRun t g (fun δ => exec3 Γ b δ) ds δ
    | none => none
  | .ret e, δ => match eval Γ e δ with
    | some r => some (.rt r)
    | none => none
  | .ownT i e, δ => match eval Γ e δ with
    | some (d, true, _) => if trOk Γ e d = true then some (.nx ((δ.map (dropAl i)).set i (.tr d))) else none
    | _ => none
  | .frzT i r, δ => match δ[i]? with
    | some (.tr d) => exec3 Γ r (δ.set i (.sh d false))
    | _ => none
  | .ali i j ss, δ => aliTo i δ (nodeOf Γ δ j ss)
  | .aliC i c j ss j' ss', δ => if isTst c = true then (match eval Γ c δ with
    | some (.bl true, _, _) => aliTo i δ (nodeOf Γ δ j ss)
    | some (.bl false, _, _) => aliTo i δ (nodeOf Γ δ j' ss')
    | _ => none) else none
  | .tapp i ss e, δ => match nodeOf Γ δ i ss with
    | some (j, q, d, .ls ds) => match eval Γ e δ with
      | some (x, true, _) => if trOk Γ e x = true ∧ ds.length < 100000 then some (.nx ((δ.map (keepAl j q)).set j (.tr (d.put q (.ls (ds ++ [x])))))) else none
      | _ => none
    | _ => none
  | .tset i ss b e, δ => match eval Γ e δ with
    | some (x, true, _) => if trOk Γ e x = true then (match nodeOf Γ δ i ss with
      | some (j, q, d, .ls ds) => match eval Γ b δ with
        | some (.int k, _, _) => match ixN ds.length k with
          | some m => some (.nx ((δ.map (keepAl j q)).set j (.tr (d.put q (.ls (ds.set m x))))))
          | none => none
        | _ => none
      | _ => none) else none
    | _ => none
  | .mutM i m, δ => match nodeOf Γ δ i [] with
    | some (j, q, d, e) => match m.run e with
      | some e' => if m.okk = true ∧ i ∉ m.vars ∧ j ∉ m.vars ∧ (m.vars.all fun x => decide (x < δ.length)) = true then some (.nx (wipeD ((δ.map (keepAl j q)).set j (.tr (d.put q e'))) m.vars)) else none
      | none => none
    | none => none
  | .loopQ x it c e, δ => if isTst c = true then (match eval Γ it δ with
    | some (.ls ds, _, _) => runQ x (fun δ => eval Γ c δ) (fun δ => eval Γ e δ) ds δ
    | _ => none) else none
  | .par3T i j l a b c, δ => match eval Γ a δ with
    | some r => match slotOf false a r with
      | some s => match eval Γ b δ with
        | some (d, true, _) => if trOk Γ b d = true then (match eval Γ c δ with
          | some r' => match slotOf true c r' with
            | some s' => some (.nx ((((δ.set i s).map (dropAl j)).set j (.tr d)).set l s'))
            | none => none
          | none => none) else none
        | _ => none
      | none => none
    | none => none
  | .par3U i j l a b c, δ => match eval Γ a δ with
    | some (d, true, _) => if trOk Γ a d = true then (match eval Γ b δ with
      | some (d', true, _) => if trOk Γ b d' = true then (match eval Γ c δ with
        | some r => match slotOf true c r with
          | some s => some (.nx (((((δ.map (dropAl i)).set i (.tr d)).map (dropAl j)).set j (.tr d')).set l s))
          | none => none
        | none => none) else none
      | _ => none) else none
    | _ => none
  | .mcall i nm c F es, δ => match δ[i]? with
    | some (.tr d) => match evalA Γ es δ with
      | some (ds, true, _) => if ds.length = F.ar ∧ isOb c d = true ∧ (Γ.cn[c]?.map fun ns => ns.all fun n => n != nm) = some true then (match F.run d ds with
        | some d' => some (.nx ((δ.map (keepAl i [])).set i (.tr d')))
        | none => none) else none
      | _ => none
    | _ => none
def rdS3 (C : Cf) (Γ : Ga) : S3 → TS
  | .nil => tNext
  | .seq a r => tSeq (rdS3 C Γ a) (rdS3 C Γ r)
  | .pl s => rdS C Γ s
  | .ite c a b => tIfS (rdT C Γ c) (rdS3 C Γ a) (rdS3 C Γ b)
  | .loop t it b => tFor (rdI C Γ it) (t.rd C.K) (rdS3 C Γ b)
  | .ret e => tRet (rd C Γ e)
  | .ownT i e => tAsg (rd C Γ e) (gName i)
  | .frzT _ r => rdS3 C Γ r
  | .ali i j ss => tAsg (rdPs C Γ ss (tVar j)) (gName i)
  | .aliC i c j ss j' ss' => tAsg (tIf (rdT C Γ c) (rdPs C Γ ss (tVar j)) (rdPs C Γ ss' (tVar j'))) (gName i)
  | .tapp i ss e => tDrop (tBM C.K "list" rAppend (rdPs C Γ ss (tVar i)) (tCons (rd C Γ e) tNil))
  | .tset i ss b e => tAsg (rd C Γ e) (gSub (rdPs C Γ ss (tVar i)) (rd C Γ b) rSetL)
  | .mutM i m => rdM C m i
  | .loopQ x it c e => tFor (iList C.K (rd C Γ it)) (gName x) (tSeq (tIfS (rdT C Γ c) (tSeq (tRet (rd C Γ e)) tNext) tNext) tNext)
  | .par3T i j l a b c => tPar3 i j l (tCons (rd C Γ a) (tCons (rd C Γ b) (tCons (rd C Γ c) tNil)))
  | .par3U i j l a b c => tPar3 i j l (tCons (rd C Γ a) (tCons (rd C Γ b) (tCons (rd C Γ c) tNil)))
  | .mcall i nm c F es => tDrop (tMeth (C.Cl c).1 nm (spMu C F) [] E0 (tVar i) (rdA C Γ es))
section
variable (C : Cf) (B0 H0 : Hp)
def St3 (ts : TS) (δ : List Sl) (z : Rz) : Prop := ∀ B H σ, Stt C B0 H0 B H σ δ → ∀ Dn : Ends, (∀ δ', z = .nx δ' → ∀ B' H' σ', Same B B' → Stt C B0 H0 B' H' σ' δ' → Dn.nx σ' H') →
  (∀ r, z = .rt r → ∀ v B' H' σ' δ', Same B B' → Stt C B0 H0 B' H' σ' δ' → Rp C (Rg B0 H0 B' H' r.2.1 r.2.2) r.1 v → Dn.rt v H') → ts Dn σ H
end
section
variable {C : Cf} {B0 H0 : Hp} {Γ : Ga} {δ : List Sl}
theorem st3_for {t : Tg} {wi : TI} {tb : TS} {ds : List D} {g : Bool} {ex : List Sl → Option Rz} {z : Rz} (hi : ItOk C B0 H0 wi δ (ds, g)) (h : forRun t g ex ds δ = some z) (hb : ∀ δ1 z1, ex δ1 = some z1 → St3 C B0 H0 tb δ1 z1) : St3 C B0 H0 (tFor wi (t.rd C.K) tb) δ z := by
  intro B H σ S Dn qn qr
  refine hi B H σ S _ fun J B1 H1 G1 S1 wk => ?_
  obtain ⟨Gd, Y, w, wg, wy⟩ := wk
  refine for_it w (fun i σ' H' => ∃ B' δ', Same B1 B' ∧ Stt C B0 H0 B' H' σ' δ' ∧ forRun t g ex (ds.drop i) δ' = some z) ⟨B1, δ, Same.refl _, S1, h⟩ ?_ ?_ ?_
  · rintro i σ' H' _ ⟨B', δ', e, S', _⟩
    exact wg B' H' σ' δ' e S'
  · rintro i x σ' H' H2 hlt ⟨B', δ', e, S', run⟩ y
    obtain ⟨d, B2, ed, G2, S2, rx⟩ := wy i H' x H2 B' σ' δ' hlt e S' y
    have edr : ds.drop i = d :: ds.drop (i + 1) := by
      have hlt' : i < ds.length := hlt
      rw [List.getElem?_eq_getElem hlt'] at ed
      rw [List.drop_eq_getElem_cons hlt']
      cases ed
      rfl
    rw [edr] at run
    simp only [forRun] at run
    split at run
    · cases run
    · rename_i δ1 e1
      refine Tg.ok g t d S2 rx e1 fun σ2 S3 _ => ?_
      split at run
      · rename_i δ2 e2
        refine hb δ1 _ e2 B2 H2 σ2 S3 _ (fun δ3 hz B3 H3 σ3 e3 S4 => ?_) (fun r hz => by cases hz)
        cases hz
        exact ⟨B3, δ2, (e.trans G2.eb).trans e3, S4, run⟩
      · rename_i v e2
        refine hb δ1 _ e2 B2 H2 σ2 S3 _ (fun δ3 hz => by cases hz) (fun r hz v' B3 H3 σ3 δ3 e3 S4 rv => ?_)
        cases hz
        cases run
        exact qr _ rfl v' B3 H3 σ3 δ3 (G1.eb.trans ((e.trans G2.eb).trans e3)) S4 rv
      · cases run
  · rintro σ' H' ⟨B', δ', e, S', run⟩
    rw [show ds.drop ds.length = [] from List.drop_length] at run
    simp only [forRun, Option.some.injEq] at run
    exact qn δ' run.symm B' H' σ' (G1.eb.trans e) S'
theorem ali_ok (hk : KsOk C Γ) {i j : Nat} {ss : List Ps} {z : Rz} (h : aliTo i δ (nodeOf Γ δ j ss) = some z) {B H : Hp} {σ : L2.St} (S : Stt C B0 H0 B H σ δ) {Q : VK} (qn : ∀ v B' H', Same B B' → (∃ δ', z = .nx δ' ∧ Stt C B0 H0 B' H' (σ.set i (some v)) δ') → Q v H') : rdPs C Γ ss (tVar j) σ H Q := by
  cases e : nodeOf Γ δ j ss with
  | none => rw [e] at h; simp [aliTo] at h
  | some x =>
    obtain ⟨j', q, d, y⟩ := x
    rw [e] at h
    simp only [aliTo] at h
    split at h
    · rename_i ne
      cases h
      obtain ⟨hj, hs, hp⟩ := node_ok (C := C) (B0 := B0) (H0 := H0) hk e
      refine hp B H σ S _ fun v w e' B' H' G S' ew n => qn v B' H' G.eb ⟨_, rfl, S'.setAl ne fun d2 hd => ?_⟩
      rw [hj] at hd
      cases hd
      exact ⟨w, e', ew, n⟩
    · cases h
/-- new cells are in no tree, in no owned list -/
theorem Stt.newc {B H H1 B2 H2 : Hp} {σ : L2.St} {φ : Nat → List Addr} (S : Stt C B0 H0 B H σ δ) (T : TrOk C H0 B H σ δ φ) (S2 : Stt C B0 H0 B2 H2 σ δ) {ps : List Addr} (h1 : Same H H1) (w : ∀ p ∈ ps, H1 p = none ∧ B2 p = none) :
    ∀ p ∈ ps, H0 p = none ∧ B2 p = none ∧ (∀ (k : Nat) ds g, δ[k]? = some (.ow ds g) → σ[k]? ≠ some (some (.ref p))) ∧ ∀ (k : Nat) d, δ[k]? = some (.tr d) → p ∉ φ k := fun p hp => by
  have hn : H p = none := h1.free (w p hp).1
  refine ⟨S.ex0.free hn, (w p hp).2, fun k ds g hk => S.noat hn k ds g hk, fun k d hk hq => ?_⟩
  obtain ⟨_, _, ⟨o, ho⟩, _⟩ := T.nw k d p hk hq
  rw [hn] at ho
  cases ho
theorem exec3_ok (hk : KsOk C Γ) : ∀ (c : S3) (δ : List Sl) (z : Rz), exec3 Γ c δ = some z → St3 C B0 H0 (rdS3 C Γ c) δ z := by
  have ev := fun c => (eval_all (B0 := B0) (H0 := H0) hk c)
  intro c
  induction c with
  | nil =>
    intro δ z h B H σ S Dn qn qr
    simp only [exec3] at h
    cases h
    simp only [rdS3]
    exact qn δ rfl B H σ (Same.refl _) S
  | seq a r iha ihr =>
    intro δ z h B H σ S Dn qn qr
    simp only [exec3] at h
    simp only [rdS3]
    split at h
    · rename_i δ1 e1
      refine iha δ _ e1 B H σ S _ (fun δ' hz B' H' σ' e S' => ?_) (fun r hz => by cases hz)
      cases hz
      exact ihr δ1 z h B' H' σ' S' Dn (fun δ2 hz B2 H2 σ2 e2 S2 => qn δ2 hz B2 H2 σ2 (e.trans e2) S2) (fun r hz v B2 H2 σ2 δ2 e2 S2 rv => qr r hz v B2 H2 σ2 δ2 (e.trans e2) S2 rv)
    · rename_i v e1
      cases h
      exact iha δ _ e1 B H σ S _ (fun δ' hz => by cases hz) (fun r hz v B' H' σ' δ' e S' rv => qr r hz v B' H' σ' δ' e S' rv)
    · cases h
  | pl s =>
    intro δ z h B H σ S Dn qn qr
    simp only [exec3] at h
    simp only [rdS3]
    exact exec_ok hk s _ z h B H σ S.dropRg (noRg_map δ) Dn (fun δ2 hz B2 H2 σ2 e2 S2 _ => qn δ2 hz B2 H2 σ2 e2 S2) (fun r hz v B2 H2 σ2 δ2 e2 S2 rv _ => qr r hz v B2 H2 σ2 δ2 e2 S2 rv)
  | ite c a b iha ihb =>
    intro δ z h B H σ S Dn qn qr
    simp only [exec3] at h
    simp only [rdS3]
    split at h
    · rename_i t
      split at h
      · rename_i f1 g1 e1
        refine (ev c).2.2.2.2 δ _ _ _ t e1 B H σ S _ fun B' H' G S' => ?_
        rw [if_pos rfl]
        exact iha δ z h B' H' σ S' Dn (fun δ2 hz B2 H2 σ2 e2 S2 => qn δ2 hz B2 H2 σ2 (G.eb.trans e2) S2) (fun r hz v B2 H2 σ2 δ2 e2 S2 rv => qr r hz v B2 H2 σ2 δ2 (G.eb.trans e2) S2 rv)
      · rename_i f1 g1 e1
        refine (ev c).2.2.2.2 δ _ _ _ t e1 B H σ S _ fun B' H' G S' => ?_
        rw [if_neg Bool.false_ne_true]
        exact ihb δ z h B' H' σ S' Dn (fun δ2 hz B2 H2 σ2 e2 S2 => qn δ2 hz B2 H2 σ2 (G.eb.trans e2) S2) (fun r hz v B2 H2 σ2 δ2 e2 S2 rv => qr r hz v B2 H2 σ2 δ2 (G.eb.trans e2) S2 rv)
      · cases h
    · cases h
  | loop t it b ihb =>
    intro δ z h
    simp only [exec3] at h
    simp only [rdS3]
    split at h
    · rename_i ds g e1
      exact st3_for ((ev it).2.2.2.1 δ _ e1) h fun δ1 z1 h1 => ihb δ1 z1 h1
    · cases h
  | ret e =>
    intro δ z h B H σ S Dn qn qr
    simp only [exec3] at h
    simp only [rdS3]
    split at h
    · rename_i r e1
      cases h
      exact (ev e).1 δ _ e1 B H σ S _ fun v B' H' G S' rv => qr r rfl v B' H' σ δ G.eb S' rv
    · cases h
  | loopQ x it c e =>
    intro δ z h B H σ S Dn qn qr
    simp only [exec3] at h
    simp only [rdS3]
    split at h
    · rename_i tc
      split at h
      · rename_i ds f g e1
        refine (ev it).1 δ _ e1 B H σ S _ fun v B1 H1 G1 S1 r1 => ?_
        rw [rp_ls] at r1
        obtain ⟨a, vs, rfl, h1, k1⟩ := r1
        have hh := S1.toH _ _ _ _ h1
        have k2 : Rps C (Rsd B0 H0 H1) ds vs := k1.mono (S1.weak f g false false (fun h => by cases h) (fun h => by cases h))
        have hl : vs.length = ds.length := k2.len
        refine ⟨a, rfl, ⟨vs, SqL.of hh⟩, ?_⟩
        refine for_it (walk_list (a := a) (xs := vs)) (fun i σ' H' => ∃ B' δ', Same B1 B' ∧ Same H1 H' ∧ Stt C B0 H0 B' H' σ' δ' ∧ runQ x (fun δ => eval Γ c δ) (fun δ => eval Γ e δ) (ds.drop i) δ' = some z) ⟨B1, δ, Same.refl _, Same.refl _, S1, h⟩ ?_ ?_ ?_
        · rintro i σ' H' _ ⟨B', δ', eb, eh, S', _⟩
          exact SqL.of (eh _ _ hh)
        · rintro i y σ' H' H2 hlt ⟨B', δ', eb, eh, S', run⟩ ⟨rfl, yy⟩
          obtain ⟨d, hd, rd'⟩ := k2.back yy
          have edr : ds.drop i = d :: ds.drop (i + 1) := by
            have hlt' : i < ds.length := by omega
            rw [List.getElem?_eq_getElem hlt'] at hd
            rw [List.drop_eq_getElem_cons hlt']
            cases hd
            rfl
          rw [edr] at run
          simp only [runQ] at run
          have S2 := S'.setRg (j := x) (rd'.mono (rsd_mono eh))
          split at run
          · rename_i f1 g1 e2
            refine (ev c).2.2.2.2 _ _ _ _ tc e2 B' H2 _ S2 _ fun B3 H3 G3 S3 => ?_
            rw [if_neg Bool.false_ne_true]
            exact ⟨B3, _, eb.trans G3.eb, eh.trans G3.eh, S3, run⟩
          · rename_i f1 g1 e2
            split at run
            · rename_i r e3
              cases run
              refine (ev c).2.2.2.2 _ _ _ _ tc e2 B' H2 _ S2 _ fun B3 H3 G3 S3 => ?_
              rw [if_pos rfl]
              refine (ev e).1 _ _ e3 B3 H3 _ S3 _ fun v B4 H4 G4 S4 rv => ?_
              exact qr r rfl v B4 H4 _ _ (G1.eb.trans (eb.trans (G3.eb.trans G4.eb))) S4 rv
            · cases run
          · cases run
        · rintro σ' H' ⟨B', δ', eb, eh, S', run⟩
          rw [hl, show ds.drop ds.length = [] from List.drop_length] at run
          simp only [runQ, Option.some.injEq] at run
          exact qn δ' run.symm B' H' σ' (G1.eb.trans eb) S'
      · cases h
    · cases h
  | par3T i j l a b c =>
    intro δ z h B H σ S Dn qn qr
    simp only [exec3] at h
    simp only [rdS3]
    split at h
    · rename_i r e1
      split at h
      · rename_i s e2
        split at h
        · rename_i d g e3
          split at h
          · rename_i ht
            split at h
            · rename_i r' e4
              split at h
              · rename_i s' e5
                cases h
                refine slot_ok hk e1 e2 S fun v B' H' G S' r => ?_
                refine (eval_tree hk b).1 δ d g e3 ht B' H' σ S' _ fun u ps B2 H2 G2 S2 t n w => ?_
                refine slot_ok hk e4 e5 S2 fun y B3 H3 G3 S3 r3 => ?_
                refine ⟨v, u, y, rfl, ?_⟩
                have T0 := S.setSl (j := i) G S' r
                have T1 := T0.by G2 S2
                obtain ⟨φ, T⟩ := T0.tre
                have T2 := T1.setTr (i := j) (T.grow G2.eb G2.eh G2.nw) t n (T0.newc T T1 (Same.refl _) w)
                exact qn _ rfl B3 H3 _ (G.trans (G2.trans G3)).eb (T2.setSl G3 (T2.by G3 S3) r3)
              · cases h
            · cases h
          · cases h
        · cases h
      · cases h
    · cases h
  | par3U i j l a b c =>
    intro δ z h B H σ S Dn qn qr
    simp only [exec3] at h
    simp only [rdS3]
    split at h
    · rename_i d g e1
      split at h
      · rename_i ht
        split at h
        · rename_i d2 g2 e3
          split at h
          · rename_i ht2
            split at h
            · rename_i r' e4
              split at h
              · rename_i s' e5
                cases h
                refine (eval_tree hk a).1 δ d g e1 ht B H σ S _ fun v ps B' H' G S' t n w => ?_
                refine (eval_tree hk b).1 δ d2 g2 e3 ht2 B' H' σ S' _ fun u qs B2 H2 G2 S2 t2 n2 w2 => ?_
                refine slot_ok hk e4 e5 S2 fun y B3 H3 G3 S3 r3 => ?_
                refine ⟨v, u, y, rfl, ?_⟩
                obtain ⟨φ, T⟩ := S.tre
                have T0 := S'.setTr (i := i) (T.grow G.eb G.eh G.nw) t n (S.newc T S' (Same.refl _) w)
                have T1 := T0.by G2 S2
                obtain ⟨φ2, T'⟩ := T0.tre
                have T2 := T1.setTr (i := j) (T'.grow G2.eb G2.eh G2.nw) t2 n2 (T0.newc T' T1 (Same.refl _) w2)
                exact qn _ rfl B3 H3 _ (G.trans (G2.trans G3)).eb (T2.setSl G3 (T2.by G3 S3) r3)
              · cases h
            · cases h
          · cases h
        · cases h
      · cases h
    · cases h
  | mcall i nm c F es =>
    intro δ z h B H σ S Dn qn qr
    simp only [exec3] at h
    simp only [rdS3]
    split at h
    · rename_i d hj
      split at h
      · rename_i ds g e1
        split at h
        · rename_i hc
          obtain ⟨hl, ho, hn⟩ := hc
          split at h
          · rename_i d' e2
            cases h
            obtain ⟨φ, T⟩ := S.tre
            obtain ⟨w, ew, tw⟩ := T.tr i d hj
            cases d with
            | ob c' fs =>
              have ec : c' = c := by simpa [isOb] using ho
              subst ec
              have tw' := tw
              rw [tr_ob] at tw'
              obtain ⟨a, dx, xs, qs0, rfl, h2, hlx, _, _⟩ := tw'
              have hno : ((C.Cl c').2.zip xs).lookup nm = none := by
                cases z : Γ.cn[c']? with
                | none => rw [z] at hn; exact absurd hn (by simp)
                | some ns =>
                  rw [z] at hn
                  rw [(hk.cn c' ns z).1]
                  exact lookup_none (by simpa using hn)
              refine ⟨.ref a, ew, a, dx, _, rfl, h2, hno, ?_⟩
              refine (ev es).2.1 δ _ e1 B H σ S _ fun vs B2 H2 G2 S2 r2 => ?_
              rw [List.append_nil]
              have T2 := T.grow G2.eb G2.eh G2.nw
              obtain ⟨w2, ew2, t2⟩ := T2.tr i _ hj
              rw [ew] at ew2
              cases ew2
              have nb : ∀ p ∈ φ i, B2 p = none := fun p hp => (T2.nw i _ p hj hp).2.1
              have hx : ∀ p ∈ φ i, ∃ o, H2 p = some o := fun p hp => (T2.nw i _ p hj hp).2.2.1
              refine ⟨.ref a, vs, B2, .ob c' fs, ds, d', φ i, rfl, S2.sub, t2, T2.nd i _ hj, nb, r2.mono (S2.weak true g true false id (fun h => by cases h)), hl, e2, fun v H' B' ps' eb sb nw fr t' n' w' => ?_⟩
              have nb' : ∀ p ∈ φ i, B' p = none := fun p hp => by
                cases z : B' p with
                | none => rfl
                | some o =>
                  rcases nw p o z with k | k
                  · rw [nb p hp] at k; cases k
                  · obtain ⟨o', ho'⟩ := hx p hp
                    rw [ho'] at k; cases k
              let Hm : Hp := fun p => if p ∈ φ i then H2 p else H' p
              have e3 : Same H2 Hm := fun p o k => by
                show (if p ∈ φ i then H2 p else H' p) = some o
                split
                · exact k
                · rename_i np
                  exact fr p np o k
              have S3 : Stt C B0 H0 B' Hm σ δ := S2.grow eb e3 (fun p o k => by
                show (if p ∈ φ i then H2 p else H' p) = some o
                split
                · rename_i hp
                  rw [nb' p hp] at k; cases k
                · exact sb _ _ k) nw
              have T3 : TrOk C H0 B' Hm σ δ φ := T2.grow eb e3 nw
              obtain ⟨w3, v3, qs, ew3, n3, t3, nd3, in3, up⟩ := S3.mutTr T3 hj (q := []) (e := .ob c' fs) (by simp [D.sub])
              simp only [Nav] at n3
              obtain ⟨_, rfl⟩ := n3
              rw [ew] at ew3
              cases ew3
              obtain ⟨w4, ew4, t4⟩ := T3.tr i _ hj
              rw [ew] at ew4
              cases ew4
              have eq := t3.uq t4
              subst eq
              have S4 := up (H' := H') (e' := d') (qs' := ps') (fun p hp o k => by
                have k : (if p ∈ φ i then H2 p else H' p) = some o := k
                rw [if_neg hp] at k
                exact k) t' n' (fun p hp => by
                rcases (w' p hp).1 with z | z
                · exact .inl z
                · refine .inr ⟨S2.ex0.free z, (w' p hp).2, fun k ds g hk => S2.noat z k ds g hk, fun k d2 hk hq => ?_⟩
                  obtain ⟨_, _, ⟨o, ho⟩, _⟩ := T2.nw k d2 p hk hq
                  rw [z] at ho
                  cases ho)
              have ep : (D.ob c' fs).put [] d' = d' := by simp [D.put]
              rw [ep] at S4
              exact qn _ rfl B' H' σ (G2.eb.trans eb) S4
            | _ => simp [isOb] at ho
          · cases h
        · cases h
      · cases h
    · cases h
  | ownT i e =>
    intro δ z h B H σ S Dn qn qr
    simp only [exec3] at h
    simp only [rdS3]
    split at h
    · rename_i d g e1
      split at h
      · rename_i ht
        cases h
        refine (eval_tree hk e).1 δ d g e1 ht B H σ S _ fun v ps B' H' G S' t n w => ?_
        obtain ⟨φ, T⟩ := S.tre
        exact qn _ rfl B' H' _ G.eb (S'.setTr (T.grow G.eb G.eh G.nw) t n (S.newc T S' (Same.refl _) w))
      · cases h
    · cases h
  | frzT i r ihr =>
    intro δ z h B H σ S Dn qn qr
    simp only [exec3] at h
    simp only [rdS3]
    split at h
    · rename_i d e0
      obtain ⟨B', eb, S'⟩ := S.frzTr e0
      exact ihr _ z h B' H σ S' Dn (fun δ2 hz B2 H2 σ2 e2 S2 => qn δ2 hz B2 H2 σ2 (eb.trans e2) S2) (fun r hz v B2 H2 σ2 δ2 e2 S2 rv => qr r hz v B2 H2 σ2 δ2 (eb.trans e2) S2 rv)
    · cases h
  | ali i j ss =>
    intro δ z h B H σ S Dn qn qr
    simp only [exec3] at h
    simp only [rdS3]
    exact ali_ok hk h S fun v B' H' e ⟨δ', hz, S'⟩ => qn δ' hz B' H' _ e S'
  | aliC i c j ss j' ss' =>
    intro δ z h B H σ S Dn qn qr
    simp only [exec3] at h
    simp only [rdS3]
    split at h
    · rename_i t
      split at h
      · rename_i f1 g1 e1
        refine (ev c).2.2.2.2 δ _ _ _ t e1 B H σ S _ fun B' H' G S' => ?_
        rw [if_pos rfl]
        exact ali_ok hk h S' fun v B2 H2 e ⟨δ', hz, S2⟩ => qn δ' hz B2 H2 _ (G.eb.trans e) S2
      · rename_i f1 g1 e1
        refine (ev c).2.2.2.2 δ _ _ _ t e1 B H σ S _ fun B' H' G S' => ?_
        rw [if_neg Bool.false_ne_true]
        exact ali_ok hk h S' fun v B2 H2 e ⟨δ', hz, S2⟩ => qn δ' hz B2 H2 _ (G.eb.trans e) S2
      · cases h
    · cases h
  | tapp i ss e =>
    intro δ z h B H σ S Dn qn qr
    simp only [exec3] at h
    simp only [rdS3]
    split at h
    · rename_i j q d ds e1
      split at h
      · rename_i x g e2
        split at h
        · rename_i ht
          cases h
          obtain ⟨hj, hs, hp⟩ := node_ok (C := C) (B0 := B0) (H0 := H0) hk e1
          refine hp B H σ S _ fun v w y B1 H1 G1 S1 ew n => ?_
          obtain ⟨φ, T⟩ := S.tre
          have T1 := T.grow G1.eb G1.eh G1.nw
          obtain ⟨w1, v1, qs1, ew1, n1, t1, nd1, in1, _⟩ := S1.mutTr T1 hj hs
          rw [ew] at ew1
          cases ew1
          obtain ⟨rfl, rfl⟩ := n.fn n1
          rw [tr_ls] at t1
          obtain ⟨a, xs, qs, rfl, h2, rfl, t4⟩ := t1
          refine ⟨.inl ⟨rfl, _, SqL.of h2⟩, ?_⟩
          refine (eval_tree hk e).1 δ x g e2 ht.1 B1 H1 σ S1 _ fun u pu B2 H2 G2 S2 tu nu wu => ?_
          have T2 := T1.grow G2.eb G2.eh G2.nw
          obtain ⟨w2, v2, qs2, ew2, n2, t2, nd2, in2, up⟩ := S2.mutTr T2 hj hs
          rw [ew] at ew2
          cases ew2
          obtain ⟨_, rfl⟩ := (n.mono G2.eh).fn n2
          rw [tr_ls] at t2
          obtain ⟨a', xs', qs', ea, h2', rfl, t4'⟩ := t2
          cases ea
          rw [G2.eh _ _ h2] at h2'
          cases h2'
          have nw := S1.newc T1 S2 (Same.refl _) wu
          have ua : ∀ p ∈ pu, p ≠ a := fun p hp z => by
            have := (wu p hp).1
            rw [z, h2] at this
            cases this
          have nda := nd2
          rw [List.nodup_cons] at nda
          refine ⟨a, xs, u, rfl, rfl, G2.eh _ _ h2, Nat.lt_of_lt_of_le (show xs.length < 100000 by rw [t4.len]; exact ht.2) (by decide), ?_⟩
          refine qn _ rfl B2 _ σ (G1.trans G2).eb (up (H' := upd H2 a (.lst (xs ++ [u]))) (e' := .ls (ds ++ [x])) (qs' := a :: (qs' ++ pu)) (fun p hp o ho => ?_) ?_ ?_ fun p hp => ?_)
          · rw [upd_ne (fun z => hp (by simp [z]))]
            exact ho
          · rw [tr_ls]
            refine ⟨a, xs ++ [u], qs' ++ pu, rfl, upd_same, rfl, Trs.app (t4'.keep (Same.refl _) fun p hp o ho => ?_) (.one (tu.keep (Same.refl _) fun p hp o ho => ?_))⟩
            · rw [upd_ne (ne_mem nda.1 hp)]
              exact ho
            · rw [upd_ne (ua p hp)]
              exact ho
          · rw [List.nodup_cons]
            refine ⟨fun z => ?_, nd_app nda.2 nu fun p hp hq => ?_⟩
            · rcases List.mem_append.mp z with z | z
              · exact nda.1 z
              · exact ua a z rfl
            · exact (nw p hq).2.2.2 j d hj (in2 p (by simp [hp]))
          · rcases List.mem_cons.mp hp with rfl | hp
            · exact .inl (by simp)
            · rcases List.mem_append.mp hp with hp | hp
              · exact .inl (by simp [hp])
              · exact .inr (nw p hp)
        · cases h
      · cases h
    · cases h
  | tset i ss b e =>
    intro δ z h B H σ S Dn qn qr
    simp only [exec3] at h
    simp only [rdS3]
    split at h
    · rename_i x g e2
      split at h
      · rename_i ht
        split at h
        · rename_i j q d ds e1
          split at h
          · rename_i k f3 g3 e3
            split at h
            · rename_i m e4
              cases h
              obtain ⟨hj, hs, hp⟩ := node_ok (C := C) (B0 := B0) (H0 := H0) hk e1
              refine (eval_tree hk e).1 δ x g e2 ht B H σ S _ fun u pu B1 H1 G1 S1 tu nu wu => ?_
              refine hp B1 H1 σ S1 _ fun v w y B2 H2 G2 S2 ew n => ?_
              refine (ev b).1 δ _ e3 B2 H2 σ S2 _ fun z B3 H3 G3 S3 rz => ?_
              rw [rp_int] at rz
              subst rz
              obtain ⟨φ, T⟩ := S.tre
              have G23 := G2.trans G3
              have G13 := G1.trans G23
              have T3 := T.grow G13.eb G13.eh G13.nw
              obtain ⟨w2, v2, qs2, ew2, n2, t2, nd2, in2, up⟩ := S3.mutTr T3 hj hs
              rw [ew] at ew2
              cases ew2
              obtain ⟨_, rfl⟩ := (n.mono G3.eh).fn n2
              rw [tr_ls] at t2
              obtain ⟨a, xs, qs, rfl, h2, rfl, t4⟩ := t2
              have wu3 : ∀ p ∈ pu, H p = none ∧ B3 p = none := fun p hp => ⟨(wu p hp).1, G23.keepN (wu p hp).2 (tu.ex p hp)⟩
              have nw := S.newc T S3 (Same.refl _) wu3
              have ua : ∀ p ∈ pu, p ≠ a := fun p hp z => (nw p hp).2.2.2 j d hj (z ▸ in2 a (by simp))
              have nda := nd2
              rw [List.nodup_cons] at nda
              obtain ⟨y, hy⟩ : ∃ y, ds[m]? = some y := ⟨_, List.getElem?_eq_getElem (ixN_lt e4)⟩
              obtain ⟨v', p1, pk, p2, ek, rfl, tk, upk⟩ := t4.split hy
              have n4 := nda.2
              rw [List.nodup_append, List.nodup_append] at n4
              refine ⟨a, xs, k, m, rfl, rfl, h2, by rw [t4.len]; exact e4, ?_⟩
              refine qn _ rfl B3 _ σ G13.eb (up (H' := upd H3 a (.lst (xs.set m u))) (e' := .ls (ds.set m x)) (qs' := a :: (p1 ++ (pu ++ p2))) (fun p hp o ho => ?_) ?_ ?_ fun p hp => ?_)
              · rw [upd_ne (fun z => hp (by simp [z]))]
                exact ho
              · rw [tr_ls]
                refine ⟨a, xs.set m u, _, rfl, upd_same, rfl, upk (Same.refl _) (fun p hp o ho => ?_) (tu.keep G23.eb fun p hp o ho => ?_)⟩
                · rw [upd_ne (fun z => nda.1 (by rcases hp with hp | hp <;> simp [← z, hp]))]
                  exact ho
                · rw [upd_ne (ua p hp)]
                  exact G23.eh _ _ ho
              · rw [List.nodup_cons]
                refine ⟨fun z => ?_, ?_⟩
                · simp only [List.mem_append] at z
                  rcases z with z | z | z
                  · exact nda.1 (by simp [z])
                  · exact ua a z rfl
                  · exact nda.1 (by simp [z])
                · have nj : ∀ p ∈ pu, p ∉ p1 ∧ p ∉ p2 := fun p hp => ⟨fun z => (nw p hp).2.2.2 j d hj (in2 p (by simp [z])), fun z => (nw p hp).2.2.2 j d hj (in2 p (by simp [z]))⟩
                  rw [List.nodup_append, List.nodup_append]
                  refine ⟨n4.1, ⟨nu, n4.2.1.2.1, fun x hx y hy e => (nj x hx).2 (e ▸ hy)⟩, fun x hx y hy e => ?_⟩
                  subst e
                  rcases List.mem_append.mp hy with hy | hy
                  · exact (nj x hy).1 hx
                  · exact n4.2.2 x hx x (by simp [hy]) rfl
              · rcases List.mem_cons.mp hp with rfl | hp
                · exact .inl (by simp)
                · simp only [List.mem_append] at hp
                  rcases hp with hp | hp | hp
                  · exact .inl (by simp [hp])
                  · exact .inr (nw p hp)
                  · exact .inl (by simp [hp])
            · cases h
          · cases h
        · cases h
      · cases h
    · cases h
  | mutM i m =>
    intro δ z h B H σ S Dn qn qr
    simp only [exec3] at h
    simp only [rdS3]
    split at h
    · rename_i j q d e e1
      split at h
      · rename_i e' e2
        split at h
        · rename_i hc
          cases h
          obtain ⟨hk1, hk2, hk3, hk4⟩ := hc
          obtain ⟨hj, hs, hp⟩ := node_ok (C := C) (B0 := B0) (H0 := H0) hk e1
          obtain ⟨φ, T⟩ := S.tre
          obtain ⟨w, v, qs, ew, n, t, nd, inj, up⟩ := S.mutTr T hj hs
          -- the slot's value
          have hv : σ[i]? = some (some v) := by
            obtain ⟨w2, ew2, k2⟩ : ∃ v', σ[i]? = some (some v') ∧ v' = v := by
              have := hp B H σ S (fun v' H' => H' = H → σ[i]? = some (some v') → v' = v) (fun v' w' e'' B' H' G S' ew' n' => fun eH _ => by
                subst eH
                rw [ew] at ew'
                cases ew'
                exact (n'.fn n).2)
              obtain ⟨v', hv', hq⟩ := this
              exact ⟨v', hv', hq rfl hv'⟩
            subst k2
            exact ew2
          refine mrun_ok m i hv hk2 hk1 (fun x hx => ?_) t nd S.sub (fun p hp => (T.nw j d p hj (inj p hp)).2.1) e2 Dn fun σ' H' ps' l' s' t' n' f' w' => ?_
          · have := List.all_eq_true.mp hk4 x hx
            rw [S.len]
            simpa using this
          · have S1 := up f' t' n' fun p hp => by
              rcases w' p hp with z | z
              · exact .inl z
              · refine .inr ⟨S.ex0.free z, S.sub.free z, fun k ds g hk => S.noat z k ds g hk, fun k d2 hk hq => ?_⟩
                obtain ⟨_, _, ⟨o, ho⟩, _⟩ := T.nw k d2 p hk hq
                rw [z] at ho
                cases ho
            have S2 := S1.wipe m.vars
            refine qn _ rfl B H' σ' (Same.refl _) (S2.other (by rw [wipe_len]; exact l') fun k s hk ns => ?_)
            have nm := wipeD_mem hk ns
            rw [wipe_get nm]
            exact s' k nm
        · cases h
      · cases h
    · cases h
end
/-! ### defs and the law by statements with trees -/
def mkFd3 (Γ : Ga) (ar n : Nat) (fr : Bool) (c : S3) : Fd := ⟨ar, fr, false, fun ds => endOf fr (exec3 Γ c (st0 n ds))⟩
section
open PySem.Spec PyProof.Rows
variable {P : Program} {w : World} {K : PySem.W.Frag} {mg : Str → Option Value} {base : Heap}
theorem fn3_c {Cl : Nat → Addr × List Str} {kv : Nat → V} {x qual : Str} {st : Stmt} {f : Addr} {fd : FuncData} {N ps : List Str} {k : Nat} {Γ : Ga} {fr : Bool} {c : S3} (F : Fun K x qual st f fd) (sc : FnScope N ps (defScope st)) (hk : KsOk ⟨K, Cl, w, kv⟩ Γ)
    (body : ∀ (cdv : Value) (A : Around) (outer : List Env) (s : Shared) (H : Hp) (E : XK), Room k (A.deeper (envOfC qual (defScope st) s.heap.objs.size f cdv)) →
      PSs (cxOf CX0 P w K mg base N qual (defScope st) f cdv A outer s H E).nox (defBody st) (rdS3 ⟨K, Cl, w, kv⟩ Γ c)) : FnOk P w K mg base CX0 (k + 1) f fd ps (spOf ⟨K, Cl, w, kv⟩ (mkFd3 Γ ps.length N.length fr c)) := by
  refine F.ok sc (fun vs H Q E h => ?_) (fun cdv A outer s H vs Q E hr h => ?_)
  · obtain ⟨B, ds, d, e, r, hl, _⟩ := h
    exact r.len.trans hl
  · obtain ⟨B, ds, d, e, r, hl, run, q⟩ := h
    refine ⟨_, body cdv A outer s H E hr, ?_⟩
    have S := stt_start (N := N) e r
    have run : endOf fr (exec3 Γ c (st0 N.length ds)) = some d := run
    cases ex : exec3 Γ c (st0 N.length ds) with
    | none => rw [ex] at run; cases run
    | some z =>
      rw [ex] at run
      refine exec3_ok hk c _ z ex B H _ S _ (fun δ' hz B' H' σ' eb S' => ?_) (fun rr hz v B' H' σ' δ' eb S' rv => ?_)
      · subst hz
        simp only [endOf, Option.some.injEq] at run
        subst run
        exact q _ H' S'.ex0 (by rw [rp_non]) (fun h => by cases h)
      · subst hz
        obtain ⟨d', f', g'⟩ := rr
        simp only [endOf] at run
        have q : ∀ v H', Same H H' → Rp ⟨K, Cl, w, kv⟩ (Rsd (if fr = true then Emp else B) H H') d v → (false = true → d.tflat = true → TreeAt ⟨K, Cl, w, kv⟩ H H' d v) → Q v H' := q
        refine fn_end S' rv run fun v' H2 e2 r2 => q v' H2 e2 r2 (fun h => by cases h)
theorem law3_c {Cl : Nat → Addr × List Str} {kv : Nat → V} {st : Stmt} {f : Addr} {fd : FuncData} {N : List Str} {x : Str} {k : Nat} {Γ : Ga} {c : S3} (F : Fun K "law" "law" st f fd) (sc : FnScope N [x] (defScope st)) (hk : KsOk ⟨K, Cl, w, kv⟩ Γ)
    (body : ∀ (cdv : Value) (A : Around) (outer : List Env) (s : Shared) (H : Hp) (E : XK), Room k (A.deeper (envOfC "law" (defScope st) s.heap.objs.size f cdv)) →
      PSs (cxOf CX0 P w K mg base N "law" (defScope st) f cdv A outer s H E).nox (defBody st) (tSeq (tAsg (tSl (rSlL K) (tVar 0) tNoPart (tPart (tC (.int 63)))) (gName 0)) (rdS3 ⟨K, Cl, w, kv⟩ Γ c)))
    (run : ∀ ns : List Int, ns.length ≤ 63 → (∀ z ∈ ns, Builtin.Int.intBits z ≤ 1048576) → ∃ f g, exec3 Γ c (st0 N.length [.ls (ns.map D.int)]) = some (.rt (.bl true, f, g))) : FnOk P w K mg base CX0 (k + 1) f fd [x] (spLaw K) := by
  refine F.ok sc (fun vs H Q E h => ?_) (fun cdv A outer s H vs Q E hr h => ?_)
  · obtain ⟨a, ns, rfl, _⟩ := h
    rfl
  · obtain ⟨a, ns, rfl, hS, hl, hb, q⟩ := h
    refine ⟨_, body cdv A outer s H E hr, ?_⟩
    have hN : 0 < N.length := by
      have := congrArg List.length sc.pre
      simp only [List.length_take, List.length_singleton] at this
      omega
    refine ⟨.ref a, ?_, 63, rfl, a, ns.map V.int, rfl, hS, fun p hp => ?_⟩
    · unfold L2.start
      rfl
    · rw [cut63 hl]
      obtain ⟨f', g', ex⟩ := run ns hl hb
      have S : Stt ⟨K, Cl, w, kv⟩ (upd H p (.lst (ns.map V.int))) (upd H p (.lst (ns.map V.int))) (upd H p (.lst (ns.map V.int))) (upd H p (.lst (ns.map V.int))) (L2.start N [.ref p]) (st0 N.length [.ls (ns.map D.int)]) :=
        stt_start (Same.refl _) (.one (by rw [rp_ls]; exact ⟨p, _, rfl, upd_same, rps_ints ns⟩))
      have e : (L2.start N [V.ref a]).set 0 (some (V.ref p)) = L2.start N [.ref p] := by
        unfold L2.start
        rfl
      show rdS3 ⟨K, Cl, w, kv⟩ Γ c _ ((L2.start N [V.ref a]).set 0 (some (V.ref p))) _
      rw [e]
      refine exec3_ok hk c _ _ ex _ _ _ S _ (fun δ' hz => by cases hz) (fun rr hz v B' H' σ' δ' eb S' rv => ?_)
      cases hz
      rw [rp_bl] at rv
      subst rv
      exact q H'
end
end G

namespace G
open PySem L2
/-! ### the body of a method that changes its own tree: slot 0 is the tree, no slot is assigned -/
inductive Sm where
  | exp (e : E) (r : Sm) | gd (c : E) (r : Sm) | dput (ss : List Ps) (b e : E) (r : Sm) | ret (e : E)
def execM (Γ : Ga) : Sm → List Sl → Option D
  | .exp e r, δ => match eval Γ e δ with
    | some _ => execM Γ r δ
    | none => none
  | .gd c r, δ => if isTst c = true then (match eval Γ c δ with
    | some (.bl false, _, _) => execM Γ r δ
    | _ => none) else none
  | .dput ss b e r, δ => match eval Γ e δ with
    | some (x, true, _) => match nodeOf Γ δ 0 ss with
      | some (j, q, d, .dc ks ds) => match eval Γ b δ with
        | some (.int k, _, _) => if j = 0 ∧ x.leaf = true ∧ ds.all D.leaf = true ∧ ks.length < 1000 then execM Γ r ((δ.map (keepAl 0 q)).set 0 (.tr (d.put q (.dc (putD ks ds (.inl k) x).1 (putD ks ds (.inl k) x).2)))) else none
        | _ => none
      | _ => none
    | _ => none
  | .ret e, δ => match eval Γ e δ with
    | some _ => match (δ[0]? : Option Sl) with
      | some (.tr d) => some d
      | _ => none
    | none => none
def rdMm (C : Cf) (Γ : Ga) : Sm → TS
  | .exp e r => tSeq (tDrop (rd C Γ e)) (rdMm C Γ r)
  | .gd c r => tSeq (tIfS (rdT C Γ c) tNever tNext) (rdMm C Γ r)
  | .dput ss b e r => tSeq (sDPut (rdPs C Γ ss (tVar 0)) (rd C Γ b) (rd C Γ e)) (rdMm C Γ r)
  | .ret e => tSeq (tRet (rd C Γ e)) tNext
theorem leaves_inv {C : Cf} {B H : Hp} : ∀ {ds : List D} {vs : List V} {ps : List Addr}, (ds.all D.leaf) = true → Trs C B H ds vs ps → ps = [] ∧ Rps C B ds vs
  | [], vs, ps, _, h => by
    rw [trs_nil] at h
    rw [h.1, h.2]
    exact ⟨rfl, by simp [Rps]⟩
  | d :: ds, vs, ps, e, h => by
    rw [List.all_cons, Bool.and_eq_true] at e
    rw [trs_cons] at h
    obtain ⟨v, r, p1, p2, rfl, rfl, h3, h4⟩ := h
    rw [tr_leaf e.1] at h3
    obtain ⟨rfl, h3⟩ := h3
    obtain ⟨e5, r5⟩ := leaves_inv e.2 h4
    subst e5
    exact ⟨rfl, .cons h3 r5⟩
theorem putD_leaf {ks : List Key} {ds : List D} {k : Key} {x : D} (h : ds.all D.leaf = true) (hx : x.leaf = true) : (putD ks ds k x).2.all D.leaf = true := by
  unfold putD
  split
  · show (List.zipWith _ ks ds).all D.leaf = true
    induction ks generalizing ds with
    | nil => rfl
    | cons q ks ih =>
      cases ds with
      | nil => rfl
      | cons d ds =>
        rw [List.all_cons, Bool.and_eq_true] at h
        rw [List.zipWith_cons_cons, List.all_cons, Bool.and_eq_true]
        refine ⟨?_, ?_⟩
        · split
          · exact hx
          · exact h.1
        · clear ih
          have : ∀ (ks : List Key) (ds : List D), ds.all D.leaf = true → (List.zipWith (fun q d => if q = k then x else d) ks ds).all D.leaf = true := by
            intro ks
            induction ks with
            | nil => intro ds _; rfl
            | cons q ks ih =>
              intro ds h
              cases ds with
              | nil => rfl
              | cons d ds =>
                rw [List.all_cons, Bool.and_eq_true] at h
                rw [List.zipWith_cons_cons, List.all_cons, Bool.and_eq_true]
                refine ⟨?_, ih ds h.2⟩
                split
                · exact hx
                · exact h.1
          exact this ks ds h.2
  · show (ds ++ [x]).all D.leaf = true
    rw [List.all_append, h]
    simp [hx]
section
variable {C : Cf} {B0 H0 : Hp} {Γ : Ga}
theorem execM_ok (hk : KsOk C Γ) : ∀ (c : Sm) (δ : List Sl) (d' : D), execM Γ c δ = some d' → ∀ B H σ, Stt C B0 H0 B H σ δ → ∀ Dn : Ends,
    (∀ v B' H' δ', Same B B' → (∀ p o, B' p = some o → B p = some o ∨ H p = none) → Stt C B0 H0 B' H' σ δ' → δ'[0]? = some (.tr d') → Dn.rt v H') → rdMm C Γ c Dn σ H := by
  have ev := fun c => (eval_all (B0 := B0) (H0 := H0) hk c)
  intro c
  induction c with
  | exp e r ih =>
    intro δ d' h B H σ S Dn q
    simp only [execM] at h
    simp only [rdMm]
    split at h
    · rename_i z e1
      refine (ev e).1 δ _ e1 B H σ S _ fun v B1 H1 G1 S1 _ => ?_
      refine ih δ d' h B1 H1 σ S1 Dn fun v B' H' δ' eb nw S' h' => q v B' H' δ' (G1.eb.trans eb) (fun p o k => ?_) S' h'
      rcases nw p o k with z | z
      · exact G1.nw p o z
      · exact .inr (G1.eh.free z)
    · cases h
  | gd c r ih =>
    intro δ d' h B H σ S Dn q
    simp only [execM] at h
    simp only [rdMm]
    split at h
    · rename_i t
      split at h
      · rename_i f1 g1 e1
        refine (ev c).2.2.2.2 δ _ _ _ t e1 B H σ S _ fun B1 H1 G1 S1 => ?_
        rw [if_neg Bool.false_ne_true]
        refine ih δ d' h B1 H1 σ S1 Dn fun v B' H' δ' eb nw S' h' => q v B' H' δ' (G1.eb.trans eb) (fun p o k => ?_) S' h'
        rcases nw p o k with z | z
        · exact G1.nw p o z
        · exact .inr (G1.eh.free z)
      · cases h
    · cases h
  | dput ss b e r ih =>
    intro δ d' h B H σ S Dn q
    simp only [execM] at h
    simp only [rdMm]
    split at h
    · rename_i x g e2
      split at h
      · rename_i j qq d ks ds e1
        split at h
        · rename_i k f3 g3 e3
          split at h
          · rename_i hc
            obtain ⟨rfl, hx, hds, hks⟩ := hc
            obtain ⟨hj, hs, hp⟩ := node_ok (C := C) (B0 := B0) (H0 := H0) hk e1
            refine (ev e).1 δ _ e2 B H σ S _ fun u B1 H1 G1 S1 ru => ?_
            refine hp B1 H1 σ S1 _ fun v w y B2 H2 G2 S2 ew n => ?_
            refine (ev b).1 δ _ e3 B2 H2 σ S2 _ fun z B3 H3 G3 S3 rz => ?_
            rw [rp_int] at rz
            subst rz
            obtain ⟨φ, T⟩ := S.tre
            have G23 := G2.trans G3
            have G13 := G1.trans G23
            have T3 := T.grow G13.eb G13.eh G13.nw
            obtain ⟨w2, v2, qs2, ew2, n2, t2, nd2, in2, up⟩ := S3.mutTr T3 hj hs
            rw [ew] at ew2
            cases ew2
            obtain ⟨_, rfl⟩ := (n.mono G3.eh).fn n2
            rw [tr_dc] at t2
            obtain ⟨a, xs, qs, rfl, h2, hl, rfl, t4⟩ := t2
            obtain ⟨rfl, r4⟩ := leaves_inv hds t4
            have ru3 : Rp C B3 x u := (ru.mono (G23.rg true g)).mono (S3.weak true g true false id (fun h => by cases h))
            obtain ⟨ys, ey, ly, ry⟩ := putK_D (.inl k) hl r4 ru3
            have S4 := up (H' := upd H3 a (.dK (putK (ks.zip xs) (.inl k) u))) (e' := .dc (putD ks ds (.inl k) x).1 (putD ks ds (.inl k) x).2) (qs' := [a]) (fun p hp o ho => by
              rw [upd_ne (fun z => hp (by simp [z]))]
              exact ho) (by
              rw [tr_dc]
              exact ⟨a, ys, [], rfl, by rw [upd_same, ey], ly, rfl, Trs.of_leaves (putD_leaf hds hx) ry⟩) (by simp) (fun p hp => .inl hp)
            refine ⟨a, _, rfl, .inl ⟨ks.zip xs, .inl k, h2, rfl, ?_, rfl⟩, ?_⟩
            · refine Nat.lt_of_lt_of_le (show (ks.zip xs).length < 1000 from ?_) (by decide)
              rw [List.length_zip]
              omega
            · refine ih _ d' h B3 _ σ S4 Dn fun v B' H' δ' eb nw S' h' => q v B' H' δ' (G13.eb.trans eb) (fun p o kk => ?_) S' h'
              rcases nw p o kk with z | z
              · exact G13.nw p o z
              · right
                cases hh : H p with
                | none => rfl
                | some o' =>
                  exfalso
                  have := G13.eh _ _ hh
                  by_cases ea : p = a
                  · subst ea
                    rw [upd_same] at z
                    cases z
                  · rw [upd_ne ea, this] at z
                    cases z
          · cases h
        · cases h
      · cases h
    · cases h
  | ret e =>
    intro δ d' h B H σ S Dn q
    simp only [execM] at h
    simp only [rdMm]
    split at h
    · rename_i z e1
      split at h
      · rename_i d e2
        cases h
        refine (ev e).1 δ _ e1 B H σ S _ fun v B1 H1 G1 S1 _ => ?_
        exact q v B1 H1 δ G1.eb G1.nw S1 e2
      · cases h
    · cases h
end
def stM (n : Nat) (d : D) (ds : List D) : List Sl := .tr d :: st0 (n - 1) ds
def mkMd (Γ : Ga) (ar n : Nat) (c : Sm) : Md := ⟨ar, fun d ds => execM Γ c (stM n d ds)⟩
section
open PySem.Spec PyProof.Rows
variable {P : Program} {w : World} {K : PySem.W.Frag} {mg : Str → Option Value} {base : Heap}
theorem fnM_c {Cl : Nat → Addr × List Str} {kv : Nat → V} {x qual : Str} {st : Stmt} {f : Addr} {fd : FuncData} {N ps : List Str} {k : Nat} {Γ : Ga} {c : Sm} (F : Fun K x qual st f fd) (sc : FnScope N ps (defScope st)) (hk : KsOk ⟨K, Cl, w, kv⟩ Γ) (hp : 0 < ps.length)
    (body : ∀ (cdv : Value) (A : Around) (outer : List Env) (s : Shared) (H : Hp) (E : XK), Room k (A.deeper (envOfC qual (defScope st) s.heap.objs.size f cdv)) →
      PSs (cxOf CX0 P w K mg base N qual (defScope st) f cdv A outer s H E).nox (defBody st) (rdMm ⟨K, Cl, w, kv⟩ Γ c)) : FnOk P w K mg base CX0 (k + 1) f fd ps (spMu ⟨K, Cl, w, kv⟩ (mkMd Γ (ps.length - 1) N.length c)) := by
  refine F.ok sc (fun vs H Q E h => ?_) (fun cdv A outer s H vs Q E hr h => ?_)
  · obtain ⟨w', us, B, d, ds, d', qs, rfl, _, _, _, _, r, hl, _⟩ := h
    have := r.len
    have hl : ds.length = ps.length - 1 := hl
    rw [List.length_cons, this]
    omega
  · obtain ⟨w', us, B, d, ds, d', qs, rfl, sb, t, nd, nb, r, hl2, run, q⟩ := h
    refine ⟨_, body cdv A outer s H E hr, ?_⟩
    have run : execM Γ c (stM N.length d ds) = some d' := run
    let Hm : Hp := fun p => if p ∈ qs then none else H p
    have sm : Same Hm H := fun p o k => by
      have k : (if p ∈ qs then none else H p) = some o := k
      split at k
      · cases k
      · exact k
    have hN : ps.length ≤ N.length := by
      have := congrArg List.length sc.pre
      simp only [List.length_take] at this
      omega
    have hl2 : ds.length = ps.length - 1 := hl2
    have hlen := r.len
    have ge : ∀ (i : Nat) s, (stM N.length d ds)[i]? = some s → (i = 0 ∧ s = .tr d) ∨ s = .no ∨ ∃ d, i ≠ 0 ∧ ds[i - 1]? = some d ∧ s = .sh d false := fun i s h => by
      unfold stM at h
      cases i with
      | zero => simp at h; exact .inl ⟨rfl, h.symm⟩
      | succ i =>
        right
        rw [List.getElem?_cons_succ] at h
        unfold st0 at h
        by_cases hi : i < ds.length
        · rw [List.getElem?_append_left (by simpa using hi), List.getElem?_map, List.getElem?_eq_getElem hi] at h
          simp only [Option.map_some, Option.some.injEq] at h
          exact .inr ⟨_, by omega, by simpa using List.getElem?_eq_getElem hi, h.symm⟩
        · rw [List.getElem?_append_right (by simpa using hi), List.getElem?_replicate] at h
          split at h
          · exact .inl (Option.some.inj h).symm
          · cases h
    have s0 : (L2.start N (w' :: us))[0]? = some (some w') := rfl
    have trs : ∀ (i : Nat) d', (stM N.length d ds)[i]? = some (.tr d') → i = 0 ∧ d' = d := fun i d' h => by
      rcases ge i _ h with ⟨rfl, z⟩ | z | ⟨_, _, _, z⟩
      · cases z; exact ⟨rfl, rfl⟩
      · cases z
      · cases z
    have S : Stt ⟨K, Cl, w, kv⟩ B Hm B H (L2.start N (w' :: us)) (stM N.length d ds) := by
      refine ⟨sm, Same.refl _, sb, fun _ _ h => .inl h, ?_, fun i d g h => ?_, fun i ds' g h => ?_, fun i j a b c d p h => ?_, fun i d h => ?_, ⟨fun _ => qs, fun i d' h => ?_, fun i d' h => nd, fun i d' p h hp => ?_, fun i j d1 d2 p h1 h2 _ _ => ?_⟩, fun i j q h => ?_⟩
      · unfold L2.start stM st0
        simp only [List.length_append, List.length_map, List.length_replicate, List.length_cons, hlen]
        omega
      · rcases ge i _ h with ⟨_, z⟩ | z | ⟨d', hi, h1, h2⟩
        · cases z
        · cases z
        · cases h2
          obtain ⟨v, h3, h4⟩ := r.get h1
          refine ⟨v, ?_, h4⟩
          unfold L2.start
          have hi2 : i - 1 < us.length := (List.getElem?_eq_some_iff.mp h3).1
          obtain ⟨j, rfl⟩ : ∃ j, i = j + 1 := ⟨i - 1, by omega⟩
          rw [List.getElem?_append_left (by simp only [List.length_map, List.length_cons]; omega), List.getElem?_map, List.getElem?_cons_succ]
          simp only [Nat.add_sub_cancel] at h3
          rw [h3]
          rfl
      · rcases ge i _ h with ⟨_, z⟩ | z | ⟨d', hi, h1, h2⟩
        · cases z
        · cases z
        · cases h2
      · rcases ge i _ h with ⟨_, z⟩ | z | ⟨d', hi, h1, h2⟩
        · cases z
        · cases z
        · cases h2
      · rcases ge i _ h with ⟨_, z⟩ | z | ⟨d', hi, h1, h2⟩
        · cases z
        · cases z
        · cases h2
      · obtain ⟨rfl, rfl⟩ := trs i d' h
        exact ⟨w', s0, t⟩
      · obtain ⟨rfl, rfl⟩ := trs i d' h
        refine ⟨?_, nb p hp, t.ex p hp, fun j ds g hj => ?_⟩
        · show (if p ∈ qs then none else H p) = none
          rw [if_pos hp]
        · rcases ge j _ hj with ⟨_, z⟩ | z | ⟨d', hi, h1, h2⟩
          · cases z
          · cases z
          · cases h2
      · rw [(trs i d1 h1).1, (trs j d2 h2).1]
      · rcases ge i _ h with ⟨_, z⟩ | z | ⟨d', hi, h1, h2⟩
        · cases z
        · cases z
        · cases h2
    refine execM_ok hk c _ d' run B H _ S _ fun v B' H' δ' eb nw S' h' => ?_
    obtain ⟨φ, T⟩ := S'.tre
    obtain ⟨v', e0, t'⟩ := T.tr 0 d' h'
    rw [s0] at e0
    cases e0
    refine q v H' B' (φ 0) eb S'.sub nw (fun p hp o k => S'.ex0 p o ?_) t' (T.nd 0 d' h') fun p hp => ?_
    · show (if p ∈ qs then none else H p) = some o
      rw [if_neg hp]
      exact k
    · obtain ⟨h1, h2, _⟩ := T.nw 0 d' p h' hp
      refine ⟨?_, h2⟩
      have h1 : (if p ∈ qs then none else H p) = none := h1
      split at h1
      · rename_i z
        exact .inl z
      · exact .inr h1
end
end G
namespace G
open PySem L2 PyProof.Rows
section
variable {X : Cx}
/-- a, b = x, y where a name is a cell: the pair is laid, then taken apart -/
theorem ps_parC {i j : Nat} {x y : Str} {a b : Expr} {ta : TA} {px py pt pos : Pos} {kt k2 pt2} (hc : X.calm = true) (hN : X.N.Nodup) (hi : X.N[i]? = some x) (hj : X.N[j]? = some y)
    (hx : Loc X.env.scope x) (hy : Loc X.env.scope y) (ha : PA X [a, b] ta)
    (hw : swappedStores [.Tuple [.Name x px, .Name y py] kt pt] (.Tuple [a, b] k2 pt2) X.env = pure none := by rfl)
    (hs : swapsWithSole [.Tuple [.Name x px, .Name y py] kt pt] (.Tuple [a, b] k2 pt2) pos.line X.env = pure false := by rfl)
    (hn : (assignEach [.Name x px, .Name y py] X.env).length = 2 := by rfl) (hst : (assignEach [.Name x px, .Name y py] X.env).findIdx? (·.1) = none := by rfl)
    (hm : (assignEach [.Name x px, .Name y py] X.env).map (·.2) = [assign (.Name x px) X.env, assign (.Name y py) X.env] := by rfl)
    (fx : X.fn x = true ∨ X.env.scope.names.lookup x = some .local := by first | exact .inl rfl | exact .inr rfl | assumption) (fy : X.fn y = true ∨ X.env.scope.names.lookup y = some .local := by first | exact .inl rfl | exact .inr rfl | assumption) :
    PS X (.Assign [.Tuple [.Name x px, .Name y py] kt pt] (.Tuple [a, b] k2 pt2) pos) (tPar i j ta) := by
  refine ⟨fun pins s σ H D I h => ?_⟩
  rw [exec_Assign_arm]
  refine wpAny_bind (wpAny_standAt ?_)
  rw [hs]
  refine wpAny_bind (wpAny_pure ?_)
  rw [if_neg (by decide)]
  refine wpAny_bind (Tuple_ (thn (ha.run _ pins s σ H _ I h) fun us s1 ⟨vs, H1, I1, r1, q1⟩ => ?_))
  obtain ⟨v, w, e1, q1⟩ := q1
  subst e1
  obtain ⟨u1, u2, rfl, rv, rw'⟩ : ∃ u1 u2, us = [u1, u2] ∧ RelV v u1 ∧ RelV w u2 := by
    cases r1 with
    | cons p q =>
      cases q with
      | cons p' q' =>
        cases q'
        exact ⟨_, _, rfl, p, p'⟩
  refine wpAny_newObj_type ?_ (by show 2 ≤ sizeLine; decide)
  have I2 : Inv X pins σ H1 { s1 with heap := s1.heap.push { cls := .type "tuple", data := .seq [u1, u2].toArray } } := I1.kept (t' := s1.toks) fun b o e => Heap.get?_push_of_some _ e
  rw [hw]
  refine wpAny_bind (wpAny_pure ?_)
  show wpAny (model X.prog X.w) X.A (do assignAll (.ref s1.heap.objs.size) [assign (.Tuple [.Name x px, .Name y py] kt pt) X.env]; pure Flow.next) _ _ _
  refine wpAny_bind ?_
  show wpAny (model X.prog X.w) X.A (assign (.Tuple [.Name x px, .Name y py] kt pt) X.env (.ref s1.heap.objs.size)) _ _ _
  refine assign_Tuple_tuple (items := #[u1, u2]) (I.ok.hd hc) (IsTup.new s1.heap _) hn hst fun h' hx' => ?_
  have I3 := I2.kept (h' := h') (t' := s1.toks) fun b o e => hx' b o (Nat.ne_of_lt (Heap.lt_size e)) e
  rw [hm]
  show wpAny _ _ (assignInOrder [assign (.Name x px) X.env, assign (.Name y py) X.env] [u1, u2]) _ _ _
  refine assignInOrder_cons (assign_Name (store_ok I3 hN hi hx rv (fun s2 I4 => ?_) fx))
  refine assignInOrder_cons (assign_Name (store_ok I4 hN hj hy rw' (fun s3 I5 => assignInOrder_nil (wpAny_pure ?_)) fy))
  exact ⟨_, H1, I5, q1⟩
end
end G

namespace G
open PySem L2
/-! ### plain facts about data -/
theorem intsOf_map : ∀ ns : List Int, intsOf (ns.map D.int) = some ns
  | [] => rfl
  | n :: ns => by simp only [List.map_cons, intsOf, intsOf_map ns]
theorem blsOf_map : ∀ ns : List Bool, blsOf (ns.map D.bl) = some ns
  | [] => rfl
  | n :: ns => by simp only [List.map_cons, blsOf, blsOf_map ns]
theorem flats_int (ns : List Int) : flats (ns.map D.int) = true := by
  simp [flats, D.flat]
theorem cut_map {α β : Type} (f : α → β) (xs : List α) (lo hi : Option Int) : cutD (xs.map f) lo hi = (cutD xs lo hi).map f := by
  unfold cutD
  rw [List.length_map, ← List.map_drop, ← List.map_take]
theorem atI_map {α β : Type} (f : α → β) (xs : List α) (i : Int) : atI (xs.map f) i = (atI xs i).map f := by
  unfold atI
  rw [List.length_map]
  cases ixN xs.length i with
  | none => rfl
  | some j => simp
theorem cut_all {α : Type} {xs : List α} {n : Nat} (h : xs.length ≤ n) : cutD xs none (some (n : Int)) = xs := by
  unfold cutD
  rw [HT.sIx_none, HT.sIx_nat, List.drop_zero, Nat.sub_zero, List.take_of_length_le (by omega)]
theorem cut_take {α : Type} (xs : List α) (n : Nat) : cutD xs none (some (n : Int)) = xs.take n := by
  unfold cutD
  rw [HT.sIx_none, HT.sIx_nat, List.drop_zero, Nat.sub_zero]
  by_cases h : n ≤ xs.length
  · rw [Nat.min_eq_left h]
  · rw [Nat.min_eq_right (by omega), List.take_length, List.take_of_length_le (by omega)]
theorem cut_drop {α : Type} (xs : List α) (n : Nat) : cutD xs (some (n : Int)) none = xs.drop n := by
  unfold cutD
  rw [HT.sIx_none, HT.sIx_nat]
  by_cases h : n ≤ xs.length
  · rw [Nat.min_eq_left h, List.take_of_length_le (by rw [List.length_drop]; omega)]
  · rw [Nat.min_eq_right (by omega), List.drop_length, List.take_nil, List.drop_eq_nil_of_le (by omega)]
theorem cut_mid {α : Type} (xs : List α) (m n : Nat) (h : n ≤ xs.length) (h' : m ≤ n) : cutD xs (some (m : Int)) (some (n : Int)) = (xs.drop m).take (n - m) := by
  unfold cutD
  rw [HT.sIx_nat, HT.sIx_nat, Nat.min_eq_left h, Nat.min_eq_left (by omega)]
theorem cut_sub {α : Type} {xs : List α} {lo hi : Option Int} {x : α} (h : x ∈ cutD xs lo hi) : x ∈ xs := List.mem_of_mem_drop (List.mem_of_mem_take h)
theorem cut_len {α : Type} (xs : List α) (lo hi : Option Int) : (cutD xs lo hi).length ≤ xs.length := by
  unfold cutD
  rw [List.length_take, List.length_drop]
  omega
theorem atI_nat {α : Type} {xs : List α} {j : Nat} {v : α} (h : xs[j]? = some v) : atI xs (j : Int) = some v := by
  have hj : j < xs.length := (List.getElem?_eq_some_iff.mp h).1
  unfold atI ixN
  rw [if_pos (by omega), if_pos (by omega)]
  simpa using h
theorem atI_last {α : Type} {xs : List α} {v : α} : atI (xs ++ [v]) (-1) = some v := by
  unfold atI ixN
  rw [if_neg (by omega), if_pos (by simp only [List.length_append, List.length_singleton]; omega)]
  have : ((-1 : Int) + ((xs ++ [v]).length : Nat)).toNat = xs.length := by
    rw [List.length_append]
    show ((-1 : Int) + ((xs.length + 1 : Nat) : Int)).toNat = _
    omega
  rw [this]
  simp
theorem atI_0 {α : Type} (x : α) (xs : List α) : atI (x :: xs) 0 = some x := G.atI_nat (j := 0) rfl
theorem atI_1 {α : Type} (x y : α) (xs : List α) : atI (x :: y :: xs) 1 = some y := G.atI_nat (j := 1) rfl
theorem atI_2 {α : Type} (x y z : α) (xs : List α) : atI (x :: y :: z :: xs) 2 = some z := G.atI_nat (j := 2) rfl
/-! equality -/
def okn (n : Nat) (d : D) : Bool := d.plain && d.py.canLay0 && decide (d.py.depth ≤ n)
theorem eqok_okn (d : D) : d.eqok = okn 64 d := by
  unfold D.eqok okn SeqAt.shaped
  rw [Bool.and_assoc]
theorem okn_int (n : Nat) (i : Int) : okn n (.int i) = true := by simp [okn, D.plain, D.py, PyData.canLay0, PyData.depth]
theorem okn_bl (n : Nat) (i : Bool) : okn n (.bl i) = true := by simp [okn, D.plain, D.py, PyData.canLay0, PyData.depth]
theorem okn_non (n : Nat) : okn n .non = true := by simp [okn, D.plain, D.py, PyData.canLay0, PyData.depth]
theorem okn_str (n : Nat) (x : Str) : okn n (.str x) = PyData.strOk x := by simp [okn, D.plain, D.py, PyData.canLay0, PyData.depth]
theorem okn_all (n : Nat) : ∀ ds : List D, (D.plains ds && PyData.canLayAll0 (D.pys ds) && decide (PyData.depthAll (D.pys ds) ≤ n)) = ds.all (okn n)
  | [] => by simp [D.plains, D.pys, PyData.canLayAll0, PyData.depthAll]
  | d :: ds => by
    rw [List.all_cons, ← okn_all n ds]
    simp only [D.plains, D.pys, PyData.canLayAll0, PyData.depthAll, okn]
    rw [Bool.eq_iff_iff]
    simp only [Bool.and_eq_true, decide_eq_true_eq]
    constructor
    · rintro ⟨⟨⟨a, b⟩, c, d⟩, e⟩
      exact ⟨⟨⟨a, c⟩, by omega⟩, ⟨b, d⟩, by omega⟩
    · rintro ⟨⟨⟨a, c⟩, e⟩, ⟨b, d⟩, f⟩
      exact ⟨⟨⟨a, b⟩, c, d⟩, by omega⟩
theorem okn_ls (n : Nat) (ds : List D) : okn (n + 1) (.ls ds) = ds.all (okn n) := by
  rw [← okn_all]
  simp [okn, D.plain, D.py, PyData.canLay0, PyData.depth]
theorem okn_tp (n : Nat) (ds : List D) : okn (n + 1) (.tp ds) = ds.all (okn n) := by
  rw [← okn_all]
  simp [okn, D.plain, D.py, PyData.canLay0, PyData.depth]
theorem okn_ints (n : Nat) (ns : List Int) : okn (n + 1) (.ls (ns.map D.int)) = true := by
  rw [okn_ls]
  simp [okn_int]
mutual
/-- ints, texts, lists, tuples and None alone -/
def D.nb : D → Bool
  | .non => true | .int _ => true | .str _ => true | .bl _ => false | .ob _ _ => false | .dc _ _ => false | .ls xs => D.nbs xs | .tp xs => D.nbs xs
def D.nbs : List D → Bool
  | [] => true | x :: r => D.nb x && D.nbs r
end
mutual
theorem eqv_nb : ∀ {a b : D}, a.nb = true → b.nb = true → (a.eqv b = true ↔ a = b)
  | .non, b, _, hb => by cases b <;> simp [D.eqv, D.py, PyData.eqv, D.nb] at hb ⊢
  | .int i, b, _, hb => by cases b <;> simp [D.eqv, D.py, PyData.eqv, D.nb] at hb ⊢
  | .str i, b, _, hb => by cases b <;> simp [D.eqv, D.py, PyData.eqv, D.nb] at hb ⊢
  | .bl i, b, ha, _ => by simp [D.nb] at ha
  | .ob i _, b, ha, _ => by simp [D.nb] at ha
  | .dc i _, b, ha, _ => by simp [D.nb] at ha
  | .ls xs, b, ha, hb => by
    cases b with
    | ls ys =>
      simp only [D.nb] at ha hb
      have := eqvs_nb ha hb
      simp only [D.eqv, D.py, PyData.eqv, D.ls.injEq]
      exact this
    | _ => simp [D.eqv, D.py, PyData.eqv, D.nb] at hb ⊢
  | .tp xs, b, ha, hb => by
    cases b with
    | tp ys =>
      simp only [D.nb] at ha hb
      have := eqvs_nb ha hb
      simp only [D.eqv, D.py, PyData.eqv, D.tp.injEq]
      exact this
    | _ => simp [D.eqv, D.py, PyData.eqv, D.nb] at hb ⊢
theorem eqvs_nb : ∀ {a b : List D}, D.nbs a = true → D.nbs b = true → (PyData.eqvAll (D.pys a) (D.pys b) = true ↔ a = b)
  | [], [], _, _ => by simp [D.pys, PyData.eqvAll]
  | [], y :: ys, _, _ => by simp [D.pys, PyData.eqvAll]
  | x :: xs, [], _, _ => by simp [D.pys, PyData.eqvAll]
  | x :: xs, y :: ys, ha, hb => by
    simp only [D.nbs, Bool.and_eq_true] at ha hb
    have h1 := eqv_nb ha.1 hb.1
    have h2 := eqvs_nb ha.2 hb.2
    simp only [D.pys, PyData.eqvAll, Bool.and_eq_true, List.cons.injEq]
    rw [h2]
    exact ⟨fun h => ⟨h1.mp h.1, h.2⟩, fun h => ⟨h1.mpr h.1, h.2⟩⟩
end
theorem eqv_self {d : D} (h : d.nb = true) : d.eqv d = true := (eqv_nb h h).mpr rfl
theorem nbs_all : ∀ ds : List D, D.nbs ds = ds.all D.nb
  | [] => rfl
  | d :: ds => by simp only [D.nbs, List.all_cons, nbs_all ds]
theorem nbs_ints (ns : List Int) : D.nbs (ns.map D.int) = true := by
  rw [nbs_all]
  simp [D.nb]
theorem eqv_int (a b : Int) : (D.int a).eqv (.int b) = decide (a = b) := by
  rw [Bool.eq_iff_iff, eqv_nb (by rfl) (by rfl)]
  simp
theorem eqv_bl (a b : Bool) : (D.bl a).eqv (.bl b) = decide (a = b) := by
  simp [D.eqv, D.py, PyData.eqv]
  cases a <;> cases b <;> rfl
theorem map_int_inj {a b : List Int} (h : a.map D.int = b.map D.int) : a = b := by
  have := congrArg intsOf h
  rw [intsOf_map, intsOf_map] at this
  exact Option.some.inj this
theorem eqv_ints (a b : List Int) : (D.ls (a.map D.int)).eqv (.ls (b.map D.int)) = decide (a = b) := by
  rw [Bool.eq_iff_iff, eqv_nb (by simp only [D.nb]; exact nbs_ints a) (by simp only [D.nb]; exact nbs_ints b)]
  simp only [D.ls.injEq, decide_eq_true_eq]
  exact ⟨map_int_inj, fun h => by rw [h]⟩
theorem rep_map {α β : Type} (f : α → β) (n : Nat) (xs : List α) : (List.replicate n (xs.map f)).flatten = ((List.replicate n xs).flatten).map f := by
  induction n with
  | zero => rfl
  | succ n ih => rw [List.replicate_succ, List.flatten_cons, List.replicate_succ, List.flatten_cons, List.map_append, ih]
/-! loops -/
theorem forRun_fold {α β : Type} {t : Tg} {g : Bool} {ex : List Sl → Option Rz} {f : α → D} {up : β → α → β} (st : Nat → β → List Sl → Prop) : ∀ (as : List α) (i : Nat) (b : β) (δ : List Sl), st i b δ →
    (∀ (j : Nat) a b δ, as[j]? = some a → st (i + j) b δ → ∃ δ1 δ2, t.run g (f a) δ = some δ1 ∧ ex δ1 = some (.nx δ2) ∧ st (i + j + 1) (up b a) δ2) →
    ∃ δ', forRun t g ex (as.map f) δ = some (.nx δ') ∧ st (i + as.length) (as.foldl up b) δ'
  | [], i, b, δ, h, _ => ⟨δ, rfl, h⟩
  | a :: as, i, b, δ, h, step => by
    obtain ⟨δ1, δ2, h1, h2, h3⟩ := step 0 a b δ rfl h
    obtain ⟨δ', e, h'⟩ := forRun_fold st as (i + 1) (up b a) δ2 h3 fun j a' b' δ' hj hs => by
      have := step (j + 1) a' b' δ' (by simpa using hj) (by rw [show i + (j + 1) = i + 1 + j by omega]; exact hs)
      rw [show i + (j + 1) + 1 = i + 1 + j + 1 by omega] at this
      exact this
    refine ⟨δ', ?_, ?_⟩
    · rw [List.map_cons]
      unfold forRun
      rw [h1]
      show (match ex δ1 with | some (.nx δ2) => forRun t g ex (as.map f) δ2 | some (.rt v) => some (.rt v) | none => none) = _
      rw [h2]
      exact e
    · rw [List.length_cons, List.foldl_cons, show i + (as.length + 1) = i + 1 + as.length by omega]
      exact h'
/-- a loop whose state is not told by a fold -/
theorem forRun_inv {t : Tg} {g : Bool} {ex : List Sl → Option Rz} (st : Nat → List Sl → Prop) : ∀ (ds : List D) (i : Nat) (δ : List Sl), st i δ →
    (∀ (j : Nat) d δ, ds[j]? = some d → st (i + j) δ → ∃ δ1 δ2, t.run g d δ = some δ1 ∧ ex δ1 = some (.nx δ2) ∧ st (i + j + 1) δ2) → ∃ δ', forRun t g ex ds δ = some (.nx δ') ∧ st (i + ds.length) δ' := by
  intro ds i δ h step
  have := forRun_fold (t := t) (g := g) (ex := ex) (f := id) (up := fun (_ : Unit) (_ : D) => ()) (fun i _ δ => st i δ) ds i () δ h fun j a b δ hj hs => step j a δ hj hs
  rw [List.map_id] at this
  exact this
/-- a comprehension without a test, the same value each turn by the item -/
theorem lcRun_map {α : Type} {t : Tg} {g : Bool} {ef : List Sl → Option Rs} {δ : List Sl} {f : α → D} {y : α → D} : ∀ (as : List α), (∀ a ∈ as, ∃ δ2, t.run g (f a) δ = some δ2 ∧ ∃ gy, ef δ2 = some (y a, true, gy)) →
    ∃ gs, lcRun t g (fun _ => some true) ef δ (as.map f) = some (as.map y, gs)
  | [], _ => ⟨true, rfl⟩
  | a :: as, h => by
    obtain ⟨δ2, h1, gy, h2⟩ := h a List.mem_cons_self
    obtain ⟨gs, e⟩ := lcRun_map as fun b hb => h b (List.mem_cons_of_mem _ hb)
    refine ⟨gy && gs, ?_⟩
    rw [List.map_cons, List.map_cons]
    unfold lcRun
    rw [h1]
    dsimp only
    rw [h2]
    dsimp only
    rw [e]
theorem eval_lc_of {Γ : Ga} {t : Tg} {it e : E} {δ : List Sl} {ds ys : List D} {g gs : Bool} (h : evalI Γ it δ = some (ds, g)) (hl : ds.length ≤ 50000) (r : lcRun t g (fun _ => some true) (fun δ2 => eval Γ e δ2) (wipeD δ t.sl) ds = some (ys, gs)) :
    eval Γ (.lc t it e) δ = some (.ls ys, true, gs) := by
  unfold eval
  rw [h]
  dsimp only
  rw [if_pos hl, r]
theorem eval_lcf_of {Γ : Ga} {t : Tg} {it c e : E} {δ : List Sl} {ds ys : List D} {g gs : Bool} (h : evalI Γ it δ = some (ds, g)) (hl : ds.length ≤ 50000) (ht : isTst c = true) (r : lcRun t g (fun δ2 => tst (eval Γ c δ2)) (fun δ2 => eval Γ e δ2) (wipeD δ t.sl) ds = some (ys, gs)) :
    eval Γ (.lcf t it c e) δ = some (.ls ys, true, gs) := by
  unfold eval
  rw [h]
  dsimp only
  rw [if_pos ⟨hl, ht⟩, r]
theorem all_true {α : Type} (xs : List α) : (xs.all fun _ => true) = true := by
  simp
theorem exec_loop_of {Γ : Ga} {t : Tg} {it : E} {b : S} {δ : List Sl} {ds : List D} {g : Bool} {z : Rz} (h : evalI Γ it δ = some (ds, g)) (r : forRun t g (fun δ => exec Γ b δ) ds δ = some z) : exec Γ (.loop t it b) δ = some z := by
  unfold exec
  rw [h]
  exact r
/-- a comprehension of truths -/
theorem lcRun_bls {α : Type} {t : Tg} {g : Bool} {ef : List Sl → Option Rs} {δ : List Sl} {f : α → D} {p : α → Bool} (as : List α) (h : ∀ a ∈ as, ∃ δ2, t.run g (f a) δ = some δ2 ∧ ∃ gy, ef δ2 = some (.bl (p a), true, gy)) :
    ∃ L gs, lcRun t g (fun _ => some true) ef δ (as.map f) = some (L, gs) ∧ blsOf L = some (as.map p) := by
  obtain ⟨gs, e⟩ := lcRun_map (y := fun a => D.bl (p a)) as h
  refine ⟨_, gs, e, ?_⟩
  have := blsOf_map (as.map p)
  rw [List.map_map] at this
  exact this
theorem exec_nx {Γ : Ga} {a r : S} {δ δ1 : List Sl} {z : Option Rz} (h : exec Γ a δ = some (.nx δ1)) (k : exec Γ r δ1 = z) : exec Γ (.seq a r) δ = z := by
  unfold exec
  rw [h]
  exact k
theorem exec_rt {Γ : Ga} {a r : S} {δ : List Sl} {v : Rs} (h : exec Γ a δ = some (.rt v)) : exec Γ (.seq a r) δ = some (.rt v) := by
  unfold exec
  rw [h]
/-! great ints -/
theorem log2_lt_of {n k : Nat} (h : n < 2 ^ k) (h0 : 0 < k) : n.log2 < k := by
  by_cases z : n = 0
  · subst z; simp; exact h0
  · exact (Nat.log2_lt z).mpr h
theorem log2_add (a b : Int) {m : Nat} (ha : a.natAbs.log2 ≤ m) (hb : b.natAbs.log2 ≤ m) : (a + b).natAbs.log2 ≤ m + 1 := by
  have h1 : a.natAbs < 2 ^ (m + 1) := Nat.lt_of_lt_of_le Nat.lt_log2_self (Nat.pow_le_pow_right (by decide) (by omega))
  have h2 : b.natAbs < 2 ^ (m + 1) := Nat.lt_of_lt_of_le Nat.lt_log2_self (Nat.pow_le_pow_right (by decide) (by omega))
  have h3 : (a + b).natAbs < 2 ^ (m + 2) := by
    have e : 2 ^ (m + 2) = 2 ^ (m + 1) + 2 ^ (m + 1) := by rw [Nat.pow_succ 2 (m + 1)]; omega
    have := Int.natAbs_add_le a b
    rw [e]
    omega
  have := log2_lt_of h3 (by omega)
  omega
theorem log2_small {a : Int} {m : Nat} (h : a.natAbs < 2 ^ m) (h0 : 0 < m) : a.natAbs.log2 ≤ m := Nat.le_of_lt (log2_lt_of h h0)
theorem mul_wide {a b : Int} (ha : a.natAbs.log2 ≤ 40000000) (hb : b.natAbs.log2 ≤ 40000000) : mulok a b = true := by
  unfold mulok
  rw [show decide (a.natAbs.log2 + b.natAbs.log2 < 100000000) = true from decide_eq_true (by omega), Bool.or_true]
theorem mul_right {a b : Int} (h : b.natAbs < 18446744073709551616) : mulok a b = true := by
  unfold mulok
  rw [show decide (b.natAbs < 18446744073709551616) = true from decide_eq_true h, Bool.or_true, Bool.true_or]
theorem mul_left {a b : Int} (h : a.natAbs < 18446744073709551616) : mulok a b = true := by
  unfold mulok
  rw [show decide (a.natAbs < 18446744073709551616) = true from decide_eq_true h, Bool.true_or, Bool.true_or]
theorem bits_log2 {z : Int} {n : Nat} (h : Builtin.Int.intBits z ≤ n) : z.natAbs.log2 ≤ n := by
  unfold Builtin.Int.intBits at h
  split at h
  · rename_i e
    have : z = 0 := by simpa using e
    subst this
    simp
  · omega
end G

namespace Sh
/-! ### notes, what was heard, scores: plain -/
abbrev Wd := Bool × Bool
def wv (b : Bool) (w : Wd) : Int := if w.2 = b then (if w.1 = true then 1 else -1) else 0
def pt (b : Bool) (ws : List Wd) : Int := (ws.map (wv b)).sum
def sc (b : Bool) : List (List Wd) → List Nat → Int
  | ws :: r, m :: t => pt b (ws.take m) + sc b r t
  | _, _ => 0
/-- what a hand may have heard -/
def Va (notes : List (List Wd)) (hand said : Nat) (h : List Nat) : Prop := h.length = notes.length ∧ (∀ p ∈ notes.zip h, p.2 ≤ p.1.length) ∧ h[hand]? = some said
def opts (i hand said n : Nat) : List Nat := (List.range (n + 1)).filter fun m => decide (i ≠ hand) || decide (m = said)
def ahGo (hand said : Nat) : Nat → List (List Wd) → List (List Nat) → List (List Nat)
  | _, [], acc => acc
  | i, ws :: r, acc => ahGo hand said (i + 1) r (acc.flatMap fun s => (opts i hand said ws.length).map fun m => s ++ [m])
def ah (notes : List (List Wd)) (hand said : Nat) : List (List Nat) := ahGo hand said 0 notes [[]]
def vd (hand said : Nat) : Nat → List (List Wd) → List Nat → Prop
  | _, [], [] => True
  | i, ws :: r, m :: t => (m ≤ ws.length ∧ (i = hand → m = said)) ∧ vd hand said (i + 1) r t
  | _, _, _ => False
theorem opts_mem {i hand said n m : Nat} : m ∈ opts i hand said n ↔ m ≤ n ∧ (i = hand → m = said) := by
  unfold opts
  simp only [List.mem_filter, List.mem_range, Bool.or_eq_true, decide_eq_true_eq]
  constructor
  · rintro ⟨h1, h2⟩
    refine ⟨by omega, fun e => ?_⟩
    rcases h2 with h2 | h2
    · exact absurd e h2
    · exact h2
  · rintro ⟨h1, h2⟩
    refine ⟨by omega, ?_⟩
    by_cases e : i = hand
    · exact .inr (h2 e)
    · exact .inl e
theorem ahGo_mem {hand said : Nat} : ∀ (notes : List (List Wd)) (i : Nat) (acc : List (List Nat)) (h : List Nat), h ∈ ahGo hand said i notes acc ↔ ∃ s ∈ acc, ∃ t, h = s ++ t ∧ vd hand said i notes t
  | [], i, acc, h => by
    simp only [ahGo]
    constructor
    · intro k
      exact ⟨h, k, [], by simp, by simp [vd]⟩
    · rintro ⟨s, hs, t, rfl, ht⟩
      cases t with
      | nil => simpa using hs
      | cons m t => simp [vd] at ht
  | ws :: r, i, acc, h => by
    simp only [ahGo]
    rw [ahGo_mem r (i + 1)]
    constructor
    · rintro ⟨s, hs, t, rfl, ht⟩
      obtain ⟨s0, hs0, hm⟩ := List.mem_flatMap.mp hs
      obtain ⟨m, hm2, rfl⟩ := List.mem_map.mp hm
      exact ⟨s0, hs0, m :: t, by simp, opts_mem.mp hm2, ht⟩
    · rintro ⟨s, hs, t, rfl, ht⟩
      cases t with
      | nil => simp [vd] at ht
      | cons m t =>
        simp only [vd] at ht
        exact ⟨s ++ [m], List.mem_flatMap.mpr ⟨s, hs, List.mem_map.mpr ⟨m, opts_mem.mpr ht.1, rfl⟩⟩, t, by simp, ht.2⟩
theorem vd_va {hand said : Nat} : ∀ (notes : List (List Wd)) (i : Nat) (h : List Nat), vd hand said i notes h ↔ (h.length = notes.length ∧ (∀ p ∈ notes.zip h, p.2 ≤ p.1.length) ∧ (i ≤ hand → hand < i + notes.length → h[hand - i]? = some said))
  | [], i, [] => by
    simp only [vd, List.length_nil, List.zip_nil_left, true_and, true_iff]
    exact ⟨fun p hp => by simp at hp, fun a b => by omega⟩
  | [], i, m :: t => by simp [vd]
  | ws :: r, i, [] => by simp [vd]
  | ws :: r, i, m :: t => by
    simp only [vd, vd_va r (i + 1) t, List.length_cons, List.zip_cons_cons, List.mem_cons, forall_eq_or_imp]
    constructor
    · rintro ⟨⟨h1, h2⟩, h3, h4, h5⟩
      refine ⟨by omega, ⟨h1, h4⟩, fun a b => ?_⟩
      by_cases e : i = hand
      · subst e
        simp [h2 rfl]
      · have := h5 (by omega) (by omega)
        rw [show hand - i = (hand - (i + 1)) + 1 by omega, List.getElem?_cons_succ]
        exact this
    · rintro ⟨h1, ⟨h2, h3⟩, h4⟩
      refine ⟨⟨h2, fun e => ?_⟩, by omega, h3, fun a b => ?_⟩
      · subst e
        have := h4 (Nat.le_refl _) (by omega)
        simpa using this
      · have := h4 (by omega) (by omega)
        rw [show hand - i = (hand - (i + 1)) + 1 by omega, List.getElem?_cons_succ] at this
        exact this
theorem mem_ah {notes : List (List Wd)} {hand said : Nat} (hh : hand < notes.length) {h : List Nat} : h ∈ ah notes hand said ↔ Va notes hand said h := by
  unfold ah Va
  rw [ahGo_mem]
  constructor
  · rintro ⟨s, hs, t, rfl, ht⟩
    simp at hs
    subst hs
    have := (vd_va notes 0 t).mp ht
    exact ⟨by simpa using this.1, by simpa using this.2.1, by simpa using this.2.2 (by omega) (by omega)⟩
  · rintro ⟨h1, h2, h3⟩
    exact ⟨[], by simp, h, by simp, (vd_va notes 0 h).mpr ⟨h1, h2, fun _ _ => by simpa using h3⟩⟩
theorem opts_len (i hand said n : Nat) : (opts i hand said n).length ≤ n + 1 := by
  unfold opts
  exact Nat.le_trans (List.length_filter_le _ _) (by simp)
theorem flatMap_len {α β : Type} (k : Nat) (f : α → List β) : ∀ l : List α, (∀ a ∈ l, (f a).length ≤ k) → (l.flatMap f).length ≤ l.length * k
  | [], _ => by simp
  | a :: l, h => by
    rw [List.flatMap_cons, List.length_append, List.length_cons, Nat.add_mul, Nat.one_mul]
    have := h a (by simp)
    have := flatMap_len k f l fun b hb => h b (by simp [hb])
    omega
theorem ahGo_len {hand said : Nat} : ∀ (notes : List (List Wd)) (i : Nat) (acc : List (List Nat)), (∀ ws ∈ notes, ws.length ≤ 6) → (ahGo hand said i notes acc).length ≤ acc.length * 7 ^ notes.length
  | [], _, acc, _ => by simp [ahGo]
  | ws :: r, i, acc, h => by
    simp only [ahGo]
    have h1 := ahGo_len (hand := hand) (said := said) r (i + 1) (acc.flatMap fun s => (opts i hand said ws.length).map fun m => s ++ [m]) fun w hw => h w (by simp [hw])
    have h2 := flatMap_len 7 (fun s => (opts i hand said ws.length).map fun m => s ++ [m]) acc fun s _ => by
      rw [List.length_map]
      have := opts_len i hand said ws.length
      have := h ws (by simp)
      omega
    calc _ ≤ _ := h1
      _ ≤ acc.length * 7 * 7 ^ r.length := Nat.mul_le_mul_right _ h2
      _ = acc.length * 7 ^ (ws :: r).length := by rw [List.length_cons, Nat.pow_succ, Nat.mul_assoc, Nat.mul_comm 7]
theorem ah_len {notes : List (List Wd)} {hand said : Nat} (h : ∀ ws ∈ notes, ws.length ≤ 6) (hn : notes.length ≤ 3) : (ah notes hand said).length ≤ 343 := by
  have := ahGo_len (hand := hand) (said := said) notes 0 [[]] h
  unfold ah
  refine Nat.le_trans this ?_
  rw [List.length_singleton, Nat.one_mul]
  exact Nat.le_trans (Nat.pow_le_pow_right (by omega) hn) (by decide)
/-! no less -/
def leL : List Nat → List Nat → Bool
  | a :: s, b :: t => decide (a ≤ b) && leL s t
  | _, _ => true
theorem leL_refl : ∀ a : List Nat, leL a a = true
  | [] => rfl
  | a :: s => by simp [leL, leL_refl s]
theorem leL_trans : ∀ {a b c : List Nat}, a.length = b.length → b.length = c.length → leL a b = true → leL b c = true → leL a c = true
  | [], _, _, _, _, _, _ => by simp [leL]
  | a :: s, [], _, h, _, _, _ => by simp at h
  | a :: s, b :: t, [], _, h, _, _ => by simp at h
  | a :: s, b :: t, c :: u, h1, h2, h3, h4 => by
    simp only [leL, Bool.and_eq_true, decide_eq_true_eq] at h3 h4 ⊢
    exact ⟨by omega, leL_trans (by simpa using h1) (by simpa using h2) h3.2 h4.2⟩
theorem leL_app : ∀ {a b : List Nat} (c d : List Nat), a.length = b.length → leL (a ++ c) (b ++ d) = (leL a b && leL c d)
  | [], [], c, d, _ => by simp [leL]
  | [], _ :: _, _, _, h => by simp at h
  | _ :: _, [], _, _, h => by simp at h
  | a :: s, b :: t, c, d, h => by
    simp only [List.cons_append, leL, leL_app c d (show s.length = t.length by simpa using h), Bool.and_assoc]
/-! showings, histories -/
structure Sg where
  said : Nat
  a : Int
  b : Int
def Fit (notes : List (List Wd)) (hand : Nat) (s : Sg) (h : List Nat) : Prop := Va notes hand s.said h ∧ sc false notes h = s.a ∧ sc true notes h = s.b
def Gd (notes : List (List Wd)) (hand : Nat) : Option (List Nat) → List Sg → Prop
  | _, [] => True
  | pv, s :: r => ∃ h, Fit notes hand s h ∧ (∀ p, pv = some p → leL p h = true) ∧ Gd notes hand (some h) r
def fitL (notes : List (List Wd)) (hand : Nat) (s : Sg) : List (List Nat) := (ah notes hand s.said).filter fun h => decide (sc false notes h = s.a) && decide (sc true notes h = s.b)
def nxt (notes : List (List Wd)) (hand : Nat) (pv : Option (List (List Nat))) (s : Sg) : List (List Nat) := match pv with
  | none => fitL notes hand s
  | some l => (fitL notes hand s).filter fun h => l.any fun p => leL p h
def lf (notes : List (List Wd)) (hand : Nat) : Option (List (List Nat)) → List Sg → List (List (List Nat))
  | _, [] => []
  | pv, s :: r => nxt notes hand pv s :: lf notes hand (some (nxt notes hand pv s)) r
def lastNE : Option (List (List Nat)) → List (List (List Nat)) → Prop
  | none, [] => True
  | some l, [] => l ≠ []
  | _, l :: r => lastNE (some l) r
section
variable {notes : List (List Wd)} {hand : Nat}
theorem fitL_mem (hh : hand < notes.length) {s : Sg} {h : List Nat} : h ∈ fitL notes hand s ↔ Fit notes hand s h := by
  unfold fitL Fit
  rw [List.mem_filter, mem_ah hh]
  simp
theorem nxt_none (hh : hand < notes.length) {s : Sg} {h : List Nat} : h ∈ nxt notes hand none s ↔ Fit notes hand s h := fitL_mem hh
theorem nxt_some (hh : hand < notes.length) {l : List (List Nat)} {s : Sg} {h : List Nat} : h ∈ nxt notes hand (some l) s ↔ Fit notes hand s h ∧ ∃ p ∈ l, leL p h = true := by
  unfold nxt
  simp only [List.mem_filter, fitL_mem hh, List.any_eq_true]
theorem lastNE_some (hh : hand < notes.length) : ∀ (shown : List Sg) (l : List (List Nat)), lastNE (some l) (lf notes hand (some l) shown) ↔ ∃ p ∈ l, Gd notes hand (some p) shown
  | [], l => by
    simp only [lf, lastNE, Gd, and_true]
    constructor
    · intro h
      cases l with
      | nil => exact absurd rfl h
      | cons a l => exact ⟨a, by simp⟩
    · rintro ⟨p, hp⟩ rfl
      simp at hp
  | s :: r, l => by
    simp only [lf, lastNE, Gd]
    rw [lastNE_some hh r]
    constructor
    · rintro ⟨h, h1, h2⟩
      obtain ⟨h3, p, hp, h4⟩ := (nxt_some hh).mp h1
      exact ⟨p, hp, h, h3, fun q hq => by cases hq; exact h4, h2⟩
    · rintro ⟨p, hp, h, h3, h4, h2⟩
      exact ⟨h, (nxt_some hh).mpr ⟨h3, p, hp, h4 p rfl⟩, h2⟩
theorem lastNE_none (hh : hand < notes.length) (shown : List Sg) : lastNE none (lf notes hand none shown) ↔ Gd notes hand none shown := by
  cases shown with
  | nil => simp [lf, lastNE, Gd]
  | cons s r =>
    simp only [lf, lastNE, Gd]
    rw [lastNE_some hh r]
    constructor
    · rintro ⟨h, h1, h2⟩
      exact ⟨h, (nxt_none hh).mp h1, (fun q hq => by simp at hq), h2⟩
    · rintro ⟨h, h3, _, h2⟩
      exact ⟨h, (nxt_none hh).mpr h3, h2⟩
theorem Gd.weak (hl : ∀ s h, Fit notes hand s h → h.length = notes.length) : ∀ {shown : List Sg} {p h : List Nat}, p.length = notes.length → h.length = notes.length → leL p h = true → Gd notes hand (some h) shown → Gd notes hand (some p) shown
  | [], _, _, _, _, _, _ => trivial
  | s :: r, p, h, hp, hh, hle, g => by
    obtain ⟨k, f, le, g⟩ := g
    exact ⟨k, f, fun q hq => by cases hq; exact leL_trans (by omega) (by rw [hh, hl s k f]) hle (le h rfl), g⟩
theorem Fit.len {s : Sg} {h : List Nat} (f : Fit notes hand s h) : h.length = notes.length := f.1.1
theorem Gd.none : ∀ {shown : List Sg} {h : List Nat}, Gd notes hand (some h) shown → Gd notes hand none shown
  | [], _, _ => trivial
  | s :: r, h, g => by
    obtain ⟨k, f, le, g⟩ := g
    exact ⟨k, f, (fun q hq => by simp at hq), g⟩
/-- one left out -/
theorem Gd.out : ∀ {a : List Sg} {s : Sg} {b : List Sg} {pv : Option (List Nat)}, (∀ p, pv = some p → p.length = notes.length) → Gd notes hand pv (a ++ s :: b) → Gd notes hand pv (a ++ b)
  | [], s, b, pv, hp, g => by
    obtain ⟨h, f, le, g⟩ := g
    cases pv with
    | none => exact g.none
    | some p => exact Gd.weak (fun s h f => f.len) (hp p rfl) f.len (le p rfl) g
  | x :: a, s, b, pv, hp, g => by
    obtain ⟨h, f, le, g⟩ := g
    exact ⟨h, f, le, Gd.out (fun p e => by cases e; exact f.len) g⟩
/-- one twice -/
theorem Gd.dbl : ∀ {a : List Sg} {s : Sg} {b : List Sg} {pv : Option (List Nat)}, Gd notes hand pv (a ++ s :: b) → Gd notes hand pv (a ++ s :: s :: b)
  | [], s, b, pv, g => by
    obtain ⟨h, f, le, g⟩ := g
    exact ⟨h, f, le, h, f, fun q hq => by cases hq; exact leL_refl _, g⟩
  | x :: a, s, b, pv, g => by
    obtain ⟨h, f, le, g⟩ := g
    exact ⟨h, f, le, Gd.dbl g⟩
/-- turned into another's -/
theorem Gd.map {notes' : List (List Wd)} {hand' : Nat} (φ : List Nat → List Nat) (σ : Sg → Sg) (hf : ∀ s h, Fit notes hand s h → Fit notes' hand' (σ s) (φ h)) (hle : ∀ s p h, p.length = notes.length → Fit notes hand s h → leL p h = true → leL (φ p) (φ h) = true) :
    ∀ {shown : List Sg} {pv : Option (List Nat)}, (∀ p, pv = some p → p.length = notes.length) → Gd notes hand pv shown → Gd notes' hand' (pv.map φ) (shown.map σ)
  | [], _, _, _ => trivial
  | s :: r, pv, hp, g => by
    obtain ⟨h, f, le, g⟩ := g
    refine ⟨φ h, hf s h f, fun q hq => ?_, Gd.map φ σ hf hle (pv := some h) (fun p e => by cases e; exact f.len) g⟩
    cases pv with
    | none => cases hq
    | some p =>
      cases hq
      exact hle s p h (hp p rfl) f (le p rfl)
end
/-! sides exchanged -/
def oth (notes : List (List Wd)) : List (List Wd) := notes.map fun ws => ws.map fun w => (w.1, !w.2)
theorem wv_oth (b : Bool) (w : Wd) : wv b (w.1, !w.2) = wv (!b) w := by
  unfold wv
  cases w.2 <;> cases b <;> rfl
theorem pt_oth (b : Bool) (ws : List Wd) : pt b (ws.map fun w => (w.1, !w.2)) = pt (!b) ws := by
  unfold pt
  rw [List.map_map]
  congr 1
  apply List.map_congr_left
  intro w _
  exact wv_oth b w
theorem sc_oth (b : Bool) : ∀ (notes : List (List Wd)) (h : List Nat), sc b (oth notes) h = sc (!b) notes h
  | [], _ => rfl
  | ws :: r, [] => rfl
  | ws :: r, m :: t => by
    have := sc_oth b r t
    simp only [oth, List.map_cons, sc] at this ⊢
    rw [this, ← List.map_take, pt_oth]
theorem va_oth {notes : List (List Wd)} {hand said : Nat} {h : List Nat} : Va (oth notes) hand said h ↔ Va notes hand said h := by
  unfold Va oth
  rw [List.length_map]
  have : (∀ p ∈ (notes.map fun ws => ws.map fun w => (w.1, !w.2)).zip h, p.2 ≤ p.1.length) ↔ ∀ p ∈ notes.zip h, p.2 ≤ p.1.length := by
    rw [List.zip_map_left]
    simp only [List.mem_map]
    constructor
    · intro k p hp
      have := k _ ⟨p, hp, rfl⟩
      simpa using this
    · rintro k _ ⟨p, hp, rfl⟩
      simpa using k p hp
  rw [this]
def swS (s : Sg) : Sg := ⟨s.said, s.b, s.a⟩
theorem fit_oth {notes : List (List Wd)} {hand : Nat} {s : Sg} {h : List Nat} (f : Fit notes hand s h) : Fit (oth notes) hand (swS s) h :=
  ⟨va_oth.mpr f.1, by rw [sc_oth]; exact f.2.2, by rw [sc_oth]; exact f.2.1⟩
theorem oth_oth (notes : List (List Wd)) : oth (oth notes) = notes := by
  unfold oth
  rw [List.map_map]
  conv => rhs; rw [← List.map_id notes]
  apply List.map_congr_left
  intro ws _
  simp only [Function.comp, List.map_map, id]
  conv => rhs; rw [← List.map_id ws]
  apply List.map_congr_left
  intro w _
  simp
theorem oth_len (notes : List (List Wd)) : (oth notes).length = notes.length := by simp [oth]
theorem gd_oth {notes : List (List Wd)} {hand : Nat} {shown : List Sg} : Gd (oth notes) hand none (shown.map swS) ↔ Gd notes hand none shown := by
  have key : ∀ (notes : List (List Wd)) (shown : List Sg), Gd notes hand none shown → Gd (oth notes) hand none (shown.map swS) := fun notes shown g =>
    Gd.map id swS (fun s h f => fit_oth f) (fun s p h _ _ e => e) (pv := none) (fun p e => by cases e) g
  constructor
  · intro g
    have := key _ _ g
    rw [oth_oth, List.map_map, show swS ∘ swS = id from rfl, List.map_id] at this
    exact this
  · exact key notes shown
/-! hands renamed in turn -/
theorem sc_app (b : Bool) : ∀ {x : List (List Wd)} {u : List Nat} (y : List (List Wd)) (v : List Nat), x.length = u.length → sc b (x ++ y) (u ++ v) = sc b x u + sc b y v
  | [], [], y, v, _ => by simp [sc]
  | [], _ :: _, _, _, h => by simp at h
  | _ :: _, [], _, _, h => by simp at h
  | ws :: x, m :: u, y, v, h => by
    simp only [List.cons_append, sc, sc_app b y v (show x.length = u.length by simpa using h)]
    omega
theorem fit_app {x y : List (List Wd)} {hand hand' : Nat} {s : Sg} {u v : List Nat} (hl : x.length = u.length) (f : Fit (x ++ y) hand s (u ++ v)) (hs : (v ++ u)[hand']? = (u ++ v)[hand]?) : Fit (y ++ x) hand' s (v ++ u) := by
  have h1 := f.len
  simp only [List.length_append] at h1
  have hl2 : y.length = v.length := by omega
  refine ⟨⟨by simp; omega, fun p hp => ?_, by rw [hs]; exact f.1.2.2⟩, ?_, ?_⟩
  · apply f.1.2.1
    rw [List.zip_append hl]
    rw [List.zip_append hl2] at hp
    rcases List.mem_append.mp hp with k | k
    · exact List.mem_append_right _ k
    · exact List.mem_append_left _ k
  · rw [sc_app _ _ _ hl2, ← f.2.1, sc_app _ _ _ hl]
    omega
  · rw [sc_app _ _ _ hl2, ← f.2.2, sc_app _ _ _ hl]
    omega
def rot (n : Nat) (h : List Nat) : List Nat := h.drop n ++ h.take n
theorem gd_rot {x y : List (List Wd)} {hand hand' : Nat} {shown : List Sg} (hs : ∀ h : List Nat, h.length = x.length + y.length → (rot x.length h)[hand']? = h[hand]?) (g : Gd (x ++ y) hand none shown) : Gd (y ++ x) hand' none shown := by
  have := Gd.map (notes' := y ++ x) (hand' := hand') (rot x.length) id (fun s h f => ?_) (fun s p h hp f e => ?_) (pv := none) (fun p e => by cases e) g
  · rwa [List.map_id] at this
  · have hl := f.len
    rw [List.length_append] at hl
    have ht : x.length = (h.take x.length).length := by rw [List.length_take]; omega
    have f' : Fit (x ++ y) hand s (h.take x.length ++ h.drop x.length) := by rw [List.take_append_drop]; exact f
    refine fit_app ht f' ?_
    rw [List.take_append_drop]
    exact hs h hl
  · have hl := f.len
    rw [List.length_append] at hl hp
    unfold rot
    rw [leL_app _ _ (by simp; omega)]
    have e' : leL (p.take x.length ++ p.drop x.length) (h.take x.length ++ h.drop x.length) = true := by rw [List.take_append_drop, List.take_append_drop]; exact e
    rw [leL_app _ _ (by simp; omega), Bool.and_eq_true] at e'
    rw [e'.1, e'.2]
    rfl
/-! a hand without words -/
theorem gd_add {notes : List (List Wd)} {hand : Nat} {shown : List Sg} (hh : hand < notes.length) : Gd (notes ++ [[]]) hand none shown ↔ Gd notes hand none shown := by
  constructor
  · intro g
    have := Gd.map (notes' := notes) (hand' := hand) (fun h => h.take notes.length) id (fun s h f => ?_) (fun s p h hp f e => ?_) (pv := none) (fun p e => by cases e) g
    · rwa [List.map_id] at this
    · have hl := f.len
      simp only [List.length_append, List.length_singleton] at hl
      have ht : notes.length = (h.take notes.length).length := by rw [List.length_take]; omega
      have f' : Fit (notes ++ [[]]) hand s (h.take notes.length ++ h.drop notes.length) := by rw [List.take_append_drop]; exact f
      have z : ∀ b, sc b [([] : List Wd)] (h.drop notes.length) = 0 := fun b => by
        cases h.drop notes.length with
        | nil => rfl
        | cons m t => simp [sc, pt]
      refine ⟨⟨by omega, fun p hp => f'.1.2.1 p ?_, ?_⟩, ?_, ?_⟩
      · rw [List.zip_append ht]
        exact List.mem_append_left _ hp
      · rw [List.getElem?_take_of_lt hh]
        exact f.1.2.2
      · have := f'.2.1
        rw [sc_app _ _ _ ht, z] at this
        simp at this ⊢
        exact this
      · have := f'.2.2
        rw [sc_app _ _ _ ht, z] at this
        simp at this ⊢
        exact this
    · have hl := f.len
      simp only [List.length_append, List.length_singleton] at hl hp
      have e' : leL (p.take notes.length ++ p.drop notes.length) (h.take notes.length ++ h.drop notes.length) = true := by rw [List.take_append_drop, List.take_append_drop]; exact e
      rw [leL_app _ _ (by simp; omega), Bool.and_eq_true] at e'
      exact e'.1
  · intro g
    have := Gd.map (notes' := notes ++ [[]]) (hand' := hand) (fun h => h ++ [0]) id (fun s h f => ?_) (fun s p h hp f e => ?_) (pv := none) (fun p e => by cases e) g
    · rwa [List.map_id] at this
    · have hl := f.len
      refine ⟨⟨by simp [hl], fun p hp => ?_, ?_⟩, ?_, ?_⟩
      · rw [List.zip_append hl.symm] at hp
        rcases List.mem_append.mp hp with k | k
        · exact f.1.2.1 p k
        · simp at k
          subst k
          simp
      · rw [List.getElem?_append_left (by omega)]
        exact f.1.2.2
      · rw [sc_app _ _ _ hl.symm]
        simp [sc, pt]
        exact f.2.1
      · rw [sc_app _ _ _ hl.symm]
        simp [sc, pt]
        exact f.2.2
    · rw [leL_app _ _ (by rw [hp, f.len]), e]
      rfl
/-! more words -/
theorem sc_more (b : Bool) : ∀ {x y : List (List Wd)} {h : List Nat}, x.length = y.length → (∀ p ∈ x.zip y, p.1 <+: p.2) → (∀ p ∈ x.zip h, p.2 ≤ p.1.length) → sc b y h = sc b x h
  | [], [], _, _, _, _ => rfl
  | [], _ :: _, _, h, _, _ => by simp at h
  | _ :: _, [], _, h, _, _ => by simp at h
  | a :: x, c :: y, [], _, _, _ => rfl
  | a :: x, c :: y, m :: t, hl, hp, hv => by
    simp only [sc]
    rw [sc_more b (show x.length = y.length by simpa using hl) (fun p k => hp p (by simp [k])) (fun p k => hv p (by simp [k]))]
    obtain ⟨d, hd⟩ := hp (a, c) (by simp)
    have hm := hv (a, m) (by simp)
    simp only at hd hm
    rw [← hd, List.take_append_of_le_length hm]
theorem va_more {hand said : Nat} {x y : List (List Wd)} {h : List Nat} (hl : x.length = y.length) (hp : ∀ p ∈ x.zip y, p.1 <+: p.2) (f : Va x hand said h) : Va y hand said h := by
  refine ⟨by rw [f.1, hl], ?_, f.2.2⟩
  have key : ∀ (x y : List (List Wd)) (h : List Nat), x.length = y.length → (∀ p ∈ x.zip y, p.1 <+: p.2) → (∀ p ∈ x.zip h, p.2 ≤ p.1.length) → ∀ p ∈ y.zip h, p.2 ≤ p.1.length := by
    intro x
    induction x with
    | nil =>
      intro y h hl
      cases y with
      | nil => simp
      | cons c y => simp at hl
    | cons a x ih =>
      intro y h hl hp hv
      cases y with
      | nil => simp at hl
      | cons c y =>
        cases h with
        | nil => simp
        | cons m t =>
          intro p k
          rw [List.zip_cons_cons] at k
          rcases List.mem_cons.mp k with rfl | k
          · have := hv (a, m) (by simp)
            have := (hp (a, c) (by simp)).length_le
            simp only at *
            omega
          · exact ih y t (by simpa using hl) (fun p k => hp p (by simp [k])) (fun p k => hv p (by simp [k])) p k
  exact key x y h hl hp f.2.1
theorem gd_more {x y : List (List Wd)} {hand : Nat} {shown : List Sg} (hl : x.length = y.length) (hp : ∀ p ∈ x.zip y, p.1 <+: p.2) (g : Gd x hand none shown) : Gd y hand none shown := by
  have := Gd.map (notes' := y) (hand' := hand) id id (fun s h f => ⟨va_more hl hp f.1, (sc_more _ hl hp f.1.2.1).trans f.2.1, (sc_more _ hl hp f.1.2.1).trans f.2.2⟩) (fun s p h _ _ e => e) (pv := none) (fun p e => by cases e) g
  rwa [List.map_id] at this
end Sh

namespace G
open PySem L2
/-- a comprehension with a test -/
theorem lcRun_filter {α : Type} {t : Tg} {g : Bool} {cf : List Sl → Option Bool} {ef : List Sl → Option Rs} {δ : List Sl} {f : α → D} {y : α → D} {p : α → Bool} : ∀ (as : List α), (∀ a ∈ as, ∃ δ2, t.run g (f a) δ = some δ2 ∧ cf δ2 = some (p a) ∧ (p a = true → ∃ gy, ef δ2 = some (y a, true, gy))) →
    ∃ gs, lcRun t g cf ef δ (as.map f) = some ((as.filter p).map y, gs)
  | [], _ => ⟨true, rfl⟩
  | a :: as, h => by
    obtain ⟨δ2, h1, h2, h3⟩ := h a List.mem_cons_self
    obtain ⟨gs, e⟩ := lcRun_filter (y := y) (p := p) as fun b hb => h b (List.mem_cons_of_mem _ hb)
    cases hp : p a with
    | false =>
      rw [hp] at h2
      refine ⟨gs, ?_⟩
      simp only [List.map_cons, lcRun, h1, h2, List.filter_cons, hp, Bool.false_eq_true, if_false]
      exact e
    | true =>
      rw [hp] at h2
      obtain ⟨gy, h4⟩ := h3 hp
      refine ⟨gy && gs, ?_⟩
      simp only [List.map_cons, lcRun, h1, h2, h4, e, List.filter_cons, hp, if_true, List.map_cons]
theorem exec_ext_of {Γ : Ga} {i : Nat} {e : E} {δ : List Sl} {ds es : List D} {g g' : Bool} (h1 : δ[i]? = some (.ow ds g)) (h2 : eval Γ e δ = some (.ls es, true, g')) (h3 : ds.length + es.length < 100000) : exec Γ (.ext i e) δ = some (.nx (δ.set i (.ow (ds ++ es) (g && (g' || flats es))))) := by
  unfold exec
  rw [h1]
  dsimp only
  rw [h2]
  dsimp only
  rw [if_pos h3]
theorem exec_app_of {Γ : Ga} {i : Nat} {e : E} {δ : List Sl} {ds : List D} {d : D} {g g' : Bool} (h1 : δ[i]? = some (.ow ds g)) (h2 : eval Γ e δ = some (d, true, g')) (h3 : ds.length < 100000) : exec Γ (.app i e) δ = some (.nx (δ.set i (.ow (ds ++ [d]) (g && (g' || d.flat))))) := by
  unfold exec
  rw [h1]
  dsimp only
  rw [h2]
  dsimp only
  rw [if_pos h3]
theorem exec_asg_of {Γ : Ga} {j : Nat} {e : E} {δ : List Sl} {d : D} {g : Bool} (h2 : eval Γ e δ = some (d, true, g)) : exec Γ (.asg (.nm j) e) δ = some (.nx (δ.set j (.sh d g))) := by
  unfold exec
  rw [h2]
  rfl
theorem exec_own_of {Γ : Ga} {i : Nat} {e : E} {δ : List Sl} {ds : List D} {g : Bool} (n : isNew e = true) (h : eval Γ e δ = some (.ls ds, true, g)) : exec Γ (.own i e) δ = some (.nx (δ.set i (.ow ds g))) := by
  unfold exec
  rw [h]
  simp [slotOf, n]
theorem eval_ite_t {Γ : Ga} {c a b : E} {δ : List Sl} {f g : Bool} (t : isTst c = true) (h : eval Γ c δ = some (.bl true, f, g)) : eval Γ (.ite c a b) δ = eval Γ a δ := by
  conv => lhs; unfold eval
  rw [if_pos t, h]
theorem eval_ite_f {Γ : Ga} {c a b : E} {δ : List Sl} {f g : Bool} (t : isTst c = true) (h : eval Γ c δ = some (.bl false, f, g)) : eval Γ (.ite c a b) δ = eval Γ b δ := by
  conv => lhs; unfold eval
  rw [if_pos t, h]
theorem exec_ite_t {Γ : Ga} {c : E} {a b : S} {δ : List Sl} {f g : Bool} (t : isTst c = true) (h : eval Γ c δ = some (.bl true, f, g)) : exec Γ (.ite c a b) δ = exec Γ a δ := by
  conv => lhs; unfold exec
  rw [if_pos t, h]
theorem exec_ite_f {Γ : Ga} {c : E} {a b : S} {δ : List Sl} {f g : Bool} (t : isTst c = true) (h : eval Γ c δ = some (.bl false, f, g)) : exec Γ (.ite c a b) δ = exec Γ b δ := by
  conv => lhs; unfold exec
  rw [if_pos t, h]
theorem exec_exp_of {Γ : Ga} {e : E} {δ : List Sl} {r : Rs} (h : eval Γ e δ = some r) : exec Γ (.exp e) δ = some (.nx δ) := by
  unfold exec
  rw [h]
theorem exec_ret_of {Γ : Ga} {e : E} {δ : List Sl} {r : Rs} (h : eval Γ e δ = some r) : exec Γ (.ret e) δ = some (.rt r) := by
  unfold exec
  rw [h]
theorem zipD_map {α β : Type} (f : α → D) (k : β → D) : ∀ (xs : List α) (ys : List β), zipD (xs.map f) (ys.map k) = (xs.zip ys).map fun p => .tp [f p.1, k p.2]
  | [], _ => by simp [zipD]
  | _ :: _, [] => by simp [zipD]
  | x :: xs, y :: ys => by simp [zipD, zipD_map f k xs ys]
theorem enumD_map {α : Type} (f : α → D) : ∀ (n : Nat) (xs : List α), enumD n (xs.map f) = (xs.zipIdx n).map fun p => .tp [.int (p.2 : Nat), f p.1]
  | _, [] => rfl
  | n, x :: xs => by simp [enumD, enumD_map f (n + 1) xs, List.zipIdx_cons]
theorem rngD_0 (n : Nat) : rngD 0 n = (List.range n).map fun (k : Nat) => D.int (k : Int) := by
  unfold rngD
  apply List.map_congr_left
  intro k _
  simp
open Sh
/-! ### the notes' data -/
def eW (w : Wd) : D := .tp [.str (if w.1 = true then "point" else "back"), .int (if w.2 = true then 1 else 0)]
def eL (ws : List Wd) : D := .ls (ws.map eW)
def eN (notes : List (List Wd)) : D := .ls (notes.map eL)
def eH (h : List Nat) : D := .ls (h.map fun (m : Nat) => D.int (m : Int))
def eS (s : Sg) : D := .tp [.int (s.said : Int), .int s.a, .int s.b]
structure NOk (notes : List (List Wd)) : Prop where
  l1 : 1 ≤ notes.length
  l3 : notes.length ≤ 3
  w6 : ∀ ws ∈ notes, ws.length ≤ 6
theorem nb_eH (h : List Nat) : (eH h).nb = true := by
  simp only [eH, D.nb, nbs_all]
  simp [D.nb]
theorem nb_eHs (l : List (List Nat)) : (D.ls (l.map eH)).nb = true := by
  simp only [D.nb, nbs_all]
  simp [nb_eH]
theorem okn_eH (n : Nat) (h : List Nat) : okn (n + 1) (eH h) = true := by
  unfold eH
  rw [okn_ls]
  simp [okn_int]
theorem eqv_nil (l : List D) (h : D.nbs l = true) : (D.ls l).eqv (.ls []) = decide (l = []) := by
  rw [Bool.eq_iff_iff, eqv_nb (by simpa only [D.nb] using h) (by rfl)]
  simp
theorem eqv_ii (a b c d : Int) : (D.tp [.int a, .int b]).eqv (.tp [.int c, .int d]) = (decide (a = c) && decide (b = d)) := by
  rw [Bool.eq_iff_iff, eqv_nb (by rfl) (by rfl)]
  simp
/-! the least of pairs -/
def fstI : D → Int
  | .tp (.int a :: _) => a
  | _ => 0
theorem ltD_pr {x y : D} (hx : isPr x = true) (hy : isPr y = true) : (ltD x y = true → fstI x ≤ fstI y) ∧ (ltD x y = false → fstI y ≤ fstI x) := by
  obtain ⟨a, ns, rfl⟩ := isPr_of hx
  obtain ⟨b, ms, rfl⟩ := isPr_of hy
  simp only [fstI]
  by_cases h : a = b
  · subst h
    exact ⟨fun _ => Int.le_refl _, fun _ => Int.le_refl _⟩
  · have e : ltD (.tp [.int a, .ls (ns.map D.int)]) (.tp [.int b, .ls (ms.map D.int)]) = decide (a < b) := by
      unfold ltD
      simp only [D.py, D.pys]
      rw [PySem.W.dataLt_pair (by simp [PySem.W.alike]) (by simp [PySem.W.alike, alike_ints]), PySem.W.dataLt_int]
      simp [PyData.eqv, h]
    rw [e]
    constructor
    · intro k
      have := of_decide_eq_true k
      omega
    · intro k
      have := of_decide_eq_false k
      omega
theorem minF_least : ∀ (xs : List D) (x : D), (∀ d ∈ x :: xs, isPr d = true) → ∀ y ∈ x :: xs, fstI (minF x xs) ≤ fstI y := by
  intro xs
  unfold minF
  induction xs with
  | nil =>
    intro x _ y hy
    simp at hy
    subst hy
    exact Int.le_refl _
  | cons z zs ih =>
    intro x h y hy
    simp only [List.foldl_cons]
    have hx := h x (by simp)
    have hz := h z (by simp)
    have l := ltD_pr hz hx
    cases e : ltD z x with
    | true =>
      rw [if_pos rfl]
      have k := ih z fun d hd => h d (List.mem_cons_of_mem _ hd)
      rcases List.mem_cons.mp hy with rfl | hy
      · exact Int.le_trans (k z (by simp)) (l.1 e)
      · exact k y hy
    | false =>
      rw [if_neg Bool.false_ne_true]
      have k := ih x fun d hd => h d (by
        rcases List.mem_cons.mp hd with rfl | hd
        · simp
        · simp [hd])
      rcases List.mem_cons.mp hy with rfl | hy
      · exact k y (by simp)
      · rcases List.mem_cons.mp hy with rfl | hy
        · exact Int.le_trans (k x (by simp)) (l.2 e)
        · exact k y (by simp [hy])
theorem maxF_most : ∀ (xs : List D) (x : D), (∀ d ∈ x :: xs, isPr d = true) → ∀ y ∈ x :: xs, fstI y ≤ fstI (maxF x xs) := by
  intro xs
  unfold maxF
  induction xs with
  | nil =>
    intro x _ y hy
    simp at hy
    subst hy
    exact Int.le_refl _
  | cons z zs ih =>
    intro x h y hy
    simp only [List.foldl_cons]
    have hx := h x (by simp)
    have hz := h z (by simp)
    have l := ltD_pr hx hz
    cases e : ltD x z with
    | true =>
      rw [if_pos rfl]
      have k := ih z fun d hd => h d (List.mem_cons_of_mem _ hd)
      rcases List.mem_cons.mp hy with rfl | hy
      · exact Int.le_trans (l.1 e) (k z (by simp))
      · exact k y hy
    | false =>
      rw [if_neg Bool.false_ne_true]
      have k := ih x fun d hd => h d (by
        rcases List.mem_cons.mp hd with rfl | hd
        · simp
        · simp [hd])
      rcases List.mem_cons.mp hy with rfl | hy
      · exact k y (by simp)
      · rcases List.mem_cons.mp hy with rfl | hy
        · exact Int.le_trans (l.2 e) (k x (by simp))
        · exact k y (by simp [hy])
end G

namespace G
open PySem L2
/-- a loop that goes on or returns one thing -/
theorem forRun_chk {α : Type} {t : Tg} {g : Bool} {ex : List Sl → Option Rz} {f : α → D} {p : α → Bool} {r : Rs} (st : List Sl → Prop) : ∀ (as : List α) (δ : List Sl), st δ →
    (∀ a ∈ as, ∀ δ, st δ → ∃ δ1, t.run g (f a) δ = some δ1 ∧ (p a = true → ∃ δ2, ex δ1 = some (.nx δ2) ∧ st δ2) ∧ (p a = false → ex δ1 = some (.rt r))) →
    (as.all p = true → ∃ δ', forRun t g ex (as.map f) δ = some (.nx δ') ∧ st δ') ∧ (as.all p = false → forRun t g ex (as.map f) δ = some (.rt r))
  | [], δ, h, _ => ⟨fun _ => ⟨δ, rfl, h⟩, fun z => by simp at z⟩
  | a :: as, δ, h, k => by
    obtain ⟨δ1, e1, k1, k2⟩ := k a (by simp) δ h
    simp only [List.map_cons, forRun, e1, List.all_cons]
    cases hp : p a with
    | true =>
      obtain ⟨δ2, e2, h2⟩ := k1 hp
      simp only [e2, Bool.true_and]
      exact forRun_chk st as δ2 h2 fun a' ha' => k a' (by simp [ha'])
    | false =>
      simp only [k2 hp, Bool.false_and]
      exact ⟨fun z => by simp at z, fun _ => by simp⟩
theorem exec3_nx {Γ : Ga} {a r : S3} {δ δ1 : List Sl} {z : Option Rz} (h : exec3 Γ a δ = some (.nx δ1)) (k : exec3 Γ r δ1 = z) : exec3 Γ (.seq a r) δ = z := by
  simp only [exec3, h]
  exact k
theorem exec3_rt {Γ : Ga} {a r : S3} {δ : List Sl} {v : Rs} (h : exec3 Γ a δ = some (.rt v)) : exec3 Γ (.seq a r) δ = some (.rt v) := by
  simp only [exec3, h]
theorem exec3_ret {Γ : Ga} {e : E} {δ : List Sl} {r : Rs} (h : eval Γ e δ = some r) : exec3 Γ (.ret e) δ = some (.rt r) := by
  simp only [exec3, h]
theorem exec3_loop {Γ : Ga} {t : Tg} {it : E} {b : S3} {δ : List Sl} {ds : List D} {g : Bool} {z : Rz} (h : evalI Γ it δ = some (ds, g)) (r : forRun t g (fun δ => exec3 Γ b δ) ds δ = some z) : exec3 Γ (.loop t it b) δ = some z := by
  simp only [exec3, h]
  exact r
theorem exec3_own {Γ : Ga} {i : Nat} {e : E} {δ : List Sl} {d : D} {g : Bool} (h : eval Γ e δ = some (d, true, g)) (t : trOk Γ e d = true) : exec3 Γ (.ownT i e) δ = some (.nx ((δ.map (dropAl i)).set i (.tr d))) := by
  simp only [exec3, h, t, if_true]
theorem exec3_tapp {Γ : Ga} {i j : Nat} {ss : List Ps} {e : E} {δ : List Sl} {q : List Nat} {d x : D} {ds : List D} {g : Bool} (n : nodeOf Γ δ i ss = some (j, q, d, .ls ds)) (h : eval Γ e δ = some (x, true, g)) (t : trOk Γ e x = true) (l : ds.length < 100000) : exec3 Γ (.tapp i ss e) δ = some (.nx ((δ.map (keepAl j q)).set j (.tr (d.put q (.ls (ds ++ [x])))))) := by
  simp only [exec3, n, h, t, l, and_self, if_true]
theorem exec3_tset {Γ : Ga} {i j m : Nat} {ss : List Ps} {b e : E} {δ : List Sl} {q : List Nat} {d x : D} {ds : List D} {k : Int} {f g g' : Bool} (h : eval Γ e δ = some (x, true, g)) (t : trOk Γ e x = true) (n : nodeOf Γ δ i ss = some (j, q, d, .ls ds)) (hb : eval Γ b δ = some (.int k, f, g')) (hm : ixN ds.length k = some m) : exec3 Γ (.tset i ss b e) δ = some (.nx ((δ.map (keepAl j q)).set j (.tr (d.put q (.ls (ds.set m x)))))) := by
  simp only [exec3, n, h, t, hb, hm, if_true]
theorem exec3_pl {Γ : Ga} {s : S} {δ : List Sl} {z : Option Rz} (n : δ.map noRg = δ) (h : exec Γ s δ = z) : exec3 Γ (.pl s) δ = z := by
  simp only [exec3, n]
  exact h
end G
namespace G
open PySem L2
theorem exec_frz_of {Γ : Ga} {i : Nat} {r : S} {δ : List Sl} {ds : List D} {g : Bool} (h : δ[i]? = some (.ow ds g)) : exec Γ (.frz i r) δ = exec Γ r (δ.set i (.sh (.ls ds) g)) := by
  simp only [exec, h]
end G
namespace G
open PySem L2
/-! ### runs that are written out, by the kernel -/
mutual
def beqD : D → D → Bool
  | .non, .non => true
  | .bl a, .bl b => a == b
  | .int a, .int b => decide (a = b)
  | .str a, .str b => decide (a = b)
  | .ls a, .ls b => beqDs a b
  | .tp a, .tp b => beqDs a b
  | .ob c a, .ob d b => decide (c = d) && beqDs a b
  | _, _ => false
def beqDs : List D → List D → Bool
  | [], [] => true
  | a :: r, b :: s => beqD a b && beqDs r s
  | _, _ => false
end
mutual
theorem beqD_eq : ∀ {a b : D}, beqD a b = true → a = b
  | .non, b, h => by cases b <;> simp [beqD] at h ⊢
  | .bl a, b, h => by cases b <;> simp [beqD] at h ⊢; exact h
  | .int a, b, h => by cases b <;> simp [beqD] at h ⊢; exact h
  | .str a, b, h => by cases b <;> simp [beqD] at h ⊢; exact h
  | .ls a, b, h => by cases b <;> simp [beqD] at h ⊢; exact beqDs_eq h
  | .tp a, b, h => by cases b <;> simp [beqD] at h ⊢; exact beqDs_eq h
  | .ob c a, b, h => by cases b <;> simp [beqD] at h ⊢; exact ⟨h.1, beqDs_eq h.2⟩
theorem beqDs_eq : ∀ {a b : List D}, beqDs a b = true → a = b
  | [], [], _ => rfl
  | [], _ :: _, h => by simp [beqDs] at h
  | _ :: _, [], h => by simp [beqDs] at h
  | a :: r, b :: s, h => by
    simp only [beqDs, Bool.and_eq_true] at h
    rw [beqD_eq h.1, beqDs_eq h.2]
end
def beqO : Option D → D → Bool
  | some a, b => beqD a b
  | none, _ => false
theorem beqO_eq {a : Option D} {b : D} (h : beqO a b = true) : a = some b := by
  cases a with
  | none => simp [beqO] at h
  | some a => rw [beqD_eq h]
end G
namespace G
open PySem L2
def ckB {α β : Type} (p : β → α → Bool) (up : β → α → β) : β → List α → Bool
  | _, [] => true
  | b, a :: r => p b a && ckB p up (up b a) r
/-- a loop that goes on with a state or returns one thing -/
theorem forRun_chkI {α β : Type} {t : Tg} {g : Bool} {ex : List Sl → Option Rz} {f : α → D} {p : β → α → Bool} {up : β → α → β} {r : Rs} (st : Nat → β → List Sl → Prop) : ∀ (as : List α) (i : Nat) (b : β) (δ : List Sl), st i b δ →
    (∀ (j : Nat) a b δ, as[j]? = some a → st (i + j) b δ → ∃ δ1, t.run g (f a) δ = some δ1 ∧ (p b a = true → ∃ δ2, ex δ1 = some (.nx δ2) ∧ st (i + j + 1) (up b a) δ2) ∧ (p b a = false → ex δ1 = some (.rt r))) →
    (ckB p up b as = true → ∃ δ' b', forRun t g ex (as.map f) δ = some (.nx δ') ∧ st (i + as.length) b' δ') ∧ (ckB p up b as = false → forRun t g ex (as.map f) δ = some (.rt r))
  | [], i, b, δ, h, _ => ⟨fun _ => ⟨δ, b, rfl, h⟩, fun z => by simp [ckB] at z⟩
  | a :: as, i, b, δ, h, k => by
    obtain ⟨δ1, e1, k1, k2⟩ := k 0 a b δ rfl h
    simp only [List.map_cons, forRun, e1, ckB]
    cases hp : p b a with
    | true =>
      obtain ⟨δ2, e2, h2⟩ := k1 hp
      simp only [e2, Bool.true_and]
      have := forRun_chkI st as (i + 1) (up b a) δ2 h2 fun j a' b' δ' hj hs => by
        have := k (j + 1) a' b' δ' (by simpa using hj) (by rw [show i + (j + 1) = i + 1 + j by omega]; exact hs)
        rw [show i + (j + 1) + 1 = i + 1 + j + 1 by omega] at this
        exact this
      rw [List.length_cons, show i + (as.length + 1) = i + 1 + as.length by omega]
      exact this
    | false =>
      simp only [k2 hp, Bool.false_and]
      exact ⟨fun z => by simp at z, fun _ => by simp⟩
end G

namespace G
open PySem L2
/-! closed ends of a run -/
theorem nd_of {F : Nd} {ds fs : List D} (h : beqO ((F.run ds).map D.ls) (.ls fs) = true) : F.run ds = some fs := by
  have := beqO_eq h
  cases e : F.run ds with
  | none => rw [e] at this; cases this
  | some x => rw [e] at this; cases this; rfl
theorem rv_call {Γ : Ga} {k : Nat} {F : Fd} {es : E} {δ : List Sl} {ds : List D} {f g b : Bool} (hk : Γ.fs[k]? = some F) (ha : evalA Γ es δ = some (ds, f, g)) (hl : ds.length = F.ar) (hr : F.run ds = some (.bl b)) : eval Γ (.call k es) δ = some (.bl b, true, true) := by
  rw [eval, hk]
  simp only [ha, hr]
  rw [if_pos hl]
  simp [D.flat]
theorem rv_new {Γ : Ga} {k : Nat} {F : Nd} {es : E} {δ : List Sl} {ds fs : List D} {f g : Bool} (hk : Γ.nd[k]? = some F) (ha : evalA Γ es δ = some (ds, f, g)) (hl : ds.length = F.ar) (hr : F.run ds = some fs) : eval Γ (.new k es) δ = some (.ob F.cl fs, F.fr || f, F.fr) := by
  rw [eval, hk]
  simp only [ha, hr]
  rw [if_pos hl]
theorem rv_not {Γ : Ga} {e : E} {δ : List Sl} {b f g : Bool} (h : eval Γ e δ = some (.bl b, f, g)) : eval Γ (.not e) δ = some (.bl (!b), true, true) := by
  rw [eval, h]
theorem rv_isnb {Γ : Ga} {e : E} {δ : List Sl} {b c f g : Bool} (h : eval Γ e δ = some (.bl b, f, g)) : eval Γ (.isnb e (.bl c)) δ = some (.bl (!decide (b = c)), true, true) := by
  rw [eval, h]
  simp only [eval]
theorem rv_isb {Γ : Ga} {e : E} {δ : List Sl} {b c f g : Bool} (h : eval Γ e δ = some (.bl b, f, g)) : eval Γ (.isb e (.bl c)) δ = some (.bl (decide (b = c)), true, true) := by
  rw [eval, h]
  simp only [eval]
theorem rv_or {Γ : Ga} {a b : E} {δ : List Sl} {f g : Bool} {r : Option Rs} (h : eval Γ a δ = some (.bl false, f, g)) (k : eval Γ b δ = r) : eval Γ (.or a b) δ = r := by
  rw [eval, h]
  exact k
theorem rv_and {Γ : Ga} {a b : E} {δ : List Sl} {f g : Bool} {r : Option Rs} (h : eval Γ a δ = some (.bl true, f, g)) (k : eval Γ b δ = r) : eval Γ (.and a b) δ = r := by
  rw [eval, h]
  exact k
theorem forRun_cons {t : Tg} {g : Bool} {ex : List Sl → Option Rz} {d : D} {r : List D} {δ δ1 δ2 : List Sl} {z : Option Rz} (h : t.run g d δ = some δ1) (k : ex δ1 = some (.nx δ2)) (m : forRun t g ex r δ2 = z) : forRun t g ex (d :: r) δ = z := by
  rw [forRun, h]
  simp only [k]
  exact m
/-- a test that does not hold, before an early end -/
theorem exec_pass {Γ : Ga} {c : E} {a r : S} {δ : List Sl} {f g : Bool} {z : Option Rz} (t : isTst c = true) (h : eval Γ c δ = some (.bl false, f, g)) (k : exec Γ r δ = z) : exec Γ (.seq (.ite c a .nil) r) δ = z :=
  exec_nx ((exec_ite_f t h).trans rfl) k
end G

namespace K09
open PySem L2 G
/-! the compact text of each def, by gen.py -/
def kss : List D := [.tp [.str "point", .str "back"]]
def cns : List (List Str) := [["heard"], [], ["heard"], ["lists"], ["least", "low", "most", "high"]]
def sbs : List (List Bool) := [[true, false, false, false, false], [false, true, false, false, false], [false, true, true, false, false], [false, true, false, true, false], [false, true, false, false, true]]
def c_is_whole : S := (.seq (.ret (.and (.isI .int (.var 0)) (.not (.isI .bool (.var 0))))) .nil)
def ga_is_whole : Ga := ⟨[], kss, cns, sbs, [("count_of", []), ("counting", []), ("notes", []), ("score", [])], []⟩
def fd_is_whole : Fd := mkFd ga_is_whole 1 1 false c_is_whole
def c_is_count : S := (.seq (.ret (.and (.call 0 (.cons (.var 0) .nil)) (.chn .le .le (.var 1) (.var 0) (.var 2)))) .nil)
def ga_is_count : Ga := ⟨[fd_is_whole], kss, cns, sbs, [("count_of", []), ("counting", []), ("notes", []), ("score", [])], []⟩
def fd_is_count : Fd := mkFd ga_is_count 3 3 false c_is_count
def c_is_word : S := (.seq (.ite (.or (.not (.isI .tuple (.var 0))) (.or (.ne (.len (.var 0)) (.int 2)) (.not (.isI .str (.ix (.var 0) (.int 0)))))) (.seq (.ret (.bl false)) .nil) .nil) (.seq (.ret (.and (.inT (.ix (.var 0) (.int 0)) (.kon 0)) (.call 1 (.cons (.ix (.var 0) (.int 1)) (.cons (.int 0) (.cons (.int 1) .nil)))))) .nil))
def ga_is_word : Ga := ⟨[fd_is_whole, fd_is_count], kss, cns, sbs, [("count_of", []), ("counting", []), ("notes", []), ("score", [])], []⟩
def fd_is_word : Fd := mkFd ga_is_word 1 1 false c_is_word
def m_check_notes_1 : E := (.lc (.nm 2) (.itL (.var 1)) (.call 2 (.cons (.var 2) .nil)))
def l_check_notes_1 : S := (.seq (.ite (.or (.not (.isI .list (.var 1))) (.or (.cmp .gt (.len (.var 1)) (.int 6)) (.not (.all m_check_notes_1)))) (.seq .die .nil) .nil) .nil)
def c_check_notes : S := (.seq (.ite (.or (.not (.isI .list (.var 0))) (.not (.chn .le .le (.int 1) (.len (.var 0)) (.int 3)))) (.seq .die .nil) .nil) (.seq (.loop (.nm 1) (.itL (.var 0)) l_check_notes_1) .nil))
def ga_check_notes : Ga := ⟨[fd_is_whole, fd_is_count, fd_is_word], kss, cns, sbs, [("count_of", []), ("counting", []), ("notes", []), ("score", [])], []⟩
def fd_check_notes : Fd := mkFd ga_check_notes 1 3 false c_check_notes
def c_check_hand : S := (.seq (.ite (.not (.call 1 (.cons (.var 1) (.cons (.int 0) (.cons (.bin .sub (.var 0) (.int 1)) .nil))))) (.seq .die .nil) .nil) .nil)
def ga_check_hand : Ga := ⟨[fd_is_whole, fd_is_count, fd_is_word, fd_check_notes], kss, cns, sbs, [("count_of", []), ("counting", []), ("notes", []), ("score", [])], []⟩
def fd_check_hand : Fd := mkFd ga_check_hand 2 2 false c_check_hand
def l_score_of_1 : S := (.seq (.aix 2 (.var 6) (.ite (.eq (.var 5) (.str "point")) (.int 1) (.neg (.int 1)))) .nil)
def l_score_of_2 : S := (.seq (.loop (.t2 (.nm 5) (.nm 6)) (.itL (.sl (.var 3) .nil (.cons (.var 4) .nil))) l_score_of_1) .nil)
def c_score_of : S := (.seq (.own 2 (.lst (.cons (.int 0) (.cons (.int 0) .nil)))) (.seq (.loop (.t2 (.nm 3) (.nm 4)) (.itZ (.var 0) (.var 1)) l_score_of_2) (.seq (.ret (.tup (.cons (.oix 2 (.int 0)) (.cons (.oix 2 (.int 1)) .nil)))) .nil)))
def ga_score_of : Ga := ⟨[fd_is_whole, fd_is_count, fd_is_word, fd_check_notes, fd_check_hand], kss, cns, sbs, [("count_of", []), ("counting", []), ("notes", []), ("score", [])], []⟩
def fd_score_of : Fd := mkFd ga_score_of 2 7 true c_score_of
def m_is_heard_1 : E := (.lc (.t2 (.nm 2) (.nm 3)) (.itZ (.var 0) (.var 1)) (.chn .le .le (.int 0) (.var 3) (.len (.var 2))))
def c_is_heard : S := (.seq (.ite (.ne (.len (.var 1)) (.len (.var 0))) (.seq (.ret (.bl false)) .nil) .nil) (.seq (.ret (.all m_is_heard_1)) .nil))
def ga_is_heard : Ga := ⟨[fd_is_whole, fd_is_count, fd_is_word, fd_check_notes, fd_check_hand, fd_score_of], kss, cns, sbs, [("count_of", []), ("counting", []), ("notes", []), ("score", [])], []⟩
def fd_is_heard : Fd := mkFd ga_is_heard 2 4 false c_is_heard
def m_all_heard_1 : E := (.lcf (.nm 8) (.itR (.bin .add (.len (.var 5)) (.int 1))) (.or (.ne (.var 4) (.var 1)) (.eq (.var 8) (.var 2))) (.cat (.var 7) (.lst (.cons (.var 8) .nil))))
def l_all_heard_1 : S := (.seq (.ext 6 m_all_heard_1) .nil)
def l_all_heard_2 : S := (.seq (.own 6 (.lst .nil)) (.seq (.loop (.nm 7) (.itL (.var 3)) l_all_heard_1) (.frz 6 (.seq (.asg (.nm 3) (.var 6)) .nil))))
def c_all_heard : S := (.seq (.asg (.nm 3) (.lst (.cons (.lst .nil) .nil))) (.seq (.loop (.t2 (.nm 4) (.nm 5)) (.itE (.var 0)) l_all_heard_2) (.seq (.ret (.var 3)) .nil)))
def ga_all_heard : Ga := ⟨[fd_is_whole, fd_is_count, fd_is_word, fd_check_notes, fd_check_hand, fd_score_of, fd_is_heard], kss, cns, sbs, [("count_of", []), ("counting", []), ("notes", []), ("score", [])], []⟩
def fd_all_heard : Fd := mkFd ga_all_heard 3 9 false c_all_heard
def m_is_no_less_1 : E := (.lc (.t2 (.nm 2) (.nm 3)) (.itZ (.var 0) (.var 1)) (.cmp .ge (.var 2) (.var 3)))
def c_is_no_less : S := (.seq (.ret (.all m_is_no_less_1)) .nil)
def ga_is_no_less : Ga := ⟨[fd_is_whole, fd_is_count, fd_is_word, fd_check_notes, fd_check_hand, fd_score_of, fd_is_heard, fd_all_heard], kss, cns, sbs, [("count_of", []), ("counting", []), ("notes", []), ("score", [])], []⟩
def fd_is_no_less : Fd := mkFd ga_is_no_less 2 4 false c_is_no_less
def m_Desk_init_1 : E := (.lc (.nm 2) (.itR (.var 1)) .dnew)
def c_Desk_init : List (Str × E) := [("heard", m_Desk_init_1)]
def ga_Desk_init : Ga := ⟨[fd_is_whole, fd_is_count, fd_is_word, fd_check_notes, fd_check_hand, fd_score_of, fd_is_heard, fd_all_heard, fd_is_no_less], kss, cns, sbs, [("count_of", []), ("counting", []), ("notes", []), ("score", [])], []⟩
def ck_Desk_init : E := (.not (.call 1 (.cons (.var 1) (.cons (.int 1) (.cons (.int 3) .nil)))))
def nd_Desk : Nd := mkNdTK ga_Desk_init 0 1 3 ck_Desk_init c_Desk_init
def c_Desk_count_of : S := (.seq (.par 2 3 false false (.ix (.fld "heard" (.var 0)) (.var 1)) (.int 0)) (.seq (.whl (.din (.var 3) (.var 2)) (.seq (.aug 3 (.int 1)) .nil)) (.seq (.ret (.var 3)) .nil)))
def ga_Desk_count_of : Ga := ⟨[fd_is_whole, fd_is_count, fd_is_word, fd_check_notes, fd_check_hand, fd_score_of, fd_is_heard, fd_all_heard, fd_is_no_less], kss, cns, sbs, [("count_of", []), ("counting", []), ("notes", []), ("score", [])], [nd_Desk]⟩
def fd_Desk_count_of : Fd := mkFd ga_Desk_count_of 2 4 false c_Desk_count_of
def c_Desk_hear : Sm := (.exp (.call 4 (.cons (.len (.fld "heard" (.var 0))) (.cons (.var 1) .nil))) (.gd (.not (.call 1 (.cons (.var 2) (.cons (.int 0) (.cons (.bin .sub (.int 6) (.int 1)) .nil))))) (.gd (.not (.call 2 (.cons (.var 3) .nil))) (.gd (.ne (.dget (.ix (.fld "heard" (.var 0)) (.var 1)) (.var 2) (.var 3)) (.var 3)) (.dput [(.fld "heard"), (.ix (.var 1))] (.var 2) (.var 3) (.ret (.meth 0 (.var 0) (.cons (.var 1) .nil))))))))
def ga_Desk_hear : Ga := ⟨[fd_is_whole, fd_is_count, fd_is_word, fd_check_notes, fd_check_hand, fd_score_of, fd_is_heard, fd_all_heard, fd_is_no_less, fd_Desk_count_of], kss, cns, sbs, [("count_of", [(0, fd_Desk_count_of)]), ("counting", []), ("notes", []), ("score", [])], [nd_Desk]⟩
def md_Desk_hear : Md := mkMd ga_Desk_hear 3 4 c_Desk_hear
def m_Desk_counting_1 : E := (.lc (.nm 1) (.itR (.len (.fld "heard" (.var 0)))) (.meth 0 (.var 0) (.cons (.var 1) .nil)))
def c_Desk_counting : S := (.seq (.ret m_Desk_counting_1) .nil)
def ga_Desk_counting : Ga := ⟨[fd_is_whole, fd_is_count, fd_is_word, fd_check_notes, fd_check_hand, fd_score_of, fd_is_heard, fd_all_heard, fd_is_no_less, fd_Desk_count_of], kss, cns, sbs, [("count_of", [(0, fd_Desk_count_of)]), ("counting", []), ("notes", []), ("score", [])], [nd_Desk]⟩
def fd_Desk_counting : Fd := mkFd ga_Desk_counting 1 2 true c_Desk_counting
def m_Desk_notes_1 : E := (.lc (.nm 1) (.itR (.var 3)) (.dix (.var 2) (.var 1)))
def m_Desk_notes_2 : E := (.lc (.t2 (.nm 2) (.nm 3)) (.itZ (.fld "heard" (.var 0)) (.meth 1 (.var 0) .nil)) m_Desk_notes_1)
def c_Desk_notes : S := (.seq (.ret m_Desk_notes_2) .nil)
def ga_Desk_notes : Ga := ⟨[fd_is_whole, fd_is_count, fd_is_word, fd_check_notes, fd_check_hand, fd_score_of, fd_is_heard, fd_all_heard, fd_is_no_less, fd_Desk_count_of, fd_Desk_counting], kss, cns, sbs, [("count_of", [(0, fd_Desk_count_of)]), ("counting", [(0, fd_Desk_counting)]), ("notes", []), ("score", [])], [nd_Desk]⟩
def fd_Desk_notes : Fd := mkFd ga_Desk_notes 1 4 false c_Desk_notes
def c_Desk_score : S := (.seq (.ret (.call 5 (.cons (.meth 2 (.var 0) .nil) (.cons (.meth 1 (.var 0) .nil) .nil)))) .nil)
def ga_Desk_score : Ga := ⟨[fd_is_whole, fd_is_count, fd_is_word, fd_check_notes, fd_check_hand, fd_score_of, fd_is_heard, fd_all_heard, fd_is_no_less, fd_Desk_count_of, fd_Desk_counting, fd_Desk_notes], kss, cns, sbs, [("count_of", [(0, fd_Desk_count_of)]), ("counting", [(0, fd_Desk_counting)]), ("notes", [(0, fd_Desk_notes)]), ("score", [])], [nd_Desk]⟩
def fd_Desk_score : Fd := mkFd ga_Desk_score 1 1 true c_Desk_score
def m_History_init_1 : E := (.lc (.nm 2) (.itL (.var 1)) (.toL (.var 2)))
def c_History_init : List (Str × E) := [("heard", m_History_init_1)]
def ga_History_init : Ga := ⟨[fd_is_whole, fd_is_count, fd_is_word, fd_check_notes, fd_check_hand, fd_score_of, fd_is_heard, fd_all_heard, fd_is_no_less, fd_Desk_count_of, fd_Desk_counting, fd_Desk_notes, fd_Desk_score], kss, cns, sbs, [("count_of", [(0, fd_Desk_count_of)]), ("counting", [(0, fd_Desk_counting)]), ("notes", [(0, fd_Desk_notes)]), ("score", [(0, fd_Desk_score)])], [nd_Desk]⟩
def nd_History : Nd := mkNdT ga_History_init 2 1 3 c_History_init
def m_Never_init_1 : E := (.lc (.nm 3) (.itL (.var 2)) (.toL (.var 3)))
def m_Never_init_2 : E := (.lc (.nm 2) (.itL (.var 1)) m_Never_init_1)
def c_Never_init : List (Str × E) := [("lists", m_Never_init_2)]
def ga_Never_init : Ga := ⟨[fd_is_whole, fd_is_count, fd_is_word, fd_check_notes, fd_check_hand, fd_score_of, fd_is_heard, fd_all_heard, fd_is_no_less, fd_Desk_count_of, fd_Desk_counting, fd_Desk_notes, fd_Desk_score], kss, cns, sbs, [("count_of", [(0, fd_Desk_count_of)]), ("counting", [(0, fd_Desk_counting)]), ("notes", [(0, fd_Desk_notes)]), ("score", [(0, fd_Desk_score)])], [nd_Desk, nd_History]⟩
def nd_Never : Nd := mkNdT ga_Never_init 3 1 4 c_Never_init
def c_Leads_init : List (Str × E) := [("least", (.var 1)), ("low", (.toL (.var 2))), ("most", (.var 3)), ("high", (.toL (.var 4)))]
def ga_Leads_init : Ga := ⟨[fd_is_whole, fd_is_count, fd_is_word, fd_check_notes, fd_check_hand, fd_score_of, fd_is_heard, fd_all_heard, fd_is_no_less, fd_Desk_count_of, fd_Desk_counting, fd_Desk_notes, fd_Desk_score], kss, cns, sbs, [("count_of", [(0, fd_Desk_count_of)]), ("counting", [(0, fd_Desk_counting)]), ("notes", [(0, fd_Desk_notes)]), ("score", [(0, fd_Desk_score)])], [nd_Desk, nd_History, nd_Never]⟩
def nd_Leads : Nd := mkNdT ga_Leads_init 4 4 5 c_Leads_init
def l_gone_over_1 : S := (.seq (.aix 6 (.var 2) (.int 1)) (.seq (.ite (.and (.cmp .ge (.oix 6 (.var 2)) (.var 3)) (.cmp .ge (.bin .sub (.oix 6 (.var 2)) (.oix 6 (.bin .sub (.int 1) (.var 2)))) (.var 4))) (.seq (.app 5 (.var 2)) (.seq (.own 6 (.lst (.cons (.int 0) (.cons (.int 0) .nil)))) .nil)) .nil) .nil))
def c_gone_over : S := (.seq (.asg (.t2 (.nm 3) (.nm 4)) (.var 0)) (.seq (.par 5 6 true true (.lst .nil) (.lst (.cons (.int 0) (.cons (.int 0) .nil)))) (.seq (.loop (.nm 2) (.itL (.var 1)) l_gone_over_1) (.seq (.ret (.tup (.cons (.var 5) (.cons (.tup (.cons (.oix 6 (.int 0)) (.cons (.oix 6 (.int 1)) .nil))) .nil)))) .nil))))
def ga_gone_over : Ga := ⟨[fd_is_whole, fd_is_count, fd_is_word, fd_check_notes, fd_check_hand, fd_score_of, fd_is_heard, fd_all_heard, fd_is_no_less, fd_Desk_count_of, fd_Desk_counting, fd_Desk_notes, fd_Desk_score], kss, cns, sbs, [("count_of", [(0, fd_Desk_count_of)]), ("counting", [(0, fd_Desk_counting)]), ("notes", [(0, fd_Desk_notes)]), ("score", [(0, fd_Desk_score)])], [nd_Desk, nd_History, nd_Never, nd_Leads]⟩
def fd_gone_over : Fd := mkFd ga_gone_over 2 7 true c_gone_over
def m_check_game_1 : E := (.lc (.nm 2) (.itL (.var 1)) (.call 1 (.cons (.var 2) (.cons (.int 0) (.cons (.int 1) .nil)))))
def c_check_game : S := (.seq (.ite (.or (.not (.isI .tuple (.var 0))) (.or (.ne (.len (.var 0)) (.int 2)) (.not (.call 1 (.cons (.ix (.var 0) (.int 0)) (.cons (.int 1) (.cons (.int 5) .nil))))))) (.seq .die .nil) .nil) (.seq (.ite (.not (.call 1 (.cons (.ix (.var 0) (.int 1)) (.cons (.int 1) (.cons (.int 2) .nil))))) (.seq .die .nil) .nil) (.seq (.ite (.or (.not (.isI .list (.var 1))) (.or (.cmp .gt (.len (.var 1)) (.int 60)) (.not (.all m_check_game_1)))) (.seq .die .nil) .nil) .nil)))
def ga_check_game : Ga := ⟨[fd_is_whole, fd_is_count, fd_is_word, fd_check_notes, fd_check_hand, fd_score_of, fd_is_heard, fd_all_heard, fd_is_no_less, fd_Desk_count_of, fd_Desk_counting, fd_Desk_notes, fd_Desk_score, fd_gone_over], kss, cns, sbs, [("count_of", [(0, fd_Desk_count_of)]), ("counting", [(0, fd_Desk_counting)]), ("notes", [(0, fd_Desk_notes)]), ("score", [(0, fd_Desk_score)])], [nd_Desk, nd_History, nd_Never, nd_Leads]⟩
def fd_check_game : Fd := mkFd ga_check_game 2 3 false c_check_game
def c_games : S := (.seq (.exp (.call 14 (.cons (.var 0) (.cons (.var 1) .nil)))) (.seq (.ret (.call 13 (.cons (.var 0) (.cons (.var 1) .nil)))) .nil))
def ga_games : Ga := ⟨[fd_is_whole, fd_is_count, fd_is_word, fd_check_notes, fd_check_hand, fd_score_of, fd_is_heard, fd_all_heard, fd_is_no_less, fd_Desk_count_of, fd_Desk_counting, fd_Desk_notes, fd_Desk_score, fd_gone_over, fd_check_game], kss, cns, sbs, [("count_of", [(0, fd_Desk_count_of)]), ("counting", [(0, fd_Desk_counting)]), ("notes", [(0, fd_Desk_notes)]), ("score", [(0, fd_Desk_score)])], [nd_Desk, nd_History, nd_Never, nd_Leads]⟩
def fd_games : Fd := mkFd ga_games 2 2 true c_games
def m_score_1 : E := (.lc (.nm 2) (.itL (.var 1)) (.call 0 (.cons (.var 2) .nil)))
def c_score : S := (.seq (.exp (.call 3 (.cons (.var 0) .nil))) (.seq (.ite (.or (.not (.isI .list (.var 1))) (.or (.not (.all m_score_1)) (.not (.call 6 (.cons (.var 0) (.cons (.var 1) .nil)))))) (.seq .die .nil) .nil) (.seq (.ret (.call 5 (.cons (.var 0) (.cons (.var 1) .nil)))) .nil)))
def ga_score : Ga := ⟨[fd_is_whole, fd_is_count, fd_is_word, fd_check_notes, fd_check_hand, fd_score_of, fd_is_heard, fd_all_heard, fd_is_no_less, fd_Desk_count_of, fd_Desk_counting, fd_Desk_notes, fd_Desk_score, fd_gone_over, fd_check_game, fd_games], kss, cns, sbs, [("count_of", [(0, fd_Desk_count_of)]), ("counting", [(0, fd_Desk_counting)]), ("notes", [(0, fd_Desk_notes)]), ("score", [(0, fd_Desk_score)])], [nd_Desk, nd_History, nd_Never, nd_Leads]⟩
def fd_score : Fd := mkFd ga_score 2 3 false c_score
def c_is_showing : S := (.seq (.ite (.or (.not (.isI .tuple (.var 0))) (.or (.ne (.len (.var 0)) (.int 3)) (.not (.call 1 (.cons (.ix (.var 0) (.int 0)) (.cons (.int 0) (.cons (.var 1) .nil))))))) (.seq (.ret (.bl false)) .nil) .nil) (.seq (.ret (.and (.call 0 (.cons (.ix (.var 0) (.int 1)) .nil)) (.call 0 (.cons (.ix (.var 0) (.int 2)) .nil)))) .nil))
def ga_is_showing : Ga := ⟨[fd_is_whole, fd_is_count, fd_is_word, fd_check_notes, fd_check_hand, fd_score_of, fd_is_heard, fd_all_heard, fd_is_no_less, fd_Desk_count_of, fd_Desk_counting, fd_Desk_notes, fd_Desk_score, fd_gone_over, fd_check_game, fd_games, fd_score], kss, cns, sbs, [("count_of", [(0, fd_Desk_count_of)]), ("counting", [(0, fd_Desk_counting)]), ("notes", [(0, fd_Desk_notes)]), ("score", [(0, fd_Desk_score)])], [nd_Desk, nd_History, nd_Never, nd_Leads]⟩
def fd_is_showing : Fd := mkFd ga_is_showing 2 2 false c_is_showing
def m_lists_of_1 : E := (.lcf (.nm 8) (.itL (.call 7 (.cons (.var 0) (.cons (.var 1) (.cons (.var 4) .nil))))) (.eq (.call 5 (.cons (.var 0) (.cons (.var 8) .nil))) (.tup (.cons (.var 5) (.cons (.var 6) .nil)))) (.var 8))
def m_lists_of_2 : E := (.lc (.nm 9) (.itL (.oix 3 (.neg (.int 1)))) (.call 8 (.cons (.var 8) (.cons (.var 9) .nil))))
def m_lists_of_3 : E := (.lcf (.nm 8) (.itL (.var 7)) (.any m_lists_of_2) (.var 8))
def l_lists_of_1 : S := (.seq (.asg (.nm 7) m_lists_of_1) (.seq (.ite (.ne (.var 3) (.lst .nil)) (.seq (.asg (.nm 7) m_lists_of_3) .nil) .nil) (.seq (.app 3 (.var 7)) .nil)))
def c_lists_of : S := (.seq (.own 3 (.lst .nil)) (.seq (.loop (.t3 (.nm 4) (.nm 5) (.nm 6)) (.itL (.var 2)) l_lists_of_1) (.seq (.ret (.var 3)) .nil)))
def ga_lists_of : Ga := ⟨[fd_is_whole, fd_is_count, fd_is_word, fd_check_notes, fd_check_hand, fd_score_of, fd_is_heard, fd_all_heard, fd_is_no_less, fd_Desk_count_of, fd_Desk_counting, fd_Desk_notes, fd_Desk_score, fd_gone_over, fd_check_game, fd_games, fd_score, fd_is_showing], kss, cns, sbs, [("count_of", [(0, fd_Desk_count_of)]), ("counting", [(0, fd_Desk_counting)]), ("notes", [(0, fd_Desk_notes)]), ("score", [(0, fd_Desk_score)])], [nd_Desk, nd_History, nd_Never, nd_Leads]⟩
def fd_lists_of : Fd := mkFd ga_lists_of 3 10 false c_lists_of
def m_history_of_1 : E := (.lcf (.nm 3) (.itL (.var 2)) (.call 8 (.cons (.oix 1 (.neg (.int 1))) (.cons (.var 3) .nil))) (.var 3))
def l_history_of_1 : S := (.seq (.app 1 (.ix m_history_of_1 (.int 0))) .nil)
def c_history_of : S := (.seq (.own 1 (.ite (.ne (.var 0) (.lst .nil)) (.lst (.cons (.ix (.ix (.var 0) (.neg (.int 1))) (.int 0)) .nil)) (.lst .nil))) (.seq (.loop (.nm 2) (.itL (.sl (.rev (.var 0)) (.cons (.int 1) .nil) .nil)) l_history_of_1) (.seq (.ret (.rev (.var 1))) .nil)))
def ga_history_of : Ga := ⟨[fd_is_whole, fd_is_count, fd_is_word, fd_check_notes, fd_check_hand, fd_score_of, fd_is_heard, fd_all_heard, fd_is_no_less, fd_Desk_count_of, fd_Desk_counting, fd_Desk_notes, fd_Desk_score, fd_gone_over, fd_check_game, fd_games, fd_score, fd_is_showing, fd_lists_of], kss, cns, sbs, [("count_of", [(0, fd_Desk_count_of)]), ("counting", [(0, fd_Desk_counting)]), ("notes", [(0, fd_Desk_notes)]), ("score", [(0, fd_Desk_score)])], [nd_Desk, nd_History, nd_Never, nd_Leads]⟩
def fd_history_of : Fd := mkFd ga_history_of 1 4 false c_history_of
def m_judged_1 : E := (.lc (.nm 4) (.itL (.var 2)) (.call 17 (.cons (.var 4) (.cons (.len (.ix (.var 0) (.var 1))) .nil))))
def m_judged_2 : E := (.lc (.t2 (.nm 4) (.nm 5)) (.itZ (.var 2) (.sl (.var 2) (.cons (.int 1) .nil) .nil)) (.cmp .gt (.ix (.var 4) (.int 0)) (.ix (.var 5) (.int 0))))
def c_judged : S := (.seq (.exp (.call 3 (.cons (.var 0) .nil))) (.seq (.exp (.call 4 (.cons (.len (.var 0)) (.cons (.var 1) .nil)))) (.seq (.ite (.or (.not (.isI .list (.var 2))) (.cmp .gt (.len (.var 2)) (.int 5))) (.seq .die .nil) .nil) (.seq (.ite (.not (.all m_judged_1)) (.seq .die .nil) .nil) (.seq (.ite (.any m_judged_2) (.seq .die .nil) .nil) (.seq (.asg (.nm 3) (.call 18 (.cons (.var 0) (.cons (.var 1) (.cons (.var 2) .nil))))) (.seq (.ret (.ite (.and (.ne (.var 3) (.lst .nil)) (.eq (.ix (.var 3) (.neg (.int 1))) (.lst .nil))) (.new 2 (.cons (.var 3) .nil)) (.new 1 (.cons (.call 19 (.cons (.var 3) .nil)) .nil)))) .nil)))))))
def ga_judged : Ga := ⟨[fd_is_whole, fd_is_count, fd_is_word, fd_check_notes, fd_check_hand, fd_score_of, fd_is_heard, fd_all_heard, fd_is_no_less, fd_Desk_count_of, fd_Desk_counting, fd_Desk_notes, fd_Desk_score, fd_gone_over, fd_check_game, fd_games, fd_score, fd_is_showing, fd_lists_of, fd_history_of], kss, cns, sbs, [("count_of", [(0, fd_Desk_count_of)]), ("counting", [(0, fd_Desk_counting)]), ("notes", [(0, fd_Desk_notes)]), ("score", [(0, fd_Desk_score)])], [nd_Desk, nd_History, nd_Never, nd_Leads]⟩
def fd_judged : Fd := mkFdT ga_judged 3 6 true c_judged
def l_leads_1 : S := (.seq (.asg (.t2 (.nm 7) (.nm 8)) (.call 5 (.cons (.var 0) (.cons (.var 4) .nil)))) (.seq (.app 3 (.tup (.cons (.bin .sub (.var 7) (.var 8)) (.cons (.var 4) .nil)))) .nil))
def c_leads : S := (.seq (.exp (.call 3 (.cons (.var 0) .nil))) (.seq (.exp (.call 4 (.cons (.len (.var 0)) (.cons (.var 1) .nil)))) (.seq (.ite (.not (.call 1 (.cons (.var 2) (.cons (.int 0) (.cons (.len (.ix (.var 0) (.var 1))) .nil))))) (.seq .die .nil) .nil) (.seq (.own 3 (.lst .nil)) (.seq (.loop (.nm 4) (.itL (.call 7 (.cons (.var 0) (.cons (.var 1) (.cons (.var 2) .nil))))) l_leads_1) (.frz 3 (.seq (.par 5 6 false false (.minL (.var 3)) (.maxL (.var 3))) (.seq (.ret (.new 3 (.cons (.ix (.var 5) (.int 0)) (.cons (.ix (.var 5) (.int 1)) (.cons (.ix (.var 6) (.int 0)) (.cons (.ix (.var 6) (.int 1)) .nil)))))) .nil))))))))
def ga_leads : Ga := ⟨[fd_is_whole, fd_is_count, fd_is_word, fd_check_notes, fd_check_hand, fd_score_of, fd_is_heard, fd_all_heard, fd_is_no_less, fd_Desk_count_of, fd_Desk_counting, fd_Desk_notes, fd_Desk_score, fd_gone_over, fd_check_game, fd_games, fd_score, fd_is_showing, fd_lists_of, fd_history_of, fd_judged], kss, cns, sbs, [("count_of", [(0, fd_Desk_count_of)]), ("counting", [(0, fd_Desk_counting)]), ("notes", [(0, fd_Desk_notes)]), ("score", [(0, fd_Desk_score)])], [nd_Desk, nd_History, nd_Never, nd_Leads]⟩
def fd_leads : Fd := mkFdT ga_leads 3 9 true c_leads
def c__law_cell_at : S := (.seq (.ite (.cmp .lt (.var 1) (.len (.var 0))) (.seq (.ret (.ix (.var 0) (.var 1))) .nil) .nil) (.seq (.ret (.int 0)) .nil))
def ga__law_cell_at : Ga := ⟨[fd_is_whole, fd_is_count, fd_is_word, fd_check_notes, fd_check_hand, fd_score_of, fd_is_heard, fd_all_heard, fd_is_no_less, fd_Desk_count_of, fd_Desk_counting, fd_Desk_notes, fd_Desk_score, fd_gone_over, fd_check_game, fd_games, fd_score, fd_is_showing, fd_lists_of, fd_history_of, fd_judged, fd_leads], kss, cns, sbs, [("count_of", [(0, fd_Desk_count_of)]), ("counting", [(0, fd_Desk_counting)]), ("notes", [(0, fd_Desk_notes)]), ("score", [(0, fd_Desk_score)])], [nd_Desk, nd_History, nd_Never, nd_Leads]⟩
def fd__law_cell_at : Fd := mkFd ga__law_cell_at 2 2 false c__law_cell_at
def c__law_draw : S := (.seq (.asg (.nm 3) (.tup (.cons (.int 1000003) (.cons (.int 1000033) (.cons (.int 1000037) (.cons (.int 1000039) (.cons (.int 1000081) (.cons (.int 1000099) (.cons (.int 1000117) (.cons (.int 1000121) (.cons (.int 1000133) (.cons (.int 1000151) (.cons (.int 1000159) (.cons (.int 1000171) (.cons (.int 1000183) (.cons (.int 1000187) (.cons (.int 1000193) (.cons (.int 1000199) .nil)))))))))))))))))) (.seq (.ret (.bin .mod (.bin .mod (.bin .add (.bin .mul (.var 0) (.int 48271)) (.bin .mul (.var 1) (.int 69621))) (.ix (.var 3) (.bin .mod (.var 1) (.int 16)))) (.var 2))) .nil))
def ga__law_draw : Ga := ⟨[fd_is_whole, fd_is_count, fd_is_word, fd_check_notes, fd_check_hand, fd_score_of, fd_is_heard, fd_all_heard, fd_is_no_less, fd_Desk_count_of, fd_Desk_counting, fd_Desk_notes, fd_Desk_score, fd_gone_over, fd_check_game, fd_games, fd_score, fd_is_showing, fd_lists_of, fd_history_of, fd_judged, fd_leads, fd__law_cell_at], kss, cns, sbs, [("count_of", [(0, fd_Desk_count_of)]), ("counting", [(0, fd_Desk_counting)]), ("notes", [(0, fd_Desk_notes)]), ("score", [(0, fd_Desk_score)])], [nd_Desk, nd_History, nd_Never, nd_Leads]⟩
def fd__law_draw : Fd := mkFd ga__law_draw 3 4 false c__law_draw
def c__law_value : S := (.seq (.ite (.cmp .ge (.var 0) (.bin .pow (.int 10) (.int 18))) (.seq (.ret (.bin .shr (.bin .mod (.bin .sub (.var 0) (.bin .pow (.int 10) (.int 18))) (.bin .pow (.int 10) (.int 40))) (.bin .mul (.int 3) (.var 1)))) .nil) .nil) (.seq (.asg (.nm 2) (.call 23 (.cons (.bin .mul (.bin .add (.var 0) (.bin .mul (.int 977) (.var 1))) (.bin .add (.bin .add (.var 0) (.bin .mul (.int 31) (.var 1))) (.int 5))) (.cons (.bin .add (.bin .mod (.var 1) (.int 9)) (.int 1)) (.cons (.int 999983) .nil))))) (.seq (.ret (.bin .add (.bin .mul (.var 2) (.int 1000003)) (.call 23 (.cons (.bin .add (.bin .mul (.bin .add (.var 0) (.bin .mul (.int 31) (.var 1))) (.bin .add (.var 0) (.int 7))) (.bin .mul (.int 977) (.var 1))) (.cons (.bin .add (.bin .mod (.var 1) (.int 7)) (.int 2)) (.cons (.int 1000003) .nil)))))) .nil)))
def ga__law_value : Ga := ⟨[fd_is_whole, fd_is_count, fd_is_word, fd_check_notes, fd_check_hand, fd_score_of, fd_is_heard, fd_all_heard, fd_is_no_less, fd_Desk_count_of, fd_Desk_counting, fd_Desk_notes, fd_Desk_score, fd_gone_over, fd_check_game, fd_games, fd_score, fd_is_showing, fd_lists_of, fd_history_of, fd_judged, fd_leads, fd__law_cell_at, fd__law_draw], kss, cns, sbs, [("count_of", [(0, fd_Desk_count_of)]), ("counting", [(0, fd_Desk_counting)]), ("notes", [(0, fd_Desk_notes)]), ("score", [(0, fd_Desk_score)])], [nd_Desk, nd_History, nd_Never, nd_Leads]⟩
def fd__law_value : Fd := mkFd ga__law_value 2 3 false c__law_value
def l__law_notes_1 : S := (.seq (.asg (.nm 9) (.bin .mod (.bin .fdiv (.var 6) (.ix (.tup (.cons (.int 7) (.cons (.int 49) (.cons (.int 343) (.cons (.int 2401) (.cons (.int 16807) (.cons (.int 117649) .nil))))))) (.var 8))) (.int 7))) (.seq (.asg (.nm 10) (.ite (.eq (.var 2) (.int 2)) (.bin .mod (.bin .fdiv (.var 9) (.int 2)) (.int 2)) (.bin .fdiv (.var 9) (.int 6)))) (.seq (.app 7 (.tup (.cons (.ix (.tup (.cons (.str "point") (.cons (.str "back") .nil))) (.var 10)) (.cons (.bin .mod (.var 9) (.int 2)) .nil)))) .nil)))
def l__law_notes_2 : S := (.seq (.asg (.nm 6) (.bin .fdiv (.call 24 (.cons (.bin .add (.call 22 (.cons (.var 0) (.cons (.bin .add (.var 1) (.var 3)) .nil))) (.bin .mul (.int 17) (.var 3))) (.cons (.int 2) .nil))) (.int 3))) (.seq (.own 7 (.lst .nil)) (.seq (.loop (.nm 8) (.itR (.bin .mod (.var 6) (.int 7))) l__law_notes_1) (.frz 7 (.seq (.app 5 (.var 7)) .nil)))))
def c__law_notes : S := (.seq (.par 4 5 false true (.call 24 (.cons (.call 22 (.cons (.var 0) (.cons (.var 1) .nil))) (.cons (.int 1) .nil))) (.lst .nil)) (.seq (.asg (.nm 2) (.bin .mod (.bin .fdiv (.var 4) (.int 3)) (.int 3))) (.seq (.loop (.nm 3) (.itR (.bin .add (.int 1) (.bin .mod (.bin .add (.var 4) (.int 2)) (.int 3)))) l__law_notes_2) (.seq (.ret (.var 5)) .nil))))
def ga__law_notes : Ga := ⟨[fd_is_whole, fd_is_count, fd_is_word, fd_check_notes, fd_check_hand, fd_score_of, fd_is_heard, fd_all_heard, fd_is_no_less, fd_Desk_count_of, fd_Desk_counting, fd_Desk_notes, fd_Desk_score, fd_gone_over, fd_check_game, fd_games, fd_score, fd_is_showing, fd_lists_of, fd_history_of, fd_judged, fd_leads, fd__law_cell_at, fd__law_draw, fd__law_value], kss, cns, sbs, [("count_of", [(0, fd_Desk_count_of)]), ("counting", [(0, fd_Desk_counting)]), ("notes", [(0, fd_Desk_notes)]), ("score", [(0, fd_Desk_score)])], [nd_Desk, nd_History, nd_Never, nd_Leads]⟩
def fd__law_notes : Fd := mkFd ga__law_notes 2 11 false c__law_notes
def m__law_turns_1 : E := (.lc (.nm 8) (.itL (.var 2)) (.len (.var 8)))
def m__law_turns_2 : E := (.lcf (.t2 (.nm 7) (.nm 8)) (.itE (.var 2)) (.cmp .lt (.oix 4 (.var 7)) (.len (.var 8))) (.var 7))
def l__law_turns_1 : S := (.seq (.asg (.nm 6) m__law_turns_2) (.seq (.asg (.nm 7) (.ix (.var 6) (.bin .mod (.call 24 (.cons (.bin .add (.call 22 (.cons (.var 0) (.cons (.bin .add (.var 1) (.bin .mod (.var 3) (.int 7))) .nil))) (.bin .mul (.int 23) (.var 3))) (.cons (.int 4) .nil))) (.len (.var 6))))) (.seq (.app 5 (.tup (.cons (.var 7) (.cons (.oix 4 (.var 7)) .nil)))) (.seq (.six 4 (.var 7) (.bin .add (.oix 4 (.var 7)) (.int 1))) .nil))))
def c__law_turns : S := (.seq (.par 4 5 true true (.rep (.lst (.cons (.int 0) .nil)) (.len (.var 2))) (.lst .nil)) (.seq (.loop (.nm 3) (.itR (.sum m__law_turns_1)) l__law_turns_1) (.seq (.ret (.var 5)) .nil)))
def ga__law_turns : Ga := ⟨[fd_is_whole, fd_is_count, fd_is_word, fd_check_notes, fd_check_hand, fd_score_of, fd_is_heard, fd_all_heard, fd_is_no_less, fd_Desk_count_of, fd_Desk_counting, fd_Desk_notes, fd_Desk_score, fd_gone_over, fd_check_game, fd_games, fd_score, fd_is_showing, fd_lists_of, fd_history_of, fd_judged, fd_leads, fd__law_cell_at, fd__law_draw, fd__law_value, fd__law_notes], kss, cns, sbs, [("count_of", [(0, fd_Desk_count_of)]), ("counting", [(0, fd_Desk_counting)]), ("notes", [(0, fd_Desk_notes)]), ("score", [(0, fd_Desk_score)])], [nd_Desk, nd_History, nd_Never, nd_Leads]⟩
def fd__law_turns : Fd := mkFd ga__law_turns 3 9 false c__law_turns
def m_law_1 : E := (.lc (.nm 4) (.itL (.var 5)) (.len (.var 4)))
def m_law_2 : E := (.lc (.nm 19) (.itL (.var 4)) (.ix (.var 19) (.int 1)))
def l_law_1 : S := (.seq (.ext 3 m_law_2) .nil)
def p_law_1 : S := (.par 5 6 false false (.call 25 (.cons (.var 0) (.cons (.var 1) .nil))) (.call 24 (.cons (.call 22 (.cons (.var 0) (.cons (.var 1) .nil))) (.cons (.int 7) .nil))))
def p_law_2 : S := (.par 7 8 false false (.bin .mod (.var 6) (.len (.var 5))) m_law_1)
def p_law_3 : S := (.asg (.t2 (.nm 17) (.nm 18)) (.meth 3 (.var 9) .nil))
def p_law_4 : S := (.app 11 (.tup (.cons (.ix (.meth 1 (.var 9) .nil) (.var 7)) (.cons (.var 17) (.cons (.var 18) .nil)))))
def p_law_5 : S := (.asg (.nm 14) (.call 21 (.cons (.var 5) (.cons (.var 7) (.cons (.ix (.meth 1 (.var 9) .nil) (.var 7)) .nil)))))
def p_law_6 : S := (.ite (.not (.chn .le .le (.fld "least" (.var 14)) (.bin .sub (.var 17) (.var 18)) (.fld "most" (.var 14)))) (.seq (.ret (.bl false)) .nil) .nil)
def p_law_7 : S := (.ite (.or (.ne (.meth 3 (.var 10) .nil) (.meth 3 (.var 9) .nil)) (.or (.ne (.meth 3 (.var 9) .nil) (.call 16 (.cons (.var 5) (.cons (.var 8) .nil)))) (.ne (.meth 2 (.var 10) .nil) (.var 5)))) (.seq (.ret (.bl false)) .nil) .nil)
def p_law_8 : S := (.asg (.nm 2) (.bin .add (.int 1) (.bin .fdiv (.len (.var 11)) (.int 5))))
def p_law_9 : S := (.ite (.not (.isC 2 (.call 20 (.cons (.var 5) (.cons (.var 7) (.cons (.stp (.var 11) (.var 2)) .nil)))))) (.seq (.ret (.bl false)) .nil) .nil)
def p_law_10 : S := (.own 3 (.lst .nil))
def p_law_11 : S := (.loop (.nm 4) (.itL (.var 5)) l_law_1)
def p_law_12 : S := (.asg (.t2 (.nm 15) (.nm 16)) (.call 15 (.cons (.tup (.cons (.int 2) (.cons (.int 1) .nil))) (.cons (.var 3) .nil))))
def p_law_13 : S := (.ite (.or (.cmp .gt (.bin .add (.bin .mul (.int 2) (.len (.var 15))) (.sumT (.var 16))) (.len (.var 3))) (.or (.cmp .gt (.ix (.var 16) (.int 0)) (.int 1)) (.cmp .gt (.ix (.var 16) (.int 1)) (.int 1)))) (.seq (.ret (.bl false)) .nil) .nil)
def k_law_1 : S3 := (.seq (.mcall 9 "hear" 0 md_Desk_hear (.cons (.var 12) (.cons (.var 13) (.cons (.ix (.ix (.var 5) (.var 12)) (.var 13)) .nil)))) (.seq (.pl p_law_3) (.seq (.pl p_law_4) (.seq (.pl p_law_5) (.seq (.pl p_law_6) .nil)))))
def k_law_2 : S3 := (.seq (.mcall 10 "hear" 0 md_Desk_hear (.cons (.var 12) (.cons (.var 13) (.cons (.ix (.ix (.var 5) (.var 12)) (.var 13)) .nil)))) .nil)
def k_law_3 : S3 := (.seq (.pl p_law_1) (.seq (.pl p_law_2) (.seq (.par3U 9 10 11 (.new 0 (.cons (.len (.var 5)) .nil)) (.new 0 (.cons (.len (.var 5)) .nil)) (.lst .nil)) (.seq (.loop (.t2 (.nm 12) (.nm 13)) (.itL (.call 26 (.cons (.var 0) (.cons (.var 1) (.cons (.var 5) .nil))))) k_law_1) (.seq (.loop (.t2 (.nm 12) (.nm 13)) (.itL (.rev (.call 26 (.cons (.var 0) (.cons (.bin .add (.var 1) (.int 1)) (.cons (.var 5) .nil)))))) k_law_2) (.seq (.pl p_law_7) (.seq (.pl p_law_8) (.seq (.pl p_law_9) (.seq (.pl p_law_10) (.seq (.pl p_law_11) (.seq (.pl p_law_12) (.seq (.pl p_law_13) .nil))))))))))))
def c_law : S3 := (.seq (.loop (.nm 1) (.itR3 (.int 0) (.max2 (.int 1) (.min2 (.int 4) (.len (.var 0)))) (.int 2)) k_law_3) (.seq (.ret (.eq (.meth 3 (.new 0 (.cons (.int 2) .nil)) .nil) (.call 16 (.cons (.lst (.cons (.lst .nil) (.cons (.lst .nil) .nil))) (.cons (.lst (.cons (.int 0) (.cons (.int 0) .nil))) .nil))))) .nil))
def ga_law : Ga := ⟨[fd_is_whole, fd_is_count, fd_is_word, fd_check_notes, fd_check_hand, fd_score_of, fd_is_heard, fd_all_heard, fd_is_no_less, fd_Desk_count_of, fd_Desk_counting, fd_Desk_notes, fd_Desk_score, fd_gone_over, fd_check_game, fd_games, fd_score, fd_is_showing, fd_lists_of, fd_history_of, fd_judged, fd_leads, fd__law_cell_at, fd__law_draw, fd__law_value, fd__law_notes, fd__law_turns], kss, cns, sbs, [("count_of", [(0, fd_Desk_count_of)]), ("counting", [(0, fd_Desk_counting)]), ("notes", [(0, fd_Desk_notes)]), ("score", [(0, fd_Desk_score)])], [nd_Desk, nd_History, nd_Never, nd_Leads]⟩
theorem ix_is_count_is_whole : ga_is_count.fs[0]? = some fd_is_whole := rfl
theorem ix_is_word_is_count : ga_is_word.fs[1]? = some fd_is_count := rfl
theorem ix_check_notes_is_word : ga_check_notes.fs[2]? = some fd_is_word := rfl
theorem ix_check_hand_is_count : ga_check_hand.fs[1]? = some fd_is_count := rfl
theorem ix_Desk_init_is_count : ga_Desk_init.fs[1]? = some fd_is_count := rfl
theorem ix_Desk_hear_check_hand : ga_Desk_hear.fs[4]? = some fd_check_hand := rfl
theorem ix_Desk_hear_is_count : ga_Desk_hear.fs[1]? = some fd_is_count := rfl
theorem ix_Desk_hear_is_word : ga_Desk_hear.fs[2]? = some fd_is_word := rfl
theorem ix_Desk_score_score_of : ga_Desk_score.fs[5]? = some fd_score_of := rfl
theorem ix_check_game_is_count : ga_check_game.fs[1]? = some fd_is_count := rfl
theorem ix_games_check_game : ga_games.fs[14]? = some fd_check_game := rfl
theorem ix_games_gone_over : ga_games.fs[13]? = some fd_gone_over := rfl
theorem ix_score_check_notes : ga_score.fs[3]? = some fd_check_notes := rfl
theorem ix_score_is_heard : ga_score.fs[6]? = some fd_is_heard := rfl
theorem ix_score_is_whole : ga_score.fs[0]? = some fd_is_whole := rfl
theorem ix_score_score_of : ga_score.fs[5]? = some fd_score_of := rfl
theorem ix_is_showing_is_count : ga_is_showing.fs[1]? = some fd_is_count := rfl
theorem ix_is_showing_is_whole : ga_is_showing.fs[0]? = some fd_is_whole := rfl
theorem ix_lists_of_all_heard : ga_lists_of.fs[7]? = some fd_all_heard := rfl
theorem ix_lists_of_is_no_less : ga_lists_of.fs[8]? = some fd_is_no_less := rfl
theorem ix_lists_of_score_of : ga_lists_of.fs[5]? = some fd_score_of := rfl
theorem ix_history_of_is_no_less : ga_history_of.fs[8]? = some fd_is_no_less := rfl
theorem nx_judged_History : ga_judged.nd[1]? = some nd_History := rfl
theorem nx_judged_Never : ga_judged.nd[2]? = some nd_Never := rfl
theorem ix_judged_check_hand : ga_judged.fs[4]? = some fd_check_hand := rfl
theorem ix_judged_check_notes : ga_judged.fs[3]? = some fd_check_notes := rfl
theorem ix_judged_history_of : ga_judged.fs[19]? = some fd_history_of := rfl
theorem ix_judged_is_showing : ga_judged.fs[17]? = some fd_is_showing := rfl
theorem ix_judged_lists_of : ga_judged.fs[18]? = some fd_lists_of := rfl
theorem nx_leads_Leads : ga_leads.nd[3]? = some nd_Leads := rfl
theorem ix_leads_all_heard : ga_leads.fs[7]? = some fd_all_heard := rfl
theorem ix_leads_check_hand : ga_leads.fs[4]? = some fd_check_hand := rfl
theorem ix_leads_check_notes : ga_leads.fs[3]? = some fd_check_notes := rfl
theorem ix_leads_is_count : ga_leads.fs[1]? = some fd_is_count := rfl
theorem ix_leads_score_of : ga_leads.fs[5]? = some fd_score_of := rfl
theorem ix__law_value__law_draw : ga__law_value.fs[23]? = some fd__law_draw := rfl
theorem ix__law_notes__law_cell_at : ga__law_notes.fs[22]? = some fd__law_cell_at := rfl
theorem ix__law_notes__law_value : ga__law_notes.fs[24]? = some fd__law_value := rfl
theorem ix__law_turns__law_cell_at : ga__law_turns.fs[22]? = some fd__law_cell_at := rfl
theorem ix__law_turns__law_value : ga__law_turns.fs[24]? = some fd__law_value := rfl
theorem nx_law_Desk : ga_law.nd[0]? = some nd_Desk := rfl
theorem ix_law__law_cell_at : ga_law.fs[22]? = some fd__law_cell_at := rfl
theorem ix_law__law_notes : ga_law.fs[25]? = some fd__law_notes := rfl
theorem ix_law__law_turns : ga_law.fs[26]? = some fd__law_turns := rfl
theorem ix_law__law_value : ga_law.fs[24]? = some fd__law_value := rfl
theorem ix_law_games : ga_law.fs[15]? = some fd_games := rfl
theorem ix_law_judged : ga_law.fs[20]? = some fd_judged := rfl
theorem ix_law_leads : ga_law.fs[21]? = some fd_leads := rfl
theorem ix_law_score : ga_law.fs[16]? = some fd_score := rfl
theorem ar_is_whole : fd_is_whole.ar = 1 := rfl
theorem fr_is_whole : fd_is_whole.fr = false := rfl
theorem ar_is_count : fd_is_count.ar = 3 := rfl
theorem fr_is_count : fd_is_count.fr = false := rfl
theorem ar_is_word : fd_is_word.ar = 1 := rfl
theorem fr_is_word : fd_is_word.fr = false := rfl
theorem ar_check_notes : fd_check_notes.ar = 1 := rfl
theorem fr_check_notes : fd_check_notes.fr = false := rfl
theorem ar_check_hand : fd_check_hand.ar = 2 := rfl
theorem fr_check_hand : fd_check_hand.fr = false := rfl
theorem ar_score_of : fd_score_of.ar = 2 := rfl
theorem fr_score_of : fd_score_of.fr = true := rfl
theorem ar_is_heard : fd_is_heard.ar = 2 := rfl
theorem fr_is_heard : fd_is_heard.fr = false := rfl
theorem ar_all_heard : fd_all_heard.ar = 3 := rfl
theorem fr_all_heard : fd_all_heard.fr = false := rfl
theorem ar_is_no_less : fd_is_no_less.ar = 2 := rfl
theorem fr_is_no_less : fd_is_no_less.fr = false := rfl
theorem ar_Desk_count_of : fd_Desk_count_of.ar = 2 := rfl
theorem fr_Desk_count_of : fd_Desk_count_of.fr = false := rfl
theorem ar_Desk_counting : fd_Desk_counting.ar = 1 := rfl
theorem fr_Desk_counting : fd_Desk_counting.fr = true := rfl
theorem ar_Desk_notes : fd_Desk_notes.ar = 1 := rfl
theorem fr_Desk_notes : fd_Desk_notes.fr = false := rfl
theorem ar_Desk_score : fd_Desk_score.ar = 1 := rfl
theorem fr_Desk_score : fd_Desk_score.fr = true := rfl
theorem ar_gone_over : fd_gone_over.ar = 2 := rfl
theorem fr_gone_over : fd_gone_over.fr = true := rfl
theorem ar_check_game : fd_check_game.ar = 2 := rfl
theorem fr_check_game : fd_check_game.fr = false := rfl
theorem ar_games : fd_games.ar = 2 := rfl
theorem fr_games : fd_games.fr = true := rfl
theorem ar_score : fd_score.ar = 2 := rfl
theorem fr_score : fd_score.fr = false := rfl
theorem ar_is_showing : fd_is_showing.ar = 2 := rfl
theorem fr_is_showing : fd_is_showing.fr = false := rfl
theorem ar_lists_of : fd_lists_of.ar = 3 := rfl
theorem fr_lists_of : fd_lists_of.fr = false := rfl
theorem ar_history_of : fd_history_of.ar = 1 := rfl
theorem fr_history_of : fd_history_of.fr = false := rfl
theorem ar_judged : fd_judged.ar = 3 := rfl
theorem fr_judged : fd_judged.fr = true := rfl
theorem ar_leads : fd_leads.ar = 3 := rfl
theorem fr_leads : fd_leads.fr = true := rfl
theorem ar__law_cell_at : fd__law_cell_at.ar = 2 := rfl
theorem fr__law_cell_at : fd__law_cell_at.fr = false := rfl
theorem ar__law_draw : fd__law_draw.ar = 3 := rfl
theorem fr__law_draw : fd__law_draw.fr = false := rfl
theorem ar__law_value : fd__law_value.ar = 2 := rfl
theorem fr__law_value : fd__law_value.fr = false := rfl
theorem ar__law_notes : fd__law_notes.ar = 2 := rfl
theorem fr__law_notes : fd__law_notes.fr = false := rfl
theorem ar__law_turns : fd__law_turns.ar = 3 := rfl
theorem fr__law_turns : fd__law_turns.fr = false := rfl
theorem cl_Desk : nd_Desk.cl = 0 := rfl
theorem nr_Desk : nd_Desk.ar = 1 := rfl
theorem nf_Desk : nd_Desk.fr = true := rfl
theorem cl_History : nd_History.cl = 2 := rfl
theorem nr_History : nd_History.ar = 1 := rfl
theorem nf_History : nd_History.fr = true := rfl
theorem cl_Never : nd_Never.cl = 3 := rfl
theorem nr_Never : nd_Never.ar = 1 := rfl
theorem nf_Never : nd_Never.fr = true := rfl
theorem cl_Leads : nd_Leads.cl = 4 := rfl
theorem nr_Leads : nd_Leads.ar = 4 := rfl
theorem nf_Leads : nd_Leads.fr = true := rfl
end K09

namespace K09
open PySem L2 G
/-! each def's HandS term, by gen.py -/
def tops (i : Nat) : Stmt := PySem.Challenge.pw_scorehands_k09_whole_way.main.body.getD i (.Pass ⟨0, 0, 0, 0⟩)
abbrev s_is_whole : Stmt := tops 18
abbrev N_is_whole : List Str := ["thing"]
theorem sc_is_whole : FnScope N_is_whole ["thing"] (defScope s_is_whole) :=
  ⟨rfl, rfl, rfl, by decide +kernel, rfl, by decide +kernel, by decide +kernel⟩
abbrev s_is_count : Stmt := tops 19
abbrev N_is_count : List Str := ["thing", "least", "most"]
theorem sc_is_count : FnScope N_is_count ["thing", "least", "most"] (defScope s_is_count) :=
  ⟨rfl, rfl, rfl, by decide +kernel, rfl, by decide +kernel, by decide +kernel⟩
abbrev s_is_word : Stmt := tops 20
abbrev N_is_word : List Str := ["thing"]
theorem sc_is_word : FnScope N_is_word ["thing"] (defScope s_is_word) :=
  ⟨rfl, rfl, rfl, by decide +kernel, rfl, by decide +kernel, by decide +kernel⟩
abbrev s_check_notes : Stmt := tops 21
abbrev N_check_notes : List Str := ["notes", "words", "word"]
theorem sc_check_notes : FnScope N_check_notes ["notes"] (defScope s_check_notes) :=
  ⟨rfl, rfl, rfl, by decide +kernel, rfl, by decide +kernel, by decide +kernel⟩
abbrev s_check_hand : Stmt := tops 22
abbrev N_check_hand : List Str := ["many", "hand"]
theorem sc_check_hand : FnScope N_check_hand ["many", "hand"] (defScope s_check_hand) :=
  ⟨rfl, rfl, rfl, by decide +kernel, rfl, by decide +kernel, by decide +kernel⟩
abbrev s_score_of : Stmt := tops 23
abbrev N_score_of : List Str := ["notes", "heard", "sides", "words", "many", "kind", "side"]
theorem sc_score_of : FnScope N_score_of ["notes", "heard"] (defScope s_score_of) :=
  ⟨rfl, rfl, rfl, by decide +kernel, rfl, by decide +kernel, by decide +kernel⟩
abbrev s_is_heard : Stmt := tops 24
abbrev N_is_heard : List Str := ["notes", "heard", "words", "many"]
theorem sc_is_heard : FnScope N_is_heard ["notes", "heard"] (defScope s_is_heard) :=
  ⟨rfl, rfl, rfl, by decide +kernel, rfl, by decide +kernel, by decide +kernel⟩
abbrev s_all_heard : Stmt := tops 25
abbrev N_all_heard : List Str := ["notes", "hand", "said", "found", "one", "words", "longer", "some", "many"]
theorem sc_all_heard : FnScope N_all_heard ["notes", "hand", "said"] (defScope s_all_heard) :=
  ⟨rfl, rfl, rfl, by decide +kernel, rfl, by decide +kernel, by decide +kernel⟩
abbrev s_is_no_less : Stmt := tops 26
abbrev N_is_no_less : List Str := ["heard", "other", "mine", "theirs"]
theorem sc_is_no_less : FnScope N_is_no_less ["heard", "other"] (defScope s_is_no_less) :=
  ⟨rfl, rfl, rfl, by decide +kernel, rfl, by decide +kernel, by decide +kernel⟩
abbrev s_Desk_init : Stmt := inClass (tops 28) 0
abbrev N_Desk_init : List Str := ["self", "hands", "hand"]
theorem sc_Desk_init : FnScope N_Desk_init ["self", "hands"] (defScope s_Desk_init) :=
  ⟨rfl, rfl, rfl, by decide +kernel, rfl, by decide +kernel, by decide +kernel⟩
abbrev s_Desk_count_of : Stmt := inClass (tops 28) 1
abbrev N_Desk_count_of : List Str := ["self", "hand", "some", "many"]
theorem sc_Desk_count_of : FnScope N_Desk_count_of ["self", "hand"] (defScope s_Desk_count_of) :=
  ⟨rfl, rfl, rfl, by decide +kernel, rfl, by decide +kernel, by decide +kernel⟩
abbrev s_Desk_hear : Stmt := inClass (tops 28) 2
abbrev N_Desk_hear : List Str := ["self", "hand", "number", "word"]
theorem sc_Desk_hear : FnScope N_Desk_hear ["self", "hand", "number", "word"] (defScope s_Desk_hear) :=
  ⟨rfl, rfl, rfl, by decide +kernel, rfl, by decide +kernel, by decide +kernel⟩
abbrev s_Desk_counting : Stmt := inClass (tops 28) 3
abbrev N_Desk_counting : List Str := ["self", "hand"]
theorem sc_Desk_counting : FnScope N_Desk_counting ["self"] (defScope s_Desk_counting) :=
  ⟨rfl, rfl, rfl, by decide +kernel, rfl, by decide +kernel, by decide +kernel⟩
abbrev s_Desk_notes : Stmt := inClass (tops 28) 5
abbrev N_Desk_notes : List Str := ["self", "number", "some", "many"]
theorem sc_Desk_notes : FnScope N_Desk_notes ["self"] (defScope s_Desk_notes) :=
  ⟨rfl, rfl, rfl, by decide +kernel, rfl, by decide +kernel, by decide +kernel⟩
abbrev s_Desk_score : Stmt := inClass (tops 28) 6
abbrev N_Desk_score : List Str := ["self"]
theorem sc_Desk_score : FnScope N_Desk_score ["self"] (defScope s_Desk_score) :=
  ⟨rfl, rfl, rfl, by decide +kernel, rfl, by decide +kernel, by decide +kernel⟩
abbrev s_History_init : Stmt := inClass (tops 31) 0
abbrev N_History_init : List Str := ["self", "heard", "some"]
theorem sc_History_init : FnScope N_History_init ["self", "heard"] (defScope s_History_init) :=
  ⟨rfl, rfl, rfl, by decide +kernel, rfl, by decide +kernel, by decide +kernel⟩
abbrev s_Never_init : Stmt := inClass (tops 32) 0
abbrev N_Never_init : List Str := ["self", "lists", "one", "some"]
theorem sc_Never_init : FnScope N_Never_init ["self", "lists"] (defScope s_Never_init) :=
  ⟨rfl, rfl, rfl, by decide +kernel, rfl, by decide +kernel, by decide +kernel⟩
abbrev s_Leads_init : Stmt := inClass (tops 33) 0
abbrev N_Leads_init : List Str := ["self", "least", "low", "most", "high"]
theorem sc_Leads_init : FnScope N_Leads_init ["self", "least", "low", "most", "high"] (defScope s_Leads_init) :=
  ⟨rfl, rfl, rfl, by decide +kernel, rfl, by decide +kernel, by decide +kernel⟩
abbrev s_gone_over : Stmt := tops 38
abbrev N_gone_over : List Str := ["rule", "points", "side", "to", "ahead", "winners", "sides"]
theorem sc_gone_over : FnScope N_gone_over ["rule", "points"] (defScope s_gone_over) :=
  ⟨rfl, rfl, rfl, by decide +kernel, rfl, by decide +kernel, by decide +kernel⟩
abbrev s_check_game : Stmt := tops 39
abbrev N_check_game : List Str := ["rule", "points", "one"]
theorem sc_check_game : FnScope N_check_game ["rule", "points"] (defScope s_check_game) :=
  ⟨rfl, rfl, rfl, by decide +kernel, rfl, by decide +kernel, by decide +kernel⟩
abbrev s_games : Stmt := tops 40
abbrev N_games : List Str := ["rule", "points"]
theorem sc_games : FnScope N_games ["rule", "points"] (defScope s_games) :=
  ⟨rfl, rfl, rfl, by decide +kernel, rfl, by decide +kernel, by decide +kernel⟩
abbrev s_score : Stmt := tops 43
abbrev N_score : List Str := ["notes", "heard", "many"]
theorem sc_score : FnScope N_score ["notes", "heard"] (defScope s_score) :=
  ⟨rfl, rfl, rfl, by decide +kernel, rfl, by decide +kernel, by decide +kernel⟩
abbrev s_is_showing : Stmt := tops 44
abbrev N_is_showing : List Str := ["thing", "most"]
theorem sc_is_showing : FnScope N_is_showing ["thing", "most"] (defScope s_is_showing) :=
  ⟨rfl, rfl, rfl, by decide +kernel, rfl, by decide +kernel, by decide +kernel⟩
abbrev s_lists_of : Stmt := tops 45
abbrev N_lists_of : List Str := ["notes", "hand", "shown", "found", "said", "first", "second", "some", "heard", "other"]
theorem sc_lists_of : FnScope N_lists_of ["notes", "hand", "shown"] (defScope s_lists_of) :=
  ⟨rfl, rfl, rfl, by decide +kernel, rfl, by decide +kernel, by decide +kernel⟩
abbrev s_history_of : Stmt := tops 46
abbrev N_history_of : List Str := ["lists", "found", "some", "heard"]
theorem sc_history_of : FnScope N_history_of ["lists"] (defScope s_history_of) :=
  ⟨rfl, rfl, rfl, by decide +kernel, rfl, by decide +kernel, by decide +kernel⟩
abbrev s_judged : Stmt := tops 47
abbrev N_judged : List Str := ["notes", "hand", "shown", "lists", "one", "other"]
theorem sc_judged : FnScope N_judged ["notes", "hand", "shown"] (defScope s_judged) :=
  ⟨rfl, rfl, rfl, by decide +kernel, rfl, by decide +kernel, by decide +kernel⟩
abbrev s_leads : Stmt := tops 48
abbrev N_leads : List Str := ["notes", "hand", "said", "some", "heard", "least", "most", "first", "second"]
theorem sc_leads : FnScope N_leads ["notes", "hand", "said"] (defScope s_leads) :=
  ⟨rfl, rfl, rfl, by decide +kernel, rfl, by decide +kernel, by decide +kernel⟩
abbrev s__law_cell_at : Stmt := tops 50
abbrev N__law_cell_at : List Str := ["_law_script", "_law_k"]
theorem sc__law_cell_at : FnScope N__law_cell_at ["_law_script", "_law_k"] (defScope s__law_cell_at) :=
  ⟨rfl, rfl, rfl, by decide +kernel, rfl, by decide +kernel, by decide +kernel⟩
abbrev s__law_draw : Stmt := tops 51
abbrev N__law_draw : List Str := ["_law_cell", "_law_k", "_law_many", "_law_primes"]
theorem sc__law_draw : FnScope N__law_draw ["_law_cell", "_law_k", "_law_many"] (defScope s__law_draw) :=
  ⟨rfl, rfl, rfl, by decide +kernel, rfl, by decide +kernel, by decide +kernel⟩
abbrev s__law_value : Stmt := tops 52
abbrev N__law_value : List Str := ["_law_cell", "_law_turn", "_law_blend"]
theorem sc__law_value : FnScope N__law_value ["_law_cell", "_law_turn"] (defScope s__law_value) :=
  ⟨rfl, rfl, rfl, by decide +kernel, rfl, by decide +kernel, by decide +kernel⟩
abbrev s__law_notes : Stmt := tops 53
abbrev N__law_notes : List Str := ["_law_script", "_law_by", "_law_kind", "_law_hand", "_law_value_here", "_law_found", "_law_number", "_law_words", "_law_at", "_law_digit", "_law_back"]
theorem sc__law_notes : FnScope N__law_notes ["_law_script", "_law_by"] (defScope s__law_notes) :=
  ⟨rfl, rfl, rfl, by decide +kernel, rfl, by decide +kernel, by decide +kernel⟩
abbrev s__law_turns : Stmt := tops 54
abbrev N__law_turns : List Str := ["_law_script", "_law_by", "_law_notes_here", "_law_at", "_law_left", "_law_found", "_law_open_ones", "_law_one", "_law_words"]
theorem sc__law_turns : FnScope N__law_turns ["_law_script", "_law_by", "_law_notes_here"] (defScope s__law_turns) :=
  ⟨rfl, rfl, rfl, by decide +kernel, rfl, by decide +kernel, by decide +kernel⟩
abbrev s_law : Stmt := tops 55
abbrev N_law : List Str := ["_law_script", "_law_by", "_law_step", "_law_points", "_law_words", "_law_notes_here", "_law_value_here", "_law_hand", "_law_whole", "_law_desk", "_law_other", "_law_shown", "_law_one", "_law_at", "_law_told", "_law_won", "_law_left", "_law_first", "_law_second", "_law_word"]
theorem sc_law : FnScope N_law ["_law_script"] (defScope s_law) :=
  ⟨rfl, rfl, rfl, by decide +kernel, rfl, by decide +kernel, by decide +kernel⟩
abbrev clo (ca : Nat → Addr) : Nat → Addr × List Str := fun c => (ca c, cns.getD c [])
abbrev kvo (ka : Nat → Addr) : Nat → V := fun k => .ref (ka k)
abbrev cn (K : PySem.W.Frag) (w : World) (ca ka : Nat → Addr) : Cf := ⟨K, clo ca, w, kvo ka⟩
structure Txt (K : PySem.W.Frag) (mg : Str → Option Value) (fa : Nat → Addr) (ff : Nat → FuncData) (tk : Nat → Tok) (ca ka : Nat → Addr) : Prop where
  f_is_whole : Fn1 K mg "is_whole" s_is_whole ["thing"] (fa 0) (ff 0)
  f_is_count : Fn1 K mg "is_count" s_is_count ["thing", "least", "most"] (fa 1) (ff 1)
  f_is_word : Fn1 K mg "is_word" s_is_word ["thing"] (fa 2) (ff 2)
  f_check_notes : Fn1 K mg "check_notes" s_check_notes ["notes"] (fa 3) (ff 3)
  f_check_hand : Fn1 K mg "check_hand" s_check_hand ["many", "hand"] (fa 4) (ff 4)
  f_score_of : Fn1 K mg "score_of" s_score_of ["notes", "heard"] (fa 5) (ff 5)
  f_is_heard : Fn1 K mg "is_heard" s_is_heard ["notes", "heard"] (fa 6) (ff 6)
  f_all_heard : Fn1 K mg "all_heard" s_all_heard ["notes", "hand", "said"] (fa 7) (ff 7)
  f_is_no_less : Fn1 K mg "is_no_less" s_is_no_less ["heard", "other"] (fa 8) (ff 8)
  F_Desk_init : Fun K "__init__" "Desk.__init__" s_Desk_init (fa 9) (ff 9)
  b_Desk_init : Binds K (ff 9) ["self", "hands"] []
  mk_Desk : Mk K (ca 0) (fa 9)
  F_Desk_count_of : Fun K "count_of" "Desk.count_of" s_Desk_count_of (fa 10) (ff 10)
  b_Desk_count_of : Binds K (ff 10) ["self", "hand"] []
  mt_Desk_count_of : Meth K (ca 0) "count_of" (fa 10)
  F_Desk_hear : Fun K "hear" "Desk.hear" s_Desk_hear (fa 11) (ff 11)
  b_Desk_hear : Binds K (ff 11) ["self", "hand", "number", "word"] []
  mt_Desk_hear : Meth K (ca 0) "hear" (fa 11)
  F_Desk_counting : Fun K "counting" "Desk.counting" s_Desk_counting (fa 12) (ff 12)
  b_Desk_counting : Binds K (ff 12) ["self"] []
  mt_Desk_counting : Meth K (ca 0) "counting" (fa 12)
  F_Desk_notes : Fun K "notes" "Desk.notes" s_Desk_notes (fa 13) (ff 13)
  b_Desk_notes : Binds K (ff 13) ["self"] []
  mt_Desk_notes : Meth K (ca 0) "notes" (fa 13)
  F_Desk_score : Fun K "score" "Desk.score" s_Desk_score (fa 14) (ff 14)
  b_Desk_score : Binds K (ff 14) ["self"] []
  mt_Desk_score : Meth K (ca 0) "score" (fa 14)
  F_History_init : Fun K "__init__" "History.__init__" s_History_init (fa 15) (ff 15)
  b_History_init : Binds K (ff 15) ["self", "heard"] []
  mk_History : Mk K (ca 2) (fa 15)
  F_Never_init : Fun K "__init__" "Never.__init__" s_Never_init (fa 16) (ff 16)
  b_Never_init : Binds K (ff 16) ["self", "lists"] []
  mk_Never : Mk K (ca 3) (fa 16)
  F_Leads_init : Fun K "__init__" "Leads.__init__" s_Leads_init (fa 17) (ff 17)
  b_Leads_init : Binds K (ff 17) ["self", "least", "low", "most", "high"] []
  mk_Leads : Mk K (ca 4) (fa 17)
  f_gone_over : Fn1 K mg "gone_over" s_gone_over ["rule", "points"] (fa 18) (ff 18)
  f_check_game : Fn1 K mg "check_game" s_check_game ["rule", "points"] (fa 19) (ff 19)
  f_games : Fn1 K mg "games" s_games ["rule", "points"] (fa 20) (ff 20)
  f_score : Fn1 K mg "score" s_score ["notes", "heard"] (fa 21) (ff 21)
  f_is_showing : Fn1 K mg "is_showing" s_is_showing ["thing", "most"] (fa 22) (ff 22)
  f_lists_of : Fn1 K mg "lists_of" s_lists_of ["notes", "hand", "shown"] (fa 23) (ff 23)
  f_history_of : Fn1 K mg "history_of" s_history_of ["lists"] (fa 24) (ff 24)
  f_judged : Fn1 K mg "judged" s_judged ["notes", "hand", "shown"] (fa 25) (ff 25)
  f_leads : Fn1 K mg "leads" s_leads ["notes", "hand", "said"] (fa 26) (ff 26)
  f__law_cell_at : Fn1 K mg "_law_cell_at" s__law_cell_at ["_law_script", "_law_k"] (fa 27) (ff 27)
  f__law_draw : Fn1 K mg "_law_draw" s__law_draw ["_law_cell", "_law_k", "_law_many"] (fa 28) (ff 28)
  f__law_value : Fn1 K mg "_law_value" s__law_value ["_law_cell", "_law_turn"] (fa 29) (ff 29)
  f__law_notes : Fn1 K mg "_law_notes" s__law_notes ["_law_script", "_law_by"] (fa 30) (ff 30)
  f__law_turns : Fn1 K mg "_law_turns" s__law_turns ["_law_script", "_law_by", "_law_notes_here"] (fa 31) (ff 31)
  g_Desk : mg "Desk" = some (.ref (ca 0))
  cl_Desk : Cls K (ca 0)
  ty_Desk : TyF K (ca 0)
  na_Desk_heard : NoAttr K (ca 0) "heard"
  sb_0_0 : PySem.W.kitOne K (.ref (ca 0)) (.ref (ca 0)) = some true
  sb_0_1 : PySem.W.kitOne K (.ref (ca 0)) (.ref (ca 1)) = some false
  sb_0_2 : PySem.W.kitOne K (.ref (ca 0)) (.ref (ca 2)) = some false
  sb_0_3 : PySem.W.kitOne K (.ref (ca 0)) (.ref (ca 3)) = some false
  sb_0_4 : PySem.W.kitOne K (.ref (ca 0)) (.ref (ca 4)) = some false
  g_Answer : mg "Answer" = some (.ref (ca 1))
  cl_Answer : Cls K (ca 1)
  ty_Answer : TyF K (ca 1)
  sb_1_0 : PySem.W.kitOne K (.ref (ca 1)) (.ref (ca 0)) = some false
  sb_1_1 : PySem.W.kitOne K (.ref (ca 1)) (.ref (ca 1)) = some true
  sb_1_2 : PySem.W.kitOne K (.ref (ca 1)) (.ref (ca 2)) = some false
  sb_1_3 : PySem.W.kitOne K (.ref (ca 1)) (.ref (ca 3)) = some false
  sb_1_4 : PySem.W.kitOne K (.ref (ca 1)) (.ref (ca 4)) = some false
  g_History : mg "History" = some (.ref (ca 2))
  cl_History : Cls K (ca 2)
  ty_History : TyF K (ca 2)
  na_History_heard : NoAttr K (ca 2) "heard"
  sb_2_0 : PySem.W.kitOne K (.ref (ca 2)) (.ref (ca 0)) = some false
  sb_2_1 : PySem.W.kitOne K (.ref (ca 2)) (.ref (ca 1)) = some true
  sb_2_2 : PySem.W.kitOne K (.ref (ca 2)) (.ref (ca 2)) = some true
  sb_2_3 : PySem.W.kitOne K (.ref (ca 2)) (.ref (ca 3)) = some false
  sb_2_4 : PySem.W.kitOne K (.ref (ca 2)) (.ref (ca 4)) = some false
  g_Never : mg "Never" = some (.ref (ca 3))
  cl_Never : Cls K (ca 3)
  ty_Never : TyF K (ca 3)
  na_Never_lists : NoAttr K (ca 3) "lists"
  sb_3_0 : PySem.W.kitOne K (.ref (ca 3)) (.ref (ca 0)) = some false
  sb_3_1 : PySem.W.kitOne K (.ref (ca 3)) (.ref (ca 1)) = some true
  sb_3_2 : PySem.W.kitOne K (.ref (ca 3)) (.ref (ca 2)) = some false
  sb_3_3 : PySem.W.kitOne K (.ref (ca 3)) (.ref (ca 3)) = some true
  sb_3_4 : PySem.W.kitOne K (.ref (ca 3)) (.ref (ca 4)) = some false
  g_Leads : mg "Leads" = some (.ref (ca 4))
  cl_Leads : Cls K (ca 4)
  ty_Leads : TyF K (ca 4)
  na_Leads_least : NoAttr K (ca 4) "least"
  na_Leads_low : NoAttr K (ca 4) "low"
  na_Leads_most : NoAttr K (ca 4) "most"
  na_Leads_high : NoAttr K (ca 4) "high"
  sb_4_0 : PySem.W.kitOne K (.ref (ca 4)) (.ref (ca 0)) = some false
  sb_4_1 : PySem.W.kitOne K (.ref (ca 4)) (.ref (ca 1)) = some true
  sb_4_2 : PySem.W.kitOne K (.ref (ca 4)) (.ref (ca 2)) = some false
  sb_4_3 : PySem.W.kitOne K (.ref (ca 4)) (.ref (ca 3)) = some false
  sb_4_4 : PySem.W.kitOne K (.ref (ca 4)) (.ref (ca 4)) = some true
  g_KINDS : mg "KINDS" = some (.ref (ka 0))
  k_KINDS : SqT K Emp (ka 0) [.str "point", .str "back"]
  z_all : mg "all" = none
  z_any : mg "any" = none
  z_bool : mg "bool" = none
  z_enumerate : mg "enumerate" = none
  z_int : mg "int" = none
  z_isinstance : mg "isinstance" = none
  z_len : mg "len" = none
  z_list : mg "list" = none
  z_max : mg "max" = none
  z_min : mg "min" = none
  z_range : mg "range" = none
  z_str : mg "str" = none
  z_sum : mg "sum" = none
  z_tuple : mg "tuple" = none
  z_zip : mg "zip" = none
  c_MOST_AHEAD : mg "MOST_AHEAD" = some (.int 2 (tk 0))
  c_MOST_HANDS : mg "MOST_HANDS" = some (.int 3 (tk 1))
  c_MOST_POINTS : mg "MOST_POINTS" = some (.int 60 (tk 2))
  c_MOST_SHOWN : mg "MOST_SHOWN" = some (.int 5 (tk 3))
  c_MOST_TO : mg "MOST_TO" = some (.int 5 (tk 4))
  c_MOST_WORDS : mg "MOST_WORDS" = some (.int 6 (tk 5))
def relS (sc sc0 : Scope) : Scope := { sc with names := sc.names.map fun (n, k) => if (k == NameKind.free && sc0.kind == .function && sc0.names.lookup n == some .cell) then (n, NameKind.cell) else (n, k) }
theorem blkOk_in {X : Cx} {s : Shared} {H : Hp} {sc sc0 scope : Scope} {cl : List (Str × Addr)} {C : Addr} {env : Env} {fp : List Addr} {N : List Str} {own : List (Str × Nat)} (e : env.scope = sc0) (h : blkC N (relS sc sc0) scope own = true) : BlkOk N (X.blk s H sc (compEnvC sc cl C env) fp).env.scope scope own := by
  subst e
  exact blkOk_by h
theorem pss_frz {X : Cx} {C : Cf} {Γ : Ga} {ss : List Stmt} {i : Nat} {r : S} (h : PSs X ss (rdS C Γ r)) : PSs X ss (rdS C Γ (.frz i r)) := h
theorem pss_frz3 {X : Cx} {C : Cf} {Γ : Ga} {ss : List Stmt} {i : Nat} {r : S3} (h : PSs X ss (rdS3 C Γ r)) : PSs X ss (rdS3 C Γ (.frzT i r)) := h
theorem pss_two {X : Cx} {s1 s2 : Stmt} {t1 t2 : TS} (h1 : PS X s1 t1) (h2 : PS X s2 t2) : PSs X [s1, s2] (tSeq t1 t2) := pss_cons h1 (pss_one h2)
theorem un1 {k : Nat} {A : Around} (hr : Room k A) : A.units + 1 < cLine := by
  have := hr.un
  omega
theorem un65 {k : Nat} {A : Around} (hr : Room k A) : A.units + 65 < cLine := by
  have := hr.un
  omega
section
variable {P : Program} {w : World} {K : PySem.W.Frag} {mg : Str → Option Value} {base : Heap} {fa : Nat → Addr} {ff : Nat → FuncData} {tk : Nat → Tok} {ca ka : Nat → Addr}
theorem ks_ok (T : Txt K mg fa ff tk ca ka) {fs : List Fd} {ms : List (Str × List (Nat × Fd))} {nd : List Nd} : KsOk (cn K w ca ka) ⟨fs, kss, cns, sbs, ms, nd⟩ := by
  refine ⟨fun k d h => ?_, fun c ns h => ?_, fun c r c' b h1 h2 => ?_⟩
  · match k, h with
    | 0, h => cases h; rw [rp_tp]; exact ⟨_, _, rfl, T.k_KINDS, .cons (by rw [rp_str]) (.cons (by rw [rp_str]) (.nil))⟩
    | k + 1, h => simp [kss] at h
  · match c, h with
    | 0, h => cases h; exact ⟨rfl, T.cl_Desk, T.ty_Desk, fun f hf => by
        simp only [List.mem_cons, List.not_mem_nil, or_false] at hf
        subst hf; exact T.na_Desk_heard⟩
    | 1, h => cases h; exact ⟨rfl, T.cl_Answer, T.ty_Answer, fun f hf => by
        simp only [List.mem_cons, List.not_mem_nil, or_false] at hf
        ⟩
    | 2, h => cases h; exact ⟨rfl, T.cl_History, T.ty_History, fun f hf => by
        simp only [List.mem_cons, List.not_mem_nil, or_false] at hf
        subst hf; exact T.na_History_heard⟩
    | 3, h => cases h; exact ⟨rfl, T.cl_Never, T.ty_Never, fun f hf => by
        simp only [List.mem_cons, List.not_mem_nil, or_false] at hf
        subst hf; exact T.na_Never_lists⟩
    | 4, h => cases h; exact ⟨rfl, T.cl_Leads, T.ty_Leads, fun f hf => by
        simp only [List.mem_cons, List.not_mem_nil, or_false] at hf
        rcases hf with rfl | rfl | rfl | rfl
        · exact T.na_Leads_least
        · exact T.na_Leads_low
        · exact T.na_Leads_most
        · exact T.na_Leads_high⟩
    | c + 5, h => simp [cns] at h
  · match c, h1 with
    | 0, h1 => cases h1; match c', h2 with
      | 0, h2 => cases h2; exact T.sb_0_0
      | 1, h2 => cases h2; exact T.sb_0_1
      | 2, h2 => cases h2; exact T.sb_0_2
      | 3, h2 => cases h2; exact T.sb_0_3
      | 4, h2 => cases h2; exact T.sb_0_4
      | n + 5, h2 => simp at h2
    | 1, h1 => cases h1; match c', h2 with
      | 0, h2 => cases h2; exact T.sb_1_0
      | 1, h2 => cases h2; exact T.sb_1_1
      | 2, h2 => cases h2; exact T.sb_1_2
      | 3, h2 => cases h2; exact T.sb_1_3
      | 4, h2 => cases h2; exact T.sb_1_4
      | n + 5, h2 => simp at h2
    | 2, h1 => cases h1; match c', h2 with
      | 0, h2 => cases h2; exact T.sb_2_0
      | 1, h2 => cases h2; exact T.sb_2_1
      | 2, h2 => cases h2; exact T.sb_2_2
      | 3, h2 => cases h2; exact T.sb_2_3
      | 4, h2 => cases h2; exact T.sb_2_4
      | n + 5, h2 => simp at h2
    | 3, h1 => cases h1; match c', h2 with
      | 0, h2 => cases h2; exact T.sb_3_0
      | 1, h2 => cases h2; exact T.sb_3_1
      | 2, h2 => cases h2; exact T.sb_3_2
      | 3, h2 => cases h2; exact T.sb_3_3
      | 4, h2 => cases h2; exact T.sb_3_4
      | n + 5, h2 => simp at h2
    | 4, h1 => cases h1; match c', h2 with
      | 0, h2 => cases h2; exact T.sb_4_0
      | 1, h2 => cases h2; exact T.sb_4_1
      | 2, h2 => cases h2; exact T.sb_4_2
      | 3, h2 => cases h2; exact T.sb_4_3
      | 4, h2 => cases h2; exact T.sb_4_4
      | n + 5, h2 => simp at h2
    | c + 5, h1 => simp [sbs] at h1
theorem ok_is_whole (T : Txt K mg fa ff tk ca ka) : FnOk P w K mg base CX0 1 (fa 0) (ff 0) ["thing"] (spOf (cn K w ca ka) fd_is_whole) :=
  fn_c T.f_is_whole.F sc_is_whole (ks_ok T) fun cdv A outer s H E hr =>
    (pss_cons (ps_ret (pe_and (pe_callB call_isi (by rfl) T.z_isinstance (by decide +kernel) (pa_cons (pv 0) (pa_cons (pe_bltn (v := .ty "int") (by rfl) T.z_int (by decide +kernel) rfl) pa_nil))) (pe_one (pe_not (pe_callB call_isi (by rfl) T.z_isinstance (by decide +kernel) (pa_cons (pv 0) (pa_cons (pe_bltn (v := .ty "bool") (by rfl) T.z_bool (by decide +kernel) rfl) pa_nil))))))) pss_nil)
theorem ok_is_count (T : Txt K mg fa ff tk ca ka) : FnOk P w K mg base CX0 2 (fa 1) (ff 1) ["thing", "least", "most"] (spOf (cn K w ca ka) fd_is_count) :=
  fn_c T.f_is_count.F sc_is_count (ks_ok T) fun cdv A outer s H E hr =>
    (pss_cons (ps_ret (pe_and (pe_call (ok_is_whole T) (hr.mono (by decide)) (by rfl) T.f_is_whole.g T.f_is_whole.F.kp T.f_is_whole.b .nil pass0 (pa_cons (pv 0) pa_nil)) (pe_one (pe_chain op_le op_le (pv 1) (pv 0) (pv 2))))) pss_nil)
theorem ok_is_word (T : Txt K mg fa ff tk ca ka) : FnOk P w K mg base CX0 3 (fa 2) (ff 2) ["thing"] (spOf (cn K w ca ka) fd_is_word) :=
  fn_c T.f_is_word.F sc_is_word (ks_ok T) fun cdv A outer s H E hr =>
    (pss_cons (ps_if (PW.pt (pw_or (pt_not (pt_val (pe_callB call_isi (by rfl) T.z_isinstance (by decide +kernel) (pa_cons (pv 0) (pa_cons (pe_bltn (v := .ty "tuple") (by rfl) T.z_tuple (by decide +kernel) rfl) pa_nil))))) (pw_or (pt_cmpR (op_neD hr.units) (pe_callB call_len_seq (by rfl) T.z_len PySem.boot_len (pa_cons (pv 0) pa_nil)) pe_int (nomark _)) (pw_or1 (pt_not (pt_val (pe_callB call_isi (by rfl) T.z_isinstance (by decide +kernel) (pa_cons (pe_ix ix_seq (pv 0) pe_int (fun _ _ => rfl)) (pa_cons (pe_bltn (v := .ty "str") (by rfl) T.z_str (by decide +kernel) rfl) pa_nil))))))))) (pss_cons (ps_ret pe_bl) pss_nil) pss_nil) (pss_cons (ps_ret (pe_and (pe_cmpR op_in_seq (pe_ix ix_seq (pv 0) pe_int (fun _ _ => rfl)) (pe_glob rfl T.g_KINDS rfl) (by with_unfolding_all rfl)) (pe_one (pe_call (ok_is_count T) (hr.mono (by decide)) (by rfl) T.f_is_count.g T.f_is_count.F.kp T.f_is_count.b .nil pass0 (pa_cons (pe_ix ix_seq (pv 0) pe_int (fun _ _ => rfl)) (pa_cons pe_int (pa_cons pe_int pa_nil))))))) pss_nil))
theorem ok_check_notes (T : Txt K mg fa ff tk ca ka) : FnOk P w K mg base CX0 4 (fa 3) (ff 3) ["notes"] (spOf (cn K w ca ka) fd_check_notes) :=
  fn_c T.f_check_notes.F sc_check_notes (ks_ok T) fun cdv A outer s H E hr =>
    (pss_cons (ps_if (PW.pt (pw_or (pt_not (pt_val (pe_callB call_isi (by rfl) T.z_isinstance (by decide +kernel) (pa_cons (pv 0) (pa_cons (pe_bltn (v := .ty "list") (by rfl) T.z_list (by decide +kernel) rfl) pa_nil))))) (pw_or1 (pt_not (pt_chain op_le op_le pe_int (pe_callB call_len_seq (by rfl) T.z_len PySem.boot_len (pa_cons (pv 0) pa_nil)) (pe_glob rfl T.c_MOST_HANDS ⟨_, rfl⟩)))))) (pss_cons ps_never pss_nil) pss_nil) (pss_cons (ps_for PassesOwn.never rfl (pi_list (pv 0)) (pg_name (i := 1) sc_check_notes.nd rfl (.inl rfl)) (pss_cons (ps_if (PW.pt (pw_or (pt_not (pt_val (pe_callB call_isi (by rfl) T.z_isinstance (by decide +kernel) (pa_cons (pv 1) (pa_cons (pe_bltn (v := .ty "list") (by rfl) T.z_list (by decide +kernel) rfl) pa_nil))))) (pw_or (pt_cmpR op_gt (pe_callB call_len_seq (by rfl) T.z_len PySem.boot_len (pa_cons (pv 1) pa_nil)) (pe_glob rfl T.c_MOST_WORDS ⟨_, rfl⟩) (nomark _)) (pw_or1 (pt_not (pt_val (pe_callB (cr_all rfl) (by rfl) T.z_all (by decide +kernel) (pa_cons (pe_lc (own := [("word", 2)]) (by rfl) sc_check_notes.nd (pi_list (pv 1)) (blkOk_by (own := [("word", 2)]) (N := N_check_notes) (sc := defScope s_check_notes) (by decide +kernel)) (fun _ _ _ _ _ => (pg_name (i := 2) sc_check_notes.nd rfl (.inl rfl))) (fun _ _ _ _ _ => pts_nil) (fun _ _ _ _ _ => (pe_call (ok_is_word T) (hr.mono (by decide)) (by rfl) T.f_is_word.g T.f_is_word.F.kp T.f_is_word.b .nil pass0 (pa_cons (pv 2) pa_nil)))) pa_nil)))))))) (pss_cons ps_never pss_nil) pss_nil) pss_nil)) pss_nil))
theorem ok_check_hand (T : Txt K mg fa ff tk ca ka) : FnOk P w K mg base CX0 3 (fa 4) (ff 4) ["many", "hand"] (spOf (cn K w ca ka) fd_check_hand) :=
  fn_c T.f_check_hand.F sc_check_hand (ks_ok T) fun cdv A outer s H E hr =>
    (pss_cons (ps_if (pt_not (pt_val (pe_call (ok_is_count T) (hr.mono (by decide)) (by rfl) T.f_is_count.g T.f_is_count.F.kp T.f_is_count.b .nil pass0 (pa_cons (pv 1) (pa_cons pe_int (pa_cons (pe_op op_sub (pv 0) pe_int) pa_nil)))))) (pss_cons ps_never pss_nil) pss_nil) pss_nil)
theorem ok_score_of (T : Txt K mg fa ff tk ca ka) : FnOk P w K mg base CX0 1 (fa 5) (ff 5) ["notes", "heard"] (spOf (cn K w ca ka) fd_score_of) :=
  fn_c T.f_score_of.F sc_score_of (ks_ok T) fun cdv A outer s H E hr =>
    (pss_cons (ps_set (i := 2) sc_score_of.nd rfl (.inl rfl) (pe_lst (pa_cons pe_int (pa_cons pe_int pa_nil)))) (pss_cons (ps_for PassesOwn.never rfl (pi_zip (by rfl) T.z_zip (pa_cons (pv 0) (pa_cons (pv 1) pa_nil))) (pg_tup rfl (pgs_cons (pg_name (i := 3) sc_score_of.nd rfl (.inl rfl)) (pgs_cons (pg_name (i := 4) sc_score_of.nd rfl (.inl rfl)) pgs_nil))) (pss_cons (ps_for PassesOwn.never rfl (pi_list (pe_slice sl_list (pv 3) po_none (po_some (pv 4)))) (pg_tup rfl (pgs_cons (pg_name (i := 5) sc_score_of.nd rfl (.inl rfl)) (pgs_cons (pg_name (i := 6) sc_score_of.nd rfl (.inl rfl)) pgs_nil))) (pss_cons (ps_augS (pv 2) (pv 6) get_list (pe_ifExp (pt_cmpR (op_eqD hr.units) (pv 5) pe_str (nomark _)) pe_int (pe_un un_neg pe_int)) ip_add set_list) pss_nil)) pss_nil)) (pss_cons (ps_ret (pe_tup (pa_cons (pe_ix ix_seq (pv 2) pe_int (fun _ _ => rfl)) (pa_cons (pe_ix ix_seq (pv 2) pe_int (fun _ _ => rfl)) pa_nil)))) pss_nil)))
theorem ok_is_heard (T : Txt K mg fa ff tk ca ka) : FnOk P w K mg base CX0 1 (fa 6) (ff 6) ["notes", "heard"] (spOf (cn K w ca ka) fd_is_heard) :=
  fn_c T.f_is_heard.F sc_is_heard (ks_ok T) fun cdv A outer s H E hr =>
    (pss_cons (ps_if (pt_cmpR (op_neD hr.units) (pe_callB call_len_seq (by rfl) T.z_len PySem.boot_len (pa_cons (pv 1) pa_nil)) (pe_callB call_len_seq (by rfl) T.z_len PySem.boot_len (pa_cons (pv 0) pa_nil)) (nomark _)) (pss_cons (ps_ret pe_bl) pss_nil) pss_nil) (pss_cons (ps_ret (pe_callB (cr_all rfl) (by rfl) T.z_all (by decide +kernel) (pa_cons (pe_lc (own := [("words", 2), ("many", 3)]) (by rfl) sc_is_heard.nd (pi_zip (by rfl) T.z_zip (pa_cons (pv 0) (pa_cons (pv 1) pa_nil))) (blkOk_by (own := [("words", 2), ("many", 3)]) (N := N_is_heard) (sc := defScope s_is_heard) (by decide +kernel)) (fun _ _ _ _ _ => (pg_tup rfl (pgs_cons (pg_name (i := 2) sc_is_heard.nd rfl (.inl rfl)) (pgs_cons (pg_name (i := 3) sc_is_heard.nd rfl (.inl rfl)) pgs_nil)))) (fun _ _ _ _ _ => pts_nil) (fun _ _ _ _ _ => (pe_chain op_le op_le pe_int (pv 3) (pe_callB call_len_seq (by rfl) T.z_len PySem.boot_len (pa_cons (pv 2) pa_nil))))) pa_nil))) pss_nil))
theorem ok_all_heard (T : Txt K mg fa ff tk ca ka) : FnOk P w K mg base CX0 1 (fa 7) (ff 7) ["notes", "hand", "said"] (spOf (cn K w ca ka) fd_all_heard) :=
  fn_c T.f_all_heard.F sc_all_heard (ks_ok T) fun cdv A outer s H E hr =>
    (pss_cons (ps_set (i := 3) sc_all_heard.nd rfl (.inl rfl) (pe_lst (pa_cons (pe_lst pa_nil) pa_nil))) (pss_cons (ps_for PassesOwn.never rfl (pi_enum (by rfl) T.z_enumerate (pa_cons (pv 0) pa_nil)) (pg_tup rfl (pgs_cons (pg_name (i := 4) sc_all_heard.nd rfl (.inr rfl)) (pgs_cons (pg_name (i := 5) sc_all_heard.nd rfl (.inl rfl)) pgs_nil))) (pss_cons (ps_set (i := 6) sc_all_heard.nd rfl (.inl rfl) (pe_lst pa_nil)) (pss_cons (ps_for PassesOwn.never rfl (pi_list (pv 3)) (pg_name (i := 7) sc_all_heard.nd rfl (.inr rfl)) (pss_cons (ps_expr (pe_bm PySem.F.plainAttrs_list PySem.F.slot_list_extend PySem.F.type_list_extend mt_extend (pv 6) (pa_cons (pe_lc (own := [("many", 8)]) (by rfl) sc_all_heard.nd (pi_range1 (by rfl) T.z_range (pa_cons (pe_op op_add (pe_callB call_len_seq (by rfl) T.z_len PySem.boot_len (pa_cons (pv 5) pa_nil)) pe_int) pa_nil)) (blkOk_by (own := [("many", 8)]) (N := N_all_heard) (sc := defScope s_all_heard) (by decide +kernel)) (fun _ _ _ _ _ => (pg_name (i := 8) sc_all_heard.nd rfl (.inl rfl))) (fun _ _ _ _ _ => (pts_one (PW.pt (pw_or (pt_cmpR (op_neD hr.units) (pv 4) (pv 1) (nomark _)) (pw_or1 (pt_cmpR (op_eqD hr.units) (pv 8) (pv 2) (nomark _))))))) (fun _ _ _ _ _ => (pe_op op_cat (pv 7) (pe_lst (pa_cons (pv 8) pa_nil))))) pa_nil))) pss_nil)) (pss_frz (pss_cons (ps_set (i := 3) sc_all_heard.nd rfl (.inl rfl) (pv 6)) pss_nil))))) (pss_cons (ps_ret (pv 3)) pss_nil)))
theorem ok_is_no_less (T : Txt K mg fa ff tk ca ka) : FnOk P w K mg base CX0 1 (fa 8) (ff 8) ["heard", "other"] (spOf (cn K w ca ka) fd_is_no_less) :=
  fn_c T.f_is_no_less.F sc_is_no_less (ks_ok T) fun cdv A outer s H E hr =>
    (pss_cons (ps_ret (pe_callB (cr_all rfl) (by rfl) T.z_all (by decide +kernel) (pa_cons (pe_lc (own := [("mine", 2), ("theirs", 3)]) (by rfl) sc_is_no_less.nd (pi_zip (by rfl) T.z_zip (pa_cons (pv 0) (pa_cons (pv 1) pa_nil))) (blkOk_by (own := [("mine", 2), ("theirs", 3)]) (N := N_is_no_less) (sc := defScope s_is_no_less) (by decide +kernel)) (fun _ _ _ _ _ => (pg_tup rfl (pgs_cons (pg_name (i := 2) sc_is_no_less.nd rfl (.inl rfl)) (pgs_cons (pg_name (i := 3) sc_is_no_less.nd rfl (.inl rfl)) pgs_nil)))) (fun _ _ _ _ _ => pts_nil) (fun _ _ _ _ _ => (pe_cmpR op_ge (pv 2) (pv 3) (nomark _)))) pa_nil))) pss_nil)
theorem ok_Desk_init (T : Txt K mg fa ff tk ca ka) : FnOk P w K mg base CX0 3 (fa 9) (ff 9) ["self", "hands"] (spIn (cn K w ca ka) nd_Desk) :=
  inTK_c (c := 0) T.F_Desk_init sc_Desk_init (ks_ok T) T.cl_Desk ((ks_ok (fs := []) (ms := []) (nd := []) (w := w) T).cn 0 _ rfl).2.2.2 rfl (by decide +kernel) (by decide) (by decide) fun cdv A outer s H E hr =>
    (pss_cons (ps_if (pt_not (pt_val (pe_call (ok_is_count T) (hr.mono (by decide)) (by rfl) T.f_is_count.g T.f_is_count.F.kp T.f_is_count.b .nil pass0 (pa_cons (pv 1) (pa_cons pe_int (pa_cons (pe_glob rfl T.c_MOST_HANDS ⟨_, rfl⟩) pa_nil)))))) (pss_one ps_never) pss_nil) (pss_cons (ps_fld (pv 0) (pe_lc (own := [("hand", 2)]) (by rfl) sc_Desk_init.nd (pi_range1 (by rfl) T.z_range (pa_cons (pv 1) pa_nil)) (blkOk_by (own := [("hand", 2)]) (N := N_Desk_init) (sc := defScope s_Desk_init) (by decide +kernel)) (fun _ _ _ _ _ => (pg_name (i := 2) sc_Desk_init.nd rfl (.inl rfl))) (fun _ _ _ _ _ => pts_nil) (fun _ _ _ _ _ => pe_dnewK)) rfl) pss_nil))
theorem ok_Desk_count_of (T : Txt K mg fa ff tk ca ka) : FnOk P w K mg base CX0 1 (fa 10) (ff 10) ["self", "hand"] (spOf (cn K w ca ka) fd_Desk_count_of) :=
  fn_c T.F_Desk_count_of sc_Desk_count_of (ks_ok T) fun cdv A outer s H E hr =>
    (pss_cons (ps_par (by rfl) sc_Desk_count_of.nd rfl rfl (by decide) rfl rfl (pa_cons (pe_ix ix_seq (pe_fld (pv 0) rfl) (pv 1) (fun _ _ => rfl)) (pa_cons pe_int pa_nil)) (by rfl)) (pss_cons (ps_while PassesOwn.never (pt_cmp (pc_din (un1 hr) (pv 3) (pv 2))) (pss_cons (ps_aug (i := 3) sc_Desk_count_of.nd rfl (.inl rfl) pe_int ip_add) pss_nil)) (pss_cons (ps_ret (pv 3)) pss_nil)))
theorem ok_Desk_hear (T : Txt K mg fa ff tk ca ka) : FnOk P w K mg base CX0 4 (fa 11) (ff 11) ["self", "hand", "number", "word"] (spMu (cn K w ca ka) md_Desk_hear) :=
  fnM_c T.F_Desk_hear sc_Desk_hear (ks_ok T) (by decide) fun cdv A outer s H E hr =>
    (pss_cons (ps_expr (pe_call (ok_check_hand T) (hr.mono (by decide)) (by rfl) T.f_check_hand.g T.f_check_hand.F.kp T.f_check_hand.b .nil pass0 (pa_cons (pe_callB call_len_seq (by rfl) T.z_len PySem.boot_len (pa_cons (pe_fld (pv 0) rfl) pa_nil)) (pa_cons (pv 1) pa_nil)))) (pss_cons (ps_if (pt_not (pt_val (pe_call (ok_is_count T) (hr.mono (by decide)) (by rfl) T.f_is_count.g T.f_is_count.F.kp T.f_is_count.b .nil pass0 (pa_cons (pv 2) (pa_cons pe_int (pa_cons (pe_op op_sub (pe_glob rfl T.c_MOST_WORDS ⟨_, rfl⟩) pe_int) pa_nil)))))) (pss_one ps_never) pss_nil) (pss_cons (ps_if (pt_not (pt_val (pe_call (ok_is_word T) (hr.mono (by decide)) (by rfl) T.f_is_word.g T.f_is_word.F.kp T.f_is_word.b .nil pass0 (pa_cons (pv 3) pa_nil)))) (pss_one ps_never) pss_nil) (pss_cons (ps_if (pt_cmpR (op_neD hr.units) (pe_dget2 (un1 hr) (pe_ix ix_seq (pe_fld (pv 0) rfl) (pv 1) (fun _ _ => rfl)) (pv 2) (pv 3) ⟨by rfl, by rfl, by rfl, by rfl⟩) (pv 3) (nomark _)) (pss_one ps_never) pss_nil) (pss_cons (ps_dput (un1 hr) (pe_ix ix_seq (pe_fld (pv 0) rfl) (pv 1) (fun _ _ => rfl)) (pv 2) (pv 3) (by rfl)) (pss_cons (ps_ret (G.pe_or (pe_meth (pv 0) T.cl_Desk T.mt_Desk_count_of (ok_Desk_count_of T) (hr.mono (by decide)) T.b_Desk_count_of .nil pass0 (pa_cons (pv 1) pa_nil)) pe_nope)) pss_nil))))))
theorem ok_Desk_counting (T : Txt K mg fa ff tk ca ka) : FnOk P w K mg base CX0 2 (fa 12) (ff 12) ["self"] (spOf (cn K w ca ka) fd_Desk_counting) :=
  fn_c T.F_Desk_counting sc_Desk_counting (ks_ok T) fun cdv A outer s H E hr =>
    (pss_cons (ps_ret (pe_lc (own := [("hand", 1)]) (by rfl) sc_Desk_counting.nd (pi_range1 (by rfl) T.z_range (pa_cons (pe_callB call_len_seq (by rfl) T.z_len PySem.boot_len (pa_cons (pe_fld (pv 0) rfl) pa_nil)) pa_nil)) (blkOk_by (own := [("hand", 1)]) (N := N_Desk_counting) (sc := defScope s_Desk_counting) (by decide +kernel)) (fun _ _ _ _ _ => (pg_name (i := 1) sc_Desk_counting.nd rfl (.inl rfl))) (fun _ _ _ _ _ => pts_nil) (fun _ _ _ _ _ => (G.pe_or (pe_meth (pv 0) T.cl_Desk T.mt_Desk_count_of (ok_Desk_count_of T) (hr.mono (by decide)) T.b_Desk_count_of .nil pass0 (pa_cons (pv 1) pa_nil)) pe_nope)))) pss_nil)
theorem ok_Desk_notes (T : Txt K mg fa ff tk ca ka) : FnOk P w K mg base CX0 3 (fa 13) (ff 13) ["self"] (spOf (cn K w ca ka) fd_Desk_notes) :=
  fn_c T.F_Desk_notes sc_Desk_notes (ks_ok T) fun cdv A outer s H E hr =>
    (pss_cons (ps_ret (pe_lc (own := [("some", 2), ("many", 3)]) (by rfl) sc_Desk_notes.nd (pi_zip (by rfl) T.z_zip (pa_cons (pe_fld (pv 0) rfl) (pa_cons (G.pe_or (pe_meth0 (pv 0) T.cl_Desk T.mt_Desk_counting (ok_Desk_counting T) (hr.mono (by decide)) T.b_Desk_counting .nil pass0) pe_nope) pa_nil))) (blkOk_by (own := [("some", 2), ("many", 3)]) (N := N_Desk_notes) (sc := defScope s_Desk_notes) (by decide +kernel)) (fun _ _ _ _ _ => (pg_tup rfl (pgs_cons (pg_name (i := 2) sc_Desk_notes.nd rfl (.inr rfl)) (pgs_cons (pg_name (i := 3) sc_Desk_notes.nd rfl (.inl rfl)) pgs_nil)))) (fun _ _ _ _ _ => pts_nil) (fun _ _ _ _ _ => (pe_lc (own := [("number", 1)]) (by rfl) sc_Desk_notes.nd (pi_range1 (by rfl) T.z_range (pa_cons (pv 3) pa_nil)) (blkOk_in (own := [("number", 1)]) (N := N_Desk_notes) (sc0 := defScope s_Desk_notes) rfl (by decide +kernel)) (fun _ _ _ _ _ => (pg_name (i := 1) sc_Desk_notes.nd rfl (.inl rfl))) (fun _ _ _ _ _ => pts_nil) (fun _ _ _ _ _ => (pe_dget (un1 hr) (pv 2) (pv 1) (fun _ _ => rfl))))))) pss_nil)
theorem ok_Desk_score (T : Txt K mg fa ff tk ca ka) : FnOk P w K mg base CX0 4 (fa 14) (ff 14) ["self"] (spOf (cn K w ca ka) fd_Desk_score) :=
  fn_c T.F_Desk_score sc_Desk_score (ks_ok T) fun cdv A outer s H E hr =>
    (pss_cons (ps_ret (pe_call (ok_score_of T) (hr.mono (by decide)) (by rfl) T.f_score_of.g T.f_score_of.F.kp T.f_score_of.b .nil pass0 (pa_cons (G.pe_or (pe_meth0 (pv 0) T.cl_Desk T.mt_Desk_notes (ok_Desk_notes T) (hr.mono (by decide)) T.b_Desk_notes .nil pass0) pe_nope) (pa_cons (G.pe_or (pe_meth0 (pv 0) T.cl_Desk T.mt_Desk_counting (ok_Desk_counting T) (hr.mono (by decide)) T.b_Desk_counting .nil pass0) pe_nope) pa_nil)))) pss_nil)
theorem ok_History_init (T : Txt K mg fa ff tk ca ka) : FnOk P w K mg base CX0 1 (fa 15) (ff 15) ["self", "heard"] (spIn (cn K w ca ka) nd_History) :=
  inT_c (c := 2) T.F_History_init sc_History_init (ks_ok T) T.cl_History ((ks_ok (fs := []) (ms := []) (nd := []) (w := w) T).cn 2 _ rfl).2.2.2 rfl (by decide +kernel) (by decide) (by decide) fun cdv A outer s H E hr =>
    (pss_cons (ps_fld (pv 0) (pe_lc (own := [("some", 2)]) (by rfl) sc_History_init.nd (pi_list (pv 1)) (blkOk_by (own := [("some", 2)]) (N := N_History_init) (sc := defScope s_History_init) (by decide +kernel)) (fun _ _ _ _ _ => (pg_name (i := 2) sc_History_init.nd rfl (.inl rfl))) (fun _ _ _ _ _ => pts_nil) (fun _ _ _ _ _ => (pe_callTy call_list_of (by rfl) T.z_list (by decide +kernel) (pa_cons (pv 2) pa_nil)))) rfl) pss_nil)
theorem ok_Never_init (T : Txt K mg fa ff tk ca ka) : FnOk P w K mg base CX0 1 (fa 16) (ff 16) ["self", "lists"] (spIn (cn K w ca ka) nd_Never) :=
  inT_c (c := 3) T.F_Never_init sc_Never_init (ks_ok T) T.cl_Never ((ks_ok (fs := []) (ms := []) (nd := []) (w := w) T).cn 3 _ rfl).2.2.2 rfl (by decide +kernel) (by decide) (by decide) fun cdv A outer s H E hr =>
    (pss_cons (ps_fld (pv 0) (pe_lc (own := [("one", 2)]) (by rfl) sc_Never_init.nd (pi_list (pv 1)) (blkOk_by (own := [("one", 2)]) (N := N_Never_init) (sc := defScope s_Never_init) (by decide +kernel)) (fun _ _ _ _ _ => (pg_name (i := 2) sc_Never_init.nd rfl (.inl rfl))) (fun _ _ _ _ _ => pts_nil) (fun _ _ _ _ _ => (pe_lc (own := [("some", 3)]) (by rfl) sc_Never_init.nd (pi_list (pv 2)) (blkOk_in (own := [("some", 3)]) (N := N_Never_init) (sc0 := defScope s_Never_init) rfl (by decide +kernel)) (fun _ _ _ _ _ => (pg_name (i := 3) sc_Never_init.nd rfl (.inl rfl))) (fun _ _ _ _ _ => pts_nil) (fun _ _ _ _ _ => (pe_callTy call_list_of (by rfl) T.z_list (by decide +kernel) (pa_cons (pv 3) pa_nil)))))) rfl) pss_nil)
theorem ok_Leads_init (T : Txt K mg fa ff tk ca ka) : FnOk P w K mg base CX0 1 (fa 17) (ff 17) ["self", "least", "low", "most", "high"] (spIn (cn K w ca ka) nd_Leads) :=
  inT_c (c := 4) T.F_Leads_init sc_Leads_init (ks_ok T) T.cl_Leads ((ks_ok (fs := []) (ms := []) (nd := []) (w := w) T).cn 4 _ rfl).2.2.2 rfl (by decide +kernel) (by decide) (by decide) fun cdv A outer s H E hr =>
    (pss_cons (ps_fld (pv 0) (pv 1) rfl) (pss_cons (ps_fld (pv 0) (pe_callTy call_list_of (by rfl) T.z_list (by decide +kernel) (pa_cons (pv 2) pa_nil)) rfl) (pss_cons (ps_fld (pv 0) (pv 3) rfl) (pss_cons (ps_fld (pv 0) (pe_callTy call_list_of (by rfl) T.z_list (by decide +kernel) (pa_cons (pv 4) pa_nil)) rfl) pss_nil))))
theorem ok_gone_over (T : Txt K mg fa ff tk ca ka) : FnOk P w K mg base CX0 1 (fa 18) (ff 18) ["rule", "points"] (spOf (cn K w ca ka) fd_gone_over) :=
  fn_c T.f_gone_over.F sc_gone_over (ks_ok T) fun cdv A outer s H E hr =>
    (pss_cons (ps_asg (pv 0) (pg_tup rfl (pgs_cons (pg_name (i := 3) sc_gone_over.nd rfl (.inl rfl)) (pgs_cons (pg_name (i := 4) sc_gone_over.nd rfl (.inl rfl)) pgs_nil)))) (pss_cons (ps_par (by rfl) sc_gone_over.nd rfl rfl (by decide) rfl rfl (pa_cons (pe_lst pa_nil) (pa_cons (pe_lst (pa_cons pe_int (pa_cons pe_int pa_nil))) pa_nil)) (by rfl)) (pss_cons (ps_for PassesOwn.never rfl (pi_list (pv 1)) (pg_name (i := 2) sc_gone_over.nd rfl (.inl rfl)) (pss_cons (ps_augS (pv 6) (pv 2) get_list pe_int ip_add set_list) (pss_cons (ps_if (PW.pt (pw_and (pt_cmpR op_ge (pe_ix ix_seq (pv 6) (pv 2) (fun _ _ => rfl)) (pv 3) (nomark _)) (pw_and1 (pt_cmpR op_ge (pe_op op_sub (pe_ix ix_seq (pv 6) (pv 2) (fun _ _ => rfl)) (pe_ix ix_seq (pv 6) (pe_op op_sub pe_int (pv 2)) (fun _ _ => rfl))) (pv 4) (nomark _))))) (pss_cons (ps_expr (pe_bm PySem.F.plainAttrs_list PySem.F.slot_list_append PySem.F.type_list_append mt_append (pv 5) (pa_cons (pv 2) pa_nil))) (pss_cons (ps_set (i := 6) sc_gone_over.nd rfl (.inl rfl) (pe_lst (pa_cons pe_int (pa_cons pe_int pa_nil)))) pss_nil)) pss_nil) pss_nil))) (pss_cons (ps_ret (pe_tup (pa_cons (pv 5) (pa_cons (pe_tup (pa_cons (pe_ix ix_seq (pv 6) pe_int (fun _ _ => rfl)) (pa_cons (pe_ix ix_seq (pv 6) pe_int (fun _ _ => rfl)) pa_nil))) pa_nil)))) pss_nil))))
theorem ok_check_game (T : Txt K mg fa ff tk ca ka) : FnOk P w K mg base CX0 3 (fa 19) (ff 19) ["rule", "points"] (spOf (cn K w ca ka) fd_check_game) :=
  fn_c T.f_check_game.F sc_check_game (ks_ok T) fun cdv A outer s H E hr =>
    (pss_cons (ps_if (PW.pt (pw_or (pt_not (pt_val (pe_callB call_isi (by rfl) T.z_isinstance (by decide +kernel) (pa_cons (pv 0) (pa_cons (pe_bltn (v := .ty "tuple") (by rfl) T.z_tuple (by decide +kernel) rfl) pa_nil))))) (pw_or (pt_cmpR (op_neD hr.units) (pe_callB call_len_seq (by rfl) T.z_len PySem.boot_len (pa_cons (pv 0) pa_nil)) pe_int (nomark _)) (pw_or1 (pt_not (pt_val (pe_call (ok_is_count T) (hr.mono (by decide)) (by rfl) T.f_is_count.g T.f_is_count.F.kp T.f_is_count.b .nil pass0 (pa_cons (pe_ix ix_seq (pv 0) pe_int (fun _ _ => rfl)) (pa_cons pe_int (pa_cons (pe_glob rfl T.c_MOST_TO ⟨_, rfl⟩) pa_nil)))))))))) (pss_cons ps_never pss_nil) pss_nil) (pss_cons (ps_if (pt_not (pt_val (pe_call (ok_is_count T) (hr.mono (by decide)) (by rfl) T.f_is_count.g T.f_is_count.F.kp T.f_is_count.b .nil pass0 (pa_cons (pe_ix ix_seq (pv 0) pe_int (fun _ _ => rfl)) (pa_cons pe_int (pa_cons (pe_glob rfl T.c_MOST_AHEAD ⟨_, rfl⟩) pa_nil)))))) (pss_cons ps_never pss_nil) pss_nil) (pss_cons (ps_if (PW.pt (pw_or (pt_not (pt_val (pe_callB call_isi (by rfl) T.z_isinstance (by decide +kernel) (pa_cons (pv 1) (pa_cons (pe_bltn (v := .ty "list") (by rfl) T.z_list (by decide +kernel) rfl) pa_nil))))) (pw_or (pt_cmpR op_gt (pe_callB call_len_seq (by rfl) T.z_len PySem.boot_len (pa_cons (pv 1) pa_nil)) (pe_glob rfl T.c_MOST_POINTS ⟨_, rfl⟩) (nomark _)) (pw_or1 (pt_not (pt_val (pe_callB (cr_all rfl) (by rfl) T.z_all (by decide +kernel) (pa_cons (pe_lc (own := [("one", 2)]) (by rfl) sc_check_game.nd (pi_list (pv 1)) (blkOk_by (own := [("one", 2)]) (N := N_check_game) (sc := defScope s_check_game) (by decide +kernel)) (fun _ _ _ _ _ => (pg_name (i := 2) sc_check_game.nd rfl (.inl rfl))) (fun _ _ _ _ _ => pts_nil) (fun _ _ _ _ _ => (pe_call (ok_is_count T) (hr.mono (by decide)) (by rfl) T.f_is_count.g T.f_is_count.F.kp T.f_is_count.b .nil pass0 (pa_cons (pv 2) (pa_cons pe_int (pa_cons pe_int pa_nil)))))) pa_nil)))))))) (pss_cons ps_never pss_nil) pss_nil) pss_nil)))
theorem ok_games (T : Txt K mg fa ff tk ca ka) : FnOk P w K mg base CX0 4 (fa 20) (ff 20) ["rule", "points"] (spOf (cn K w ca ka) fd_games) :=
  fn_c T.f_games.F sc_games (ks_ok T) fun cdv A outer s H E hr =>
    (pss_cons (ps_expr (pe_call (ok_check_game T) (hr.mono (by decide)) (by rfl) T.f_check_game.g T.f_check_game.F.kp T.f_check_game.b .nil pass0 (pa_cons (pv 0) (pa_cons (pv 1) pa_nil)))) (pss_cons (ps_ret (pe_call (ok_gone_over T) (hr.mono (by decide)) (by rfl) T.f_gone_over.g T.f_gone_over.F.kp T.f_gone_over.b .nil pass0 (pa_cons (pv 0) (pa_cons (pv 1) pa_nil)))) pss_nil))
theorem ok_score (T : Txt K mg fa ff tk ca ka) : FnOk P w K mg base CX0 5 (fa 21) (ff 21) ["notes", "heard"] (spOf (cn K w ca ka) fd_score) :=
  fn_c T.f_score.F sc_score (ks_ok T) fun cdv A outer s H E hr =>
    (pss_cons (ps_expr (pe_call (ok_check_notes T) (hr.mono (by decide)) (by rfl) T.f_check_notes.g T.f_check_notes.F.kp T.f_check_notes.b .nil pass0 (pa_cons (pv 0) pa_nil))) (pss_cons (ps_if (PW.pt (pw_or (pt_not (pt_val (pe_callB call_isi (by rfl) T.z_isinstance (by decide +kernel) (pa_cons (pv 1) (pa_cons (pe_bltn (v := .ty "list") (by rfl) T.z_list (by decide +kernel) rfl) pa_nil))))) (pw_or (pt_not (pt_val (pe_callB (cr_all rfl) (by rfl) T.z_all (by decide +kernel) (pa_cons (pe_lc (own := [("many", 2)]) (by rfl) sc_score.nd (pi_list (pv 1)) (blkOk_by (own := [("many", 2)]) (N := N_score) (sc := defScope s_score) (by decide +kernel)) (fun _ _ _ _ _ => (pg_name (i := 2) sc_score.nd rfl (.inl rfl))) (fun _ _ _ _ _ => pts_nil) (fun _ _ _ _ _ => (pe_call (ok_is_whole T) (hr.mono (by decide)) (by rfl) T.f_is_whole.g T.f_is_whole.F.kp T.f_is_whole.b .nil pass0 (pa_cons (pv 2) pa_nil)))) pa_nil)))) (pw_or1 (pt_not (pt_val (pe_call (ok_is_heard T) (hr.mono (by decide)) (by rfl) T.f_is_heard.g T.f_is_heard.F.kp T.f_is_heard.b .nil pass0 (pa_cons (pv 0) (pa_cons (pv 1) pa_nil))))))))) (pss_cons ps_never pss_nil) pss_nil) (pss_cons (ps_ret (pe_call (ok_score_of T) (hr.mono (by decide)) (by rfl) T.f_score_of.g T.f_score_of.F.kp T.f_score_of.b .nil pass0 (pa_cons (pv 0) (pa_cons (pv 1) pa_nil)))) pss_nil)))
theorem ok_is_showing (T : Txt K mg fa ff tk ca ka) : FnOk P w K mg base CX0 3 (fa 22) (ff 22) ["thing", "most"] (spOf (cn K w ca ka) fd_is_showing) :=
  fn_c T.f_is_showing.F sc_is_showing (ks_ok T) fun cdv A outer s H E hr =>
    (pss_cons (ps_if (PW.pt (pw_or (pt_not (pt_val (pe_callB call_isi (by rfl) T.z_isinstance (by decide +kernel) (pa_cons (pv 0) (pa_cons (pe_bltn (v := .ty "tuple") (by rfl) T.z_tuple (by decide +kernel) rfl) pa_nil))))) (pw_or (pt_cmpR (op_neD hr.units) (pe_callB call_len_seq (by rfl) T.z_len PySem.boot_len (pa_cons (pv 0) pa_nil)) pe_int (nomark _)) (pw_or1 (pt_not (pt_val (pe_call (ok_is_count T) (hr.mono (by decide)) (by rfl) T.f_is_count.g T.f_is_count.F.kp T.f_is_count.b .nil pass0 (pa_cons (pe_ix ix_seq (pv 0) pe_int (fun _ _ => rfl)) (pa_cons pe_int (pa_cons (pv 1) pa_nil)))))))))) (pss_cons (ps_ret pe_bl) pss_nil) pss_nil) (pss_cons (ps_ret (pe_and (pe_call (ok_is_whole T) (hr.mono (by decide)) (by rfl) T.f_is_whole.g T.f_is_whole.F.kp T.f_is_whole.b .nil pass0 (pa_cons (pe_ix ix_seq (pv 0) pe_int (fun _ _ => rfl)) pa_nil)) (pe_one (pe_call (ok_is_whole T) (hr.mono (by decide)) (by rfl) T.f_is_whole.g T.f_is_whole.F.kp T.f_is_whole.b .nil pass0 (pa_cons (pe_ix ix_seq (pv 0) pe_int (fun _ _ => rfl)) pa_nil))))) pss_nil))
theorem ok_lists_of (T : Txt K mg fa ff tk ca ka) : FnOk P w K mg base CX0 2 (fa 23) (ff 23) ["notes", "hand", "shown"] (spOf (cn K w ca ka) fd_lists_of) :=
  fn_c T.f_lists_of.F sc_lists_of (ks_ok T) fun cdv A outer s H E hr =>
    (pss_cons (ps_set (i := 3) sc_lists_of.nd rfl (.inr rfl) (pe_lst pa_nil)) (pss_cons (ps_for PassesOwn.never rfl (pi_list (pv 2)) (pg_tup rfl (pgs_cons (pg_name (i := 4) sc_lists_of.nd rfl (.inl rfl)) (pgs_cons (pg_name (i := 5) sc_lists_of.nd rfl (.inr rfl)) (pgs_cons (pg_name (i := 6) sc_lists_of.nd rfl (.inr rfl)) pgs_nil)))) (pss_cons (ps_setLc (i := 7) (own := [("heard", 8)]) (by rfl) sc_lists_of.nd rfl rfl (sw_true rfl rfl rfl (by decide +kernel)) (pi_list (pe_call (ok_all_heard T) (hr.mono (by decide)) (by rfl) T.f_all_heard.g T.f_all_heard.F.kp T.f_all_heard.b .nil pass0 (pa_cons (pv 0) (pa_cons (pv 1) (pa_cons (pv 4) pa_nil))))) (blkOk_by (own := [("heard", 8)]) (N := N_lists_of) (sc := defScope s_lists_of) (by decide +kernel)) (fun _ _ _ _ _ => (pg_name (i := 8) sc_lists_of.nd rfl (.inl rfl))) (fun _ _ _ _ _ => (pts_one (pt_cmpR (op_eqD hr.units) (pe_call (ok_score_of T) (hr.mono (by decide)) (by rfl) T.f_score_of.g T.f_score_of.F.kp T.f_score_of.b .nil pass0 (pa_cons (pv 0) (pa_cons (pv 8) pa_nil))) (pe_tup (pa_cons (pv 5) (pa_cons (pv 6) pa_nil))) (nomark _)))) (fun _ _ _ _ _ => (pv 8))) (pss_cons (ps_if (pt_cmpR (op_neD hr.units) (pv 3) (pe_lst pa_nil) (nomark _)) (pss_cons (ps_setLc (i := 7) (own := [("heard", 8)]) (by rfl) sc_lists_of.nd rfl rfl (sw_true rfl rfl rfl (by decide +kernel)) (pi_list (pv 7)) (blkOk_by (own := [("heard", 8)]) (N := N_lists_of) (sc := defScope s_lists_of) (by decide +kernel)) (fun _ _ _ _ _ => (pg_name (i := 8) sc_lists_of.nd rfl (.inr rfl))) (fun _ _ _ _ _ => (pts_one (pt_val (pe_callB (cr_any rfl) (by rfl) T.z_any (by decide +kernel) (pa_cons (pe_lc (own := [("other", 9)]) (by rfl) sc_lists_of.nd (pi_list (pe_ix ix_seq (pv 3) (pe_un un_neg pe_int) (fun _ _ => rfl))) (blkOk_in (own := [("other", 9)]) (N := N_lists_of) (sc0 := defScope s_lists_of) rfl (by decide +kernel)) (fun _ _ _ _ _ => (pg_name (i := 9) sc_lists_of.nd rfl (.inl rfl))) (fun _ _ _ _ _ => pts_nil) (fun _ _ _ _ _ => (pe_call (ok_is_no_less T) (hr.mono (by decide)) (by rfl) T.f_is_no_less.g T.f_is_no_less.F.kp T.f_is_no_less.b .nil pass0 (pa_cons (pv 8) (pa_cons (pv 9) pa_nil))))) pa_nil))))) (fun _ _ _ _ _ => (pv 8))) pss_nil) pss_nil) (pss_cons (ps_expr (pe_bm PySem.F.plainAttrs_list PySem.F.slot_list_append PySem.F.type_list_append mt_append (pv 3) (pa_cons (pv 7) pa_nil))) pss_nil)))) (pss_cons (ps_ret (pv 3)) pss_nil)))
theorem ok_history_of (T : Txt K mg fa ff tk ca ka) : FnOk P w K mg base CX0 2 (fa 24) (ff 24) ["lists"] (spOf (cn K w ca ka) fd_history_of) :=
  fn_c T.f_history_of.F sc_history_of (ks_ok T) fun cdv A outer s H E hr =>
    (pss_cons (ps_set (i := 1) sc_history_of.nd rfl (.inr rfl) (pe_ifExp (pt_cmpR (op_neD hr.units) (pv 0) (pe_lst pa_nil) (nomark _)) (pe_lst (pa_cons (pe_ix ix_seq (pe_ix ix_seq (pv 0) (pe_un un_neg pe_int) (fun _ _ => rfl)) pe_int (fun _ _ => rfl)) pa_nil)) (pe_lst pa_nil))) (pss_cons (ps_for PassesOwn.never rfl (pi_list (pe_slice sl_list (pe_revL (pv 0)) (po_some pe_int) po_none)) (pg_name (i := 2) sc_history_of.nd rfl (.inl rfl)) (pss_cons (ps_expr (pe_bm PySem.F.plainAttrs_list PySem.F.slot_list_append PySem.F.type_list_append mt_append (pv 1) (pa_cons (pe_ix ix_seq (pe_lc (own := [("heard", 3)]) (by rfl) sc_history_of.nd (pi_list (pv 2)) (blkOk_by (own := [("heard", 3)]) (N := N_history_of) (sc := defScope s_history_of) (by decide +kernel)) (fun _ _ _ _ _ => (pg_name (i := 3) sc_history_of.nd rfl (.inl rfl))) (fun _ _ _ _ _ => (pts_one (pt_val (pe_call (ok_is_no_less T) (hr.mono (by decide)) (by rfl) T.f_is_no_less.g T.f_is_no_less.F.kp T.f_is_no_less.b .nil pass0 (pa_cons (pe_ix ix_seq (pv 1) (pe_un un_neg pe_int) (fun _ _ => rfl)) (pa_cons (pv 3) pa_nil)))))) (fun _ _ _ _ _ => (pv 3))) pe_int (fun _ _ => rfl)) pa_nil))) pss_nil)) (pss_cons (ps_ret (pe_revL (pv 1))) pss_nil)))
theorem ok_judged (T : Txt K mg fa ff tk ca ka) : FnOk P w K mg base CX0 5 (fa 25) (ff 25) ["notes", "hand", "shown"] (spOf (cn K w ca ka) fd_judged) :=
  fnT_c T.f_judged.F sc_judged (ks_ok T) rfl fun cdv A outer s H E hr =>
    (pss_cons (ps_expr (pe_call (ok_check_notes T) (hr.mono (by decide)) (by rfl) T.f_check_notes.g T.f_check_notes.F.kp T.f_check_notes.b .nil pass0 (pa_cons (pv 0) pa_nil))) (pss_cons (ps_expr (pe_call (ok_check_hand T) (hr.mono (by decide)) (by rfl) T.f_check_hand.g T.f_check_hand.F.kp T.f_check_hand.b .nil pass0 (pa_cons (pe_callB call_len_seq (by rfl) T.z_len PySem.boot_len (pa_cons (pv 0) pa_nil)) (pa_cons (pv 1) pa_nil)))) (pss_cons (ps_if (PW.pt (pw_or (pt_not (pt_val (pe_callB call_isi (by rfl) T.z_isinstance (by decide +kernel) (pa_cons (pv 2) (pa_cons (pe_bltn (v := .ty "list") (by rfl) T.z_list (by decide +kernel) rfl) pa_nil))))) (pw_or1 (pt_cmpR op_gt (pe_callB call_len_seq (by rfl) T.z_len PySem.boot_len (pa_cons (pv 2) pa_nil)) (pe_glob rfl T.c_MOST_SHOWN ⟨_, rfl⟩) (nomark _))))) (pss_cons ps_never pss_nil) pss_nil) (pss_cons (ps_if (pt_not (pt_val (pe_callB (cr_all rfl) (by rfl) T.z_all (by decide +kernel) (pa_cons (pe_lc (own := [("one", 4)]) (by rfl) sc_judged.nd (pi_list (pv 2)) (blkOk_by (own := [("one", 4)]) (N := N_judged) (sc := defScope s_judged) (by decide +kernel)) (fun _ _ _ _ _ => (pg_name (i := 4) sc_judged.nd rfl (.inl rfl))) (fun _ _ _ _ _ => pts_nil) (fun _ _ _ _ _ => (pe_call (ok_is_showing T) (hr.mono (by decide)) (by rfl) T.f_is_showing.g T.f_is_showing.F.kp T.f_is_showing.b .nil pass0 (pa_cons (pv 4) (pa_cons (pe_callB call_len_seq (by rfl) T.z_len PySem.boot_len (pa_cons (pe_ix ix_seq (pv 0) (pv 1) (fun _ _ => rfl)) pa_nil)) pa_nil))))) pa_nil)))) (pss_cons ps_never pss_nil) pss_nil) (pss_cons (ps_if (pt_val (pe_callB (cr_any rfl) (by rfl) T.z_any (by decide +kernel) (pa_cons (pe_lc (own := [("one", 4), ("other", 5)]) (by rfl) sc_judged.nd (pi_zip (by rfl) T.z_zip (pa_cons (pv 2) (pa_cons (pe_slice sl_list (pv 2) (po_some pe_int) po_none) pa_nil))) (blkOk_by (own := [("one", 4), ("other", 5)]) (N := N_judged) (sc := defScope s_judged) (by decide +kernel)) (fun _ _ _ _ _ => (pg_tup rfl (pgs_cons (pg_name (i := 4) sc_judged.nd rfl (.inl rfl)) (pgs_cons (pg_name (i := 5) sc_judged.nd rfl (.inl rfl)) pgs_nil)))) (fun _ _ _ _ _ => pts_nil) (fun _ _ _ _ _ => (pe_cmpR op_gt (pe_ix ix_seq (pv 4) pe_int (fun _ _ => rfl)) (pe_ix ix_seq (pv 5) pe_int (fun _ _ => rfl)) (nomark _)))) pa_nil))) (pss_cons ps_never pss_nil) pss_nil) (pss_cons (ps_set (i := 3) sc_judged.nd rfl (.inl rfl) (pe_call (ok_lists_of T) (hr.mono (by decide)) (by rfl) T.f_lists_of.g T.f_lists_of.F.kp T.f_lists_of.b .nil pass0 (pa_cons (pv 0) (pa_cons (pv 1) (pa_cons (pv 2) pa_nil))))) (pss_cons (ps_ret (pe_ifExp (PW.pt (pw_and (pt_cmpR (op_neD hr.units) (pv 3) (pe_lst pa_nil) (nomark _)) (pw_and1 (pt_cmpR (op_eqD hr.units) (pe_ix ix_seq (pv 3) (pe_un un_neg pe_int) (fun _ _ => rfl)) (pe_lst pa_nil) (nomark _))))) (pe_make T.mk_Never (ok_Never_init T) (hr.mono (by decide)) (by rfl) T.g_Never T.b_Never_init .nil pass0 (pa_cons (pv 3) pa_nil)) (pe_make T.mk_History (ok_History_init T) (hr.mono (by decide)) (by rfl) T.g_History T.b_History_init .nil pass0 (pa_cons (pe_call (ok_history_of T) (hr.mono (by decide)) (by rfl) T.f_history_of.g T.f_history_of.F.kp T.f_history_of.b .nil pass0 (pa_cons (pv 3) pa_nil)) pa_nil)))) pss_nil)))))))
theorem ok_leads (T : Txt K mg fa ff tk ca ka) : FnOk P w K mg base CX0 5 (fa 26) (ff 26) ["notes", "hand", "said"] (spOf (cn K w ca ka) fd_leads) :=
  fnT_c T.f_leads.F sc_leads (ks_ok T) rfl fun cdv A outer s H E hr =>
    (pss_cons (ps_expr (pe_call (ok_check_notes T) (hr.mono (by decide)) (by rfl) T.f_check_notes.g T.f_check_notes.F.kp T.f_check_notes.b .nil pass0 (pa_cons (pv 0) pa_nil))) (pss_cons (ps_expr (pe_call (ok_check_hand T) (hr.mono (by decide)) (by rfl) T.f_check_hand.g T.f_check_hand.F.kp T.f_check_hand.b .nil pass0 (pa_cons (pe_callB call_len_seq (by rfl) T.z_len PySem.boot_len (pa_cons (pv 0) pa_nil)) (pa_cons (pv 1) pa_nil)))) (pss_cons (ps_if (pt_not (pt_val (pe_call (ok_is_count T) (hr.mono (by decide)) (by rfl) T.f_is_count.g T.f_is_count.F.kp T.f_is_count.b .nil pass0 (pa_cons (pv 2) (pa_cons pe_int (pa_cons (pe_callB call_len_seq (by rfl) T.z_len PySem.boot_len (pa_cons (pe_ix ix_seq (pv 0) (pv 1) (fun _ _ => rfl)) pa_nil)) pa_nil)))))) (pss_cons ps_never pss_nil) pss_nil) (pss_cons (ps_set (i := 3) sc_leads.nd rfl (.inl rfl) (pe_lst pa_nil)) (pss_cons (ps_for PassesOwn.never rfl (pi_list (pe_call (ok_all_heard T) (hr.mono (by decide)) (by rfl) T.f_all_heard.g T.f_all_heard.F.kp T.f_all_heard.b .nil pass0 (pa_cons (pv 0) (pa_cons (pv 1) (pa_cons (pv 2) pa_nil))))) (pg_name (i := 4) sc_leads.nd rfl (.inl rfl)) (pss_cons (ps_asg (pe_call (ok_score_of T) (hr.mono (by decide)) (by rfl) T.f_score_of.g T.f_score_of.F.kp T.f_score_of.b .nil pass0 (pa_cons (pv 0) (pa_cons (pv 4) pa_nil))) (pg_tup rfl (pgs_cons (pg_name (i := 7) sc_leads.nd rfl (.inl rfl)) (pgs_cons (pg_name (i := 8) sc_leads.nd rfl (.inl rfl)) pgs_nil)))) (pss_cons (ps_expr (pe_bm PySem.F.plainAttrs_list PySem.F.slot_list_append PySem.F.type_list_append mt_append (pv 3) (pa_cons (pe_tup (pa_cons (pe_op op_sub (pv 7) (pv 8)) (pa_cons (pv 4) pa_nil))) pa_nil))) pss_nil))) (pss_frz (pss_cons (ps_par (by rfl) sc_leads.nd rfl rfl (by decide) rfl rfl (pa_cons (pe_callB (cr_minDat (by rfl) (by exact hr.units)) (by rfl) T.z_min (by decide +kernel) (pa_cons (pv 3) pa_nil)) (pa_cons (pe_callB (cr_maxDat (by rfl) (by exact hr.units)) (by rfl) T.z_max (by decide +kernel) (pa_cons (pv 3) pa_nil)) pa_nil)) (by rfl)) (pss_cons (ps_ret (pe_make T.mk_Leads (ok_Leads_init T) (hr.mono (by decide)) (by rfl) T.g_Leads T.b_Leads_init .nil pass0 (pa_cons (pe_ix ix_seq (pv 5) pe_int (fun _ _ => rfl)) (pa_cons (pe_ix ix_seq (pv 5) pe_int (fun _ _ => rfl)) (pa_cons (pe_ix ix_seq (pv 6) pe_int (fun _ _ => rfl)) (pa_cons (pe_ix ix_seq (pv 6) pe_int (fun _ _ => rfl)) pa_nil)))))) pss_nil))))))))
theorem ok__law_cell_at (T : Txt K mg fa ff tk ca ka) : FnOk P w K mg base CX0 1 (fa 27) (ff 27) ["_law_script", "_law_k"] (spOf (cn K w ca ka) fd__law_cell_at) :=
  fn_c T.f__law_cell_at.F sc__law_cell_at (ks_ok T) fun cdv A outer s H E hr =>
    (pss_cons (ps_if (pt_cmpR op_lt (pv 1) (pe_callB call_len_seq (by rfl) T.z_len PySem.boot_len (pa_cons (pv 0) pa_nil)) (nomark _)) (pss_cons (ps_ret (pe_ix ix_seq (pv 0) (pv 1) (fun _ _ => rfl))) pss_nil) pss_nil) (pss_cons (ps_ret pe_int) pss_nil))
theorem ok__law_draw (T : Txt K mg fa ff tk ca ka) : FnOk P w K mg base CX0 1 (fa 28) (ff 28) ["_law_cell", "_law_k", "_law_many"] (spOf (cn K w ca ka) fd__law_draw) :=
  fn_c T.f__law_draw.F sc__law_draw (ks_ok T) fun cdv A outer s H E hr =>
    (pss_cons (ps_set (i := 3) sc__law_draw.nd rfl (.inl rfl) (pe_tup (pa_cons pe_int (pa_cons pe_int (pa_cons pe_int (pa_cons pe_int (pa_cons pe_int (pa_cons pe_int (pa_cons pe_int (pa_cons pe_int (pa_cons pe_int (pa_cons pe_int (pa_cons pe_int (pa_cons pe_int (pa_cons pe_int (pa_cons pe_int (pa_cons pe_int (pa_cons pe_int pa_nil)))))))))))))))))) (pss_cons (ps_ret (pe_op op_mod (pe_op op_mod (pe_op op_add (pe_op op_mulX (pv 0) pe_int) (pe_op op_mulX (pv 1) pe_int)) (pe_ix ix_seq (pv 3) (pe_op op_mod (pv 1) pe_int) (fun _ _ => rfl))) (pv 2))) pss_nil))
theorem ok__law_value (T : Txt K mg fa ff tk ca ka) : FnOk P w K mg base CX0 2 (fa 29) (ff 29) ["_law_cell", "_law_turn"] (spOf (cn K w ca ka) fd__law_value) :=
  fn_c T.f__law_value.F sc__law_value (ks_ok T) fun cdv A outer s H E hr =>
    (pss_cons (ps_if (pt_cmpR op_ge (pv 0) (pe_op op_pow pe_int pe_int) (nomark _)) (pss_cons (ps_ret (pe_op op_shr (pe_op op_mod (pe_op op_sub (pv 0) (pe_op op_pow pe_int pe_int)) (pe_op op_pow pe_int pe_int)) (pe_op op_mulX pe_int (pv 1)))) pss_nil) pss_nil) (pss_cons (ps_set (i := 2) sc__law_value.nd rfl (.inl rfl) (pe_call (ok__law_draw T) (hr.mono (by decide)) (by rfl) T.f__law_draw.g T.f__law_draw.F.kp T.f__law_draw.b .nil pass0 (pa_cons (pe_op op_mulX (pe_op op_add (pv 0) (pe_op op_mulX pe_int (pv 1))) (pe_op op_add (pe_op op_add (pv 0) (pe_op op_mulX pe_int (pv 1))) pe_int)) (pa_cons (pe_op op_add (pe_op op_mod (pv 1) pe_int) pe_int) (pa_cons pe_int pa_nil))))) (pss_cons (ps_ret (pe_op op_add (pe_op op_mulX (pv 2) pe_int) (pe_call (ok__law_draw T) (hr.mono (by decide)) (by rfl) T.f__law_draw.g T.f__law_draw.F.kp T.f__law_draw.b .nil pass0 (pa_cons (pe_op op_add (pe_op op_mulX (pe_op op_add (pv 0) (pe_op op_mulX pe_int (pv 1))) (pe_op op_add (pv 0) pe_int)) (pe_op op_mulX pe_int (pv 1))) (pa_cons (pe_op op_add (pe_op op_mod (pv 1) pe_int) pe_int) (pa_cons pe_int pa_nil)))))) pss_nil)))
theorem ok__law_notes (T : Txt K mg fa ff tk ca ka) : FnOk P w K mg base CX0 3 (fa 30) (ff 30) ["_law_script", "_law_by"] (spOf (cn K w ca ka) fd__law_notes) :=
  fn_c T.f__law_notes.F sc__law_notes (ks_ok T) fun cdv A outer s H E hr =>
    (pss_cons (ps_par (by rfl) sc__law_notes.nd rfl rfl (by decide) rfl rfl (pa_cons (pe_call (ok__law_value T) (hr.mono (by decide)) (by rfl) T.f__law_value.g T.f__law_value.F.kp T.f__law_value.b .nil pass0 (pa_cons (pe_call (ok__law_cell_at T) (hr.mono (by decide)) (by rfl) T.f__law_cell_at.g T.f__law_cell_at.F.kp T.f__law_cell_at.b .nil pass0 (pa_cons (pv 0) (pa_cons (pv 1) pa_nil))) (pa_cons pe_int pa_nil))) (pa_cons (pe_lst pa_nil) pa_nil)) (by rfl)) (pss_cons (ps_set (i := 2) sc__law_notes.nd rfl (.inl rfl) (pe_op op_mod (pe_op op_fdiv (pv 4) pe_int) pe_int)) (pss_cons (ps_for PassesOwn.never rfl (pi_range1 (by rfl) T.z_range (pa_cons (pe_op op_add pe_int (pe_op op_mod (pe_op op_add (pv 4) pe_int) pe_int)) pa_nil)) (pg_name (i := 3) sc__law_notes.nd rfl (.inl rfl)) (pss_cons (ps_set (i := 6) sc__law_notes.nd rfl (.inl rfl) (pe_op op_fdiv (pe_call (ok__law_value T) (hr.mono (by decide)) (by rfl) T.f__law_value.g T.f__law_value.F.kp T.f__law_value.b .nil pass0 (pa_cons (pe_op op_add (pe_call (ok__law_cell_at T) (hr.mono (by decide)) (by rfl) T.f__law_cell_at.g T.f__law_cell_at.F.kp T.f__law_cell_at.b .nil pass0 (pa_cons (pv 0) (pa_cons (pe_op op_add (pv 1) (pv 3)) pa_nil))) (pe_op op_mulX pe_int (pv 3))) (pa_cons pe_int pa_nil))) pe_int)) (pss_cons (ps_set (i := 7) sc__law_notes.nd rfl (.inl rfl) (pe_lst pa_nil)) (pss_cons (ps_for PassesOwn.never rfl (pi_range1 (by rfl) T.z_range (pa_cons (pe_op op_mod (pv 6) pe_int) pa_nil)) (pg_name (i := 8) sc__law_notes.nd rfl (.inl rfl)) (pss_cons (ps_set (i := 9) sc__law_notes.nd rfl (.inl rfl) (pe_op op_mod (pe_op op_fdiv (pv 6) (pe_ix ix_seq (pe_tup (pa_cons pe_int (pa_cons pe_int (pa_cons pe_int (pa_cons pe_int (pa_cons pe_int (pa_cons pe_int pa_nil))))))) (pv 8) (fun _ _ => rfl))) pe_int)) (pss_cons (ps_set (i := 10) sc__law_notes.nd rfl (.inl rfl) (pe_ifExp (pt_cmpR (op_eqD hr.units) (pv 2) pe_int (nomark _)) (pe_op op_mod (pe_op op_fdiv (pv 9) pe_int) pe_int) (pe_op op_fdiv (pv 9) pe_int))) (pss_cons (ps_expr (pe_bm PySem.F.plainAttrs_list PySem.F.slot_list_append PySem.F.type_list_append mt_append (pv 7) (pa_cons (pe_tup (pa_cons (pe_ix ix_seq (pe_tup (pa_cons pe_str (pa_cons pe_str pa_nil))) (pv 10) (fun _ _ => rfl)) (pa_cons (pe_op op_mod (pv 9) pe_int) pa_nil))) pa_nil))) pss_nil)))) (pss_frz (pss_cons (ps_expr (pe_bm PySem.F.plainAttrs_list PySem.F.slot_list_append PySem.F.type_list_append mt_append (pv 5) (pa_cons (pv 7) pa_nil))) pss_nil)))))) (pss_cons (ps_ret (pv 5)) pss_nil))))
theorem ok__law_turns (T : Txt K mg fa ff tk ca ka) : FnOk P w K mg base CX0 3 (fa 31) (ff 31) ["_law_script", "_law_by", "_law_notes_here"] (spOf (cn K w ca ka) fd__law_turns) :=
  fn_c T.f__law_turns.F sc__law_turns (ks_ok T) fun cdv A outer s H E hr =>
    (pss_cons (ps_parC (i := 4) (j := 5) (by rfl) sc__law_turns.nd rfl rfl (.inr rfl) (.inl rfl) (pa_cons (pe_op op_rep (pe_lst (pa_cons pe_int pa_nil)) (pe_callB call_len_seq (by rfl) T.z_len PySem.boot_len (pa_cons (pv 2) pa_nil))) (pa_cons (pe_lst pa_nil) pa_nil))) (pss_cons (ps_for PassesOwn.never rfl (pi_range1 (by rfl) T.z_range (pa_cons (pe_callB (cr_sum rfl) (by rfl) T.z_sum (by decide +kernel) (pa_cons (pe_lc (own := [("_law_words", 8)]) (by rfl) sc__law_turns.nd (pi_list (pv 2)) (blkOk_by (own := [("_law_words", 8)]) (N := N__law_turns) (sc := defScope s__law_turns) (by decide +kernel)) (fun _ _ _ _ _ => (pg_name (i := 8) sc__law_turns.nd rfl (.inl rfl))) (fun _ _ _ _ _ => pts_nil) (fun _ _ _ _ _ => (pe_callB call_len_seq (by rfl) T.z_len PySem.boot_len (pa_cons (pv 8) pa_nil)))) pa_nil)) pa_nil)) (pg_name (i := 3) sc__law_turns.nd rfl (.inl rfl)) (pss_cons (ps_setLc (i := 6) (own := [("_law_one", 7), ("_law_words", 8)]) (by rfl) sc__law_turns.nd rfl rfl (sw_true rfl rfl rfl (by decide +kernel)) (pi_enum (by rfl) T.z_enumerate (pa_cons (pv 2) pa_nil)) (blkOk_by (own := [("_law_one", 7), ("_law_words", 8)]) (N := N__law_turns) (sc := defScope s__law_turns) (by decide +kernel)) (fun _ _ _ _ _ => (pg_tup rfl (pgs_cons (pg_name (i := 7) sc__law_turns.nd rfl (.inl rfl)) (pgs_cons (pg_name (i := 8) sc__law_turns.nd rfl (.inl rfl)) pgs_nil)))) (fun _ _ _ _ _ => (pts_one (pt_cmpR op_lt (pe_ix ix_seq (pv 4) (pv 7) (fun _ _ => rfl)) (pe_callB call_len_seq (by rfl) T.z_len PySem.boot_len (pa_cons (pv 8) pa_nil)) (nomark _)))) (fun _ _ _ _ _ => (pv 7))) (pss_cons (ps_set (i := 7) sc__law_turns.nd rfl (.inl rfl) (pe_ix ix_seq (pv 6) (pe_op op_mod (pe_call (ok__law_value T) (hr.mono (by decide)) (by rfl) T.f__law_value.g T.f__law_value.F.kp T.f__law_value.b .nil pass0 (pa_cons (pe_op op_add (pe_call (ok__law_cell_at T) (hr.mono (by decide)) (by rfl) T.f__law_cell_at.g T.f__law_cell_at.F.kp T.f__law_cell_at.b .nil pass0 (pa_cons (pv 0) (pa_cons (pe_op op_add (pv 1) (pe_op op_mod (pv 3) pe_int)) pa_nil))) (pe_op op_mulX pe_int (pv 3))) (pa_cons pe_int pa_nil))) (pe_callB call_len_seq (by rfl) T.z_len PySem.boot_len (pa_cons (pv 6) pa_nil))) (fun _ _ => rfl))) (pss_cons (ps_expr (pe_bm PySem.F.plainAttrs_list PySem.F.slot_list_append PySem.F.type_list_append mt_append (pv 5) (pa_cons (pe_tup (pa_cons (pv 7) (pa_cons (pe_ix ix_seq (pv 4) (pv 7) (fun _ _ => rfl)) pa_nil))) pa_nil))) (pss_cons (ps_asg (pe_op op_add (pe_ix ix_seq (pv 4) (pv 7) (fun _ _ => rfl)) pe_int) (pg_sub (pv 4) (pv 7) set_list)) pss_nil))))) (pss_cons (ps_ret (pv 5)) pss_nil)))
theorem ok_law {f : Addr} {fd : FuncData} (T : Txt K mg fa ff tk ca ka) (F : Fun K "law" "law" s_law f fd)
    (run : ∀ ns : List Int, ns.length ≤ 63 → (∀ z ∈ ns, Builtin.Int.intBits z ≤ 1048576) → ∃ f g, exec3 ga_law c_law (st0 20 [.ls (ns.map D.int)]) = some (.rt (.bl true, f, g))) :
    FnOk P w K mg base CX0 6 f fd ["_law_script"] (spLaw K) :=
  law3_c (Cl := clo ca) (kv := kvo ka) (Γ := ga_law) (c := c_law) F sc_law (ks_ok T) (fun cdv A outer s H E hr =>
    (pss_cons (ps_set (i := 0) sc_law.nd rfl (.inl rfl) (pe_slice sl_list (pv 0) po_none (po_some pe_int)))
    (pss_cons (ps_for PassesOwn.never rfl (pi_range3 (by rfl) T.z_range (pa_cons pe_int (pa_cons (pe_callB (call_max2 rfl) (by rfl) T.z_max (by decide +kernel) (pa_cons pe_int (pa_cons (pe_callB (call_min2 rfl) (by rfl) T.z_min (by decide +kernel) (pa_cons pe_int (pa_cons (pe_callB call_len_seq (by rfl) T.z_len PySem.boot_len (pa_cons (pv 0) pa_nil)) pa_nil))) pa_nil))) (pa_cons pe_int pa_nil)))) (pg_name (i := 1) sc_law.nd rfl (.inl rfl)) (pss_cons (ps_par (by rfl) sc_law.nd rfl rfl (by decide) rfl rfl (pa_cons (pe_call (ok__law_notes T) (hr.mono (by decide)) (by rfl) T.f__law_notes.g T.f__law_notes.F.kp T.f__law_notes.b .nil pass0 (pa_cons (pv 0) (pa_cons (pv 1) pa_nil))) (pa_cons (pe_call (ok__law_value T) (hr.mono (by decide)) (by rfl) T.f__law_value.g T.f__law_value.F.kp T.f__law_value.b .nil pass0 (pa_cons (pe_call (ok__law_cell_at T) (hr.mono (by decide)) (by rfl) T.f__law_cell_at.g T.f__law_cell_at.F.kp T.f__law_cell_at.b .nil pass0 (pa_cons (pv 0) (pa_cons (pv 1) pa_nil))) (pa_cons pe_int pa_nil))) pa_nil)) (by rfl)) (pss_cons (ps_par (by rfl) sc_law.nd rfl rfl (by decide) rfl rfl (pa_cons (pe_op op_mod (pv 6) (pe_callB call_len_seq (by rfl) T.z_len PySem.boot_len (pa_cons (pv 5) pa_nil))) (pa_cons (pe_lc (own := [("_law_words", 4)]) (by rfl) sc_law.nd (pi_list (pv 5)) (blkOk_by (own := [("_law_words", 4)]) (N := N_law) (sc := defScope s_law) (by decide +kernel)) (fun _ _ _ _ _ => (pg_name (i := 4) sc_law.nd rfl (.inl rfl))) (fun _ _ _ _ _ => pts_nil) (fun _ _ _ _ _ => (pe_callB call_len_seq (by rfl) T.z_len PySem.boot_len (pa_cons (pv 4) pa_nil)))) pa_nil)) (by rfl)) (pss_cons (ps_par3 (by rfl) sc_law.nd rfl rfl rfl (by decide) (by decide) (by decide) rfl rfl rfl (pa_cons (pe_make T.mk_Desk (ok_Desk_init T) (hr.mono (by decide)) (by rfl) T.g_Desk T.b_Desk_init .nil pass0 (pa_cons (pe_callB call_len_seq (by rfl) T.z_len PySem.boot_len (pa_cons (pv 5) pa_nil)) pa_nil)) (pa_cons (pe_make T.mk_Desk (ok_Desk_init T) (hr.mono (by decide)) (by rfl) T.g_Desk T.b_Desk_init .nil pass0 (pa_cons (pe_callB call_len_seq (by rfl) T.z_len PySem.boot_len (pa_cons (pv 5) pa_nil)) pa_nil)) (pa_cons (pe_lst pa_nil) pa_nil))) (by rfl)) (pss_cons (ps_for PassesOwn.never rfl (pi_list (pe_call (ok__law_turns T) (hr.mono (by decide)) (by rfl) T.f__law_turns.g T.f__law_turns.F.kp T.f__law_turns.b .nil pass0 (pa_cons (pv 0) (pa_cons (pv 1) (pa_cons (pv 5) pa_nil))))) (pg_tup rfl (pgs_cons (pg_name (i := 12) sc_law.nd rfl (.inl rfl)) (pgs_cons (pg_name (i := 13) sc_law.nd rfl (.inl rfl)) pgs_nil))) (pss_cons (ps_expr (pe_meth (pv 9) T.cl_Desk T.mt_Desk_hear (ok_Desk_hear T) (hr.mono (by decide)) T.b_Desk_hear .nil pass0 (pa_cons (pv 12) (pa_cons (pv 13) (pa_cons (pe_ix ix_seq (pe_ix ix_seq (pv 5) (pv 12) (fun _ _ => rfl)) (pv 13) (fun _ _ => rfl)) pa_nil))))) (pss_cons (ps_asg (G.pe_or (pe_meth0 (pv 9) T.cl_Desk T.mt_Desk_score (ok_Desk_score T) (hr.mono (by decide)) T.b_Desk_score .nil pass0) pe_nope) (pg_tup rfl (pgs_cons (pg_name (i := 17) sc_law.nd rfl (.inl rfl)) (pgs_cons (pg_name (i := 18) sc_law.nd rfl (.inl rfl)) pgs_nil)))) (pss_cons (ps_expr (pe_bm PySem.F.plainAttrs_list PySem.F.slot_list_append PySem.F.type_list_append mt_append (pv 11) (pa_cons (pe_tup (pa_cons (pe_ix ix_seq (G.pe_or (pe_meth0 (pv 9) T.cl_Desk T.mt_Desk_counting (ok_Desk_counting T) (hr.mono (by decide)) T.b_Desk_counting .nil pass0) pe_nope) (pv 7) (fun _ _ => rfl)) (pa_cons (pv 17) (pa_cons (pv 18) pa_nil)))) pa_nil))) (pss_cons (ps_set (i := 14) sc_law.nd rfl (.inl rfl) (pe_call (ok_leads T) (hr.mono (by decide)) (by rfl) T.f_leads.g T.f_leads.F.kp T.f_leads.b .nil pass0 (pa_cons (pv 5) (pa_cons (pv 7) (pa_cons (pe_ix ix_seq (G.pe_or (pe_meth0 (pv 9) T.cl_Desk T.mt_Desk_counting (ok_Desk_counting T) (hr.mono (by decide)) T.b_Desk_counting .nil pass0) pe_nope) (pv 7) (fun _ _ => rfl)) pa_nil))))) (pss_cons (ps_if (pt_not (pt_chain op_le op_le (pe_fld (pv 14) rfl) (pe_op op_sub (pv 17) (pv 18)) (pe_fld (pv 14) rfl))) (pss_cons (ps_ret pe_bl) pss_nil) pss_nil) pss_nil)))))) (pss_cons (ps_for PassesOwn.never rfl (pi_list (pe_revL (pe_call (ok__law_turns T) (hr.mono (by decide)) (by rfl) T.f__law_turns.g T.f__law_turns.F.kp T.f__law_turns.b .nil pass0 (pa_cons (pv 0) (pa_cons (pe_op op_add (pv 1) pe_int) (pa_cons (pv 5) pa_nil)))))) (pg_tup rfl (pgs_cons (pg_name (i := 12) sc_law.nd rfl (.inl rfl)) (pgs_cons (pg_name (i := 13) sc_law.nd rfl (.inl rfl)) pgs_nil))) (pss_cons (ps_expr (pe_meth (pv 10) T.cl_Desk T.mt_Desk_hear (ok_Desk_hear T) (hr.mono (by decide)) T.b_Desk_hear .nil pass0 (pa_cons (pv 12) (pa_cons (pv 13) (pa_cons (pe_ix ix_seq (pe_ix ix_seq (pv 5) (pv 12) (fun _ _ => rfl)) (pv 13) (fun _ _ => rfl)) pa_nil))))) pss_nil)) (pss_cons (ps_if (PW.pt (pw_or (pt_cmpR (op_neD hr.units) (G.pe_or (pe_meth0 (pv 10) T.cl_Desk T.mt_Desk_score (ok_Desk_score T) (hr.mono (by decide)) T.b_Desk_score .nil pass0) pe_nope) (G.pe_or (pe_meth0 (pv 9) T.cl_Desk T.mt_Desk_score (ok_Desk_score T) (hr.mono (by decide)) T.b_Desk_score .nil pass0) pe_nope) (nomark _)) (pw_or (pt_cmpR (op_neD hr.units) (G.pe_or (pe_meth0 (pv 9) T.cl_Desk T.mt_Desk_score (ok_Desk_score T) (hr.mono (by decide)) T.b_Desk_score .nil pass0) pe_nope) (pe_call (ok_score T) (hr.mono (by decide)) (by rfl) T.f_score.g T.f_score.F.kp T.f_score.b .nil pass0 (pa_cons (pv 5) (pa_cons (pv 8) pa_nil))) (nomark _)) (pw_or1 (pt_cmpR (op_neD hr.units) (G.pe_or (pe_meth0 (pv 10) T.cl_Desk T.mt_Desk_notes (ok_Desk_notes T) (hr.mono (by decide)) T.b_Desk_notes .nil pass0) pe_nope) (pv 5) (nomark _)))))) (pss_cons (ps_ret pe_bl) pss_nil) pss_nil) (pss_cons (ps_set (i := 2) sc_law.nd rfl (.inl rfl) (pe_op op_add pe_int (pe_op op_fdiv (pe_callB call_len_seq (by rfl) T.z_len PySem.boot_len (pa_cons (pv 11) pa_nil)) pe_int))) (pss_cons (ps_if (pt_not (pt_val (pe_callB call_isi (by rfl) T.z_isinstance (by decide +kernel) (pa_cons (pe_call (ok_judged T) (hr.mono (by decide)) (by rfl) T.f_judged.g T.f_judged.F.kp T.f_judged.b .nil pass0 (pa_cons (pv 5) (pa_cons (pv 7) (pa_cons (pe_stp (pv 11) (pv 2)) pa_nil)))) (pa_cons (pe_glob (by rfl) T.g_History rfl) pa_nil))))) (pss_cons (ps_ret pe_bl) pss_nil) pss_nil) (pss_cons (ps_set (i := 3) sc_law.nd rfl (.inl rfl) (pe_lst pa_nil)) (pss_cons (ps_for PassesOwn.never rfl (pi_list (pv 5)) (pg_name (i := 4) sc_law.nd rfl (.inl rfl)) (pss_cons (ps_expr (pe_bm PySem.F.plainAttrs_list PySem.F.slot_list_extend PySem.F.type_list_extend mt_extend (pv 3) (pa_cons (pe_lc (own := [("_law_word", 19)]) (by rfl) sc_law.nd (pi_list (pv 4)) (blkOk_by (own := [("_law_word", 19)]) (N := N_law) (sc := defScope s_law) (by decide +kernel)) (fun _ _ _ _ _ => (pg_name (i := 19) sc_law.nd rfl (.inl rfl))) (fun _ _ _ _ _ => pts_nil) (fun _ _ _ _ _ => (pe_ix ix_seq (pv 19) pe_int (fun _ _ => rfl)))) pa_nil))) pss_nil)) (pss_cons (ps_asg (pe_call (ok_games T) (hr.mono (by decide)) (by rfl) T.f_games.g T.f_games.F.kp T.f_games.b .nil pass0 (pa_cons (pe_tup (pa_cons pe_int (pa_cons pe_int pa_nil))) (pa_cons (pv 3) pa_nil))) (pg_tup rfl (pgs_cons (pg_name (i := 15) sc_law.nd rfl (.inl rfl)) (pgs_cons (pg_name (i := 16) sc_law.nd rfl (.inl rfl)) pgs_nil)))) (pss_cons (ps_if (PW.pt (pw_or (pt_cmpR op_gt (pe_op op_add (pe_op op_mulX pe_int (pe_callB call_len_seq (by rfl) T.z_len PySem.boot_len (pa_cons (pv 15) pa_nil))) (pe_callB (cr_sumT rfl) (by rfl) T.z_sum (by decide +kernel) (pa_cons (pv 16) pa_nil))) (pe_callB call_len_seq (by rfl) T.z_len PySem.boot_len (pa_cons (pv 3) pa_nil)) (nomark _)) (pw_or (pt_cmpR op_gt (pe_ix ix_seq (pv 16) pe_int (fun _ _ => rfl)) pe_int (nomark _)) (pw_or1 (pt_cmpR op_gt (pe_ix ix_seq (pv 16) pe_int (fun _ _ => rfl)) pe_int (nomark _)))))) (pss_cons (ps_ret pe_bl) pss_nil) pss_nil) pss_nil))))))))))))) (pss_cons (ps_ret (pe_cmpR (op_eqD hr.units) (G.pe_or (pe_meth0 (pe_make T.mk_Desk (ok_Desk_init T) (hr.mono (by decide)) (by rfl) T.g_Desk T.b_Desk_init .nil pass0 (pa_cons pe_int pa_nil)) T.cl_Desk T.mt_Desk_score (ok_Desk_score T) (hr.mono (by decide)) T.b_Desk_score .nil pass0) pe_nope) (pe_call (ok_score T) (hr.mono (by decide)) (by rfl) T.f_score.g T.f_score.F.kp T.f_score.b .nil pass0 (pa_cons (pe_lst (pa_cons (pe_lst pa_nil) (pa_cons (pe_lst pa_nil) pa_nil))) (pa_cons (pe_lst (pa_cons pe_int (pa_cons pe_int pa_nil))) pa_nil))) (nomark _))) pss_nil)))) run
end
end K09

/-! k09, plain: turns, what a desk holds, histories -/
namespace K09
open G Sh
/-! ### what a hand's dict holds -/
abbrev Mp := List (Nat × Wd)
def lk (m : Mp) (k : Nat) : Option Wd := match m with
  | [] => none
  | (j, w) :: r => if j = k then some w else lk r k
def mput (m : Mp) (b : Nat) (w : Wd) : Mp := if (m.any fun p => decide (p.1 = b)) = true then m.map (fun p => if p.1 = b then (p.1, w) else p) else m ++ [(b, w)]
theorem lk_any (m : Mp) (b : Nat) : (m.any fun p => decide (p.1 = b)) = (lk m b).isSome := by
  induction m with
  | nil => rfl
  | cons p m ih =>
    obtain ⟨j, u⟩ := p
    simp only [List.any_cons, lk]
    by_cases e : j = b
    · simp [e]
    · simp [e, ih]
theorem lk_app (m : Mp) (b : Nat) (w : Wd) (k : Nat) : lk (m ++ [(b, w)]) k = (lk m k).or (if b = k then some w else none) := by
  induction m with
  | nil => simp [lk]
  | cons p m ih =>
    obtain ⟨j, u⟩ := p
    simp only [List.cons_append, lk]
    by_cases e : j = k
    · simp [e]
    · simp [e, ih]
theorem lk_map (m : Mp) (b : Nat) (w : Wd) (k : Nat) : lk (m.map (fun p => if p.1 = b then (p.1, w) else p)) k = if b = k then (lk m k).map (fun _ => w) else lk m k := by
  induction m with
  | nil => simp [lk]
  | cons p m ih =>
    obtain ⟨j, u⟩ := p
    simp only [List.map_cons]
    by_cases e : j = b
    · subst e
      simp only [if_true, lk]
      by_cases e2 : j = k
      · simp [e2]
      · simp only [if_neg e2, ih]
    · simp only [if_neg e, lk]
      by_cases e2 : j = k
      · subst e2
        simp [Ne.symm e]
      · simp only [if_neg e2, ih]
theorem lk_put (m : Mp) (b : Nat) (w : Wd) (k : Nat) : lk (mput m b w) k = if b = k then some w else lk m k := by
  unfold mput
  rw [lk_any]
  by_cases e : (lk m b).isSome = true
  · rw [if_pos e, lk_map]
    by_cases e2 : b = k
    · subst e2
      rw [if_pos rfl, if_pos rfl]
      obtain ⟨u, hu⟩ := Option.isSome_iff_exists.mp e
      rw [hu]
      rfl
    · rw [if_neg e2, if_neg e2]
  · rw [if_neg e, lk_app]
    by_cases e2 : b = k
    · subst e2
      have : lk m b = none := by simpa using e
      rw [this, if_pos rfl]
      rfl
    · rw [if_neg e2, if_neg e2, Option.or_none]
theorem mput_len (m : Mp) (b : Nat) (w : Wd) : (mput m b w).length ≤ m.length + 1 := by
  unfold mput
  split <;> simp
/-! ### a desk's dicts: these words count, none waits behind -/
structure DkOk (ms : List Mp) (nl : List (List Wd)) : Prop where
  n : nl.length = ms.length
  w : ∀ (i : Nat) m ws, ms[i]? = some m → nl[i]? = some ws → (∀ k, k < ws.length → lk m k = ws[k]?) ∧ lk m ws.length = none ∧ ws.length ≤ 6
/-! ### turns -/
def go1 (h : List Nat) (e : Nat × Nat) : List Nat := h.set e.1 (e.2 + 1)
def fin (h : List Nat) (es : List (Nat × Nat)) : List Nat := es.foldl go1 h
def Fits (notes : List (List Wd)) (e : Nat × Nat) : Prop := ∃ ws, notes[e.1]? = some ws ∧ e.2 < ws.length
def Go (notes : List (List Wd)) : List Nat → List (Nat × Nat) → Prop
  | _, [] => True
  | h, e :: r => h[e.1]? = some e.2 ∧ Fits notes e ∧ Go notes (go1 h e) r
theorem go_snoc {notes : List (List Wd)} : ∀ (es : List (Nat × Nat)) (h : List Nat) (e : Nat × Nat), Go notes h es → (fin h es)[e.1]? = some e.2 → Fits notes e → Go notes h (es ++ [e])
  | [], h, e, _, h1, h2 => ⟨h1, h2, trivial⟩
  | x :: es, h, e, g, h1, h2 => ⟨g.1, g.2.1, go_snoc es (go1 h x) e g.2.2 h1 h2⟩
theorem fin_snoc (h : List Nat) (es : List (Nat × Nat)) (e : Nat × Nat) : fin h (es ++ [e]) = go1 (fin h es) e := by simp [fin]
theorem fin_len (es : List (Nat × Nat)) : ∀ h : List Nat, (fin h es).length = h.length := by
  induction es with
  | nil => intro h; rfl
  | cons e es ih => intro h; exact (ih (go1 h e)).trans (by simp [go1])
/-- each hand's number is within its words -/
structure Hd (notes : List (List Wd)) (h : List Nat) : Prop where
  l : h.length = notes.length
  b : ∀ (i : Nat) n ws, h[i]? = some n → notes[i]? = some ws → n ≤ ws.length
theorem Hd.go1 {notes : List (List Wd)} {h : List Nat} {e : Nat × Nat} (k : Hd notes h) (f : Fits notes e) : Hd notes (go1 h e) := by
  refine ⟨by simp [K09.go1, k.l], fun i n ws hi hw => ?_⟩
  unfold K09.go1 at hi
  rw [List.getElem?_set] at hi
  split at hi
  · rename_i z
    split at hi
    · cases hi
      obtain ⟨ws', h1, h2⟩ := f
      rw [z, hw] at h1
      cases h1
      omega
    · cases hi
  · exact k.b i n ws hi hw
theorem Hd.zero (notes : List (List Wd)) : Hd notes (notes.map fun _ => 0) := by
  refine ⟨by simp, fun i n ws hi hw => ?_⟩
  rw [List.getElem?_map, hw] at hi
  cases hi
  exact Nat.zero_le _
theorem hd_fin {notes : List (List Wd)} : ∀ {es : List (Nat × Nat)} {h : List Nat}, Hd notes h → Go notes h es → Hd notes (fin h es)
  | [], h, k, _ => k
  | e :: es, h, k, g => hd_fin (es := es) (k.go1 g.2.1) g.2.2
theorem leL_of {a b : List Nat} (hl : a.length = b.length) (h : ∀ (i : Nat) x y, a[i]? = some x → b[i]? = some y → x ≤ y) : leL a b = true := by
  induction a generalizing b with
  | nil => cases b <;> rfl
  | cons x a ih =>
    cases b with
    | nil => simp at hl
    | cons y b =>
      simp only [leL, Bool.and_eq_true, decide_eq_true_eq]
      exact ⟨h 0 x y rfl rfl, ih (by simpa using hl) fun i x y h1 h2 => h (i + 1) x y (by simpa using h1) (by simpa using h2)⟩
theorem leL_get {a b : List Nat} (hl : a.length = b.length) (h : leL a b = true) {i x y : Nat} (hx : a[i]? = some x) (hy : b[i]? = some y) : x ≤ y := by
  induction a generalizing b i with
  | nil => simp at hx
  | cons u a ih =>
    cases b with
    | nil => simp at hl
    | cons v b =>
      simp only [leL, Bool.and_eq_true, decide_eq_true_eq] at h
      cases i with
      | zero => simp at hx hy; subst hx hy; exact h.1
      | succ i => exact ih (by simpa using hl) h.2 (by simpa using hx) (by simpa using hy)
theorem le_go1 {h : List Nat} {e : Nat × Nat} (he : h[e.1]? = some e.2) : leL h (go1 h e) = true := by
  refine leL_of (by simp [go1]) fun i x y hx hy => ?_
  unfold go1 at hy
  rw [List.getElem?_set] at hy
  split at hy
  · rename_i z
    split at hy
    · cases hy
      rw [z, hx] at he
      cases he
      omega
    · cases hy
  · rw [hx] at hy
    cases hy
    exact Nat.le_refl _
theorem Hd.va {notes : List (List Wd)} {h : List Nat} (k : Hd notes h) {hand n : Nat} (e : h[hand]? = some n) : Va notes hand n h := by
  refine ⟨k.l, fun p hp => ?_, e⟩
  obtain ⟨i, hi⟩ := List.mem_iff_getElem?.mp hp
  rw [List.getElem?_zip_eq_some] at hi
  exact k.b i p.2 p.1 hi.2 hi.1
/-! ### the words heard -/
def nlOf (notes : List (List Wd)) (h : List Nat) : List (List Wd) := List.zipWith (fun ws n => ws.take n) notes h
theorem nlOf_get {notes : List (List Wd)} {h : List Nat} {i : Nat} {ws : List Wd} (e : (nlOf notes h)[i]? = some ws) : ∃ us n, notes[i]? = some us ∧ h[i]? = some n ∧ ws = us.take n := by
  unfold nlOf at e
  rw [List.getElem?_zipWith_eq_some] at e
  obtain ⟨x, y, h1, h2, h3⟩ := e
  exact ⟨x, y, h1, h2, h3.symm⟩
theorem nlOf_len {notes : List (List Wd)} {h : List Nat} (k : Hd notes h) : (nlOf notes h).length = notes.length := by
  unfold nlOf
  rw [List.length_zipWith, k.l]
  omega
theorem sc_nl (b : Bool) : ∀ (notes : List (List Wd)) (h : List Nat), (∀ (i : Nat) n ws, h[i]? = some n → notes[i]? = some ws → n ≤ ws.length) → sc b (nlOf notes h) ((nlOf notes h).map List.length) = sc b notes h
  | [], h, _ => by simp [nlOf, sc]
  | ws :: r, [], _ => by simp [nlOf, sc]
  | ws :: r, m :: t, k => by
    have ih := sc_nl b r t fun i n us h1 h2 => k (i + 1) n us (by simpa using h1) (by simpa using h2)
    unfold nlOf at ih ⊢
    simp only [List.zipWith_cons_cons, List.map_cons, sc, ih]
    rw [List.take_of_length_le (Nat.le_refl _)]
theorem map_len_nl : ∀ {notes : List (List Wd)} {h : List Nat}, Hd notes h → (nlOf notes h).map List.length = h
  | [], h, k => by
    have := k.l
    simp at this
    subst this
    rfl
  | ws :: r, [], k => by
    have := k.l
    simp at this
  | ws :: r, m :: t, k => by
    have ih := map_len_nl (notes := r) (h := t) ⟨by have := k.l; simpa using this, fun i n us h1 h2 => k.b (i + 1) n us (by simpa using h1) (by simpa using h2)⟩
    have hm := k.b 0 m ws rfl rfl
    unfold nlOf at ih ⊢
    simp only [List.zipWith_cons_cons, List.map_cons, ih, List.length_take]
    rw [Nat.min_eq_left hm]
/-- what a desk holds behind these words -/
def Holds (notes : List (List Wd)) (ms : List Mp) (E : List (Nat × Nat)) : Prop := ms.length = notes.length ∧ ∀ (a : Nat) m ws, ms[a]? = some m → notes[a]? = some ws → m.length ≤ E.length ∧ ∀ k, lk m k = if (a, k) ∈ E then ws[k]? else none
theorem holds_nil (notes : List (List Wd)) : Holds notes (notes.map fun _ => []) [] := by
  refine ⟨by simp, fun a m ws hm hw => ?_⟩
  rw [List.getElem?_map, hw] at hm
  cases hm
  exact ⟨Nat.le_refl _, fun k => by simp [lk]⟩
theorem holds_put {notes : List (List Wd)} {ms : List Mp} {E : List (Nat × Nat)} {a b : Nat} {m : Mp} {ws : List Wd} {w : Wd} (k : Holds notes ms E) (hm : ms[a]? = some m) (hw : notes[a]? = some ws) (hb : ws[b]? = some w) : Holds notes (ms.set a (mput m b w)) (E ++ [(a, b)]) := by
  refine ⟨by rw [List.length_set]; exact k.1, fun a' m' ws' hm' hw' => ?_⟩
  rw [List.getElem?_set] at hm'
  split at hm'
  · rename_i z
    subst z
    split at hm'
    · cases hm'
      rw [hw] at hw'
      cases hw'
      obtain ⟨k1, k2⟩ := k.2 a m ws hm hw
      refine ⟨by have := mput_len m b w; simp; omega, fun j => ?_⟩
      rw [lk_put, k2 j]
      by_cases e : b = j
      · subst e
        rw [if_pos rfl, if_pos (by simp), hb]
      · rw [if_neg e]
        have : ((a, j) ∈ E ++ [(a, b)]) ↔ (a, j) ∈ E := by simp [Ne.symm e]
        simp only [this]
    · cases hm'
  · rename_i z
    obtain ⟨k1, k2⟩ := k.2 a' m' ws' hm' hw'
    refine ⟨by simp; omega, fun j => ?_⟩
    rw [k2 j]
    have : ((a', j) ∈ E ++ [(a, b)]) ↔ (a', j) ∈ E := by
      simp only [List.mem_append, List.mem_singleton, Prod.mk.injEq, or_iff_left_iff_imp]
      intro h
      exact absurd h.1.symm z
    simp only [this]
theorem holds_ok {notes : List (List Wd)} (hn : NOk notes) {ms : List Mp} {E : List (Nat × Nat)} {h : List Nat} (k : Holds notes ms E) (hd : Hd notes h) (hE : ∀ (a j n : Nat) , h[a]? = some n → ((a, j) ∈ E ↔ j < n)) : DkOk ms (nlOf notes h) := by
  refine ⟨by rw [nlOf_len hd, k.1], fun i m ws hm hw => ?_⟩
  obtain ⟨us, n, h1, h2, rfl⟩ := nlOf_get hw
  obtain ⟨_, k2⟩ := k.2 i m us hm h1
  have hb := hd.b i n us h2 h1
  have h6 := hn.w6 us (List.mem_of_getElem? h1)
  have hl : (us.take n).length = n := by rw [List.length_take]; omega
  refine ⟨fun j hj => ?_, ?_, by omega⟩
  · rw [k2 j, if_pos ((hE i j n h2).mpr (by omega)), List.getElem?_take, if_pos (by omega)]
  · rw [hl, k2 n, if_neg (fun z => by have := (hE i n n h2).mp z; omega)]
/-! which words were heard, by the turns so far -/
theorem go_mem {notes : List (List Wd)} : ∀ {es : List (Nat × Nat)} {h : List Nat} {a j n : Nat}, Go notes h es → (fin h es)[a]? = some n → ((a, j) ∈ es ↔ (j < n ∧ ∃ n0, h[a]? = some n0 ∧ n0 ≤ j))
  | [], h, a, j, n, _, e => by
    have e : h[a]? = some n := e
    simp only [List.not_mem_nil, false_iff, not_and, not_exists]
    intro h1 n0 h2
    rw [e] at h2
    cases h2
    omega
  | x :: es, h, a, j, n, g, e => by
    obtain ⟨g1, g2, g3⟩ := g
    have ih := go_mem (j := j) g3 e
    rw [List.mem_cons, ih]
    unfold go1
    rw [List.getElem?_set]
    have hx : x.1 < h.length := (List.getElem?_eq_some_iff.mp g1).1
    by_cases z : x.1 = a
    · rw [if_pos z, if_pos hx]
      subst z
      -- the numbers grow
      have hn : x.2 + 1 ≤ n := by
        have mono : ∀ (es : List (Nat × Nat)) (h : List Nat) (a n0 n : Nat), Go notes h es → h[a]? = some n0 → (fin h es)[a]? = some n → n0 ≤ n := by
          intro es
          induction es with
          | nil => intro h a n0 n _ h1 h2; have h2 : h[a]? = some n := h2; rw [h1] at h2; cases h2; exact Nat.le_refl _
          | cons y es ih =>
            intro h a n0 n g h1 h2
            have h2 : (fin (go1 h y) es)[a]? = some n := h2
            by_cases w : y.1 = a
            · have e1 : (go1 h y)[a]? = some (y.2 + 1) := by
                unfold go1
                rw [List.getElem?_set, if_pos w, if_pos (by have := (List.getElem?_eq_some_iff.mp g.1).1; exact this)]
              have := ih (go1 h y) a _ n g.2.2 e1 h2
              rw [← w, g.1] at h1
              cases h1
              omega
            · have e1 : (go1 h y)[a]? = some n0 := by
                unfold go1
                rw [List.getElem?_set, if_neg w]
                exact h1
              exact ih (go1 h y) a _ n g.2.2 e1 h2
        refine mono es (go1 h x) x.1 (x.2 + 1) n g3 ?_ e
        unfold go1
        rw [List.getElem?_set, if_pos rfl, if_pos hx]
      constructor
      · rintro (h1 | ⟨h1, n0, h2, h3⟩)
        · have : j = x.2 := by rw [← h1]
          subst this
          exact ⟨by omega, x.2, g1, Nat.le_refl _⟩
        · cases h2
          exact ⟨h1, x.2, g1, by omega⟩
      · rintro ⟨h1, n0, h2, h3⟩
        rw [g1] at h2
        cases h2
        by_cases w : j = x.2
        · left
          rw [w]
        · right
          exact ⟨h1, x.2 + 1, rfl, by omega⟩
    · rw [if_neg z]
      constructor
      · rintro (h1 | h1)
        · exact absurd (by rw [← h1]) z
        · exact h1
      · intro h1
        exact .inr h1
theorem go_zero {notes : List (List Wd)} {es : List (Nat × Nat)} (g : Go notes (notes.map fun _ => 0) es) {a j n : Nat} (e : (fin (notes.map fun _ => 0) es)[a]? = some n) : (a, j) ∈ es ↔ j < n := by
  rw [go_mem g e]
  constructor
  · exact fun h => h.1
  · intro h
    have ha : a < notes.length := by
      have := (List.getElem?_eq_some_iff.mp e).1
      rw [fin_len] at this
      simpa using this
    exact ⟨h, 0, by rw [List.getElem?_map, List.getElem?_eq_getElem ha]; rfl, Nat.zero_le _⟩
/-! ### showings of a history -/
def sg (notes : List (List Wd)) (hand : Nat) (h : List Nat) : Sg := ⟨h.getD hand 0, sc false notes h, sc true notes h⟩
theorem gd_of {notes : List (List Wd)} {hand : Nat} (hh : hand < notes.length) : ∀ (hs : List (List Nat)) (pv : Option (List Nat)), (∀ h ∈ hs, Hd notes h) → hs.Pairwise (fun a b => leL a b = true) → (∀ p, pv = some p → ∀ h ∈ hs, leL p h = true) → Gd notes hand pv (hs.map (sg notes hand))
  | [], pv, _, _, _ => trivial
  | h :: hs, pv, hd, pw, hp => by
    rw [List.pairwise_cons] at pw
    have k := hd h (.head _)
    have hl : hand < h.length := by rw [k.l]; exact hh
    refine ⟨h, ⟨k.va ?_, rfl, rfl⟩, fun p e => hp p e h (.head _), gd_of hh hs (some h) (fun x hx => hd x (.tail _ hx)) pw.2 fun p e x hx => ?_⟩
    · show h[hand]? = some (h.getD hand 0)
      rw [List.getD_eq_getElem?_getD, List.getElem?_eq_getElem hl]
      rfl
    · cases e
      exact pw.1 x hx
theorem pkk_pw {α : Type} {R : α → α → Prop} {k : Nat} (hk : 0 < k) {l : List α} (h : l.Pairwise R) : (pkk k l).Pairwise R := by
  unfold pkk
  refine List.Pairwise.filterMap (R := fun (i j : Nat) => i < j) _ (fun i j hij x hx y hy => ?_) List.pairwise_lt_range
  rw [List.pairwise_iff_getElem] at h
  obtain ⟨hi, rfl⟩ := List.getElem?_eq_some_iff.mp hx
  obtain ⟨hj, rfl⟩ := List.getElem?_eq_some_iff.mp hy
  exact h _ _ hi hj (Nat.mul_lt_mul_of_pos_left hij hk)
theorem pkk_len5 {α : Type} (l : List α) : (pkk (1 + l.length / 5) l).length ≤ 5 := by
  unfold pkk
  refine Nat.le_trans (List.length_filterMap_le _ _) ?_
  rw [List.length_range, Nat.add_sub_cancel_left]
  have h : l.length + l.length / 5 < (1 + l.length / 5) * 6 := by
    have := Nat.div_add_mod l.length 5
    have := Nat.mod_lt l.length (show 0 < 5 by decide)
    omega
  have := (Nat.div_lt_iff_lt_mul (show 0 < 1 + l.length / 5 by omega)).mpr (by rw [Nat.mul_comm] at h; exact h)
  omega
end K09

namespace K09
open PySem G L2 Sh
theorem is_whole_int (n : Int) : fd_is_whole.run [.int n] = some (.bl true) := by
  show endOf false (G.exec ga_is_whole c_is_whole (st0 1 [.int n])) = _
  simp [c_is_whole, G.exec, G.eval, st0, endOf, isT]
theorem is_count_int (n a b : Int) : fd_is_count.run [.int n, .int a, .int b] = some (.bl (decide (a ≤ n) && decide (n ≤ b))) := by
  show endOf false (G.exec ga_is_count c_is_count (st0 3 [.int n, .int a, .int b])) = _
  by_cases h : a ≤ n <;> simp [c_is_count, G.exec, G.eval, evalA, st0, ix_is_count_is_whole, ar_is_whole, fr_is_whole, is_whole_int, D.flat, Co.f, h, endOf]
theorem is_word_run (w : Wd) : fd_is_word.run [eW w] = some (.bl true) := by
  show endOf false (G.exec ga_is_word c_is_word (st0 1 [eW w])) = _
  have k : ga_is_word.ks[0]? = some (.tp [.str "point", .str "back"]) := rfl
  have s : strsOf [.str "point", .str "back"] = some [("point" : Str), ("back" : Str)] := rfl
  have q1 : ((("point" : Str) == ("back" : Str))) = false := by decide +kernel
  obtain ⟨p, q⟩ := w
  cases p <;> cases q <;> simp [eW, c_is_word, G.exec, G.eval, evalA, st0, isTst, isT, k, s, q1, ix_is_word_is_count, ar_is_count, fr_is_count, is_count_int, D.flat, atI_0, atI_1, eqv_int, eqok_okn, okn_int, endOf]
theorem words_ok (ws : List Wd) (x : Sl) (y : Sl) : ∃ L gs, G.eval ga_check_notes m_check_notes_1 [x, .sh (eL ws) false, y] = some (.ls L, true, gs) ∧ (ws.length ≤ 50000 → blsOf L = some (ws.map fun _ => true)) ∨ 50000 < ws.length := by
  by_cases hl : ws.length ≤ 50000
  · obtain ⟨L, gs, e, b⟩ := lcRun_bls (t := .nm 2) (g := false) (ef := fun δ2 => G.eval ga_check_notes (.call 2 (.cons (.var 2) .nil)) δ2) (δ := wipeD [x, .sh (eL ws) false, y] (Tg.nm 2).sl) (f := eW) (p := fun _ => true) ws
      (fun w _ => ⟨_, rfl, true, by simp [G.eval, evalA, wipeD, Tg.sl, ix_check_notes_is_word, ar_is_word, fr_is_word, is_word_run, D.flat]⟩)
    exact ⟨L, gs, .inl ⟨eval_lc_of (by simp [evalI, G.eval, eL]) (by simpa using hl) e, fun _ => b⟩⟩
  · exact ⟨[], true, .inr (by omega)⟩
theorem all_trues {α : Type} (ws : List α) : (ws.map fun _ => true).all id = true := by
  rw [List.all_eq_true]
  intro x hx
  obtain ⟨_, _, rfl⟩ := List.mem_map.mp hx
  rfl
theorem all_tt {α : Type} (ws : List α) : (ws.all fun _ => true) = true := by simp
theorem check_notes_run {notes : List (List Wd)} (h : NOk notes) : fd_check_notes.run [eN notes] = some .non := by
  show endOf false (G.exec ga_check_notes c_check_notes (st0 3 [eN notes])) = _
  obtain ⟨δ', e, _⟩ := forRun_fold (t := .nm 1) (g := false) (ex := fun δ => G.exec ga_check_notes l_check_notes_1 δ) (f := eL) (up := fun (u : Unit) _ => u)
    (fun i _ δ => ∃ x, δ = [.sh (eN notes) false, x, .no]) notes 0 () _ ⟨.no, rfl⟩ (by
      rintro j ws _ δ hj ⟨x, rfl⟩
      have h6 := h.w6 ws (List.mem_of_getElem? hj)
      obtain ⟨L, gs, ⟨e, b⟩ | hx⟩ := words_ok ws (.sh (eN notes) false) .no
      · have b := b (by omega)
        have c : ¬ 6 < (ws.length : Int) := by omega
        have e2 : G.eval ga_check_notes m_check_notes_1 [.sh (eN notes) false, .sh (D.ls (ws.map eW)) false, .no] = some (.ls L, true, gs) := e
        refine ⟨_, [.sh (eN notes) false, .sh (eL ws) false, .no], rfl, ?_, _, rfl⟩
        simp [l_check_notes_1, G.exec, G.eval, isTst, isT, eL, Co.f, c, e2, b, all_trues, all_tt]
      · omega)
  have c1 : (1 : Int) ≤ (notes.length : Int) := by have := h.l1; omega
  have c2 : (notes.length : Int) ≤ 3 := by have := h.l3; omega
  have e3 : forRun (.nm 1) false (fun δ => G.exec ga_check_notes l_check_notes_1 δ) (notes.map eL) [.sh (.ls (notes.map eL)) false, .no, .no] = some (.nx δ') := e
  simp [c_check_notes, G.exec, G.eval, evalI, st0, isTst, isT, eN, Co.f, c1, c2, e3, endOf]
theorem check_hand_run {many hand : Nat} (h : hand < many) : fd_check_hand.run [.int many, .int hand] = some .non := by
  show endOf false (G.exec ga_check_hand c_check_hand (st0 2 [.int many, .int hand])) = _
  have c1 : (0 : Int) ≤ (hand : Int) := by omega
  have c2 : (hand : Int) ≤ (many : Int) - 1 := by omega
  simp [c_check_hand, G.exec, G.eval, evalA, st0, isTst, Bo.run, ix_check_hand_is_count, ar_is_count, fr_is_count, is_count_int, D.flat, c1, c2, endOf]
/-! score_of -/
def add1 (s : Int × Int) (w : Wd) : Int × Int := (s.1 + wv false w, s.2 + wv true w)
theorem score_step (x0 x1 x3 x4 : Sl) (w : Wd) (a b : Int) (k : Bool) (x5 x6 : Sl) :
    ∃ δ1 δ2, (Tg.t2 (.nm 5) (.nm 6)).run k (eW w) [x0, x1, .ow [.int a, .int b] true, x3, x4, x5, x6] = some δ1 ∧ G.exec ga_score_of l_score_of_1 δ1 = some (.nx δ2) ∧ ∃ y5 y6, δ2 = [x0, x1, .ow [.int (add1 (a, b) w).1, .int (add1 (a, b) w).2] true, x3, x4, y5, y6] := by
  obtain ⟨p, q⟩ := w
  cases p <;> cases q
  · refine ⟨_, _, rfl, ?_, .sh (.str "back") k, .sh (.int 0) k, rfl⟩
    have  : (D.str "back").eqv (D.str "point") = false := by decide +kernel
    have o : PyData.strOk "back" = true := by decide +kernel
    have o2 : PyData.strOk "point" = true := by decide +kernel
    simp [eW, l_score_of_1, G.exec, G.eval, evalA, isTst, eqok_okn, okn_str, o, o2, this, atI_0, atI_1, ixN, add1, wv]
  · refine ⟨_, _, rfl, ?_, .sh (.str "back") k, .sh (.int 1) k, rfl⟩
    have  : (D.str "back").eqv (D.str "point") = false := by decide +kernel
    have o : PyData.strOk "back" = true := by decide +kernel
    have o2 : PyData.strOk "point" = true := by decide +kernel
    simp [eW, l_score_of_1, G.exec, G.eval, evalA, isTst, eqok_okn, okn_str, o, o2, this, atI_0, atI_1, ixN, add1, wv]
  · refine ⟨_, _, rfl, ?_, .sh (.str "point") k, .sh (.int 0) k, rfl⟩
    have  : (D.str "point").eqv (D.str "point") = true := by decide +kernel
    have o2 : PyData.strOk "point" = true := by decide +kernel
    simp [eW, l_score_of_1, G.exec, G.eval, evalA, isTst, eqok_okn, okn_str, o2, this, atI_0, atI_1, ixN, add1, wv]
  · refine ⟨_, _, rfl, ?_, .sh (.str "point") k, .sh (.int 1) k, rfl⟩
    have  : (D.str "point").eqv (D.str "point") = true := by decide +kernel
    have o2 : PyData.strOk "point" = true := by decide +kernel
    simp [eW, l_score_of_1, G.exec, G.eval, evalA, isTst, eqok_okn, okn_str, o2, this, atI_0, atI_1, ixN, add1, wv]
theorem foldl_add1 : ∀ (ws : List Wd) (s : Int × Int), ws.foldl add1 s = (s.1 + pt false ws, s.2 + pt true ws)
  | [], s => by simp [pt]
  | w :: ws, s => by
    rw [List.foldl_cons, foldl_add1 ws]
    simp only [pt, List.map_cons, List.sum_cons, add1]
    simp only [Prod.mk.injEq]
    omega
theorem score_in (x0 x1 : Sl) (ws : List Wd) (m : Nat) (a b : Int) (k k' : Bool) (x5 x6 : Sl) :
    ∃ y5 y6, G.exec ga_score_of l_score_of_2 [x0, x1, .ow [.int a, .int b] true, .sh (eL ws) k, .sh (.int (m : Int)) k', x5, x6] = some (.nx [x0, x1, .ow [.int (a + pt false (ws.take m)), .int (b + pt true (ws.take m))] true, .sh (eL ws) k, .sh (.int (m : Int)) k', y5, y6]) := by
  obtain ⟨δ', e, y5, y6, rfl⟩ := forRun_fold (t := .t2 (.nm 5) (.nm 6)) (g := k) (ex := fun δ => G.exec ga_score_of l_score_of_1 δ) (f := eW) (up := add1)
    (fun _ (s : Int × Int) δ => ∃ y5 y6, δ = [x0, x1, .ow [.int s.1, .int s.2] true, .sh (eL ws) k, .sh (.int (m : Int)) k', y5, y6]) (ws.take m) 0 (a, b) _ ⟨x5, x6, rfl⟩ (by
      rintro j w ⟨a, b⟩ δ _ ⟨y5, y6, rfl⟩
      obtain ⟨δ1, δ2, h1, h2, z5, z6, rfl⟩ := score_step x0 x1 (.sh (eL ws) k) (.sh (.int (m : Int)) k') w a b k y5 y6
      exact ⟨δ1, _, h1, h2, z5, z6, rfl⟩)
  refine ⟨y5, y6, ?_⟩
  rw [foldl_add1] at e
  refine exec_nx (exec_loop_of (ds := (ws.take m).map eW) (g := k) ?_ e) rfl
  simp [evalI, G.eval, evalO, eL, cut_map, cut_take]
theorem sc_cons (b : Bool) (ws : List Wd) (r : List (List Wd)) (m : Nat) (t : List Nat) : sc b (ws :: r) (m :: t) = pt b (ws.take m) + sc b r t := rfl
def add2 (s : Int × Int) (p : List Wd × Nat) : Int × Int := (s.1 + pt false (p.1.take p.2), s.2 + pt true (p.1.take p.2))
theorem foldl_add2 : ∀ (notes : List (List Wd)) (h : List Nat) (s : Int × Int), (notes.zip h).foldl add2 s = (s.1 + sc false notes h, s.2 + sc true notes h)
  | [], _, s => by simp [sc]
  | _ :: _, [], s => by simp [sc]
  | ws :: r, m :: t, s => by
    rw [List.zip_cons_cons, List.foldl_cons, foldl_add2 r t, sc_cons, sc_cons]
    simp only [add2, Prod.mk.injEq]
    omega
theorem score_of_run (notes : List (List Wd)) (h : List Nat) : fd_score_of.run [eN notes, eH h] = some (.tp [.int (sc false notes h), .int (sc true notes h)]) := by
  show endOf true (G.exec ga_score_of c_score_of (st0 7 [eN notes, eH h])) = _
  obtain ⟨δ', e, y3, y4, y5, y6, rfl⟩ := forRun_fold (t := .t2 (.nm 3) (.nm 4)) (g := false) (ex := fun δ => G.exec ga_score_of l_score_of_2 δ) (f := fun p : List Wd × Nat => .tp [eL p.1, .int (p.2 : Int)]) (up := add2)
    (fun _ (s : Int × Int) δ => ∃ y3 y4 y5 y6, δ = [.sh (eN notes) false, .sh (eH h) false, .ow [.int s.1, .int s.2] true, y3, y4, y5, y6]) (notes.zip h) 0 (0, 0) _ ⟨.no, .no, .no, .no, rfl⟩ (by
      rintro j ⟨ws, m⟩ ⟨a, b⟩ δ _ ⟨y3, y4, y5, y6, rfl⟩
      obtain ⟨z5, z6, k⟩ := score_in (.sh (eN notes) false) (.sh (eH h) false) ws m a b false false y5 y6
      exact ⟨_, _, rfl, k, _, _, z5, z6, rfl⟩)
  rw [foldl_add2] at e
  have e2 : zipD (notes.map eL) (h.map fun (m : Nat) => D.int (m : Int)) = (notes.zip h).map fun p : List Wd × Nat => .tp [eL p.1, .int (p.2 : Int)] := zipD_map _ _ _ _
  simp [c_score_of, G.exec, G.eval, evalA, evalI, st0, slotOf, isNew, eN, eH]
  rw [e2]
  simp only [eN, eH] at e
  rw [e]
  simp [atI_0, atI_1, endOf, D.flat]
end K09

namespace K09
open PySem G L2 Sh
theorem all_map_id {α : Type} (l : List α) (p : α → Bool) : (l.map p).all id = l.all p := by
  rw [List.all_map]
  rfl
theorem any_map_id {α : Type} (l : List α) (p : α → Bool) : (l.map p).any id = l.any p := by
  rw [List.any_map]
  rfl
theorem is_heard_run {notes : List (List Wd)} {h : List Nat} (hn : notes.length ≤ 3) (hl : h.length = notes.length) : fd_is_heard.run [eN notes, eH h] = some (.bl ((notes.zip h).all fun p => decide (p.2 ≤ p.1.length))) := by
  show endOf false (G.exec ga_is_heard c_is_heard (st0 4 [eN notes, eH h])) = _
  obtain ⟨L, gs, e, b⟩ := lcRun_bls (t := .t2 (.nm 2) (.nm 3)) (g := false) (ef := fun δ2 => G.eval ga_is_heard (.chn .le .le (.int 0) (.var 3) (.len (.var 2))) δ2) (δ := wipeD [.sh (eN notes) false, .sh (eH h) false, .no, .no] (Tg.t2 (.nm 2) (.nm 3)).sl)
    (f := fun p : List Wd × Nat => .tp [eL p.1, .int (p.2 : Int)]) (p := fun p => decide (p.2 ≤ p.1.length)) (notes.zip h)
    (fun p _ => ⟨_, rfl, true, by simp [G.eval, eL, wipeD, Tg.sl, Co.f]⟩)
  have e1 : evalI ga_is_heard (.itZ (.var 0) (.var 1)) [.sh (eN notes) false, .sh (eH h) false, .no, .no] = some ((notes.zip h).map fun p : List Wd × Nat => .tp [eL p.1, .int (p.2 : Int)], false) := by
    have e2 : zipD (notes.map eL) (h.map fun (m : Nat) => D.int (m : Int)) = (notes.zip h).map fun p : List Wd × Nat => .tp [eL p.1, .int (p.2 : Int)] := zipD_map _ _ _ _
    simp [evalI, G.eval, eN, eH, e2]
  have e3 : G.eval ga_is_heard m_is_heard_1 [.sh (eN notes) false, .sh (eH h) false, .no, .no] = some (.ls L, true, gs) := eval_lc_of e1 (by simp; omega) e
  have c : (h.length : Int) = (notes.length : Int) := by omega
  simp only [eN, eH] at e3
  simp [c_is_heard, G.exec, G.eval, st0, isTst, eN, eH, eqok_okn, okn_int, eqv_int, c, e3, b, endOf, all_map_id, D.flat, Function.comp_def]
theorem is_no_less_run (a b : List Nat) (hl : a.length ≤ 1000) : fd_is_no_less.run [eH a, eH b] = some (.bl (leL b a)) := by
  show endOf false (G.exec ga_is_no_less c_is_no_less (st0 4 [eH a, eH b])) = _
  obtain ⟨L, gs, e, bb⟩ := lcRun_bls (t := .t2 (.nm 2) (.nm 3)) (g := false) (ef := fun δ2 => G.eval ga_is_no_less (.cmp .ge (.var 2) (.var 3)) δ2) (δ := wipeD [.sh (eH a) false, .sh (eH b) false, .no, .no] (Tg.t2 (.nm 2) (.nm 3)).sl)
    (f := fun p : Nat × Nat => .tp [.int (p.1 : Int), .int (p.2 : Int)]) (p := fun p => decide (p.2 ≤ p.1)) (a.zip b)
    (fun p _ => ⟨_, rfl, true, by simp [G.eval, wipeD, Tg.sl, Co.f]⟩)
  have e1 : evalI ga_is_no_less (.itZ (.var 0) (.var 1)) [.sh (eH a) false, .sh (eH b) false, .no, .no] = some ((a.zip b).map fun p : Nat × Nat => .tp [.int (p.1 : Int), .int (p.2 : Int)], false) := by
    have e2 : zipD (a.map fun (m : Nat) => D.int (m : Int)) (b.map fun (m : Nat) => D.int (m : Int)) = (a.zip b).map fun p : Nat × Nat => .tp [.int (p.1 : Int), .int (p.2 : Int)] := zipD_map _ _ _ _
    simp [evalI, G.eval, eH, e2]
  have e3 : G.eval ga_is_no_less m_is_no_less_1 [.sh (eH a) false, .sh (eH b) false, .no, .no] = some (.ls L, true, gs) := eval_lc_of e1 (by simp; omega) e
  have key : ∀ (a b : List Nat), ((a.zip b).all fun p => decide (p.2 ≤ p.1)) = leL b a := by
    intro a
    induction a with
    | nil => intro b; cases b <;> simp [leL]
    | cons x a ih =>
      intro b
      cases b with
      | nil => simp [leL]
      | cons y b => simp [leL, ih]
  simp only [eH] at e3
  simp [c_is_no_less, G.exec, G.eval, st0, eH, e3, bb, endOf]
  exact key a b
theorem cast_eq (a b : Nat) : ((a : Int) = (b : Int)) ↔ a = b := by omega
/-! all_heard -/
theorem heard_lc {ws : List Wd} {i hand said : Nat} {s : List Nat} (x0 x3 x6 : Sl) (k4 k5 k7 : Bool) (x8 : Sl) (hw : ws.length ≤ 6) (hs : s.length ≤ 3) :
    ∃ gs, G.eval ga_all_heard m_all_heard_1 [x0, .sh (.int (hand : Int)) false, .sh (.int (said : Int)) false, x3, .sh (.int (i : Int)) k4, .sh (eL ws) k5, x6, .sh (eH s) k7, x8] = some (.ls ((opts i hand said ws.length).map fun m => eH (s ++ [m])), true, gs) := by
  obtain ⟨gs, e⟩ := lcRun_filter (t := .nm 8) (g := true) (cf := fun δ2 => tst (G.eval ga_all_heard (.or (.ne (.var 4) (.var 1)) (.eq (.var 8) (.var 2))) δ2)) (ef := fun δ2 => G.eval ga_all_heard (.cat (.var 7) (.lst (.cons (.var 8) .nil))) δ2)
    (δ := wipeD [x0, .sh (.int (hand : Int)) false, .sh (.int (said : Int)) false, x3, .sh (.int (i : Int)) k4, .sh (eL ws) k5, x6, .sh (eH s) k7, x8] (Tg.nm 8).sl) (f := fun (k : Nat) => D.int (k : Int)) (y := fun m => eH (s ++ [m])) (p := fun m => decide (i ≠ hand) || decide (m = said)) (List.range (ws.length + 1))
    (fun m _ => ⟨_, rfl, by
      by_cases h1 : i = hand
      · subst h1
        simp [tst, G.eval, wipeD, Tg.sl, eqok_okn, okn_int, eqv_int, cast_eq]
      · have : ¬ (i : Int) = (hand : Int) := by omega
        simp [tst, G.eval, wipeD, Tg.sl, eqok_okn, okn_int, eqv_int, this, h1], fun _ => ⟨k7, by
      have : s.length + 1 ≤ 100000 := by omega
      simp [G.eval, evalA, wipeD, Tg.sl, eH, this]⟩⟩)
  have e1 : evalI ga_all_heard (.itR (.bin .add (.len (.var 5)) (.int 1))) [x0, .sh (.int (hand : Int)) false, .sh (.int (said : Int)) false, x3, .sh (.int (i : Int)) k4, .sh (eL ws) k5, x6, .sh (eH s) k7, x8] = some ((List.range (ws.length + 1)).map fun (k : Nat) => D.int (k : Int), true) := by
    have c : (-1000000 : Int) ≤ (ws.length : Int) + 1 ∧ (ws.length : Int) + 1 ≤ 1000000 := by omega
    have c2 : ((ws.length : Int) + 1).toNat = ws.length + 1 := by omega
    have ev : G.eval ga_all_heard (.bin .add (.len (.var 5)) (.int 1)) [x0, .sh (.int (hand : Int)) false, .sh (.int (said : Int)) false, x3, .sh (.int (i : Int)) k4, .sh (eL ws) k5, x6, .sh (eH s) k7, x8] = some (.int ((ws.length : Int) + 1), true, true) := by
      simp [G.eval, eL, Bo.run]
    unfold evalI
    rw [ev]
    dsimp only
    rw [if_pos c, c2, rngD_0]
  exact ⟨gs, eval_lcf_of e1 (by rw [List.length_map, List.length_range]; omega) rfl e⟩
theorem heard_in {ws : List Wd} {i hand said : Nat} {acc : List (List Nat)} {s : List Nat} (x0 x3 : Sl) (g6 k4 k5 k7 : Bool) (x8 : Sl) (hw : ws.length ≤ 6) (hs : s.length ≤ 3) (ha : acc.length ≤ 400) :
    ∃ g', G.exec ga_all_heard l_all_heard_1 [x0, .sh (.int (hand : Int)) false, .sh (.int (said : Int)) false, x3, .sh (.int (i : Int)) k4, .sh (eL ws) k5, .ow (acc.map eH) g6, .sh (eH s) k7, x8] =
      some (.nx [x0, .sh (.int (hand : Int)) false, .sh (.int (said : Int)) false, x3, .sh (.int (i : Int)) k4, .sh (eL ws) k5, .ow ((acc ++ (opts i hand said ws.length).map fun m => s ++ [m]).map eH) g', .sh (eH s) k7, x8]) := by
  obtain ⟨gs, e4⟩ := heard_lc (ws := ws) (i := i) (hand := hand) (said := said) (s := s) x0 x3 (.ow (acc.map eH) g6) k4 k5 k7 x8 hw hs
  have c3 : acc.length + (opts i hand said ws.length).length < 100000 := by
    have := opts_len i hand said ws.length
    omega
  have e5 := exec_ext_of (i := 6) (ds := acc.map eH) (g := g6) rfl e4 (by rw [List.length_map, List.length_map]; exact c3)
  refine ⟨g6 && (gs || flats ((opts i hand said ws.length).map fun m => eH (s ++ [m]))), exec_nx e5 ?_⟩
  rw [show (acc.map eH ++ (opts i hand said ws.length).map fun m => eH (s ++ [m])) = (acc ++ (opts i hand said ws.length).map fun m => s ++ [m]).map eH by rw [List.map_append, List.map_map]; rfl]
  rfl
theorem ahGo_app {hand said : Nat} : ∀ (a b : List (List Wd)) (i : Nat) (acc : List (List Nat)), ahGo hand said i (a ++ b) acc = ahGo hand said (i + a.length) b (ahGo hand said i a acc)
  | [], b, i, acc => rfl
  | ws :: a, b, i, acc => by
    simp only [List.cons_append, ahGo, ahGo_app a b, List.length_cons]
    rw [show i + 1 + a.length = i + (a.length + 1) by omega]
theorem heard_lens {hand said : Nat} : ∀ (notes : List (List Wd)) (i : Nat) (acc : List (List Nat)) (n : Nat), (∀ s ∈ acc, s.length = n) → ∀ s ∈ ahGo hand said i notes acc, s.length = n + notes.length
  | [], i, acc, n, h, s, hs => by simpa [ahGo] using h s hs
  | ws :: r, i, acc, n, h, s, hs => by
    simp only [ahGo] at hs
    have := heard_lens r (i + 1) _ (n + 1) (fun t ht => by
      obtain ⟨u, hu, hm⟩ := List.mem_flatMap.mp ht
      obtain ⟨m, _, rfl⟩ := List.mem_map.mp hm
      simp [h u hu]) s hs
    rw [this, List.length_cons]
    omega
theorem heard_mid {notes : List (List Wd)} (hn : NOk notes) {ws : List Wd} {i hand said : Nat} (hi : i < 3) (hw : ws.length ≤ 6) (acc : List (List Nat)) (hl : ∀ s ∈ acc, s.length = i) (ha : acc.length ≤ 49) (k4 k5 k3 : Bool) (x6 x7 : Sl) :
    ∃ g' y6 y7, G.exec ga_all_heard l_all_heard_2 [.sh (eN notes) false, .sh (.int (hand : Int)) false, .sh (.int (said : Int)) false, .sh (.ls (acc.map eH)) k3, .sh (.int (i : Int)) k4, .sh (eL ws) k5, x6, x7, .no] =
      some (.nx [.sh (eN notes) false, .sh (.int (hand : Int)) false, .sh (.int (said : Int)) false, .sh (.ls ((acc.flatMap fun s => (opts i hand said ws.length).map fun m => s ++ [m]).map eH)) g', .sh (.int (i : Int)) k4, .sh (eL ws) k5, y6, y7, .no]) := by
  have hb : ∀ (l : List (List Nat)), l.length ≤ 49 → (l.flatMap fun s => (opts i hand said ws.length).map fun m => s ++ [m]).length ≤ 343 := fun l h => by
    refine Nat.le_trans (flatMap_len 7 _ l fun s _ => ?_) (by omega)
    rw [List.length_map]
    have := opts_len i hand said ws.length
    omega
  obtain ⟨δ', e, g', y7, rfl, _⟩ := forRun_fold (t := .nm 7) (g := k3) (ex := fun δ => G.exec ga_all_heard l_all_heard_1 δ) (f := eH) (up := fun (l : List (List Nat)) (s : List Nat) => l ++ (opts i hand said ws.length).map fun m => s ++ [m])
    (fun j (l : List (List Nat)) δ => ∃ g' y7, δ = [.sh (eN notes) false, .sh (.int (hand : Int)) false, .sh (.int (said : Int)) false, .sh (.ls (acc.map eH)) k3, .sh (.int (i : Int)) k4, .sh (eL ws) k5, .ow (l.map eH) g', y7, .no] ∧ l.length ≤ 7 * j) acc 0 [] _ ⟨true, x7, rfl, by simp⟩ (by
      rintro j s l δ hj ⟨g', y7, rfl, hl2⟩
      have hj' : j < acc.length := (List.getElem?_eq_some_iff.mp hj).1
      have hs := hl s (List.mem_of_getElem? hj)
      obtain ⟨g2, e⟩ := heard_in (hand := hand) (said := said) (i := i) (acc := l) (s := s) (.sh (eN notes) false) (.sh (.ls (acc.map eH)) k3) g' k4 k5 k3 .no hw (by omega) (by omega)
      refine ⟨_, _, rfl, e, g2, _, rfl, ?_⟩
      rw [List.length_append, List.length_map]
      have := opts_len i hand said ws.length
      omega)
  have fe : ∀ (l acc : List (List Nat)), l.foldl (fun (l : List (List Nat)) (s : List Nat) => l ++ (opts i hand said ws.length).map fun m => s ++ [m]) acc = acc ++ l.flatMap fun s => (opts i hand said ws.length).map fun m => s ++ [m] := by
    intro l
    induction l with
    | nil => intro acc; simp
    | cons s l ih => intro acc; rw [List.foldl_cons, ih, List.flatMap_cons, List.append_assoc]
  rw [fe, List.nil_append] at e
  refine ⟨g', .sh (.ls ((acc.flatMap fun s => (opts i hand said ws.length).map fun m => s ++ [m]).map eH)) g', y7, ?_⟩
  refine exec_nx (δ1 := [.sh (eN notes) false, .sh (.int (hand : Int)) false, .sh (.int (said : Int)) false, .sh (.ls (acc.map eH)) k3, .sh (.int (i : Int)) k4, .sh (eL ws) k5, .ow [] true, x7, .no]) (by simp [G.exec, G.eval, evalA, slotOf, isNew]) ?_
  refine exec_nx (exec_loop_of (ds := acc.map eH) (g := k3) (by simp [evalI, G.eval]) e) ?_
  simp [G.exec, G.eval, Tg.run]
theorem all_heard_run {notes : List (List Wd)} (hn : NOk notes) (hand said : Nat) : fd_all_heard.run [eN notes, .int (hand : Int), .int (said : Int)] = some (.ls ((ah notes hand said).map eH)) := by
  show endOf false (G.exec ga_all_heard c_all_heard (st0 9 [eN notes, .int (hand : Int), .int (said : Int)])) = _
  have pw : ∀ j, j < notes.length → 7 ^ j ≤ 49 := fun j hj => by
    have := hn.l3
    exact Nat.le_trans (Nat.pow_le_pow_right (by omega) (show j ≤ 2 by omega)) (by decide)
  obtain ⟨δ', e, k3, y4, y5, y6, y7, rfl, hh⟩ := forRun_fold (t := .t2 (.nm 4) (.nm 5)) (g := false) (ex := fun δ => G.exec ga_all_heard l_all_heard_2 δ) (f := fun p : List Wd × Nat => .tp [.int (p.2 : Int), eL p.1]) (up := fun (l : List (List Nat)) (p : List Wd × Nat) => l.flatMap fun s => (opts p.2 hand said p.1.length).map fun m => s ++ [m])
    (fun j (l : List (List Nat)) δ => ∃ k3 y4 y5 y6 y7, δ = [.sh (eN notes) false, .sh (.int (hand : Int)) false, .sh (.int (said : Int)) false, .sh (.ls (l.map eH)) k3, y4, y5, y6, y7, .no] ∧ l = ahGo hand said 0 (notes.take j) [[]]) (notes.zipIdx 0) 0 [[]] _ ⟨true, .no, .no, .no, .no, rfl, by simp [ahGo]⟩ (by
      rintro j ⟨ws, i⟩ l δ hj ⟨k3, y4, y5, y6, y7, rfl, hl⟩
      rw [List.getElem?_zipIdx] at hj
      obtain ⟨w2, e1, e2⟩ := Option.map_eq_some_iff.mp hj
      cases e2
      have hj' : j < notes.length := (List.getElem?_eq_some_iff.mp e1).1
      have hw := hn.w6 ws (List.mem_of_getElem? e1)
      have h3 := hn.l3
      have tk : notes.take (j + 1) = notes.take j ++ [ws] := by
        rw [List.take_succ, e1]
        rfl
      have lens : ∀ s ∈ l, s.length = j := fun s hs => by
        rw [hl] at hs
        have := heard_lens (notes.take (0 + j)) 0 [[]] 0 (by simp) s hs
        rw [List.length_take] at this
        omega
      have len : l.length ≤ 49 := by
        rw [hl]
        have := ahGo_len (hand := hand) (said := said) (notes.take (0 + j)) 0 [[]] fun w hw => hn.w6 w (List.mem_of_mem_take hw)
        rw [List.length_singleton, Nat.one_mul, List.length_take] at this
        exact Nat.le_trans this (pw _ (by omega))
      obtain ⟨g', z6, z7, ex⟩ := heard_mid hn (hand := hand) (said := said) (i := 0 + j) (by omega) hw l (by simpa using lens) len false false k3 y6 y7
      refine ⟨_, _, rfl, ex, g', _, _, z6, z7, rfl, ?_⟩
      rw [hl, show 0 + j + 1 = j + 1 by omega, tk, ahGo_app]
      have z : (notes.take j).length = j := by rw [List.length_take]; omega
      simp only [ahGo, z, Nat.zero_add])
  have e1 : evalI ga_all_heard (.itE (.var 0)) [.sh (eN notes) false, .sh (.int (hand : Int)) false, .sh (.int (said : Int)) false, .sh (.ls [.ls []]) true, .no, .no, .no, .no, .no] = some ((notes.zipIdx 0).map fun p : List Wd × Nat => .tp [.int (p.2 : Int), eL p.1], false) := by
    have e2 := enumD_map eL 0 notes
    simp [evalI, G.eval, eN, e2]
  refine Eq.trans (congrArg (endOf _) (exec_nx (δ1 := [.sh (eN notes) false, .sh (.int (hand : Int)) false, .sh (.int (said : Int)) false, .sh (.ls [.ls []]) true, .no, .no, .no, .no, .no]) (by simp [st0, G.exec, G.eval, evalA, Tg.run]) (exec_nx (exec_loop_of e1 e) rfl))) ?_
  have hfin : (notes.zipIdx 0).foldl (fun (l : List (List Nat)) (p : List Wd × Nat) => l.flatMap fun s => (opts p.2 hand said p.1.length).map fun m => s ++ [m]) [[]] = ah notes hand said := by
    rw [hh]
    unfold ah
    rw [List.take_of_length_le (by simp)]
  simp [G.exec, G.eval, endOf, hfin]
end K09

namespace K09
open PySem G L2 Sh
def eLs (l : List (List Nat)) : D := .ls (l.map eH)
theorem nb_eLss (L : List (List (List Nat))) : D.nbs (L.map eLs) = true := by
  rw [nbs_all]
  simp only [List.all_map, List.all_eq_true]
  intro l _
  exact nb_eHs l
theorem okn_eLs (n : Nat) (l : List (List Nat)) : okn (n + 2) (eLs l) = true := by
  unfold eLs
  rw [okn_ls]
  simp [okn_eH]
theorem okn_eLss (n : Nat) (L : List (List (List Nat))) : okn (n + 3) (.ls (L.map eLs)) = true := by
  rw [okn_ls]
  simp [okn_eLs]
theorem okn_nil (n : Nat) : okn (n + 1) (.ls []) = true := by
  rw [okn_ls]
  rfl
/-! lists_of -/
section
variable {notes : List (List Wd)} (hn : NOk notes) (hand : Nat)
include hn
theorem lists_1 (s : Sg) (x2 x3 x7 x8 x9 : Sl) (k4 k5 k6 : Bool) : ∃ gs, G.eval ga_lists_of m_lists_of_1 [.sh (eN notes) false, .sh (.int (hand : Int)) false, x2, x3, .sh (.int (s.said : Int)) k4, .sh (.int s.a) k5, .sh (.int s.b) k6, x7, x8, x9] = some (eLs (fitL notes hand s), true, gs) := by
  obtain ⟨gs, e⟩ := lcRun_filter (t := .nm 8) (g := false) (cf := fun δ2 => tst (G.eval ga_lists_of (.eq (.call 5 (.cons (.var 0) (.cons (.var 8) .nil))) (.tup (.cons (.var 5) (.cons (.var 6) .nil)))) δ2)) (ef := fun δ2 => G.eval ga_lists_of (.var 8) δ2)
    (δ := wipeD [.sh (eN notes) false, .sh (.int (hand : Int)) false, x2, x3, .sh (.int (s.said : Int)) k4, .sh (.int s.a) k5, .sh (.int s.b) k6, x7, x8, x9] (Tg.nm 8).sl) (f := eH) (y := eH) (p := fun h => decide (sc false notes h = s.a) && decide (sc true notes h = s.b)) (ah notes hand s.said)
    (fun h _ => ⟨_, rfl, by
      have o : ∀ a b : Int, okn 64 (.tp [.int a, .int b]) = true := fun a b => by rw [okn_tp 63]; simp [okn_int]
      simp [tst, G.eval, evalA, wipeD, Tg.sl, ix_lists_of_score_of, ar_score_of, fr_score_of, score_of_run, eqok_okn, o, eqv_ii], fun _ => ⟨false, by simp [G.eval, wipeD, Tg.sl]⟩⟩)
  have e1 : evalI ga_lists_of (.itL (.call 7 (.cons (.var 0) (.cons (.var 1) (.cons (.var 4) .nil))))) [.sh (eN notes) false, .sh (.int (hand : Int)) false, x2, x3, .sh (.int (s.said : Int)) k4, .sh (.int s.a) k5, .sh (.int s.b) k6, x7, x8, x9] = some ((ah notes hand s.said).map eH, false) := by
    simp [evalI, G.eval, evalA, ix_lists_of_all_heard, ar_all_heard, fr_all_heard, all_heard_run hn, D.flat]
  exact ⟨gs, eval_lcf_of e1 (by have := ah_len (hand := hand) (said := s.said) hn.w6 hn.l3; rw [List.length_map]; omega) rfl e⟩
omit hn in
theorem lists_2 (L : List (List (List Nat))) (l : List (List Nat)) (hl : L.getLast? = some l) (h : List Nat) (hh : h.length ≤ 1000) (hb : l.length ≤ 1000) (g k8 : Bool) (x0 x1 x2 x4 x5 x6 x7 x9 : Sl) :
    ∃ R gs, G.eval ga_lists_of m_lists_of_2 [x0, x1, x2, .ow (L.map eLs) g, x4, x5, x6, x7, .sh (eH h) k8, x9] = some (.ls R, true, gs) ∧ blsOf R = some (l.map fun p => leL p h) := by
  obtain ⟨R, gs, e, b⟩ := lcRun_bls (t := .nm 9) (g := g) (ef := fun δ2 => G.eval ga_lists_of (.call 8 (.cons (.var 8) (.cons (.var 9) .nil))) δ2) (δ := wipeD [x0, x1, x2, .ow (L.map eLs) g, x4, x5, x6, x7, .sh (eH h) k8, x9] (Tg.nm 9).sl) (f := eH) (p := fun p => leL p h) l
    (fun p _ => ⟨_, rfl, true, by simp [G.eval, evalA, wipeD, Tg.sl, ix_lists_of_is_no_less, ar_is_no_less, fr_is_no_less, is_no_less_run h p hh, D.flat]⟩)
  have e1 : evalI ga_lists_of (.itL (.oix 3 (.neg (.int 1)))) [x0, x1, x2, .ow (L.map eLs) g, x4, x5, x6, x7, .sh (eH h) k8, x9] = some (l.map eH, g) := by
    obtain ⟨ys, rfl⟩ := List.getLast?_eq_some_iff.mp hl
    have a : atI ((ys ++ [l]).map eLs) (-1) = some (eLs l) := by
      rw [List.map_append]
      exact atI_last
    have ev : G.eval ga_lists_of (.oix 3 (.neg (.int 1))) [x0, x1, x2, .ow ((ys ++ [l]).map eLs) g, x4, x5, x6, x7, .sh (eH h) k8, x9] = some (eLs l, true, g) := by
      simp only [G.eval, List.getElem?_cons_succ, List.getElem?_cons_zero]
      rw [a]
    unfold evalI
    rw [ev]
    rfl
  exact ⟨R, gs, eval_lc_of e1 (by rw [List.length_map]; omega) e, b⟩
omit hn in
theorem lists_3 (L : List (List (List Nat))) (l : List (List Nat)) (hl : L.getLast? = some l) (f : List (List Nat)) (hf : ∀ h ∈ f, h.length ≤ 1000) (hfl : f.length ≤ 1000) (hb : l.length ≤ 1000) (g k7 : Bool) (x0 x1 x2 x4 x5 x6 x8 x9 : Sl) :
    ∃ gs, G.eval ga_lists_of m_lists_of_3 [x0, x1, x2, .ow (L.map eLs) g, x4, x5, x6, .sh (eLs f) k7, x8, x9] = some (eLs (f.filter fun h => l.any fun p => leL p h), true, gs) := by
  obtain ⟨gs, e⟩ := lcRun_filter (t := .nm 8) (g := k7) (cf := fun δ2 => tst (G.eval ga_lists_of (.any m_lists_of_2) δ2)) (ef := fun δ2 => G.eval ga_lists_of (.var 8) δ2)
    (δ := wipeD [x0, x1, x2, .ow (L.map eLs) g, x4, x5, x6, .sh (eLs f) k7, x8, x9] (Tg.nm 8).sl) (f := eH) (y := eH) (p := fun h => l.any fun p => leL p h) f
    (fun h hh => ⟨_, rfl, by
      obtain ⟨R, gs, e2, b⟩ := lists_2 L l hl h (hf h hh) hb g k7 x0 x1 x2 x4 x5 x6 (.sh (eLs f) k7) x9
      have e3 : G.eval ga_lists_of m_lists_of_2 ((wipeD [x0, x1, x2, .ow (L.map eLs) g, x4, x5, x6, .sh (eLs f) k7, x8, x9] (Tg.nm 8).sl).set 8 (.sh (eH h) k7)) = some (.ls R, true, gs) := e2
      simp only [tst, G.eval, e3, b, any_map_id], fun _ => ⟨k7, by simp [G.eval, wipeD, Tg.sl]⟩⟩)
  exact ⟨gs, eval_lcf_of (by simp [evalI, G.eval, eLs]) (by rw [List.length_map]; omega) rfl e⟩
theorem fit_bounds (s : Sg) : (fitL notes hand s).length ≤ 343 ∧ ∀ h ∈ fitL notes hand s, h.length = notes.length := by
  unfold fitL
  refine ⟨Nat.le_trans (List.length_filter_le _ _) (ah_len hn.w6 hn.l3), fun h hh => ?_⟩
  have h1 := (List.mem_filter.mp hh).1
  unfold ah at h1
  have := heard_lens notes 0 [[]] 0 (by simp) h h1
  omega
theorem nxt_bounds (pv : Option (List (List Nat))) (s : Sg) : (nxt notes hand pv s).length ≤ 343 ∧ ∀ h ∈ nxt notes hand pv s, h.length = notes.length := by
  obtain ⟨h1, h2⟩ := fit_bounds hn hand s
  unfold nxt
  cases pv with
  | none => exact ⟨h1, h2⟩
  | some l => exact ⟨Nat.le_trans (List.length_filter_le _ _) h1, fun h hh => h2 h (List.mem_filter.mp hh).1⟩
theorem lists_step (s : Sg) (L : List (List (List Nat))) (hL : ∀ l ∈ L, l.length ≤ 343) (hl : L.length ≤ 1000) (x2 x7 : Sl) (g k4 k5 k6 : Bool) :
    ∃ g' y7, G.exec ga_lists_of l_lists_of_1 [.sh (eN notes) false, .sh (.int (hand : Int)) false, x2, .ow (L.map eLs) g, .sh (.int (s.said : Int)) k4, .sh (.int s.a) k5, .sh (.int s.b) k6, x7, .no, .no] =
      some (.nx [.sh (eN notes) false, .sh (.int (hand : Int)) false, x2, .ow ((L ++ [nxt notes hand L.getLast? s]).map eLs) g', .sh (.int (s.said : Int)) k4, .sh (.int s.a) k5, .sh (.int s.b) k6, y7, .no, .no]) := by
  have h3 := hn.l3
  obtain ⟨gs, e1⟩ := lists_1 hn hand s x2 (.ow (L.map eLs) g) x7 .no .no k4 k5 k6
  obtain ⟨fb1, fb2⟩ := fit_bounds hn hand s
  have ne : G.eval ga_lists_of (.ne (.var 3) (.lst .nil)) [.sh (eN notes) false, .sh (.int (hand : Int)) false, x2, .ow (L.map eLs) g, .sh (.int (s.said : Int)) k4, .sh (.int s.a) k5, .sh (.int s.b) k6, .sh (eLs (fitL notes hand s)) gs, .no, .no] = some (.bl (!decide (L.map eLs = [])), true, true) := by
    simp [G.eval, evalA, eqok_okn, okn_eLss 61, okn_nil 63, eqv_nil _ (nb_eLss L)]
  have fin : ∀ (f : List (List Nat)) (k : Bool), ∃ g', G.exec ga_lists_of (.seq (.app 3 (.var 7)) .nil) [.sh (eN notes) false, .sh (.int (hand : Int)) false, x2, .ow (L.map eLs) g, .sh (.int (s.said : Int)) k4, .sh (.int s.a) k5, .sh (.int s.b) k6, .sh (eLs f) k, .no, .no] =
      some (.nx [.sh (eN notes) false, .sh (.int (hand : Int)) false, x2, .ow ((L ++ [f]).map eLs) g', .sh (.int (s.said : Int)) k4, .sh (.int s.a) k5, .sh (.int s.b) k6, .sh (eLs f) k, .no, .no]) := fun f k => by
    have e5 := exec_app_of (Γ := ga_lists_of) (i := 3) (e := .var 7) (δ := [.sh (eN notes) false, .sh (.int (hand : Int)) false, x2, .ow (L.map eLs) g, .sh (.int (s.said : Int)) k4, .sh (.int s.a) k5, .sh (.int s.b) k6, .sh (eLs f) k, .no, .no]) (ds := L.map eLs) (g := g) (d := eLs f) (g' := k) rfl rfl (by rw [List.length_map]; omega)
    refine ⟨g && (k || (eLs f).flat), exec_nx e5 ?_⟩
    rw [show L.map eLs ++ [eLs f] = (L ++ [f]).map eLs by rw [List.map_append]; rfl]
    rfl
  cases hL2 : L.getLast? with
  | none =>
    have hnil := List.getLast?_eq_none_iff.mp hL2
    subst hnil
    obtain ⟨g', e9⟩ := fin (fitL notes hand s) gs
    refine ⟨g', _, exec_nx (exec_asg_of e1) (exec_nx ?_ e9)⟩
    have ne' := ne
    simp only [List.map_nil, decide_true, Bool.not_true] at ne'
    show G.exec ga_lists_of (.ite (.ne (.var 3) (.lst .nil)) (.seq (.asg (.nm 7) m_lists_of_3) .nil) .nil) [.sh (eN notes) false, .sh (.int (hand : Int)) false, x2, .ow [] g, .sh (.int (s.said : Int)) k4, .sh (.int s.a) k5, .sh (.int s.b) k6, .sh (eLs (fitL notes hand s)) gs, .no, .no] = _
    simp only [G.exec, isTst, if_true, ne']
    rfl
  | some l =>
    have hm : l ∈ L := List.mem_of_getLast? hL2
    have lb := hL l hm
    obtain ⟨gs2, e3⟩ := lists_3 L l hL2 (fitL notes hand s) (fun h hh => by rw [fb2 h hh]; omega) (by omega) (by omega) g gs (.sh (eN notes) false) (.sh (.int (hand : Int)) false) x2 (.sh (.int (s.said : Int)) k4) (.sh (.int s.a) k5) (.sh (.int s.b) k6) .no .no
    obtain ⟨g', e9⟩ := fin ((fitL notes hand s).filter fun h => l.any fun p => leL p h) gs2
    refine ⟨g', _, exec_nx (exec_asg_of e1) (exec_nx ?_ e9)⟩
    have nz : L.map eLs ≠ [] := by
      intro z
      rw [List.map_eq_nil_iff] at z
      subst z
      simp at hm
    have ne' := ne
    rw [decide_eq_false nz, Bool.not_false] at ne'
    show G.exec ga_lists_of (.ite (.ne (.var 3) (.lst .nil)) (.seq (.asg (.nm 7) m_lists_of_3) .nil) .nil) [.sh (eN notes) false, .sh (.int (hand : Int)) false, x2, .ow (L.map eLs) g, .sh (.int (s.said : Int)) k4, .sh (.int s.a) k5, .sh (.int s.b) k6, .sh (eLs (fitL notes hand s)) gs, .no, .no] = _
    have e10 := exec_nx (exec_asg_of (j := 7) e3) (show G.exec ga_lists_of .nil _ = some (.nx _) from rfl)
    simp only [G.exec, isTst, if_true, ne'] at e10 ⊢
    rw [e10]
    rfl
omit hn in
theorem foldl_lf : ∀ (shown : List Sg) (L : List (List (List Nat))), shown.foldl (fun (L : List (List (List Nat))) s => L ++ [nxt notes hand L.getLast? s]) L = L ++ lf notes hand L.getLast? shown
  | [], L => by simp [lf]
  | s :: r, L => by
    rw [List.foldl_cons, foldl_lf r]
    simp [lf]
theorem lists_of_run (shown : List Sg) (hs : shown.length ≤ 5) : fd_lists_of.run [eN notes, .int (hand : Int), .ls (shown.map eS)] = some (.ls ((lf notes hand none shown).map eLs)) := by
  show endOf false (G.exec ga_lists_of c_lists_of (st0 10 [eN notes, .int (hand : Int), .ls (shown.map eS)])) = _
  obtain ⟨δ', e, g', y4, y5, y6, y7, rfl, _⟩ := forRun_fold (t := .t3 (.nm 4) (.nm 5) (.nm 6)) (g := false) (ex := fun δ => G.exec ga_lists_of l_lists_of_1 δ) (f := eS) (up := fun (L : List (List (List Nat))) s => L ++ [nxt notes hand L.getLast? s])
    (fun j (L : List (List (List Nat))) δ => ∃ g' y4 y5 y6 y7, δ = [.sh (eN notes) false, .sh (.int (hand : Int)) false, .sh (.ls (shown.map eS)) false, .ow (L.map eLs) g', y4, y5, y6, y7, .no, .no] ∧ (∀ l ∈ L, l.length ≤ 343) ∧ L.length = j) shown 0 [] _ ⟨true, .no, .no, .no, .no, rfl, by simp, rfl⟩ (by
      rintro j s L δ hj ⟨g', y4, y5, y6, y7, rfl, hL, hl⟩
      have hj' : j < shown.length := (List.getElem?_eq_some_iff.mp hj).1
      obtain ⟨g2, z7, e⟩ := lists_step hn hand s L hL (by omega) (.sh (.ls (shown.map eS)) false) y7 g' false false false
      refine ⟨_, _, rfl, e, g2, _, _, _, z7, rfl, fun l hl => ?_, by simp; omega⟩
      rcases List.mem_append.mp hl with k | k
      · exact hL l k
      · simp at k
        subst k
        exact (nxt_bounds hn hand _ s).1)
  rw [foldl_lf, List.nil_append] at e
  refine Eq.trans (congrArg (endOf _) (exec_nx (δ1 := [.sh (eN notes) false, .sh (.int (hand : Int)) false, .sh (.ls (shown.map eS)) false, .ow [] true, .no, .no, .no, .no, .no, .no]) (by simp [st0, G.exec, G.eval, evalA, slotOf, isNew]) (exec_nx (exec_loop_of (ds := shown.map eS) (g := false) (by simp [evalI, G.eval]) e) rfl))) ?_
  simp [G.exec, G.eval, endOf, foldl_lf]
end
end K09

namespace K09
open PySem G L2 Sh
/-! history_of -/
structure Lk (L : List (List (List Nat))) : Prop where
  lk : ∀ (i : Nat) a b, L[i]? = some a → L[i + 1]? = some b → ∀ x ∈ b, ∃ p ∈ a, leL p x = true
  le : ∀ l ∈ L, ∀ x ∈ l, x.length ≤ 3
  ln : ∀ l ∈ L, l.length ≤ 343
  l5 : L.length ≤ 5
theorem hist_step (x : List Nat) (fs : List (List Nat)) (l : List (List Nat)) (hx : x.length ≤ 3) (hl : l.length ≤ 343) (hf : fs.length ≤ 100) (ex : ∃ p ∈ l, leL p x = true) (x0 : Sl) (k g : Bool) :
    ∃ y g', (y ∈ l ∧ leL y x = true) ∧ G.exec ga_history_of l_history_of_1 [x0, .ow ((fs ++ [x]).map eH) g, .sh (eLs l) k, .no] = some (.nx [x0, .ow ((fs ++ [x] ++ [y]).map eH) g', .sh (eLs l) k, .no]) := by
  obtain ⟨gs, e⟩ := lcRun_filter (t := .nm 3) (g := k) (cf := fun δ2 => tst (G.eval ga_history_of (.call 8 (.cons (.oix 1 (.neg (.int 1))) (.cons (.var 3) .nil))) δ2)) (ef := fun δ2 => G.eval ga_history_of (.var 3) δ2)
    (δ := wipeD [x0, .ow ((fs ++ [x]).map eH) g, .sh (eLs l) k, .no] (Tg.nm 3).sl) (f := eH) (y := eH) (p := fun p => leL p x) l
    (fun p _ => ⟨_, rfl, by
      have a : atI (List.map eH fs ++ [eH x]) (-1) = some (eH x) := atI_last
      simp [tst, G.eval, evalA, wipeD, Tg.sl, a, ix_history_of_is_no_less, ar_is_no_less, fr_is_no_less, is_no_less_run x p (by omega), D.flat], fun _ => ⟨k, by simp [G.eval, wipeD, Tg.sl]⟩⟩)
  have e2 : G.eval ga_history_of m_history_of_1 [x0, .ow ((fs ++ [x]).map eH) g, .sh (eLs l) k, .no] = some (.ls ((l.filter fun p => leL p x).map eH), true, gs) := eval_lcf_of (by simp [evalI, G.eval, eLs]) (by rw [List.length_map]; omega) rfl e
  cases hfl : l.filter fun p => leL p x with
  | nil =>
    obtain ⟨p, hp, hle⟩ := ex
    have : p ∈ l.filter fun p => leL p x := List.mem_filter.mpr ⟨hp, hle⟩
    rw [hfl] at this
    simp at this
  | cons y r =>
    have hy : y ∈ l.filter fun p => leL p x := by rw [hfl]; simp
    rw [List.mem_filter] at hy
    rw [hfl] at e2
    have e3 : G.eval ga_history_of (.ix m_history_of_1 (.int 0)) [x0, .ow ((fs ++ [x]).map eH) g, .sh (eLs l) k, .no] = some (eH y, true, gs) := by
      simp only [G.eval, e2, List.map_cons, atI_0]
    have e5 := exec_app_of (i := 1) (ds := (fs ++ [x]).map eH) (g := g) rfl e3 (by rw [List.length_map, List.length_append, List.length_singleton]; omega)
    refine ⟨y, g && (gs || (eH y).flat), hy, exec_nx e5 ?_⟩
    rw [show (fs ++ [x]).map eH ++ [eH y] = (fs ++ [x] ++ [y]).map eH by rw [List.map_append (f := eH) (l₁ := fs ++ [x])]; rfl]
    rfl
theorem history_of_run {L : List (List (List Nat))} (hk : Lk L) (hne : L = [] ∨ ∃ l, L.getLast? = some l ∧ l ≠ []) : ∃ hs : List (List Nat), fd_history_of.run [.ls (L.map eLs)] = some (.ls (hs.map eH)) ∧ hs.length = L.length ∧ (∀ (i : Nat) h l, hs[i]? = some h → L[i]? = some l → h ∈ l) ∧ (∀ (i : Nat) h k, hs[i]? = some h → hs[i + 1]? = some k → leL h k = true) := by
  have key : ∃ hs : List (List Nat), fd_history_of.run [.ls (L.map eLs)] = some (.ls (hs.reverse.map eH)) ∧ hs.length = L.length ∧ (∀ (i : Nat) h l, hs[i]? = some h → L.reverse[i]? = some l → h ∈ l) ∧ (∀ (i : Nat) h k, hs[i]? = some h → hs[i + 1]? = some k → leL k h = true) := by
    show ∃ hs : List (List Nat), endOf false (G.exec ga_history_of c_history_of (st0 4 [.ls (L.map eLs)])) = _ ∧ _
    rcases hne with rfl | ⟨l, hl, hlne⟩
    · refine ⟨[], ?_, rfl, by simp, by simp⟩
      have c0 : cutD ([] : List D) (some 1) none = [] := by
        have := cut_drop ([] : List D) 1
        simpa using this
      simp [c_history_of, G.exec, G.eval, evalA, evalO, evalI, st0, isTst, slotOf, isNew, eqok_okn, okn_nil 63, eqv_nil [] rfl, c0, forRun, endOf]
    · obtain ⟨ys, rfl⟩ := List.getLast?_eq_some_iff.mp hl
      obtain ⟨x, r, rfl⟩ := List.exists_cons_of_ne_nil hlne
      have h5 := hk.l5
      rw [List.length_append, List.length_singleton] at h5
      have a : atI ((ys ++ [x :: r]).map eLs) (-1) = some (eLs (x :: r)) := by
        rw [List.map_append]
        exact atI_last
      have hx := hk.le (x :: r) (by simp) x (by simp)
      have hrev : cutD ((ys ++ [x :: r]).map eLs).reverse (some 1) none = ys.reverse.map eLs := by
        have := cut_drop ((ys ++ [x :: r]).map eLs).reverse 1
        rw [show ((1 : Nat) : Int) = 1 from rfl] at this
        rw [this]
        simp
      have e1 : G.exec ga_history_of (.own 1 (.ite (.ne (.var 0) (.lst .nil)) (.lst (.cons (.ix (.ix (.var 0) (.neg (.int 1))) (.int 0)) .nil)) (.lst .nil))) (st0 4 [.ls ((ys ++ [x :: r]).map eLs)]) = some (.nx [.sh (.ls ((ys ++ [x :: r]).map eLs)) false, .ow [eH x] false, .no, .no]) := by
        have nz : (ys ++ [x :: r]).map eLs ≠ [] := by simp
        have ne : G.eval ga_history_of (.ne (.var 0) (.lst .nil)) (st0 4 [.ls ((ys ++ [x :: r]).map eLs)]) = some (.bl true, true, true) := by
          simp only [G.eval, evalA, st0, List.map_cons, List.map_nil, List.cons_append, List.getElem?_cons_zero, List.length_nil]
          rw [if_pos (by omega)]
          dsimp only
          rw [eqok_okn, eqok_okn, okn_eLss 61, okn_nil 63, eqv_nil _ (nb_eLss _), decide_eq_false nz]
          rfl
        have ev : G.eval ga_history_of (.lst (.cons (.ix (.ix (.var 0) (.neg (.int 1))) (.int 0)) .nil)) (st0 4 [.ls ((ys ++ [x :: r]).map eLs)]) = some (.ls [eH x], true, false) := by
          simp only [G.eval, evalA, st0, List.map_cons, List.map_nil, List.cons_append, List.getElem?_cons_zero]
          rw [a]
          simp [eLs, atI_0]
        exact exec_own_of rfl ((eval_ite_t rfl ne).trans ev)
      obtain ⟨δ', e, hs, g', y2, rfl, hlen, hmem, hchn, _, _⟩ := forRun_fold (t := .nm 2) (g := false) (ex := fun δ => G.exec ga_history_of l_history_of_1 δ) (f := eLs) (up := fun (u : Unit) _ => u)
        (fun j _ δ => ∃ (hs : List (List Nat)) (g' : Bool) (y2 : Sl), δ = [.sh (.ls ((ys ++ [x :: r]).map eLs)) false, .ow (hs.map eH) g', y2, .no] ∧ hs.length = j + 1 ∧ (∀ (i : Nat) h l, hs[i]? = some h → (ys ++ [x :: r]).reverse[i]? = some l → h ∈ l) ∧ (∀ (i : Nat) h k, hs[i]? = some h → hs[i + 1]? = some k → leL k h = true) ∧ hs ≠ [] ∧ True)
        ys.reverse 0 () _ ⟨[x], false, .no, rfl, rfl, by
          intro i h l h1 h2
          cases i with
          | zero => simp at h1 h2; subst h1 h2; simp
          | succ i => simp at h1, by
          intro i h k h1 h2
          simp at h2, by simp, trivial⟩ (by
          rintro j l _ δ hj ⟨hs, g', y2, rfl, hlen, hmem, hchn, hnz, _⟩
          obtain ⟨fs, z, rfl⟩ : ∃ fs z, hs = fs ++ [z] := ⟨hs.dropLast, hs.getLast hnz, (List.dropLast_concat_getLast hnz).symm⟩
          have hj' : j < ys.length := by
            have := (List.getElem?_eq_some_iff.mp hj).1
            simpa using this
          simp only [Nat.zero_add, List.length_append, List.length_singleton] at hlen
          have hfs : fs.length = j := by omega
          -- the list at hand and the one ahead
          have hcur : ∃ c, (ys ++ [x :: r]).reverse[j]? = some c := ⟨_, List.getElem?_eq_getElem (by simp; omega)⟩
          obtain ⟨c, hc⟩ := hcur
          have hzc : z ∈ c := hmem j z c (by rw [List.getElem?_append_right (by omega), hfs]; simp) hc
          have hrl : (ys ++ [x :: r]).reverse[j + 1]? = some l := by
            rw [List.reverse_append, List.reverse_singleton, List.singleton_append, List.getElem?_cons_succ]
            exact hj
          have i1 : (ys ++ [x :: r])[ys.length - j]? = some c := by
            rw [List.getElem?_reverse (by simp; omega)] at hc
            rw [show (ys ++ [x :: r]).length - 1 - j = ys.length - j by simp] at hc
            exact hc
          have i2 : (ys ++ [x :: r])[ys.length - j - 1]? = some l := by
            rw [List.getElem?_reverse (by simp; omega)] at hrl
            rw [show (ys ++ [x :: r]).length - 1 - (j + 1) = ys.length - j - 1 by simp; omega] at hrl
            exact hrl
          have ex := hk.lk (ys.length - j - 1) l c i2 (by rw [show ys.length - j - 1 + 1 = ys.length - j by omega]; exact i1) z hzc
          obtain ⟨y, g2, ⟨hy1, hy2⟩, e⟩ := hist_step z fs l (hk.le c (List.mem_of_getElem? i1) z hzc) (hk.ln l (List.mem_of_getElem? i2)) (by omega) ex (.sh (.ls ((ys ++ [x :: r]).map eLs)) false) false g'
          refine ⟨_, _, rfl, e, fs ++ [z] ++ [y], g2, _, rfl, by simp; omega, fun i h l' h1 h2 => ?_, fun i h k h1 h2 => ?_, by simp, trivial⟩
          · by_cases hi : i < (fs ++ [z]).length
            · rw [List.getElem?_append_left hi] at h1
              exact hmem i h l' h1 h2
            · rw [List.getElem?_append_right (by omega)] at h1
              have : i - (fs ++ [z]).length = 0 := by
                have := (List.getElem?_eq_some_iff.mp h1).1
                simp at this ⊢
                omega
              rw [this] at h1
              simp at h1
              subst h1
              have hi2 : i = j + 1 := by
                simp at this hi
                omega
              subst hi2
              rw [hrl] at h2
              cases h2
              exact hy1
          · by_cases hi : i + 1 < (fs ++ [z]).length
            · rw [List.getElem?_append_left (by omega)] at h1
              rw [List.getElem?_append_left hi] at h2
              exact hchn i h k h1 h2
            · rw [List.getElem?_append_right (by omega)] at h2
              have h0 : i + 1 - (fs ++ [z]).length = 0 := by
                have := (List.getElem?_eq_some_iff.mp h2).1
                simp at this ⊢
                omega
              rw [h0] at h2
              simp at h2
              subst h2
              have hi2 : i = fs.length := by
                simp at h0 hi
                omega
              subst hi2
              rw [List.append_assoc, List.getElem?_append_right (Nat.le_refl _), Nat.sub_self] at h1
              simp at h1
              subst h1
              exact hy2)
      refine ⟨hs, ?_, by rw [hlen]; simp, hmem, hchn⟩
      refine Eq.trans (congrArg (endOf _) (exec_nx e1 (exec_nx (exec_loop_of (ds := ys.reverse.map eLs) (g := false) ?_ e) rfl))) ?_
      · have ev : G.eval ga_history_of (.sl (.rev (.var 0)) (.cons (.int 1) .nil) .nil) [.sh (.ls ((ys ++ [x :: r]).map eLs)) false, .ow [eH x] false, .no, .no] = some (.ls (ys.reverse.map eLs), true, false) := by
          simp only [G.eval, evalO, List.getElem?_cons_zero, Bool.true_or]
          rw [hrev]
        unfold evalI
        rw [ev]
      · simp [G.exec, G.eval, endOf]
  obtain ⟨hs, h1, h2, h3, h4⟩ := key
  refine ⟨hs.reverse, h1, by simpa using h2, fun i h l a b => ?_, fun i h k a b => ?_⟩
  · have hi : i < hs.length := by
      have := (List.getElem?_eq_some_iff.mp a).1
      simpa using this
    rw [List.getElem?_reverse hi] at a
    refine h3 _ h l a ?_
    rw [List.getElem?_reverse (by omega), show L.length - 1 - (hs.length - 1 - i) = i by omega]
    exact b
  · have hi : i + 1 < hs.length := by
      have := (List.getElem?_eq_some_iff.mp b).1
      simpa using this
    rw [List.getElem?_reverse (by omega)] at a
    rw [List.getElem?_reverse hi] at b
    exact h4 (hs.length - 1 - (i + 1)) k h b (by rw [show hs.length - 1 - (i + 1) + 1 = hs.length - 1 - i by omega]; exact a)
end K09

namespace K09
open PySem G L2 Sh
/-! the classes -/
theorem leaf_ints (ns : List Int) : (ns.map D.int).all D.leaf = true := by
  rw [List.all_eq_true]
  intro d hd
  obtain ⟨i, _, rfl⟩ := List.mem_map.mp hd
  rfl
theorem tflats_ints : ∀ ns : List Int, D.tflats (ns.map D.int) = true
  | [] => rfl
  | n :: ns => by
    simp only [List.map_cons, D.tflats, D.tflat, Bool.true_and]
    exact tflats_ints ns
theorem tflats_of : ∀ {ds : List D}, (∀ d ∈ ds, d.tflat = true) → D.tflats ds = true
  | [], _ => rfl
  | d :: ds, h => by
    simp only [D.tflats, Bool.and_eq_true]
    exact ⟨h d (by simp), tflats_of fun x hx => h x (by simp [hx])⟩
def eI (l : List Int) : D := .ls (l.map D.int)
theorem eH_eI (h : List Nat) : eH h = eI (h.map fun (m : Nat) => (m : Int)) := by
  unfold eH eI
  rw [List.map_map]
  rfl
theorem tflat_eI (l : List Int) : (eI l).tflat = true := by
  simp only [eI, D.tflat]
  exact tflats_ints l
theorem history_mkI (hs : List (List Int)) (hl : hs.length ≤ 1000) : nd_History.run [.ls (hs.map eI)] = some [.ls (hs.map eI)] := by
  obtain ⟨gs, e⟩ := lcRun_map (t := .nm 2) (g := false) (ef := fun δ2 => G.eval ga_History_init (.toL (.var 2)) δ2) (δ := wipeD [.no, .sh (.ls (hs.map eI)) false, .no] (Tg.nm 2).sl) (f := eI) (y := eI) hs
    (fun h _ => ⟨_, rfl, true, by simp [G.eval, wipeD, Tg.sl, eI, flats_int]⟩)
  have e1 : G.eval ga_History_init m_History_init_1 [.no, .sh (.ls (hs.map eI)) false, .no] = some (.ls (hs.map eI), true, gs) := eval_lc_of (by simp [evalI, G.eval]) (by rw [List.length_map]; omega) e
  show (match evalF ga_History_init c_History_init (stI 3 [.ls (hs.map eI)]) with
    | some (xs, _) => if (trF ga_History_init c_History_init xs && D.tflats xs) = true then some xs else none
    | none => none) = _
  have e2 : stI 3 [.ls (hs.map eI)] = [.no, .sh (.ls (hs.map eI)) false, .no] := rfl
  have e3 : trOk ga_History_init m_History_init_1 (.ls (hs.map eI)) = true := by
    show ((hs.map eI).all fun d => trOk ga_History_init (.toL (.var 2)) d) = true
    rw [List.all_eq_true]
    intro d hd
    obtain ⟨h, _, rfl⟩ := List.mem_map.mp hd
    exact leaf_ints h
  have e4 : D.tflats [.ls (hs.map eI)] = true := by
    simp only [D.tflats, D.tflat, Bool.and_true]
    exact tflats_of fun d hd => by
      obtain ⟨h, _, rfl⟩ := List.mem_map.mp hd
      exact tflat_eI h
  simp [evalF, c_History_init, e2, e1, trF, e3, e4]
theorem history_mk (hs : List (List Nat)) (hl : hs.length ≤ 1000) : nd_History.run [.ls (hs.map eH)] = some [.ls (hs.map eH)] := by
  have := history_mkI (hs.map fun h => h.map fun (m : Nat) => (m : Int)) (by simpa using hl)
  rwa [List.map_map, show (eI ∘ fun h : List Nat => h.map fun (m : Nat) => (m : Int)) = eH from funext fun h => (eH_eI h).symm] at this
def eIs (l : List (List Int)) : D := .ls (l.map eI)
theorem never_mkI (L : List (List (List Int))) (hL : ∀ l ∈ L, l.length ≤ 1000) (hl : L.length ≤ 1000) : nd_Never.run [.ls (L.map eIs)] = some [.ls (L.map eIs)] := by
  have inner : ∀ (l : List (List Int)) (k : Bool) (x0 x1 : Sl), l.length ≤ 1000 → ∃ gs, G.eval ga_Never_init m_Never_init_1 [x0, x1, .sh (eIs l) k, .no] = some (eIs l, true, gs) := fun l k x0 x1 hll => by
    obtain ⟨gs, e⟩ := lcRun_map (t := .nm 3) (g := k) (ef := fun δ2 => G.eval ga_Never_init (.toL (.var 3)) δ2) (δ := wipeD [x0, x1, .sh (eIs l) k, .no] (Tg.nm 3).sl) (f := eI) (y := eI) l
      (fun h _ => ⟨_, rfl, true, by simp [G.eval, wipeD, Tg.sl, eI, flats_int]⟩)
    exact ⟨gs, eval_lc_of (by simp [evalI, G.eval, eIs]) (by rw [List.length_map]; omega) e⟩
  obtain ⟨gs, e⟩ := lcRun_map (t := .nm 2) (g := false) (ef := fun δ2 => G.eval ga_Never_init m_Never_init_1 δ2) (δ := wipeD [.no, .sh (.ls (L.map eIs)) false, .no, .no] (Tg.nm 2).sl) (f := eIs) (y := eIs) L
    (fun l hl => by
      obtain ⟨gs, e⟩ := inner l false .no (.sh (.ls (L.map eIs)) false) (hL l hl)
      exact ⟨_, rfl, gs, e⟩)
  have e1 : G.eval ga_Never_init m_Never_init_2 [.no, .sh (.ls (L.map eIs)) false, .no, .no] = some (.ls (L.map eIs), true, gs) := eval_lc_of (by simp [evalI, G.eval]) (by rw [List.length_map]; omega) e
  show (match evalF ga_Never_init c_Never_init (stI 4 [.ls (L.map eIs)]) with
    | some (xs, _) => if (trF ga_Never_init c_Never_init xs && D.tflats xs) = true then some xs else none
    | none => none) = _
  have e2 : stI 4 [.ls (L.map eIs)] = [.no, .sh (.ls (L.map eIs)) false, .no, .no] := rfl
  have e3 : trOk ga_Never_init m_Never_init_2 (.ls (L.map eIs)) = true := by
    show ((L.map eIs).all fun d => trOk ga_Never_init m_Never_init_1 d) = true
    rw [List.all_eq_true]
    intro d hd
    obtain ⟨l, _, rfl⟩ := List.mem_map.mp hd
    show ((l.map eI).all fun d => trOk ga_Never_init (.toL (.var 3)) d) = true
    rw [List.all_eq_true]
    intro d hd
    obtain ⟨h, _, rfl⟩ := List.mem_map.mp hd
    exact leaf_ints h
  have e4 : D.tflats [.ls (L.map eIs)] = true := by
    simp only [D.tflats, D.tflat, Bool.and_true]
    refine tflats_of fun d hd => ?_
    obtain ⟨l, _, rfl⟩ := List.mem_map.mp hd
    simp only [eIs, D.tflat]
    exact tflats_of fun d hd => by
      obtain ⟨h, _, rfl⟩ := List.mem_map.mp hd
      exact tflat_eI h
  simp [evalF, c_Never_init, e2, e1, trF, e3, e4]
theorem never_mk (L : List (List (List Nat))) (hL : ∀ l ∈ L, l.length ≤ 1000) (hl : L.length ≤ 1000) : nd_Never.run [.ls (L.map eLs)] = some [.ls (L.map eLs)] := by
  have := never_mkI (L.map fun l => l.map fun h => h.map fun (m : Nat) => (m : Int)) (fun l hl => by
    obtain ⟨l', h', rfl⟩ := List.mem_map.mp hl
    simpa using hL l' h') (by simpa using hl)
  have e : (eIs ∘ fun l : List (List Nat) => l.map fun h => h.map fun (m : Nat) => (m : Int)) = eLs := funext fun l => by
    show eIs _ = eLs l
    unfold eIs eLs
    rw [List.map_map, show (eI ∘ fun h : List Nat => h.map fun (m : Nat) => (m : Int)) = eH from funext fun h => (eH_eI h).symm]
  rwa [List.map_map, e] at this
theorem leads_mkI (a b : Int) (l m : List Int) : nd_Leads.run [.int a, eI l, .int b, eI m] = some [.int a, eI l, .int b, eI m] := by
  show (match evalF ga_Leads_init c_Leads_init (stI 5 [.int a, eI l, .int b, eI m]) with
    | some (xs, _) => if (trF ga_Leads_init c_Leads_init xs && D.tflats xs) = true then some xs else none
    | none => none) = _
  have e : ∀ l : List Int, (eI l).tflat = true := tflat_eI
  simp only [eI] at e
  simp [evalF, c_Leads_init, G.stI, st0, G.eval, eI, flats_int, trF, trOk, D.leaf, leaf_ints, D.tflats, e]
  simp [D.tflat]
theorem leads_mk (a b : Int) (l m : List Nat) : nd_Leads.run [.int a, eH l, .int b, eH m] = some [.int a, eH l, .int b, eH m] := by
  rw [eH_eI, eH_eI]
  exact leads_mkI a b _ _
/-! judged -/
theorem is_showing_run (s : Sg) (n : Nat) : fd_is_showing.run [eS s, .int (n : Int)] = some (.bl (decide (s.said ≤ n))) := by
  show endOf false (G.exec ga_is_showing c_is_showing (st0 2 [eS s, .int (n : Int)])) = _
  have c1 : (0 : Int) ≤ (s.said : Int) := by omega
  by_cases h : s.said ≤ n
  · have c2 : (s.said : Int) ≤ (n : Int) := by omega
    simp [c_is_showing, G.exec, G.eval, evalA, st0, isTst, isT, eS, eqok_okn, okn_int, eqv_int, atI_0, atI_1, atI_2, ix_is_showing_is_count, ix_is_showing_is_whole, ar_is_count, fr_is_count, ar_is_whole, fr_is_whole, is_count_int, is_whole_int, D.flat, c1, c2, h, endOf]
  · have c2 : ¬ (s.said : Int) ≤ (n : Int) := by omega
    simp [c_is_showing, G.exec, G.eval, evalA, st0, isTst, isT, eS, eqok_okn, okn_int, eqv_int, atI_0, atI_1, atI_2, ix_is_showing_is_count, ix_is_showing_is_whole, ar_is_count, fr_is_count, ar_is_whole, fr_is_whole, is_count_int, is_whole_int, D.flat, c1, c2, h, endOf]
structure SOk (notes : List (List Wd)) (hand : Nat) (shown : List Sg) : Prop where
  l5 : shown.length ≤ 5
  sd : ∀ s ∈ shown, ∀ ws, notes[hand]? = some ws → s.said ≤ ws.length
  up : ∀ p ∈ shown.zip (shown.drop 1), p.1.said ≤ p.2.said
theorem lf_lk {notes : List (List Wd)} (hn : NOk notes) {hand : Nat} (hh : hand < notes.length) : ∀ (shown : List Sg) (pv : Option (List (List Nat))), (∀ (i : Nat) a b, (lf notes hand pv shown)[i]? = some a → (lf notes hand pv shown)[i + 1]? = some b → ∀ x ∈ b, ∃ p ∈ a, leL p x = true) ∧ (∀ l ∈ lf notes hand pv shown, l.length ≤ 343 ∧ ∀ x ∈ l, x.length = notes.length) ∧ (lf notes hand pv shown).length = shown.length
  | [], pv => by simp [lf]
  | s :: r, pv => by
    obtain ⟨h1, h2, h3⟩ := lf_lk hn hh r (some (nxt notes hand pv s))
    refine ⟨fun i a b ha hb => ?_, fun l hl => ?_, by simp [lf, h3]⟩
    · simp only [lf] at ha hb
      cases i with
      | zero =>
        simp at ha
        subst ha
        cases r with
        | nil => simp [lf] at hb
        | cons s2 r =>
          simp [lf] at hb
          subst hb
          intro x hx
          exact ((nxt_some hh).mp hx).2
      | succ i =>
        rw [List.getElem?_cons_succ] at ha hb
        exact h1 i a b ha hb
    · simp only [lf] at hl
      rcases List.mem_cons.mp hl with rfl | hl
      · exact nxt_bounds hn hand pv s
      · exact h2 l hl
theorem lastNE_get : ∀ (L : List (List (List Nat))) (pv : Option (List (List Nat))), L ≠ [] → (lastNE pv L ↔ ∃ l, L.getLast? = some l ∧ l ≠ [])
  | [], _, h => absurd rfl h
  | [l], pv, _ => by simp [lastNE]
  | l :: m :: r, pv, _ => by
    simp only [lastNE]
    have := lastNE_get (m :: r) (some l) (by simp)
    simp only [lastNE] at this
    rw [this, List.getLast?_cons_cons]
section
variable {notes : List (List Wd)} (hn : NOk notes) {hand : Nat} (hh : hand < notes.length) {shown : List Sg} (hs : SOk notes hand shown)
include hn hh hs
theorem judged_pre (x3 x4 x5 : Sl) : ∀ z, G.exec ga_judged (.seq (.asg (.nm 3) (.call 18 (.cons (.var 0) (.cons (.var 1) (.cons (.var 2) .nil))))) (.seq (.ret (.ite (.and (.ne (.var 3) (.lst .nil)) (.eq (.ix (.var 3) (.neg (.int 1))) (.lst .nil))) (.new 2 (.cons (.var 3) .nil)) (.new 1 (.cons (.call 19 (.cons (.var 3) .nil)) .nil)))) .nil)) [.sh (eN notes) false, .sh (.int (hand : Int)) false, .sh (.ls (shown.map eS)) false, .no, .no, .no] = some z →
    G.exec ga_judged c_judged (st0 6 [eN notes, .int (hand : Int), .ls (shown.map eS)]) = some z := by
  intro z hz
  have hw : ∃ ws, notes[hand]? = some ws := ⟨_, List.getElem?_eq_getElem hh⟩
  obtain ⟨ws, hws⟩ := hw
  have hix : atI (notes.map eL) (hand : Int) = some (eL ws) := G.atI_nat (by rw [List.getElem?_map, hws]; rfl)
  have s0 : st0 6 [eN notes, .int (hand : Int), .ls (shown.map eS)] = [.sh (eN notes) false, .sh (.int (hand : Int)) false, .sh (.ls (shown.map eS)) false, .no, .no, .no] := rfl
  rw [s0]
  have h5 := hs.l5
  refine exec_nx (exec_exp_of (r := (.non, true, true)) ?_) ?_
  · simp [G.eval, evalA, ix_judged_check_notes, ar_check_notes, fr_check_notes, check_notes_run hn, D.flat]
  refine exec_nx (exec_exp_of (r := (.non, true, true)) ?_) ?_
  · have := check_hand_run hh
    simp [G.eval, evalA, eN, ix_judged_check_hand, ar_check_hand, fr_check_hand, this, D.flat]
  refine exec_nx (δ1 := [.sh (eN notes) false, .sh (.int (hand : Int)) false, .sh (.ls (shown.map eS)) false, .no, .no, .no]) ?_ ?_
  · have c : ¬ (5 : Int) < (shown.length : Int) := by omega
    refine (exec_ite_f (f := true) (g := true) rfl ?_).trans rfl
    simp [G.eval, isT, Co.f, c]
  refine exec_nx (δ1 := [.sh (eN notes) false, .sh (.int (hand : Int)) false, .sh (.ls (shown.map eS)) false, .no, .no, .no]) ?_ ?_
  · obtain ⟨L, gs, e, b⟩ := lcRun_bls (t := .nm 4) (g := false) (ef := fun δ2 => G.eval ga_judged (.call 17 (.cons (.var 4) (.cons (.len (.ix (.var 0) (.var 1))) .nil))) δ2) (δ := wipeD [.sh (eN notes) false, .sh (.int (hand : Int)) false, .sh (.ls (shown.map eS)) false, .no, .no, .no] (Tg.nm 4).sl) (f := eS) (p := fun _ => true) shown
      (fun s hs1 => ⟨_, rfl, true, by
        have c := hs.sd s hs1 ws hws
        have r := is_showing_run s ws.length
        rw [decide_eq_true c] at r
        simp [G.eval, evalA, wipeD, Tg.sl, eN, hix, ix_judged_is_showing, ar_is_showing, fr_is_showing, D.flat]
        simp [eL, r]⟩)
    have e2 : G.eval ga_judged m_judged_1 [.sh (eN notes) false, .sh (.int (hand : Int)) false, .sh (.ls (shown.map eS)) false, .no, .no, .no] = some (.ls L, true, gs) := eval_lc_of (by simp [evalI, G.eval]) (by rw [List.length_map]; omega) e
    refine (exec_ite_f (f := true) (g := true) rfl ?_).trans rfl
    simp [G.eval, e2, b, all_trues, all_tt]
  refine exec_nx (δ1 := [.sh (eN notes) false, .sh (.int (hand : Int)) false, .sh (.ls (shown.map eS)) false, .no, .no, .no]) ?_ hz
  obtain ⟨L, gs, e, b⟩ := lcRun_bls (t := .t2 (.nm 4) (.nm 5)) (g := false) (ef := fun δ2 => G.eval ga_judged (.cmp .gt (.ix (.var 4) (.int 0)) (.ix (.var 5) (.int 0))) δ2) (δ := wipeD [.sh (eN notes) false, .sh (.int (hand : Int)) false, .sh (.ls (shown.map eS)) false, .no, .no, .no] (Tg.t2 (.nm 4) (.nm 5)).sl) (f := fun p : Sg × Sg => .tp [eS p.1, eS p.2]) (p := fun _ => false) (shown.zip (shown.drop 1))
    (fun p hp => ⟨_, rfl, true, by
      have c := hs.up p hp
      have c2 : ¬ ((p.2.said : Int) < (p.1.said : Int)) := by omega
      simp [G.eval, wipeD, Tg.sl, eS, atI_0, Co.f, c2]⟩)
  have e1 : evalI ga_judged (.itZ (.var 2) (.sl (.var 2) (.cons (.int 1) .nil) .nil)) [.sh (eN notes) false, .sh (.int (hand : Int)) false, .sh (.ls (shown.map eS)) false, .no, .no, .no] = some ((shown.zip (shown.drop 1)).map fun p : Sg × Sg => .tp [eS p.1, eS p.2], false) := by
    have c := cut_drop (shown.map eS) 1
    rw [show ((1 : Nat) : Int) = 1 from rfl, ← List.map_drop] at c
    have ev : G.eval ga_judged (.sl (.var 2) (.cons (.int 1) .nil) .nil) [.sh (eN notes) false, .sh (.int (hand : Int)) false, .sh (.ls (shown.map eS)) false, .no, .no, .no] = some (.ls ((shown.drop 1).map eS), true, false) := by
      simp only [G.eval, evalO, List.getElem?_cons_succ, List.getElem?_cons_zero, Bool.true_or]
      rw [c]
    unfold evalI
    rw [ev]
    simp only [G.eval, List.getElem?_cons_succ, List.getElem?_cons_zero, Bool.and_self, zipD_map]
  have e2 : G.eval ga_judged m_judged_2 [.sh (eN notes) false, .sh (.int (hand : Int)) false, .sh (.ls (shown.map eS)) false, .no, .no, .no] = some (.ls L, true, gs) := eval_lc_of e1 (by rw [List.length_map, List.length_zip]; omega) e
  refine (exec_ite_f (f := true) (g := true) rfl ?_).trans rfl
  have af : (((shown.zip (shown.drop 1)).map fun _ => false).any id) = false := by
    rw [any_map_id]
    simp
  simp only [G.eval, e2, b, af]
theorem judged_run : ∃ d, fd_judged.run [eN notes, .int (hand : Int), .ls (shown.map eS)] = some d ∧
    ((Gd notes hand none shown ∧ ∃ hs : List (List Nat), d = .ob 2 [.ls (hs.map eH)] ∧ hs.length = shown.length ∧ (∀ (i : Nat) h s, hs[i]? = some h → shown[i]? = some s → Fit notes hand s h) ∧ (∀ (i : Nat) h k, hs[i]? = some h → hs[i + 1]? = some k → leL h k = true)) ∨
     (¬ Gd notes hand none shown ∧ d = .ob 3 [.ls ((lf notes hand none shown).map eLs)])) := by
  have h3 := hn.l3
  have h5 := hs.l5
  obtain ⟨k1, k2, k3⟩ := lf_lk hn hh shown none
  have lk : Lk (lf notes hand none shown) := ⟨k1, fun l hl x hx => by rw [(k2 l hl).2 x hx]; omega, fun l hl => (k2 l hl).1, by omega⟩
  have e1 : G.eval ga_judged (.call 18 (.cons (.var 0) (.cons (.var 1) (.cons (.var 2) .nil)))) [.sh (eN notes) false, .sh (.int (hand : Int)) false, .sh (.ls (shown.map eS)) false, .no, .no, .no] = some (.ls ((lf notes hand none shown).map eLs), true, false) := by
    simp [G.eval, evalA, ix_judged_lists_of, ar_lists_of, fr_lists_of, lists_of_run hn hand shown h5, D.flat]
  have ne : G.eval ga_judged (.ne (.var 3) (.lst .nil)) [.sh (eN notes) false, .sh (.int (hand : Int)) false, .sh (.ls (shown.map eS)) false, .sh (.ls ((lf notes hand none shown).map eLs)) false, .no, .no] = some (.bl (!decide ((lf notes hand none shown).map eLs = [])), true, true) := by
    simp [G.eval, evalA, eqok_okn, okn_eLss 61, okn_nil 63, eqv_nil _ (nb_eLss _)]
  have fin : ∀ d, G.eval ga_judged (.ite (.and (.ne (.var 3) (.lst .nil)) (.eq (.ix (.var 3) (.neg (.int 1))) (.lst .nil))) (.new 2 (.cons (.var 3) .nil)) (.new 1 (.cons (.call 19 (.cons (.var 3) .nil)) .nil))) [.sh (eN notes) false, .sh (.int (hand : Int)) false, .sh (.ls (shown.map eS)) false, .sh (.ls ((lf notes hand none shown).map eLs)) false, .no, .no] = some (d, true, true) → fd_judged.run [eN notes, .int (hand : Int), .ls (shown.map eS)] = some d := fun d hev => by
    show endOfT true (G.exec ga_judged c_judged (st0 6 [eN notes, .int (hand : Int), .ls (shown.map eS)])) = _
    rw [judged_pre hn hh hs .no .no .no _ (exec_nx (exec_asg_of e1) (exec_rt (exec_ret_of hev)))]
    rfl
  have hist : ∀ (hne : lf notes hand none shown = [] ∨ ∃ l, (lf notes hand none shown).getLast? = some l ∧ l ≠ []), G.eval ga_judged (.and (.ne (.var 3) (.lst .nil)) (.eq (.ix (.var 3) (.neg (.int 1))) (.lst .nil))) [.sh (eN notes) false, .sh (.int (hand : Int)) false, .sh (.ls (shown.map eS)) false, .sh (.ls ((lf notes hand none shown).map eLs)) false, .no, .no] = some (.bl false, true, true) →
      ∃ hs : List (List Nat), fd_judged.run [eN notes, .int (hand : Int), .ls (shown.map eS)] = some (.ob 2 [.ls (hs.map eH)]) ∧ hs.length = shown.length ∧ (∀ (i : Nat) h l, hs[i]? = some h → (lf notes hand none shown)[i]? = some l → h ∈ l) ∧ (∀ (i : Nat) h k, hs[i]? = some h → hs[i + 1]? = some k → leL h k = true) := fun hne hc => by
    obtain ⟨hs', r, hl, hm, hch⟩ := history_of_run lk hne
    refine ⟨hs', fin _ ?_, by omega, hm, hch⟩
    refine (eval_ite_f rfl hc).trans ?_
    have hm2 := history_mk hs' (by omega)
    simp [G.eval, evalA, ix_judged_history_of, ar_history_of, fr_history_of, r, nx_judged_History, nr_History, nf_History, cl_History, hm2, D.flat]
  have fit_of : ∀ (hs' : List (List Nat)), (∀ (i : Nat) h l, hs'[i]? = some h → (lf notes hand none shown)[i]? = some l → h ∈ l) → ∀ (i : Nat) h s, hs'[i]? = some h → shown[i]? = some s → Fit notes hand s h := by
    intro hs' hm i h s h1 h2
    have key : ∀ (shown : List Sg) (pv : Option (List (List Nat))) (i : Nat) (s : Sg), shown[i]? = some s → ∃ l, (lf notes hand pv shown)[i]? = some l ∧ ∀ h ∈ l, Fit notes hand s h := by
      intro shown
      induction shown with
      | nil => intro pv i s k; simp at k
      | cons s0 r ih =>
        intro pv i s k
        cases i with
        | zero =>
          simp at k
          subst k
          refine ⟨_, rfl, fun h hh' => ?_⟩
          cases pv with
          | none => exact (nxt_none hh).mp hh'
          | some l => exact ((nxt_some hh).mp hh').1
        | succ i =>
          simp only [lf, List.getElem?_cons_succ] at k ⊢
          exact ih _ i s k
    obtain ⟨l, hl, hf⟩ := key shown none i s h2
    exact hf h (hm i h l h1 hl)
  by_cases hnil : lf notes hand none shown = []
  · have hz : shown = [] := by
      have := k3
      rw [hnil] at this
      exact List.length_eq_zero_iff.mp this.symm
    have hc : G.eval ga_judged (.and (.ne (.var 3) (.lst .nil)) (.eq (.ix (.var 3) (.neg (.int 1))) (.lst .nil))) [.sh (eN notes) false, .sh (.int (hand : Int)) false, .sh (.ls (shown.map eS)) false, .sh (.ls ((lf notes hand none shown).map eLs)) false, .no, .no] = some (.bl false, true, true) := by
      unfold G.eval
      rw [ne, decide_eq_true (by rw [hnil]; rfl)]
      rfl
    obtain ⟨hs', r, h1, h2, h3⟩ := hist (.inl hnil) hc
    exact ⟨_, r, .inl ⟨by rw [hz]; trivial, hs', rfl, h1, fit_of hs' h2, h3⟩⟩
  · obtain ⟨l, hl⟩ : ∃ l, (lf notes hand none shown).getLast? = some l := by
      cases z : (lf notes hand none shown).getLast? with
      | none => exact absurd (List.getLast?_eq_none_iff.mp z) hnil
      | some l => exact ⟨l, rfl⟩
    have nz : (lf notes hand none shown).map eLs ≠ [] := fun z => hnil (List.map_eq_nil_iff.mp z)
    obtain ⟨ys, hys⟩ := List.getLast?_eq_some_iff.mp hl
    have a : atI ((lf notes hand none shown).map eLs) (-1) = some (eLs l) := by
      rw [hys, List.map_append]
      exact atI_last
    have hc : G.eval ga_judged (.and (.ne (.var 3) (.lst .nil)) (.eq (.ix (.var 3) (.neg (.int 1))) (.lst .nil))) [.sh (eN notes) false, .sh (.int (hand : Int)) false, .sh (.ls (shown.map eS)) false, .sh (.ls ((lf notes hand none shown).map eLs)) false, .no, .no] = some (.bl (decide (l.map eH = [])), true, true) := by
      have e4 : G.eval ga_judged (.eq (.ix (.var 3) (.neg (.int 1))) (.lst .nil)) [.sh (eN notes) false, .sh (.int (hand : Int)) false, .sh (.ls (shown.map eS)) false, .sh (.ls ((lf notes hand none shown).map eLs)) false, .no, .no] = some (.bl (decide (l.map eH = [])), true, true) := by
        have nbl : D.nbs (l.map eH) = true := by
          have := nb_eHs l
          simpa only [D.nb] using this
        simp only [G.eval, evalA, List.getElem?_cons_succ, List.getElem?_cons_zero, List.length_nil, Nat.zero_le, if_true]
        rw [a]
        dsimp only
        rw [eqok_okn, eqok_okn, okn_eLs 62, okn_nil 63]
        unfold eLs
        rw [eqv_nil _ nbl]
        rfl
      unfold G.eval
      rw [ne, decide_eq_false nz]
      exact e4
    have last := lastNE_none hh shown
    rw [lastNE_get _ _ hnil] at last
    by_cases hle : l = []
    · subst hle
      refine ⟨.ob 3 [.ls ((lf notes hand none shown).map eLs)], fin _ ?_, .inr ⟨fun g => ?_, rfl⟩⟩
      · refine (eval_ite_t rfl hc).trans ?_
        have nm := never_mk (lf notes hand none shown) (fun l hl => by have := (k2 l hl).1; omega) (by omega)
        simp [G.eval, evalA, nx_judged_Never, nr_Never, nf_Never, cl_Never, nm]
      · obtain ⟨l', h1, h2⟩ := last.mpr g
        rw [hl] at h1
        cases h1
        exact h2 rfl
    · have hc2 := hc
      rw [decide_eq_false (fun z => hle (List.map_eq_nil_iff.mp z))] at hc2
      obtain ⟨hs', r, h1, h2, h3⟩ := hist (.inr ⟨l, hl, hle⟩) hc2
      exact ⟨_, r, .inl ⟨last.mp ⟨l, hl, hle⟩, hs', rfl, h1, fit_of hs' h2, h3⟩⟩
end
end K09

namespace K09
open PySem G L2 Sh
/-! leads -/
def ld (notes : List (List Wd)) (h : List Nat) : Int := sc false notes h - sc true notes h
def eP (notes : List (List Wd)) (h : List Nat) : D := .tp [.int (ld notes h), eH h]
theorem eH_ints (h : List Nat) : eH h = .ls ((h.map fun (m : Nat) => (m : Int)).map D.int) := by
  unfold eH
  rw [List.map_map]
  rfl
theorem isPr_eP (notes : List (List Wd)) (h : List Nat) : isPr (eP notes h) = true := by
  unfold eP
  rw [eH_ints]
  simp only [isPr]
  rw [intsOf_map]
  rfl
structure LdOk (notes : List (List Wd)) (hand said : Nat) (a : Int) (low : List Nat) (b : Int) (high : List Nat) : Prop where
  vl : Va notes hand said low
  vh : Va notes hand said high
  el : ld notes low = a
  eh : ld notes high = b
  lo : ∀ h, Va notes hand said h → a ≤ ld notes h
  hi : ∀ h, Va notes hand said h → ld notes h ≤ b
section
variable {notes : List (List Wd)} (hn : NOk notes) {hand : Nat} (hh : hand < notes.length) {said : Nat}
include hn hh
theorem ah_ne (hs : ∀ ws, notes[hand]? = some ws → said ≤ ws.length) : ah notes hand said ≠ [] := by
  have key : Va notes hand said ((notes.map fun _ => 0).set hand said) := by
    refine ⟨by simp, fun p hp => ?_, by rw [List.getElem?_set_self (by simpa using hh)]⟩
    obtain ⟨i, hi⟩ := List.mem_iff_getElem?.mp hp
    rw [List.getElem?_zip_eq_some] at hi
    obtain ⟨h1, h2⟩ := hi
    by_cases e : hand = i
    · subst e
      rw [List.getElem?_set_self (by simpa using hh)] at h2
      cases h2
      exact hs _ h1
    · rw [List.getElem?_set_ne e, List.getElem?_map, h1] at h2
      simp at h2
      omega
  have := (mem_ah hh).mpr key
  intro z
  rw [z] at this
  simp at this
theorem leads_run (hs : ∀ ws, notes[hand]? = some ws → said ≤ ws.length) : ∃ a low b high, fd_leads.run [eN notes, .int (hand : Int), .int (said : Int)] = some (.ob 4 [.int a, eH low, .int b, eH high]) ∧ LdOk notes hand said a low b high := by
  have hw : ∃ ws, notes[hand]? = some ws := ⟨_, List.getElem?_eq_getElem hh⟩
  obtain ⟨ws, hws⟩ := hw
  have hix : atI (notes.map eL) (hand : Int) = some (eL ws) := G.atI_nat (by rw [List.getElem?_map, hws]; rfl)
  have al := ah_len (hand := hand) (said := said) hn.w6 hn.l3
  obtain ⟨x, r, hxr⟩ := List.exists_cons_of_ne_nil (ah_ne hn hh hs)
  -- the loop
  obtain ⟨δ', e, g', y4, y7, y8, rfl, _⟩ := forRun_fold (t := .nm 4) (g := false) (ex := fun δ => G.exec ga_leads l_leads_1 δ) (f := eH) (up := fun (l : List (List Nat)) (h : List Nat) => l ++ [h])
    (fun j (l : List (List Nat)) δ => ∃ g' y4 y7 y8, δ = [.sh (eN notes) false, .sh (.int (hand : Int)) false, .sh (.int (said : Int)) false, .ow (l.map (eP notes)) g', y4, .no, .no, y7, y8] ∧ l.length = j) (ah notes hand said) 0 [] _ ⟨true, .no, .no, .no, rfl, rfl⟩ (by
      rintro j h l δ hj ⟨g', y4, y7, y8, rfl, hl⟩
      have hj' : j < (ah notes hand said).length := (List.getElem?_eq_some_iff.mp hj).1
      have e1 : G.exec ga_leads (.asg (.t2 (.nm 7) (.nm 8)) (.call 5 (.cons (.var 0) (.cons (.var 4) .nil)))) [.sh (eN notes) false, .sh (.int (hand : Int)) false, .sh (.int (said : Int)) false, .ow (l.map (eP notes)) g', .sh (eH h) false, .no, .no, y7, y8] = some (.nx [.sh (eN notes) false, .sh (.int (hand : Int)) false, .sh (.int (said : Int)) false, .ow (l.map (eP notes)) g', .sh (eH h) false, .no, .no, .sh (.int (sc false notes h)) true, .sh (.int (sc true notes h)) true]) := by
        simp [G.exec, G.eval, evalA, ix_leads_score_of, ar_score_of, fr_score_of, score_of_run, Tg.run, D.flat]
      have e2 : G.eval ga_leads (.tup (.cons (.bin .sub (.var 7) (.var 8)) (.cons (.var 4) .nil))) [.sh (eN notes) false, .sh (.int (hand : Int)) false, .sh (.int (said : Int)) false, .ow (l.map (eP notes)) g', .sh (eH h) false, .no, .no, .sh (.int (sc false notes h)) true, .sh (.int (sc true notes h)) true] = some (eP notes h, true, false) := by
        simp [G.eval, evalA, Bo.run, eP, ld]
      have e5 := exec_app_of (i := 3) (ds := l.map (eP notes)) (g := g') rfl e2 (by rw [List.length_map]; omega)
      refine ⟨_, _, rfl, exec_nx e1 (exec_nx e5 rfl), g' && (false || (eP notes h).flat), .sh (eH h) false, .sh (.int (sc false notes h)) true, .sh (.int (sc true notes h)) true, ?_, by simp; omega⟩
      rw [show l.map (eP notes) ++ [eP notes h] = (l ++ [h]).map (eP notes) by rw [List.map_append]; rfl]
      rfl)
  have fe : ∀ (l acc : List (List Nat)), l.foldl (fun (l : List (List Nat)) (h : List Nat) => l ++ [h]) acc = acc ++ l := by
    intro l
    induction l with
    | nil => intro acc; simp
    | cons s l ih => intro acc; rw [List.foldl_cons, ih]; simp
  rw [fe, List.nil_append, hxr, List.map_cons] at e
  have ap : ∀ d ∈ eP notes x :: r.map (eP notes), isPr d = true := fun d hd => by
    rw [← List.map_cons] at hd
    obtain ⟨h, _, rfl⟩ := List.mem_map.mp hd
    exact isPr_eP notes h
  have mm : mmOk (eP notes x :: r.map (eP notes)) = true := by
    unfold mmOk
    rw [Bool.or_eq_true]
    exact .inr (List.all_eq_true.mpr ap)
  have lm := minF_mem (r.map (eP notes)) (eP notes x)
  have hm := maxF_mem (r.map (eP notes)) (eP notes x)
  rw [← List.map_cons, ← hxr] at lm hm
  obtain ⟨low, hlow, el⟩ := List.mem_map.mp lm
  obtain ⟨high, hhigh, eh⟩ := List.mem_map.mp hm
  have ll := minF_least (r.map (eP notes)) (eP notes x) ap
  have lh := maxF_most (r.map (eP notes)) (eP notes x) ap
  rw [← List.map_cons, ← hxr] at ll lh
  rw [← el] at ll
  rw [← eh] at lh
  have fs : ∀ h, fstI (eP notes h) = ld notes h := fun h => rfl
  refine ⟨ld notes low, low, ld notes high, high, ?_, (mem_ah hh).mp hlow, (mem_ah hh).mp hhigh, rfl, rfl, fun h hv => ?_, fun h hv => ?_⟩
  · show endOfT true (G.exec ga_leads c_leads (st0 9 [eN notes, .int (hand : Int), .int (said : Int)])) = _
    have s0 : st0 9 [eN notes, .int (hand : Int), .int (said : Int)] = [.sh (eN notes) false, .sh (.int (hand : Int)) false, .sh (.int (said : Int)) false, .no, .no, .no, .no, .no, .no] := rfl
    rw [s0]
    refine Eq.trans (congrArg (endOfT _) (exec_nx (exec_exp_of (r := (.non, true, true)) ?_) (exec_nx (exec_exp_of (r := (.non, true, true)) ?_) (exec_nx (δ1 := [.sh (eN notes) false, .sh (.int (hand : Int)) false, .sh (.int (said : Int)) false, .no, .no, .no, .no, .no, .no]) ?_ (exec_nx (δ1 := [.sh (eN notes) false, .sh (.int (hand : Int)) false, .sh (.int (said : Int)) false, .ow [] true, .no, .no, .no, .no, .no]) ?_ (exec_nx (exec_loop_of (ds := (ah notes hand said).map eH) (g := false) ?_ (by rw [hxr]; exact e)) rfl)))))) ?_
    · simp [G.eval, evalA, ix_leads_check_notes, ar_check_notes, fr_check_notes, check_notes_run hn, D.flat]
    · have := check_hand_run hh
      simp [G.eval, evalA, eN, ix_leads_check_hand, ar_check_hand, fr_check_hand, this, D.flat]
    · refine (exec_ite_f (f := true) (g := true) rfl ?_).trans rfl
      have c := hs ws hws
      have c1 : (0 : Int) ≤ (said : Int) := by omega
      have c2 : (said : Int) ≤ (ws.length : Int) := by omega
      simp [G.eval, evalA, eN, hix, ix_leads_is_count, ar_is_count, fr_is_count, D.flat]
      simp [eL, is_count_int, c1, c2]
    · exact exec_own_of rfl (by simp [G.eval, evalA])
    · simp [evalI, G.eval, evalA, ix_leads_all_heard, ar_all_heard, fr_all_heard, all_heard_run hn, D.flat]
    · have e6 : G.eval ga_leads (.minL (.var 3)) [.sh (eN notes) false, .sh (.int (hand : Int)) false, .sh (.int (said : Int)) false, .sh (.ls (eP notes x :: r.map (eP notes))) g', y4, .no, .no, y7, y8] = some (eP notes low, true, g') := by
        simp [G.eval, mm, el]
      have e7 : G.eval ga_leads (.maxL (.var 3)) [.sh (eN notes) false, .sh (.int (hand : Int)) false, .sh (.int (said : Int)) false, .sh (.ls (eP notes x :: r.map (eP notes))) g', y4, .no, .no, y7, y8] = some (eP notes high, true, g') := by
        simp [G.eval, mm, eh]
      have lk : ∀ (a b : Int) (l m : List Nat), nd_Leads.run [.int a, eH l, .int b, eH m] = some [.int a, eH l, .int b, eH m] := leads_mk
      simp [G.exec, slotOf, e6, e7, fe, hxr]
      simp [G.eval, evalA, eP, atI_0, atI_1, nx_leads_Leads, nr_Leads, nf_Leads, cl_Leads, lk, endOfT]
  · rw [← fs, ← fs]
    exact ll (eP notes h) (List.mem_map.mpr ⟨h, (mem_ah hh).mpr hv, rfl⟩)
  · rw [← fs, ← fs]
    exact lh (eP notes h) (List.mem_map.mpr ⟨h, (mem_ah hh).mpr hv, rfl⟩)
theorem score_run {h : List Nat} (hv : Va notes hand said h) : fd_score.run [eN notes, eH h] = some (.tp [.int (sc false notes h), .int (sc true notes h)]) := by
  show endOf false (G.exec ga_score c_score (st0 3 [eN notes, eH h])) = _
  have h3 := hn.l3
  have hl := hv.1
  have s0 : st0 3 [eN notes, eH h] = [.sh (eN notes) false, .sh (eH h) false, .no] := rfl
  rw [s0]
  obtain ⟨L, gs, e, b⟩ := lcRun_bls (t := .nm 2) (g := false) (ef := fun δ2 => G.eval ga_score (.call 0 (.cons (.var 2) .nil)) δ2) (δ := wipeD [.sh (eN notes) false, .sh (eH h) false, .no] (Tg.nm 2).sl) (f := fun (m : Nat) => D.int (m : Int)) (p := fun _ => true) h
    (fun m _ => ⟨_, rfl, true, by simp [G.eval, evalA, wipeD, Tg.sl, ix_score_is_whole, ar_is_whole, fr_is_whole, is_whole_int, D.flat]⟩)
  have e2 : G.eval ga_score m_score_1 [.sh (eN notes) false, .sh (eH h) false, .no] = some (.ls L, true, gs) := eval_lc_of (by simp [evalI, G.eval, eH]) (by rw [List.length_map]; omega) e
  have ih := is_heard_run h3 hl
  rw [show ((notes.zip h).all fun p => decide (p.2 ≤ p.1.length)) = true from List.all_eq_true.mpr fun p hp => by simpa using hv.2.1 p hp] at ih
  refine Eq.trans (congrArg (endOf _) (exec_nx (exec_exp_of (r := (.non, true, true)) ?_) (exec_nx (δ1 := [.sh (eN notes) false, .sh (eH h) false, .no]) ?_ (exec_rt (exec_ret_of (r := (.tp [.int (sc false notes h), .int (sc true notes h)], true, true)) ?_))))) rfl
  · simp [G.eval, evalA, ix_score_check_notes, ar_check_notes, fr_check_notes, check_notes_run hn, D.flat]
  · refine (exec_ite_f (f := true) (g := true) rfl ?_).trans rfl
    have it : isT .list (eH h) = some true := rfl
    simp [G.eval, evalA, it, e2, b, all_trues, all_tt, ix_score_is_heard, ar_is_heard, fr_is_heard, ih, D.flat]
  · simp [G.eval, evalA, ix_score_score_of, ar_score_of, fr_score_of, score_of_run, D.flat]
end
end K09

namespace K09
open PySem G L2 Sh
theorem cell_at_run (ns : List Int) (k : Nat) : fd__law_cell_at.run [.ls (ns.map D.int), .int (k : Int)] = some (.int (ns.getD k 0)) := by
  show endOf false (G.exec ga__law_cell_at c__law_cell_at (st0 2 [.ls (ns.map D.int), .int (k : Int)])) = _
  by_cases h : k < ns.length
  · have h2 : atI (ns.map D.int) (k : Int) = some (.int ns[k]) := G.atI_nat (by rw [List.getElem?_map, List.getElem?_eq_getElem h]; rfl)
    have h3 : (k : Int) < (ns.length : Int) := by omega
    simp [c__law_cell_at, G.exec, G.eval, st0, isTst, Co.f, h2, h3, endOf, h]
  · have h3 : ¬ (k : Int) < (ns.length : Int) := by omega
    simp [c__law_cell_at, G.exec, G.eval, st0, isTst, Co.f, h3, endOf, List.getElem?_eq_none (show ns.length ≤ k by omega)]
theorem draw_run (c k m : Int) (hk : 0 ≤ k) (hk2 : k ≤ 1000) (hm : 0 < m) : ∃ v, fd__law_draw.run [.int c, .int k, .int m] = some (.int v) ∧ 0 ≤ v ∧ v < m := by
  have h16 : k % 16 = 0 ∨ k % 16 = 1 ∨ k % 16 = 2 ∨ k % 16 = 3 ∨ k % 16 = 4 ∨ k % 16 = 5 ∨ k % 16 = 6 ∨ k % 16 = 7 ∨ k % 16 = 8 ∨ k % 16 = 9 ∨ k % 16 = 10 ∨ k % 16 = 11 ∨ k % 16 = 12 ∨ k % 16 = 13 ∨ k % 16 = 14 ∨ k % 16 = 15 := by omega
  have m1 : mulok c 48271 = true := mul_right (by decide)
  have m2 : mulok k 69621 = true := mul_right (by decide)
  have fin : ∀ z : Int, 0 ≤ z % m ∧ z % m < m := fun z => ⟨Int.emod_nonneg z (by omega), Int.emod_lt_of_pos z hm⟩
  have key : ∃ z, fd__law_draw.run [.int c, .int k, .int m] = some (.int (z % m)) := by
    show ∃ z, endOf false (G.exec ga__law_draw c__law_draw (st0 4 [.int c, .int k, .int m])) = _
    rcases h16 with h | h | h | h | h | h | h | h | h | h | h | h | h | h | h | h <;>
      exact ⟨_, by simp [c__law_draw, G.exec, G.eval, evalA, st0, Tg.run, Bo.run, m1, m2, h, atI, ixN, hm, endOf]; rfl⟩
  obtain ⟨z, e⟩ := key
  exact ⟨_, e, fin z⟩
theorem value_run (c t : Int) (hc : c.natAbs.log2 ≤ 1048580) (h0 : 0 ≤ t) (h9 : t ≤ 9) : ∃ v, fd__law_value.run [.int c, .int t] = some (.int v) ∧ 0 ≤ v := by
  have m3 : mulok 3 t = true := mul_left (by decide)
  have m4 : mulok 977 t = true := mul_left (by decide)
  have m5 : mulok 31 t = true := mul_left (by decide)
  by_cases hg : 10 ^ 18 ≤ c
  · refine ⟨(c - 10 ^ 18) % 10 ^ 40 / 2 ^ (3 * t).toNat, ?_, ?_⟩
    · show endOf false (G.exec ga__law_value c__law_value (st0 3 [.int c, .int t])) = _
      have hg' : (1000000000000000000 : Int) ≤ c := hg
      have hn : 0 ≤ 3 * t := by omega
      simp [c__law_value, G.exec, G.eval, evalA, st0, isTst, Bo.run, Co.f, hg', m3, hn, endOf]
    · refine Int.ediv_nonneg (Int.emod_nonneg _ (by decide)) ?_
      exact Int.le_of_lt (Int.pow_pos (by decide))
  · have s1 : (977 * t).natAbs.log2 ≤ 1048580 := Nat.le_trans (log2_small (m := 20) (by omega) (by decide)) (by decide)
    have s2 : (31 * t).natAbs.log2 ≤ 1048580 := Nat.le_trans (log2_small (m := 20) (by omega) (by decide)) (by decide)
    have s3 : (c + 977 * t).natAbs.log2 ≤ 1048581 := log2_add _ _ hc s1
    have s4 : (c + 31 * t).natAbs.log2 ≤ 1048581 := log2_add _ _ hc s2
    have s5 : (c + 31 * t + 5).natAbs.log2 ≤ 1048582 := log2_add _ _ s4 (by decide)
    have s6 : (c + 7).natAbs.log2 ≤ 1048581 := log2_add _ _ hc (by decide)
    have m6 : mulok (c + 977 * t) (c + 31 * t + 5) = true := mul_wide (by omega) (by omega)
    have m7 : mulok (c + 31 * t) (c + 7) = true := mul_wide (by omega) (by omega)
    obtain ⟨x, hx, x0, x1⟩ := draw_run ((c + 977 * t) * (c + 31 * t + 5)) (t % 9 + 1) 999983 (by omega) (by omega) (by decide)
    obtain ⟨y, hy, y0, y1⟩ := draw_run ((c + 31 * t) * (c + 7) + 977 * t) (t % 7 + 2) 1000003 (by omega) (by omega) (by decide)
    have m8 : mulok x 1000003 = true := mul_right (by decide)
    have hg' : ¬ (1000000000000000000 : Int) ≤ c := hg
    refine ⟨x * 1000003 + y, ?_, by omega⟩
    show endOf false (G.exec ga__law_value c__law_value (st0 3 [.int c, .int t])) = _
    simp [c__law_value, G.exec, G.eval, evalA, st0, isTst, Bo.run, Co.f, hg', m3, m4, m5, m6, m7, m8, ix__law_value__law_draw, ar__law_draw, fr__law_draw, hx, hy, D.flat, Tg.run, endOf]
/-- a script's cells are not too wide -/
def Cells (ns : List Int) : Prop := ns.length ≤ 63 ∧ ∀ z ∈ ns, z.natAbs.log2 ≤ 1048577
theorem cell_log {ns : List Int} (h : Cells ns) (k : Nat) : (ns.getD k 0).natAbs.log2 ≤ 1048577 := by
  by_cases hk : k < ns.length
  · rw [List.getD_eq_getElem?_getD, List.getElem?_eq_getElem hk]
    exact h.2 _ (List.getElem_mem hk)
  · rw [List.getD_eq_getElem?_getD, List.getElem?_eq_none (by omega)]
    decide
/-- the value of a cell -/
theorem val_run {ns : List Int} (h : Cells ns) (k : Nat) (m t : Int) (hm : 0 ≤ m) (hm2 : m ≤ 1000) (h0 : 0 ≤ t) (h9 : t ≤ 9) : ∃ v, fd__law_value.run [.int (ns.getD k 0 + m), .int t] = some (.int v) ∧ 0 ≤ v :=
  value_run _ t (Nat.le_trans (log2_add _ _ (cell_log h k) (Nat.le_trans (log2_small (m := 20) (by omega) (by decide)) (by decide))) (by decide)) h0 h9
theorem val0_run {ns : List Int} (h : Cells ns) (k : Nat) (t : Int) (h0 : 0 ≤ t) (h9 : t ≤ 9) : ∃ v, fd__law_value.run [.int (ns.getD k 0), .int t] = some (.int v) ∧ 0 ≤ v :=
  value_run _ t (Nat.le_trans (cell_log h k) (by decide)) h0 h9
/-! the notes by the cells -/
theorem notes_in (kd n : Int) (a : Nat) (ha : a < 6) (ws : List Wd) (hw : ws.length ≤ 100) (x0 x1 x3 x4 x5 : Sl) (k2 k6 k8 g : Bool) (x9 x10 : Sl) :
    ∃ w y9 y10 g', G.exec ga__law_notes l__law_notes_1 [x0, x1, .sh (.int kd) k2, x3, x4, x5, .sh (.int n) k6, .ow (ws.map eW) g, .sh (.int (a : Int)) k8, x9, x10] =
      some (.nx [x0, x1, .sh (.int kd) k2, x3, x4, x5, .sh (.int n) k6, .ow ((ws ++ [w]).map eW) g', .sh (.int (a : Int)) k8, y9, y10]) := by
  have e1 : ∃ dg, 0 ≤ dg ∧ dg < 7 ∧ G.eval ga__law_notes (.bin .mod (.bin .fdiv (.var 6) (.ix (.tup (.cons (.int 7) (.cons (.int 49) (.cons (.int 343) (.cons (.int 2401) (.cons (.int 16807) (.cons (.int 117649) .nil))))))) (.var 8))) (.int 7)) [x0, x1, .sh (.int kd) k2, x3, x4, x5, .sh (.int n) k6, .ow (ws.map eW) g, .sh (.int (a : Int)) k8, x9, x10] = some (.int dg, true, true) := by
    have : a = 0 ∨ a = 1 ∨ a = 2 ∨ a = 3 ∨ a = 4 ∨ a = 5 := by omega
    rcases this with rfl | rfl | rfl | rfl | rfl | rfl <;> exact ⟨_, Int.emod_nonneg _ (by decide), Int.emod_lt_of_pos _ (by decide), by simp [G.eval, evalA, Bo.run, atI, ixN]; rfl⟩
  obtain ⟨dg, d0, d7, e1⟩ := e1
  have e2 : ∃ bk, (bk = 0 ∨ bk = 1) ∧ G.eval ga__law_notes (.ite (.eq (.var 2) (.int 2)) (.bin .mod (.bin .fdiv (.var 9) (.int 2)) (.int 2)) (.bin .fdiv (.var 9) (.int 6))) [x0, x1, .sh (.int kd) k2, x3, x4, x5, .sh (.int n) k6, .ow (ws.map eW) g, .sh (.int (a : Int)) k8, .sh (.int dg) true, x10] = some (.int bk, true, true) := by
    by_cases hk : kd = 2
    · refine ⟨dg / 2 % 2, by omega, ?_⟩
      simp [G.eval, isTst, eqok_okn, okn_int, eqv_int, hk, Bo.run]
    · refine ⟨dg / 6, by omega, ?_⟩
      simp [G.eval, isTst, eqok_okn, okn_int, eqv_int, hk, Bo.run]
  obtain ⟨bk, hb, e2⟩ := e2
  have e3 : ∃ w, G.eval ga__law_notes (.tup (.cons (.ix (.tup (.cons (.str "point") (.cons (.str "back") .nil))) (.var 10)) (.cons (.bin .mod (.var 9) (.int 2)) .nil))) [x0, x1, .sh (.int kd) k2, x3, x4, x5, .sh (.int n) k6, .ow (ws.map eW) g, .sh (.int (a : Int)) k8, .sh (.int dg) true, .sh (.int bk) true] = some (eW w, true, true) := by
    have h2 : dg % 2 = 0 ∨ dg % 2 = 1 := by omega
    rcases hb with rfl | rfl
    · rcases h2 with h2 | h2
      · exact ⟨(true, false), by simp [G.eval, evalA, Bo.run, atI_0, h2, eW]⟩
      · exact ⟨(true, true), by simp [G.eval, evalA, Bo.run, atI_0, h2, eW]⟩
    · rcases h2 with h2 | h2
      · exact ⟨(false, false), by simp [G.eval, evalA, Bo.run, atI_1, h2, eW]⟩
      · exact ⟨(false, true), by simp [G.eval, evalA, Bo.run, atI_1, h2, eW]⟩
  obtain ⟨w, e3⟩ := e3
  have e5 := exec_app_of (i := 7) (ds := ws.map eW) (g := g) rfl e3 (by rw [List.length_map]; omega)
  refine ⟨w, .sh (.int dg) true, .sh (.int bk) true, g && (true || (eW w).flat), exec_nx (exec_asg_of e1) (exec_nx (exec_asg_of e2) (exec_nx e5 ?_))⟩
  rw [show ws.map eW ++ [eW w] = (ws ++ [w]).map eW by rw [List.map_append]; rfl]
  rfl
theorem notes_mid {ns : List Int} (hc : Cells ns) (by_ : Nat) (kd : Int) (hd : Nat) (hd3 : hd < 3) (found : List (List Wd)) (hf : found.length ≤ 10) (k2 k3 g : Bool) (x4 x6 x7 x8 x9 x10 : Sl) :
    ∃ ws g' y6 y7 y8 y9 y10, ws.length ≤ 6 ∧ G.exec ga__law_notes l__law_notes_2 [.sh (.ls (ns.map D.int)) false, .sh (.int (by_ : Int)) false, .sh (.int kd) k2, .sh (.int (hd : Int)) k3, x4, .ow (found.map eL) g, x6, x7, x8, x9, x10] =
      some (.nx [.sh (.ls (ns.map D.int)) false, .sh (.int (by_ : Int)) false, .sh (.int kd) k2, .sh (.int (hd : Int)) k3, x4, .ow ((found ++ [ws]).map eL) g', y6, y7, y8, y9, y10]) := by
  obtain ⟨v, hv, v0⟩ := val_run hc (by_ + hd) (17 * (hd : Int)) 2 (by omega) (by omega) (by decide) (by decide)
  have ca := cell_at_run ns (by_ + hd)
  rw [show ((by_ + hd : Nat) : Int) = (by_ : Int) + (hd : Int) by omega] at ca
  have m1 : mulok 17 (hd : Int) = true := mul_left (by decide)
  have e1 : G.eval ga__law_notes (.bin .fdiv (.call 24 (.cons (.bin .add (.call 22 (.cons (.var 0) (.cons (.bin .add (.var 1) (.var 3)) .nil))) (.bin .mul (.int 17) (.var 3))) (.cons (.int 2) .nil))) (.int 3)) [.sh (.ls (ns.map D.int)) false, .sh (.int (by_ : Int)) false, .sh (.int kd) k2, .sh (.int (hd : Int)) k3, x4, .ow (found.map eL) g, x6, x7, x8, x9, x10] = some (.int (v / 3), true, true) := by
    simp [G.eval, evalA, Bo.run, ix__law_notes__law_value, ix__law_notes__law_cell_at, ar__law_value, fr__law_value, ar__law_cell_at, fr__law_cell_at, ca, m1, D.flat]
    simp only [List.getD_eq_getElem?_getD] at hv
    rw [hv]
  have e2 : G.exec ga__law_notes (.own 7 (.lst .nil)) [.sh (.ls (ns.map D.int)) false, .sh (.int (by_ : Int)) false, .sh (.int kd) k2, .sh (.int (hd : Int)) k3, x4, .ow (found.map eL) g, .sh (.int (v / 3)) true, x7, x8, x9, x10] = some (.nx [.sh (.ls (ns.map D.int)) false, .sh (.int (by_ : Int)) false, .sh (.int kd) k2, .sh (.int (hd : Int)) k3, x4, .ow (found.map eL) g, .sh (.int (v / 3)) true, .ow [] true, x8, x9, x10]) := exec_own_of rfl (by simp [G.eval, evalA])
  obtain ⟨m, hm, hm7⟩ : ∃ m : Nat, v / 3 % 7 = (m : Int) ∧ m < 7 := ⟨(v / 3 % 7).toNat, by omega, by omega⟩
  obtain ⟨δ', e, ws, g2, y8, y9, y10, rfl, hl⟩ := forRun_fold (t := .nm 8) (g := true) (ex := fun δ => G.exec ga__law_notes l__law_notes_1 δ) (f := fun (k : Nat) => D.int (k : Int)) (up := fun (u : Unit) _ => u)
    (fun j _ δ => ∃ (ws : List Wd) (g2 : Bool) (y8 y9 y10 : Sl), δ = [.sh (.ls (ns.map D.int)) false, .sh (.int (by_ : Int)) false, .sh (.int kd) k2, .sh (.int (hd : Int)) k3, x4, .ow (found.map eL) g, .sh (.int (v / 3)) true, .ow (ws.map eW) g2, y8, y9, y10] ∧ ws.length = j) (List.range m) 0 () _ ⟨[], true, x8, x9, x10, rfl, rfl⟩ (by
      rintro j a _ δ hj ⟨ws, g2, y8, y9, y10, rfl, hl⟩
      have hj' : j < m := by
        have := (List.getElem?_eq_some_iff.mp hj).1
        simpa using this
      rw [List.getElem?_range hj'] at hj
      cases hj
      obtain ⟨w, z9, z10, g3, e⟩ := notes_in kd (v / 3) j (by omega) ws (by omega) (.sh (.ls (ns.map D.int)) false) (.sh (.int (by_ : Int)) false) (.sh (.int (hd : Int)) k3) x4 (.ow (found.map eL) g) k2 true true g2 y9 y10
      exact ⟨_, _, rfl, e, ws ++ [w], g3, _, z9, z10, rfl, by simp; omega⟩)
  have ev : evalI ga__law_notes (.itR (.bin .mod (.var 6) (.int 7))) [.sh (.ls (ns.map D.int)) false, .sh (.int (by_ : Int)) false, .sh (.int kd) k2, .sh (.int (hd : Int)) k3, x4, .ow (found.map eL) g, .sh (.int (v / 3)) true, .ow [] true, x8, x9, x10] = some ((List.range m).map fun (k : Nat) => D.int (k : Int), true) := by
    have e9 : G.eval ga__law_notes (.bin .mod (.var 6) (.int 7)) [.sh (.ls (ns.map D.int)) false, .sh (.int (by_ : Int)) false, .sh (.int kd) k2, .sh (.int (hd : Int)) k3, x4, .ow (found.map eL) g, .sh (.int (v / 3)) true, .ow [] true, x8, x9, x10] = some (.int (m : Int), true, true) := by
      simp [G.eval, Bo.run, hm]
    unfold evalI
    rw [e9]
    dsimp only
    rw [if_pos (by omega), rngD_0]
    rfl
  have e5 := exec_app_of (Γ := ga__law_notes) (i := 5) (e := .var 7) (δ := [.sh (.ls (ns.map D.int)) false, .sh (.int (by_ : Int)) false, .sh (.int kd) k2, .sh (.int (hd : Int)) k3, x4, .ow (found.map eL) g, .sh (.int (v / 3)) true, .sh (eL ws) g2, y8, y9, y10]) (ds := found.map eL) (g := g) (d := eL ws) (g' := g2) rfl rfl (by rw [List.length_map]; omega)
  simp only [List.length_range, Nat.zero_add] at hl
  refine ⟨ws, g && (g2 || (eL ws).flat), .sh (.int (v / 3)) true, .sh (eL ws) g2, y8, y9, y10, by omega, exec_nx (exec_asg_of e1) (exec_nx e2 (exec_nx (exec_loop_of ev e) ?_))⟩
  show G.exec ga__law_notes (.seq (.app 5 (.var 7)) .nil) [.sh (.ls (ns.map D.int)) false, .sh (.int (by_ : Int)) false, .sh (.int kd) k2, .sh (.int (hd : Int)) k3, x4, .ow (found.map eL) g, .sh (.int (v / 3)) true, .sh (eL ws) g2, y8, y9, y10] = _
  refine exec_nx e5 ?_
  rw [show found.map eL ++ [eL ws] = (found ++ [ws]).map eL by rw [List.map_append]; rfl]
  rfl
theorem notes_run {ns : List Int} (hc : Cells ns) (by_ : Nat) : ∃ notes, NOk notes ∧ fd__law_notes.run [.ls (ns.map D.int), .int (by_ : Int)] = some (eN notes) := by
  show ∃ notes, NOk notes ∧ endOf false (G.exec ga__law_notes c__law_notes (st0 11 [.ls (ns.map D.int), .int (by_ : Int)])) = _
  have s0 : st0 11 [.ls (ns.map D.int), .int (by_ : Int)] = [.sh (.ls (ns.map D.int)) false, .sh (.int (by_ : Int)) false, .no, .no, .no, .no, .no, .no, .no, .no, .no] := rfl
  rw [s0]
  obtain ⟨v, hv, v0⟩ := val0_run hc by_ 1 (by decide) (by decide)
  have ca := cell_at_run ns by_
  have e1 : G.exec ga__law_notes (.par 4 5 false true (.call 24 (.cons (.call 22 (.cons (.var 0) (.cons (.var 1) .nil))) (.cons (.int 1) .nil))) (.lst .nil)) [.sh (.ls (ns.map D.int)) false, .sh (.int (by_ : Int)) false, .no, .no, .no, .no, .no, .no, .no, .no, .no] = some (.nx [.sh (.ls (ns.map D.int)) false, .sh (.int (by_ : Int)) false, .no, .no, .sh (.int v) true, .ow [] true, .no, .no, .no, .no, .no]) := by
    simp only [List.getD_eq_getElem?_getD] at hv ca
    simp [G.exec, G.eval, evalA, ix__law_notes__law_value, ix__law_notes__law_cell_at, ar__law_value, fr__law_value, ar__law_cell_at, fr__law_cell_at, ca, hv, D.flat, slotOf, isNew]
  have e2 : G.eval ga__law_notes (.bin .mod (.bin .fdiv (.var 4) (.int 3)) (.int 3)) [.sh (.ls (ns.map D.int)) false, .sh (.int (by_ : Int)) false, .no, .no, .sh (.int v) true, .ow [] true, .no, .no, .no, .no, .no] = some (.int (v / 3 % 3), true, true) := by
    simp [G.eval, Bo.run]
  obtain ⟨m, hm, hm3⟩ : ∃ m : Nat, 1 + (v + 2) % 3 = (m : Int) ∧ 1 ≤ m ∧ m ≤ 3 := ⟨(1 + (v + 2) % 3).toNat, by omega, by omega, by omega⟩
  obtain ⟨δ', e, notes, g2, y3, y6, y7, y8, y9, y10, rfl, hl, hw⟩ := forRun_fold (t := .nm 3) (g := true) (ex := fun δ => G.exec ga__law_notes l__law_notes_2 δ) (f := fun (k : Nat) => D.int (k : Int)) (up := fun (u : Unit) _ => u)
    (fun j _ δ => ∃ (found : List (List Wd)) (g2 : Bool) (y3 y6 y7 y8 y9 y10 : Sl), δ = [.sh (.ls (ns.map D.int)) false, .sh (.int (by_ : Int)) false, .sh (.int (v / 3 % 3)) true, y3, .sh (.int v) true, .ow (found.map eL) g2, y6, y7, y8, y9, y10] ∧ found.length = j ∧ ∀ ws ∈ found, ws.length ≤ 6) (List.range m) 0 () _ ⟨[], true, .no, .no, .no, .no, .no, .no, rfl, rfl, by simp⟩ (by
      rintro j a _ δ hj ⟨found, g2, y3, y6, y7, y8, y9, y10, rfl, hl, hw⟩
      have hj' : j < m := by
        have := (List.getElem?_eq_some_iff.mp hj).1
        simpa using this
      rw [List.getElem?_range hj'] at hj
      cases hj
      obtain ⟨ws, g3, z6, z7, z8, z9, z10, h6, e⟩ := notes_mid hc by_ (v / 3 % 3) j (by omega) found (by omega) true true g2 (.sh (.int v) true) y6 y7 y8 y9 y10
      refine ⟨_, _, rfl, e, found ++ [ws], g3, _, z6, z7, z8, z9, z10, rfl, by simp; omega, fun w hw' => ?_⟩
      rcases List.mem_append.mp hw' with k | k
      · exact hw w k
      · simp at k
        subst k
        exact h6)
  have ev : evalI ga__law_notes (.itR (.bin .add (.int 1) (.bin .mod (.bin .add (.var 4) (.int 2)) (.int 3)))) [.sh (.ls (ns.map D.int)) false, .sh (.int (by_ : Int)) false, .sh (.int (v / 3 % 3)) true, .no, .sh (.int v) true, .ow [] true, .no, .no, .no, .no, .no] = some ((List.range m).map fun (k : Nat) => D.int (k : Int), true) := by
    have e9 : G.eval ga__law_notes (.bin .add (.int 1) (.bin .mod (.bin .add (.var 4) (.int 2)) (.int 3))) [.sh (.ls (ns.map D.int)) false, .sh (.int (by_ : Int)) false, .sh (.int (v / 3 % 3)) true, .no, .sh (.int v) true, .ow [] true, .no, .no, .no, .no, .no] = some (.int (m : Int), true, true) := by
      simp [G.eval, Bo.run, hm]
    unfold evalI
    rw [e9]
    dsimp only
    rw [if_pos (by omega), rngD_0]
    rfl
  simp only [List.length_range, Nat.zero_add] at hl
  refine ⟨notes, ⟨by omega, by omega, hw⟩, ?_⟩
  refine Eq.trans (congrArg (endOf _) (exec_nx e1 (exec_nx (exec_asg_of e2) (exec_nx (exec_loop_of ev e) rfl)))) ?_
  simp [G.exec, G.eval, endOf, eN]
end K09

namespace K09
open PySem L2 G Sh
/-! ### a desk as data -/
def eD (m : Mp) : D := .dc (m.map fun p => (Sum.inl (p.1 : Int) : Key)) (m.map fun p => eW p.2)
def eDk (ms : List Mp) : D := .ob 0 [.ls (ms.map eD)]
theorem look_eD (m : Mp) (k : Nat) : lookD (m.map fun p => (Sum.inl (p.1 : Int) : Key)) (m.map fun p => eW p.2) (.inl (k : Int)) = (lk m k).map eW := by
  induction m with
  | nil => rfl
  | cons p m ih =>
    obtain ⟨j, w⟩ := p
    simp only [List.map_cons, lookD, lk]
    by_cases e : j = k
    · subst e
      simp
    · have e1 : ¬ (Sum.inl (j : Int) : Key) = Sum.inl (k : Int) := fun z => e (by
        have := Sum.inl.inj z
        omega)
      rw [if_neg e1, if_neg e]
      exact ih
theorem key_inj {j b : Nat} : (Sum.inl (j : Int) : Key) = Sum.inl (b : Int) ↔ j = b := by
  simp only [Sum.inl.injEq]
  omega
theorem put_eD (m : Mp) (b : Nat) (w : Wd) : D.dc (putD (m.map fun p => (Sum.inl (p.1 : Int) : Key)) (m.map fun p => eW p.2) (.inl (b : Int)) (eW w)).1 (putD (m.map fun p => (Sum.inl (p.1 : Int) : Key)) (m.map fun p => eW p.2) (.inl (b : Int)) (eW w)).2 = eD (mput m b w) := by
  have ha : ((m.map fun p => (Sum.inl (p.1 : Int) : Key)).any fun q => decide (q = Sum.inl (b : Int))) = m.any fun p => decide (p.1 = b) := by
    rw [List.any_map]
    congr 1
    funext p
    simp only [Function.comp, key_inj]
  unfold putD mput
  rw [ha]
  split
  · unfold eD
    congr 1
    · rw [List.map_map]
      refine List.map_congr_left fun p _ => ?_
      simp only [Function.comp]
      split <;> rfl
    · rw [List.zipWith_map, List.zipWith_self, List.map_map]
      refine List.map_congr_left fun p _ => ?_
      simp only [Function.comp, key_inj]
      split <;> rfl
  · simp only [eD, List.map_append, List.map_cons, List.map_nil]
/-! ### steps -/
theorem eval_call_of {Γ : Ga} {k : Nat} {F : Fd} {es : E} {δ : List Sl} {ds : List D} {f g : Bool} {d : D} (hk : Γ.fs[k]? = some F) (ha : evalA Γ es δ = some (ds, f, g)) (hl : ds.length = F.ar) (hr : F.run ds = some d) : G.eval Γ (.call k es) δ = some (d, F.fr || f || d.flat, F.fr || d.flat) := by
  unfold G.eval
  simp only [hk, ha, hl, hr, if_true]
theorem eval_meth_of {Γ : Ga} {m : Nat} {nm : Str} {tb : List (Nat × Fd)} {F : Fd} {o es : E} {δ : List Sl} {c : Nat} {fs ds : List D} {f g f' g' : Bool} {d : D} (hm : Γ.ms[m]? = some (nm, tb)) (ho : G.eval Γ o δ = some (.ob c fs, f, g)) (hF : lookN tb c = some F) (ha : evalA Γ es δ = some (ds, f', g'))
    (hl : ds.length + 1 = F.ar ∧ (Γ.cn[c]?.map fun ns => ns.all fun n => n != nm) = some true) (hr : F.run (.ob c fs :: ds) = some d) : G.eval Γ (.meth m o es) δ = some (d, F.fr || (f && f') || d.flat, F.fr || d.flat) := by
  unfold G.eval
  simp only [hm, ho, hF, ha, if_pos hl, hr]
theorem whRun_of {cf : List Sl → Option Bool} {ex : List Sl → Option Rz} {c : Nat} {st : Nat → List Sl} (h1 : ∀ i, i < c → cf (st i) = some true ∧ ex (st i) = some (.nx (st (i + 1)))) (h2 : cf (st c) = some false) : ∀ (m i n : Nat), i + m = c → m < n → whRun cf ex n (st i) = some (.nx (st c))
  | 0, i, n, hi, hn => by
    obtain ⟨n, rfl⟩ : ∃ k, n = k + 1 := ⟨n - 1, by omega⟩
    have : i = c := by omega
    subst this
    simp only [whRun, h2]
  | m + 1, i, n, hi, hn => by
    obtain ⟨n, rfl⟩ : ∃ k, n = k + 1 := ⟨n - 1, by omega⟩
    obtain ⟨a, b⟩ := h1 i (by omega)
    simp only [whRun, a, b]
    exact whRun_of h1 h2 m (i + 1) n (by omega) (by omega)
/-! ### the methods that read -/
section
variable {ms : List Mp} {nl : List (List Wd)}
theorem fld_heard {Γ : Ga} (hcn : Γ.cn = cns) {i : Nat} {δ : List Sl} {f g : Bool} (h : G.eval Γ (.var i) δ = some (eDk ms, f, g)) : G.eval Γ (.fld "heard" (.var i)) δ = some (.ls (ms.map eD), f, g) := by
  have h' : G.eval Γ (.var i) δ = some (.ob 0 [.ls (ms.map eD)], f, g) := h
  unfold G.eval
  rw [h']
  simp [hcn, cns, fldD]
theorem count_of_run {a : Nat} {m : Mp} (hm : ms[a]? = some m) {c : Nat} (h1 : ∀ k, k < c → (lk m k).isSome = true) (h2 : lk m c = none) (hc : c ≤ 6) : fd_Desk_count_of.run [eDk ms, .int (a : Int)] = some (.int (c : Int)) := by
  show endOf false (G.exec ga_Desk_count_of c_Desk_count_of (st0 4 [eDk ms, .int (a : Int)])) = _
  have s0 : st0 4 [eDk ms, .int (a : Int)] = [.sh (eDk ms) false, .sh (.int (a : Int)) false, .no, .no] := rfl
  rw [s0]
  have ev : G.eval ga_Desk_count_of (.ix (.fld "heard" (.var 0)) (.var 1)) [.sh (eDk ms) false, .sh (.int (a : Int)) false, .no, .no] = some (eD m, true, false) := by
    have f1 := fld_heard (Γ := ga_Desk_count_of) (ms := ms) rfl (i := 0) (δ := [.sh (eDk ms) false, .sh (.int (a : Int)) false, .no, .no]) (f := true) (g := false) rfl
    have e2 : atI (ms.map eD) (a : Int) = some (eD m) := G.atI_nat (by rw [List.getElem?_map, hm]; rfl)
    unfold G.eval
    rw [f1]
    simp [G.eval, e2]
  have e1 : G.exec ga_Desk_count_of (.par 2 3 false false (.ix (.fld "heard" (.var 0)) (.var 1)) (.int 0)) [.sh (eDk ms) false, .sh (.int (a : Int)) false, .no, .no] = some (.nx [.sh (eDk ms) false, .sh (.int (a : Int)) false, .sh (eD m) false, .sh (.int ((0 : Nat) : Int)) true]) := by
    unfold G.exec
    rw [ev]
    simp [slotOf, G.eval]
  have cf : ∀ j : Nat, tst (G.eval ga_Desk_count_of (.din (.var 3) (.var 2)) [.sh (eDk ms) false, .sh (.int (a : Int)) false, .sh (eD m) false, .sh (.int (j : Int)) true]) = some (lk m j).isSome := fun j => by
    simp [G.eval, eD, tst, look_eD]
  have e2 : G.exec ga_Desk_count_of (.whl (.din (.var 3) (.var 2)) (.seq (.aug 3 (.int 1)) .nil)) [.sh (eDk ms) false, .sh (.int (a : Int)) false, .sh (eD m) false, .sh (.int ((0 : Nat) : Int)) true] = some (.nx [.sh (eDk ms) false, .sh (.int (a : Int)) false, .sh (eD m) false, .sh (.int (c : Int)) true]) := by
    unfold G.exec
    rw [if_pos (show isTst (.din (.var 3) (.var 2)) = true from rfl)]
    exact whRun_of (c := c) (st := fun j => [.sh (eDk ms) false, .sh (.int (a : Int)) false, .sh (eD m) false, .sh (.int (j : Int)) true]) (fun i hi => ⟨by rw [cf i, h1 i hi], by simp [G.exec, G.eval]⟩) (by rw [cf c, h2]; rfl) c 0 50 (by omega) (by omega)
  rw [show c_Desk_count_of = .seq (.par 2 3 false false (.ix (.fld "heard" (.var 0)) (.var 1)) (.int 0)) (.seq (.whl (.din (.var 3) (.var 2)) (.seq (.aug 3 (.int 1)) .nil)) (.seq (.ret (.var 3)) .nil)) from rfl, exec_nx e1 (exec_nx e2 (exec_rt (exec_ret_of (r := (.int (c : Int), true, true)) rfl)))]
  rfl
theorem count_get (k : DkOk ms nl) {a : Nat} (ha : a < ms.length) : ∃ ws, nl[a]? = some ws ∧ fd_Desk_count_of.run [eDk ms, .int (a : Int)] = some (.int (ws.length : Int)) := by
  have hn := k.n
  obtain ⟨m, hm⟩ : ∃ m, ms[a]? = some m := ⟨_, List.getElem?_eq_getElem ha⟩
  obtain ⟨ws, hw⟩ : ∃ ws, nl[a]? = some ws := ⟨_, List.getElem?_eq_getElem (by omega)⟩
  obtain ⟨k1, k2, k3⟩ := k.w a m ws hm hw
  exact ⟨ws, hw, count_of_run hm (fun j hj => by rw [k1 j hj, List.getElem?_eq_getElem hj]; rfl) k2 k3⟩
theorem counting_run (k : DkOk ms nl) (h3 : ms.length ≤ 3) : fd_Desk_counting.run [eDk ms] = some (eH (nl.map List.length)) := by
  show endOf true (G.exec ga_Desk_counting c_Desk_counting (st0 2 [eDk ms])) = _
  have s0 : st0 2 [eDk ms] = [.sh (eDk ms) false, .no] := rfl
  rw [s0]
  have hn := k.n
  have f1 := fld_heard (Γ := ga_Desk_counting) (ms := ms) rfl (i := 0) (δ := [.sh (eDk ms) false, .no]) (f := true) (g := false) rfl
  have i1 : evalI ga_Desk_counting (.itR (.len (.fld "heard" (.var 0)))) [.sh (eDk ms) false, .no] = some ((List.range ms.length).map fun (j : Nat) => D.int (j : Int), true) := by
    have e9 : G.eval ga_Desk_counting (.len (.fld "heard" (.var 0))) [.sh (eDk ms) false, .no] = some (.int (ms.length : Int), true, true) := by
      unfold G.eval
      rw [f1]
      simp
    unfold evalI
    rw [e9]
    dsimp only
    rw [if_pos (by omega), Int.toNat_natCast, rngD_0]
  obtain ⟨ys, gs, e2, e3, hg⟩ : ∃ ys gs, lcRun (.nm 1) true (fun _ => some true) (fun δ2 => G.eval ga_Desk_counting (.meth 0 (.var 0) (.cons (.var 1) .nil)) δ2) (wipeD [.sh (eDk ms) false, .no] (Tg.nm 1).sl) ((List.range ms.length).map fun (j : Nat) => D.int (j : Int)) = some (ys, gs) ∧ ys = (nl.map List.length).map (fun (n : Nat) => D.int (n : Int)) ∧ gs = true := by
    have key : ∀ (l : List Nat), (∀ j ∈ l, j < ms.length) → lcRun (.nm 1) true (fun _ => some true) (fun δ2 => G.eval ga_Desk_counting (.meth 0 (.var 0) (.cons (.var 1) .nil)) δ2) (wipeD [.sh (eDk ms) false, .no] (Tg.nm 1).sl) (l.map fun (j : Nat) => D.int (j : Int)) = some (l.map (fun (j : Nat) => D.int (((nl.getD j []).length : Nat) : Int)), true) := by
      intro l
      induction l with
      | nil => intro _; rfl
      | cons j l ih =>
        intro hl
        obtain ⟨ws, hw, hr⟩ := count_get k (hl j (.head _))
        have e := eval_meth_of (Γ := ga_Desk_counting) (m := 0) (nm := "count_of") (tb := [(0, fd_Desk_count_of)]) (F := fd_Desk_count_of) (o := .var 0) (es := .cons (.var 1) .nil) (δ := [.sh (eDk ms) false, .sh (.int (j : Int)) true]) (c := 0) (fs := [.ls (ms.map eD)]) (ds := [.int (j : Int)]) rfl rfl rfl rfl ⟨rfl, by decide +kernel⟩ hr
        have t : (Tg.nm 1).run true (.int (j : Int)) (wipeD [.sh (eDk ms) false, .no] (Tg.nm 1).sl) = some [.sh (eDk ms) false, .sh (.int (j : Int)) true] := rfl
        rw [List.map_cons]
        unfold lcRun
        rw [t]
        try dsimp only
        rw [e]
        try dsimp only
        rw [ih fun x hx => hl x (.tail _ hx)]
        have : (nl.getD j []).length = ws.length := by rw [List.getD_eq_getElem?_getD, hw]; rfl
        simp [fr_Desk_count_of, D.flat, hw]
    refine ⟨_, _, key (List.range ms.length) (fun j hj => by simpa using hj), ?_, rfl⟩
    rw [List.map_map]
    refine List.ext_getElem? fun i => ?_
    rw [List.getElem?_map, List.getElem?_map]
    by_cases hi : i < ms.length
    · rw [List.getElem?_range hi, List.getElem?_eq_getElem (show i < nl.length by omega)]
      simp [List.getD_eq_getElem?_getD, List.getElem?_eq_getElem (show i < nl.length by omega)]
    · rw [List.getElem?_eq_none (by simpa using Nat.le_of_not_lt hi), List.getElem?_eq_none (by omega)]
      rfl
  subst hg e3
  have ev : G.eval ga_Desk_counting m_Desk_counting_1 [.sh (eDk ms) false, .no] = some (eH (nl.map List.length), true, true) := eval_lc_of i1 (by simp; omega) e2
  rw [show c_Desk_counting = .seq (.ret m_Desk_counting_1) .nil from rfl, exec_rt (exec_ret_of ev)]
  rfl
theorem notes_run' (k : DkOk ms nl) (h3 : ms.length ≤ 3) : fd_Desk_notes.run [eDk ms] = some (eN nl) := by
  show endOf false (G.exec ga_Desk_notes c_Desk_notes (st0 4 [eDk ms])) = _
  have s0 : st0 4 [eDk ms] = [.sh (eDk ms) false, .no, .no, .no] := rfl
  rw [s0]
  have hn := k.n
  have f1 := fld_heard (Γ := ga_Desk_notes) (ms := ms) rfl (i := 0) (δ := [.sh (eDk ms) false, .no, .no, .no]) (f := true) (g := false) rfl
  have c1 := eval_meth_of (Γ := ga_Desk_notes) (m := 1) (nm := "counting") (tb := [(0, fd_Desk_counting)]) (F := fd_Desk_counting) (o := .var 0) (es := .nil) (δ := [.sh (eDk ms) false, .no, .no, .no]) (c := 0) (fs := [.ls (ms.map eD)]) (ds := []) rfl rfl rfl rfl ⟨rfl, by decide +kernel⟩ (counting_run k h3)
  have i1 : evalI ga_Desk_notes (.itZ (.fld "heard" (.var 0)) (.meth 1 (.var 0) .nil)) [.sh (eDk ms) false, .no, .no, .no] = some ((ms.zip (nl.map List.length)).map fun p : Mp × Nat => .tp [eD p.1, .int (p.2 : Int)], false) := by
    unfold evalI
    rw [f1, c1]
    simp only [fr_Desk_counting, Bool.true_or, eH]
    rw [zipD_map]
    rfl
  have key : ∀ (ps : List (Mp × List Wd)), (∀ p ∈ ps, ∀ j, j < p.2.length → lk p.1 j = p.2[j]?) → (∀ p ∈ ps, p.2.length ≤ 6) → ∃ gs, lcRun (.t2 (.nm 2) (.nm 3)) false (fun _ => some true) (fun δ2 => G.eval ga_Desk_notes m_Desk_notes_1 δ2) (wipeD [.sh (eDk ms) false, .no, .no, .no] (Tg.t2 (.nm 2) (.nm 3)).sl) (ps.map fun p => .tp [eD p.1, .int (p.2.length : Int)]) = some (ps.map (fun p => eL p.2), gs) := by
    intro ps
    induction ps with
    | nil => intro _ _; exact ⟨true, rfl⟩
    | cons p ps ih =>
      intro h h6
      obtain ⟨gs, e⟩ := ih (fun q hq => h q (.tail _ hq)) (fun q hq => h6 q (.tail _ hq))
      obtain ⟨m, ws⟩ := p
      have hw := h (m, ws) (.head _)
      have hw6 : ws.length ≤ 6 := h6 (m, ws) (.head _)
      have t : (Tg.t2 (.nm 2) (.nm 3)).run false (.tp [eD m, .int (ws.length : Int)]) (wipeD [.sh (eDk ms) false, .no, .no, .no] (Tg.t2 (.nm 2) (.nm 3)).sl) = some [.sh (eDk ms) false, .no, .sh (eD m) false, .sh (.int (ws.length : Int)) false] := rfl
      have i2 : evalI ga_Desk_notes (.itR (.var 3)) [.sh (eDk ms) false, .no, .sh (eD m) false, .sh (.int (ws.length : Int)) false] = some ((List.range ws.length).map fun (j : Nat) => D.int (j : Int), true) := by
        unfold evalI
        simp only [G.eval, List.getElem?_cons_succ, List.getElem?_cons_zero]
        rw [if_pos (by omega), Int.toNat_natCast, rngD_0]
      obtain ⟨ys, gy, e2, e3⟩ : ∃ ys gy, lcRun (.nm 1) true (fun _ => some true) (fun δ2 => G.eval ga_Desk_notes (.dix (.var 2) (.var 1)) δ2) (wipeD [.sh (eDk ms) false, .no, .sh (eD m) false, .sh (.int (ws.length : Int)) false] (Tg.nm 1).sl) ((List.range ws.length).map fun (j : Nat) => D.int (j : Int)) = some (ys, gy) ∧ ys = ws.map eW := by
        obtain ⟨gy, e⟩ := lcRun_map (t := .nm 1) (g := true) (ef := fun δ2 => G.eval ga_Desk_notes (.dix (.var 2) (.var 1)) δ2) (δ := wipeD [.sh (eDk ms) false, .no, .sh (eD m) false, .sh (.int (ws.length : Int)) false] (Tg.nm 1).sl) (f := fun (j : Nat) => D.int (j : Int)) (y := fun j => eW (ws.getD j (false, false))) (List.range ws.length) (fun j hj => ⟨[.sh (eDk ms) false, .sh (.int (j : Int)) true, .sh (eD m) false, .sh (.int (ws.length : Int)) false], rfl, false, by
          have hj : j < ws.length := by simpa using hj
          simp [G.eval, eD, look_eD, hw j hj, List.getElem?_eq_getElem hj, List.getD_eq_getElem?_getD]⟩)
        refine ⟨_, gy, e, ?_⟩
        refine List.ext_getElem? fun i => ?_
        rw [List.getElem?_map, List.getElem?_map]
        by_cases hi : i < ws.length
        · rw [List.getElem?_range hi, List.getElem?_eq_getElem hi]
          simp [List.getD_eq_getElem?_getD, List.getElem?_eq_getElem hi]
        · rw [List.getElem?_eq_none (by simpa using Nat.le_of_not_lt hi), List.getElem?_eq_none (by omega)]
          rfl
      subst e3
      have ev : G.eval ga_Desk_notes m_Desk_notes_1 [.sh (eDk ms) false, .no, .sh (eD m) false, .sh (.int (ws.length : Int)) false] = some (eL ws, true, gy) := eval_lc_of i2 (by simp; omega) e2
      refine ⟨gy && gs, ?_⟩
      rw [List.map_cons]
      unfold lcRun
      rw [t]
      try dsimp only
      rw [ev]
      try dsimp only
      rw [e]
      rfl
  obtain ⟨gs, e2⟩ := key (ms.zip nl) (fun p hp => by
    obtain ⟨i, hi⟩ := List.mem_iff_getElem?.mp hp
    rw [List.getElem?_zip_eq_some] at hi
    exact (k.w i p.1 p.2 hi.1 hi.2).1) (fun p hp => by
    obtain ⟨i, hi⟩ := List.mem_iff_getElem?.mp hp
    rw [List.getElem?_zip_eq_some] at hi
    exact (k.w i p.1 p.2 hi.1 hi.2).2.2)
  have ez : (ms.zip (nl.map List.length)).map (fun p : Mp × Nat => D.tp [eD p.1, .int (p.2 : Int)]) = (ms.zip nl).map fun p => .tp [eD p.1, .int (p.2.length : Int)] := by
    rw [List.zip_map_right, List.map_map]
    rfl
  rw [ez] at i1
  have ey : (ms.zip nl).map (fun p => eL p.2) = nl.map eL := by
    rw [show (fun p : Mp × List Wd => eL p.2) = eL ∘ Prod.snd from rfl, ← List.map_map, List.map_snd_zip (by omega)]
  rw [ey] at e2
  have ev : G.eval ga_Desk_notes m_Desk_notes_2 [.sh (eDk ms) false, .no, .no, .no] = some (eN nl, true, gs) := eval_lc_of i1 (by simp; omega) e2
  rw [show c_Desk_notes = .seq (.ret m_Desk_notes_2) .nil from rfl, exec_rt (exec_ret_of ev)]
  rfl
theorem dscore_run (k : DkOk ms nl) (h3 : ms.length ≤ 3) : fd_Desk_score.run [eDk ms] = some (.tp [.int (sc false nl (nl.map List.length)), .int (sc true nl (nl.map List.length))]) := by
  show endOf true (G.exec ga_Desk_score c_Desk_score (st0 1 [eDk ms])) = _
  have s0 : st0 1 [eDk ms] = [.sh (eDk ms) false] := rfl
  rw [s0]
  have c1 := eval_meth_of (Γ := ga_Desk_score) (m := 1) (nm := "counting") (tb := [(0, fd_Desk_counting)]) (F := fd_Desk_counting) (o := .var 0) (es := .nil) (δ := [.sh (eDk ms) false]) (c := 0) (fs := [.ls (ms.map eD)]) (ds := []) rfl rfl rfl rfl ⟨rfl, by decide +kernel⟩ (counting_run k h3)
  have c2 := eval_meth_of (Γ := ga_Desk_score) (m := 2) (nm := "notes") (tb := [(0, fd_Desk_notes)]) (F := fd_Desk_notes) (o := .var 0) (es := .nil) (δ := [.sh (eDk ms) false]) (c := 0) (fs := [.ls (ms.map eD)]) (ds := []) rfl rfl rfl rfl ⟨rfl, by decide +kernel⟩ (notes_run' k h3)
  have eA : evalA ga_Desk_score (.cons (.meth 2 (.var 0) .nil) (.cons (.meth 1 (.var 0) .nil) .nil)) [.sh (eDk ms) false] = some ([eN nl, eH (nl.map List.length)], true, false) := by
    unfold evalA
    rw [c2]
    dsimp only
    unfold evalA
    rw [c1]
    rfl
  have ev := eval_call_of (Γ := ga_Desk_score) (k := 5) (F := fd_score_of) rfl eA rfl (score_of_run nl (nl.map List.length))
  rw [show c_Desk_score = .seq (.ret (.call 5 (.cons (.meth 2 (.var 0) .nil) (.cons (.meth 1 (.var 0) .nil) .nil)))) .nil from rfl, exec_rt (exec_ret_of ev)]
  rfl
end
end K09

namespace K09
open PySem L2 G Sh
theorem xm_exp {Γ : Ga} {e : E} {r : Sm} {δ : List Sl} {z : Rs} (h : G.eval Γ e δ = some z) : execM Γ (.exp e r) δ = execM Γ r δ := by
  conv => lhs; unfold execM
  rw [h]
theorem xm_gd {Γ : Ga} {c : E} {r : Sm} {δ : List Sl} {f g : Bool} (t : isTst c = true) (h : G.eval Γ c δ = some (.bl false, f, g)) : execM Γ (.gd c r) δ = execM Γ r δ := by
  conv => lhs; unfold execM
  rw [if_pos t, h]
theorem xm_dput {Γ : Ga} {ss : List Ps} {b e : E} {r : Sm} {δ : List Sl} {q : List Nat} {x d : D} {ks : List Key} {ds : List D} {k : Int} {g f' g' : Bool} (h1 : G.eval Γ e δ = some (x, true, g)) (h2 : nodeOf Γ δ 0 ss = some (0, q, d, .dc ks ds)) (h3 : G.eval Γ b δ = some (.int k, f', g')) (hx : x.leaf = true) (hd : ds.all D.leaf = true) (hk : ks.length < 1000) :
    execM Γ (.dput ss b e r) δ = execM Γ r ((δ.map (keepAl 0 q)).set 0 (.tr (d.put q (.dc (putD ks ds (.inl k) x).1 (putD ks ds (.inl k) x).2)))) := by
  conv => lhs; unfold execM
  simp only [h1, h2, h3, hx, hd, hk, and_self, if_true]
theorem xm_ret {Γ : Ga} {e : E} {δ : List Sl} {z : Rs} {d : D} (h : G.eval Γ e δ = some z) (h0 : δ[0]? = some (.tr d)) : execM Γ (.ret e) δ = some d := by
  unfold execM
  rw [h]
  simp only [h0]
theorem first_none (m : Mp) : ∀ n, lk m n = none → ∃ c, c ≤ n ∧ (∀ k, k < c → (lk m k).isSome = true) ∧ lk m c = none := by
  intro n
  induction n using Nat.strongRecOn with
  | _ n ih =>
    intro h
    by_cases e : ∀ k, k < n → (lk m k).isSome = true
    · exact ⟨n, Nat.le_refl _, e, h⟩
    · obtain ⟨k, hk⟩ := Classical.not_forall.mp e
      rw [Classical.not_imp] at hk
      obtain ⟨c, h1, h2, h3⟩ := ih k hk.1 (by simpa using hk.2)
      exact ⟨c, by omega, h2, h3⟩
theorem eqok_eW (w : Wd) : (eW w).eqok = true := by
  obtain ⟨p, q⟩ := w
  cases p <;> cases q <;> decide +kernel
theorem eqv_eW (w : Wd) : (eW w).eqv (eW w) = true := by
  obtain ⟨p, q⟩ := w
  cases p <;> cases q <;> decide +kernel
theorem eDk_put (ms : List Mp) {a : Nat} (ha : a < ms.length) (x : Mp) : (eDk ms).put [0, a] (eD x) = eDk (ms.set a x) := by
  have hg : (ms.map eD)[a]? = some (eD ms[a]) := by rw [List.getElem?_map, List.getElem?_eq_getElem ha]; rfl
  unfold eDk
  rw [D.put]
  simp only [List.getElem?_cons_zero, List.set_cons_zero]
  rw [D.put]
  simp only [hg]
  rw [D.put, List.map_set]
theorem hear_run {ms : List Mp} {a b : Nat} {m : Mp} {w : Wd} (hm : ms[a]? = some m) (hb : b < 6) (good : (lk m b).getD w = w) (hl : m.length < 1000) (h6 : lk m 6 = none) : md_Desk_hear.run (eDk ms) [.int (a : Int), .int (b : Int), eW w] = some (eDk (ms.set a (mput m b w))) := by
  have ha : a < ms.length := (List.getElem?_eq_some_iff.mp hm).1
  show execM ga_Desk_hear c_Desk_hear [.tr (eDk ms), .sh (.int (a : Int)) false, .sh (.int (b : Int)) false, .sh (eW w) false] = _
  generalize hδ : ([.tr (eDk ms), .sh (.int (a : Int)) false, .sh (.int (b : Int)) false, .sh (eW w) false] : List Sl) = δ
  have v0 : G.eval ga_Desk_hear (.var 0) δ = some (eDk ms, false, false) := by subst hδ; rfl
  have v1 : G.eval ga_Desk_hear (.var 1) δ = some (.int (a : Int), true, false) := by subst hδ; rfl
  have v2 : G.eval ga_Desk_hear (.var 2) δ = some (.int (b : Int), true, false) := by subst hδ; rfl
  have v3 : G.eval ga_Desk_hear (.var 3) δ = some (eW w, true, false) := by subst hδ; rfl
  have f1 := fld_heard (Γ := ga_Desk_hear) (ms := ms) rfl v0
  have ln : G.eval ga_Desk_hear (.len (.fld "heard" (.var 0))) δ = some (.int (ms.length : Int), true, true) := by
    unfold G.eval
    rw [f1]
    simp
  have a1 : evalA ga_Desk_hear (.cons (.len (.fld "heard" (.var 0))) (.cons (.var 1) .nil)) δ = some ([.int (ms.length : Int), .int (a : Int)], true, false) := by
    simp only [evalA, ln, v1, Bool.and_self, Bool.and_true, Bool.true_and]
  have s1 := eval_call_of (Γ := ga_Desk_hear) (k := 4) (F := fd_check_hand) rfl a1 rfl (check_hand_run ha)
  have a2 : evalA ga_Desk_hear (.cons (.var 2) (.cons (.int 0) (.cons (.bin .sub (.int 6) (.int 1)) .nil))) δ = some ([.int (b : Int), .int 0, .int 5], true, false) := by
    have e : G.eval ga_Desk_hear (.bin .sub (.int 6) (.int 1)) δ = some (.int 5, true, true) := rfl
    have e0 : G.eval ga_Desk_hear (.int 0) δ = some (.int 0, true, true) := rfl
    simp only [evalA, e, e0, v2, Bool.and_self, Bool.and_true, Bool.true_and]
  have s2 : G.eval ga_Desk_hear (.not (.call 1 (.cons (.var 2) (.cons (.int 0) (.cons (.bin .sub (.int 6) (.int 1)) .nil))))) δ = some (.bl false, true, true) := by
    have := eval_call_of (Γ := ga_Desk_hear) (k := 1) (F := fd_is_count) rfl a2 rfl (is_count_int (b : Int) 0 5)
    rw [decide_eq_true (show (0 : Int) ≤ (b : Int) by omega), decide_eq_true (show (b : Int) ≤ 5 by omega)] at this
    unfold G.eval
    rw [this]
    rfl
  have a3 : evalA ga_Desk_hear (.cons (.var 3) .nil) δ = some ([eW w], true, false) := by
    simp only [evalA, v3, Bool.and_self, Bool.and_true, Bool.true_and]
  have s3 : G.eval ga_Desk_hear (.not (.call 2 (.cons (.var 3) .nil))) δ = some (.bl false, true, true) := by
    have := eval_call_of (Γ := ga_Desk_hear) (k := 2) (F := fd_is_word) rfl a3 rfl (is_word_run w)
    unfold G.eval
    rw [this]
    rfl
  have ix : G.eval ga_Desk_hear (.ix (.fld "heard" (.var 0)) (.var 1)) δ = some (eD m, false, false) := by
    have e2 : atI (ms.map eD) (a : Int) = some (eD m) := G.atI_nat (by rw [List.getElem?_map, hm]; rfl)
    unfold G.eval
    rw [f1, v1]
    simp [e2]
  have dg : G.eval ga_Desk_hear (.dget (.ix (.fld "heard" (.var 0)) (.var 1)) (.var 2) (.var 3)) δ = some (eW w, false, false) := by
    have ix' : G.eval ga_Desk_hear (.ix (.fld "heard" (.var 0)) (.var 1)) δ = some (.dc (m.map fun p => (Sum.inl (p.1 : Int) : Key)) (m.map fun p => eW p.2), false, false) := ix
    have z : ((lk m b).map eW).getD (eW w) = eW w := by
      rw [show ((lk m b).map eW).getD (eW w) = eW ((lk m b).getD w) by cases lk m b <;> rfl, good]
    unfold G.eval
    rw [ix', v2, v3]
    simp only [look_eD, z]
    rfl
  have s4 : G.eval ga_Desk_hear (.ne (.dget (.ix (.fld "heard" (.var 0)) (.var 1)) (.var 2) (.var 3)) (.var 3)) δ = some (.bl false, true, true) := by
    unfold G.eval
    rw [dg, v3]
    simp [eqok_eW, eqv_eW]
  have nd : nodeOf ga_Desk_hear δ 0 [.fld "heard", .ix (.var 1)] = some (0, [0, a], eDk ms, .dc (m.map fun p => (Sum.inl (p.1 : Int) : Key)) (m.map fun p => eW p.2)) := by
    have r0 : rootOf δ 0 = some (0, [], eDk ms) := by subst hδ; rfl
    have hix : ixN (ms.map eD).length (a : Int) = some a := by
      rw [List.length_map]
      unfold ixN
      rw [if_pos (by omega), if_pos (by omega), Int.toNat_natCast]
    have q0 : (eDk ms).sub [] = some (.ob 0 [.ls (ms.map eD)]) := by rw [sub_nil]; rfl
    have q1 : (eDk ms).sub [0] = some (.ls (ms.map eD)) := by
      unfold eDk
      rw [sub_ob]
      simp [sub_nil]
    have q2 : (eDk ms).sub [0, a] = some (eD m) := by
      unfold eDk
      rw [sub_ob]
      simp only [List.getElem?_cons_zero]
      rw [sub_ls, List.getElem?_map, hm]
      simp [sub_nil]
    have st : stepsOf ga_Desk_hear δ (eDk ms) [.fld "heard", .ix (.var 1)] [] = some [0, a] := by
      have c0 : ga_Desk_hear.cn[0]? = some [("heard" : Str)] := rfl
      simp only [stepsOf, q0, c0, fidx, List.length_cons, List.length_nil, List.nil_append, v1, if_true, Nat.zero_add, Nat.zero_lt_one, q1, hix, List.cons_append]
    unfold nodeOf
    rw [r0]
    simp only [st, q2]
    rfl
  have leaf : (m.map fun p => eW p.2).all D.leaf = true := by
    rw [List.all_map, List.all_eq_true]
    intro p _
    rfl
  have hm' : (ms.set a (mput m b w))[a]? = some (mput m b w) := by rw [List.getElem?_set, if_pos rfl, if_pos ha]
  have h6' : lk (mput m b w) 6 = none := by rw [lk_put, if_neg (by omega), h6]
  obtain ⟨c, c1, c2, c3⟩ := first_none _ 6 h6'
  have fin := eval_meth_of (Γ := ga_Desk_hear) (m := 0) (nm := "count_of") (tb := [(0, fd_Desk_count_of)]) (F := fd_Desk_count_of) (o := .var 0) (es := .cons (.var 1) .nil) (δ := [.tr (eDk (ms.set a (mput m b w))), .sh (.int (a : Int)) false, .sh (.int (b : Int)) false, .sh (eW w) false]) (c := 0) (fs := [.ls ((ms.set a (mput m b w)).map eD)]) (ds := [.int (a : Int)]) rfl rfl rfl rfl ⟨rfl, by decide +kernel⟩ (count_of_run hm' c2 c3 c1)
  unfold c_Desk_hear
  rw [xm_exp s1, xm_gd rfl s2, xm_gd rfl s3, xm_gd rfl s4, xm_dput v3 nd v2 rfl leaf (by rw [List.length_map]; exact hl), put_eD, eDk_put ms ha]
  have ed : (δ.map (keepAl 0 [0, a])).set 0 (.tr (eDk (ms.set a (mput m b w)))) = [.tr (eDk (ms.set a (mput m b w))), .sh (.int (a : Int)) false, .sh (.int (b : Int)) false, .sh (eW w) false] := by subst hδ; rfl
  rw [ed]
  exact xm_ret fin rfl
/-! ### a new desk -/
theorem desk_mk {n : Nat} (h1 : 1 ≤ n) (h3 : n ≤ 3) : nd_Desk.run [.int (n : Int)] = some [.ls ((List.replicate n ([] : Mp)).map eD)] := by
  have s0 : stI 3 [.int (n : Int)] = [.no, .sh (.int (n : Int)) false, .no] := rfl
  have v1 : G.eval ga_Desk_init (.var 1) [.no, .sh (.int (n : Int)) false, .no] = some (.int (n : Int), true, false) := rfl
  have ck : G.eval ga_Desk_init ck_Desk_init [.no, .sh (.int (n : Int)) false, .no] = some (.bl false, true, true) := by
    have a2 : evalA ga_Desk_init (.cons (.var 1) (.cons (.int 1) (.cons (.int 3) .nil))) [.no, .sh (.int (n : Int)) false, .no] = some ([.int (n : Int), .int 1, .int 3], true, false) := rfl
    have := eval_call_of (Γ := ga_Desk_init) (k := 1) (F := fd_is_count) rfl a2 rfl (is_count_int (n : Int) 1 3)
    rw [decide_eq_true (show (1 : Int) ≤ (n : Int) by omega), decide_eq_true (show (n : Int) ≤ 3 by omega)] at this
    unfold ck_Desk_init
    unfold G.eval
    rw [this]
    rfl
  have i1 : evalI ga_Desk_init (.itR (.var 1)) [.no, .sh (.int (n : Int)) false, .no] = some ((List.range n).map fun (j : Nat) => D.int (j : Int), true) := by
    unfold evalI
    rw [v1]
    dsimp only
    rw [if_pos (by omega), Int.toNat_natCast, rngD_0]
  obtain ⟨gs, e2⟩ := lcRun_map (t := .nm 2) (g := true) (ef := fun δ2 => G.eval ga_Desk_init .dnew δ2) (δ := wipeD [.no, .sh (.int (n : Int)) false, .no] (Tg.nm 2).sl) (f := fun (j : Nat) => D.int (j : Int)) (y := fun _ => eD []) (List.range n) (fun j _ => ⟨_, rfl, true, rfl⟩)
  have er : (List.range n).map (fun _ => eD []) = (List.replicate n ([] : Mp)).map eD := by
    rw [List.map_replicate]
    refine List.ext_getElem? fun i => ?_
    rw [List.getElem?_map, List.getElem?_replicate]
    by_cases hi : i < n
    · rw [List.getElem?_range hi, if_pos hi]; rfl
    · rw [List.getElem?_eq_none (by simpa using Nat.le_of_not_lt hi), if_neg hi]; rfl
  rw [er] at e2
  have ev : G.eval ga_Desk_init m_Desk_init_1 [.no, .sh (.int (n : Int)) false, .no] = some (.ls ((List.replicate n ([] : Mp)).map eD), true, gs) := eval_lc_of i1 (by simp; omega) e2
  have tr : trF ga_Desk_init c_Desk_init [.ls ((List.replicate n ([] : Mp)).map eD)] = true := by
    unfold c_Desk_init m_Desk_init_1
    simp [trF, trOk]
  have tf : D.tflats [.ls ((List.replicate n ([] : Mp)).map eD)] = true := by
    have : ∀ k : Nat, D.tflats ((List.replicate k ([] : Mp)).map eD) = true := by
      intro k
      induction k with
      | zero => rfl
      | succ k ih =>
        rw [List.replicate_succ, List.map_cons]
        simp only [D.tflats, ih, Bool.and_true]
        rfl
    simp only [D.tflats, D.tflat, this n, Bool.and_true]
  show (match isTst ck_Desk_init, G.eval ga_Desk_init ck_Desk_init (stI 3 [.int (n : Int)]) with
    | true, some (.bl false, _, _) => match evalF ga_Desk_init c_Desk_init (stI 3 [.int (n : Int)]) with
      | some (xs, _) => if (trF ga_Desk_init c_Desk_init xs && D.tflats xs) = true then some xs else none
      | none => none
    | _, _ => none) = _
  rw [s0, ck]
  have ef : evalF ga_Desk_init c_Desk_init [.no, .sh (.int (n : Int)) false, .no] = some ([.ls ((List.replicate n ([] : Mp)).map eD)], (gs || false) && true) := by
    unfold c_Desk_init evalF
    rw [ev]
    rfl
  rw [ef]
  have ti : isTst ck_Desk_init = true := rfl
  rw [ti]
  simp only [tr, tf, Bool.and_self, if_true]
end K09

namespace K09
open PySem L2 G Sh
/-! ### plain: sums -/
theorem sum_set : ∀ {h : List Nat} {a b : Nat}, h[a]? = some b → (h.set a (b + 1)).sum = h.sum + 1
  | [], a, b, e => by simp at e
  | x :: h, 0, b, e => by
    simp at e
    subst e
    simp
    omega
  | x :: h, a + 1, b, e => by
    have := sum_set (h := h) (a := a) (b := b) (by simpa using e)
    simp only [List.set_cons_succ, List.sum_cons, this]
    omega
theorem hd_tail {ws : List Wd} {r : List (List Wd)} {m : Nat} {t : List Nat} (k : Hd (ws :: r) (m :: t)) : m ≤ ws.length ∧ Hd r t :=
  ⟨k.b 0 m ws rfl rfl, by have := k.l; simpa using this, fun i n us h1 h2 => k.b (i + 1) n us (by simpa using h1) (by simpa using h2)⟩
theorem hd_sum : ∀ {notes : List (List Wd)} {h : List Nat}, Hd notes h → h.sum ≤ (notes.map List.length).sum
  | [], [], _ => Nat.le_refl _
  | [], _ :: _, k => by have := k.l; simp at this
  | _ :: _, [], k => by have := k.l; simp at this
  | ws :: r, m :: t, k => by
    obtain ⟨k1, k2⟩ := hd_tail k
    have := hd_sum k2
    simp only [List.map_cons, List.sum_cons]
    omega
theorem hd_full : ∀ {notes : List (List Wd)} {h : List Nat}, Hd notes h → h.sum = (notes.map List.length).sum → h = notes.map List.length
  | [], [], _, _ => rfl
  | [], _ :: _, k, _ => by have := k.l; simp at this
  | _ :: _, [], k, _ => by have := k.l; simp at this
  | ws :: r, m :: t, k, e => by
    obtain ⟨k1, k2⟩ := hd_tail k
    have h1 := hd_sum k2
    simp only [List.map_cons, List.sum_cons] at e ⊢
    have e1 : m = ws.length := by omega
    rw [e1, hd_full k2 (by omega)]
theorem hd_open : ∀ {notes : List (List Wd)} {h : List Nat}, Hd notes h → h.sum < (notes.map List.length).sum → ∃ (a n : Nat) (ws : List Wd), h[a]? = some n ∧ notes[a]? = some ws ∧ n < ws.length
  | [], [], _, e => by simp at e
  | [], _ :: _, k, _ => by have := k.l; simp at this
  | _ :: _, [], k, _ => by have := k.l; simp at this
  | ws :: r, m :: t, k, e => by
    obtain ⟨k1, k2⟩ := hd_tail k
    by_cases z : m < ws.length
    · exact ⟨0, m, ws, rfl, rfl, z⟩
    · simp only [List.map_cons, List.sum_cons] at e
      obtain ⟨a, n, us, h1, h2, h3⟩ := hd_open k2 (by omega)
      exact ⟨a + 1, n, us, by simpa using h1, by simpa using h2, h3⟩
theorem total_le {notes : List (List Wd)} (hn : NOk notes) : (notes.map List.length).sum ≤ 18 := by
  have : ∀ l : List (List Wd), (∀ ws ∈ l, ws.length ≤ 6) → (l.map List.length).sum ≤ 6 * l.length := by
    intro l
    induction l with
    | nil => intro _; simp
    | cons x l ih =>
      intro h
      have := ih fun w hw => h w (.tail _ hw)
      have := h x (.head _)
      simp only [List.map_cons, List.sum_cons, List.length_cons]
      omega
  have := this notes hn.w6
  have := hn.l3
  omega
/-! ### turns -/
def eT (e : Nat × Nat) : D := .tp [.int (e.1 : Int), .int (e.2 : Int)]
def opn (notes : List (List Wd)) (h : List Nat) : List Nat := ((notes.zipIdx 0).filter fun p => decide (h.getD p.2 0 < p.1.length)).map (·.2)
theorem opn_mem {notes : List (List Wd)} {h : List Nat} {a : Nat} : a ∈ opn notes h ↔ ∃ ws, notes[a]? = some ws ∧ h.getD a 0 < ws.length := by
  unfold opn
  rw [List.mem_map]
  constructor
  · rintro ⟨⟨ws, i⟩, h1, rfl⟩
    rw [List.mem_filter] at h1
    obtain ⟨h1, h2⟩ := h1
    obtain ⟨j, hj⟩ := List.mem_iff_getElem?.mp h1
    rw [List.getElem?_zipIdx] at hj
    obtain ⟨x, hx, e⟩ := Option.map_eq_some_iff.mp hj
    simp only [Prod.mk.injEq, Nat.zero_add] at e
    obtain ⟨rfl, rfl⟩ := e
    exact ⟨x, hx, by simpa using h2⟩
  · rintro ⟨ws, h1, h2⟩
    refine ⟨(ws, a), ?_, rfl⟩
    rw [List.mem_filter]
    refine ⟨List.mem_iff_getElem?.mpr ⟨a, ?_⟩, by simpa using h2⟩
    rw [List.getElem?_zipIdx, h1]
    simp
abbrev eI' (h : List Nat) : List D := h.map fun (n : Nat) => D.int (n : Int)
section
variable {ns : List Int} {notes : List (List Wd)}
theorem turns_step (hc : Cells ns) (hn : NOk notes) (by_ j : Nat) (hj : j < 18) {h : List Nat} (hd : Hd notes h) (ho : ∃ (a n : Nat) (ws : List Wd), h[a]? = some n ∧ notes[a]? = some ws ∧ n < ws.length) (es : List (Nat × Nat)) (he : es.length ≤ 100) (k3 g4 g5 : Bool) (x6 x7 x8 : Sl) :
    ∃ e g4' g5' y6 y7 y8, h[e.1]? = some e.2 ∧ Fits notes e ∧ G.exec ga__law_turns l__law_turns_1 [.sh (.ls (ns.map D.int)) false, .sh (.int (by_ : Int)) false, .sh (eN notes) false, .sh (.int (j : Int)) k3, .ow (eI' h) g4, .ow (es.map eT) g5, x6, x7, x8] =
      some (.nx [.sh (.ls (ns.map D.int)) false, .sh (.int (by_ : Int)) false, .sh (eN notes) false, .sh (.int (j : Int)) k3, .ow (eI' (go1 h e)) g4', .ow ((es ++ [e]).map eT) g5', y6, y7, y8]) := by
  have h3 := hn.l3
  -- the open ones
  have i1 : evalI ga__law_turns (.itE (.var 2)) [.sh (.ls (ns.map D.int)) false, .sh (.int (by_ : Int)) false, .sh (eN notes) false, .sh (.int (j : Int)) k3, .ow (eI' h) g4, .ow (es.map eT) g5, x6, x7, x8] = some ((notes.zipIdx 0).map fun p : List Wd × Nat => .tp [.int (p.2 : Int), eL p.1], false) := by
    have e2 := enumD_map eL 0 notes
    unfold evalI
    simp [G.eval, eN, e2]
  obtain ⟨gs, e2⟩ := lcRun_filter (t := .t2 (.nm 7) (.nm 8)) (g := false) (cf := fun δ2 => tst (G.eval ga__law_turns (.cmp .lt (.oix 4 (.var 7)) (.len (.var 8))) δ2)) (ef := fun δ2 => G.eval ga__law_turns (.var 7) δ2)
    (δ := wipeD [.sh (.ls (ns.map D.int)) false, .sh (.int (by_ : Int)) false, .sh (eN notes) false, .sh (.int (j : Int)) k3, .ow (eI' h) g4, .ow (es.map eT) g5, x6, x7, x8] (Tg.t2 (.nm 7) (.nm 8)).sl) (f := fun p : List Wd × Nat => .tp [.int (p.2 : Int), eL p.1]) (y := fun p => .int (p.2 : Int)) (p := fun p => decide (h.getD p.2 0 < p.1.length)) (notes.zipIdx 0)
    (fun p hp => by
      obtain ⟨i, hi⟩ := List.mem_iff_getElem?.mp hp
      rw [List.getElem?_zipIdx] at hi
      obtain ⟨ws, hw, rfl⟩ := Option.map_eq_some_iff.mp hi
      have hil : i < h.length := by rw [hd.l]; exact (List.getElem?_eq_some_iff.mp hw).1
      have at1 : atI (eI' h) ((0 + i : Nat) : Int) = some (.int ((h.getD i 0 : Nat) : Int)) := by
        rw [Nat.zero_add]
        exact G.atI_nat (by rw [List.getElem?_map, List.getElem?_eq_getElem hil, List.getD_eq_getElem?_getD, List.getElem?_eq_getElem hil]; rfl)
      refine ⟨[.sh (.ls (ns.map D.int)) false, .sh (.int (by_ : Int)) false, .sh (eN notes) false, .sh (.int (j : Int)) k3, .ow (eI' h) g4, .ow (es.map eT) g5, x6, .sh (.int ((0 + i : Nat) : Int)) false, .sh (eL ws) false], rfl, ?_, fun _ => ⟨false, rfl⟩⟩
      have e7 : G.eval ga__law_turns (.oix 4 (.var 7)) [.sh (.ls (ns.map D.int)) false, .sh (.int (by_ : Int)) false, .sh (eN notes) false, .sh (.int (j : Int)) k3, .ow (eI' h) g4, .ow (es.map eT) g5, x6, .sh (.int ((0 + i : Nat) : Int)) false, .sh (eL ws) false] = some (.int ((h.getD i 0 : Nat) : Int), true, g4) := by
        simp only [G.eval, List.getElem?_cons_succ, List.getElem?_cons_zero, at1]
      have e8 : G.eval ga__law_turns (.len (.var 8)) [.sh (.ls (ns.map D.int)) false, .sh (.int (by_ : Int)) false, .sh (eN notes) false, .sh (.int (j : Int)) k3, .ow (eI' h) g4, .ow (es.map eT) g5, x6, .sh (.int ((0 + i : Nat) : Int)) false, .sh (eL ws) false] = some (.int (ws.length : Int), true, true) := by
        simp [G.eval, eL]
      have e9 : G.eval ga__law_turns (.cmp .lt (.oix 4 (.var 7)) (.len (.var 8))) [.sh (.ls (ns.map D.int)) false, .sh (.int (by_ : Int)) false, .sh (eN notes) false, .sh (.int (j : Int)) k3, .ow (eI' h) g4, .ow (es.map eT) g5, x6, .sh (.int ((0 + i : Nat) : Int)) false, .sh (eL ws) false] = some (.bl (decide (((h.getD i 0 : Nat) : Int) < (ws.length : Int))), true, true) := by
        unfold G.eval
        rw [e7, e8]
        rfl
      show tst (G.eval ga__law_turns _ _) = _
      rw [e9]
      simp only [tst, Nat.zero_add, Option.some.injEq, decide_eq_decide]
      omega)
  have ef : ((notes.zipIdx 0).filter fun p => decide (h.getD p.2 0 < p.1.length)).map (fun p => D.int (p.2 : Int)) = eI' (opn notes h) := by
    unfold opn eI'
    rw [List.map_map]
    rfl
  rw [ef] at e2
  have ev6 : G.eval ga__law_turns m__law_turns_2 [.sh (.ls (ns.map D.int)) false, .sh (.int (by_ : Int)) false, .sh (eN notes) false, .sh (.int (j : Int)) k3, .ow (eI' h) g4, .ow (es.map eT) g5, x6, x7, x8] = some (.ls (eI' (opn notes h)), true, gs) := eval_lcf_of i1 (by simp; omega) rfl e2
  have one : opn notes h ≠ [] := by
    obtain ⟨a, n, ws, h1, h2, h3⟩ := ho
    refine List.ne_nil_of_mem (a := a) (opn_mem.mpr ⟨ws, h2, ?_⟩)
    rw [List.getD_eq_getElem?_getD, h1]
    exact h3
  have opos : 0 < (opn notes h).length := List.length_pos_iff.mpr one
  -- the one
  obtain ⟨v, hv, v0⟩ := val_run hc (by_ + j % 7) (23 * (j : Int)) 4 (by omega) (by omega) (by decide) (by decide)
  have ca := cell_at_run ns (by_ + j % 7)
  rw [show ((by_ + j % 7 : Nat) : Int) = (by_ : Int) + (j : Int) % 7 by omega] at ca
  have m1 : mulok 23 (j : Int) = true := mul_left (by decide)
  obtain ⟨q, hq, hql⟩ : ∃ q : Nat, v % ((opn notes h).length : Int) = (q : Int) ∧ q < (opn notes h).length := ⟨(v % ((opn notes h).length : Int)).toNat, by have := Int.emod_nonneg v (show ((opn notes h).length : Int) ≠ 0 by omega); omega, by have := Int.emod_nonneg v (show ((opn notes h).length : Int) ≠ 0 by omega); have := Int.emod_lt_of_pos v (show (0 : Int) < ((opn notes h).length : Int) by omega); omega⟩
  obtain ⟨a, haq⟩ : ∃ a, (opn notes h)[q]? = some a := ⟨_, List.getElem?_eq_getElem hql⟩
  obtain ⟨ws, hw, hlt⟩ := opn_mem.mp (List.mem_of_getElem? haq)
  have hal : a < h.length := by rw [hd.l]; exact (List.getElem?_eq_some_iff.mp hw).1
  have hga : h[a]? = some (h.getD a 0) := by rw [List.getD_eq_getElem?_getD, List.getElem?_eq_getElem hal]; rfl
  have ev7 : G.eval ga__law_turns (.ix (.var 6) (.bin .mod (.call 24 (.cons (.bin .add (.call 22 (.cons (.var 0) (.cons (.bin .add (.var 1) (.bin .mod (.var 3) (.int 7))) .nil))) (.bin .mul (.int 23) (.var 3))) (.cons (.int 4) .nil))) (.len (.var 6)))) [.sh (.ls (ns.map D.int)) false, .sh (.int (by_ : Int)) false, .sh (eN notes) false, .sh (.int (j : Int)) k3, .ow (eI' h) g4, .ow (es.map eT) g5, .sh (.ls (eI' (opn notes h))) gs, x7, x8] = some (.int (a : Int), true, gs) := by
    have c1 : G.eval ga__law_turns (.call 24 (.cons (.bin .add (.call 22 (.cons (.var 0) (.cons (.bin .add (.var 1) (.bin .mod (.var 3) (.int 7))) .nil))) (.bin .mul (.int 23) (.var 3))) (.cons (.int 4) .nil))) [.sh (.ls (ns.map D.int)) false, .sh (.int (by_ : Int)) false, .sh (eN notes) false, .sh (.int (j : Int)) k3, .ow (eI' h) g4, .ow (es.map eT) g5, .sh (.ls (eI' (opn notes h))) gs, x7, x8] = some (.int v, true, true) := by
      simp only [List.getD_eq_getElem?_getD] at hv ca
      simp [G.eval, evalA, Bo.run, ix__law_turns__law_value, ix__law_turns__law_cell_at, ar__law_value, fr__law_value, ar__law_cell_at, fr__law_cell_at, ca, m1, hv, D.flat]
    have c2 : G.eval ga__law_turns (.len (.var 6)) [.sh (.ls (ns.map D.int)) false, .sh (.int (by_ : Int)) false, .sh (eN notes) false, .sh (.int (j : Int)) k3, .ow (eI' h) g4, .ow (es.map eT) g5, .sh (.ls (eI' (opn notes h))) gs, x7, x8] = some (.int ((opn notes h).length : Int), true, true) := by
      simp [G.eval]
    have c3 : G.eval ga__law_turns (.bin .mod (.call 24 (.cons (.bin .add (.call 22 (.cons (.var 0) (.cons (.bin .add (.var 1) (.bin .mod (.var 3) (.int 7))) .nil))) (.bin .mul (.int 23) (.var 3))) (.cons (.int 4) .nil))) (.len (.var 6))) [.sh (.ls (ns.map D.int)) false, .sh (.int (by_ : Int)) false, .sh (eN notes) false, .sh (.int (j : Int)) k3, .ow (eI' h) g4, .ow (es.map eT) g5, .sh (.ls (eI' (opn notes h))) gs, x7, x8] = some (.int (q : Int), true, true) := by
      unfold G.eval
      rw [c1, c2]
      simp only [Bo.run, if_pos (show (0 : Int) < ((opn notes h).length : Int) by omega), hq]
    have c4 : atI (eI' (opn notes h)) (q : Int) = some (.int (a : Int)) := G.atI_nat (by rw [List.getElem?_map, haq]; rfl)
    have c5 : G.eval ga__law_turns (.var 6) [.sh (.ls (ns.map D.int)) false, .sh (.int (by_ : Int)) false, .sh (eN notes) false, .sh (.int (j : Int)) k3, .ow (eI' h) g4, .ow (es.map eT) g5, .sh (.ls (eI' (opn notes h))) gs, x7, x8] = some (.ls (eI' (opn notes h)), true, gs) := rfl
    unfold G.eval
    rw [c5, c3]
    simp only [c4]
  have at4 : atI (eI' h) (a : Int) = some (.int ((h.getD a 0 : Nat) : Int)) := G.atI_nat (by rw [List.getElem?_map, hga]; rfl)
  have o7 : ∀ (x5 : Sl), G.eval ga__law_turns (.oix 4 (.var 7)) [.sh (.ls (ns.map D.int)) false, .sh (.int (by_ : Int)) false, .sh (eN notes) false, .sh (.int (j : Int)) k3, .ow (eI' h) g4, x5, .sh (.ls (eI' (opn notes h))) gs, .sh (.int (a : Int)) gs, x8] = some (.int ((h.getD a 0 : Nat) : Int), true, g4) := fun x5 => by
    simp only [G.eval, List.getElem?_cons_succ, List.getElem?_cons_zero, at4]
  have ev5 : G.eval ga__law_turns (.tup (.cons (.var 7) (.cons (.oix 4 (.var 7)) .nil))) [.sh (.ls (ns.map D.int)) false, .sh (.int (by_ : Int)) false, .sh (eN notes) false, .sh (.int (j : Int)) k3, .ow (eI' h) g4, .ow (es.map eT) g5, .sh (.ls (eI' (opn notes h))) gs, .sh (.int (a : Int)) gs, x8] = some (eT (a, h.getD a 0), true, gs && (g4 && true)) := by
    have eA : evalA ga__law_turns (.cons (.var 7) (.cons (.oix 4 (.var 7)) .nil)) [.sh (.ls (ns.map D.int)) false, .sh (.int (by_ : Int)) false, .sh (eN notes) false, .sh (.int (j : Int)) k3, .ow (eI' h) g4, .ow (es.map eT) g5, .sh (.ls (eI' (opn notes h))) gs, .sh (.int (a : Int)) gs, x8] = some ([.int (a : Int), .int ((h.getD a 0 : Nat) : Int)], true, gs && (g4 && true)) := by
      have v7 : G.eval ga__law_turns (.var 7) [.sh (.ls (ns.map D.int)) false, .sh (.int (by_ : Int)) false, .sh (eN notes) false, .sh (.int (j : Int)) k3, .ow (eI' h) g4, .ow (es.map eT) g5, .sh (.ls (eI' (opn notes h))) gs, .sh (.int (a : Int)) gs, x8] = some (.int (a : Int), true, gs) := rfl
      simp only [evalA, v7, o7]
      rfl
    unfold G.eval
    rw [eA]
    rfl
  have x5 := exec_app_of (Γ := ga__law_turns) (i := 5) (ds := es.map eT) (g := g5) rfl ev5 (by rw [List.length_map]; omega)
  have ixa : ixN (eI' h).length (a : Int) = some a := by
    unfold ixN
    rw [List.length_map, if_pos (by omega), if_pos (by omega), Int.toNat_natCast]
  generalize hg5 : (g5 && ((gs && (g4 && true)) || (eT (a, h.getD a 0)).flat)) = g5' at x5
  have x4 : G.exec ga__law_turns (.six 4 (.var 7) (.bin .add (.oix 4 (.var 7)) (.int 1))) [.sh (.ls (ns.map D.int)) false, .sh (.int (by_ : Int)) false, .sh (eN notes) false, .sh (.int (j : Int)) k3, .ow (eI' h) g4, .ow (es.map eT ++ [eT (a, h.getD a 0)]) g5', .sh (.ls (eI' (opn notes h))) gs, .sh (.int (a : Int)) gs, x8] = some (.nx [.sh (.ls (ns.map D.int)) false, .sh (.int (by_ : Int)) false, .sh (eN notes) false, .sh (.int (j : Int)) k3, .ow ((eI' h).set a (.int ((h.getD a 0 + 1 : Nat) : Int))) (g4 && true), .ow (es.map eT ++ [eT (a, h.getD a 0)]) g5', .sh (.ls (eI' (opn notes h))) gs, .sh (.int (a : Int)) gs, x8]) := by
    have b1 : G.eval ga__law_turns (.bin .add (.oix 4 (.var 7)) (.int 1)) [.sh (.ls (ns.map D.int)) false, .sh (.int (by_ : Int)) false, .sh (eN notes) false, .sh (.int (j : Int)) k3, .ow (eI' h) g4, .ow (es.map eT ++ [eT (a, h.getD a 0)]) g5', .sh (.ls (eI' (opn notes h))) gs, .sh (.int (a : Int)) gs, x8] = some (.int ((h.getD a 0 + 1 : Nat) : Int), true, true) := by
      have z : G.eval ga__law_turns (.int 1) [.sh (.ls (ns.map D.int)) false, .sh (.int (by_ : Int)) false, .sh (eN notes) false, .sh (.int (j : Int)) k3, .ow (eI' h) g4, .ow (es.map eT ++ [eT (a, h.getD a 0)]) g5', .sh (.ls (eI' (opn notes h))) gs, .sh (.int (a : Int)) gs, x8] = some (.int 1, true, true) := rfl
      unfold G.eval
      rw [o7, z]
      simp [Bo.run]
    have b2 : G.eval ga__law_turns (.var 7) [.sh (.ls (ns.map D.int)) false, .sh (.int (by_ : Int)) false, .sh (eN notes) false, .sh (.int (j : Int)) k3, .ow (eI' h) g4, .ow (es.map eT ++ [eT (a, h.getD a 0)]) g5', .sh (.ls (eI' (opn notes h))) gs, .sh (.int (a : Int)) gs, x8] = some (.int (a : Int), true, gs) := rfl
    unfold G.exec
    simp only [List.getElem?_cons_succ, List.getElem?_cons_zero]
    rw [b1, b2]
    simp only [ixa]
    rfl
  have es1 : (eI' h).set a (.int ((h.getD a 0 + 1 : Nat) : Int)) = eI' (go1 h (a, h.getD a 0)) := by
    unfold eI' go1
    rw [List.map_set]
  have es2 : es.map eT ++ [eT (a, h.getD a 0)] = (es ++ [(a, h.getD a 0)]).map eT := by rw [List.map_append]; rfl
  refine ⟨(a, h.getD a 0), g4 && true, g5', .sh (.ls (eI' (opn notes h))) gs, .sh (.int (a : Int)) gs, x8, hga, ⟨ws, hw, hlt⟩, ?_⟩
  unfold l__law_turns_1
  refine exec_nx (exec_asg_of ev6) (exec_nx (exec_asg_of ev7) (exec_nx x5 ?_))
  rw [← es1, ← es2]
  exact exec_nx x4 rfl
theorem turns_run (hc : Cells ns) (hn : NOk notes) (by_ : Nat) : ∃ es : List (Nat × Nat), Go notes (notes.map fun _ => 0) es ∧ fin (notes.map fun _ => 0) es = notes.map List.length ∧ es.length ≤ 18 ∧ fd__law_turns.run [.ls (ns.map D.int), .int (by_ : Int), eN notes] = some (.ls (es.map eT)) := by
  have h3 := hn.l3
  have ht := total_le hn
  generalize hT : (notes.map List.length).sum = T at ht
  have s0 : st0 9 [.ls (ns.map D.int), .int (by_ : Int), eN notes] = [.sh (.ls (ns.map D.int)) false, .sh (.int (by_ : Int)) false, .sh (eN notes) false, .no, .no, .no, .no, .no, .no] := rfl
  have e1 : G.exec ga__law_turns (.par 4 5 true true (.rep (.lst (.cons (.int 0) .nil)) (.len (.var 2))) (.lst .nil)) [.sh (.ls (ns.map D.int)) false, .sh (.int (by_ : Int)) false, .sh (eN notes) false, .no, .no, .no, .no, .no, .no] = some (.nx [.sh (.ls (ns.map D.int)) false, .sh (.int (by_ : Int)) false, .sh (eN notes) false, .no, .ow (eI' (notes.map fun _ => 0)) true, .ow [] true, .no, .no, .no]) := by
    have c1 : G.eval ga__law_turns (.rep (.lst (.cons (.int 0) .nil)) (.len (.var 2))) [.sh (.ls (ns.map D.int)) false, .sh (.int (by_ : Int)) false, .sh (eN notes) false, .no, .no, .no, .no, .no, .no] = some (.ls (eI' (notes.map fun _ => 0)), true, true) := by
      have b1 : G.eval ga__law_turns (.lst (.cons (.int 0) .nil)) [.sh (.ls (ns.map D.int)) false, .sh (.int (by_ : Int)) false, .sh (eN notes) false, .no, .no, .no, .no, .no, .no] = some (.ls [.int 0], true, true) := rfl
      have b2 : G.eval ga__law_turns (.len (.var 2)) [.sh (.ls (ns.map D.int)) false, .sh (.int (by_ : Int)) false, .sh (eN notes) false, .no, .no, .no, .no, .no, .no] = some (.int (notes.length : Int), true, true) := by simp [G.eval, eN]
      have b3 : (List.replicate (notes.length : Int).toNat [D.int 0]).flatten = eI' (notes.map fun _ => 0) := by
        rw [Int.toNat_natCast]
        unfold eI'
        rw [List.map_map]
        clear hT hn h3 s0 b1 b2
        induction notes with
        | nil => rfl
        | cons x l ih =>
          rw [List.length_cons, List.replicate_succ, List.flatten_cons, ih]
          rfl
      unfold G.eval
      rw [b1, b2]
      simp only [List.length_cons, List.length_nil]
      rw [if_pos (by omega), b3]
      rfl
    have c2 : G.eval ga__law_turns (.lst .nil) [.sh (.ls (ns.map D.int)) false, .sh (.int (by_ : Int)) false, .sh (eN notes) false, .no, .no, .no, .no, .no, .no] = some (.ls [], true, true) := rfl
    unfold G.exec
    rw [c1]
    simp only [slotOf, isNew, if_true]
    rw [c2]
    rfl
  have i1 : evalI ga__law_turns (.itR (.sum m__law_turns_1)) [.sh (.ls (ns.map D.int)) false, .sh (.int (by_ : Int)) false, .sh (eN notes) false, .no, .ow (eI' (notes.map fun _ => 0)) true, .ow [] true, .no, .no, .no] = some ((List.range T).map fun (k : Nat) => D.int (k : Int), true) := by
    obtain ⟨gs, e2⟩ := lcRun_map (t := .nm 8) (g := false) (ef := fun δ2 => G.eval ga__law_turns (.len (.var 8)) δ2) (δ := wipeD [.sh (.ls (ns.map D.int)) false, .sh (.int (by_ : Int)) false, .sh (eN notes) false, .no, .ow (eI' (notes.map fun _ => 0)) true, .ow [] true, .no, .no, .no] (Tg.nm 8).sl) (f := eL) (y := fun ws => .int (ws.length : Int)) notes (fun ws _ => ⟨_, rfl, true, by simp [G.eval, eL, wipeD, Tg.sl]⟩)
    have ev : G.eval ga__law_turns m__law_turns_1 [.sh (.ls (ns.map D.int)) false, .sh (.int (by_ : Int)) false, .sh (eN notes) false, .no, .ow (eI' (notes.map fun _ => 0)) true, .ow [] true, .no, .no, .no] = some (.ls ((notes.map fun ws => (ws.length : Int)).map D.int), true, gs) := by
      rw [List.map_map]
      exact eval_lc_of (ds := notes.map eL) (g := false) rfl (by simp; omega) e2
    have es : (notes.map fun ws => (ws.length : Int)).sum = (T : Int) := by
      rw [← hT]
      clear hT hn h3 s0 e1 e2 ev
      induction notes with
      | nil => rfl
      | cons x l ih => simp only [List.map_cons, List.sum_cons, ih]; omega
    have ev2 : G.eval ga__law_turns (.sum m__law_turns_1) [.sh (.ls (ns.map D.int)) false, .sh (.int (by_ : Int)) false, .sh (eN notes) false, .no, .ow (eI' (notes.map fun _ => 0)) true, .ow [] true, .no, .no, .no] = some (.int (T : Int), true, true) := by
      unfold G.eval
      rw [ev]
      simp only [intsOf_map, es]
    unfold evalI
    rw [ev2]
    dsimp only
    rw [if_pos (by omega), Int.toNat_natCast, rngD_0]
  obtain ⟨δ', e, es, y3, g4, g5, y6, y7, y8, rfl, hl, hg, hs⟩ := forRun_fold (t := .nm 3) (g := true) (ex := fun δ => G.exec ga__law_turns l__law_turns_1 δ) (f := fun (k : Nat) => D.int (k : Int)) (up := fun (u : Unit) _ => u)
    (fun j _ δ => ∃ (es : List (Nat × Nat)) (y3 : Sl) (g4 g5 : Bool) (y6 y7 y8 : Sl), δ = [.sh (.ls (ns.map D.int)) false, .sh (.int (by_ : Int)) false, .sh (eN notes) false, y3, .ow (eI' (fin (notes.map fun _ => 0) es)) g4, .ow (es.map eT) g5, y6, y7, y8] ∧ es.length = j ∧ Go notes (notes.map fun _ => 0) es ∧ (fin (notes.map fun _ => 0) es).sum = j) (List.range T) 0 () _ ⟨[], .no, true, true, .no, .no, .no, rfl, rfl, trivial, by
      show (notes.map fun _ => 0).sum = 0
      clear hT hn h3 s0 e1 i1
      induction notes with
      | nil => rfl
      | cons x l ih => simp only [List.map_cons, List.sum_cons, ih]⟩ (by
      rintro j a _ δ hj ⟨es, y3, g4, g5, y6, y7, y8, rfl, hl, hg, hs⟩
      have hj' : j < T := by
        have := (List.getElem?_eq_some_iff.mp hj).1
        simpa using this
      rw [List.getElem?_range hj'] at hj
      cases hj
      have hd := hd_fin (Hd.zero notes) hg
      obtain ⟨e, g4', g5', z6, z7, z8, q1, q2, q3⟩ := turns_step hc hn by_ j (by omega) hd (hd_open hd (by omega)) es (by omega) true g4 g5 y6 y7 y8
      refine ⟨_, _, rfl, q3, es ++ [e], .sh (.int (j : Int)) true, g4', g5', z6, z7, z8, ?_, by simp; omega, go_snoc es _ e hg q1 q2, ?_⟩
      · rw [fin_snoc]
      · rw [fin_snoc]
        unfold go1
        rw [sum_set q1]
        omega)
  simp only [List.length_range, Nat.zero_add] at hl hs
  refine ⟨es, hg, hd_full (hd_fin (Hd.zero notes) hg) (by omega), by omega, ?_⟩
  show endOf false (G.exec ga__law_turns c__law_turns (st0 9 [.ls (ns.map D.int), .int (by_ : Int), eN notes])) = _
  rw [s0]
  unfold c__law_turns
  rw [exec_nx e1 (exec_nx (exec_loop_of i1 e) (exec_rt (exec_ret_of (r := (.ls (es.map eT), false, g5)) rfl)))]
  rfl
end
end K09

namespace K09
open PySem L2 G Sh
/-! ### games to two points -/
def eB (b : Bool) : D := .int (if b = true then 1 else 0)
theorem gone_step (x0 x1 : Sl) (ws : List D) (hw : ws.length < 1000) (x y : Nat) (hx : x ≤ 1) (hy : y ≤ 1) (b : Bool) :
    ∃ ws' x' y', x' ≤ 1 ∧ y' ≤ 1 ∧ 2 * ws'.length + x' + y' ≤ 2 * ws.length + x + y + 1 ∧ G.exec ga_gone_over l_gone_over_1 [x0, x1, .sh (eB b) false, .sh (.int 2) false, .sh (.int 1) false, .ow ws true, .ow [.int (x : Int), .int (y : Int)] true] =
      some (.nx [x0, x1, .sh (eB b) false, .sh (.int 2) false, .sh (.int 1) false, .ow ws' true, .ow [.int (x' : Int), .int (y' : Int)] true]) := by
  have hw' : ws.length < 100000 := by omega
  have hx : x = 0 ∨ x = 1 := by omega
  have hy : y = 0 ∨ y = 1 := by omega
  cases b
  · rcases hx with rfl | rfl
    · refine ⟨ws, 1, y, by omega, by omega, by omega, ?_⟩
      rcases hy with rfl | rfl <;> simp [eB, l_gone_over_1, G.exec, G.eval, isTst, atI_0, atI_1, ixN, Co.f, Bo.run]
    · refine ⟨ws ++ [eB false], 0, 0, by omega, by omega, by simp; omega, ?_⟩
      rcases hy with rfl | rfl <;> simp [eB, l_gone_over_1, G.exec, G.eval, evalA, isTst, atI_0, atI_1, ixN, Co.f, Bo.run, slotOf, isNew, hw', D.flat]
  · rcases hy with rfl | rfl
    · refine ⟨ws, x, 1, by omega, by omega, by omega, ?_⟩
      rcases hx with rfl | rfl <;> simp [eB, l_gone_over_1, G.exec, G.eval, isTst, atI_0, atI_1, ixN, Co.f, Bo.run]
    · refine ⟨ws ++ [eB true], 0, 0, by omega, by omega, by simp; omega, ?_⟩
      rcases hx with rfl | rfl <;> simp [eB, l_gone_over_1, G.exec, G.eval, evalA, isTst, atI_0, atI_1, ixN, Co.f, Bo.run, slotOf, isNew, hw', D.flat]
theorem gone_over_run (ps : List Bool) (hl : ps.length ≤ 60) : ∃ ws x y, x ≤ 1 ∧ y ≤ 1 ∧ 2 * ws.length + x + y ≤ ps.length ∧ fd_gone_over.run [.tp [.int 2, .int 1], .ls (ps.map eB)] = some (.tp [.ls ws, .tp [.int (x : Nat), .int (y : Nat)]]) := by
  have s0 : st0 7 [.tp [.int 2, .int 1], .ls (ps.map eB)] = [.sh (.tp [.int 2, .int 1]) false, .sh (.ls (ps.map eB)) false, .no, .no, .no, .no, .no] := rfl
  have e1 : G.exec ga_gone_over (.asg (.t2 (.nm 3) (.nm 4)) (.var 0)) [.sh (.tp [.int 2, .int 1]) false, .sh (.ls (ps.map eB)) false, .no, .no, .no, .no, .no] = some (.nx [.sh (.tp [.int 2, .int 1]) false, .sh (.ls (ps.map eB)) false, .no, .sh (.int 2) false, .sh (.int 1) false, .no, .no]) := rfl
  have e2 : G.exec ga_gone_over (.par 5 6 true true (.lst .nil) (.lst (.cons (.int 0) (.cons (.int 0) .nil)))) [.sh (.tp [.int 2, .int 1]) false, .sh (.ls (ps.map eB)) false, .no, .sh (.int 2) false, .sh (.int 1) false, .no, .no] = some (.nx [.sh (.tp [.int 2, .int 1]) false, .sh (.ls (ps.map eB)) false, .no, .sh (.int 2) false, .sh (.int 1) false, .ow [] true, .ow [.int ((0 : Nat) : Int), .int ((0 : Nat) : Int)] true]) := rfl
  obtain ⟨δ', e, y2, ws, x, y, rfl, hx, hy, hb⟩ := forRun_fold (t := .nm 2) (g := false) (ex := fun δ => G.exec ga_gone_over l_gone_over_1 δ) (f := eB) (up := fun (u : Unit) _ => u)
    (fun j _ δ => ∃ (y2 : Sl) (ws : List D) (x y : Nat), δ = [.sh (.tp [.int 2, .int 1]) false, .sh (.ls (ps.map eB)) false, y2, .sh (.int 2) false, .sh (.int 1) false, .ow ws true, .ow [.int (x : Int), .int (y : Int)] true] ∧ x ≤ 1 ∧ y ≤ 1 ∧ 2 * ws.length + x + y ≤ j) ps 0 () _ ⟨.no, [], 0, 0, rfl, by omega, by omega, by simp⟩ (by
      rintro j b _ δ hj ⟨y2, ws, x, y, rfl, hx, hy, hb⟩
      have hj' : j < ps.length := (List.getElem?_eq_some_iff.mp hj).1
      obtain ⟨ws', x', y', q1, q2, q3, q4⟩ := gone_step (.sh (.tp [.int 2, .int 1]) false) (.sh (.ls (ps.map eB)) false) ws (by omega) x y hx hy b
      exact ⟨_, _, rfl, q4, _, ws', x', y', rfl, q1, q2, by omega⟩)
  refine ⟨ws, x, y, hx, hy, by omega, ?_⟩
  show endOf true (G.exec ga_gone_over c_gone_over (st0 7 [.tp [.int 2, .int 1], .ls (ps.map eB)])) = _
  rw [s0]
  have i1 : evalI ga_gone_over (.itL (.var 1)) [.sh (.tp [.int 2, .int 1]) false, .sh (.ls (ps.map eB)) false, .no, .sh (.int 2) false, .sh (.int 1) false, .ow [] true, .ow [.int ((0 : Nat) : Int), .int ((0 : Nat) : Int)] true] = some (ps.map eB, false) := rfl
  have r1 : G.eval ga_gone_over (.tup (.cons (.var 5) (.cons (.tup (.cons (.oix 6 (.int 0)) (.cons (.oix 6 (.int 1)) .nil))) .nil))) [.sh (.tp [.int 2, .int 1]) false, .sh (.ls (ps.map eB)) false, y2, .sh (.int 2) false, .sh (.int 1) false, .ow ws true, .ow [.int (x : Int), .int (y : Int)] true] = some (.tp [.ls ws, .tp [.int (x : Int), .int (y : Int)]], false, true) := by
    simp [G.eval, evalA, atI_0, atI_1]
  unfold c_gone_over
  rw [exec_nx e1 (exec_nx e2 (exec_nx (exec_loop_of i1 e) (exec_rt (exec_ret_of r1))))]
  rfl
theorem check_game_run (ps : List Bool) (hl : ps.length ≤ 60) : fd_check_game.run [.tp [.int 2, .int 1], .ls (ps.map eB)] = some .non := by
  have s0 : st0 3 [.tp [.int 2, .int 1], .ls (ps.map eB)] = [.sh (.tp [.int 2, .int 1]) false, .sh (.ls (ps.map eB)) false, .no] := rfl
  show endOf false (G.exec ga_check_game c_check_game (st0 3 [.tp [.int 2, .int 1], .ls (ps.map eB)])) = _
  rw [s0]
  obtain ⟨L, gs, e, b⟩ := lcRun_bls (t := .nm 2) (g := false) (ef := fun δ2 => G.eval ga_check_game (.call 1 (.cons (.var 2) (.cons (.int 0) (.cons (.int 1) .nil)))) δ2) (δ := wipeD [.sh (.tp [.int 2, .int 1]) false, .sh (.ls (ps.map eB)) false, .no] (Tg.nm 2).sl) (f := eB) (p := fun _ => true) ps
    (fun p _ => ⟨_, rfl, true, by cases p <;> simp [eB, G.eval, evalA, wipeD, Tg.sl, ix_check_game_is_count, ar_is_count, fr_is_count, is_count_int, D.flat]⟩)
  have e2 : G.eval ga_check_game m_check_game_1 [.sh (.tp [.int 2, .int 1]) false, .sh (.ls (ps.map eB)) false, .no] = some (.ls L, true, gs) := eval_lc_of (ds := ps.map eB) (g := false) rfl (by rw [List.length_map]; omega) e
  have c : ¬ 60 < (ps.length : Int) := by omega
  unfold c_check_game
  refine Eq.trans (congrArg (endOf _) (exec_nx (δ1 := [.sh (.tp [.int 2, .int 1]) false, .sh (.ls (ps.map eB)) false, .no]) ?_ (exec_nx (δ1 := [.sh (.tp [.int 2, .int 1]) false, .sh (.ls (ps.map eB)) false, .no]) ?_ (exec_nx (δ1 := [.sh (.tp [.int 2, .int 1]) false, .sh (.ls (ps.map eB)) false, .no]) ?_ (z := some (.nx [.sh (.tp [.int 2, .int 1]) false, .sh (.ls (ps.map eB)) false, .no])) rfl)))) rfl
  · simp [G.exec, G.eval, evalA, isTst, isT, atI_0, atI_1, eqok_okn, okn_int, eqv_int, ix_check_game_is_count, ar_is_count, fr_is_count, is_count_int, D.flat]
  · simp [G.exec, G.eval, evalA, isTst, isT, atI_0, atI_1, ix_check_game_is_count, ar_is_count, fr_is_count, is_count_int, D.flat]
  · refine (exec_ite_f (f := true) (g := true) rfl ?_).trans rfl
    simp [G.eval, isT, Co.f, c, e2, b, all_trues, all_tt]
theorem games_run (ps : List Bool) (hl : ps.length ≤ 60) : ∃ ws x y, x ≤ 1 ∧ y ≤ 1 ∧ 2 * ws.length + x + y ≤ ps.length ∧ fd_games.run [.tp [.int 2, .int 1], .ls (ps.map eB)] = some (.tp [.ls ws, .tp [.int (x : Nat), .int (y : Nat)]]) := by
  obtain ⟨ws, x, y, h1, h2, h3, h4⟩ := gone_over_run ps hl
  refine ⟨ws, x, y, h1, h2, h3, ?_⟩
  have s0 : st0 2 [.tp [.int 2, .int 1], .ls (ps.map eB)] = [.sh (.tp [.int 2, .int 1]) false, .sh (.ls (ps.map eB)) false] := rfl
  show endOf true (G.exec ga_games c_games (st0 2 [.tp [.int 2, .int 1], .ls (ps.map eB)])) = _
  rw [s0]
  have a1 : evalA ga_games (.cons (.var 0) (.cons (.var 1) .nil)) [.sh (.tp [.int 2, .int 1]) false, .sh (.ls (ps.map eB)) false] = some ([.tp [.int 2, .int 1], .ls (ps.map eB)], true, false) := rfl
  have e1 := eval_call_of (Γ := ga_games) (k := 14) (F := fd_check_game) rfl a1 rfl (check_game_run ps hl)
  have e2 := eval_call_of (Γ := ga_games) (k := 13) (F := fd_gone_over) rfl a1 rfl h4
  unfold c_games
  rw [exec_nx (exec_exp_of e1) (exec_rt (exec_ret_of e2))]
  rfl
end K09

namespace K09
open PySem L2 G Sh
/-! ### plain: parts of turns -/
theorem go_take {notes : List (List Wd)} : ∀ {es : List (Nat × Nat)} {h : List Nat} (j : Nat), Go notes h es → Go notes h (es.take j)
  | [], h, j, g => by simp; trivial
  | e :: es, h, 0, g => trivial
  | e :: es, h, j + 1, g => ⟨g.1, g.2.1, go_take j g.2.2⟩
theorem go_at {notes : List (List Wd)} : ∀ {es : List (Nat × Nat)} {h : List Nat} {j : Nat} {e : Nat × Nat}, Go notes h es → es[j]? = some e → (fin h (es.take j))[e.1]? = some e.2 ∧ Fits notes e
  | [], h, j, e, g, k => by simp at k
  | x :: es, h, 0, e, g, k => by
    simp at k
    subst k
    exact ⟨g.1, g.2.1⟩
  | x :: es, h, j + 1, e, g, k => go_at (es := es) (h := go1 h x) (j := j) g.2.2 (by simpa using k)
theorem take_next {α : Type} {l : List α} {j : Nat} {x : α} (h : l[j]? = some x) : l.take (j + 1) = l.take j ++ [x] := by
  rw [List.take_succ, h]
  rfl
/-- what is asked of a desk to hear a word -/
theorem holds_hear {notes : List (List Wd)} (hn : NOk notes) {ms : List Mp} {E : List (Nat × Nat)} (k : Holds notes ms E) (hE : E.length ≤ 100) {e : Nat × Nat} {ws : List Wd} {w : Wd} (hw : notes[e.1]? = some ws) (hb : ws[e.2]? = some w) :
    ∃ ms', md_Desk_hear.run (eDk ms) [.int (e.1 : Int), .int (e.2 : Int), eW w] = some (eDk ms') ∧ Holds notes ms' (E ++ [e]) := by
  have h6 := hn.w6 ws (List.mem_of_getElem? hw)
  have hb6 : e.2 < ws.length := (List.getElem?_eq_some_iff.mp hb).1
  obtain ⟨m, hm⟩ : ∃ m, ms[e.1]? = some m := ⟨_, List.getElem?_eq_getElem (by rw [k.1]; exact (List.getElem?_eq_some_iff.mp hw).1)⟩
  obtain ⟨k1, k2⟩ := k.2 e.1 m ws hm hw
  refine ⟨_, hear_run hm (by omega) ?_ (by omega) ?_, holds_put k hm hw hb⟩
  · rw [k2 e.2]
    split
    · rw [hb]; rfl
    · rfl
  · rw [k2 6]
    split
    · exact List.getElem?_eq_none h6
    · rfl
/-! ### slots -/
def pnb : Sl → Bool
  | .rg _ => false | .al _ _ => false | _ => true
theorem pnb_sh (d : D) (g : Bool) : pnb (.sh d g) = true := rfl
theorem pnb_ow (d : List D) (g : Bool) : pnb (.ow d g) = true := rfl
theorem pnb_tr (d : D) : pnb (.tr d) = true := rfl
theorem pnb_no : pnb .no = true := rfl
theorem pn_noRg {δ : List Sl} (h : δ.all pnb = true) : δ.map noRg = δ := by
  conv => rhs; rw [← List.map_id δ]
  refine List.map_congr_left fun s hs => ?_
  have := List.all_eq_true.mp h s hs
  cases s <;> first | rfl | cases this
theorem pn_keep {δ : List Sl} (h : δ.all pnb = true) (j : Nat) (q : List Nat) : δ.map (keepAl j q) = δ := by
  conv => rhs; rw [← List.map_id δ]
  refine List.map_congr_left fun s hs => ?_
  have := List.all_eq_true.mp h s hs
  cases s <;> first | rfl | cases this
theorem pn_drop {δ : List Sl} (h : δ.all pnb = true) (j : Nat) : δ.map (dropAl j) = δ := by
  conv => rhs; rw [← List.map_id δ]
  refine List.map_congr_left fun s hs => ?_
  have := List.all_eq_true.mp h s hs
  cases s <;> first | rfl | cases this
theorem exec3_p {Γ : Ga} {s : S} {δ : List Sl} {z : Option Rz} (hp : δ.all pnb = true) (h : G.exec Γ s δ = z) : exec3 Γ (.pl s) δ = z := exec3_pl (pn_noRg hp) h
theorem exec3_mcall {Γ : Ga} {i c : Nat} {nm : Str} {F : Md} {es : E} {δ : List Sl} {d d' : D} {ds : List D} {g : Bool} (hp : δ.all pnb = true) (h0 : δ[i]? = some (.tr d)) (ha : evalA Γ es δ = some (ds, true, g)) (hl : ds.length = F.ar) (ho : isOb c d = true) (hn : (Γ.cn[c]?.map fun ns => ns.all fun n => n != nm) = some true) (hr : F.run d ds = some d') : exec3 Γ (.mcall i nm c F es) δ = some (.nx (δ.set i (.tr d'))) := by
  unfold exec3
  simp only [h0, ha, hl, ho, hn, hr, and_self, if_true, pn_keep hp]
theorem exec_asg2 {Γ : Ga} {i j : Nat} {e : E} {δ : List Sl} {x y : D} {g : Bool} (h : G.eval Γ e δ = some (.tp [x, y], true, g)) : G.exec Γ (.asg (.t2 (.nm i) (.nm j)) e) δ = some (.nx ((δ.set i (.sh x g)).set j (.sh y g))) := by
  unfold G.exec
  rw [h]
  rfl
/-- the law's slots -/
def lS (s0 s1 s2 s3 s4 s5 s6 s7 s8 s9 s10 s11 s12 s13 s14 s15 s16 s17 s18 s19 : Sl) : List Sl := [s0, s1, s2, s3, s4, s5, s6, s7, s8, s9, s10, s11, s12, s13, s14, s15, s16, s17, s18, s19]
theorem lS_pn {s0 s1 s2 s3 s4 s5 s6 s7 s8 s9 s10 s11 s12 s13 s14 s15 s16 s17 s18 s19 : Sl} (h : [s0, s1, s2, s3, s4, s5, s6, s7, s8, s9, s10, s11, s12, s13, s14, s15, s16, s17, s18, s19].all pnb = true) : (lS s0 s1 s2 s3 s4 s5 s6 s7 s8 s9 s10 s11 s12 s13 s14 s15 s16 s17 s18 s19).all pnb = true := h
section
variable {notes : List (List Wd)}
theorem eW_ix {Γ : Ga} {δ : List Sl} {e : Nat × Nat} {ws : List Wd} {w : Wd} {g5 g12 g13 : Bool} (v5 : G.eval Γ (.var 5) δ = some (eN notes, true, g5)) (v12 : G.eval Γ (.var 12) δ = some (.int (e.1 : Int), true, g12)) (v13 : G.eval Γ (.var 13) δ = some (.int (e.2 : Int), true, g13)) (hw : notes[e.1]? = some ws) (hb : ws[e.2]? = some w) :
    ∃ g, evalA Γ (.cons (.var 12) (.cons (.var 13) (.cons (.ix (.ix (.var 5) (.var 12)) (.var 13)) .nil))) δ = some ([.int (e.1 : Int), .int (e.2 : Int), eW w], true, g) := by
  have a1 : atI (notes.map eL) (e.1 : Int) = some (eL ws) := G.atI_nat (by rw [List.getElem?_map, hw]; rfl)
  have a2 : atI (ws.map eW) (e.2 : Int) = some (eW w) := G.atI_nat (by rw [List.getElem?_map, hb]; rfl)
  have v5' : G.eval Γ (.var 5) δ = some (.ls (notes.map eL), true, g5) := v5
  have i1 : G.eval Γ (.ix (.var 5) (.var 12)) δ = some (.ls (ws.map eW), true, g5) := by
    unfold G.eval
    rw [v5', v12]
    simp only [a1]
    rfl
  have i2 : G.eval Γ (.ix (.ix (.var 5) (.var 12)) (.var 13)) δ = some (eW w, true, g5) := by
    unfold G.eval
    rw [i1, v13]
    simp only [a2]
  exact ⟨_, by simp only [evalA, v12, v13, i2, Bool.and_self, Bool.true_and, Bool.and_true]; rfl⟩
end
end K09

namespace K09
open PySem L2 G Sh
abbrev h0 (notes : List (List Wd)) : List Nat := notes.map fun _ => 0
abbrev eSg (notes : List (List Wd)) (hand : Nat) (h : List Nat) : D := eS (sg notes hand h)
section
variable {notes : List (List Wd)} {hand : Nat}
/-- the desk behind a beginning of the turns -/
theorem desk_at (hn : NOk notes) {es : List (Nat × Nat)} (hg : Go notes (h0 notes) es) {ms : List Mp} (k : Holds notes ms es) : Hd notes (fin (h0 notes) es) ∧ DkOk ms (nlOf notes (fin (h0 notes) es)) := by
  have hd := hd_fin (Hd.zero notes) hg
  exact ⟨hd, holds_ok hn k hd fun a j n e => go_zero hg e⟩
theorem loop1_step (hn : NOk notes) (hh : hand < notes.length) {es : List (Nat × Nat)} (hg : Go notes (h0 notes) es) (hl : es.length ≤ 18) {j : Nat} {e : Nat × Nat} (hj : es[j]? = some e) {ms : List Mp} (k : Holds notes ms (es.take j)) (hist : List (List Nat)) (hh2 : hist.length ≤ 100)
    {gN gh gS gT : Bool} {s0 s1 s2 s3 s4 s6 s8 s10 s14 s15 s16 s17 s18 s19 : Sl} (hp : [s0, s1, s2, s3, s4, s6, s8, s10, s14, s15, s16, s17, s18, s19].all pnb = true) :
    ∃ ms' gS' z14 z17 z18, Holds notes ms' (es.take (j + 1)) ∧ [z14, z17, z18].all pnb = true ∧ exec3 ga_law k_law_1 (lS s0 s1 s2 s3 s4 (.sh (eN notes) gN) s6 (.sh (.int (hand : Int)) gh) s8 (.tr (eDk ms)) s10 (.ow (hist.map (eSg notes hand)) gS) (.sh (.int (e.1 : Int)) gT) (.sh (.int (e.2 : Int)) gT) s14 s15 s16 s17 s18 s19) =
      some (.nx (lS s0 s1 s2 s3 s4 (.sh (eN notes) gN) s6 (.sh (.int (hand : Int)) gh) s8 (.tr (eDk ms')) s10 (.ow ((hist ++ [fin (h0 notes) (es.take (j + 1))]).map (eSg notes hand)) gS') (.sh (.int (e.1 : Int)) gT) (.sh (.int (e.2 : Int)) gT) z14 s15 s16 z17 z18 s19)) := by
  simp only [List.all_cons, List.all_nil, Bool.and_true, Bool.and_eq_true] at hp
  obtain ⟨p0, p1, p2, p3, p4, p6, p8, p10, p14, p15, p16, p17, p18, p19⟩ := hp
  obtain ⟨g1, ws, hw, hb⟩ := go_at hg hj
  obtain ⟨w, hwb⟩ : ∃ w, ws[e.2]? = some w := ⟨_, List.getElem?_eq_getElem hb⟩
  obtain ⟨ms', hr, k'⟩ := holds_hear hn k (by rw [List.length_take]; omega) hw hwb
  rw [← take_next hj] at k'
  have hg' := go_take (j + 1) hg
  obtain ⟨hd, dk⟩ := desk_at hn hg' k'
  generalize hF : fin (h0 notes) (es.take (j + 1)) = h at hd dk
  have h3 : ms'.length ≤ 3 := by rw [k'.1]; exact hn.l3
  have hhl : hand < h.length := by rw [hd.l]; exact hh
  have hhg : h[hand]? = some (h.getD hand 0) := by rw [List.getD_eq_getElem?_getD, List.getElem?_eq_getElem hhl]; rfl
  -- hear
  obtain ⟨gA, eA⟩ := eW_ix (Γ := ga_law) (notes := notes) (δ := lS s0 s1 s2 s3 s4 (.sh (eN notes) gN) s6 (.sh (.int (hand : Int)) gh) s8 (.tr (eDk ms)) s10 (.ow (hist.map (eSg notes hand)) gS) (.sh (.int (e.1 : Int)) gT) (.sh (.int (e.2 : Int)) gT) s14 s15 s16 s17 s18 s19) (e := e) (g5 := gN) (g12 := gT) (g13 := gT) rfl rfl rfl hw hwb
  have x1 := exec3_mcall (Γ := ga_law) (i := 9) (c := 0) (nm := "hear") (F := md_Desk_hear) (δ := lS s0 s1 s2 s3 s4 (.sh (eN notes) gN) s6 (.sh (.int (hand : Int)) gh) s8 (.tr (eDk ms)) s10 (.ow (hist.map (eSg notes hand)) gS) (.sh (.int (e.1 : Int)) gT) (.sh (.int (e.2 : Int)) gT) s14 s15 s16 s17 s18 s19) (lS_pn (by simp [pnb_sh, pnb_ow, pnb_tr, p0, p1, p2, p3, p4, p6, p8, p10, p14, p15, p16, p17, p18, p19])) rfl eA rfl rfl (by decide +kernel) hr
  -- the score
  have sc1 := dscore_run dk h3
  rw [map_len_nl hd] at sc1
  have scf : ∀ b, sc b (nlOf notes h) h = sc b notes h := fun b => by
    have := sc_nl b notes h hd.b
    rwa [map_len_nl hd] at this
  rw [scf, scf] at sc1
  have cn1 := counting_run dk h3
  rw [map_len_nl hd] at cn1
  have x2 := exec_asg2 (i := 17) (j := 18) (eval_meth_of (Γ := ga_law) (m := 3) (nm := "score") (tb := [(0, fd_Desk_score)]) (F := fd_Desk_score) (o := .var 9) (es := .nil) (δ := lS s0 s1 s2 s3 s4 (.sh (eN notes) gN) s6 (.sh (.int (hand : Int)) gh) s8 (.tr (eDk ms')) s10 (.ow (hist.map (eSg notes hand)) gS) (.sh (.int (e.1 : Int)) gT) (.sh (.int (e.2 : Int)) gT) s14 s15 s16 s17 s18 s19) (c := 0) (fs := [.ls (ms'.map eD)]) (ds := []) rfl rfl rfl rfl ⟨rfl, by decide +kernel⟩ sc1)
  -- what is shown
  have ix : ∀ s14 s11 : Sl, G.eval ga_law (.ix (.meth 1 (.var 9) .nil) (.var 7)) (lS s0 s1 s2 s3 s4 (.sh (eN notes) gN) s6 (.sh (.int (hand : Int)) gh) s8 (.tr (eDk ms')) s10 s11 (.sh (.int (e.1 : Int)) gT) (.sh (.int (e.2 : Int)) gT) s14 s15 s16 (.sh (.int (sc false notes h)) true) (.sh (.int (sc true notes h)) true) s19) = some (.int ((h.getD hand 0 : Nat) : Int), true, true) := fun s14 s11 => by
    have c1 := eval_meth_of (Γ := ga_law) (m := 1) (nm := "counting") (tb := [(0, fd_Desk_counting)]) (F := fd_Desk_counting) (o := .var 9) (es := .nil) (δ := lS s0 s1 s2 s3 s4 (.sh (eN notes) gN) s6 (.sh (.int (hand : Int)) gh) s8 (.tr (eDk ms')) s10 s11 (.sh (.int (e.1 : Int)) gT) (.sh (.int (e.2 : Int)) gT) s14 s15 s16 (.sh (.int (sc false notes h)) true) (.sh (.int (sc true notes h)) true) s19) (c := 0) (fs := [.ls (ms'.map eD)]) (ds := []) rfl rfl rfl rfl ⟨rfl, by decide +kernel⟩ cn1
    have c2 : atI (h.map fun (n : Nat) => D.int (n : Int)) (hand : Int) = some (.int ((h.getD hand 0 : Nat) : Int)) := G.atI_nat (by rw [List.getElem?_map, hhg]; rfl)
    have c3 : G.eval ga_law (.var 7) (lS s0 s1 s2 s3 s4 (.sh (eN notes) gN) s6 (.sh (.int (hand : Int)) gh) s8 (.tr (eDk ms')) s10 s11 (.sh (.int (e.1 : Int)) gT) (.sh (.int (e.2 : Int)) gT) s14 s15 s16 (.sh (.int (sc false notes h)) true) (.sh (.int (sc true notes h)) true) s19) = some (.int (hand : Int), true, gh) := rfl
    unfold G.eval
    rw [c1, c3]
    simp only [eH, c2, fr_Desk_counting, Bool.true_or]
  have tp : G.eval ga_law (.tup (.cons (.ix (.meth 1 (.var 9) .nil) (.var 7)) (.cons (.var 17) (.cons (.var 18) .nil)))) (lS s0 s1 s2 s3 s4 (.sh (eN notes) gN) s6 (.sh (.int (hand : Int)) gh) s8 (.tr (eDk ms')) s10 (.ow (hist.map (eSg notes hand)) gS) (.sh (.int (e.1 : Int)) gT) (.sh (.int (e.2 : Int)) gT) s14 s15 s16 (.sh (.int (sc false notes h)) true) (.sh (.int (sc true notes h)) true) s19) = some (eSg notes hand h, true, true) := by
    have a17 : G.eval ga_law (.var 17) (lS s0 s1 s2 s3 s4 (.sh (eN notes) gN) s6 (.sh (.int (hand : Int)) gh) s8 (.tr (eDk ms')) s10 (.ow (hist.map (eSg notes hand)) gS) (.sh (.int (e.1 : Int)) gT) (.sh (.int (e.2 : Int)) gT) s14 s15 s16 (.sh (.int (sc false notes h)) true) (.sh (.int (sc true notes h)) true) s19) = some (.int (sc false notes h), true, true) := rfl
    have a18 : G.eval ga_law (.var 18) (lS s0 s1 s2 s3 s4 (.sh (eN notes) gN) s6 (.sh (.int (hand : Int)) gh) s8 (.tr (eDk ms')) s10 (.ow (hist.map (eSg notes hand)) gS) (.sh (.int (e.1 : Int)) gT) (.sh (.int (e.2 : Int)) gT) s14 s15 s16 (.sh (.int (sc false notes h)) true) (.sh (.int (sc true notes h)) true) s19) = some (.int (sc true notes h), true, true) := rfl
    unfold G.eval
    simp only [evalA, ix, a17, a18]
    rfl
  have x3 := exec_app_of (Γ := ga_law) (i := 11) (ds := hist.map (eSg notes hand)) (g := gS) rfl tp (by rw [List.length_map]; omega)
  generalize hgS : (gS && (true || (eSg notes hand h).flat)) = gS' at x3
  -- leads
  obtain ⟨a, low, b, high, lr, lo⟩ := leads_run hn hh (said := h.getD hand 0) fun us hu => hd.b hand _ us hhg hu
  have va := hd.va hhg
  have l1 := lo.lo h va
  have l2 := lo.hi h va
  have eA2 : evalA ga_law (.cons (.var 5) (.cons (.var 7) (.cons (.ix (.meth 1 (.var 9) .nil) (.var 7)) .nil))) (lS s0 s1 s2 s3 s4 (.sh (eN notes) gN) s6 (.sh (.int (hand : Int)) gh) s8 (.tr (eDk ms')) s10 (.ow (hist.map (eSg notes hand) ++ [eSg notes hand h]) gS') (.sh (.int (e.1 : Int)) gT) (.sh (.int (e.2 : Int)) gT) s14 s15 s16 (.sh (.int (sc false notes h)) true) (.sh (.int (sc true notes h)) true) s19) = some ([eN notes, .int (hand : Int), .int ((h.getD hand 0 : Nat) : Int)], true, gN && (gh && (true && true))) := by
    have a5 : G.eval ga_law (.var 5) (lS s0 s1 s2 s3 s4 (.sh (eN notes) gN) s6 (.sh (.int (hand : Int)) gh) s8 (.tr (eDk ms')) s10 (.ow (hist.map (eSg notes hand) ++ [eSg notes hand h]) gS') (.sh (.int (e.1 : Int)) gT) (.sh (.int (e.2 : Int)) gT) s14 s15 s16 (.sh (.int (sc false notes h)) true) (.sh (.int (sc true notes h)) true) s19) = some (eN notes, true, gN) := rfl
    have a7 : G.eval ga_law (.var 7) (lS s0 s1 s2 s3 s4 (.sh (eN notes) gN) s6 (.sh (.int (hand : Int)) gh) s8 (.tr (eDk ms')) s10 (.ow (hist.map (eSg notes hand) ++ [eSg notes hand h]) gS') (.sh (.int (e.1 : Int)) gT) (.sh (.int (e.2 : Int)) gT) s14 s15 s16 (.sh (.int (sc false notes h)) true) (.sh (.int (sc true notes h)) true) s19) = some (.int (hand : Int), true, gh) := rfl
    simp only [evalA, a5, a7, ix]
    rfl
  have c5 := eval_call_of (Γ := ga_law) (k := 21) (F := fd_leads) rfl eA2 rfl lr
  have x4 := exec_asg_of (j := 14) (show G.eval ga_law (.call 21 (.cons (.var 5) (.cons (.var 7) (.cons (.ix (.meth 1 (.var 9) .nil) (.var 7)) .nil)))) _ = some (_, true, true) from c5)
  -- the lead lies between
  have x5 : G.exec ga_law p_law_6 (lS s0 s1 s2 s3 s4 (.sh (eN notes) gN) s6 (.sh (.int (hand : Int)) gh) s8 (.tr (eDk ms')) s10 (.ow (hist.map (eSg notes hand) ++ [eSg notes hand h]) gS') (.sh (.int (e.1 : Int)) gT) (.sh (.int (e.2 : Int)) gT) (.sh (.ob 4 [.int a, eH low, .int b, eH high]) true) s15 s16 (.sh (.int (sc false notes h)) true) (.sh (.int (sc true notes h)) true) s19) = some (.nx (lS s0 s1 s2 s3 s4 (.sh (eN notes) gN) s6 (.sh (.int (hand : Int)) gh) s8 (.tr (eDk ms')) s10 (.ow (hist.map (eSg notes hand) ++ [eSg notes hand h]) gS') (.sh (.int (e.1 : Int)) gT) (.sh (.int (e.2 : Int)) gT) (.sh (.ob 4 [.int a, eH low, .int b, eH high]) true) s15 s16 (.sh (.int (sc false notes h)) true) (.sh (.int (sc true notes h)) true) s19)) := by
    have f1 : G.eval ga_law (.fld "least" (.var 14)) (lS s0 s1 s2 s3 s4 (.sh (eN notes) gN) s6 (.sh (.int (hand : Int)) gh) s8 (.tr (eDk ms')) s10 (.ow (hist.map (eSg notes hand) ++ [eSg notes hand h]) gS') (.sh (.int (e.1 : Int)) gT) (.sh (.int (e.2 : Int)) gT) (.sh (.ob 4 [.int a, eH low, .int b, eH high]) true) s15 s16 (.sh (.int (sc false notes h)) true) (.sh (.int (sc true notes h)) true) s19) = some (.int a, true, true) := by with_unfolding_all rfl
    have f2 : G.eval ga_law (.fld "most" (.var 14)) (lS s0 s1 s2 s3 s4 (.sh (eN notes) gN) s6 (.sh (.int (hand : Int)) gh) s8 (.tr (eDk ms')) s10 (.ow (hist.map (eSg notes hand) ++ [eSg notes hand h]) gS') (.sh (.int (e.1 : Int)) gT) (.sh (.int (e.2 : Int)) gT) (.sh (.ob 4 [.int a, eH low, .int b, eH high]) true) s15 s16 (.sh (.int (sc false notes h)) true) (.sh (.int (sc true notes h)) true) s19) = some (.int b, true, true) := by with_unfolding_all rfl
    have f3 : G.eval ga_law (.bin .sub (.var 17) (.var 18)) (lS s0 s1 s2 s3 s4 (.sh (eN notes) gN) s6 (.sh (.int (hand : Int)) gh) s8 (.tr (eDk ms')) s10 (.ow (hist.map (eSg notes hand) ++ [eSg notes hand h]) gS') (.sh (.int (e.1 : Int)) gT) (.sh (.int (e.2 : Int)) gT) (.sh (.ob 4 [.int a, eH low, .int b, eH high]) true) s15 s16 (.sh (.int (sc false notes h)) true) (.sh (.int (sc true notes h)) true) s19) = some (.int (ld notes h), true, true) := rfl
    refine (exec_ite_f (f := true) (g := true) rfl ?_).trans rfl
    unfold G.eval
    rw [show G.eval ga_law (.chn .le .le (.fld "least" (.var 14)) (.bin .sub (.var 17) (.var 18)) (.fld "most" (.var 14))) _ = some (.bl true, true, true) by
      unfold G.eval
      rw [f1, f3]
      simp only [Co.f, decide_eq_true l1, if_true]
      rw [f2]
      simp only [decide_eq_true l2]]
    rfl
  refine ⟨ms', gS', .sh (.ob 4 [.int a, eH low, .int b, eH high]) true, .sh (.int (sc false notes h)) true, .sh (.int (sc true notes h)) true, k', rfl, ?_⟩
  rw [show (hist ++ [h]).map (eSg notes hand) = hist.map (eSg notes hand) ++ [eSg notes hand h] by rw [List.map_append]; rfl]
  unfold k_law_1
  refine exec3_nx x1 (exec3_nx (exec3_p (lS_pn (by simp [pnb_sh, pnb_ow, pnb_tr, p0, p1, p2, p3, p4, p6, p8, p10, p14, p15, p16, p17, p18, p19])) x2) (exec3_nx (exec3_p (lS_pn (by simp [pnb_sh, pnb_ow, pnb_tr, p0, p1, p2, p3, p4, p6, p8, p10, p14, p15, p16, p19])) x3) (exec3_nx (exec3_p (lS_pn (by simp [pnb_sh, pnb_ow, pnb_tr, p0, p1, p2, p3, p4, p6, p8, p10, p14, p15, p16, p19])) x4) (exec3_nx (exec3_p (lS_pn (by simp [pnb_sh, pnb_ow, pnb_tr, p0, p1, p2, p3, p4, p6, p8, p10, p15, p16, p19])) x5) rfl))))
end
end K09

namespace K09
open PySem L2 G Sh
section
variable {notes : List (List Wd)} {hand : Nat}
theorem loop1_run (hn : NOk notes) (hh : hand < notes.length) {es : List (Nat × Nat)} (hg : Go notes (h0 notes) es) (hl : es.length ≤ 18) {gN gh gI : Bool} {s0 s1 s2 s3 s4 s6 s8 s10 s12 s13 s14 s15 s16 s17 s18 s19 : Sl} (hp : [s0, s1, s2, s3, s4, s6, s8, s10, s12, s13, s14, s15, s16, s17, s18, s19].all pnb = true) :
    ∃ (ms : List Mp) (hist : List (List Nat)) (gS : Bool) (z12 z13 z14 z17 z18 : Sl), Holds notes ms es ∧ hist.length = es.length ∧ (∀ x ∈ hist, Hd notes x) ∧ hist.Pairwise (fun a b => leL a b = true) ∧ [z12, z13, z14, z17, z18].all pnb = true ∧ forRun (.t2 (.nm 12) (.nm 13)) gI (fun δ => exec3 ga_law k_law_1 δ) (es.map eT) (lS s0 s1 s2 s3 s4 (.sh (eN notes) gN) s6 (.sh (.int (hand : Int)) gh) s8 (.tr (eDk (notes.map fun _ => []))) s10 (.ow [] true) s12 s13 s14 s15 s16 s17 s18 s19) =
      some (.nx (lS s0 s1 s2 s3 s4 (.sh (eN notes) gN) s6 (.sh (.int (hand : Int)) gh) s8 (.tr (eDk ms)) s10 (.ow (hist.map (eSg notes hand)) gS) z12 z13 z14 s15 s16 z17 z18 s19)) := by
  simp only [List.all_cons, List.all_nil, Bool.and_true, Bool.and_eq_true] at hp
  obtain ⟨p0, p1, p2, p3, p4, p6, p8, p10, p12, p13, p14, p15, p16, p17, p18, p19⟩ := hp
  obtain ⟨δ', er, ms, hist, gS, z12, z13, z14, z17, z18, rfl, q1, q2, q3, q4, q5, q6⟩ := forRun_fold (t := .t2 (.nm 12) (.nm 13)) (g := gI) (ex := fun δ => exec3 ga_law k_law_1 δ) (f := eT) (up := fun (u : Unit) _ => u)
    (fun j _ δ => ∃ (ms : List Mp) (hist : List (List Nat)) (gS : Bool) (z12 z13 z14 z17 z18 : Sl), δ = lS s0 s1 s2 s3 s4 (.sh (eN notes) gN) s6 (.sh (.int (hand : Int)) gh) s8 (.tr (eDk ms)) s10 (.ow (hist.map (eSg notes hand)) gS) z12 z13 z14 s15 s16 z17 z18 s19 ∧ Holds notes ms (es.take j) ∧ hist.length = j ∧ (∀ x ∈ hist, Hd notes x) ∧ hist.Pairwise (fun a b => leL a b = true) ∧ (∀ x ∈ hist, leL x (fin (h0 notes) (es.take j)) = true) ∧ [z12, z13, z14, z17, z18].all pnb = true) es 0 () _ ⟨notes.map fun _ => [], [], true, s12, s13, s14, s17, s18, rfl, holds_nil notes, rfl, by simp, List.Pairwise.nil, by simp, by simp [p12, p13, p14, p17, p18]⟩ (by
      rintro j e _ δ hj ⟨ms, hist, gS, z12, z13, z14, z17, z18, rfl, q1, q2, q3, q4, q5, q6⟩
      rw [Nat.zero_add] at q1 q2 q5
      rw [Nat.zero_add]
      have hjl : j < es.length := (List.getElem?_eq_some_iff.mp hj).1
      simp only [List.all_cons, List.all_nil, Bool.and_true, Bool.and_eq_true] at q6
      obtain ⟨r12, r13, r14, r17, r18⟩ := q6
      obtain ⟨ms', gS', y14, y17, y18, k1, k2, k3⟩ := loop1_step hn hh hg hl hj q1 hist (by omega) (gN := gN) (gh := gh) (gS := gS) (gT := gI) (s0 := s0) (s1 := s1) (s2 := s2) (s3 := s3) (s4 := s4) (s6 := s6) (s8 := s8) (s10 := s10) (s14 := z14) (s15 := s15) (s16 := s16) (s17 := z17) (s18 := z18) (s19 := s19) (by simp [p0, p1, p2, p3, p4, p6, p8, p10, r14, p15, p16, r17, r18, p19])
      obtain ⟨g1, g2⟩ := go_at hg hj
      have hd0 := hd_fin (Hd.zero notes) (go_take j hg)
      have hd1 := hd_fin (Hd.zero notes) (go_take (j + 1) hg)
      have hle : leL (fin (h0 notes) (es.take j)) (fin (h0 notes) (es.take (j + 1))) = true := by
        rw [take_next hj, fin_snoc]
        exact le_go1 g1
      have up : ∀ x ∈ hist, leL x (fin (h0 notes) (es.take (j + 1))) = true := fun x hx => leL_trans ((q3 x hx).l.trans hd0.l.symm) (hd0.l.trans hd1.l.symm) (q5 x hx) hle
      refine ⟨_, _, rfl, k3, ms', hist ++ [fin (h0 notes) (es.take (j + 1))], gS', .sh (.int (e.1 : Int)) gI, .sh (.int (e.2 : Int)) gI, y14, y17, y18, rfl, k1, by simp [q2], fun x hx => ?_, ?_, fun x hx => ?_, ?_⟩
      · rcases List.mem_append.mp hx with hx | hx
        · exact q3 x hx
        · rw [List.mem_singleton.mp hx]; exact hd1
      · rw [List.pairwise_append]
        refine ⟨q4, by simp, fun x hx y hy => ?_⟩
        rw [List.mem_singleton.mp hy]
        exact up x hx
      · rcases List.mem_append.mp hx with hx | hx
        · exact up x hx
        · rw [List.mem_singleton.mp hx]; exact leL_refl _
      · simp only [List.all_cons, List.all_nil, Bool.and_true, Bool.and_eq_true] at k2
        simp [pnb_sh, k2.1, k2.2.1, k2.2.2])
  rw [Nat.zero_add] at q1 q2
  rw [List.take_of_length_le (Nat.le_refl _)] at q1
  exact ⟨ms, hist, gS, z12, z13, z14, z17, z18, q1, q2, q3, q4, q6, er⟩
theorem loop2_run (hn : NOk notes) {l : List (Nat × Nat)} (hf : ∀ e ∈ l, Fits notes e) (hl : l.length ≤ 18) {gN gI : Bool} {s0 s1 s2 s3 s4 s6 s7 s8 s9 s11 s12 s13 s14 s15 s16 s17 s18 s19 : Sl} (hp : [s0, s1, s2, s3, s4, s6, s7, s8, s9, s11, s12, s13, s14, s15, s16, s17, s18, s19].all pnb = true) :
    ∃ ms z12 z13, Holds notes ms l ∧ [z12, z13].all pnb = true ∧ forRun (.t2 (.nm 12) (.nm 13)) gI (fun δ => exec3 ga_law k_law_2 δ) (l.map eT) (lS s0 s1 s2 s3 s4 (.sh (eN notes) gN) s6 s7 s8 s9 (.tr (eDk (notes.map fun _ => []))) s11 s12 s13 s14 s15 s16 s17 s18 s19) =
      some (.nx (lS s0 s1 s2 s3 s4 (.sh (eN notes) gN) s6 s7 s8 s9 (.tr (eDk ms)) s11 z12 z13 s14 s15 s16 s17 s18 s19)) := by
  simp only [List.all_cons, List.all_nil, Bool.and_true, Bool.and_eq_true] at hp
  obtain ⟨p0, p1, p2, p3, p4, p6, p7, p8, p9, p11, p12, p13, p14, p15, p16, p17, p18, p19⟩ := hp
  obtain ⟨δ', er, ms, z12, z13, rfl, q1, q2⟩ := forRun_fold (t := .t2 (.nm 12) (.nm 13)) (g := gI) (ex := fun δ => exec3 ga_law k_law_2 δ) (f := eT) (up := fun (u : Unit) _ => u)
    (fun j _ δ => ∃ (ms : List Mp) (z12 z13 : Sl), δ = lS s0 s1 s2 s3 s4 (.sh (eN notes) gN) s6 s7 s8 s9 (.tr (eDk ms)) s11 z12 z13 s14 s15 s16 s17 s18 s19 ∧ Holds notes ms (l.take j) ∧ [z12, z13].all pnb = true) l 0 () _ ⟨notes.map fun _ => [], s12, s13, rfl, holds_nil notes, by simp [p12, p13]⟩ (by
      rintro j e _ δ hj ⟨ms, z12, z13, rfl, q1, q2⟩
      rw [Nat.zero_add] at q1
      rw [Nat.zero_add]
      obtain ⟨ws, hw, hb⟩ := hf e (List.mem_of_getElem? hj)
      obtain ⟨w, hwb⟩ : ∃ w, ws[e.2]? = some w := ⟨_, List.getElem?_eq_getElem hb⟩
      obtain ⟨ms', hr, k'⟩ := holds_hear hn q1 (by rw [List.length_take]; omega) hw hwb
      rw [← take_next hj] at k'
      obtain ⟨gA, eA⟩ := eW_ix (Γ := ga_law) (notes := notes) (δ := lS s0 s1 s2 s3 s4 (.sh (eN notes) gN) s6 s7 s8 s9 (.tr (eDk ms)) s11 (.sh (.int (e.1 : Int)) gI) (.sh (.int (e.2 : Int)) gI) s14 s15 s16 s17 s18 s19) (e := e) (g5 := gN) (g12 := gI) (g13 := gI) rfl rfl rfl hw hwb
      have x1 := exec3_mcall (Γ := ga_law) (i := 10) (c := 0) (nm := "hear") (F := md_Desk_hear) (δ := lS s0 s1 s2 s3 s4 (.sh (eN notes) gN) s6 s7 s8 s9 (.tr (eDk ms)) s11 (.sh (.int (e.1 : Int)) gI) (.sh (.int (e.2 : Int)) gI) s14 s15 s16 s17 s18 s19) (lS_pn (by simp [pnb_sh, pnb_tr, p0, p1, p2, p3, p4, p6, p7, p8, p9, p11, p14, p15, p16, p17, p18, p19])) rfl eA rfl rfl (by decide +kernel) hr
      exact ⟨_, _, rfl, exec3_nx x1 rfl, ms', .sh (.int (e.1 : Int)) gI, .sh (.int (e.2 : Int)) gI, rfl, k', rfl⟩)
  rw [Nat.zero_add, List.take_of_length_le (Nat.le_refl _)] at q1
  exact ⟨ms, z12, z13, q1, q2, er⟩
end
end K09

namespace K09
open PySem L2 G Sh
theorem nlOf_full : ∀ notes : List (List Wd), nlOf notes (notes.map List.length) = notes
  | [] => rfl
  | ws :: r => by
    have ih := nlOf_full r
    unfold nlOf at ih ⊢
    simp only [List.map_cons, List.zipWith_cons_cons, ih]
    rw [List.take_of_length_le (Nat.le_refl _)]
theorem hd_lens (notes : List (List Wd)) : Hd notes (notes.map List.length) := by
  refine ⟨by simp, fun i n ws hi hw => ?_⟩
  rw [List.getElem?_map, hw] at hi
  cases hi
  exact Nat.le_refl _
theorem tf_new (n : Nat) : D.tflats [.ls ((List.replicate n ([] : Mp)).map eD)] = true := by
  have : ∀ k : Nat, D.tflats ((List.replicate k ([] : Mp)).map eD) = true := by
    intro k
    induction k with
    | zero => rfl
    | succ k ih =>
      rw [List.replicate_succ, List.map_cons]
      simp only [D.tflats, ih, Bool.and_true]
      rfl
  simp only [D.tflats, D.tflat, this n, Bool.and_true]
theorem okn_eW (n : Nat) (w : Wd) : okn (n + 1) (eW w) = true := by
  have o : PyData.strOk "back" = true := by decide +kernel
  have o2 : PyData.strOk "point" = true := by decide +kernel
  obtain ⟨p, q⟩ := w
  cases p <;> cases q <;> simp [eW, okn_tp, okn_str, okn_int, o, o2]
theorem okn_eN (n : Nat) (notes : List (List Wd)) : okn (n + 3) (eN notes) = true := by
  unfold eN
  rw [okn_ls, List.all_map, List.all_eq_true]
  intro ws _
  show okn (n + 2) (eL ws) = true
  unfold eL
  rw [okn_ls, List.all_map, List.all_eq_true]
  intro w _
  exact okn_eW n w
theorem nb_eN (notes : List (List Wd)) : (eN notes).nb = true := by
  unfold eN
  simp only [D.nb, nbs_all]
  rw [List.all_map, List.all_eq_true]
  intro ws _
  show (eL ws).nb = true
  unfold eL
  simp only [D.nb, nbs_all]
  rw [List.all_map, List.all_eq_true]
  intro w _
  obtain ⟨p, q⟩ := w
  cases p <;> cases q <;> rfl
theorem okn_ii (a b : Int) : okn 64 (.tp [.int a, .int b]) = true := by
  rw [okn_tp]
  simp [okn_int]
section
variable {Γ : Ga} {δ : List Sl}
theorem cv_len {a : E} {xs : List D} {f g : Bool} (h : G.eval Γ a δ = some (.ls xs, f, g)) : G.eval Γ (.len a) δ = some (.int (xs.length : Int), true, true) := by
  unfold G.eval
  rw [h]
theorem cv_bin {o : Bo} {a b : E} {i j z : Int} {f g f' g' : Bool} (ha : G.eval Γ a δ = some (.int i, f, g)) (hb : G.eval Γ b δ = some (.int j, f', g')) (hr : o.run i j = some z) : G.eval Γ (.bin o a b) δ = some (.int z, true, true) := by
  unfold G.eval
  rw [ha, hb]
  simp only [hr]
theorem cv_cmp {o : Co} {a b : E} {i j : Int} {f g f' g' : Bool} (ha : G.eval Γ a δ = some (.int i, f, g)) (hb : G.eval Γ b δ = some (.int j, f', g')) : G.eval Γ (.cmp o a b) δ = some (.bl (o.f i j), true, true) := by
  unfold G.eval
  rw [ha, hb]
theorem cv_sumT {a : E} {xs : List D} {ns : List Int} {f g : Bool} (ha : G.eval Γ a δ = some (.tp xs, f, g)) (h : intsOf xs = some ns) : G.eval Γ (.sumT a) δ = some (.int ns.sum, true, true) := by
  unfold G.eval
  rw [ha]
  simp only [h]
theorem cv_ixT {a b : E} {xs : List D} {i : Int} {d : D} {f g f' g' : Bool} (ha : G.eval Γ a δ = some (.tp xs, f, g)) (hb : G.eval Γ b δ = some (.int i, f', g')) (h : atI xs i = some d) : G.eval Γ (.ix a b) δ = some (d, f, g) := by
  unfold G.eval
  rw [ha, hb]
  simp only [h]
end
section
variable {notes : List (List Wd)} {hand : Nat} {δ : List Sl}
theorem p7_ok (hn : NOk notes) {ms ms2 : List Mp} (dk : DkOk ms notes) (dk2 : DkOk ms2 notes) {gN g8 : Bool} (v5 : G.eval ga_law (.var 5) δ = some (eN notes, true, gN)) (v8 : G.eval ga_law (.var 8) δ = some (eH (notes.map List.length), true, g8)) (v9 : G.eval ga_law (.var 9) δ = some (eDk ms, false, false)) (v10 : G.eval ga_law (.var 10) δ = some (eDk ms2, false, false)) : G.exec ga_law p_law_7 δ = some (.nx δ) := by
  have h3 : ms.length ≤ 3 := by rw [← dk.n]; exact hn.l3
  have h3' : ms2.length ≤ 3 := by rw [← dk2.n]; exact hn.l3
  have m9 := eval_meth_of (Γ := ga_law) (m := 3) (nm := "score") (tb := [(0, fd_Desk_score)]) (F := fd_Desk_score) (o := .var 9) (es := .nil) (δ := δ) (c := 0) (fs := [.ls (ms.map eD)]) (ds := []) rfl v9 rfl rfl ⟨rfl, by decide +kernel⟩ (dscore_run dk h3)
  have m10 := eval_meth_of (Γ := ga_law) (m := 3) (nm := "score") (tb := [(0, fd_Desk_score)]) (F := fd_Desk_score) (o := .var 10) (es := .nil) (δ := δ) (c := 0) (fs := [.ls (ms2.map eD)]) (ds := []) rfl v10 rfl rfl ⟨rfl, by decide +kernel⟩ (dscore_run dk2 h3')
  have n10 := eval_meth_of (Γ := ga_law) (m := 2) (nm := "notes") (tb := [(0, fd_Desk_notes)]) (F := fd_Desk_notes) (o := .var 10) (es := .nil) (δ := δ) (c := 0) (fs := [.ls (ms2.map eD)]) (ds := []) rfl v10 rfl rfl ⟨rfl, by decide +kernel⟩ (notes_run' dk2 h3')
  have l1 := hn.l1
  have va : Va notes 0 ((notes.map List.length).getD 0 0) (notes.map List.length) := (hd_lens notes).va (by
    rw [List.getD_eq_getElem?_getD, List.getElem?_eq_getElem (by rw [List.length_map]; omega)]
    rfl)
  have s16 := eval_call_of (Γ := ga_law) (k := 16) (F := fd_score) (es := .cons (.var 5) (.cons (.var 8) .nil)) (δ := δ) (ds := [eN notes, eH (notes.map List.length)]) (f := true) (g := gN && (g8 && true)) rfl (by simp only [evalA, v5, v8]; rfl) rfl (score_run hn (by omega) va)
  have t1 : G.eval ga_law (.ne (.meth 3 (.var 10) .nil) (.meth 3 (.var 9) .nil)) δ = some (.bl false, true, true) := by
    unfold G.eval
    rw [m10, m9]
    simp [eqok_okn, okn_ii, eqv_ii]
  have t2 : G.eval ga_law (.ne (.meth 3 (.var 9) .nil) (.call 16 (.cons (.var 5) (.cons (.var 8) .nil)))) δ = some (.bl false, true, true) := by
    unfold G.eval
    rw [m9, s16]
    simp [eqok_okn, okn_ii, eqv_ii]
  have t3 : G.eval ga_law (.ne (.meth 2 (.var 10) .nil) (.var 5)) δ = some (.bl false, true, true) := by
    unfold G.eval
    rw [n10, v5]
    simp [eqok_okn, okn_eN 61 notes, eqv_self (nb_eN notes)]
  unfold p_law_7
  refine (exec_ite_f (f := true) (g := true) rfl ?_).trans rfl
  unfold G.eval
  rw [t1]
  show G.eval ga_law (.or (.ne (.meth 3 (.var 9) .nil) (.call 16 (.cons (.var 5) (.cons (.var 8) .nil)))) (.ne (.meth 2 (.var 10) .nil) (.var 5))) δ = _
  unfold G.eval
  rw [t2]
  exact t3
theorem p8_ok {hist : List (List Nat)} {gS : Bool} (v11 : G.eval ga_law (.var 11) δ = some (.ls (hist.map (eSg notes hand)), false, gS)) : G.exec ga_law p_law_8 δ = some (.nx (δ.set 2 (.sh (.int ((1 + hist.length / 5 : Nat) : Int)) true))) := by
  have e : G.eval ga_law (.bin .add (.int 1) (.bin .fdiv (.len (.var 11)) (.int 5))) δ = some (.int ((1 + hist.length / 5 : Nat) : Int), true, true) := by
    have e1 := cv_len v11
    rw [List.length_map] at e1
    have e2 : G.eval ga_law (.int 5) δ = some (.int 5, true, true) := rfl
    have e3 : G.eval ga_law (.int 1) δ = some (.int 1, true, true) := rfl
    have e4 := cv_bin (o := .fdiv) (z := ((hist.length / 5 : Nat) : Int)) e1 e2 (by simp [Bo.run])
    exact cv_bin (o := .add) e3 e4 (by simp [Bo.run])
  exact exec_asg_of e
theorem p9_ok (hn : NOk notes) (hh : hand < notes.length) {hist : List (List Nat)} (hd : ∀ x ∈ hist, Hd notes x) (pw : hist.Pairwise (fun a b => leL a b = true)) (hl : hist.length ≤ 18) {gN gh gS g2 : Bool} (v5 : G.eval ga_law (.var 5) δ = some (eN notes, true, gN)) (v7 : G.eval ga_law (.var 7) δ = some (.int (hand : Int), true, gh)) (v11 : G.eval ga_law (.var 11) δ = some (.ls (hist.map (eSg notes hand)), false, gS)) (v2 : G.eval ga_law (.var 2) δ = some (.int ((1 + hist.length / 5 : Nat) : Int), true, g2)) : G.exec ga_law p_law_9 δ = some (.nx δ) := by
  generalize hK : 1 + hist.length / 5 = K at v2
  have hK0 : 0 < K := by omega
  have hK1 : K < 1000000 := by omega
  have hd' : ∀ x ∈ pkk K hist, Hd notes x := fun x hx => hd x (pkk_sub hx)
  have pw' := pkk_pw hK0 pw
  have so : SOk notes hand ((pkk K hist).map (sg notes hand)) := by
    refine ⟨by rw [List.length_map, ← hK]; exact pkk_len5 hist, fun s hs ws hw => ?_, fun p hp => ?_⟩
    · obtain ⟨x, hx, rfl⟩ := List.mem_map.mp hs
      have k := hd' x hx
      refine k.b hand _ ws ?_ hw
      show x[hand]? = some (x.getD hand 0)
      rw [List.getD_eq_getElem?_getD, List.getElem?_eq_getElem (by rw [k.l]; exact hh)]
      rfl
    · obtain ⟨i, hi⟩ := List.mem_iff_getElem?.mp hp
      rw [List.getElem?_zip_eq_some, List.getElem?_drop, List.getElem?_map, List.getElem?_map] at hi
      obtain ⟨h1, h2⟩ := hi
      obtain ⟨x, hx, e1⟩ := Option.map_eq_some_iff.mp h1
      obtain ⟨y, hy, e2⟩ := Option.map_eq_some_iff.mp h2
      rw [← e1, ← e2]
      have kx := hd' x (List.mem_of_getElem? hx)
      have ky := hd' y (List.mem_of_getElem? hy)
      rw [List.pairwise_iff_getElem] at pw'
      obtain ⟨hxi, rfl⟩ := List.getElem?_eq_some_iff.mp hx
      obtain ⟨hyi, rfl⟩ := List.getElem?_eq_some_iff.mp hy
      have le := pw' i (1 + i) hxi hyi (by omega)
      refine leL_get (kx.l.trans ky.l.symm) le (i := hand) ?_ ?_
      · show _ = some (List.getD _ hand 0)
        rw [List.getD_eq_getElem?_getD, List.getElem?_eq_getElem (by rw [kx.l]; exact hh)]
        rfl
      · show _ = some (List.getD _ hand 0)
        rw [List.getD_eq_getElem?_getD, List.getElem?_eq_getElem (by rw [ky.l]; exact hh)]
        rfl
  have gd := gd_of hh (pkk K hist) none hd' pw' (fun p e => by cases e)
  obtain ⟨d, hr, hx⟩ := judged_run hn hh so
  have hob : ∃ xs, d = .ob 2 xs := by
    rcases hx with ⟨_, hs, e, _⟩ | ⟨ng, _⟩
    · exact ⟨_, e⟩
    · exact absurd gd ng
  obtain ⟨xs, rfl⟩ := hob
  have e1 : G.eval ga_law (.stp (.var 11) (.var 2)) δ = some (.ls (((pkk K hist).map (sg notes hand)).map eS), false || flats (pkk K (hist.map (eSg notes hand))), gS) := by
    have ep : pkk K (hist.map (eSg notes hand)) = ((pkk K hist).map (sg notes hand)).map eS := by
      rw [pkk_map, List.map_map]
      rfl
    unfold G.eval
    rw [v11, v2]
    simp only [Int.toNat_natCast]
    rw [if_pos (by omega), ep]
  have eA : evalA ga_law (.cons (.var 5) (.cons (.var 7) (.cons (.stp (.var 11) (.var 2)) .nil))) δ = some ([eN notes, .int (hand : Int), .ls (((pkk K hist).map (sg notes hand)).map eS)], true && (true && ((false || flats (pkk K (hist.map (eSg notes hand)))) && true)), gN && (gh && (gS && true))) := by
    simp only [evalA, v5, v7, e1]
  have c20 := eval_call_of (Γ := ga_law) (k := 20) (F := fd_judged) rfl eA rfl hr
  unfold p_law_9
  refine (exec_ite_f (f := true) (g := true) rfl ?_).trans rfl
  unfold G.eval
  rw [show G.eval ga_law (.isC 2 (.call 20 (.cons (.var 5) (.cons (.var 7) (.cons (.stp (.var 11) (.var 2)) .nil))))) δ = some (.bl true, true, true) by
    unfold G.eval
    rw [c20]
    rfl]
  rfl
/-! the points -/
def sds (ws : List Wd) : List Bool := ws.map (·.2)
theorem pts_step {ps : List Bool} (hl : ps.length ≤ 100) {ws : List Wd} (h6 : ws.length ≤ 6) {g3 g4 : Bool} {s0 s1 s2 s5 s6 s7 s8 s9 s10 s11 s12 s13 s14 s15 s16 s17 s18 s19 : Sl} :
    ∃ g3', G.exec ga_law l_law_1 (lS s0 s1 s2 (.ow (ps.map eB) g3) (.sh (eL ws) g4) s5 s6 s7 s8 s9 s10 s11 s12 s13 s14 s15 s16 s17 s18 s19) = some (.nx (lS s0 s1 s2 (.ow ((ps ++ sds ws).map eB) g3') (.sh (eL ws) g4) s5 s6 s7 s8 s9 s10 s11 s12 s13 s14 s15 s16 s17 s18 s19)) := by
  obtain ⟨gs, e⟩ := lcRun_map (t := .nm 19) (g := g4) (ef := fun δ2 => G.eval ga_law (.ix (.var 19) (.int 1)) δ2) (δ := wipeD (lS s0 s1 s2 (.ow (ps.map eB) g3) (.sh (eL ws) g4) s5 s6 s7 s8 s9 s10 s11 s12 s13 s14 s15 s16 s17 s18 s19) (Tg.nm 19).sl) (f := eW) (y := fun w => eB w.2) ws (fun w _ => ⟨_, rfl, g4, by
    have : atI [D.str (if w.1 = true then "point" else "back"), D.int (if w.2 = true then 1 else 0)] 1 = some (eB w.2) := atI_1 _ _ _
    simp only [lS, wipeD, Tg.sl, G.eval, eW, List.set_cons_succ, List.set_cons_zero, List.getElem?_cons_succ, List.getElem?_cons_zero, this]⟩)
  have ev : G.eval ga_law m_law_2 (lS s0 s1 s2 (.ow (ps.map eB) g3) (.sh (eL ws) g4) s5 s6 s7 s8 s9 s10 s11 s12 s13 s14 s15 s16 s17 s18 s19) = some (.ls ((sds ws).map eB), true, gs) := by
    have : (sds ws).map eB = ws.map fun w => eB w.2 := by unfold sds; rw [List.map_map]; rfl
    rw [this]
    exact eval_lc_of (ds := ws.map eW) (g := g4) rfl (by rw [List.length_map]; omega) e
  have x := exec_ext_of (Γ := ga_law) (i := 3) (ds := ps.map eB) (g := g3) rfl ev (by simp [sds]; omega)
  refine ⟨g3 && (gs || flats ((sds ws).map eB)), ?_⟩
  rw [List.map_append]
  unfold l_law_1
  exact exec_nx x rfl
theorem p11_ok (hn : NOk notes) {gN : Bool} {s0 s1 s2 s4 s6 s7 s8 s9 s10 s11 s12 s13 s14 s15 s16 s17 s18 s19 : Sl} (h4 : pnb s4 = true) :
    ∃ (ps : List Bool) (g3 : Bool) (z4 : Sl), ps.length ≤ 18 ∧ pnb z4 = true ∧ G.exec ga_law p_law_11 (lS s0 s1 s2 (.ow [] true) s4 (.sh (eN notes) gN) s6 s7 s8 s9 s10 s11 s12 s13 s14 s15 s16 s17 s18 s19) = some (.nx (lS s0 s1 s2 (.ow (ps.map eB) g3) z4 (.sh (eN notes) gN) s6 s7 s8 s9 s10 s11 s12 s13 s14 s15 s16 s17 s18 s19)) := by
  have h3 := hn.l3
  obtain ⟨δ', er, ps, g3, z4, rfl, q1, q2⟩ := forRun_fold (t := .nm 4) (g := gN) (ex := fun δ => G.exec ga_law l_law_1 δ) (f := eL) (up := fun (u : Unit) _ => u)
    (fun j _ δ => ∃ (ps : List Bool) (g3 : Bool) (z4 : Sl), δ = lS s0 s1 s2 (.ow (ps.map eB) g3) z4 (.sh (eN notes) gN) s6 s7 s8 s9 s10 s11 s12 s13 s14 s15 s16 s17 s18 s19 ∧ ps.length ≤ 6 * j ∧ pnb z4 = true) notes 0 () _ ⟨[], true, s4, rfl, by simp, h4⟩ (by
      rintro j ws _ δ hj ⟨ps, g3, z4, rfl, q1, q2⟩
      have hjl : j < notes.length := (List.getElem?_eq_some_iff.mp hj).1
      have h6 := hn.w6 ws (List.mem_of_getElem? hj)
      obtain ⟨g3', e⟩ := pts_step (ps := ps) (by omega) h6 (g3 := g3) (g4 := gN) (s0 := s0) (s1 := s1) (s2 := s2) (s5 := .sh (eN notes) gN) (s6 := s6) (s7 := s7) (s8 := s8) (s9 := s9) (s10 := s10) (s11 := s11) (s12 := s12) (s13 := s13) (s14 := s14) (s15 := s15) (s16 := s16) (s17 := s17) (s18 := s18) (s19 := s19)
      exact ⟨_, _, rfl, e, ps ++ sds ws, g3', .sh (eL ws) gN, rfl, by simp [sds]; omega, rfl⟩)
  refine ⟨ps, g3, z4, by omega, q2, ?_⟩
  unfold p_law_11
  exact exec_loop_of (ds := notes.map eL) (g := gN) rfl er
theorem p12_ok {ps : List Bool} (hl : ps.length ≤ 60) {g3 : Bool} (v3 : G.eval ga_law (.var 3) δ = some (.ls (ps.map eB), false, g3)) : ∃ (ws : List D) (x y : Nat), x ≤ 1 ∧ y ≤ 1 ∧ 2 * ws.length + x + y ≤ ps.length ∧ G.exec ga_law p_law_12 δ = some (.nx ((δ.set 15 (.sh (.ls ws) true)).set 16 (.sh (.tp [.int (x : Int), .int (y : Int)]) true))) := by
  obtain ⟨ws, x, y, h1, h2, h3, h4⟩ := games_run ps hl
  refine ⟨ws, x, y, h1, h2, h3, ?_⟩
  have et : G.eval ga_law (.tup (.cons (.int 2) (.cons (.int 1) .nil))) δ = some (.tp [.int 2, .int 1], true, true) := rfl
  have eA : evalA ga_law (.cons (.tup (.cons (.int 2) (.cons (.int 1) .nil))) (.cons (.var 3) .nil)) δ = some ([.tp [.int 2, .int 1], .ls (ps.map eB)], true && (false && true), true && (g3 && true)) := by
    simp only [evalA, et, v3]
  have c := eval_call_of (Γ := ga_law) (k := 15) (F := fd_games) rfl eA rfl h4
  exact exec_asg2 (show G.eval ga_law (.call 15 (.cons (.tup (.cons (.int 2) (.cons (.int 1) .nil))) (.cons (.var 3) .nil))) δ = some (.tp [.ls ws, .tp [.int (x : Int), .int (y : Int)]], true, true) from c)
theorem p13_ok {ps : List Bool} {ws : List D} {x y : Nat} (hx : x ≤ 1) (hy : y ≤ 1) (hb : 2 * ws.length + x + y ≤ ps.length) {g3 : Bool} (v3 : G.eval ga_law (.var 3) δ = some (.ls (ps.map eB), false, g3)) (v15 : G.eval ga_law (.var 15) δ = some (.ls ws, true, true)) (v16 : G.eval ga_law (.var 16) δ = some (.tp [.int (x : Int), .int (y : Int)], true, true)) : G.exec ga_law p_law_13 δ = some (.nx δ) := by
  have m1 : mulok 2 (ws.length : Int) = true := mul_left (by decide)
  have t1 : G.eval ga_law (.cmp .gt (.bin .add (.bin .mul (.int 2) (.len (.var 15))) (.sumT (.var 16))) (.len (.var 3))) δ = some (.bl false, true, true) := by
    have c : ¬ (ps.length : Int) < 2 * (ws.length : Int) + ((x : Int) + (y : Int)) := by omega
    have e0 : G.eval ga_law (.int 2) δ = some (.int 2, true, true) := rfl
    have e1 := cv_bin (o := .mul) (z := 2 * (ws.length : Int)) e0 (cv_len v15) (by simp [Bo.run, m1])
    have e2 := cv_sumT (ns := [(x : Int), (y : Int)]) v16 rfl
    have e3 := cv_bin (o := .add) e1 e2 rfl
    have e4 := cv_len v3
    rw [List.length_map] at e4
    rw [cv_cmp (o := .gt) e3 e4]
    have s2 : [(x : Int), (y : Int)].sum = (x : Int) + (y : Int) := by simp
    simp only [Co.f, s2, decide_eq_false c]
  have t2 : G.eval ga_law (.cmp .gt (.ix (.var 16) (.int 0)) (.int 1)) δ = some (.bl false, true, true) := by
    have c : ¬ (1 : Int) < (x : Int) := by omega
    rw [cv_cmp (o := .gt) (cv_ixT v16 (show G.eval ga_law (.int 0) δ = some (.int 0, true, true) from rfl) (atI_0 _ _)) (show G.eval ga_law (.int 1) δ = some (.int 1, true, true) from rfl)]
    simp only [Co.f, decide_eq_false c]
  have t3 : G.eval ga_law (.cmp .gt (.ix (.var 16) (.int 1)) (.int 1)) δ = some (.bl false, true, true) := by
    have c : ¬ (1 : Int) < (y : Int) := by omega
    rw [cv_cmp (o := .gt) (cv_ixT v16 (show G.eval ga_law (.int 1) δ = some (.int 1, true, true) from rfl) (atI_1 _ _ _)) (show G.eval ga_law (.int 1) δ = some (.int 1, true, true) from rfl)]
    simp only [Co.f, decide_eq_false c]
  unfold p_law_13
  refine (exec_ite_f (f := true) (g := true) rfl ?_).trans rfl
  unfold G.eval
  rw [t1]
  show G.eval ga_law (.or (.cmp .gt (.ix (.var 16) (.int 0)) (.int 1)) (.cmp .gt (.ix (.var 16) (.int 1)) (.int 1))) δ = _
  unfold G.eval
  rw [t2]
  exact t3
end
end K09

namespace K09
open PySem L2 G Sh
theorem exec_par_of {Γ : Ga} {i j : Nat} {a b : E} {δ : List Sl} {x y : D} {g g' : Bool} (ha : G.eval Γ a δ = some (x, true, g)) (hb : G.eval Γ b δ = some (y, true, g')) : G.exec Γ (.par i j false false a b) δ = some (.nx ((δ.set i (.sh x g)).set j (.sh y g'))) := by
  unfold G.exec
  rw [ha]
  simp only [slotOf, Bool.false_eq_true, if_false]
  rw [hb]
theorem exec3_par3U {Γ : Ga} {i j l : Nat} {a b c : E} {δ : List Sl} {d d' : D} {g g' gc : Bool} {ds : List D} (hp : δ.all pnb = true) (hp1 : (δ.set i (.tr d)).all pnb = true) (ha : G.eval Γ a δ = some (d, true, g)) (ta : trOk Γ a d = true) (hb : G.eval Γ b δ = some (d', true, g')) (tb : trOk Γ b d' = true) (hc : G.eval Γ c δ = some (.ls ds, true, gc)) (nc : isNew c = true) :
    exec3 Γ (.par3U i j l a b c) δ = some (.nx (((δ.set i (.tr d)).set j (.tr d')).set l (.ow ds gc))) := by
  unfold exec3
  simp only [ha, ta, hb, tb, hc, slotOf, nc, if_true, pn_drop hp, pn_drop hp1]
section
variable {ns : List Int}
theorem body_run (hc : Cells ns) (b : Nat) {g1 : Bool} {s2 s3 s4 s5 s6 s7 s8 s9 s10 s11 s12 s13 s14 s15 s16 s17 s18 s19 : Sl} (hp : [s2, s3, s4, s5, s6, s7, s8, s9, s10, s11, s12, s13, s14, s15, s16, s17, s18, s19].all pnb = true) :
    ∃ z2 z3 z4 z5 z6 z7 z8 z9 z10 z11 z12 z13 z14 z15 z16 z17 z18 z19, [z2, z3, z4, z5, z6, z7, z8, z9, z10, z11, z12, z13, z14, z15, z16, z17, z18, z19].all pnb = true ∧ exec3 ga_law k_law_3 (lS (.sh (.ls (ns.map D.int)) false) (.sh (.int (b : Int)) g1) s2 s3 s4 s5 s6 s7 s8 s9 s10 s11 s12 s13 s14 s15 s16 s17 s18 s19) =
      some (.nx (lS (.sh (.ls (ns.map D.int)) false) (.sh (.int (b : Int)) g1) z2 z3 z4 z5 z6 z7 z8 z9 z10 z11 z12 z13 z14 z15 z16 z17 z18 z19)) := by
  simp only [List.all_cons, List.all_nil, Bool.and_true, Bool.and_eq_true] at hp
  obtain ⟨p2, p3, p4, p5, p6, p7, p8, p9, p10, p11, p12, p13, p14, p15, p16, p17, p18, p19⟩ := hp
  obtain ⟨notes, hn, nr⟩ := notes_run hc b
  obtain ⟨v, hv, v0⟩ := val0_run hc b 7 (by decide) (by decide)
  have l1 := hn.l1
  have l3 := hn.l3
  -- notes, value
  have ca := cell_at_run ns b
  have aA : evalA ga_law (.cons (.var 0) (.cons (.var 1) .nil)) (lS (.sh (.ls (ns.map D.int)) false) (.sh (.int (b : Int)) g1) s2 s3 s4 s5 s6 s7 s8 s9 s10 s11 s12 s13 s14 s15 s16 s17 s18 s19) = some ([.ls (ns.map D.int), .int (b : Int)], true, false) := by
    have a0 : G.eval ga_law (.var 0) (lS (.sh (.ls (ns.map D.int)) false) (.sh (.int (b : Int)) g1) s2 s3 s4 s5 s6 s7 s8 s9 s10 s11 s12 s13 s14 s15 s16 s17 s18 s19) = some (.ls (ns.map D.int), true, false) := rfl
    have a1 : G.eval ga_law (.var 1) (lS (.sh (.ls (ns.map D.int)) false) (.sh (.int (b : Int)) g1) s2 s3 s4 s5 s6 s7 s8 s9 s10 s11 s12 s13 s14 s15 s16 s17 s18 s19) = some (.int (b : Int), true, g1) := rfl
    simp only [evalA, a0, a1]
    rfl
  have c25 := eval_call_of (Γ := ga_law) (k := 25) (F := fd__law_notes) rfl aA rfl nr
  have c22 := eval_call_of (Γ := ga_law) (k := 22) (F := fd__law_cell_at) rfl aA rfl ca
  have aA2 : evalA ga_law (.cons (.call 22 (.cons (.var 0) (.cons (.var 1) .nil))) (.cons (.int 7) .nil)) (lS (.sh (.ls (ns.map D.int)) false) (.sh (.int (b : Int)) g1) s2 s3 s4 s5 s6 s7 s8 s9 s10 s11 s12 s13 s14 s15 s16 s17 s18 s19) = some ([.int (ns.getD b 0), .int 7], true, true) := by
    have i7 : G.eval ga_law (.int 7) (lS (.sh (.ls (ns.map D.int)) false) (.sh (.int (b : Int)) g1) s2 s3 s4 s5 s6 s7 s8 s9 s10 s11 s12 s13 s14 s15 s16 s17 s18 s19) = some (.int 7, true, true) := rfl
    simp only [evalA, c22, i7]
    rfl
  have c24 := eval_call_of (Γ := ga_law) (k := 24) (F := fd__law_value) rfl aA2 rfl hv
  have x1 := exec_par_of (i := 5) (j := 6) (show G.eval ga_law (.call 25 (.cons (.var 0) (.cons (.var 1) .nil))) _ = some (eN notes, true, false) from c25) (show G.eval ga_law (.call 24 (.cons (.call 22 (.cons (.var 0) (.cons (.var 1) .nil))) (.cons (.int 7) .nil))) _ = some (.int v, true, true) from c24)
  -- hand, whole
  obtain ⟨hand, hhand, hh⟩ : ∃ q : Nat, v % (notes.length : Int) = (q : Int) ∧ q < notes.length := ⟨(v % (notes.length : Int)).toNat, by have := Int.emod_nonneg v (show (notes.length : Int) ≠ 0 by omega); omega, by have := Int.emod_nonneg v (show (notes.length : Int) ≠ 0 by omega); have := Int.emod_lt_of_pos v (show (0 : Int) < (notes.length : Int) by omega); omega⟩
  have m7 : G.eval ga_law (.bin .mod (.var 6) (.len (.var 5))) (lS (.sh (.ls (ns.map D.int)) false) (.sh (.int (b : Int)) g1) s2 s3 s4 (.sh (eN notes) false) (.sh (.int v) true) s7 s8 s9 s10 s11 s12 s13 s14 s15 s16 s17 s18 s19) = some (.int (hand : Int), true, true) := by
    have e5 := cv_len (Γ := ga_law) (a := .var 5) (δ := lS (.sh (.ls (ns.map D.int)) false) (.sh (.int (b : Int)) g1) s2 s3 s4 (.sh (eN notes) false) (.sh (.int v) true) s7 s8 s9 s10 s11 s12 s13 s14 s15 s16 s17 s18 s19) (xs := notes.map eL) (f := true) (g := false) rfl
    rw [List.length_map] at e5
    exact cv_bin (o := .mod) (i := v) (j := (notes.length : Int)) rfl e5 (by simp only [Bo.run, if_pos (show (0 : Int) < (notes.length : Int) by omega), hhand])
  obtain ⟨g8, m8⟩ : ∃ g8, G.eval ga_law m_law_1 (lS (.sh (.ls (ns.map D.int)) false) (.sh (.int (b : Int)) g1) s2 s3 s4 (.sh (eN notes) false) (.sh (.int v) true) s7 s8 s9 s10 s11 s12 s13 s14 s15 s16 s17 s18 s19) = some (eH (notes.map List.length), true, g8) := by
    obtain ⟨gs, e⟩ := lcRun_map (t := .nm 4) (g := false) (ef := fun δ2 => G.eval ga_law (.len (.var 4)) δ2) (δ := wipeD (lS (.sh (.ls (ns.map D.int)) false) (.sh (.int (b : Int)) g1) s2 s3 s4 (.sh (eN notes) false) (.sh (.int v) true) s7 s8 s9 s10 s11 s12 s13 s14 s15 s16 s17 s18 s19) (Tg.nm 4).sl) (f := eL) (y := fun ws => .int (ws.length : Int)) notes (fun ws _ => ⟨_, rfl, true, by
      have := cv_len (Γ := ga_law) (a := .var 4) (δ := lS (.sh (.ls (ns.map D.int)) false) (.sh (.int (b : Int)) g1) s2 s3 (.sh (eL ws) false) (.sh (eN notes) false) (.sh (.int v) true) s7 s8 s9 s10 s11 s12 s13 s14 s15 s16 s17 s18 s19) (xs := ws.map eW) (f := true) (g := false) rfl
      rw [List.length_map] at this
      exact this⟩)
    refine ⟨gs, ?_⟩
    have : eH (notes.map List.length) = .ls (notes.map fun ws => D.int (ws.length : Int)) := by unfold eH; rw [List.map_map]; rfl
    rw [this]
    exact eval_lc_of (ds := notes.map eL) (g := false) rfl (by rw [List.length_map]; omega) e
  have x2 := exec_par_of (i := 7) (j := 8) m7 m8
  -- two desks
  have nw : G.eval ga_law (.new 0 (.cons (.len (.var 5)) .nil)) (lS (.sh (.ls (ns.map D.int)) false) (.sh (.int (b : Int)) g1) s2 s3 s4 (.sh (eN notes) false) (.sh (.int v) true) (.sh (.int (hand : Int)) true) (.sh (eH (notes.map List.length)) g8) s9 s10 s11 s12 s13 s14 s15 s16 s17 s18 s19) = some (eDk (List.replicate notes.length []), true, true) := by
    have e5 := cv_len (Γ := ga_law) (a := .var 5) (δ := lS (.sh (.ls (ns.map D.int)) false) (.sh (.int (b : Int)) g1) s2 s3 s4 (.sh (eN notes) false) (.sh (.int v) true) (.sh (.int (hand : Int)) true) (.sh (eH (notes.map List.length)) g8) s9 s10 s11 s12 s13 s14 s15 s16 s17 s18 s19) (xs := notes.map eL) (f := true) (g := false) rfl
    rw [List.length_map] at e5
    exact rv_new (F := nd_Desk) (ds := [.int (notes.length : Int)]) (f := true) (g := true) rfl (by simp only [evalA, e5]; rfl) rfl (desk_mk l1 l3)
  have tk : trOk ga_law (.new 0 (.cons (.len (.var 5)) .nil)) (eDk (List.replicate notes.length [])) = true := by
    show (_ && D.tflats [.ls ((List.replicate notes.length ([] : Mp)).map eD)]) = true
    rw [tf_new]
    rfl
  have er : List.replicate notes.length ([] : Mp) = notes.map fun _ => [] := by rw [List.map_const']
  rw [er] at nw tk
  have x3 := exec3_par3U (Γ := ga_law) (i := 9) (j := 10) (l := 11) (c := .lst .nil) (ds := []) (gc := true) (lS_pn (by simp [pnb_sh, p2, p3, p4, p9, p10, p11, p12, p13, p14, p15, p16, p17, p18, p19])) (show (lS (.sh (.ls (ns.map D.int)) false) (.sh (.int (b : Int)) g1) s2 s3 s4 (.sh (eN notes) false) (.sh (.int v) true) (.sh (.int (hand : Int)) true) (.sh (eH (notes.map List.length)) g8) (.tr (eDk (notes.map fun _ => []))) s10 s11 s12 s13 s14 s15 s16 s17 s18 s19).all pnb = true from lS_pn (by simp [pnb_sh, pnb_tr, p2, p3, p4, p10, p11, p12, p13, p14, p15, p16, p17, p18, p19])) nw tk nw tk rfl rfl
  -- the first turns
  obtain ⟨es, g, gf, gl, tr⟩ := turns_run hc hn b
  obtain ⟨ms, hist, gS, a12, a13, a14, a17, a18, k1, k2, k3, k4, k5, k6⟩ := loop1_run hn hh g gl (gN := false) (gh := true) (gI := false) (s0 := .sh (.ls (ns.map D.int)) false) (s1 := .sh (.int (b : Int)) g1) (s2 := s2) (s3 := s3) (s4 := s4) (s6 := .sh (.int v) true) (s8 := .sh (eH (notes.map List.length)) g8) (s10 := .tr (eDk (notes.map fun _ => []))) (s12 := s12) (s13 := s13) (s14 := s14) (s15 := s15) (s16 := s16) (s17 := s17) (s18 := s18) (s19 := s19) (by simp [pnb_sh, pnb_tr, p2, p3, p4, p12, p13, p14, p15, p16, p17, p18, p19])
  simp only [List.all_cons, List.all_nil, Bool.and_true, Bool.and_eq_true] at k5
  obtain ⟨q12, q13, q14, q17, q18⟩ := k5
  have i1 : evalI ga_law (.itL (.call 26 (.cons (.var 0) (.cons (.var 1) (.cons (.var 5) .nil))))) (lS (.sh (.ls (ns.map D.int)) false) (.sh (.int (b : Int)) g1) s2 s3 s4 (.sh (eN notes) false) (.sh (.int v) true) (.sh (.int (hand : Int)) true) (.sh (eH (notes.map List.length)) g8) (.tr (eDk (notes.map fun _ => []))) (.tr (eDk (notes.map fun _ => []))) (.ow [] true) s12 s13 s14 s15 s16 s17 s18 s19) = some (es.map eT, false) := by
    have c := eval_call_of (Γ := ga_law) (k := 26) (F := fd__law_turns) (es := .cons (.var 0) (.cons (.var 1) (.cons (.var 5) .nil))) (δ := lS (.sh (.ls (ns.map D.int)) false) (.sh (.int (b : Int)) g1) s2 s3 s4 (.sh (eN notes) false) (.sh (.int v) true) (.sh (.int (hand : Int)) true) (.sh (eH (notes.map List.length)) g8) (.tr (eDk (notes.map fun _ => []))) (.tr (eDk (notes.map fun _ => []))) (.ow [] true) s12 s13 s14 s15 s16 s17 s18 s19) (ds := [.ls (ns.map D.int), .int (b : Int), eN notes]) (f := true) (g := false && (g1 && (false && true))) rfl rfl rfl tr
    unfold evalI
    rw [c]
    rfl
  have x4 := exec3_loop i1 k6
  -- the other turns, from the end
  obtain ⟨es2, g2, gf2, gl2, tr2⟩ := turns_run hc hn (b + 1)
  obtain ⟨ms2, b12, b13, j1, j2, j3⟩ := loop2_run hn (l := es2.reverse) (fun e he => by
    obtain ⟨i, hi⟩ := List.mem_iff_getElem?.mp (List.mem_reverse.mp he)
    exact (go_at g2 hi).2) (by rw [List.length_reverse]; exact gl2) (gN := false) (gI := false) (s0 := .sh (.ls (ns.map D.int)) false) (s1 := .sh (.int (b : Int)) g1) (s2 := s2) (s3 := s3) (s4 := s4) (s6 := .sh (.int v) true) (s7 := .sh (.int (hand : Int)) true) (s8 := .sh (eH (notes.map List.length)) g8) (s9 := .tr (eDk ms)) (s11 := .ow (hist.map (eSg notes hand)) gS) (s12 := a12) (s13 := a13) (s14 := a14) (s15 := s15) (s16 := s16) (s17 := a17) (s18 := a18) (s19 := s19) (by simp [pnb_sh, pnb_tr, pnb_ow, p2, p3, p4, q12, q13, q14, p15, p16, q17, q18, p19])
  simp only [List.all_cons, List.all_nil, Bool.and_true, Bool.and_eq_true] at j2
  obtain ⟨r12, r13⟩ := j2
  have i2 : evalI ga_law (.itL (.rev (.call 26 (.cons (.var 0) (.cons (.bin .add (.var 1) (.int 1)) (.cons (.var 5) .nil)))))) (lS (.sh (.ls (ns.map D.int)) false) (.sh (.int (b : Int)) g1) s2 s3 s4 (.sh (eN notes) false) (.sh (.int v) true) (.sh (.int (hand : Int)) true) (.sh (eH (notes.map List.length)) g8) (.tr (eDk ms)) (.tr (eDk (notes.map fun _ => []))) (.ow (hist.map (eSg notes hand)) gS) a12 a13 a14 s15 s16 a17 a18 s19) = some (es2.reverse.map eT, false) := by
    have c := eval_call_of (Γ := ga_law) (k := 26) (F := fd__law_turns) (es := .cons (.var 0) (.cons (.bin .add (.var 1) (.int 1)) (.cons (.var 5) .nil))) (δ := lS (.sh (.ls (ns.map D.int)) false) (.sh (.int (b : Int)) g1) s2 s3 s4 (.sh (eN notes) false) (.sh (.int v) true) (.sh (.int (hand : Int)) true) (.sh (eH (notes.map List.length)) g8) (.tr (eDk ms)) (.tr (eDk (notes.map fun _ => []))) (.ow (hist.map (eSg notes hand)) gS) a12 a13 a14 s15 s16 a17 a18 s19) (ds := [.ls (ns.map D.int), .int ((b + 1 : Nat) : Int), eN notes]) (f := true) (g := false && (true && (false && true))) rfl rfl rfl tr2
    have e2 : G.eval ga_law (.rev (.call 26 (.cons (.var 0) (.cons (.bin .add (.var 1) (.int 1)) (.cons (.var 5) .nil))))) (lS (.sh (.ls (ns.map D.int)) false) (.sh (.int (b : Int)) g1) s2 s3 s4 (.sh (eN notes) false) (.sh (.int v) true) (.sh (.int (hand : Int)) true) (.sh (eH (notes.map List.length)) g8) (.tr (eDk ms)) (.tr (eDk (notes.map fun _ => []))) (.ow (hist.map (eSg notes hand)) gS) a12 a13 a14 s15 s16 a17 a18 s19) = some (.ls (es2.reverse.map eT), true, false) := by
      unfold G.eval
      rw [c]
      simp only [← List.map_reverse]
      rfl
    unfold evalI
    rw [e2]
  have x5 := exec3_loop i2 j3
  -- at rest
  have dk : DkOk ms notes := by
    have := (desk_at hn g k1).2
    rwa [gf, nlOf_full] at this
  have dk2 : DkOk ms2 notes := by
    have := holds_ok hn j1 (hd_lens notes) fun a j n e => by
      rw [List.mem_reverse]
      exact go_zero g2 (by rw [gf2]; exact e)
    rwa [nlOf_full] at this
  have x7 := p7_ok (δ := lS (.sh (.ls (ns.map D.int)) false) (.sh (.int (b : Int)) g1) s2 s3 s4 (.sh (eN notes) false) (.sh (.int v) true) (.sh (.int (hand : Int)) true) (.sh (eH (notes.map List.length)) g8) (.tr (eDk ms)) (.tr (eDk ms2)) (.ow (hist.map (eSg notes hand)) gS) b12 b13 a14 s15 s16 a17 a18 s19) hn dk dk2 rfl rfl rfl rfl
  have x8 := p8_ok (notes := notes) (hand := hand) (hist := hist) (gS := gS) (δ := lS (.sh (.ls (ns.map D.int)) false) (.sh (.int (b : Int)) g1) s2 s3 s4 (.sh (eN notes) false) (.sh (.int v) true) (.sh (.int (hand : Int)) true) (.sh (eH (notes.map List.length)) g8) (.tr (eDk ms)) (.tr (eDk ms2)) (.ow (hist.map (eSg notes hand)) gS) b12 b13 a14 s15 s16 a17 a18 s19) rfl
  have x9 := p9_ok (δ := lS (.sh (.ls (ns.map D.int)) false) (.sh (.int (b : Int)) g1) (.sh (.int ((1 + hist.length / 5 : Nat) : Int)) true) s3 s4 (.sh (eN notes) false) (.sh (.int v) true) (.sh (.int (hand : Int)) true) (.sh (eH (notes.map List.length)) g8) (.tr (eDk ms)) (.tr (eDk ms2)) (.ow (hist.map (eSg notes hand)) gS) b12 b13 a14 s15 s16 a17 a18 s19) hn hh k3 k4 (by omega) rfl rfl rfl rfl
  have x10 : G.exec ga_law p_law_10 (lS (.sh (.ls (ns.map D.int)) false) (.sh (.int (b : Int)) g1) (.sh (.int ((1 + hist.length / 5 : Nat) : Int)) true) s3 s4 (.sh (eN notes) false) (.sh (.int v) true) (.sh (.int (hand : Int)) true) (.sh (eH (notes.map List.length)) g8) (.tr (eDk ms)) (.tr (eDk ms2)) (.ow (hist.map (eSg notes hand)) gS) b12 b13 a14 s15 s16 a17 a18 s19) = some (.nx (lS (.sh (.ls (ns.map D.int)) false) (.sh (.int (b : Int)) g1) (.sh (.int ((1 + hist.length / 5 : Nat) : Int)) true) (.ow [] true) s4 (.sh (eN notes) false) (.sh (.int v) true) (.sh (.int (hand : Int)) true) (.sh (eH (notes.map List.length)) g8) (.tr (eDk ms)) (.tr (eDk ms2)) (.ow (hist.map (eSg notes hand)) gS) b12 b13 a14 s15 s16 a17 a18 s19)) := exec_own_of rfl rfl
  obtain ⟨ps, g3, z4, pl, pz, x11⟩ := p11_ok hn (gN := false) (s0 := .sh (.ls (ns.map D.int)) false) (s1 := .sh (.int (b : Int)) g1) (s2 := .sh (.int ((1 + hist.length / 5 : Nat) : Int)) true) (s4 := s4) (s6 := .sh (.int v) true) (s7 := .sh (.int (hand : Int)) true) (s8 := .sh (eH (notes.map List.length)) g8) (s9 := .tr (eDk ms)) (s10 := .tr (eDk ms2)) (s11 := .ow (hist.map (eSg notes hand)) gS) (s12 := b12) (s13 := b13) (s14 := a14) (s15 := s15) (s16 := s16) (s17 := a17) (s18 := a18) (s19 := s19) p4
  obtain ⟨wn, x, y, y1, y2, y3, x12⟩ := p12_ok (δ := lS (.sh (.ls (ns.map D.int)) false) (.sh (.int (b : Int)) g1) (.sh (.int ((1 + hist.length / 5 : Nat) : Int)) true) (.ow (ps.map eB) g3) z4 (.sh (eN notes) false) (.sh (.int v) true) (.sh (.int (hand : Int)) true) (.sh (eH (notes.map List.length)) g8) (.tr (eDk ms)) (.tr (eDk ms2)) (.ow (hist.map (eSg notes hand)) gS) b12 b13 a14 s15 s16 a17 a18 s19) (ps := ps) (g3 := g3) (by omega) rfl
  have x13 := p13_ok (δ := lS (.sh (.ls (ns.map D.int)) false) (.sh (.int (b : Int)) g1) (.sh (.int ((1 + hist.length / 5 : Nat) : Int)) true) (.ow (ps.map eB) g3) z4 (.sh (eN notes) false) (.sh (.int v) true) (.sh (.int (hand : Int)) true) (.sh (eH (notes.map List.length)) g8) (.tr (eDk ms)) (.tr (eDk ms2)) (.ow (hist.map (eSg notes hand)) gS) b12 b13 a14 (.sh (.ls wn) true) (.sh (.tp [.int (x : Int), .int (y : Int)]) true) a17 a18 s19) y1 y2 y3 (g3 := g3) rfl rfl rfl
  refine ⟨.sh (.int ((1 + hist.length / 5 : Nat) : Int)) true, .ow (ps.map eB) g3, z4, .sh (eN notes) false, .sh (.int v) true, .sh (.int (hand : Int)) true, .sh (eH (notes.map List.length)) g8, .tr (eDk ms), .tr (eDk ms2), .ow (hist.map (eSg notes hand)) gS, b12, b13, a14, .sh (.ls wn) true, .sh (.tp [.int (x : Int), .int (y : Int)]) true, a17, a18, s19, ?_, ?_⟩
  · simp [pnb_sh, pnb_tr, pnb_ow, q14, q17, q18, r12, r13, pz, p19]
  · unfold k_law_3
    refine exec3_nx (exec3_p (lS_pn ?_) x1) (exec3_nx (exec3_p (lS_pn ?_) x2) (exec3_nx x3 (exec3_nx x4 (exec3_nx x5 (exec3_nx (exec3_p (lS_pn ?_) x7) (exec3_nx (exec3_p (lS_pn ?_) x8) (exec3_nx (exec3_p (lS_pn ?_) x9) (exec3_nx (exec3_p (lS_pn ?_) x10) (exec3_nx (exec3_p (lS_pn ?_) x11) (exec3_nx (exec3_p (lS_pn ?_) x12) (exec3_nx (exec3_p (lS_pn ?_) x13) rfl)))))))))))
    all_goals simp [pnb_sh, pnb_tr, pnb_ow, p2, p3, p4, p5, p6, p7, p8, p9, p10, p11, p12, p13, p14, p15, p16, p17, p18, p19, q14, q17, q18, r12, r13, pz]
end
end K09

namespace K09
open PySem L2 G Sh
theorem dk_nil : DkOk [[], []] [[], []] := by
  refine ⟨rfl, fun i m ws hm hw => ?_⟩
  have h1 : m = [] := by
    have := List.mem_of_getElem? hm
    simpa using this
  have h2 : ws = [] := by
    have := List.mem_of_getElem? hw
    simpa using this
  subst h1 h2
  exact ⟨fun k hk => absurd hk (Nat.not_lt_zero k), rfl, Nat.zero_le _⟩
theorem tail_run {δ : List Sl} : ∃ f g, exec3 ga_law (.seq (.ret (.eq (.meth 3 (.new 0 (.cons (.int 2) .nil)) .nil) (.call 16 (.cons (.lst (.cons (.lst .nil) (.cons (.lst .nil) .nil))) (.cons (.lst (.cons (.int 0) (.cons (.int 0) .nil))) .nil))))) .nil) δ = some (.rt (.bl true, f, g)) := by
  have nw : G.eval ga_law (.new 0 (.cons (.int 2) .nil)) δ = some (.ob 0 [.ls (([[], []] : List Mp).map eD)], true, true) := rv_new (F := nd_Desk) (ds := [.int ((2 : Nat) : Int)]) (f := true) (g := true) rfl rfl rfl (desk_mk (n := 2) (by decide) (by decide))
  have m := eval_meth_of (Γ := ga_law) (m := 3) (nm := "score") (tb := [(0, fd_Desk_score)]) (F := fd_Desk_score) (o := .new 0 (.cons (.int 2) .nil)) (es := .nil) (δ := δ) (c := 0) (ds := []) rfl nw rfl rfl ⟨rfl, by decide +kernel⟩ (dscore_run dk_nil (by decide))
  have hn : NOk [[], []] := ⟨by decide, by decide, fun ws hw => by
    have : ws = [] := by simpa using hw
    rw [this]; decide⟩
  have va : Va [[], []] 0 0 [0, 0] := ⟨rfl, fun p hp => by
    have : p = ([], 0) := by simpa using hp
    rw [this]; exact Nat.le_refl _, rfl⟩
  have c := eval_call_of (Γ := ga_law) (k := 16) (F := fd_score) (es := .cons (.lst (.cons (.lst .nil) (.cons (.lst .nil) .nil))) (.cons (.lst (.cons (.int 0) (.cons (.int 0) .nil))) .nil)) (δ := δ) (ds := [eN [[], []], eH [0, 0]]) (f := true) (g := true) rfl rfl rfl (score_run hn (hand := 0) (by decide) va)
  refine ⟨true, true, exec3_rt (exec3_ret ?_)⟩
  unfold G.eval
  rw [m, c]
  simp [eqok_okn, okn_ii, eqv_ii]
theorem loop_run {ns : List Int} (hc : Cells ns) : ∀ (ds : List D) (s1 s2 s3 s4 s5 s6 s7 s8 s9 s10 s11 s12 s13 s14 s15 s16 s17 s18 s19 : Sl), (∀ d ∈ ds, ∃ b : Nat, d = .int (b : Int)) → [s2, s3, s4, s5, s6, s7, s8, s9, s10, s11, s12, s13, s14, s15, s16, s17, s18, s19].all pnb = true → ∃ δ', forRun (.nm 1) true (fun δ => exec3 ga_law k_law_3 δ) ds (lS (.sh (.ls (ns.map D.int)) false) s1 s2 s3 s4 s5 s6 s7 s8 s9 s10 s11 s12 s13 s14 s15 s16 s17 s18 s19) = some (.nx δ')
  | [], s1, s2, s3, s4, s5, s6, s7, s8, s9, s10, s11, s12, s13, s14, s15, s16, s17, s18, s19, _, _ => ⟨_, rfl⟩
  | d :: ds, s1, s2, s3, s4, s5, s6, s7, s8, s9, s10, s11, s12, s13, s14, s15, s16, s17, s18, s19, hd, hp => by
    obtain ⟨b, rfl⟩ := hd d (.head _)
    obtain ⟨z2, z3, z4, z5, z6, z7, z8, z9, z10, z11, z12, z13, z14, z15, z16, z17, z18, z19, hz, e⟩ := body_run hc b (g1 := true) hp
    obtain ⟨δ', r⟩ := loop_run hc ds (.sh (.int (b : Int)) true) z2 z3 z4 z5 z6 z7 z8 z9 z10 z11 z12 z13 z14 z15 z16 z17 z18 z19 (fun x hx => hd x (.tail _ hx)) hz
    exact ⟨δ', forRun_cons rfl e r⟩
theorem law_run : ∀ ns : List Int, ns.length ≤ 63 → (∀ z ∈ ns, Builtin.Int.intBits z ≤ 1048576) → ∃ f g, exec3 ga_law c_law (st0 20 [.ls (ns.map D.int)]) = some (.rt (.bl true, f, g)) := by
  intro ns hl hb
  have hc : Cells ns := ⟨hl, fun z hz => Nat.le_trans (bits_log2 (hb z hz)) (by decide)⟩
  have s0 : st0 20 [.ls (ns.map D.int)] = lS (.sh (.ls (ns.map D.int)) false) .no .no .no .no .no .no .no .no .no .no .no .no .no .no .no .no .no .no .no := rfl
  rw [s0]
  obtain ⟨n, hn, hn1, hn4⟩ : ∃ n : Nat, G.eval ga_law (.max2 (.int 1) (.min2 (.int 4) (.len (.var 0)))) (lS (.sh (.ls (ns.map D.int)) false) .no .no .no .no .no .no .no .no .no .no .no .no .no .no .no .no .no .no .no) = some (.int (n : Int), true, true) ∧ 1 ≤ n ∧ n ≤ 4 := by
    have e0 := cv_len (Γ := ga_law) (a := .var 0) (δ := lS (.sh (.ls (ns.map D.int)) false) .no .no .no .no .no .no .no .no .no .no .no .no .no .no .no .no .no .no .no) (xs := ns.map D.int) (f := true) (g := false) rfl
    rw [List.length_map] at e0
    have e1 : G.eval ga_law (.min2 (.int 4) (.len (.var 0))) (lS (.sh (.ls (ns.map D.int)) false) .no .no .no .no .no .no .no .no .no .no .no .no .no .no .no .no .no .no .no) = some (.int (if (ns.length : Int) < 4 then (ns.length : Int) else 4), true, true) := by
      unfold G.eval
      rw [e0]
      rfl
    have e2 : G.eval ga_law (.max2 (.int 1) (.min2 (.int 4) (.len (.var 0)))) (lS (.sh (.ls (ns.map D.int)) false) .no .no .no .no .no .no .no .no .no .no .no .no .no .no .no .no .no .no .no) = some (.int (if (if (ns.length : Int) < 4 then (ns.length : Int) else 4) > 1 then (if (ns.length : Int) < 4 then (ns.length : Int) else 4) else 1), true, true) := by
      unfold G.eval
      rw [e1]
      rfl
    refine ⟨(if (if (ns.length : Int) < 4 then (ns.length : Int) else 4) > 1 then (if (ns.length : Int) < 4 then (ns.length : Int) else 4) else 1).toNat, ?_, ?_, ?_⟩
    · rw [e2, Int.toNat_of_nonneg (by split <;> split <;> omega)]
    · split <;> split <;> omega
    · split <;> split <;> omega
  have i1 : evalI ga_law (.itR3 (.int 0) (.max2 (.int 1) (.min2 (.int 4) (.len (.var 0)))) (.int 2)) (lS (.sh (.ls (ns.map D.int)) false) .no .no .no .no .no .no .no .no .no .no .no .no .no .no .no .no .no .no .no) = some (rng3D 0 2 (rsz 0 (n : Int) 2), true) := by
    have a0 : G.eval ga_law (.int 0) (lS (.sh (.ls (ns.map D.int)) false) .no .no .no .no .no .no .no .no .no .no .no .no .no .no .no .no .no .no .no) = some (.int 0, true, true) := rfl
    have a2 : G.eval ga_law (.int 2) (lS (.sh (.ls (ns.map D.int)) false) .no .no .no .no .no .no .no .no .no .no .no .no .no .no .no .no .no .no .no) = some (.int 2, true, true) := rfl
    unfold evalI
    rw [a0, hn, a2]
    dsimp only
    rw [if_pos (by omega)]
  obtain ⟨δ', r⟩ := loop_run hc (rng3D 0 2 (rsz 0 (n : Int) 2)) .no .no .no .no .no .no .no .no .no .no .no .no .no .no .no .no .no .no .no (fun d hd => by
    unfold rng3D at hd
    obtain ⟨k, _, rfl⟩ := List.mem_map.mp hd
    exact ⟨k * 2, by congr 1; omega⟩) rfl
  obtain ⟨f, g, t⟩ := tail_run (δ := δ')
  exact ⟨f, g, exec3_nx (exec3_loop i1 r) t⟩
end K09

namespace K09
open PySem L2 G
theorem kit_own {K : PySem.W.Frag} {a b : Addr} {r : Bool} {c} (hc : PySem.W.clsIn K b = some c) (ty : PySem.W.typeIn K (.ref b) = some (.type "type")) (s : PySem.W.subIn K (.ref a) (.ref b) = some r) (z : PySem.W.subIn K (.ref a) (.ref a) = some true) : PySem.W.kitOne K (.ref a) (.ref b) = some r := by
  unfold PySem.W.kitOne
  split
  · rename_i e
    have e := eq_of_beq e
    cases e
    rw [z] at s
    exact s
  · unfold PySem.W.kitCls
    simp only [hc, ty, Option.isSome_some, Bool.true_and]
    rw [if_pos (by rfl)]
    exact s
theorem all_mk {l : PySem.W.OpenLaw} {w : World} {K : PySem.W.Frag} {h : Heap} {mg : Str → Option Value} {fl : Addr} (X : K.In h) (G : h.Ns mainGlobals mg) (hfl : mg "law" = some (.ref fl))
    {a0 : Addr} {od0 an0 : Option Addr} {sl0 : Array (Option Value)} {oc0 kV0 dc0 pm0 cd0 ct0 : Value} {a1 : Addr} {od1 an1 : Option Addr} {sl1 : Array (Option Value)} {oc1 kV1 dc1 pm1 cd1 ct1 : Value} {a2 : Addr} {od2 an2 : Option Addr} {sl2 : Array (Option Value)} {oc2 kV2 dc2 pm2 cd2 ct2 : Value} {a3 : Addr} {od3 an3 : Option Addr} {sl3 : Array (Option Value)} {oc3 kV3 dc3 pm3 cd3 ct3 : Value} {a4 : Addr} {od4 an4 : Option Addr} {sl4 : Array (Option Value)} {oc4 kV4 dc4 pm4 cd4 ct4 : Value} {a5 : Addr} {od5 an5 : Option Addr} {sl5 : Array (Option Value)} {oc5 kV5 dc5 pm5 cd5 ct5 : Value} {a6 : Addr} {od6 an6 : Option Addr} {sl6 : Array (Option Value)} {oc6 kV6 dc6 pm6 cd6 ct6 : Value} {a7 : Addr} {od7 an7 : Option Addr} {sl7 : Array (Option Value)} {oc7 kV7 dc7 pm7 cd7 ct7 : Value} {a8 : Addr} {od8 an8 : Option Addr} {sl8 : Array (Option Value)} {oc8 kV8 dc8 pm8 cd8 ct8 : Value} {a9 : Addr} {od9 an9 : Option Addr} {sl9 : Array (Option Value)} {oc9 kV9 dc9 pm9 cd9 ct9 : Value} {a10 : Addr} {od10 an10 : Option Addr} {sl10 : Array (Option Value)} {oc10 kV10 dc10 pm10 cd10 ct10 : Value} {a11 : Addr} {od11 an11 : Option Addr} {sl11 : Array (Option Value)} {oc11 kV11 dc11 pm11 cd11 ct11 : Value} {a12 : Addr} {od12 an12 : Option Addr} {sl12 : Array (Option Value)} {oc12 kV12 dc12 pm12 cd12 ct12 : Value} {a13 : Addr} {od13 an13 : Option Addr} {sl13 : Array (Option Value)} {oc13 kV13 dc13 pm13 cd13 ct13 : Value} {a14 : Addr} {od14 an14 : Option Addr} {sl14 : Array (Option Value)} {oc14 kV14 dc14 pm14 cd14 ct14 : Value} {a15 : Addr} {od15 an15 : Option Addr} {sl15 : Array (Option Value)} {oc15 kV15 dc15 pm15 cd15 ct15 : Value} {a16 : Addr} {od16 an16 : Option Addr} {sl16 : Array (Option Value)} {oc16 kV16 dc16 pm16 cd16 ct16 : Value} {a17 : Addr} {od17 an17 : Option Addr} {sl17 : Array (Option Value)} {oc17 kV17 dc17 pm17 cd17 ct17 : Value} {a18 : Addr} {od18 an18 : Option Addr} {sl18 : Array (Option Value)} {oc18 kV18 dc18 pm18 cd18 ct18 : Value} {a19 : Addr} {od19 an19 : Option Addr} {sl19 : Array (Option Value)} {oc19 kV19 dc19 pm19 cd19 ct19 : Value} {a20 : Addr} {od20 an20 : Option Addr} {sl20 : Array (Option Value)} {oc20 kV20 dc20 pm20 cd20 ct20 : Value} {a21 : Addr} {od21 an21 : Option Addr} {sl21 : Array (Option Value)} {oc21 kV21 dc21 pm21 cd21 ct21 : Value} {a22 : Addr} {od22 an22 : Option Addr} {sl22 : Array (Option Value)} {oc22 kV22 dc22 pm22 cd22 ct22 : Value} {a23 : Addr} {od23 an23 : Option Addr} {sl23 : Array (Option Value)} {oc23 kV23 dc23 pm23 cd23 ct23 : Value} {a24 : Addr} {od24 an24 : Option Addr} {sl24 : Array (Option Value)} {oc24 kV24 dc24 pm24 cd24 ct24 : Value} {a25 : Addr} {od25 an25 : Option Addr} {sl25 : Array (Option Value)} {oc25 kV25 dc25 pm25 cd25 ct25 : Value} {a26 : Addr} {od26 an26 : Option Addr} {sl26 : Array (Option Value)} {oc26 kV26 dc26 pm26 cd26 ct26 : Value} {a27 : Addr} {od27 an27 : Option Addr} {sl27 : Array (Option Value)} {oc27 kV27 dc27 pm27 cd27 ct27 : Value} {a28 : Addr} {od28 an28 : Option Addr} {sl28 : Array (Option Value)} {oc28 kV28 dc28 pm28 cd28 ct28 : Value} {a29 : Addr} {od29 an29 : Option Addr} {sl29 : Array (Option Value)} {oc29 kV29 dc29 pm29 cd29 ct29 : Value} {a30 : Addr} {od30 an30 : Option Addr} {sl30 : Array (Option Value)} {oc30 kV30 dc30 pm30 cd30 ct30 : Value} {a31 : Addr} {od31 an31 : Option Addr} {sl31 : Array (Option Value)} {oc31 kV31 dc31 pm31 cd31 ct31 : Value} {a32 : Addr} {od32 an32 : Option Addr} {sl32 : Array (Option Value)} {oc32 kV32 dc32 pm32 cd32 ct32 : Value}
    {k0 : Tok} {k1 : Tok} {k2 : Tok} {k3 : Tok} {k4 : Tok} {k5 : Tok} {cx0 : Addr} {cc0} {cx1 : Addr} {cc1} {cx2 : Addr} {cc2} {cx3 : Addr} {cc3} {cx4 : Addr} {cc4} {kx0 : Addr} {kn0 : Nat} {kd0 : Option Addr} {ks0 : Array (Option Value)} {kt0_0 : Tok} {kt0_1 : Tok}
    (gc0 : PySem.W.nsIn K mainGlobals "Desk" = some (some (.ref cx0)))
    (gc1 : PySem.W.nsIn K mainGlobals "Answer" = some (some (.ref cx1)))
    (gc2 : PySem.W.nsIn K mainGlobals "History" = some (some (.ref cx2)))
    (gc3 : PySem.W.nsIn K mainGlobals "Never" = some (some (.ref cx3)))
    (gc4 : PySem.W.nsIn K mainGlobals "Leads" = some (some (.ref cx4)))
    (g0 : PySem.W.nsIn K mainGlobals "is_whole" = some (some (.ref a0)))
      (l0 : K.lookup a0 = some ⟨oc0, od0, .func (PySem.W.fnOf "is_whole" "is_whole" (defArgs s_is_whole) (defBody s_is_whole) (defScope s_is_whole) .none kV0 dc0 pm0 an0 cd0 ct0), sl0⟩) (c0 : PySem.W.codeIn K cd0 "is_whole" = true) (p0 : PySem.W.keepIn K (.ref a0) = true)
    (g1 : PySem.W.nsIn K mainGlobals "is_count" = some (some (.ref a1)))
      (l1 : K.lookup a1 = some ⟨oc1, od1, .func (PySem.W.fnOf "is_count" "is_count" (defArgs s_is_count) (defBody s_is_count) (defScope s_is_count) .none kV1 dc1 pm1 an1 cd1 ct1), sl1⟩) (c1 : PySem.W.codeIn K cd1 "is_count" = true) (p1 : PySem.W.keepIn K (.ref a1) = true)
    (g2 : PySem.W.nsIn K mainGlobals "is_word" = some (some (.ref a2)))
      (l2 : K.lookup a2 = some ⟨oc2, od2, .func (PySem.W.fnOf "is_word" "is_word" (defArgs s_is_word) (defBody s_is_word) (defScope s_is_word) .none kV2 dc2 pm2 an2 cd2 ct2), sl2⟩) (c2 : PySem.W.codeIn K cd2 "is_word" = true) (p2 : PySem.W.keepIn K (.ref a2) = true)
    (g3 : PySem.W.nsIn K mainGlobals "check_notes" = some (some (.ref a3)))
      (l3 : K.lookup a3 = some ⟨oc3, od3, .func (PySem.W.fnOf "check_notes" "check_notes" (defArgs s_check_notes) (defBody s_check_notes) (defScope s_check_notes) .none kV3 dc3 pm3 an3 cd3 ct3), sl3⟩) (c3 : PySem.W.codeIn K cd3 "check_notes" = true) (p3 : PySem.W.keepIn K (.ref a3) = true)
    (g4 : PySem.W.nsIn K mainGlobals "check_hand" = some (some (.ref a4)))
      (l4 : K.lookup a4 = some ⟨oc4, od4, .func (PySem.W.fnOf "check_hand" "check_hand" (defArgs s_check_hand) (defBody s_check_hand) (defScope s_check_hand) .none kV4 dc4 pm4 an4 cd4 ct4), sl4⟩) (c4 : PySem.W.codeIn K cd4 "check_hand" = true) (p4 : PySem.W.keepIn K (.ref a4) = true)
    (g5 : PySem.W.nsIn K mainGlobals "score_of" = some (some (.ref a5)))
      (l5 : K.lookup a5 = some ⟨oc5, od5, .func (PySem.W.fnOf "score_of" "score_of" (defArgs s_score_of) (defBody s_score_of) (defScope s_score_of) .none kV5 dc5 pm5 an5 cd5 ct5), sl5⟩) (c5 : PySem.W.codeIn K cd5 "score_of" = true) (p5 : PySem.W.keepIn K (.ref a5) = true)
    (g6 : PySem.W.nsIn K mainGlobals "is_heard" = some (some (.ref a6)))
      (l6 : K.lookup a6 = some ⟨oc6, od6, .func (PySem.W.fnOf "is_heard" "is_heard" (defArgs s_is_heard) (defBody s_is_heard) (defScope s_is_heard) .none kV6 dc6 pm6 an6 cd6 ct6), sl6⟩) (c6 : PySem.W.codeIn K cd6 "is_heard" = true) (p6 : PySem.W.keepIn K (.ref a6) = true)
    (g7 : PySem.W.nsIn K mainGlobals "all_heard" = some (some (.ref a7)))
      (l7 : K.lookup a7 = some ⟨oc7, od7, .func (PySem.W.fnOf "all_heard" "all_heard" (defArgs s_all_heard) (defBody s_all_heard) (defScope s_all_heard) .none kV7 dc7 pm7 an7 cd7 ct7), sl7⟩) (c7 : PySem.W.codeIn K cd7 "all_heard" = true) (p7 : PySem.W.keepIn K (.ref a7) = true)
    (g8 : PySem.W.nsIn K mainGlobals "is_no_less" = some (some (.ref a8)))
      (l8 : K.lookup a8 = some ⟨oc8, od8, .func (PySem.W.fnOf "is_no_less" "is_no_less" (defArgs s_is_no_less) (defBody s_is_no_less) (defScope s_is_no_less) .none kV8 dc8 pm8 an8 cd8 ct8), sl8⟩) (c8 : PySem.W.codeIn K cd8 "is_no_less" = true) (p8 : PySem.W.keepIn K (.ref a8) = true)
    (g9 : PySem.W.findIn K (.ref cx0) "__init__" = some (some (.ref a9))) (i9 : PySem.W.isFn K (.ref a9) = true)
      (l9 : K.lookup a9 = some ⟨oc9, od9, .func (PySem.W.fnOf "__init__" "Desk.__init__" (defArgs s_Desk_init) (defBody s_Desk_init) (defScope s_Desk_init) .none kV9 dc9 pm9 an9 cd9 ct9), sl9⟩) (c9 : PySem.W.codeIn K cd9 "Desk.__init__" = true) (p9 : PySem.W.keepIn K (.ref a9) = true)
    (g10 : PySem.W.findIn K (.ref cx0) "count_of" = some (some (.ref a10))) (i10 : PySem.W.isFn K (.ref a10) = true)
      (l10 : K.lookup a10 = some ⟨oc10, od10, .func (PySem.W.fnOf "count_of" "Desk.count_of" (defArgs s_Desk_count_of) (defBody s_Desk_count_of) (defScope s_Desk_count_of) .none kV10 dc10 pm10 an10 cd10 ct10), sl10⟩) (c10 : PySem.W.codeIn K cd10 "Desk.count_of" = true) (p10 : PySem.W.keepIn K (.ref a10) = true)
    (g11 : PySem.W.findIn K (.ref cx0) "hear" = some (some (.ref a11))) (i11 : PySem.W.isFn K (.ref a11) = true)
      (l11 : K.lookup a11 = some ⟨oc11, od11, .func (PySem.W.fnOf "hear" "Desk.hear" (defArgs s_Desk_hear) (defBody s_Desk_hear) (defScope s_Desk_hear) .none kV11 dc11 pm11 an11 cd11 ct11), sl11⟩) (c11 : PySem.W.codeIn K cd11 "Desk.hear" = true) (p11 : PySem.W.keepIn K (.ref a11) = true)
    (g12 : PySem.W.findIn K (.ref cx0) "counting" = some (some (.ref a12))) (i12 : PySem.W.isFn K (.ref a12) = true)
      (l12 : K.lookup a12 = some ⟨oc12, od12, .func (PySem.W.fnOf "counting" "Desk.counting" (defArgs s_Desk_counting) (defBody s_Desk_counting) (defScope s_Desk_counting) .none kV12 dc12 pm12 an12 cd12 ct12), sl12⟩) (c12 : PySem.W.codeIn K cd12 "Desk.counting" = true) (p12 : PySem.W.keepIn K (.ref a12) = true)
    (g13 : PySem.W.findIn K (.ref cx0) "notes" = some (some (.ref a13))) (i13 : PySem.W.isFn K (.ref a13) = true)
      (l13 : K.lookup a13 = some ⟨oc13, od13, .func (PySem.W.fnOf "notes" "Desk.notes" (defArgs s_Desk_notes) (defBody s_Desk_notes) (defScope s_Desk_notes) .none kV13 dc13 pm13 an13 cd13 ct13), sl13⟩) (c13 : PySem.W.codeIn K cd13 "Desk.notes" = true) (p13 : PySem.W.keepIn K (.ref a13) = true)
    (g14 : PySem.W.findIn K (.ref cx0) "score" = some (some (.ref a14))) (i14 : PySem.W.isFn K (.ref a14) = true)
      (l14 : K.lookup a14 = some ⟨oc14, od14, .func (PySem.W.fnOf "score" "Desk.score" (defArgs s_Desk_score) (defBody s_Desk_score) (defScope s_Desk_score) .none kV14 dc14 pm14 an14 cd14 ct14), sl14⟩) (c14 : PySem.W.codeIn K cd14 "Desk.score" = true) (p14 : PySem.W.keepIn K (.ref a14) = true)
    (g15 : PySem.W.findIn K (.ref cx2) "__init__" = some (some (.ref a15))) (i15 : PySem.W.isFn K (.ref a15) = true)
      (l15 : K.lookup a15 = some ⟨oc15, od15, .func (PySem.W.fnOf "__init__" "History.__init__" (defArgs s_History_init) (defBody s_History_init) (defScope s_History_init) .none kV15 dc15 pm15 an15 cd15 ct15), sl15⟩) (c15 : PySem.W.codeIn K cd15 "History.__init__" = true) (p15 : PySem.W.keepIn K (.ref a15) = true)
    (g16 : PySem.W.findIn K (.ref cx3) "__init__" = some (some (.ref a16))) (i16 : PySem.W.isFn K (.ref a16) = true)
      (l16 : K.lookup a16 = some ⟨oc16, od16, .func (PySem.W.fnOf "__init__" "Never.__init__" (defArgs s_Never_init) (defBody s_Never_init) (defScope s_Never_init) .none kV16 dc16 pm16 an16 cd16 ct16), sl16⟩) (c16 : PySem.W.codeIn K cd16 "Never.__init__" = true) (p16 : PySem.W.keepIn K (.ref a16) = true)
    (g17 : PySem.W.findIn K (.ref cx4) "__init__" = some (some (.ref a17))) (i17 : PySem.W.isFn K (.ref a17) = true)
      (l17 : K.lookup a17 = some ⟨oc17, od17, .func (PySem.W.fnOf "__init__" "Leads.__init__" (defArgs s_Leads_init) (defBody s_Leads_init) (defScope s_Leads_init) .none kV17 dc17 pm17 an17 cd17 ct17), sl17⟩) (c17 : PySem.W.codeIn K cd17 "Leads.__init__" = true) (p17 : PySem.W.keepIn K (.ref a17) = true)
    (g18 : PySem.W.nsIn K mainGlobals "gone_over" = some (some (.ref a18)))
      (l18 : K.lookup a18 = some ⟨oc18, od18, .func (PySem.W.fnOf "gone_over" "gone_over" (defArgs s_gone_over) (defBody s_gone_over) (defScope s_gone_over) .none kV18 dc18 pm18 an18 cd18 ct18), sl18⟩) (c18 : PySem.W.codeIn K cd18 "gone_over" = true) (p18 : PySem.W.keepIn K (.ref a18) = true)
    (g19 : PySem.W.nsIn K mainGlobals "check_game" = some (some (.ref a19)))
      (l19 : K.lookup a19 = some ⟨oc19, od19, .func (PySem.W.fnOf "check_game" "check_game" (defArgs s_check_game) (defBody s_check_game) (defScope s_check_game) .none kV19 dc19 pm19 an19 cd19 ct19), sl19⟩) (c19 : PySem.W.codeIn K cd19 "check_game" = true) (p19 : PySem.W.keepIn K (.ref a19) = true)
    (g20 : PySem.W.nsIn K mainGlobals "games" = some (some (.ref a20)))
      (l20 : K.lookup a20 = some ⟨oc20, od20, .func (PySem.W.fnOf "games" "games" (defArgs s_games) (defBody s_games) (defScope s_games) .none kV20 dc20 pm20 an20 cd20 ct20), sl20⟩) (c20 : PySem.W.codeIn K cd20 "games" = true) (p20 : PySem.W.keepIn K (.ref a20) = true)
    (g21 : PySem.W.nsIn K mainGlobals "score" = some (some (.ref a21)))
      (l21 : K.lookup a21 = some ⟨oc21, od21, .func (PySem.W.fnOf "score" "score" (defArgs s_score) (defBody s_score) (defScope s_score) .none kV21 dc21 pm21 an21 cd21 ct21), sl21⟩) (c21 : PySem.W.codeIn K cd21 "score" = true) (p21 : PySem.W.keepIn K (.ref a21) = true)
    (g22 : PySem.W.nsIn K mainGlobals "is_showing" = some (some (.ref a22)))
      (l22 : K.lookup a22 = some ⟨oc22, od22, .func (PySem.W.fnOf "is_showing" "is_showing" (defArgs s_is_showing) (defBody s_is_showing) (defScope s_is_showing) .none kV22 dc22 pm22 an22 cd22 ct22), sl22⟩) (c22 : PySem.W.codeIn K cd22 "is_showing" = true) (p22 : PySem.W.keepIn K (.ref a22) = true)
    (g23 : PySem.W.nsIn K mainGlobals "lists_of" = some (some (.ref a23)))
      (l23 : K.lookup a23 = some ⟨oc23, od23, .func (PySem.W.fnOf "lists_of" "lists_of" (defArgs s_lists_of) (defBody s_lists_of) (defScope s_lists_of) .none kV23 dc23 pm23 an23 cd23 ct23), sl23⟩) (c23 : PySem.W.codeIn K cd23 "lists_of" = true) (p23 : PySem.W.keepIn K (.ref a23) = true)
    (g24 : PySem.W.nsIn K mainGlobals "history_of" = some (some (.ref a24)))
      (l24 : K.lookup a24 = some ⟨oc24, od24, .func (PySem.W.fnOf "history_of" "history_of" (defArgs s_history_of) (defBody s_history_of) (defScope s_history_of) .none kV24 dc24 pm24 an24 cd24 ct24), sl24⟩) (c24 : PySem.W.codeIn K cd24 "history_of" = true) (p24 : PySem.W.keepIn K (.ref a24) = true)
    (g25 : PySem.W.nsIn K mainGlobals "judged" = some (some (.ref a25)))
      (l25 : K.lookup a25 = some ⟨oc25, od25, .func (PySem.W.fnOf "judged" "judged" (defArgs s_judged) (defBody s_judged) (defScope s_judged) .none kV25 dc25 pm25 an25 cd25 ct25), sl25⟩) (c25 : PySem.W.codeIn K cd25 "judged" = true) (p25 : PySem.W.keepIn K (.ref a25) = true)
    (g26 : PySem.W.nsIn K mainGlobals "leads" = some (some (.ref a26)))
      (l26 : K.lookup a26 = some ⟨oc26, od26, .func (PySem.W.fnOf "leads" "leads" (defArgs s_leads) (defBody s_leads) (defScope s_leads) .none kV26 dc26 pm26 an26 cd26 ct26), sl26⟩) (c26 : PySem.W.codeIn K cd26 "leads" = true) (p26 : PySem.W.keepIn K (.ref a26) = true)
    (g27 : PySem.W.nsIn K mainGlobals "_law_cell_at" = some (some (.ref a27)))
      (l27 : K.lookup a27 = some ⟨oc27, od27, .func (PySem.W.fnOf "_law_cell_at" "_law_cell_at" (defArgs s__law_cell_at) (defBody s__law_cell_at) (defScope s__law_cell_at) .none kV27 dc27 pm27 an27 cd27 ct27), sl27⟩) (c27 : PySem.W.codeIn K cd27 "_law_cell_at" = true) (p27 : PySem.W.keepIn K (.ref a27) = true)
    (g28 : PySem.W.nsIn K mainGlobals "_law_draw" = some (some (.ref a28)))
      (l28 : K.lookup a28 = some ⟨oc28, od28, .func (PySem.W.fnOf "_law_draw" "_law_draw" (defArgs s__law_draw) (defBody s__law_draw) (defScope s__law_draw) .none kV28 dc28 pm28 an28 cd28 ct28), sl28⟩) (c28 : PySem.W.codeIn K cd28 "_law_draw" = true) (p28 : PySem.W.keepIn K (.ref a28) = true)
    (g29 : PySem.W.nsIn K mainGlobals "_law_value" = some (some (.ref a29)))
      (l29 : K.lookup a29 = some ⟨oc29, od29, .func (PySem.W.fnOf "_law_value" "_law_value" (defArgs s__law_value) (defBody s__law_value) (defScope s__law_value) .none kV29 dc29 pm29 an29 cd29 ct29), sl29⟩) (c29 : PySem.W.codeIn K cd29 "_law_value" = true) (p29 : PySem.W.keepIn K (.ref a29) = true)
    (g30 : PySem.W.nsIn K mainGlobals "_law_notes" = some (some (.ref a30)))
      (l30 : K.lookup a30 = some ⟨oc30, od30, .func (PySem.W.fnOf "_law_notes" "_law_notes" (defArgs s__law_notes) (defBody s__law_notes) (defScope s__law_notes) .none kV30 dc30 pm30 an30 cd30 ct30), sl30⟩) (c30 : PySem.W.codeIn K cd30 "_law_notes" = true) (p30 : PySem.W.keepIn K (.ref a30) = true)
    (g31 : PySem.W.nsIn K mainGlobals "_law_turns" = some (some (.ref a31)))
      (l31 : K.lookup a31 = some ⟨oc31, od31, .func (PySem.W.fnOf "_law_turns" "_law_turns" (defArgs s__law_turns) (defBody s__law_turns) (defScope s__law_turns) .none kV31 dc31 pm31 an31 cd31 ct31), sl31⟩) (c31 : PySem.W.codeIn K cd31 "_law_turns" = true) (p31 : PySem.W.keepIn K (.ref a31) = true)
    (g32 : PySem.W.nsIn K mainGlobals "law" = some (some (.ref a32)))
      (l32 : K.lookup a32 = some ⟨oc32, od32, .func (PySem.W.fnOf "law" "law" (defArgs s_law) (defBody s_law) (defScope s_law) .none kV32 dc32 pm32 an32 cd32 ct32), sl32⟩) (c32 : PySem.W.codeIn K cd32 "law" = true) (p32 : PySem.W.keepIn K (.ref a32) = true)
    (pg0 : PySem.W.plainGet K cx0 Str.empty = true) (hd0 : PySem.W.hasDictIn K cx0 = true) (po0 : PySem.W.plainOver K cx0 = true) (sa0 : PySem.W.findIn K (.ref cx0) "__setattr__" = some (some (.builtin "object.__setattr__")))
    (mk0 : PySem.W.makesIn K cx0 = true) (kc0 : PySem.W.keepIn K (.ref cx0) = true)
    (ta0 : PySem.W.findIn K (.ref cx0) (Str.ofString "__class__") = some (some (.builtin "object.__class__"))) (td0 : PySem.W.mroIn K cx0 (.type "object") = some true)
    (cty0 : PySem.W.typeIn K (.ref cx0) = some (.type "type")) (ci0 : PySem.W.clsIn K cx0 = some cc0)
    (na0_0 : PySem.W.findIn K (.ref cx0) "heard" = some none)
    (sb0_0 : PySem.W.subIn K (.ref cx0) (.ref cx0) = some true)
    (sb0_1 : PySem.W.subIn K (.ref cx0) (.ref cx1) = some false)
    (sb0_2 : PySem.W.subIn K (.ref cx0) (.ref cx2) = some false)
    (sb0_3 : PySem.W.subIn K (.ref cx0) (.ref cx3) = some false)
    (sb0_4 : PySem.W.subIn K (.ref cx0) (.ref cx4) = some false)
    (pg1 : PySem.W.plainGet K cx1 Str.empty = true) (hd1 : PySem.W.hasDictIn K cx1 = true) (po1 : PySem.W.plainOver K cx1 = true) (sa1 : PySem.W.findIn K (.ref cx1) "__setattr__" = some (some (.builtin "object.__setattr__")))
    (ta1 : PySem.W.findIn K (.ref cx1) (Str.ofString "__class__") = some (some (.builtin "object.__class__"))) (td1 : PySem.W.mroIn K cx1 (.type "object") = some true)
    (cty1 : PySem.W.typeIn K (.ref cx1) = some (.type "type")) (ci1 : PySem.W.clsIn K cx1 = some cc1)
    (sb1_0 : PySem.W.subIn K (.ref cx1) (.ref cx0) = some false)
    (sb1_1 : PySem.W.subIn K (.ref cx1) (.ref cx1) = some true)
    (sb1_2 : PySem.W.subIn K (.ref cx1) (.ref cx2) = some false)
    (sb1_3 : PySem.W.subIn K (.ref cx1) (.ref cx3) = some false)
    (sb1_4 : PySem.W.subIn K (.ref cx1) (.ref cx4) = some false)
    (pg2 : PySem.W.plainGet K cx2 Str.empty = true) (hd2 : PySem.W.hasDictIn K cx2 = true) (po2 : PySem.W.plainOver K cx2 = true) (sa2 : PySem.W.findIn K (.ref cx2) "__setattr__" = some (some (.builtin "object.__setattr__")))
    (mk2 : PySem.W.makesIn K cx2 = true) (kc2 : PySem.W.keepIn K (.ref cx2) = true)
    (ta2 : PySem.W.findIn K (.ref cx2) (Str.ofString "__class__") = some (some (.builtin "object.__class__"))) (td2 : PySem.W.mroIn K cx2 (.type "object") = some true)
    (cty2 : PySem.W.typeIn K (.ref cx2) = some (.type "type")) (ci2 : PySem.W.clsIn K cx2 = some cc2)
    (na2_0 : PySem.W.findIn K (.ref cx2) "heard" = some none)
    (sb2_0 : PySem.W.subIn K (.ref cx2) (.ref cx0) = some false)
    (sb2_1 : PySem.W.subIn K (.ref cx2) (.ref cx1) = some true)
    (sb2_2 : PySem.W.subIn K (.ref cx2) (.ref cx2) = some true)
    (sb2_3 : PySem.W.subIn K (.ref cx2) (.ref cx3) = some false)
    (sb2_4 : PySem.W.subIn K (.ref cx2) (.ref cx4) = some false)
    (pg3 : PySem.W.plainGet K cx3 Str.empty = true) (hd3 : PySem.W.hasDictIn K cx3 = true) (po3 : PySem.W.plainOver K cx3 = true) (sa3 : PySem.W.findIn K (.ref cx3) "__setattr__" = some (some (.builtin "object.__setattr__")))
    (mk3 : PySem.W.makesIn K cx3 = true) (kc3 : PySem.W.keepIn K (.ref cx3) = true)
    (ta3 : PySem.W.findIn K (.ref cx3) (Str.ofString "__class__") = some (some (.builtin "object.__class__"))) (td3 : PySem.W.mroIn K cx3 (.type "object") = some true)
    (cty3 : PySem.W.typeIn K (.ref cx3) = some (.type "type")) (ci3 : PySem.W.clsIn K cx3 = some cc3)
    (na3_0 : PySem.W.findIn K (.ref cx3) "lists" = some none)
    (sb3_0 : PySem.W.subIn K (.ref cx3) (.ref cx0) = some false)
    (sb3_1 : PySem.W.subIn K (.ref cx3) (.ref cx1) = some true)
    (sb3_2 : PySem.W.subIn K (.ref cx3) (.ref cx2) = some false)
    (sb3_3 : PySem.W.subIn K (.ref cx3) (.ref cx3) = some true)
    (sb3_4 : PySem.W.subIn K (.ref cx3) (.ref cx4) = some false)
    (pg4 : PySem.W.plainGet K cx4 Str.empty = true) (hd4 : PySem.W.hasDictIn K cx4 = true) (po4 : PySem.W.plainOver K cx4 = true) (sa4 : PySem.W.findIn K (.ref cx4) "__setattr__" = some (some (.builtin "object.__setattr__")))
    (mk4 : PySem.W.makesIn K cx4 = true) (kc4 : PySem.W.keepIn K (.ref cx4) = true)
    (ta4 : PySem.W.findIn K (.ref cx4) (Str.ofString "__class__") = some (some (.builtin "object.__class__"))) (td4 : PySem.W.mroIn K cx4 (.type "object") = some true)
    (cty4 : PySem.W.typeIn K (.ref cx4) = some (.type "type")) (ci4 : PySem.W.clsIn K cx4 = some cc4)
    (na4_0 : PySem.W.findIn K (.ref cx4) "least" = some none)
    (na4_1 : PySem.W.findIn K (.ref cx4) "low" = some none)
    (na4_2 : PySem.W.findIn K (.ref cx4) "most" = some none)
    (na4_3 : PySem.W.findIn K (.ref cx4) "high" = some none)
    (sb4_0 : PySem.W.subIn K (.ref cx4) (.ref cx0) = some false)
    (sb4_1 : PySem.W.subIn K (.ref cx4) (.ref cx1) = some true)
    (sb4_2 : PySem.W.subIn K (.ref cx4) (.ref cx2) = some false)
    (sb4_3 : PySem.W.subIn K (.ref cx4) (.ref cx3) = some false)
    (sb4_4 : PySem.W.subIn K (.ref cx4) (.ref cx4) = some true)
    (tb : PySem.W.specialIn K (.builtin "object.__class__") (Str.ofString "__get__") = some (some (.builtin "getset_descriptor.__get__"))) (tc : PySem.W.takesIn K (.builtin "object.__class__") = some true)
    (gk0 : PySem.W.nsIn K mainGlobals "KINDS" = some (some (.ref kx0))) (lk0 : K.lookup kx0 = some ⟨.type "tuple", kd0, .seq #[.str "point" kt0_0, .str "back" kt0_1] kn0, ks0⟩)
    (z_all : PySem.W.nsIn K mainGlobals "all" = some none)
    (z_any : PySem.W.nsIn K mainGlobals "any" = some none)
    (z_bool : PySem.W.nsIn K mainGlobals "bool" = some none)
    (z_enumerate : PySem.W.nsIn K mainGlobals "enumerate" = some none)
    (z_int : PySem.W.nsIn K mainGlobals "int" = some none)
    (z_isinstance : PySem.W.nsIn K mainGlobals "isinstance" = some none)
    (z_len : PySem.W.nsIn K mainGlobals "len" = some none)
    (z_list : PySem.W.nsIn K mainGlobals "list" = some none)
    (z_max : PySem.W.nsIn K mainGlobals "max" = some none)
    (z_min : PySem.W.nsIn K mainGlobals "min" = some none)
    (z_range : PySem.W.nsIn K mainGlobals "range" = some none)
    (z_str : PySem.W.nsIn K mainGlobals "str" = some none)
    (z_sum : PySem.W.nsIn K mainGlobals "sum" = some none)
    (z_tuple : PySem.W.nsIn K mainGlobals "tuple" = some none)
    (z_zip : PySem.W.nsIn K mainGlobals "zip" = some none)
    (q_MOST_AHEAD : PySem.W.nsIn K mainGlobals "MOST_AHEAD" = some (some (.int 2 k0)))
    (q_MOST_HANDS : PySem.W.nsIn K mainGlobals "MOST_HANDS" = some (some (.int 3 k1)))
    (q_MOST_POINTS : PySem.W.nsIn K mainGlobals "MOST_POINTS" = some (some (.int 60 k2)))
    (q_MOST_SHOWN : PySem.W.nsIn K mainGlobals "MOST_SHOWN" = some (some (.int 5 k3)))
    (q_MOST_TO : PySem.W.nsIn K mainGlobals "MOST_TO" = some (some (.int 5 k4)))
    (q_MOST_WORDS : PySem.W.nsIn K mainGlobals "MOST_WORDS" = some (some (.int 6 k5)))
    : ∃ fd : FuncData, (∀ (s : Shared) (v : Value), BindsTo s fd ⟨[v], []⟩ [("_law_script", v)]) ∧ ∀ base : Heap, K.In base → base.Ns mainGlobals mg → FnOk l.prog w K mg base CX0 6 fl fd ["_law_script"] (spLaw K) := by
  have e := hfl.symm.trans (PySem.W.mg_of X G g32)
  cases e
  have F0 := fun_mk (st := s_is_whole) l0 c0 p0
  have b0 := F0.binds (ps := ["thing"]) fun _ _ _ _ _ _ us hl => match us, hl with | [_], _ => rfl
  have F1 := fun_mk (st := s_is_count) l1 c1 p1
  have b1 := F1.binds (ps := ["thing", "least", "most"]) fun _ _ _ _ _ _ us hl => match us, hl with | [_, _, _], _ => rfl
  have F2 := fun_mk (st := s_is_word) l2 c2 p2
  have b2 := F2.binds (ps := ["thing"]) fun _ _ _ _ _ _ us hl => match us, hl with | [_], _ => rfl
  have F3 := fun_mk (st := s_check_notes) l3 c3 p3
  have b3 := F3.binds (ps := ["notes"]) fun _ _ _ _ _ _ us hl => match us, hl with | [_], _ => rfl
  have F4 := fun_mk (st := s_check_hand) l4 c4 p4
  have b4 := F4.binds (ps := ["many", "hand"]) fun _ _ _ _ _ _ us hl => match us, hl with | [_, _], _ => rfl
  have F5 := fun_mk (st := s_score_of) l5 c5 p5
  have b5 := F5.binds (ps := ["notes", "heard"]) fun _ _ _ _ _ _ us hl => match us, hl with | [_, _], _ => rfl
  have F6 := fun_mk (st := s_is_heard) l6 c6 p6
  have b6 := F6.binds (ps := ["notes", "heard"]) fun _ _ _ _ _ _ us hl => match us, hl with | [_, _], _ => rfl
  have F7 := fun_mk (st := s_all_heard) l7 c7 p7
  have b7 := F7.binds (ps := ["notes", "hand", "said"]) fun _ _ _ _ _ _ us hl => match us, hl with | [_, _, _], _ => rfl
  have F8 := fun_mk (st := s_is_no_less) l8 c8 p8
  have b8 := F8.binds (ps := ["heard", "other"]) fun _ _ _ _ _ _ us hl => match us, hl with | [_, _], _ => rfl
  have F9 := fun_mk (st := s_Desk_init) l9 c9 p9
  have b9 := F9.binds (ps := ["self", "hands"]) fun _ _ _ _ _ _ us hl => match us, hl with | [_, _], _ => rfl
  have F10 := fun_mk (st := s_Desk_count_of) l10 c10 p10
  have b10 := F10.binds (ps := ["self", "hand"]) fun _ _ _ _ _ _ us hl => match us, hl with | [_, _], _ => rfl
  have F11 := fun_mk (st := s_Desk_hear) l11 c11 p11
  have b11 := F11.binds (ps := ["self", "hand", "number", "word"]) fun _ _ _ _ _ _ us hl => match us, hl with | [_, _, _, _], _ => rfl
  have F12 := fun_mk (st := s_Desk_counting) l12 c12 p12
  have b12 := F12.binds (ps := ["self"]) fun _ _ _ _ _ _ us hl => match us, hl with | [_], _ => rfl
  have F13 := fun_mk (st := s_Desk_notes) l13 c13 p13
  have b13 := F13.binds (ps := ["self"]) fun _ _ _ _ _ _ us hl => match us, hl with | [_], _ => rfl
  have F14 := fun_mk (st := s_Desk_score) l14 c14 p14
  have b14 := F14.binds (ps := ["self"]) fun _ _ _ _ _ _ us hl => match us, hl with | [_], _ => rfl
  have F15 := fun_mk (st := s_History_init) l15 c15 p15
  have b15 := F15.binds (ps := ["self", "heard"]) fun _ _ _ _ _ _ us hl => match us, hl with | [_, _], _ => rfl
  have F16 := fun_mk (st := s_Never_init) l16 c16 p16
  have b16 := F16.binds (ps := ["self", "lists"]) fun _ _ _ _ _ _ us hl => match us, hl with | [_, _], _ => rfl
  have F17 := fun_mk (st := s_Leads_init) l17 c17 p17
  have b17 := F17.binds (ps := ["self", "least", "low", "most", "high"]) fun _ _ _ _ _ _ us hl => match us, hl with | [_, _, _, _, _], _ => rfl
  have F18 := fun_mk (st := s_gone_over) l18 c18 p18
  have b18 := F18.binds (ps := ["rule", "points"]) fun _ _ _ _ _ _ us hl => match us, hl with | [_, _], _ => rfl
  have F19 := fun_mk (st := s_check_game) l19 c19 p19
  have b19 := F19.binds (ps := ["rule", "points"]) fun _ _ _ _ _ _ us hl => match us, hl with | [_, _], _ => rfl
  have F20 := fun_mk (st := s_games) l20 c20 p20
  have b20 := F20.binds (ps := ["rule", "points"]) fun _ _ _ _ _ _ us hl => match us, hl with | [_, _], _ => rfl
  have F21 := fun_mk (st := s_score) l21 c21 p21
  have b21 := F21.binds (ps := ["notes", "heard"]) fun _ _ _ _ _ _ us hl => match us, hl with | [_, _], _ => rfl
  have F22 := fun_mk (st := s_is_showing) l22 c22 p22
  have b22 := F22.binds (ps := ["thing", "most"]) fun _ _ _ _ _ _ us hl => match us, hl with | [_, _], _ => rfl
  have F23 := fun_mk (st := s_lists_of) l23 c23 p23
  have b23 := F23.binds (ps := ["notes", "hand", "shown"]) fun _ _ _ _ _ _ us hl => match us, hl with | [_, _, _], _ => rfl
  have F24 := fun_mk (st := s_history_of) l24 c24 p24
  have b24 := F24.binds (ps := ["lists"]) fun _ _ _ _ _ _ us hl => match us, hl with | [_], _ => rfl
  have F25 := fun_mk (st := s_judged) l25 c25 p25
  have b25 := F25.binds (ps := ["notes", "hand", "shown"]) fun _ _ _ _ _ _ us hl => match us, hl with | [_, _, _], _ => rfl
  have F26 := fun_mk (st := s_leads) l26 c26 p26
  have b26 := F26.binds (ps := ["notes", "hand", "said"]) fun _ _ _ _ _ _ us hl => match us, hl with | [_, _, _], _ => rfl
  have F27 := fun_mk (st := s__law_cell_at) l27 c27 p27
  have b27 := F27.binds (ps := ["_law_script", "_law_k"]) fun _ _ _ _ _ _ us hl => match us, hl with | [_, _], _ => rfl
  have F28 := fun_mk (st := s__law_draw) l28 c28 p28
  have b28 := F28.binds (ps := ["_law_cell", "_law_k", "_law_many"]) fun _ _ _ _ _ _ us hl => match us, hl with | [_, _, _], _ => rfl
  have F29 := fun_mk (st := s__law_value) l29 c29 p29
  have b29 := F29.binds (ps := ["_law_cell", "_law_turn"]) fun _ _ _ _ _ _ us hl => match us, hl with | [_, _], _ => rfl
  have F30 := fun_mk (st := s__law_notes) l30 c30 p30
  have b30 := F30.binds (ps := ["_law_script", "_law_by"]) fun _ _ _ _ _ _ us hl => match us, hl with | [_, _], _ => rfl
  have F31 := fun_mk (st := s__law_turns) l31 c31 p31
  have b31 := F31.binds (ps := ["_law_script", "_law_by", "_law_notes_here"]) fun _ _ _ _ _ _ us hl => match us, hl with | [_, _, _], _ => rfl
  have F32 := fun_mk (st := s_law) l32 c32 p32
  let fa : Nat → Addr := fun k => match k with | 0 => a0 | 1 => a1 | 2 => a2 | 3 => a3 | 4 => a4 | 5 => a5 | 6 => a6 | 7 => a7 | 8 => a8 | 9 => a9 | 10 => a10 | 11 => a11 | 12 => a12 | 13 => a13 | 14 => a14 | 15 => a15 | 16 => a16 | 17 => a17 | 18 => a18 | 19 => a19 | 20 => a20 | 21 => a21 | 22 => a22 | 23 => a23 | 24 => a24 | 25 => a25 | 26 => a26 | 27 => a27 | 28 => a28 | 29 => a29 | 30 => a30 | 31 => a31 | _ => 0
  let ff : Nat → FuncData := fun k => match k with
    | 0 => PySem.W.fnOf "is_whole" "is_whole" (defArgs s_is_whole) (defBody s_is_whole) (defScope s_is_whole) .none kV0 dc0 pm0 an0 cd0 ct0
    | 1 => PySem.W.fnOf "is_count" "is_count" (defArgs s_is_count) (defBody s_is_count) (defScope s_is_count) .none kV1 dc1 pm1 an1 cd1 ct1
    | 2 => PySem.W.fnOf "is_word" "is_word" (defArgs s_is_word) (defBody s_is_word) (defScope s_is_word) .none kV2 dc2 pm2 an2 cd2 ct2
    | 3 => PySem.W.fnOf "check_notes" "check_notes" (defArgs s_check_notes) (defBody s_check_notes) (defScope s_check_notes) .none kV3 dc3 pm3 an3 cd3 ct3
    | 4 => PySem.W.fnOf "check_hand" "check_hand" (defArgs s_check_hand) (defBody s_check_hand) (defScope s_check_hand) .none kV4 dc4 pm4 an4 cd4 ct4
    | 5 => PySem.W.fnOf "score_of" "score_of" (defArgs s_score_of) (defBody s_score_of) (defScope s_score_of) .none kV5 dc5 pm5 an5 cd5 ct5
    | 6 => PySem.W.fnOf "is_heard" "is_heard" (defArgs s_is_heard) (defBody s_is_heard) (defScope s_is_heard) .none kV6 dc6 pm6 an6 cd6 ct6
    | 7 => PySem.W.fnOf "all_heard" "all_heard" (defArgs s_all_heard) (defBody s_all_heard) (defScope s_all_heard) .none kV7 dc7 pm7 an7 cd7 ct7
    | 8 => PySem.W.fnOf "is_no_less" "is_no_less" (defArgs s_is_no_less) (defBody s_is_no_less) (defScope s_is_no_less) .none kV8 dc8 pm8 an8 cd8 ct8
    | 9 => PySem.W.fnOf "__init__" "Desk.__init__" (defArgs s_Desk_init) (defBody s_Desk_init) (defScope s_Desk_init) .none kV9 dc9 pm9 an9 cd9 ct9
    | 10 => PySem.W.fnOf "count_of" "Desk.count_of" (defArgs s_Desk_count_of) (defBody s_Desk_count_of) (defScope s_Desk_count_of) .none kV10 dc10 pm10 an10 cd10 ct10
    | 11 => PySem.W.fnOf "hear" "Desk.hear" (defArgs s_Desk_hear) (defBody s_Desk_hear) (defScope s_Desk_hear) .none kV11 dc11 pm11 an11 cd11 ct11
    | 12 => PySem.W.fnOf "counting" "Desk.counting" (defArgs s_Desk_counting) (defBody s_Desk_counting) (defScope s_Desk_counting) .none kV12 dc12 pm12 an12 cd12 ct12
    | 13 => PySem.W.fnOf "notes" "Desk.notes" (defArgs s_Desk_notes) (defBody s_Desk_notes) (defScope s_Desk_notes) .none kV13 dc13 pm13 an13 cd13 ct13
    | 14 => PySem.W.fnOf "score" "Desk.score" (defArgs s_Desk_score) (defBody s_Desk_score) (defScope s_Desk_score) .none kV14 dc14 pm14 an14 cd14 ct14
    | 15 => PySem.W.fnOf "__init__" "History.__init__" (defArgs s_History_init) (defBody s_History_init) (defScope s_History_init) .none kV15 dc15 pm15 an15 cd15 ct15
    | 16 => PySem.W.fnOf "__init__" "Never.__init__" (defArgs s_Never_init) (defBody s_Never_init) (defScope s_Never_init) .none kV16 dc16 pm16 an16 cd16 ct16
    | 17 => PySem.W.fnOf "__init__" "Leads.__init__" (defArgs s_Leads_init) (defBody s_Leads_init) (defScope s_Leads_init) .none kV17 dc17 pm17 an17 cd17 ct17
    | 18 => PySem.W.fnOf "gone_over" "gone_over" (defArgs s_gone_over) (defBody s_gone_over) (defScope s_gone_over) .none kV18 dc18 pm18 an18 cd18 ct18
    | 19 => PySem.W.fnOf "check_game" "check_game" (defArgs s_check_game) (defBody s_check_game) (defScope s_check_game) .none kV19 dc19 pm19 an19 cd19 ct19
    | 20 => PySem.W.fnOf "games" "games" (defArgs s_games) (defBody s_games) (defScope s_games) .none kV20 dc20 pm20 an20 cd20 ct20
    | 21 => PySem.W.fnOf "score" "score" (defArgs s_score) (defBody s_score) (defScope s_score) .none kV21 dc21 pm21 an21 cd21 ct21
    | 22 => PySem.W.fnOf "is_showing" "is_showing" (defArgs s_is_showing) (defBody s_is_showing) (defScope s_is_showing) .none kV22 dc22 pm22 an22 cd22 ct22
    | 23 => PySem.W.fnOf "lists_of" "lists_of" (defArgs s_lists_of) (defBody s_lists_of) (defScope s_lists_of) .none kV23 dc23 pm23 an23 cd23 ct23
    | 24 => PySem.W.fnOf "history_of" "history_of" (defArgs s_history_of) (defBody s_history_of) (defScope s_history_of) .none kV24 dc24 pm24 an24 cd24 ct24
    | 25 => PySem.W.fnOf "judged" "judged" (defArgs s_judged) (defBody s_judged) (defScope s_judged) .none kV25 dc25 pm25 an25 cd25 ct25
    | 26 => PySem.W.fnOf "leads" "leads" (defArgs s_leads) (defBody s_leads) (defScope s_leads) .none kV26 dc26 pm26 an26 cd26 ct26
    | 27 => PySem.W.fnOf "_law_cell_at" "_law_cell_at" (defArgs s__law_cell_at) (defBody s__law_cell_at) (defScope s__law_cell_at) .none kV27 dc27 pm27 an27 cd27 ct27
    | 28 => PySem.W.fnOf "_law_draw" "_law_draw" (defArgs s__law_draw) (defBody s__law_draw) (defScope s__law_draw) .none kV28 dc28 pm28 an28 cd28 ct28
    | 29 => PySem.W.fnOf "_law_value" "_law_value" (defArgs s__law_value) (defBody s__law_value) (defScope s__law_value) .none kV29 dc29 pm29 an29 cd29 ct29
    | 30 => PySem.W.fnOf "_law_notes" "_law_notes" (defArgs s__law_notes) (defBody s__law_notes) (defScope s__law_notes) .none kV30 dc30 pm30 an30 cd30 ct30
    | 31 => PySem.W.fnOf "_law_turns" "_law_turns" (defArgs s__law_turns) (defBody s__law_turns) (defScope s__law_turns) .none kV31 dc31 pm31 an31 cd31 ct31
    | _ => PySem.W.fnOf "law" "law" (defArgs s_law) (defBody s_law) (defScope s_law) .none kV32 dc32 pm32 an32 cd32 ct32
  let tk : Nat → Tok := fun k => match k with | 0 => k0 | 1 => k1 | 2 => k2 | 3 => k3 | 4 => k4 | 5 => k5 | _ => 0
  let ca : Nat → Addr := fun k => match k with | 0 => cx0 | 1 => cx1 | 2 => cx2 | 3 => cx3 | 4 => cx4 | _ => 0
  let ka : Nat → Addr := fun k => match k with | 0 => kx0 | _ => 0
  have T : Txt K mg fa ff tk ca ka := ⟨⟨F0, PySem.W.mg_of X G g0, b0⟩, ⟨F1, PySem.W.mg_of X G g1, b1⟩, ⟨F2, PySem.W.mg_of X G g2, b2⟩, ⟨F3, PySem.W.mg_of X G g3, b3⟩, ⟨F4, PySem.W.mg_of X G g4, b4⟩, ⟨F5, PySem.W.mg_of X G g5, b5⟩, ⟨F6, PySem.W.mg_of X G g6, b6⟩, ⟨F7, PySem.W.mg_of X G g7, b7⟩, ⟨F8, PySem.W.mg_of X G g8, b8⟩, F9, b9, ⟨mk0, g9, i9, kc0⟩, F10, b10, ⟨g10, i10, p10⟩, F11, b11, ⟨g11, i11, p11⟩, F12, b12, ⟨g12, i12, p12⟩, F13, b13, ⟨g13, i13, p13⟩, F14, b14, ⟨g14, i14, p14⟩, F15, b15, ⟨mk2, g15, i15, kc2⟩, F16, b16, ⟨mk3, g16, i16, kc3⟩, F17, b17, ⟨mk4, g17, i17, kc4⟩, ⟨F18, PySem.W.mg_of X G g18, b18⟩, ⟨F19, PySem.W.mg_of X G g19, b19⟩, ⟨F20, PySem.W.mg_of X G g20, b20⟩, ⟨F21, PySem.W.mg_of X G g21, b21⟩, ⟨F22, PySem.W.mg_of X G g22, b22⟩, ⟨F23, PySem.W.mg_of X G g23, b23⟩, ⟨F24, PySem.W.mg_of X G g24, b24⟩, ⟨F25, PySem.W.mg_of X G g25, b25⟩, ⟨F26, PySem.W.mg_of X G g26, b26⟩, ⟨F27, PySem.W.mg_of X G g27, b27⟩, ⟨F28, PySem.W.mg_of X G g28, b28⟩, ⟨F29, PySem.W.mg_of X G g29, b29⟩, ⟨F30, PySem.W.mg_of X G g30, b30⟩, ⟨F31, PySem.W.mg_of X G g31, b31⟩, PySem.W.mg_of X G gc0, ⟨pg0, hd0, po0, sa0⟩, ⟨ta0, tb, tc, td0⟩, na0_0, (kit_own ci0 cty0 sb0_0 sb0_0), (kit_own ci1 cty1 sb0_1 sb0_0), (kit_own ci2 cty2 sb0_2 sb0_0), (kit_own ci3 cty3 sb0_3 sb0_0), (kit_own ci4 cty4 sb0_4 sb0_0), PySem.W.mg_of X G gc1, ⟨pg1, hd1, po1, sa1⟩, ⟨ta1, tb, tc, td1⟩, (kit_own ci0 cty0 sb1_0 sb1_1), (kit_own ci1 cty1 sb1_1 sb1_1), (kit_own ci2 cty2 sb1_2 sb1_1), (kit_own ci3 cty3 sb1_3 sb1_1), (kit_own ci4 cty4 sb1_4 sb1_1), PySem.W.mg_of X G gc2, ⟨pg2, hd2, po2, sa2⟩, ⟨ta2, tb, tc, td2⟩, na2_0, (kit_own ci0 cty0 sb2_0 sb2_2), (kit_own ci1 cty1 sb2_1 sb2_2), (kit_own ci2 cty2 sb2_2 sb2_2), (kit_own ci3 cty3 sb2_3 sb2_2), (kit_own ci4 cty4 sb2_4 sb2_2), PySem.W.mg_of X G gc3, ⟨pg3, hd3, po3, sa3⟩, ⟨ta3, tb, tc, td3⟩, na3_0, (kit_own ci0 cty0 sb3_0 sb3_3), (kit_own ci1 cty1 sb3_1 sb3_3), (kit_own ci2 cty2 sb3_2 sb3_3), (kit_own ci3 cty3 sb3_3 sb3_3), (kit_own ci4 cty4 sb3_4 sb3_3), PySem.W.mg_of X G gc4, ⟨pg4, hd4, po4, sa4⟩, ⟨ta4, tb, tc, td4⟩, na4_0, na4_1, na4_2, na4_3, (kit_own ci0 cty0 sb4_0 sb4_4), (kit_own ci1 cty1 sb4_1 sb4_4), (kit_own ci2 cty2 sb4_2 sb4_4), (kit_own ci3 cty3 sb4_3 sb4_4), (kit_own ci4 cty4 sb4_4 sb4_4), PySem.W.mg_of X G gk0, (.inr ⟨_, _, _, lk0, rfl, rfl, (show 2 ≤ sizeLine by decide), .cons ⟨_, rfl⟩ (.cons ⟨_, rfl⟩ (.nil))⟩), PySem.W.mg_none_of X G z_all, PySem.W.mg_none_of X G z_any, PySem.W.mg_none_of X G z_bool, PySem.W.mg_none_of X G z_enumerate, PySem.W.mg_none_of X G z_int, PySem.W.mg_none_of X G z_isinstance, PySem.W.mg_none_of X G z_len, PySem.W.mg_none_of X G z_list, PySem.W.mg_none_of X G z_max, PySem.W.mg_none_of X G z_min, PySem.W.mg_none_of X G z_range, PySem.W.mg_none_of X G z_str, PySem.W.mg_none_of X G z_sum, PySem.W.mg_none_of X G z_tuple, PySem.W.mg_none_of X G z_zip, PySem.W.mg_of X G q_MOST_AHEAD, PySem.W.mg_of X G q_MOST_HANDS, PySem.W.mg_of X G q_MOST_POINTS, PySem.W.mg_of X G q_MOST_SHOWN, PySem.W.mg_of X G q_MOST_TO, PySem.W.mg_of X G q_MOST_WORDS⟩
  exact ⟨PySem.W.fnOf "law" "law" (defArgs s_law) (defBody s_law) (defScope s_law) .none kV32 dc32 pm32 an32 cd32 ct32, fun s v => .of_eq rfl, fun base _ _ => ok_law T F32 law_run⟩
end K09
open PySem PySem.W PyProof.Rows
set_option maxHeartbeats 0 in
theorem PySem.Challenge.cw_scorehands_k09_whole_way_holds : PySem.Challenge.rw_scorehands_k09_whole_way.Holds := by
  w_on; o_law; k_head; (case hw => w_witness2)
  k_fill
  refine L2.walk_ofB (l := PySem.Challenge.rw_scorehands_k09_whole_way) (n := 63) (k := 6) (x := "_law_script") (CX := fun _ => L2.CX0) (sp := fun w => G.spLaw _) rfl (by decide) rfl ⟨rfl, by decide, by decide⟩
    (fun w h Y => PySem.W.kIn_of Y) ?F (fun _ _ a ns hl hb _ hS => ⟨a, ns, rfl, hS, hl, hb, fun _ => rfl⟩) (fun _ _ _ _ _ h => h)
  case F =>
    intro w mg fa h KX G hmg
    refine' K09.all_mk KX G hmg ?xgc0 ?xgc1 ?xgc2 ?xgc3 ?xgc4 ?xg0 ?xl0 ?xc0 ?xp0 ?xg1 ?xl1 ?xc1 ?xp1 ?xg2 ?xl2 ?xc2 ?xp2 ?xg3 ?xl3 ?xc3 ?xp3 ?xg4 ?xl4 ?xc4 ?xp4 ?xg5 ?xl5 ?xc5 ?xp5 ?xg6 ?xl6 ?xc6 ?xp6 ?xg7 ?xl7 ?xc7 ?xp7 ?xg8 ?xl8 ?xc8 ?xp8 ?xg9 ?xi9 ?xl9 ?xc9 ?xp9 ?xg10 ?xi10 ?xl10 ?xc10 ?xp10 ?xg11 ?xi11 ?xl11 ?xc11 ?xp11 ?xg12 ?xi12 ?xl12 ?xc12 ?xp12 ?xg13 ?xi13 ?xl13 ?xc13 ?xp13 ?xg14 ?xi14 ?xl14 ?xc14 ?xp14 ?xg15 ?xi15 ?xl15 ?xc15 ?xp15 ?xg16 ?xi16 ?xl16 ?xc16 ?xp16 ?xg17 ?xi17 ?xl17 ?xc17 ?xp17 ?xg18 ?xl18 ?xc18 ?xp18 ?xg19 ?xl19 ?xc19 ?xp19 ?xg20 ?xl20 ?xc20 ?xp20 ?xg21 ?xl21 ?xc21 ?xp21 ?xg22 ?xl22 ?xc22 ?xp22 ?xg23 ?xl23 ?xc23 ?xp23 ?xg24 ?xl24 ?xc24 ?xp24 ?xg25 ?xl25 ?xc25 ?xp25 ?xg26 ?xl26 ?xc26 ?xp26 ?xg27 ?xl27 ?xc27 ?xp27 ?xg28 ?xl28 ?xc28 ?xp28 ?xg29 ?xl29 ?xc29 ?xp29 ?xg30 ?xl30 ?xc30 ?xp30 ?xg31 ?xl31 ?xc31 ?xp31 ?xg32 ?xl32 ?xc32 ?xp32 ?xpg0 ?xhd0 ?xpo0 ?xsa0 ?xmk0 ?xkc0 ?xta0 ?xtd0 ?xcty0 ?xci0 ?xna0_0 ?xsb0_0 ?xsb0_1 ?xsb0_2 ?xsb0_3 ?xsb0_4 ?xpg1 ?xhd1 ?xpo1 ?xsa1 ?xta1 ?xtd1 ?xcty1 ?xci1 ?xsb1_0 ?xsb1_1 ?xsb1_2 ?xsb1_3 ?xsb1_4 ?xpg2 ?xhd2 ?xpo2 ?xsa2 ?xmk2 ?xkc2 ?xta2 ?xtd2 ?xcty2 ?xci2 ?xna2_0 ?xsb2_0 ?xsb2_1 ?xsb2_2 ?xsb2_3 ?xsb2_4 ?xpg3 ?xhd3 ?xpo3 ?xsa3 ?xmk3 ?xkc3 ?xta3 ?xtd3 ?xcty3 ?xci3 ?xna3_0 ?xsb3_0 ?xsb3_1 ?xsb3_2 ?xsb3_3 ?xsb3_4 ?xpg4 ?xhd4 ?xpo4 ?xsa4 ?xmk4 ?xkc4 ?xta4 ?xtd4 ?xcty4 ?xci4 ?xna4_0 ?xna4_1 ?xna4_2 ?xna4_3 ?xsb4_0 ?xsb4_1 ?xsb4_2 ?xsb4_3 ?xsb4_4 ?xtb ?xtc ?xgk0 ?xlk0 ?xz_all ?xz_any ?xz_bool ?xz_enumerate ?xz_int ?xz_isinstance ?xz_len ?xz_list ?xz_max ?xz_min ?xz_range ?xz_str ?xz_sum ?xz_tuple ?xz_zip ?xq_MOST_AHEAD ?xq_MOST_HANDS ?xq_MOST_POINTS ?xq_MOST_SHOWN ?xq_MOST_TO ?xq_MOST_WORDS
    (case xgc0 => k_is); (case xgc1 => k_is); (case xgc2 => k_is); (case xgc3 => k_is); (case xgc4 => k_is); (case xg0 => k_is); (case xl0 => k_is); (case xc0 => k_is)
    (case xp0 => k_is); (case xg1 => k_is); (case xl1 => k_is); (case xc1 => k_is); (case xp1 => k_is); (case xg2 => k_is); (case xl2 => k_is); (case xc2 => k_is)
    (case xp2 => k_is); (case xg3 => k_is); (case xl3 => k_is); (case xc3 => k_is); (case xp3 => k_is); (case xg4 => k_is); (case xl4 => k_is); (case xc4 => k_is)
    (case xp4 => k_is); (case xg5 => k_is); (case xl5 => k_is); (case xc5 => k_is); (case xp5 => k_is); (case xg6 => k_is); (case xl6 => k_is); (case xc6 => k_is)
    (case xp6 => k_is); (case xg7 => k_is); (case xl7 => k_is); (case xc7 => k_is); (case xp7 => k_is); (case xg8 => k_is); (case xl8 => k_is); (case xc8 => k_is)
    (case xp8 => k_is); (case xg9 => k_is); (case xi9 => k_is); (case xl9 => k_is); (case xc9 => k_is); (case xp9 => k_is); (case xg10 => k_is); (case xi10 => k_is)
    (case xl10 => k_is); (case xc10 => k_is); (case xp10 => k_is); (case xg11 => k_is); (case xi11 => k_is); (case xl11 => k_is); (case xc11 => k_is); (case xp11 => k_is)
    (case xg12 => k_is); (case xi12 => k_is); (case xl12 => k_is); (case xc12 => k_is); (case xp12 => k_is); (case xg13 => k_is); (case xi13 => k_is); (case xl13 => k_is)
    (case xc13 => k_is); (case xp13 => k_is); (case xg14 => k_is); (case xi14 => k_is); (case xl14 => k_is); (case xc14 => k_is); (case xp14 => k_is); (case xg15 => k_is)
    (case xi15 => k_is); (case xl15 => k_is); (case xc15 => k_is); (case xp15 => k_is); (case xg16 => k_is); (case xi16 => k_is); (case xl16 => k_is); (case xc16 => k_is)
    (case xp16 => k_is); (case xg17 => k_is); (case xi17 => k_is); (case xl17 => k_is); (case xc17 => k_is); (case xp17 => k_is); (case xg18 => k_is); (case xl18 => k_is)
    (case xc18 => k_is); (case xp18 => k_is); (case xg19 => k_is); (case xl19 => k_is); (case xc19 => k_is); (case xp19 => k_is); (case xg20 => k_is); (case xl20 => k_is)
    (case xc20 => k_is); (case xp20 => k_is); (case xg21 => k_is); (case xl21 => k_is); (case xc21 => k_is); (case xp21 => k_is); (case xg22 => k_is); (case xl22 => k_is)
    (case xc22 => k_is); (case xp22 => k_is); (case xg23 => k_is); (case xl23 => k_is); (case xc23 => k_is); (case xp23 => k_is); (case xg24 => k_is); (case xl24 => k_is)
    (case xc24 => k_is); (case xp24 => k_is); (case xg25 => k_is); (case xl25 => k_is); (case xc25 => k_is); (case xp25 => k_is); (case xg26 => k_is); (case xl26 => k_is)
    (case xc26 => k_is); (case xp26 => k_is); (case xg27 => k_is); (case xl27 => k_is); (case xc27 => k_is); (case xp27 => k_is); (case xg28 => k_is); (case xl28 => k_is)
    (case xc28 => k_is); (case xp28 => k_is); (case xg29 => k_is); (case xl29 => k_is); (case xc29 => k_is); (case xp29 => k_is); (case xg30 => k_is); (case xl30 => k_is)
    (case xc30 => k_is); (case xp30 => k_is); (case xg31 => k_is); (case xl31 => k_is); (case xc31 => k_is); (case xp31 => k_is); (case xg32 => k_is); (case xl32 => k_is)
    (case xc32 => k_is); (case xp32 => k_is); (case xpg0 => k_is); (case xhd0 => k_is); (case xpo0 => k_is); (case xsa0 => k_is); (case xmk0 => k_is); (case xkc0 => k_is)
    (case xta0 => k_is); (case xtd0 => k_is); (case xcty0 => k_is); (case xci0 => k_is); (case xna0_0 => k_is); (case xsb0_0 => k_is); (case xsb0_1 => k_is); (case xsb0_2 => k_is)
    (case xsb0_3 => k_is); (case xsb0_4 => k_is); (case xpg1 => k_is); (case xhd1 => k_is); (case xpo1 => k_is); (case xsa1 => k_is); (case xta1 => k_is); (case xtd1 => k_is)
    (case xcty1 => k_is); (case xci1 => k_is); (case xsb1_0 => k_is); (case xsb1_1 => k_is); (case xsb1_2 => k_is); (case xsb1_3 => k_is); (case xsb1_4 => k_is); (case xpg2 => k_is)
    (case xhd2 => k_is); (case xpo2 => k_is); (case xsa2 => k_is); (case xmk2 => k_is); (case xkc2 => k_is); (case xta2 => k_is); (case xtd2 => k_is); (case xcty2 => k_is)
    (case xci2 => k_is); (case xna2_0 => k_is); (case xsb2_0 => k_is); (case xsb2_1 => k_is); (case xsb2_2 => k_is); (case xsb2_3 => k_is); (case xsb2_4 => k_is); (case xpg3 => k_is)
    (case xhd3 => k_is); (case xpo3 => k_is); (case xsa3 => k_is); (case xmk3 => k_is); (case xkc3 => k_is); (case xta3 => k_is); (case xtd3 => k_is); (case xcty3 => k_is)
    (case xci3 => k_is); (case xna3_0 => k_is); (case xsb3_0 => k_is); (case xsb3_1 => k_is); (case xsb3_2 => k_is); (case xsb3_3 => k_is); (case xsb3_4 => k_is); (case xpg4 => k_is)
    (case xhd4 => k_is); (case xpo4 => k_is); (case xsa4 => k_is); (case xmk4 => k_is); (case xkc4 => k_is); (case xta4 => k_is); (case xtd4 => k_is); (case xcty4 => k_is)
    (case xci4 => k_is); (case xna4_0 => k_is); (case xna4_1 => k_is); (case xna4_2 => k_is); (case xna4_3 => k_is); (case xsb4_0 => k_is); (case xsb4_1 => k_is); (case xsb4_2 => k_is)
    (case xsb4_3 => k_is); (case xsb4_4 => k_is); (case xtb => k_is); (case xtc => k_is); (case xgk0 => k_is); (case xlk0 => k_is); (case xz_all => k_is); (case xz_any => k_is)
    (case xz_bool => k_is); (case xz_enumerate => k_is); (case xz_int => k_is); (case xz_isinstance => k_is); (case xz_len => k_is); (case xz_list => k_is); (case xz_max => k_is); (case xz_min => k_is)
    (case xz_range => k_is); (case xz_str => k_is); (case xz_sum => k_is); (case xz_tuple => k_is); (case xz_zip => k_is); (case xq_MOST_AHEAD => k_is); (case xq_MOST_HANDS => k_is); (case xq_MOST_POINTS => k_is)
    (case xq_MOST_SHOWN => k_is); (case xq_MOST_TO => k_is); (case xq_MOST_WORDS => k_is)
