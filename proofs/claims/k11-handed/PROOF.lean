import PyProof.Rows.All
import Wide.All
import OpenK.AllK
import Wide.FinOn
import HandS.ForMost
import HandS.SetFor
import HandS.Strs
import HandS.Deep
import HandS.TupSets
import HandS.Style
import HandS.Walk
import HandS.IsInst
import HandS.Wide
import KE.DataMinMax
import HandS.Conv
import KE.SortData
import HandS.Lambda
import HandS.ExcOwn
import HandS.ExcIs
import HandS.WordsExc
import HandS.ForExc
import HandS.Dict
import HandS.CallLocal
import HandS.Nested
import HandS.EndBits
import HandS.EndTab
import PySem.Challenge.RW_scorehands_k11_whole_handed
set_option Elab.async false
set_option linter.all false
set_option maxRecDepth 100000
set_option maxHeartbeats 4000000
namespace G
open PySem PySem.Spec PyProof.Rows L2
/-! ### set(l) of a list of ints, told as SetR -/
abbrev emSet (w : World) : Obj :=
  ⟨.type "set", none, .set #[] 0 (.fresh 0 0 (!w.params.followText "set-order")), #[]⟩
section
variable {P : Program} {w : World} {A : Around} {E : Value → Shared → Prop} {s : Shared}
theorem set_of_list {l : Addr} {items : Array Value} (ms : List Int) {Q : Value → Shared → Prop}
    (quiet : A.handled = none) (lst : s.heap.IsList l items) (are : IntsAre items.toList ms)
    (few : ms.length + 1 < scanBound)
    (go : ∀ (h2 : Heap) (tk c : Nat), SetR w h2 s.heap.objs.size (fun j => decide (j ∈ ms)) c → c ≤ ms.length →
      (∀ b o, s.heap.get? b = some o → h2.get? b = some o) →
      Q (.ref s.heap.objs.size) { s with heap := h2, toks := tk }) :
    wpAny (model P w) A (call (.type "set") [.ref l]) Q E s := by
  have sz : items.size = ms.length := by
    have q := IntsAre.length are
    rwa [Array.length_toList] at q
  obtain ⟨c, tl, mro⟩ := F.called_set.mro
  have made := F.called_set.made; have sub := F.called_set.sub
  refine wpAny_call (codeAny_of_tree ?_)
  show wpAny _ _ (callAny (.type "set") _) _ _ _
  refine wpAny_pure ⟨Code.quiet_builtin _ (by decide +kernel),
    codeAny_builtin F.entry_type_call ?_⟩
  rw [Around.under_plain (weight_type_call_type "set" [.ref l] [])
    rfl]
  have n1 := F.called_set.notType; have n2 := F.called_set.canCreate; have n3 := F.typeCall_set_1 (.ref l)
  repeat (any_goals (first | assumption | wp_step))
  refine codeAny_mono (code_set_led1 (.ref l) (E := E)
    (Q₁ := fun obj t => obj = .ref s.heap.objs.size ∧ t = { s with heap := s.heap.push (emSet w) }) ⟨rfl, rfl⟩) fun r t hr => ?_
  cases r with
  | error e => exact hr
  | ok fl =>
    cases fl with
    | ret obj =>
      obtain ⟨rfl, rfl⟩ := hr
      have top : (s.heap.push (emSet w)).get? s.heap.objs.size = some (emSet w) := Heap.get?_push_size _ rfl
      have typ : Shared.TypeIs { s with heap := s.heap.push (emSet w) } (.ref s.heap.objs.size) "set" := ⟨_, top, rfl⟩
      have n4 := F.called_set.init.lookup; have n5 := F.called_set.init.bind (.ref s.heap.objs.size)
      repeat (any_goals (first | assumption | wp_step))
      refine codeAny_mono (codeAny_call_builtin (R := wants (fun r t2 => r = .none ∧ ∃ h2 tk c,
          t2 = { s with heap := h2, toks := tk } ∧ SetR w h2 s.heap.objs.size (fun j => decide (j ∈ ms)) c ∧ c ≤ ms.length ∧
          (∀ b o, s.heap.get? b = some o → h2.get? b = some o)) E) F.called_set.init.plain F.entry_set_init
        (check_set_init_1 typ ?_)) fun r2 t2 hr2 => ?_
      · obtain ⟨⟨lc, ld, lt, ls⟩, at0, isl, nl, seq⟩ := lst
        simp only at isl seq
        subst isl; subst seq
        have at1 : (s.heap.push (emSet w)).get? l = some ⟨.type "list", ld, .seq items nl, ls⟩ := Heap.get?_push_of_some _ at0
        have m1 := F.sub_list_set; have m2 := F.sub_list_frozenset
        have m3 : (Value.type "list" == Value.type "dict") = false := by decide
        have lst1 : (s.heap.push (emSet w)).IsList l items := ⟨_, at1, rfl, nl, rfl⟩
        unfold Builtin.«set.__init__» noKeywords
          Builtin.Frozenset.updateFrom
        generalize keep : pyIter = PI
        wp_walk
        subst keep
        refine wpAny_pyIter_list lst1 (wpAny_bind (wpAny_runValue ?_))
        have below : l < s.heap.objs.size := Heap.lt_size at0
        have quiet3 : A.in1.in1.in1.handled = none := by simp [quiet]
        have apart : l ≠ (s.heap.push (emSet w)).objs.size := by
          rw [Heap.size_push]
          exact Nat.ne_of_lt (Nat.lt_succ_of_lt below)
        have notin : s.heap.objs.size ∉ [(s.heap.push (emSet w)).objs.size, l] := by
          rw [Heap.size_push]
          intro z
          rcases List.mem_cons.mp z with z | z
          · exact absurd z (Nat.ne_of_lt (Nat.lt_succ_self _))
          · exact absurd (List.mem_singleton.mp z) (Nat.ne_of_gt below)
        have vals : ∀ (i : Nat) (v : Value), items[i]? = some v → ∃ k t, ms[i]? = some k ∧ v = .int k t := fun i v hv => by
          have lt : i < ms.length := by rw [← sz]; exact (Array.getElem?_eq_some_iff.mp hv).1
          obtain ⟨t, e⟩ := IntsAre.int_at are i v (by rw [Array.getElem?_toList]; exact hv)
          refine ⟨ms[i], t, List.getElem?_eq_getElem lt, ?_⟩
          rw [e, List.getD_eq_getElem?_getD, List.getElem?_eq_getElem lt]
          all_goals rfl
        refine set_update_ints ((Walks.list quiet3 _ l apart items).toS) s.heap.objs.size notin ms sz few vals
          (items.size - 0) 0 _ (by omega) (Nat.zero_le _) ⟨⟨_, Heap.get?_push_size _ rfl, rfl, rfl⟩, (lst1.push _)⟩
          ⟨0, Nat.le_refl 0, setR_new_at (Heap.get?_push_of_some _ top)⟩ ?_
        intro t c2 mv le st
        obtain ⟨h2, g2, d2, k2, o2⟩ := t
        obtain rfl : g2 = s.gens := mv.gens
        obtain rfl : d2 = s.drawn := mv.drawn
        obtain rfl : o2 = s.os := mv.os
        show wpAny _ _ _ _ _ _
        refine wpAny_pure ?_
        show wpAny _ _ (ret Value.none) _ _ _
        rw [sz] at le
        refine wpAny_pure ⟨rfl, h2, k2, c2, rfl, st, le, fun b o e => ?_⟩
        have lt : b < s.heap.objs.size := Heap.lt_size e
        refine mv.heap b o (fun z => ?_) (Heap.get?_push_of_some _ (Heap.get?_push_of_some _ e))
        rcases List.mem_cons.mp z with z | z
        · exact absurd z (Nat.ne_of_lt lt)
        · have z := List.mem_singleton.mp z
          rw [Heap.size_push] at z
          exact absurd z (Nat.ne_of_lt (Nat.lt_succ_of_lt lt))
      · cases r2 with
        | error e => exact hr2
        | ok f2 =>
          cases f2 with
          | ret r =>
            obtain ⟨rfl, h2, tk, c2, rfl, st, le, kp⟩ := hr2
            repeat (any_goals (first | assumption | wp_step))
            exact go _ _ _ st le kp
          | _ => exact hr2.elim
    | _ => exact hr.elim
end
/-- set(list of ints) over the layer -/
def rSetOfI (w : World) (K : PySem.W.Frag) : List V → Hp → VK → Prop := fun xs H Q => ∃ (p : Addr) (ns : List Int), xs = [.ref p] ∧ SqL K H p (ns.map V.int) ∧ ns.length < 60 ∧
  ∀ (q : Addr) (S : Int → Bool) (n : Nat), H q = none → (∀ k, S k = decide (k ∈ ns)) → n ≤ ns.length → Q (.ref q) (upd H q (SetO w q S n))
theorem cr_setL {X : Cx} (hc : X.calm = true) : CallR X (.type "set") (rSetOfI X.w X.K) := by
  intro pins s σ H xs us Q I r h
  obtain ⟨p, ns, rfl, hS, hn, q⟩ := h
  obtain ⟨u, rfl, ru⟩ := vals1 r
  cases ru
  obtain ⟨its, rv, pl, hz⟩ := I.list hS
  refine set_of_list ns (I.ok.hd hc) pl.isList (by simpa using intsAre_of rv) (Nat.lt_of_lt_of_le (show ns.length + 1 < 61 by omega) (by decide)) fun h2 tk c R le kp => ?_
  exact ⟨.ref _, _, I.laid (t' := tk) kp (Nat.le_refl _) (setO_new R), rfl, q _ _ c (I.hok.fresh (Nat.le_refl _)) (fun k => rfl) le⟩
end G

namespace G
open PySem PySem.Spec PyProof.Rows L2
section
variable {X : Cx}
/-- l.count(x), data of any depth -/
def rCntD (K : PySem.W.Frag) : V → List V → Hp → VK → Prop := fun x xs H Q => ∃ (a : Addr) (y : V) (d : PyData) (ds : List PyData), x = V.ref a ∧ xs = [y] ∧ Dp K H (V.ref a) (.list ds) ∧ Dp K H y d ∧
  SeqAt.shaped (.list ds) = true ∧ SeqAt.shaped d = true ∧ Q (.int ((ds.countP fun z => PyData.eqv z d : Nat) : Int)) H
theorem mt_cntD (hu : X.A.units + 65 < cLine) : MtR X "list.count" (rCntD X.K) := by
  intro pins s σ H x xs v us Q I rx rxs h
  obtain ⟨a, y, d, ds, rfl, rfl, hl, hy, sl, sd, q⟩ := h
  cases rx
  cases rxs with
  | cons ry rt =>
    rename_i uy ut
    cases rt
    obtain ⟨bs, r1⟩ := Dp.reads I d y uy hy ry
    have hxs : PyData.canLayAll0 ds = true := SeqAt.canLay_of_shaped sl
    have hroom : X.A.units + 1 + min (PyData.depthAll ds) d.depth < cLine := room_in_shaped sd hu
    cases hl with
    | lst hs ha =>
      obtain ⟨its, rv, ⟨⟨cls, dd, data, sls⟩, n, ho, hc, hdn, hdt⟩, hlen⟩ := I.list hs
      simp only at hc hdt
      subst hc hdt
      obtain ⟨as, h4⟩ := Dp.readsAll I ds _ its ha rv
      have hmap : its.map (SeqAt.readOf s.heap) = ds := SeqAt.readsAll_map ds its as hxs h4
      have ec : its.toArray.toList.countP (fun u => PyData.eqv (SeqAt.readOf s.heap u) d) = ds.countP fun z => PyData.eqv z d := by
        rw [← hmap, List.countP_map]
        rfl
      refine call_meets PySem.F.slot_list_count ⟨_, ho, rfl⟩ PySem.F.entry_list_count (PySem.F.args_list_count_2 _ _)
        (SeqAt.list_countAt a its.toArray n dd sls uy (fun u => PyData.eqv (SeqAt.readOf s.heap u) d)) ⟨ho, SeqAt.items_eqAt (vs := its.toArray) (show ReadsAll s.heap its.toArray.toList ds as from h4) r1 hxs (SeqAt.canLay_of_shaped sd) hroom, ?_⟩
      refine ⟨.int ((ds.countP fun z => PyData.eqv z d : Nat) : Int), H, I.tok _, ⟨s.toks, ?_⟩, q⟩
      show Value.int ((its.toArray.toList.countP (fun u => PyData.eqv (SeqAt.readOf s.heap u) d) : Nat) : Int) s.toks = _
      rw [ec]
/-- len(set(xs)), xs a list of tuples of ints -/
def tLenSetT (K : PySem.W.Frag) (ta : TE) : TE := fun σ H Q => ta σ H fun x H1 => ∃ (l : Addr) (ks : List (Addr × List Int)), x = V.ref l ∧ SqL K H1 l (ks.map fun p => V.ref p.1) ∧ (∀ p ∈ ks, SqT K H1 p.1 (p.2.map V.int)) ∧ ks.length < 64 ∧
  ∀ L : List (List Int), L.Nodup → (∀ x, x ∈ L ↔ x ∈ ks.map (·.2)) → Q (.int (L.length : Nat)) H1
theorem pe_lenSetT {a : Expr} {ta : TE} {p p2 q pos : Pos} (hc : X.calm = true) (hu : X.A.units + 65 < cLine) (hg : Gl X "len") (hm : X.mg "len" = none) (hg2 : Gl X "set") (hm2 : X.mg "set" = none) (ha : PE X a ta)
    (na : starEach [a] X.env = (false, eval a X.env) :: starEach [] X.env := by rfl) : PE X (.Call (.Name "len" p) [.Call (.Name "set" p2) [a] [] q] [] pos) (tLenSetT X.K ta) := by
  refine ⟨fun pins s σ H Q I h => ?_⟩
  refine Call_ (ld_blt I hg hm PySem.boot_len ?_)
  refine PyProof.Rows.callWith_builtin1 (PyProof.Rows.args_cons ?_ rfl) rfl rfl
  refine Call_ (ld_blt I hg2 hm2 PyProof.Rows.boot_set ?_)
  refine PyProof.Rows.callWith_type1 (PyProof.Rows.args_cons (thn (ha.run pins s σ H _ I h) fun v s1 ⟨x, H1, I1, r1, q1⟩ => PyProof.Rows.args_nil ?_) na) na rfl
  obtain ⟨l, ks, rfl, hl, hk, hf, q1⟩ := q1
  cases r1
  obtain ⟨its, rv, pl, hz⟩ := I1.list hl
  refine call_set_tups (P := X.prog) (w := X.w) ks (I1.ok.hd hc) pl.isList (by simpa using refs_of_vals rv) (fun p hp => I1.isT (hk p hp)) hf (by omega) fun h' tk L es ep t R g k => ?_
  refine PyProof.Rows.args_nil ?_
  have I2 : Inv X pins σ H1 { s1 with heap := h', toks := tk } := I1.kept k
  obtain ⟨o, ho, hex, hd⟩ := R.ob
  have hsz : es.size = L.length := by
    have := congrArg List.length R.rows
    simpa [rowsOf] using this
  refine call_len_set ho hex hd (SetTR.fits (s := { s1 with heap := h', toks := tk }) R) (by have := R.few; omega) ⟨.int (L.length : Nat), H1, I2.tok _, ⟨_, by rw [← hsz]⟩, ?_⟩
  have := q1 (L.map (·.2)) R.nd fun x => ⟨fun hx => ?_, fun hx => ?_⟩
  · rw [List.length_map] at this
    exact this
  · obtain ⟨p, hp, rfl⟩ := List.mem_map.mp hx
    exact List.mem_map.mpr ⟨p, List.mem_of_mem_take (g.sub p hp), rfl⟩
  · obtain ⟨p, hp, rfl⟩ := List.mem_map.mp hx
    exact g.all p (by rw [List.take_length]; exact hp)
/-! xs[::2] -/
def ev2 {α : Type} : List α → List α
  | [] => []
  | [x] => [x]
  | x :: _ :: r => x :: ev2 r
theorem ev2_le {α : Type} : ∀ l : List α, (ev2 l).length ≤ l.length
  | [] => Nat.le_refl _
  | [_] => Nat.le_refl _
  | x :: y :: r => by
    have := ev2_le r
    simp only [ev2, List.length_cons]
    omega
theorem ev2_sub {α : Type} : ∀ {l : List α} {x : α}, x ∈ ev2 l → x ∈ l
  | [], _, h => h
  | [_], _, h => h
  | a :: b :: r, x, h => by
    simp only [ev2, List.mem_cons] at h ⊢
    rcases h with h | h
    · exact .inl h
    · exact .inr (.inr (ev2_sub h))
theorem ev2_map {α β : Type} (f : α → β) : ∀ l : List α, ev2 (l.map f) = (ev2 l).map f
  | [] => rfl
  | [_] => rfl
  | a :: b :: r => by simp only [List.map_cons, ev2, ev2_map f r]
theorem ev2_vals : ∀ {xs : List V} {us : List Value}, Vals xs us → Vals (ev2 xs) (ev2 us)
  | [], us, h => by cases h; exact .nil
  | [x], us, h => by
    cases h with
    | cons h1 h2 => cases h2; exact .cons h1 .nil
  | x :: y :: r, us, h => by
    cases h with
    | cons h1 h2 =>
      cases h2 with
      | cons h3 h4 => exact .cons h1 (ev2_vals h4)
theorem ev2_pick {α : Type} : ∀ (l : List α), (List.range ((l.length + 1) / 2)).filterMap (fun k => l[2 * k]?) = ev2 l
  | [] => by simp [ev2]
  | [x] => by simp [ev2]
  | x :: y :: r => by
    have ih := ev2_pick r
    have e : ((x :: y :: r).length + 1) / 2 = (r.length + 1) / 2 + 1 := by
      simp only [List.length_cons]
      omega
    rw [e, List.range_succ_eq_map, List.filterMap_cons]
    simp only [Nat.mul_zero, List.getElem?_cons_zero, ev2]
    rw [List.filterMap_map, ← ih]
    congr 1
theorem ev2_range (n : Nat) : sliceRange 0 (n : Int) 2 = (List.range ((n + 1) / 2)).map fun k => 2 * k := by
  unfold sliceRange
  have h1 : (2 : Int) > 0 := by decide
  by_cases h : (0 : Int) < n
  · have e : (((n : Int) - 0 + 2 - 1) / 2).toNat = (n + 1) / 2 := by omega
    simp only [h1, if_true, h, e]
    apply List.map_congr_left
    intro k hk
    omega
  · have e : n = 0 := by omega
    subst e
    simp
theorem ev2_slice (items : Array Value) : slicePick items none none (some 2) = (ev2 items.toList).toArray := by
  unfold slicePick
  have b : sliceBounds none none (some 2) items.size = (0, (items.size : Int), 2) := by
    first
    | rfl
    | simp [sliceBounds]
  rw [b]
  show ((sliceRange 0 (items.size : Int) 2).filterMap (items[·]?)).toArray = _
  rw [ev2_range, List.filterMap_map, ← ev2_pick]
  rw [Array.length_toList]
  have e : ((fun x => items[x]?) ∘ fun k => 2 * k) = fun k => items.toList[2 * k]? := funext fun k => by simp
  rw [e]
def tEv2 (K : PySem.W.Frag) (te : TE) : TE := fun σ H Q => te σ H fun x H1 => ∃ a xs, x = .ref a ∧ SqL K H1 a xs ∧ ∀ p, H1 p = none → Q (.ref p) (upd H1 p (.lst (ev2 xs)))
theorem pe_ev2 {e : Expr} {te : TE} {k : Nat} {p1 p3 pos : Pos} (he : PE X e te) : PE X (.Subscript e (.Slice none none (some (.Constant (.int 2) k p1)) p3) pos) (tEv2 X.K te) := by
  refine ⟨fun pins s σ H Q I h => ?_⟩
  refine Subscript_ (thn (he.run pins s σ H _ I h) fun v s1 ⟨x, H1, I1, r1, q1⟩ => ?_)
  obtain ⟨a, xs, ex, hx, q⟩ := q1
  subst ex
  cases r1
  have hst : PO X (some (.Constant (.int 2) k p1)) (tPart (tC (.int 2))) := po_some pe_int
  refine wpAny_Slice (thn (po_none.run pins s1 σ H1 (fun o H2 => o = none ∧ H2 = H1) I1 ⟨rfl, rfl⟩) fun vl s2 ⟨l, H2, I2, pl, el, e2⟩ => ?_)
  subst el e2
  refine thn (po_none.run pins s2 σ H2 (fun o H3 => o = none ∧ H3 = H2) I2 ⟨rfl, rfl⟩) fun vu s3 ⟨u, H3, I3, pu, eu, e3⟩ => ?_
  subst eu e3
  refine thn (hst.run pins s3 σ H3 (fun o H4 => o = some 2 ∧ H4 = H3) I3 ⟨2, rfl, rfl, rfl⟩) fun vs s4 ⟨o, H4, I4, ps, eo, e4⟩ => ?_
  subst eo e4
  have I5 : Inv X pins σ H4 { s4 with heap := s4.heap.push { cls := .type "slice", data := .fields #[vl, vu, vs] } } := I4.kept (t' := s4.toks) fun b ob q => Heap.get?_push_of_some _ q
  obtain ⟨its, r, ht, hz⟩ := I5.list hx
  have hlen := r.length
  show wpAny (model X.prog X.w) X.A (subscriptTail e (.Slice none none (some (.Constant (.int 2) k p1)) p3) (.ref a) (.ref s4.heap.objs.size)) (EP X pins σ Q) X.xe { s4 with heap := s4.heap.push { cls := .type "slice", data := .fields #[vl, vu, vs] } }
  refine tail_any (ops := [.ref a, .ref s4.heap.objs.size]) ht.isList.typeIs (PySem.slot_list_getitem.lookup) ?_ (by with_unfolding_all rfl)
  refine wpAny_getItem_list_slice ht.isList (Heap.IsSliceOf.new _ vl vu vs) pl pu ps (by decide) ?_ (by rw [List.size_toArray]; omega)
  rw [ev2_slice]
  refine ⟨.ref _, _, I5.laid (t' := s4.toks) (o := .lst (ev2 xs)) (fun b ob q => Heap.get?_push_of_some _ q) (Nat.le_refl _) ?_, rfl, q _ (I5.hok.fresh (Nat.le_refl _))⟩
  exact ⟨Nat.le_trans (ev2_le xs) hz, _, 0, ev2_vals r, Heap.get?_push_size _ rfl⟩
end
end G

namespace G
open PySem L2

/-! ### data -/
inductive D where
  | non | bl (b : Bool) | int (i : Int) | str (x : Str) | ls (xs : List D) | tp (xs : List D) | ob (c : Nat) (fs : List D) | dc (ks : List Key) (ds : List D)

def D.flat : D → Bool
  | .non => true | .bl _ => true | .int _ => true | .str _ => true | _ => false

structure Cf where
  K : PySem.W.Frag
  Cl : Nat → Addr × List Str
  w : World
  kv : Nat → V

mutual
def Rp (C : Cf) (H : Hp) : D → V → Prop
  | .non, v => v = .non
  | .bl b, v => v = .bl b
  | .int i, v => v = .int i
  | .str x, v => v = .str x
  | .ls ds, v => ∃ a xs, v = .ref a ∧ H a = some (.lst xs) ∧ Rps C H ds xs
  | .tp ds, v => ∃ a xs, v = .ref a ∧ SqT C.K H a xs ∧ Rps C H ds xs
  | .dc ks ds, v => ∃ a xs, v = .ref a ∧ H a = some (.dK (ks.zip xs)) ∧ xs.length = ks.length ∧ Rps C H ds xs
  | .ob c ds, v => ∃ a dx xs, v = .ref a ∧ H a = some (.ins (C.Cl c).1 dx ((C.Cl c).2.zip xs)) ∧ xs.length = (C.Cl c).2.length ∧ Rps C H ds xs
def Rps (C : Cf) (H : Hp) : List D → List V → Prop
  | [], vs => vs = []
  | d :: ds, vs => ∃ v r, vs = v :: r ∧ Rp C H d v ∧ Rps C H ds r
end

theorem sqt_mono {K : PySem.W.Frag} {H H' : Hp} {a : Addr} {xs : List V} (e : Same H H') (h : SqT K H a xs) : SqT K H' a xs := by
  rcases h with (h | ⟨o, h⟩) | h
  · exact .inl (.inl (e _ _ h))
  · exact .inl (.inr ⟨o, e _ _ h⟩)
  · exact .inr h

section
variable {C : Cf} {H H' : Hp}
mutual
theorem Rp.mono (e : Same H H') : ∀ {d : D} {v : V}, Rp C H d v → Rp C H' d v
  | .non, _, h => by simpa only [Rp] using h
  | .bl _, _, h => by simpa only [Rp] using h
  | .int _, _, h => by simpa only [Rp] using h
  | .str _, _, h => by simpa only [Rp] using h
  | .ls ds, v, h => by
    simp only [Rp] at h ⊢
    obtain ⟨a, xs, h1, h2, h3⟩ := h
    exact ⟨a, xs, h1, e _ _ h2, Rps.mono e h3⟩
  | .tp ds, v, h => by
    simp only [Rp] at h ⊢
    obtain ⟨a, xs, h1, h2, h3⟩ := h
    exact ⟨a, xs, h1, sqt_mono e h2, Rps.mono e h3⟩
  | .dc ks ds, v, h => by
    simp only [Rp] at h ⊢
    obtain ⟨a, xs, h1, h2, h4, h3⟩ := h
    exact ⟨a, xs, h1, e _ _ h2, h4, Rps.mono e h3⟩
  | .ob c ds, v, h => by
    simp only [Rp] at h ⊢
    obtain ⟨a, dx, xs, h1, h2, h4, h3⟩ := h
    exact ⟨a, dx, xs, h1, e _ _ h2, h4, Rps.mono e h3⟩
theorem Rps.mono (e : Same H H') : ∀ {ds : List D} {vs : List V}, Rps C H ds vs → Rps C H' ds vs
  | [], _, h => by simpa only [Rps] using h
  | d :: ds, vs, h => by
    simp only [Rps] at h ⊢
    obtain ⟨v, r, h1, h2, h3⟩ := h
    exact ⟨v, r, h1, Rp.mono e h2, Rps.mono e h3⟩
end
theorem Rps.len : ∀ {ds : List D} {vs : List V}, Rps C H ds vs → vs.length = ds.length
  | [], _, h => by
    simp only [Rps] at h
    subst h; rfl
  | d :: ds, vs, h => by
    simp only [Rps] at h
    obtain ⟨v, r, rfl, _, h3⟩ := h
    simp [Rps.len h3]
theorem Rps.get : ∀ {ds : List D} {vs : List V} {i : Nat} {d : D}, Rps C H ds vs → ds[i]? = some d → ∃ v, vs[i]? = some v ∧ Rp C H d v
  | [], _, _, _, _, e => by simp at e
  | d :: ds, vs, i, d', h, e => by
    simp only [Rps] at h
    obtain ⟨v, r, rfl, h2, h3⟩ := h
    cases i with
    | zero => simp at e; subst e; exact ⟨v, rfl, h2⟩
    | succ i =>
      obtain ⟨w, e1, e2⟩ := Rps.get (i := i) h3 (by simpa using e)
      exact ⟨w, by simpa using e1, e2⟩
theorem Rps.app : ∀ {ds es : List D} {vs ws : List V}, Rps C H ds vs → Rps C H es ws → Rps C H (ds ++ es) (vs ++ ws)
  | [], _, _, _, h, k => by
    simp only [Rps] at h
    subst h
    exact k
  | d :: ds, es, vs, ws, h, k => by
    simp only [Rps] at h
    obtain ⟨v, r, rfl, h2, h3⟩ := h
    simp only [List.cons_append, Rps]
    exact ⟨v, _, rfl, h2, Rps.app h3 k⟩
theorem Rps.drop : ∀ (n : Nat) {ds : List D} {vs : List V}, Rps C H ds vs → Rps C H (ds.drop n) (vs.drop n)
  | 0, _, _, h => h
  | n + 1, [], vs, h => by
    simp only [Rps] at h
    subst h
    simp [Rps]
  | n + 1, d :: ds, vs, h => by
    simp only [Rps] at h
    obtain ⟨v, r, rfl, h2, h3⟩ := h
    exact Rps.drop n h3
theorem Rps.take : ∀ (n : Nat) {ds : List D} {vs : List V}, Rps C H ds vs → Rps C H (ds.take n) (vs.take n)
  | 0, _, _, h => by simp [Rps]
  | n + 1, [], vs, h => by
    simp only [Rps] at h
    subst h
    simp [Rps]
  | n + 1, d :: ds, vs, h => by
    simp only [Rps] at h
    obtain ⟨v, r, rfl, h2, h3⟩ := h
    simp only [List.take_succ_cons, Rps]
    exact ⟨v, _, rfl, h2, Rps.take n h3⟩
theorem Rps.set : ∀ (j : Nat) {ds : List D} {vs : List V} {d : D} {v : V}, Rps C H ds vs → Rp C H d v → Rps C H (ds.set j d) (vs.set j v)
  | _, [], vs, _, _, h, _ => by
    simp only [Rps] at h
    subst h
    simp [Rps]
  | 0, d :: ds, vs, _, _, h, k => by
    simp only [Rps] at h
    obtain ⟨v, r, rfl, h2, h3⟩ := h
    simp only [List.set_cons_zero, Rps]
    exact ⟨_, _, rfl, k, h3⟩
  | j + 1, d :: ds, vs, _, _, h, k => by
    simp only [Rps] at h
    obtain ⟨v, r, rfl, h2, h3⟩ := h
    simp only [List.set_cons_succ, Rps]
    exact ⟨_, _, rfl, h2, Rps.set j h3 k⟩
theorem Rps.nil : Rps C H [] [] := by simp [Rps]
theorem Rps.cons {d : D} {v : V} {ds : List D} {vs : List V} (h : Rp C H d v) (k : Rps C H ds vs) : Rps C H (d :: ds) (v :: vs) := by
  simp only [Rps]
  exact ⟨_, _, rfl, h, k⟩
theorem Rps.one {d : D} {v : V} (h : Rp C H d v) : Rps C H [d] [v] := .cons h .nil
theorem Rp.flat {d : D} {v : V} (hd : d.flat = true) (h : Rp C H d v) : Rp C H' d v := by
  cases d <;> first | (simpa only [Rp] using h) | (simp [D.flat] at hd)
theorem rp_int {i : Int} {v : V} : Rp C H (.int i) v ↔ v = .int i := by simp only [Rp]
theorem rp_bl {i : Bool} {v : V} : Rp C H (.bl i) v ↔ v = .bl i := by simp only [Rp]
theorem rp_str {i : Str} {v : V} : Rp C H (.str i) v ↔ v = .str i := by simp only [Rp]
theorem rp_non {v : V} : Rp C H .non v ↔ v = .non := by simp only [Rp]
theorem rp_ls {ds : List D} {v : V} : Rp C H (.ls ds) v ↔ ∃ a xs, v = .ref a ∧ H a = some (.lst xs) ∧ Rps C H ds xs := by simp only [Rp]
theorem rp_tp {ds : List D} {v : V} : Rp C H (.tp ds) v ↔ ∃ a xs, v = .ref a ∧ SqT C.K H a xs ∧ Rps C H ds xs := by simp only [Rp]
theorem rp_dc {ks : List Key} {ds : List D} {v : V} : Rp C H (.dc ks ds) v ↔ ∃ a xs, v = .ref a ∧ H a = some (.dK (ks.zip xs)) ∧ xs.length = ks.length ∧ Rps C H ds xs := by simp only [Rp]
theorem rp_ob {c : Nat} {ds : List D} {v : V} : Rp C H (.ob c ds) v ↔ ∃ a dx xs, v = .ref a ∧ H a = some (.ins (C.Cl c).1 dx ((C.Cl c).2.zip xs)) ∧ xs.length = (C.Cl c).2.length ∧ Rps C H ds xs := by simp only [Rp]
end

/-! ### equality of data -/
mutual
def D.py : D → PyData
  | .non => .none | .bl b => .bool b | .int i => .int i | .str x => .str x | .ls xs => .list (D.pys xs) | .tp xs => .tuple (D.pys xs) | .ob _ _ => .none | .dc _ _ => .none
def D.pys : List D → List PyData
  | [] => [] | x :: r => D.py x :: D.pys r
end
mutual
def D.plain : D → Bool
  | .ls xs => D.plains xs | .tp xs => D.plains xs | .ob _ _ => false | .dc _ _ => false | _ => true
def D.plains : List D → Bool
  | [] => true | x :: r => D.plain x && D.plains r
end
def D.eqok (d : D) : Bool := d.plain && SeqAt.shaped d.py
def D.eqv (a b : D) : Bool := PyData.eqv a.py b.py
section
variable {C : Cf} {H : Hp}
mutual
theorem Rp.dp : ∀ {d : D} {v : V}, d.plain = true → Rp C H d v → Dp C.K H v d.py
  | .non, _, _, h => by
    rw [rp_non] at h
    subst h
    exact .non
  | .bl _, _, _, h => by
    rw [rp_bl] at h
    subst h
    exact .bl _
  | .int _, _, _, h => by
    rw [rp_int] at h
    subst h
    exact .int _
  | .str _, _, _, h => by
    rw [rp_str] at h
    subst h
    exact .str _
  | .ls ds, v, p, h => by
    rw [rp_ls] at h
    obtain ⟨a, xs, rfl, h2, h3⟩ := h
    exact .lst (SqL.of h2) (Rps.dp p h3)
  | .tp ds, v, p, h => by
    rw [rp_tp] at h
    obtain ⟨a, xs, rfl, h2, h3⟩ := h
    exact .tup h2 (Rps.dp p h3)
  | .ob c ds, v, p, h => by simp [D.plain] at p
  | .dc ks ds, v, p, h => by simp [D.plain] at p
theorem Rps.dp : ∀ {ds : List D} {vs : List V}, D.plains ds = true → Rps C H ds vs → DpAll C.K H vs (D.pys ds)
  | [], _, _, h => by
    simp only [Rps] at h
    subst h
    exact .nil
  | d :: ds, vs, p, h => by
    simp only [Rps] at h
    obtain ⟨v, r, rfl, h2, h3⟩ := h
    simp only [D.plains, Bool.and_eq_true] at p
    exact .cons (Rp.dp p.1 h2) (Rps.dp p.2 h3)
end
end

/-! ### regions -/
def Emp : Hp := fun _ => none
def Bn (H0 B : Hp) : Hp := fun p => match H0 p with | none => B p | some _ => none
def Rsd (B0 H0 H : Hp) : Hp := fun p => match B0 p, H0 p with | none, some _ => none | _, _ => H p
def Rg (B0 H0 B H : Hp) (f g : Bool) : Hp := match f, g with
  | true, true => Bn H0 B
  | true, false => B
  | false, true => Bn H0 H
  | false, false => Rsd B0 H0 H
theorem bn_mono {H0 B B' : Hp} (e : Same B B') : Same (Bn H0 B) (Bn H0 B') := fun p o h => by
  unfold Bn at h ⊢
  cases q : H0 p with
  | none => rw [q] at h; exact e _ _ h
  | some u => rw [q] at h; cases h
theorem rsd_mono {B0 H0 B B' : Hp} (e : Same B B') : Same (Rsd B0 H0 B) (Rsd B0 H0 B') := fun p o h => by
  unfold Rsd at h ⊢
  split at h
  · cases h
  · exact e _ _ h
theorem bn_sub {H0 B : Hp} : Same (Bn H0 B) B := fun p o h => by
  unfold Bn at h
  cases q : H0 p with
  | none => rw [q] at h; exact h
  | some u => rw [q] at h; cases h
theorem rsd_sub {B0 H0 H : Hp} : Same (Rsd B0 H0 H) H := fun p o h => by
  unfold Rsd at h
  split at h
  · cases h
  · exact h
theorem bn_rsd {B0 H0 H : Hp} : Same (Bn H0 H) (Rsd B0 H0 H) := fun p o h => by
  unfold Bn at h
  unfold Rsd
  cases q : H0 p with
  | none => rw [q] at h; cases B0 p <;> exact h
  | some u => rw [q] at h; cases h
theorem rg_mono {B0 H0 B B' H H' : Hp} (eb : Same B B') (eh : Same H H') : ∀ f g, Same (Rg B0 H0 B H f g) (Rg B0 H0 B' H' f g)
  | true, true => bn_mono eb
  | true, false => eb
  | false, true => bn_mono eh
  | false, false => rsd_mono eh

/-! ### trees of cells -/
mutual
/-- d stands at v as a tree: its lists and objects are the cells ps, its leaves stand in B -/
def Tr (C : Cf) (B H : Hp) : D → V → List Addr → Prop
  | .ls ds, v, ps => ∃ a xs qs, v = .ref a ∧ H a = some (.lst xs) ∧ ps = a :: qs ∧ Trs C B H ds xs qs
  | .dc ks ds, v, ps => ∃ a xs qs, v = .ref a ∧ H a = some (.dK (ks.zip xs)) ∧ xs.length = ks.length ∧ ps = a :: qs ∧ Trs C B H ds xs qs
  | .ob c ds, v, ps => ∃ a dx xs qs, v = .ref a ∧ H a = some (.ins (C.Cl c).1 dx ((C.Cl c).2.zip xs)) ∧ xs.length = (C.Cl c).2.length ∧ ps = a :: qs ∧ Trs C B H ds xs qs
  | .tp ds, v, ps => ps = [] ∧ Rp C B (.tp ds) v
  | .non, v, ps => ps = [] ∧ v = .non
  | .bl b, v, ps => ps = [] ∧ v = .bl b
  | .int i, v, ps => ps = [] ∧ v = .int i
  | .str x, v, ps => ps = [] ∧ v = .str x
def Trs (C : Cf) (B H : Hp) : List D → List V → List Addr → Prop
  | [], vs, ps => vs = [] ∧ ps = []
  | d :: ds, vs, ps => ∃ v r p1 p2, vs = v :: r ∧ ps = p1 ++ p2 ∧ Tr C B H d v p1 ∧ Trs C B H ds r p2
end
def D.leaf : D → Bool
  | .ls _ => false | .ob _ _ => false | .dc _ _ => false | _ => true
section
variable {C : Cf} {B B' H H' : Hp}
theorem tr_ls {ds : List D} {v : V} {ps : List Addr} : Tr C B H (.ls ds) v ps ↔ ∃ a xs qs, v = .ref a ∧ H a = some (.lst xs) ∧ ps = a :: qs ∧ Trs C B H ds xs qs := by simp only [Tr]
theorem tr_dc {ks : List Key} {ds : List D} {v : V} {ps : List Addr} : Tr C B H (.dc ks ds) v ps ↔ ∃ a xs qs, v = .ref a ∧ H a = some (.dK (ks.zip xs)) ∧ xs.length = ks.length ∧ ps = a :: qs ∧ Trs C B H ds xs qs := by simp only [Tr]
theorem tr_ob {c : Nat} {ds : List D} {v : V} {ps : List Addr} : Tr C B H (.ob c ds) v ps ↔ ∃ a dx xs qs, v = .ref a ∧ H a = some (.ins (C.Cl c).1 dx ((C.Cl c).2.zip xs)) ∧ xs.length = (C.Cl c).2.length ∧ ps = a :: qs ∧ Trs C B H ds xs qs := by simp only [Tr]
theorem trs_nil {vs : List V} {ps : List Addr} : Trs C B H [] vs ps ↔ vs = [] ∧ ps = [] := by simp only [Trs]
theorem trs_cons {d : D} {ds : List D} {vs : List V} {ps : List Addr} : Trs C B H (d :: ds) vs ps ↔ ∃ v r p1 p2, vs = v :: r ∧ ps = p1 ++ p2 ∧ Tr C B H d v p1 ∧ Trs C B H ds r p2 := by simp only [Trs]
theorem tr_leaf {d : D} {v : V} {ps : List Addr} (h : d.leaf = true) : Tr C B H d v ps ↔ ps = [] ∧ Rp C B d v := by
  cases d <;> simp [D.leaf] at h <;> simp only [Tr, Rp]
mutual
theorem Tr.keep (eb : Same B B') : ∀ {d : D} {v : V} {ps : List Addr}, Tr C B H d v ps → (∀ p ∈ ps, ∀ o, H p = some o → H' p = some o) → Tr C B' H' d v ps
  | .ls ds, v, ps, h, k => by
    rw [tr_ls] at h ⊢
    obtain ⟨a, xs, qs, h1, h2, rfl, h4⟩ := h
    exact ⟨a, xs, qs, h1, k a (by simp) _ h2, rfl, Trs.keep eb h4 fun p hp => k p (by simp [hp])⟩
  | .dc ks ds, v, ps, h, k => by
    rw [tr_dc] at h ⊢
    obtain ⟨a, xs, qs, h1, h2, h3, rfl, h4⟩ := h
    exact ⟨a, xs, qs, h1, k a (by simp) _ h2, h3, rfl, Trs.keep eb h4 fun p hp => k p (by simp [hp])⟩
  | .ob c ds, v, ps, h, k => by
    rw [tr_ob] at h ⊢
    obtain ⟨a, dx, xs, qs, h1, h2, h3, rfl, h4⟩ := h
    exact ⟨a, dx, xs, qs, h1, k a (by simp) _ h2, h3, rfl, Trs.keep eb h4 fun p hp => k p (by simp [hp])⟩
  | .tp ds, v, ps, h, k => by
    simp only [Tr] at h ⊢
    exact ⟨h.1, h.2.mono eb⟩
  | .non, _, _, h, _ => by simpa only [Tr] using h
  | .bl _, _, _, h, _ => by simpa only [Tr] using h
  | .int _, _, _, h, _ => by simpa only [Tr] using h
  | .str _, _, _, h, _ => by simpa only [Tr] using h
theorem Trs.keep (eb : Same B B') : ∀ {ds : List D} {vs : List V} {ps : List Addr}, Trs C B H ds vs ps → (∀ p ∈ ps, ∀ o, H p = some o → H' p = some o) → Trs C B' H' ds vs ps
  | [], _, _, h, _ => by simpa only [Trs] using h
  | d :: ds, vs, ps, h, k => by
    rw [trs_cons] at h ⊢
    obtain ⟨v, r, p1, p2, h1, rfl, h3, h4⟩ := h
    exact ⟨v, r, p1, p2, h1, rfl, Tr.keep eb h3 fun p hp => k p (by simp [hp]), Trs.keep eb h4 fun p hp => k p (by simp [hp])⟩
end
mutual
/-- a tree is read in any region that has its leaves and its cells -/
theorem Tr.rp {R : Hp} (eb : Same B R) : ∀ {d : D} {v : V} {ps : List Addr}, Tr C B H d v ps → (∀ p ∈ ps, ∀ o, H p = some o → R p = some o) → Rp C R d v
  | .ls ds, v, ps, h, k => by
    rw [tr_ls] at h
    rw [rp_ls]
    obtain ⟨a, xs, qs, h1, h2, rfl, h4⟩ := h
    exact ⟨a, xs, h1, k a (by simp) _ h2, Trs.rp eb h4 fun p hp => k p (by simp [hp])⟩
  | .dc ks ds, v, ps, h, k => by
    rw [tr_dc] at h
    rw [rp_dc]
    obtain ⟨a, xs, qs, h1, h2, h3, rfl, h4⟩ := h
    exact ⟨a, xs, h1, k a (by simp) _ h2, h3, Trs.rp eb h4 fun p hp => k p (by simp [hp])⟩
  | .ob c ds, v, ps, h, k => by
    rw [tr_ob] at h
    rw [rp_ob]
    obtain ⟨a, dx, xs, qs, h1, h2, h3, rfl, h4⟩ := h
    exact ⟨a, dx, xs, h1, k a (by simp) _ h2, h3, Trs.rp eb h4 fun p hp => k p (by simp [hp])⟩
  | .tp ds, v, ps, h, k => by
    simp only [Tr] at h
    exact h.2.mono eb
  | .non, _, _, h, _ => by
    simp only [Tr] at h
    simpa only [Rp] using h.2
  | .bl _, _, _, h, _ => by
    simp only [Tr] at h
    simpa only [Rp] using h.2
  | .int _, _, _, h, _ => by
    simp only [Tr] at h
    simpa only [Rp] using h.2
  | .str _, _, _, h, _ => by
    simp only [Tr] at h
    simpa only [Rp] using h.2
theorem Trs.rp {R : Hp} (eb : Same B R) : ∀ {ds : List D} {vs : List V} {ps : List Addr}, Trs C B H ds vs ps → (∀ p ∈ ps, ∀ o, H p = some o → R p = some o) → Rps C R ds vs
  | [], _, _, h, _ => by
    rw [trs_nil] at h
    simpa only [Rps] using h.1
  | d :: ds, vs, ps, h, k => by
    rw [trs_cons] at h
    obtain ⟨v, r, p1, p2, rfl, rfl, h3, h4⟩ := h
    exact .cons (Tr.rp eb h3 fun p hp => k p (by simp [hp])) (Trs.rp eb h4 fun p hp => k p (by simp [hp]))
end
theorem Trs.len : ∀ {ds : List D} {vs : List V} {ps : List Addr}, Trs C B H ds vs ps → vs.length = ds.length
  | [], _, _, h => by
    rw [trs_nil] at h
    rw [h.1]; rfl
  | d :: ds, vs, ps, h => by
    rw [trs_cons] at h
    obtain ⟨v, r, p1, p2, rfl, rfl, h3, h4⟩ := h
    simp [Trs.len h4]
/-- one of many -/
theorem Trs.split : ∀ {ds : List D} {vs : List V} {ps : List Addr} {k : Nat} {d : D}, Trs C B H ds vs ps → ds[k]? = some d → ∃ v p1 pk p2, vs[k]? = some v ∧ ps = p1 ++ (pk ++ p2) ∧ Tr C B H d v pk ∧
    ∀ {B' H' : Hp} {d' : D} {v' : V} {pk' : List Addr}, Same B B' → (∀ p, p ∈ p1 ∨ p ∈ p2 → ∀ o, H p = some o → H' p = some o) → Tr C B' H' d' v' pk' → Trs C B' H' (ds.set k d') (vs.set k v') (p1 ++ (pk' ++ p2))
  | [], _, _, _, _, _, e => by simp at e
  | d0 :: ds, vs, ps, 0, d, h, e => by
    rw [trs_cons] at h
    obtain ⟨v, r, p1, p2, rfl, rfl, h3, h4⟩ := h
    simp only [List.getElem?_cons_zero, Option.some.injEq] at e
    subst e
    refine ⟨v, [], p1, p2, rfl, rfl, h3, fun {B' H' d' v' pk'} eb k t => ?_⟩
    simp only [List.set_cons_zero, List.nil_append]
    rw [trs_cons]
    exact ⟨_, _, _, _, rfl, rfl, t, h4.keep eb fun p hp => k p (.inr hp)⟩
  | d0 :: ds, vs, ps, k + 1, d, h, e => by
    rw [trs_cons] at h
    obtain ⟨v, r, p1, p2, rfl, rfl, h3, h4⟩ := h
    simp only [List.getElem?_cons_succ] at e
    obtain ⟨w, q1, qk, q2, e1, rfl, t1, up⟩ := Trs.split (k := k) h4 e
    refine ⟨w, p1 ++ q1, qk, q2, by simpa using e1, by simp, t1, fun {B' H' d' v' pk'} eb kk t => ?_⟩
    simp only [List.set_cons_succ]
    rw [trs_cons]
    refine ⟨_, _, p1, q1 ++ (pk' ++ q2), rfl, by simp, h3.keep eb fun p hp => kk p (.inl (by simp [hp])), up eb (fun p hp => kk p ?_) t⟩
    rcases hp with hp | hp
    · exact .inl (by simp [hp])
    · exact .inr hp
theorem Trs.app : ∀ {ds es : List D} {vs ws : List V} {ps qs : List Addr}, Trs C B H ds vs ps → Trs C B H es ws qs → Trs C B H (ds ++ es) (vs ++ ws) (ps ++ qs)
  | [], _, _, _, _, _, h, k => by
    rw [trs_nil] at h
    obtain ⟨rfl, rfl⟩ := h
    exact k
  | d :: ds, es, vs, ws, ps, qs, h, k => by
    rw [trs_cons] at h
    obtain ⟨v, r, p1, p2, rfl, rfl, h3, h4⟩ := h
    simp only [List.cons_append, List.append_assoc]
    rw [trs_cons]
    exact ⟨_, _, _, _, rfl, rfl, h3, Trs.app h4 k⟩
theorem Trs.one {d : D} {v : V} {ps : List Addr} (h : Tr C B H d v ps) : Trs C B H [d] [v] ps := by
  rw [trs_cons]
  exact ⟨v, [], ps, [], rfl, by simp, h, by rw [trs_nil]; exact ⟨rfl, rfl⟩⟩
theorem Trs.of_leaves : ∀ {ds : List D} {vs : List V}, (ds.all D.leaf) = true → Rps C B ds vs → Trs C B H ds vs []
  | [], _, _, h => by
    simp only [Rps] at h
    rw [trs_nil]
    exact ⟨h, rfl⟩
  | d :: ds, vs, e, h => by
    simp only [List.all_cons, Bool.and_eq_true] at e
    simp only [Rps] at h
    obtain ⟨v, r, rfl, h2, h3⟩ := h
    rw [trs_cons]
    exact ⟨v, r, [], [], rfl, rfl, by rw [tr_leaf e.1]; exact ⟨rfl, h2⟩, Trs.of_leaves e.2 h3⟩
end
/-! ### paths -/
def Nav (C : Cf) (H : Hp) : List Nat → D → V → D → V → Prop
  | [], d, w, d', v => d' = d ∧ v = w
  | k :: q, .ls ds, w, d', v => ∃ a xs u e, w = .ref a ∧ H a = some (.lst xs) ∧ ds[k]? = some e ∧ xs[k]? = some u ∧ Nav C H q e u d' v
  | k :: q, .ob c ds, w, d', v => ∃ a dx xs u e, w = .ref a ∧ H a = some (.ins (C.Cl c).1 dx ((C.Cl c).2.zip xs)) ∧ xs.length = (C.Cl c).2.length ∧ ds[k]? = some e ∧ xs[k]? = some u ∧ Nav C H q e u d' v
  | _ :: _, _, _, _, _ => False
def D.sub : D → List Nat → Option D
  | d, [] => some d
  | .ls ds, k :: q => match ds[k]? with
    | some e => D.sub e q
    | none => none
  | .ob _ ds, k :: q => match ds[k]? with
    | some e => D.sub e q
    | none => none
  | _, _ :: _ => none
termination_by structural _ q => q
def D.put : D → List Nat → D → D
  | _, [], x => x
  | .ls ds, k :: q, x => match ds[k]? with
    | some e => .ls (ds.set k (D.put e q x))
    | none => .ls ds
  | .ob c ds, k :: q, x => match ds[k]? with
    | some e => .ob c (ds.set k (D.put e q x))
    | none => .ob c ds
  | d, _ :: _, _ => d
termination_by structural _ q => q
section
variable {C : Cf} {B B' H H' : Hp}
theorem sub_nil {d : D} : d.sub [] = some d := by rw [D.sub]
theorem sub_ls {ds : List D} {k : Nat} {q : List Nat} : (D.ls ds).sub (k :: q) = match ds[k]? with | some e => D.sub e q | none => none := by rw [D.sub]
theorem sub_ob {c : Nat} {ds : List D} {k : Nat} {q : List Nat} : (D.ob c ds).sub (k :: q) = match ds[k]? with | some e => D.sub e q | none => none := by rw [D.sub]
theorem put_nil {d x : D} : d.put [] x = x := by rw [D.put]
theorem put_ls {ds : List D} {k : Nat} {q : List Nat} {e x : D} (h : ds[k]? = some e) : (D.ls ds).put (k :: q) x = .ls (ds.set k (e.put q x)) := by rw [D.put, h]
theorem put_ob {c : Nat} {ds : List D} {k : Nat} {q : List Nat} {e x : D} (h : ds[k]? = some e) : (D.ob c ds).put (k :: q) x = .ob c (ds.set k (e.put q x)) := by rw [D.put, h]
theorem Nav.mono (e : Same H H') : ∀ {q : List Nat} {d d' : D} {w v : V}, Nav C H q d w d' v → Nav C H' q d w d' v
  | [], _, _, _, _, h => by simpa only [Nav] using h
  | k :: q, .ls ds, d', w, v, h => by
    simp only [Nav] at h ⊢
    obtain ⟨a, xs, u, x, h1, h2, h3, h4, h5⟩ := h
    exact ⟨a, xs, u, x, h1, e _ _ h2, h3, h4, h5.mono e⟩
  | k :: q, .ob c ds, d', w, v, h => by
    simp only [Nav] at h ⊢
    obtain ⟨a, dx, xs, u, x, h1, h2, hl, h3, h4, h5⟩ := h
    exact ⟨a, dx, xs, u, x, h1, e _ _ h2, hl, h3, h4, h5.mono e⟩
  | _ :: _, .tp _, _, _, _, h => by simp only [Nav] at h
  | _ :: _, .dc _ _, _, _, _, h => by simp only [Nav] at h
  | _ :: _, .non, _, _, _, h => by simp only [Nav] at h
  | _ :: _, .bl _, _, _, _, h => by simp only [Nav] at h
  | _ :: _, .int _, _, _, _, h => by simp only [Nav] at h
  | _ :: _, .str _, _, _, _, h => by simp only [Nav] at h
theorem Nav.sub : ∀ {q : List Nat} {d d' : D} {w v : V}, Nav C H q d w d' v → d.sub q = some d'
  | [], _, _, _, _, h => by
    simp only [Nav] at h
    rw [sub_nil, h.1]
  | k :: q, .ls ds, d', w, v, h => by
    simp only [Nav] at h
    obtain ⟨a, xs, u, x, h1, h2, h3, h4, h5⟩ := h
    rw [sub_ls, h3]
    exact h5.sub
  | k :: q, .ob c ds, d', w, v, h => by
    simp only [Nav] at h
    obtain ⟨a, dx, xs, u, x, h1, h2, hl, h3, h4, h5⟩ := h
    rw [sub_ob, h3]
    exact h5.sub
  | _ :: _, .tp _, _, _, _, h => by simp only [Nav] at h
  | _ :: _, .dc _ _, _, _, _, h => by simp only [Nav] at h
  | _ :: _, .non, _, _, _, h => by simp only [Nav] at h
  | _ :: _, .bl _, _, _, _, h => by simp only [Nav] at h
  | _ :: _, .int _, _, _, _, h => by simp only [Nav] at h
  | _ :: _, .str _, _, _, _, h => by simp only [Nav] at h
theorem Nav.fn : ∀ {q : List Nat} {d d1 d2 : D} {w v1 v2 : V}, Nav C H q d w d1 v1 → Nav C H q d w d2 v2 → d1 = d2 ∧ v1 = v2
  | [], _, _, _, _, _, _, h, h' => by
    simp only [Nav] at h h'
    exact ⟨by rw [h.1, h'.1], by rw [h.2, h'.2]⟩
  | k :: q, .ls ds, _, _, w, _, _, h, h' => by
    simp only [Nav] at h h'
    obtain ⟨a, xs, u, x, rfl, h2, h3, h4, h5⟩ := h
    obtain ⟨a', xs', u', x', e1, e2, e3, e4, e5⟩ := h'
    cases e1
    rw [h2] at e2
    cases e2
    rw [h3] at e3
    cases e3
    rw [h4] at e4
    cases e4
    exact h5.fn e5
  | k :: q, .ob c ds, _, _, w, _, _, h, h' => by
    simp only [Nav] at h h'
    obtain ⟨a, dx, xs, u, x, rfl, h2, hl, h3, h4, h5⟩ := h
    obtain ⟨a', dx', xs', u', x', e1, e2, el, e3, e4, e5⟩ := h'
    cases e1
    rw [h2] at e2
    simp only [Option.some.injEq, HO.ins.injEq] at e2
    have ex : xs = xs' := by
      have := congrArg (List.map Prod.snd) e2.2.2
      rwa [List.map_snd_zip (by omega), List.map_snd_zip (by omega)] at this
    subst ex
    rw [h3] at e3
    cases e3
    rw [h4] at e4
    cases e4
    exact h5.fn e5
  | _ :: _, .tp _, _, _, _, _, _, h, _ => by simp only [Nav] at h
  | _ :: _, .dc _ _, _, _, _, _, _, h, _ => by simp only [Nav] at h
  | _ :: _, .non, _, _, _, _, _, h, _ => by simp only [Nav] at h
  | _ :: _, .bl _, _, _, _, _, _, h, _ => by simp only [Nav] at h
  | _ :: _, .int _, _, _, _, _, _, h, _ => by simp only [Nav] at h
  | _ :: _, .str _, _, _, _, _, _, h, _ => by simp only [Nav] at h
/-- a path of the data is a path of the tree -/
theorem Tr.nav : ∀ {q : List Nat} {d d' : D} {w : V} {ps : List Addr}, Tr C B H d w ps → d.sub q = some d' → ∃ v qs, Nav C H q d w d' v ∧ Tr C B H d' v qs ∧ ∀ p ∈ qs, p ∈ ps
  | [], d, d', w, ps, t, h => by
    rw [sub_nil] at h
    cases h
    exact ⟨w, ps, by unfold Nav; exact ⟨rfl, rfl⟩, t, fun _ h => h⟩
  | k :: q, .ls ds, d', w, ps, t, h => by
    rw [sub_ls] at h
    split at h
    · rename_i e e1
      rw [tr_ls] at t
      obtain ⟨a, xs, qs, rfl, h2, rfl, h4⟩ := t
      obtain ⟨u, p1, pk, p2, ek, rfl, tk, _⟩ := h4.split e1
      obtain ⟨v, rs, n, t', sb⟩ := Tr.nav tk h
      refine ⟨v, rs, ?_, t', fun p hp => by simp [sb p hp]⟩
      simp only [Nav]
      exact ⟨a, xs, u, e, rfl, h2, e1, ek, n⟩
    · cases h
  | k :: q, .ob c ds, d', w, ps, t, h => by
    rw [sub_ob] at h
    split at h
    · rename_i e e1
      rw [tr_ob] at t
      obtain ⟨a, dx, xs, qs, rfl, h2, hl, rfl, h4⟩ := t
      obtain ⟨u, p1, pk, p2, ek, rfl, tk, _⟩ := h4.split e1
      obtain ⟨v, rs, n, t', sb⟩ := Tr.nav tk h
      refine ⟨v, rs, ?_, t', fun p hp => by simp [sb p hp]⟩
      simp only [Nav]
      exact ⟨a, dx, xs, u, e, rfl, h2, hl, e1, ek, n⟩
    · cases h
  | _ :: _, .tp _, _, _, _, _, h => by rw [D.sub] at h; cases h; all_goals (intros; simp_all)
  | _ :: _, .dc _ _, _, _, _, _, h => by rw [D.sub] at h; cases h; all_goals (intros; simp_all)
  | _ :: _, .non, _, _, _, _, h => by rw [D.sub] at h; cases h; all_goals (intros; simp_all)
  | _ :: _, .bl _, _, _, _, _, h => by rw [D.sub] at h; cases h; all_goals (intros; simp_all)
  | _ :: _, .int _, _, _, _, _, h => by rw [D.sub] at h; cases h; all_goals (intros; simp_all)
  | _ :: _, .str _, _, _, _, _, h => by rw [D.sub] at h; cases h; all_goals (intros; simp_all)
/-- a path stays while the tree's cells stay -/
theorem Nav.keep : ∀ {q : List Nat} {d d' : D} {w v : V} {ps : List Addr}, Tr C B H d w ps → (∀ p ∈ ps, ∀ o, H p = some o → H' p = some o) → Nav C H q d w d' v → Nav C H' q d w d' v
  | [], _, _, _, _, _, _, _, h => by simpa only [Nav] using h
  | k :: q, .ls ds, d', w, v, ps, t, kp, h => by
    simp only [Nav] at h ⊢
    obtain ⟨a, xs, u, x, rfl, h2, h3, h4, h5⟩ := h
    rw [tr_ls] at t
    obtain ⟨a', xs', qs, e1, e2, rfl, t4⟩ := t
    cases e1
    rw [h2] at e2
    cases e2
    obtain ⟨u', p1, pk, p2, ek, rfl, tk, _⟩ := t4.split h3
    rw [h4] at ek
    cases ek
    exact ⟨a, xs, u, x, rfl, kp a (by simp) _ h2, h3, h4, h5.keep tk fun p hp => kp p (by simp [hp])⟩
  | k :: q, .ob c ds, d', w, v, ps, t, kp, h => by
    simp only [Nav] at h ⊢
    obtain ⟨a, dx, xs, u, x, rfl, h2, hl, h3, h4, h5⟩ := h
    rw [tr_ob] at t
    obtain ⟨a', dx', xs', qs, e1, e2, el, rfl, t4⟩ := t
    cases e1
    rw [h2] at e2
    simp only [Option.some.injEq, HO.ins.injEq] at e2
    have ex : xs = xs' := by
      have := congrArg (List.map Prod.snd) e2.2.2
      rwa [List.map_snd_zip (by omega), List.map_snd_zip (by omega)] at this
    subst ex
    obtain ⟨u', p1, pk, p2, ek, rfl, tk, _⟩ := t4.split h3
    rw [h4] at ek
    cases ek
    exact ⟨a, dx, xs, u, x, rfl, kp a (by simp) _ h2, hl, h3, h4, h5.keep tk fun p hp => kp p (by simp [hp])⟩
  | _ :: _, .tp _, _, _, _, _, _, _, h => by simp only [Nav] at h
  | _ :: _, .dc _ _, _, _, _, _, _, _, h => by simp only [Nav] at h
  | _ :: _, .non, _, _, _, _, _, _, h => by simp only [Nav] at h
  | _ :: _, .bl _, _, _, _, _, _, _, h => by simp only [Nav] at h
  | _ :: _, .int _, _, _, _, _, _, _, h => by simp only [Nav] at h
  | _ :: _, .str _, _, _, _, _, _, _, h => by simp only [Nav] at h
end

/-! ### states -/
inductive Sl where
  | no | sh (d : D) (g : Bool) | ow (ds : List D) (g : Bool) | rg (d : D) | tr (d : D) | al (j : Nat) (q : List Nat)

/-- the slots that hold trees -/
structure TrOk (C : Cf) (H0 B H : Hp) (σ : St) (δ : List Sl) (φ : Nat → List Addr) : Prop where
  tr : ∀ (i : Nat) d, δ[i]? = some (.tr d) → ∃ v, σ[i]? = some (some v) ∧ Tr C B H d v (φ i)
  nd : ∀ (i : Nat) d, δ[i]? = some (.tr d) → (φ i).Nodup
  nw : ∀ (i : Nat) d p, δ[i]? = some (.tr d) → p ∈ φ i → H0 p = none ∧ B p = none ∧ (∃ o, H p = some o) ∧ ∀ (j : Nat) ds g, δ[j]? = some (.ow ds g) → σ[j]? ≠ some (some (.ref p))
  dj : ∀ (i j : Nat) d d' p, δ[i]? = some (.tr d) → δ[j]? = some (.tr d') → p ∈ φ i → p ∈ φ j → i = j

structure Stt (C : Cf) (B0 H0 B H : Hp) (σ : St) (δ : List Sl) : Prop where
  ex0 : Same H0 H
  exb : Same B0 B
  sub : Same B H
  new : ∀ p o, B p = some o → B0 p = some o ∨ H0 p = none
  len : σ.length = δ.length
  shr : ∀ (i : Nat) d g, δ[i]? = some (.sh d g) → ∃ v, σ[i]? = some (some v) ∧ Rp C (Rg B0 H0 B H true g) d v
  own : ∀ (i : Nat) ds g, δ[i]? = some (.ow ds g) → ∃ p vs, σ[i]? = some (some (.ref p)) ∧ H0 p = none ∧ B p = none ∧ H p = some (.lst vs) ∧ Rps C (Rg B0 H0 B H true g) ds vs
  dis : ∀ (i j : Nat) ds g ds' g' p, δ[i]? = some (.ow ds g) → δ[j]? = some (.ow ds' g') → σ[i]? = some (some (.ref p)) → σ[j]? = some (some (.ref p)) → i = j
  rgn : ∀ (i : Nat) d, δ[i]? = some (.rg d) → ∃ v, σ[i]? = some (some v) ∧ Rp C (Rsd B0 H0 H) d v
  tre : ∃ φ, TrOk C H0 B H σ δ φ
  ali : ∀ (i j : Nat) q, δ[i]? = some (.al j q) → ∃ v, σ[i]? = some (some v) ∧ ∀ d, δ[j]? = some (.tr d) → ∃ w d', σ[j]? = some (some w) ∧ Nav C H q d w d' v

section
variable {C : Cf} {B0 H0 B H : Hp} {σ : St} {δ : List Sl}
theorem Stt.b_rsd (S : Stt C B0 H0 B H σ δ) : Same B (Rsd B0 H0 H) := fun p o h => by
  unfold Rsd
  rcases S.new p o h with q | q
  · rw [q]; exact S.sub _ _ h
  · rw [q]; cases B0 p <;> exact S.sub _ _ h
theorem Stt.weak (S : Stt C B0 H0 B H σ δ) (f g f' g' : Bool) (hf : f' = true → f = true) (hg : g' = true → g = true) : Same (Rg B0 H0 B H f g) (Rg B0 H0 B H f' g') := by
  cases f' <;> cases g' <;> cases f <;> cases g <;> first
    | exact Same.refl _
    | exact bn_sub
    | exact S.b_rsd
    | exact bn_rsd
    | exact bn_mono S.sub
    | exact Same.trans bn_sub S.b_rsd
    | exact absurd (hf rfl) (by decide)
    | exact absurd (hg rfl) (by decide)
theorem Stt.weakL (S : Stt C B0 H0 B H σ δ) (f g f' g' : Bool) : Same (Rg B0 H0 B H f g) (Rg B0 H0 B H (f && f') (g && g')) :=
  S.weak f g _ _ (fun h => (Bool.and_eq_true_iff.mp h).1) (fun h => (Bool.and_eq_true_iff.mp h).1)
theorem Stt.weakR (S : Stt C B0 H0 B H σ δ) (f g f' g' : Bool) : Same (Rg B0 H0 B H f g) (Rg B0 H0 B H (f' && f) (g' && g)) :=
  S.weak f g _ _ (fun h => (Bool.and_eq_true_iff.mp h).2) (fun h => (Bool.and_eq_true_iff.mp h).2)
theorem Stt.toH (S : Stt C B0 H0 B H σ δ) (f g : Bool) : Same (Rg B0 H0 B H f g) H := by
  cases f <;> cases g
  · exact rsd_sub
  · exact bn_sub
  · exact S.sub
  · exact Same.trans bn_sub S.sub
/-- a new cell of the heap stands in what was not there at the start -/
theorem rsd_at {p : Addr} {o : HO} (h0 : H0 p = none) (h : H p = some o) : Rsd B0 H0 H p = some o := by
  unfold Rsd
  rw [h0]
  cases B0 p <;> exact h
theorem TrOk.grow {B' H' : Hp} {φ : Nat → List Addr} (T : TrOk C H0 B H σ δ φ) (eb : Same B B') (eh : Same H H') (new : ∀ p o, B' p = some o → B p = some o ∨ H p = none) : TrOk C H0 B' H' σ δ φ := by
  refine ⟨fun i d h => ?_, T.nd, fun i d p h hp => ?_, T.dj⟩
  · obtain ⟨v, e, t⟩ := T.tr i d h
    exact ⟨v, e, t.keep eb fun p _ o => eh p o⟩
  · obtain ⟨h0, hb, ⟨o, ho⟩, hw⟩ := T.nw i d p h hp
    refine ⟨h0, ?_, ⟨o, eh _ _ ho⟩, hw⟩
    cases q : B' p with
    | none => rfl
    | some o' =>
      rcases new p o' q with z | z
      · rw [hb] at z; cases z
      · rw [ho] at z; cases z
/-- the heap grows, the base may -/
theorem Stt.grow {B' H' : Hp} (S : Stt C B0 H0 B H σ δ) (eb : Same B B') (eh : Same H H') (sub : Same B' H') (new : ∀ p o, B' p = some o → B p = some o ∨ H p = none) : Stt C B0 H0 B' H' σ δ := by
  have nn : ∀ p, H p = none → H0 p = none := fun p h => S.ex0.free h
  refine ⟨S.ex0.trans eh, S.exb.trans eb, sub, fun p o h => ?_, S.len, fun i d g h => ?_, fun i ds g h => ?_, S.dis, fun i d h => ?_, ?_, fun i j q h => ?_⟩
  · rcases new p o h with q | q
    · exact S.new p o q
    · exact .inr (nn p q)
  · obtain ⟨v, e, r⟩ := S.shr i d g h
    exact ⟨v, e, r.mono (rg_mono eb eh _ _)⟩
  · obtain ⟨p, vs, e, h0, hb, hh, r⟩ := S.own i ds g h
    refine ⟨p, vs, e, h0, ?_, eh _ _ hh, r.mono (rg_mono eb eh _ _)⟩
    cases q : B' p with
    | none => rfl
    | some o =>
      rcases new p o q with z | z
      · rw [hb] at z; cases z
      · rw [hh] at z; cases z
  · obtain ⟨v, e, r⟩ := S.rgn i d h
    exact ⟨v, e, r.mono (rsd_mono eh)⟩
  · obtain ⟨φ, T⟩ := S.tre
    exact ⟨φ, T.grow eb eh new⟩
  · obtain ⟨v, e, a⟩ := S.ali i j q h
    refine ⟨v, e, fun d hd => ?_⟩
    obtain ⟨w, d', ew, n⟩ := a d hd
    exact ⟨w, d', ew, n.mono eh⟩
theorem same_upd {H : Hp} {p : Addr} {o : HO} (h : H p = none) : Same H (upd H p o) := fun b x e => by
  rw [upd_ne (ne_of_none e h)]
  exact e
/-- a new cell, not of the base -/
theorem Stt.cell {p : Addr} {o : HO} (S : Stt C B0 H0 B H σ δ) (hp : H p = none) : Stt C B0 H0 B (upd H p o) σ δ :=
  S.grow (Same.refl _) (same_upd hp) (S.sub.trans (same_upd hp)) (fun _ _ h => .inl h)
/-- a new cell, of the base -/
theorem Stt.base {p : Addr} {o : HO} (S : Stt C B0 H0 B H σ δ) (hp : H p = none) : Stt C B0 H0 (upd B p o) (upd H p o) σ δ := by
  have hb : B p = none := S.sub.free hp
  refine S.grow (same_upd hb) (same_upd hp) (fun q x h => ?_) (fun q x h => ?_)
  · by_cases e : q = p
    · subst e; rw [upd_same] at h ⊢; exact h
    · rw [upd_ne e] at h ⊢; exact S.sub _ _ h
  · by_cases e : q = p
    · subst e; exact .inr hp
    · rw [upd_ne e] at h; exact .inl h
/-- a cell that stands in the heap comes to the base -/
theorem Stt.alloc {p : Addr} {o : HO} (S : Stt C B0 H0 B H σ δ) (hp : H p = none) (f g : Bool) : ∃ B', Same B B' ∧ Stt C B0 H0 B' (upd H p o) σ δ ∧ (Rg B0 H0 B' (upd H p o) f g) p = some o := by
  have h0 : H0 p = none := S.ex0.free hp
  cases f with
  | true =>
    refine ⟨upd B p o, same_upd (S.sub.free hp), S.base hp, ?_⟩
    cases g
    · exact upd_same
    · show (match H0 p with | none => (upd B p o) p | some _ => none) = some o
      rw [h0]; exact upd_same
  | false =>
    refine ⟨B, Same.refl _, S.cell hp, ?_⟩
    cases g
    · show (match B0 p, H0 p with | none, some _ => none | _, _ => (upd H p o) p) = some o
      rw [h0]; cases B0 p <;> exact upd_same
    · show (match H0 p with | none => (upd H p o) p | some _ => none) = some o
      rw [h0]; exact upd_same
end
end G

namespace G
open PySem L2

/-! ### growing -/
structure Gro (B H B' H' : Hp) : Prop where
  eb : Same B B'
  eh : Same H H'
  nw : ∀ p o, B' p = some o → B p = some o ∨ H p = none
theorem Gro.refl (B H : Hp) : Gro B H B H := ⟨Same.refl _, Same.refl _, fun _ _ h => .inl h⟩
theorem Gro.trans {B H B' H' B2 H2 : Hp} (a : Gro B H B' H') (b : Gro B' H' B2 H2) : Gro B H B2 H2 :=
  ⟨a.eb.trans b.eb, a.eh.trans b.eh, fun p o h => by
    rcases b.nw p o h with q | q
    · exact a.nw p o q
    · exact .inr (a.eh.free q)⟩
section
variable {C : Cf} {B0 H0 B H B' H' : Hp} {σ σ' : St} {δ δ' : List Sl}
theorem Stt.by (S : Stt C B0 H0 B H σ δ) (G : Gro B H B' H') (S' : Stt C B0 H0 B' H' σ' δ') : Stt C B0 H0 B' H' σ δ := S.grow G.eb G.eh S'.sub G.nw
theorem Gro.rg (G : Gro B H B' H') (f g : Bool) : Same (Rg B0 H0 B H f g) (Rg B0 H0 B' H' f g) := rg_mono G.eb G.eh f g
theorem Stt.alloc2 {p : Addr} {o : HO} (S : Stt C B0 H0 B H σ δ) (hp : H p = none) (f g : Bool) : ∃ B', Gro B H B' (upd H p o) ∧ Stt C B0 H0 B' (upd H p o) σ δ ∧ (Rg B0 H0 B' (upd H p o) f g) p = some o := by
  have h0 : H0 p = none := S.ex0.free hp
  cases f with
  | true =>
    refine ⟨upd B p o, ⟨same_upd (S.sub.free hp), same_upd hp, fun q x h => ?_⟩, S.base hp, ?_⟩
    · by_cases e : q = p
      · subst e; exact .inr hp
      · rw [upd_ne e] at h; exact .inl h
    cases g
    · exact upd_same
    · show (match H0 p with | none => (upd B p o) p | some _ => none) = some o
      rw [h0]; exact upd_same
  | false =>
    refine ⟨B, ⟨Same.refl _, same_upd hp, fun _ _ h => .inl h⟩, S.cell hp, ?_⟩
    cases g
    · show (match B0 p, H0 p with | none, some _ => none | _, _ => (upd H p o) p) = some o
      rw [h0]; cases B0 p <;> exact upd_same
    · show (match H0 p with | none => (upd H p o) p | some _ => none) = some o
      rw [h0]; exact upd_same
theorem rg_true (f : Bool) : ∀ {B0 H0 B H H' : Hp}, Rg B0 H0 B H true f = Rg B0 H0 B H' true f := by
  cases f <;> intros <;> rfl
theorem get_set {α : Type} {l : List α} {i j : Nat} {x y : α} (h : (l.set j x)[i]? = some y) : (i = j ∧ y = x ∧ j < l.length) ∨ (i ≠ j ∧ l[i]? = some y) := by
  rw [List.getElem?_set] at h
  by_cases e : j = i
  · rw [if_pos e] at h
    split at h
    · exact .inl ⟨e.symm, (Option.some.inj h).symm, by assumption⟩
    · cases h
  · rw [if_neg e] at h
    exact .inr ⟨fun z => e z.symm, h⟩
theorem set_get {α : Type} {l : List α} {j : Nat} {x : α} (h : j < l.length) : (l.set j x)[j]? = some x := List.getElem?_set_self h
theorem set_ne {α : Type} {l : List α} {i j : Nat} {x : α} (h : i ≠ j) : (l.set j x)[i]? = l[i]? := List.getElem?_set_ne (Ne.symm h)
/-- a slot is stored that is no tree and no name of one -/
theorem Stt.tre_set {j : Nat} {s : Sl} {x : Option V} (S : Stt C B0 H0 B H σ δ) (hs : ∀ d, s ≠ .tr d) (ho : ∀ ds g, s ≠ .ow ds g) : ∃ φ, TrOk C H0 B H (σ.set j x) (δ.set j s) φ := by
  obtain ⟨φ, T⟩ := S.tre
  have back : ∀ {i : Nat} {d : D}, (δ.set j s)[i]? = some (.tr d) → i ≠ j ∧ δ[i]? = some (.tr d) := fun {i d} h => by
    rcases get_set h with ⟨_, e, _⟩ | ⟨ne, h⟩
    · exact absurd e.symm (hs d)
    · exact ⟨ne, h⟩
  refine ⟨φ, fun i d h => ?_, fun i d h => T.nd i d (back h).2, fun i d p h hp => ?_, fun i k d d' p h1 h2 => T.dj i k d d' p (back h1).2 (back h2).2⟩
  · obtain ⟨ne, h⟩ := back h
    rw [set_ne ne]
    exact T.tr i d h
  · obtain ⟨ne, h⟩ := back h
    obtain ⟨h0, hb, hh, hw⟩ := T.nw i d p h hp
    refine ⟨h0, hb, hh, fun k ds g hk => ?_⟩
    rcases get_set hk with ⟨_, e, _⟩ | ⟨nk, hk⟩
    · exact absurd e.symm (ho ds g)
    · rw [set_ne nk]
      exact hw k ds g hk
theorem Stt.ali_set {j : Nat} {s : Sl} {x : Option V} (S : Stt C B0 H0 B H σ δ) (hs : ∀ d, s ≠ .tr d) (ha : ∀ k q, s ≠ .al k q) (i k : Nat) (q : List Nat) (h : (δ.set j s)[i]? = some (.al k q)) : ∃ v, (σ.set j x)[i]? = some (some v) ∧ ∀ d, (δ.set j s)[k]? = some (.tr d) → ∃ w d', (σ.set j x)[k]? = some (some w) ∧ Nav C H q d w d' v := by
  rcases get_set h with ⟨_, e, _⟩ | ⟨ne, h⟩
  · exact absurd e.symm (ha k q)
  · obtain ⟨v, e, a⟩ := S.ali i k q h
    rw [set_ne ne]
    refine ⟨v, e, fun d hd => ?_⟩
    rcases get_set hd with ⟨_, e, _⟩ | ⟨nk, hd⟩
    · exact absurd e.symm (hs d)
    · rw [set_ne nk]
      exact a d hd
theorem Stt.rgn_set {j : Nat} {s : Sl} {x : Option V} (S : Stt C B0 H0 B H σ δ) (hs : ∀ d, s ≠ .rg d) (i : Nat) (d : D) (h : (δ.set j s)[i]? = some (.rg d)) : ∃ v, (σ.set j x)[i]? = some (some v) ∧ Rp C (Rsd B0 H0 H) d v := by
  rcases get_set h with ⟨_, e, _⟩ | ⟨ne, h⟩
  · exact absurd e.symm (hs d)
  · rw [set_ne ne]
    exact S.rgn i d h
theorem Stt.shr_set {j : Nat} {s : Sl} {x : Option V} (S : Stt C B0 H0 B H σ δ) (hs : ∀ d g, s ≠ .sh d g) (i : Nat) (d : D) (g : Bool) (h : (δ.set j s)[i]? = some (.sh d g)) : ∃ v, (σ.set j x)[i]? = some (some v) ∧ Rp C (Rg B0 H0 B H true g) d v := by
  rcases get_set h with ⟨_, e, _⟩ | ⟨ne, h⟩
  · exact absurd e.symm (hs d g)
  · rw [set_ne ne]
    exact S.shr i d g h
theorem Stt.own_set {j : Nat} {s : Sl} {x : Option V} (S : Stt C B0 H0 B H σ δ) (hs : ∀ d g, s ≠ .ow d g) (i : Nat) (ds : List D) (g : Bool) (h : (δ.set j s)[i]? = some (.ow ds g)) : ∃ p vs, (σ.set j x)[i]? = some (some (.ref p)) ∧ H0 p = none ∧ B p = none ∧ H p = some (.lst vs) ∧ Rps C (Rg B0 H0 B H true g) ds vs := by
  rcases get_set h with ⟨_, e, _⟩ | ⟨ne, h⟩
  · exact absurd e.symm (hs ds g)
  · rw [set_ne ne]
    exact S.own i ds g h
theorem Stt.dis_set {j : Nat} {s : Sl} {x : Option V} (S : Stt C B0 H0 B H σ δ) (hs : ∀ d g, s ≠ .ow d g) (i k : Nat) (ds : List D) (g : Bool) (ds' : List D) (g' : Bool) (p : Addr) (h1 : (δ.set j s)[i]? = some (.ow ds g)) (h2 : (δ.set j s)[k]? = some (.ow ds' g')) (h3 : (σ.set j x)[i]? = some (some (.ref p))) (h4 : (σ.set j x)[k]? = some (some (.ref p))) : i = k := by
  rcases get_set h1 with ⟨_, e, _⟩ | ⟨n1, h1⟩
  · exact absurd e.symm (hs ds g)
  · rcases get_set h2 with ⟨_, e, _⟩ | ⟨n2, h2⟩
    · exact absurd e.symm (hs ds' g')
    · rw [set_ne n1] at h3
      rw [set_ne n2] at h4
      exact S.dis i k _ _ _ _ p h1 h2 h3 h4
/-- a slot is stored -/
theorem Stt.setSh {j : Nat} {d : D} {g : Bool} {v : V} (S : Stt C B0 H0 B H σ δ) (r : Rp C (Rg B0 H0 B H true g) d v) : Stt C B0 H0 B H (σ.set j (some v)) (δ.set j (.sh d g)) := by
  refine ⟨S.ex0, S.exb, S.sub, S.new, by simp [S.len], fun i d' g' h => ?_, S.own_set fun _ _ => Sl.noConfusion, S.dis_set fun _ _ => Sl.noConfusion, S.rgn_set fun _ => Sl.noConfusion, S.tre_set (fun _ => Sl.noConfusion) (fun _ _ => Sl.noConfusion), S.ali_set (fun _ => Sl.noConfusion) (fun _ _ => Sl.noConfusion)⟩
  rcases get_set h with ⟨rfl, e, hl⟩ | ⟨ne, h⟩
  · cases e
    exact ⟨v, set_get (by rw [S.len]; exact hl), r⟩
  · rw [set_ne ne]; exact S.shr i d' g' h
theorem Stt.setRg {j : Nat} {d : D} {v : V} (S : Stt C B0 H0 B H σ δ) (r : Rp C (Rsd B0 H0 H) d v) : Stt C B0 H0 B H (σ.set j (some v)) (δ.set j (.rg d)) := by
  refine ⟨S.ex0, S.exb, S.sub, S.new, by simp [S.len], S.shr_set fun _ _ => Sl.noConfusion, S.own_set fun _ _ => Sl.noConfusion, S.dis_set fun _ _ => Sl.noConfusion, fun i d' h => ?_, S.tre_set (fun _ => Sl.noConfusion) (fun _ _ => Sl.noConfusion), S.ali_set (fun _ => Sl.noConfusion) (fun _ _ => Sl.noConfusion)⟩
  rcases get_set h with ⟨rfl, e, hl⟩ | ⟨ne, h⟩
  · cases e
    exact ⟨v, set_get (by rw [S.len]; exact hl), r⟩
  · rw [set_ne ne]; exact S.rgn i d' h
theorem Stt.setNo {j : Nat} {x : Option V} (S : Stt C B0 H0 B H σ δ) : Stt C B0 H0 B H (σ.set j x) (δ.set j .no) :=
  ⟨S.ex0, S.exb, S.sub, S.new, by simp [S.len], S.shr_set fun _ _ => Sl.noConfusion, S.own_set fun _ _ => Sl.noConfusion, S.dis_set fun _ _ => Sl.noConfusion, S.rgn_set fun _ => Sl.noConfusion, S.tre_set (fun _ => Sl.noConfusion) (fun _ _ => Sl.noConfusion), S.ali_set (fun _ => Sl.noConfusion) (fun _ _ => Sl.noConfusion)⟩
theorem Stt.setAl {i j : Nat} {q : List Nat} {v : V} (S : Stt C B0 H0 B H σ δ) (n : i ≠ j) (a : ∀ d, δ[j]? = some (.tr d) → ∃ w d', σ[j]? = some (some w) ∧ Nav C H q d w d' v) : Stt C B0 H0 B H (σ.set i (some v)) (δ.set i (.al j q)) := by
  refine ⟨S.ex0, S.exb, S.sub, S.new, by simp [S.len], S.shr_set fun _ _ => Sl.noConfusion, S.own_set fun _ _ => Sl.noConfusion, S.dis_set fun _ _ => Sl.noConfusion, S.rgn_set fun _ => Sl.noConfusion, S.tre_set (fun _ => Sl.noConfusion) (fun _ _ => Sl.noConfusion), fun i' k q' h => ?_⟩
  rcases get_set h with ⟨rfl, e, hl⟩ | ⟨ne, h⟩
  · cases e
    refine ⟨v, set_get (by rw [S.len]; exact hl), fun d hd => ?_⟩
    rw [set_ne (Ne.symm n)] at hd ⊢
    exact a d hd
  · obtain ⟨u, e, b⟩ := S.ali i' k q' h
    rw [set_ne ne]
    refine ⟨u, e, fun d hd => ?_⟩
    rcases get_set hd with ⟨_, e, _⟩ | ⟨nk, hd⟩
    · cases e
    · rw [set_ne nk]
      exact b d hd
theorem Stt.setOw {j : Nat} {ds : List D} {g : Bool} {p : Addr} {vs : List V} (S : Stt C B0 H0 B H σ δ) (h0 : H0 p = none) (hb : B p = none) (hp : H p = some (.lst vs)) (r : Rps C (Rg B0 H0 B H true g) ds vs)
    (no : ∀ (i : Nat) ds g, δ[i]? = some (.ow ds g) → i ≠ j → σ[i]? ≠ some (some (.ref p)))
    (nt : ∃ φ, TrOk C H0 B H σ δ φ ∧ ∀ (i : Nat) d, δ[i]? = some (.tr d) → p ∉ φ i) : Stt C B0 H0 B H (σ.set j (some (.ref p))) (δ.set j (.ow ds g)) := by
  refine ⟨S.ex0, S.exb, S.sub, S.new, by simp [S.len], S.shr_set fun _ _ => Sl.noConfusion, fun i ds' g' h => ?_, fun i k ds1 g1 ds2 g2 q h1 h2 h3 h4 => ?_, S.rgn_set fun _ => Sl.noConfusion, ?_, S.ali_set (fun _ => Sl.noConfusion) (fun _ _ => Sl.noConfusion)⟩
  · rcases get_set h with ⟨rfl, e, hl⟩ | ⟨ne, h⟩
    · cases e
      exact ⟨p, vs, set_get (by rw [S.len]; exact hl), h0, hb, hp, r⟩
    · rw [set_ne ne]; exact S.own i ds' g' h
  · rcases get_set h1 with ⟨e1, _, hl⟩ | ⟨n1, k1⟩
    · rw [e1, set_get (by rw [S.len]; exact hl)] at h3
      cases h3
      rcases get_set h2 with ⟨e2, _, _⟩ | ⟨n2, k2⟩
      · rw [e1, e2]
      · rw [set_ne n2] at h4
        exact absurd h4 (no k _ _ k2 n2)
    · rw [set_ne n1] at h3
      rcases get_set h2 with ⟨e2, _, hl⟩ | ⟨n2, k2⟩
      · rw [e2, set_get (by rw [S.len]; exact hl)] at h4
        cases h4
        exact absurd h3 (no i _ _ k1 n1)
      · rw [set_ne n2] at h4
        exact S.dis i k _ _ _ _ q k1 k2 h3 h4
  · obtain ⟨φ, T, np⟩ := nt
    have back : ∀ {i : Nat} {d : D}, (δ.set j (.ow ds g))[i]? = some (.tr d) → i ≠ j ∧ δ[i]? = some (.tr d) := fun {i d} h => by
      rcases get_set h with ⟨_, e, _⟩ | ⟨ne, h⟩
      · cases e
      · exact ⟨ne, h⟩
    refine ⟨φ, fun i d h => ?_, fun i d h => T.nd i d (back h).2, fun i d q h hp => ?_, fun i k d d' p h1 h2 => T.dj i k d d' p (back h1).2 (back h2).2⟩
    · obtain ⟨ne, h⟩ := back h
      rw [set_ne ne]
      exact T.tr i d h
    · obtain ⟨ne, h⟩ := back h
      obtain ⟨q0, qb, hh, hw⟩ := T.nw i d q h hp
      refine ⟨q0, qb, hh, fun k ds g hk => ?_⟩
      rcases get_set hk with ⟨e1, _, hl⟩ | ⟨nk, hk⟩
      · rw [e1, set_get (by rw [S.len]; exact hl)]
        intro z
        cases z
        exact np i d h hp
      · rw [set_ne nk]
        exact hw k ds g hk
theorem ne_mem {l : List Addr} {p q : Addr} (hp : p ∉ l) (hq : q ∈ l) : q ≠ p := fun z => hp (z ▸ hq)
def NoRg (δ : List Sl) : Prop := ∀ (i : Nat) d, δ[i]? ≠ some (.rg d)
theorem NoRg.set {δ : List Sl} {j : Nat} {s : Sl} (h : NoRg δ) (hs : ∀ d, s ≠ .rg d) : NoRg (δ.set j s) := fun i d e => by
  rcases get_set e with ⟨_, e, _⟩ | ⟨_, e⟩
  · exact hs d e.symm
  · exact h i d e
def noRg : Sl → Sl
  | .rg _ => .no
  | s => s
theorem noRg_get {δ : List Sl} {i : Nat} {s : Sl} (h : (δ.map noRg)[i]? = some s) (n : s ≠ .no) : δ[i]? = some s ∧ ∀ d, s ≠ .rg d := by
  rw [List.getElem?_map] at h
  cases e : δ[i]? with
  | none => rw [e] at h; cases h
  | some t =>
    rw [e] at h
    simp only [Option.map_some, Option.some.injEq] at h
    cases t with
    | rg d => exact absurd h.symm n
    | no => exact absurd h.symm n
    | sh d g => subst h; exact ⟨rfl, fun d => Sl.noConfusion⟩
    | ow d g => subst h; exact ⟨rfl, fun d => Sl.noConfusion⟩
    | tr d => subst h; exact ⟨rfl, fun d => Sl.noConfusion⟩
    | al k q => subst h; exact ⟨rfl, fun d => Sl.noConfusion⟩
theorem noRg_map (δ : List Sl) : NoRg (δ.map noRg) := fun i d h => absurd rfl ((noRg_get h Sl.noConfusion).2 d)
theorem map_noRg {δ : List Sl} (h : NoRg δ) : δ.map noRg = δ := by
  apply List.ext_getElem?
  intro i
  rw [List.getElem?_map]
  cases e : δ[i]? with
  | none => rfl
  | some s =>
    cases s with
    | rg d => exact absurd e (h i d)
    | _ => rfl
/-- what is read for now alone is given up -/
theorem Stt.dropRg (S : Stt C B0 H0 B H σ δ) : Stt C B0 H0 B H σ (δ.map noRg) := by
  obtain ⟨φ, T⟩ := S.tre
  refine ⟨S.ex0, S.exb, S.sub, S.new, by simp [S.len], fun i d g h => S.shr i d g (noRg_get h Sl.noConfusion).1, fun i ds g h => S.own i ds g (noRg_get h Sl.noConfusion).1, fun i k ds g1 ds' g2 q h1 h2 => S.dis i k _ _ _ _ q (noRg_get h1 Sl.noConfusion).1 (noRg_get h2 Sl.noConfusion).1, fun i d h => absurd h (noRg_map δ i d),
    ⟨φ, fun i d h => T.tr i d (noRg_get h Sl.noConfusion).1, fun i d h => T.nd i d (noRg_get h Sl.noConfusion).1, fun i d p h hp => ?_, fun i j d d' p h1 h2 => T.dj i j d d' p (noRg_get h1 Sl.noConfusion).1 (noRg_get h2 Sl.noConfusion).1⟩, fun i j q h => ?_⟩
  · obtain ⟨a, b, c, w⟩ := T.nw i d p (noRg_get h Sl.noConfusion).1 hp
    exact ⟨a, b, c, fun j ds g hj => w j ds g (noRg_get hj Sl.noConfusion).1⟩
  · obtain ⟨v, e, a⟩ := S.ali i j q (noRg_get h Sl.noConfusion).1
    exact ⟨v, e, fun d hd => a d (noRg_get hd Sl.noConfusion).1⟩
/-- a cell changes that is neither of the base nor of an owned list nor of a tree -/
theorem Stt.spoil {p : Addr} {o : HO} (S : Stt C B0 H0 B H σ δ) (nr : NoRg δ) (h0 : H0 p = none) (hb : B p = none) (no : ∀ (i : Nat) ds g, δ[i]? = some (.ow ds g) → σ[i]? ≠ some (some (.ref p)))
    (nt : ∃ φ, TrOk C H0 B H σ δ φ ∧ ∀ (i : Nat) d, δ[i]? = some (.tr d) → p ∉ φ i) : Stt C B0 H0 B (upd H p o) σ δ := by
  obtain ⟨φ, T, np⟩ := nt
  refine ⟨fun q x h => ?_, S.exb, fun q x h => ?_, S.new, S.len, fun i d g h => ?_, fun i ds g h1 => ?_, S.dis, fun i d h => absurd h (nr i d), ⟨φ, fun i d h => ?_, T.nd, fun i d q h hq => ?_, T.dj⟩, fun i j q h => ?_⟩
  · rw [upd_ne (ne_of_none h h0)]; exact S.ex0 _ _ h
  · rw [upd_ne (ne_of_none h hb)]; exact S.sub _ _ h
  · obtain ⟨v, e, r⟩ := S.shr i d g h
    exact ⟨v, e, by rw [rg_true g (H' := H)]; exact r⟩
  · obtain ⟨q, vs, e, q0, qb, qh, r⟩ := S.own i ds g h1
    have ne : q ≠ p := fun z => by subst z; exact no i ds g h1 e
    exact ⟨q, vs, e, q0, qb, by rw [upd_ne ne]; exact qh, by rw [rg_true g (H' := H)]; exact r⟩
  · obtain ⟨v, e, t⟩ := T.tr i d h
    refine ⟨v, e, t.keep (Same.refl _) fun q hq x hx => ?_⟩
    rw [upd_ne (ne_mem (np i d h) hq)]
    exact hx
  · obtain ⟨q0, qb, ⟨x, hx⟩, hw⟩ := T.nw i d q h hq
    exact ⟨q0, qb, ⟨x, by rw [upd_ne (ne_mem (np i d h) hq)]; exact hx⟩, hw⟩
  · obtain ⟨v, e, a⟩ := S.ali i j q h
    refine ⟨v, e, fun d hd => ?_⟩
    obtain ⟨w, d', ew, n⟩ := a d hd
    obtain ⟨w', ew', t⟩ := T.tr j d hd
    rw [ew] at ew'
    cases ew'
    exact ⟨w, d', ew, n.keep t fun q hq x hx => by rw [upd_ne (ne_mem (np j d hd) hq)]; exact hx⟩
/-- an owned list changes in place -/
theorem Stt.upOw {j : Nat} {ds ds' : List D} {g g' : Bool} {p : Addr} {vs' : List V} (S : Stt C B0 H0 B H σ δ) (nr : NoRg δ) (h : δ[j]? = some (.ow ds g)) (hv : σ[j]? = some (some (.ref p))) (r : Rps C (Rg B0 H0 B H true g') ds' vs') :
    Stt C B0 H0 B (upd H p (.lst vs')) σ (δ.set j (.ow ds' g')) := by
  obtain ⟨q, vs, e, h0, hb, hp, _⟩ := S.own j ds g h
  rw [hv] at e
  cases e
  have es : σ.set j (some (V.ref p)) = σ := by
    apply List.ext_getElem?
    intro i
    rw [List.getElem?_set]
    by_cases z : j = i
    · subst z
      rw [if_pos rfl, if_pos (List.getElem?_eq_some_iff.mp hv).1, hv]
    · rw [if_neg z]
  have S1 : Stt C B0 H0 B H σ (δ.set j .no) := by
    have := S.setNo (j := j) (x := some (.ref p))
    rwa [es] at this
  obtain ⟨φ, T⟩ := S.tre
  have back : ∀ {i : Nat} {d : D}, (δ.set j .no)[i]? = some (.tr d) → δ[i]? = some (.tr d) := fun {i d} h => by
    rcases get_set h with ⟨_, e, _⟩ | ⟨_, h⟩
    · cases e
    · exact h
  have backo : ∀ {i : Nat} {ds : List D} {g : Bool}, (δ.set j .no)[i]? = some (.ow ds g) → i ≠ j ∧ δ[i]? = some (.ow ds g) := fun {i ds g} h => by
    rcases get_set h with ⟨_, e, _⟩ | ⟨n, h⟩
    · cases e
    · exact ⟨n, h⟩
  have T1 : TrOk C H0 B H σ (δ.set j .no) φ := ⟨fun i d h => T.tr i d (back h), fun i d h => T.nd i d (back h), fun i d q h hq => by
    obtain ⟨a, b, c, w⟩ := T.nw i d q (back h) hq
    exact ⟨a, b, c, fun k ds g hk => w k ds g (backo hk).2⟩, fun i k d d' q h1 h2 => T.dj i k d d' q (back h1) (back h2)⟩
  have np : ∀ (i : Nat) d, (δ.set j .no)[i]? = some (.tr d) → p ∉ φ i := fun i d hd hq => (T.nw i d p (back hd) hq).2.2.2 j ds g h hv
  have S2 : Stt C B0 H0 B (upd H p (.lst vs')) σ (δ.set j .no) := S1.spoil (nr.set fun _ => Sl.noConfusion) h0 hb (fun i ds1 g1 k z => (backo k).1 (S.dis i j _ _ _ _ p (backo k).2 h z hv)) ⟨φ, T1, np⟩
  obtain ⟨φ2, T2⟩ := S2.tre
  have S3 := S2.setOw (j := j) (ds := ds') (g := g') h0 hb upd_same (by rw [rg_true g' (H' := H)]; exact r) (fun i ds1 g1 k n z => n (S.dis i j _ _ _ _ p (backo k).2 h z hv)) ⟨φ, ⟨fun i d hd => by
      obtain ⟨v, e, t⟩ := T1.tr i d hd
      exact ⟨v, e, t.keep (Same.refl _) fun q hq x hx => by rw [upd_ne (ne_mem (np i d hd) hq)]; exact hx⟩, T1.nd, fun i d q hd hq => by
      obtain ⟨a, b, ⟨x, hx⟩, w⟩ := T1.nw i d q hd hq
      exact ⟨a, b, ⟨x, by rw [upd_ne (ne_mem (np i d hd) hq)]; exact hx⟩, w⟩, T1.dj⟩, np⟩
  rw [es, List.set_set] at S3
  exact S3
/-- a change of the base by cells that stand -/
theorem Stt.rebase {B' : Hp} (S : Stt C B0 H0 B H σ δ) (eb : Same B B') (sub : Same B' H) (new : ∀ p o, B' p = some o → B p = some o ∨ (H0 p = none ∧ (∀ (i : Nat) ds g, δ[i]? = some (.ow ds g) → σ[i]? ≠ some (some (.ref p)))))
    (nt : ∃ φ, TrOk C H0 B H σ δ φ ∧ ∀ (i : Nat) d p, δ[i]? = some (.tr d) → p ∈ φ i → B' p = none) : Stt C B0 H0 B' H σ δ := by
  obtain ⟨φ, T, np⟩ := nt
  refine ⟨S.ex0, S.exb.trans eb, sub, fun p o h => ?_, S.len, fun i d g h => ?_, fun i ds g h => ?_, S.dis, S.rgn, ⟨φ, fun i d h => ?_, T.nd, fun i d p h hp => ?_, T.dj⟩, S.ali⟩
  · rcases new p o h with z | z
    · exact S.new p o z
    · exact .inr z.1
  · obtain ⟨v, e, r⟩ := S.shr i d g h
    exact ⟨v, e, r.mono (rg_mono eb (Same.refl _) _ _)⟩
  · obtain ⟨p, vs, e, h0, hb, hh, r⟩ := S.own i ds g h
    refine ⟨p, vs, e, h0, ?_, hh, r.mono (rg_mono eb (Same.refl _) _ _)⟩
    cases z : B' p with
    | none => rfl
    | some o =>
      rcases new p o z with y | y
      · rw [hb] at y; cases y
      · exact absurd e (y.2 i ds g h)
  · obtain ⟨v, e, t⟩ := T.tr i d h
    exact ⟨v, e, t.keep eb fun _ _ _ k => k⟩
  · obtain ⟨a, b, c, w⟩ := T.nw i d p h hp
    exact ⟨a, np i d p h hp, c, w⟩
theorem set_same {α : Type} {l : List α} {j : Nat} {x : α} (h : l[j]? = some x) : l.set j x = l := by
  apply List.ext_getElem?
  intro i
  rw [List.getElem?_set]
  by_cases z : j = i
  · subst z
    rw [if_pos rfl, if_pos (List.getElem?_eq_some_iff.mp h).1, h]
  · rw [if_neg z]
/-- an owned list is given to all -/
theorem Stt.freeze {j : Nat} {ds : List D} {g : Bool} (S : Stt C B0 H0 B H σ δ) (h : δ[j]? = some (.ow ds g)) : ∃ B', Same B B' ∧ Stt C B0 H0 B' H σ (δ.set j (.sh (.ls ds) g)) := by
  obtain ⟨p, vs, e, h0, hb, hp, r⟩ := S.own j ds g h
  have S1 : Stt C B0 H0 B H σ (δ.set j .no) := by
    have := S.setNo (j := j) (x := some (.ref p))
    rwa [set_same e] at this
  obtain ⟨φ, T⟩ := S1.tre
  obtain ⟨φ', T'⟩ := S.tre
  have eb : Same B (upd B p (.lst vs)) := same_upd hb
  have backo : ∀ {i : Nat} {ds : List D} {g : Bool}, (δ.set j .no)[i]? = some (.ow ds g) → i ≠ j ∧ δ[i]? = some (.ow ds g) := fun {i ds g} h => by
    rcases get_set h with ⟨_, e, _⟩ | ⟨n, h⟩
    · cases e
    · exact ⟨n, h⟩
  have back : ∀ {i : Nat} {d : D}, (δ.set j .no)[i]? = some (.tr d) → δ[i]? = some (.tr d) := fun {i d} h => by
    rcases get_set h with ⟨_, e, _⟩ | ⟨_, h⟩
    · cases e
    · exact h
  have T1 : TrOk C H0 B H σ (δ.set j .no) φ' := ⟨fun i d h => T'.tr i d (back h), fun i d h => T'.nd i d (back h), fun i d q h hq => by
    obtain ⟨a, b, c, w⟩ := T'.nw i d q (back h) hq
    exact ⟨a, b, c, fun k ds g hk => w k ds g (backo hk).2⟩, fun i k d d' q h1 h2 => T'.dj i k d d' q (back h1) (back h2)⟩
  have S2 : Stt C B0 H0 (upd B p (.lst vs)) H σ (δ.set j .no) := by
    refine S1.rebase eb (fun q x k => ?_) (fun q x k => ?_) ⟨φ', T1, fun i d q hd hq => ?_⟩
    · by_cases z : q = p
      · subst z; rw [upd_same] at k; rw [hp]; exact k
      · rw [upd_ne z] at k; exact S.sub _ _ k
    · by_cases z : q = p
      · subst z
        exact .inr ⟨h0, fun i ds1 g1 k z => (backo k).1 (S.dis i j _ _ _ _ q (backo k).2 h z e)⟩
      · rw [upd_ne z] at k; exact .inl k
    · have ne : q ≠ p := fun z => by
        subst z
        exact (T'.nw i d q (back hd) hq).2.2.2 j ds g h e
      rw [upd_ne ne]
      exact (T1.nw i d q hd hq).2.1
  have rr : Rp C (Rg B0 H0 (upd B p (.lst vs)) H true g) (.ls ds) (.ref p) := by
    rw [rp_ls]
    refine ⟨p, vs, rfl, ?_, r.mono (rg_mono eb (Same.refl _) _ _)⟩
    cases g
    · exact upd_same
    · show (match H0 p with | none => (upd B p (.lst vs)) p | some _ => none) = _
      rw [h0]; exact upd_same
  refine ⟨upd B p (.lst vs), eb, ?_⟩
  have S3 := S2.setSh (j := j) rr
  rw [set_same e, List.set_set] at S3
  exact S3
end
/-! ### targets -/
inductive Tg where
  | nm (j : Nat) | t2 (a b : Tg) | t3 (a b c : Tg)
def Tg.sl : Tg → List Nat
  | .nm j => [j] | .t2 a b => a.sl ++ b.sl | .t3 a b c => a.sl ++ (b.sl ++ c.sl)
def Tg.rd (K : PySem.W.Frag) : Tg → TG
  | .nm j => gName j
  | .t2 a b => gTup K 2 (gCons (a.rd K) (gCons (b.rd K) gNil))
  | .t3 a b c => gTup K 3 (gCons (a.rd K) (gCons (b.rd K) (gCons (c.rd K) gNil)))
def Tg.run (g : Bool) : Tg → D → List Sl → Option (List Sl)
  | .nm j, d, δ => some (δ.set j (.sh d g))
  | .t2 a b, .tp [x, y], δ => match a.run g x δ with
    | some δ1 => b.run g y δ1
    | none => none
  | .t3 a b c, .tp [x, y, z], δ => match a.run g x δ with
    | some δ1 => match b.run g y δ1 with
      | some δ2 => c.run g z δ2
      | none => none
    | none => none
  | _, _, _ => none
theorem wipe_set {σ : St} {x : Option V} {j : Nat} : ∀ {vs : List Nat}, j ∈ vs → wipe (σ.set j x) vs = wipe σ vs
  | v :: vs, h => by
    unfold wipe
    by_cases e : j = v
    · subst e
      by_cases k : j ∈ vs
      · rw [wipe_set k]
      · have : ∀ (us : List Nat), j ∉ us → wipe (σ.set j x) us = (wipe σ us).set j x := by
          intro us
          induction us with
          | nil => intro _; rfl
          | cons u us ih =>
            intro k
            have k1 : j ≠ u := fun z => k (by simp [z])
            have k2 : j ∉ us := fun z => k (by simp [z])
            unfold wipe
            rw [ih k2, List.set_comm _ _ k1]
        rw [this vs k, List.set_set]
    · have k : j ∈ vs := by
        rcases List.mem_cons.mp h with z | z
        · exact absurd z e
        · exact z
      rw [wipe_set k]
section
variable {C : Cf} {B0 H0 B H : Hp} {σ : St} {δ δ' : List Sl}
theorem Tg.ok (g : Bool) : ∀ (t : Tg) (d : D) {v : V} {σ : St} {δ δ' : List Sl}, Stt C B0 H0 B H σ δ → Rp C (Rg B0 H0 B H true g) d v → t.run g d δ = some δ' → ∀ {Q : St → Hp → Prop},
    (∀ σ', Stt C B0 H0 B H σ' δ' → (∀ vs, (∀ j ∈ t.sl, j ∈ vs) → wipe σ' vs = wipe σ vs) → Q σ' H) → t.rd C.K v σ H Q
  | .nm j, d, v, σ, δ, δ', S, r, e, Q, q => by
    simp only [Tg.run, Option.some.injEq] at e
    subst e
    exact q _ (S.setSh r) fun vs hv => wipe_set (hv j (by simp [Tg.sl]))
  | .t2 a b, d, v, σ, δ, δ', S, r, e, Q, q => by
    cases d with
    | tp xs =>
      rcases xs with _ | ⟨x, _ | ⟨y, _ | ⟨z, xs⟩⟩⟩
      · simp [Tg.run] at e
      · simp [Tg.run] at e
      · simp only [Tg.run] at e
        rw [rp_tp] at r
        obtain ⟨p, xs, rfl, h1, h2⟩ := r
        simp only [Rps] at h2
        obtain ⟨v1, _, rfl, r1, v2, _, rfl, r2, rfl⟩ := h2
        split at e
        · rename_i δ1 e1
          refine ⟨p, [v1, v2], rfl, sqt_mono (S.toH true g) h1, rfl, v1, [v2], rfl, ?_⟩
          refine Tg.ok g a x S r1 e1 fun σ1 S1 w1 => ?_
          refine ⟨v2, [], rfl, ?_⟩
          refine Tg.ok g b y S1 r2 e fun σ2 S2 w2 => ?_
          refine ⟨rfl, q σ2 S2 fun vs hv => ?_⟩
          rw [w2 vs fun j hj => hv j (by simp [Tg.sl, hj]), w1 vs fun j hj => hv j (by simp [Tg.sl, hj])]
        · cases e
      · simp [Tg.run] at e
    | _ => simp [Tg.run] at e
  | .t3 a b c, d, v, σ, δ, δ', S, r, e, Q, q => by
    cases d with
    | tp xs =>
      rcases xs with _ | ⟨x, _ | ⟨y, _ | ⟨z, _ | ⟨u, xs⟩⟩⟩⟩
      · simp [Tg.run] at e
      · simp [Tg.run] at e
      · simp [Tg.run] at e
      · simp only [Tg.run] at e
        rw [rp_tp] at r
        obtain ⟨p, xs, rfl, h1, h2⟩ := r
        simp only [Rps] at h2
        obtain ⟨v1, _, rfl, r1, v2, _, rfl, r2, v3, _, rfl, r3, rfl⟩ := h2
        split at e
        · rename_i δ1 e1
          split at e
          · rename_i δ2 e2
            refine ⟨p, [v1, v2, v3], rfl, sqt_mono (S.toH true g) h1, rfl, v1, [v2, v3], rfl, ?_⟩
            refine Tg.ok g a x S r1 e1 fun σ1 S1 w1 => ?_
            refine ⟨v2, [v3], rfl, ?_⟩
            refine Tg.ok g b y S1 r2 e2 fun σ2 S2 w2 => ?_
            refine ⟨v3, [], rfl, ?_⟩
            refine Tg.ok g c z S2 r3 e fun σ3 S3 w3 => ?_
            refine ⟨rfl, q σ3 S3 fun vs hv => ?_⟩
            rw [w3 vs fun j hj => hv j (by simp [Tg.sl, hj]), w2 vs fun j hj => hv j (by simp [Tg.sl, hj]), w1 vs fun j hj => hv j (by simp [Tg.sl, hj])]
          · cases e
        · cases e
      · simp [Tg.run] at e
    | _ => simp [Tg.run] at e
def wipeD (δ : List Sl) : List Nat → List Sl
  | [] => δ
  | v :: vs => (wipeD δ vs).set v .no
theorem Stt.wipe (S : Stt C B0 H0 B H σ δ) : ∀ vs : List Nat, Stt C B0 H0 B H (L2.wipe σ vs) (wipeD δ vs)
  | [] => S
  | v :: vs => by
    unfold L2.wipe wipeD
    exact (S.wipe vs).setNo
theorem wipe_wipe (σ : St) (vs : List Nat) : L2.wipe (L2.wipe σ vs) vs = L2.wipe σ vs := by
  have : ∀ (us ws : List Nat), (∀ j ∈ us, j ∈ ws) → L2.wipe (L2.wipe σ us) ws = L2.wipe σ ws := by
    intro us
    induction us with
    | nil => intro ws _; rfl
    | cons u us ih =>
      intro ws h
      show L2.wipe ((L2.wipe σ us).set u none) ws = _
      rw [wipe_set (h u (by simp)), ih ws fun j hj => h j (by simp [hj])]
  exact this vs vs fun _ h => h
end
end G

namespace G
open PySem L2

/-! ### the language -/
inductive Ty5 where
  | int | bool | str | list | tuple
def Ty5.nm : Ty5 → String
  | .int => "int" | .bool => "bool" | .str => "str" | .list => "list" | .tuple => "tuple"
def isT : Ty5 → D → Option Bool
  | _, .ob _ _ => none
  | .int, .int _ => some true
  | .int, .bl _ => some true
  | .bool, .bl _ => some true
  | .str, .str _ => some true
  | .list, .ls _ => some true
  | .tuple, .tp _ => some true
  | _, _ => some false
inductive Bo where
  | add | sub | mul | mod | fdiv | pow | shr
def mulok (i j : Int) : Bool := decide (i.natAbs < 18446744073709551616) || decide (j.natAbs < 18446744073709551616) || decide (i.natAbs.log2 + j.natAbs.log2 < 100000000)
def CMulX (i j : Int) : Prop := mulok i j = true
def Bo.run : Bo → Int → Int → Option Int
  | .add, i, j => some (i + j)
  | .sub, i, j => some (i - j)
  | .mul, i, j => if mulok i j = true then some (i * j) else none
  | .mod, i, j => if 0 < j then some (i % j) else none
  | .fdiv, i, j => if 0 < j ∧ j < 1073741824 then some (i / j) else none
  | .pow, i, j => if 0 ≤ j ∧ j ≤ 1000000 ∧ i.natAbs < 2 ^ 64 then some (i ^ j.toNat) else none
  | .shr, i, j => if 0 ≤ j then some (i / 2 ^ j.toNat) else none
def Bo.r : Bo → R2
  | .add => rI0 fun i j => .int (i + j)
  | .sub => rI0 fun i j => .int (i - j)
  | .mul => rI CMulX fun i j => .int (i * j)
  | .mod => rI (fun _ j => 0 < j) fun i j => .int (i % j)
  | .fdiv => rI CDiv fun i j => .int (i / j)
  | .pow => rI CPow fun i j => .int (i ^ j.toNat)
  | .shr => rI (fun _ j => 0 ≤ j) fun i j => .int (i / 2 ^ j.toNat)
inductive Co where
  | lt | le | gt | ge
def Co.f : Co → Int → Int → Bool
  | .lt, i, j => decide (i < j)
  | .le, i, j => decide (i ≤ j)
  | .gt, i, j => decide (j < i)
  | .ge, i, j => decide (j ≤ i)
def Co.r : Co → R2
  | .lt => rI0 fun i j => .bl (decide (i < j))
  | .le => rI0 fun i j => .bl (decide (i ≤ j))
  | .gt => rI0 fun i j => .bl (decide (j < i))
  | .ge => rI0 fun i j => .bl (decide (j ≤ i))

inductive E where
  | nil | cons (a r : E)
  | var (i : Nat) | int (n : Int) | str (x : Str) | bl (b : Bool) | non | kon (k : Nat)
  | bin (o : Bo) (a b : E) | cat (a b : E) | rep (a b : E) | neg (a : E) | not (a : E)
  | eq (a b : E) | ne (a b : E) | cmp (o : Co) (a b : E) | chn (o o' : Co) (a b c : E) | isb (a b : E) | isnb (a b : E)
  | and (a b : E) | or (a b : E) | ite (c a b : E)
  | ix (a b : E) | oix (i : Nat) (b : E) | sl (a lo hi : E)
  | tup (es : E) | lst (es : E)
  | inn (a b : E) | nin (a b : E) | inT (a b : E) | fld (f : Str) (a : E) | isC (c : Nat) (a : E) | minL (a : E) | maxL (a : E) | rev (a : E) | ev2 (a : E) | meth (m : Nat) (o es : E) | new (k : Nat) (es : E)
  | len (a : E) | isI (t : Ty5) (a : E) | toL (a : E) | toR (a : E) | cntD (a b : E) | tupL (a : E) | lenSet (a : E) | all (a : E) | any (a : E) | cnt (a b : E) | min2 (a b : E) | max2 (a b : E) | sum (a : E) | srt (a : E)
  | call (k : Nat) (es : E)
  | itL (a : E) | itT (a : E) | itR (a : E) | itR2 (a b : E) | itR3 (a b c : E) | itZ (a b : E) | itE (a : E)
  | lc (t : Tg) (it e : E) | lcf (t : Tg) (it c e : E) | lcQ (t : Tg) (a e : E)

/-- what may be asked as a test -/
def isTst : E → Bool
  | .not a => isTst a
  | .and a b => isTst a && isTst b
  | .or a b => isTst a && isTst b
  | .var _ => true | .bl _ => true | .eq _ _ => true | .ne _ _ => true | .cmp _ _ _ => true | .chn _ _ _ _ _ => true | .isb _ _ => true | .isnb _ _ => true | .isI _ _ => true | .all _ => true | .any _ => true | .call _ _ => true | .inn _ _ => true | .nin _ _ => true | .inT _ _ => true | .isC _ _ => true | .meth _ _ _ => true | .ix _ _ => true
  | _ => false
structure Fd where
  ar : Nat
  fr : Bool
  tr : Bool
  run : List D → Option D
/-- a class that is called: its number, its __init__ -/
structure Nd where
  cl : Nat
  ar : Nat
  fr : Bool
  tr : Bool
  run : List D → Option (List D)
/-- what a def may call: defs and classes, global tuples, the classes' fields, who is of whom, methods -/
structure Ga where
  fs : List Fd
  ks : List D
  cn : List (List Str)
  sub : List (List Bool)
  ms : List (Str × List (Nat × Fd))
  nd : List Nd
def ga0 (fs : List Fd) : Ga := ⟨fs, [], [], [], [], []⟩
abbrev Rs := D × Bool × Bool

/-! ### values -/
def intsOf : List D → Option (List Int)
  | [] => some []
  | .int i :: r => match intsOf r with
    | some ns => some (i :: ns)
    | none => none
  | _ => none
def blsOf : List D → Option (List Bool)
  | [] => some []
  | .bl i :: r => match blsOf r with
    | some ns => some (i :: ns)
    | none => none
  | _ => none
def strsOf : List D → Option (List Str)
  | [] => some []
  | .str i :: r => match strsOf r with
    | some ns => some (i :: ns)
    | none => none
  | _ => none
/-- pairs of a number and numbers -/
def isPr : D → Bool
  | .tp [.int _, .ls xs] => (intsOf xs).isSome
  | _ => false
def mmOk (ds : List D) : Bool := (intsOf ds).isSome || ds.all isPr
def ltD (a b : D) : Bool := PySem.W.dataLt a.py b.py
def minF (x : D) (xs : List D) : D := xs.foldl (fun a y => if ltD y a = true then y else a) x
def maxF (x : D) (xs : List D) : D := xs.foldl (fun a y => if ltD a y = true then y else a) x
def lookN : List (Nat × Fd) → Nat → Option Fd
  | [], _ => none
  | (c, F) :: r, k => if c = k then some F else lookN r k
def fldD (f : Str) : List Str → List D → Option D
  | n :: ns, d :: ds => if f = n then some d else fldD f ns ds
  | _, _ => none
def rsz (m n s : Int) : Nat := if m < n then ((n - m - 1) / s).toNat + 1 else 0
def rng3D (lo st : Int) (n : Nat) : List D := (List.range n).map fun (k : Nat) => D.int (lo + (k : Int) * st)
/-- tuples of ints -/
def tupsOf : List D → Option (List (List Int))
  | [] => some []
  | .tp xs :: r => match intsOf xs with
    | some ns => match tupsOf r with
      | some nss => some (ns :: nss)
      | none => none
    | none => none
  | _ => none
def ddp : List (List Int) → List (List Int)
  | [] => []
  | x :: r => if x ∈ r then ddp r else x :: ddp r
def cutD {α : Type} (xs : List α) (lo hi : Option Int) : List α := (xs.drop (HT.sIx xs.length 0 lo)).take (HT.sIx xs.length xs.length hi - HT.sIx xs.length 0 lo)
def rngD (lo : Int) (n : Nat) : List D := (List.range n).map fun (k : Nat) => D.int (lo + (k : Int))
def zipD : List D → List D → List D
  | x :: xs, y :: ys => .tp [x, y] :: zipD xs ys
  | _, _ => []
def enumD : Nat → List D → List D
  | _, [] => []
  | n, x :: xs => .tp [.int (n : Int), x] :: enumD (n + 1) xs
def insU (x : Int) : List Int → List Int
  | [] => [x]
  | y :: r => if x < y then x :: y :: r else if x = y then y :: r else y :: insU x r
def sdd (ns : List Int) : List Int := ns.foldr insU []
def flats (ds : List D) : Bool := ds.all D.flat
def tst : Option Rs → Option Bool
  | some (.bl b, _, _) => some b
  | _ => none
def lcRun (t : Tg) (g : Bool) (cf : List Sl → Option Bool) (ef : List Sl → Option Rs) (δ : List Sl) : List D → Option (List D × Bool)
  | [] => some ([], true)
  | d :: r => match t.run g d δ with
    | none => none
    | some δ2 => match cf δ2 with
      | none => none
      | some false => lcRun t g cf ef δ r
      | some true => match ef δ2 with
        | some (y, true, gy) => match lcRun t g cf ef δ r with
          | some (ys, gs) => some (y :: ys, gy && gs)
          | none => none
        | _ => none

mutual
def eval (Γ : Ga) : E → List Sl → Option Rs
  | .var i, δ => match δ[i]? with
    | some (.sh d g) => some (d, true, g)
    | some (.ow ds g) => some (.ls ds, false, g)
    | some (.rg d) => some (d, false, false)
    | some (.tr d) => some (d, false, false)
    | some (.al j q) => match δ[j]? with
      | some (.tr d) => match d.sub q with
        | some d' => some (d', false, false)
        | none => none
      | _ => none
    | _ => none
  | .int n, _ => some (.int n, true, true)
  | .str x, _ => some (.str x, true, true)
  | .bl b, _ => some (.bl b, true, true)
  | .non, _ => some (.non, true, true)
  | .kon k, _ => match Γ.ks[k]? with
    | some d => some (d, true, true)
    | none => none
  | .inn a b, δ => match eval Γ a δ with
    | some (x, _, _) => match eval Γ b δ with
      | some (.ls ys, _, _) => if (x.eqok && (D.ls ys).eqok) = true then some (.bl (ys.any fun z => z.eqv x), true, true) else none
      | _ => none
    | none => none
  | .nin a b, δ => match eval Γ a δ with
    | some (x, _, _) => match eval Γ b δ with
      | some (.ls ys, _, _) => if (x.eqok && (D.ls ys).eqok) = true then some (.bl (!ys.any fun z => z.eqv x), true, true) else none
      | _ => none
    | none => none
  | .inT a b, δ => match eval Γ a δ with
    | some (.str x, _, _) => match eval Γ b δ with
      | some (.tp ys, _, _) => match strsOf ys with
        | some ss => some (.bl (ss.any fun z => z == x), true, true)
        | none => none
      | _ => none
    | _ => none
  | .fld f a, δ => match eval Γ a δ with
    | some (.ob c fs, fl, g) => match Γ.cn[c]? with
      | some ns => if fs.length = ns.length then (match fldD f ns fs with
        | some d => some (d, fl, g)
        | none => none) else none
      | none => none
    | _ => none
  | .isC c' a, δ => match eval Γ a δ with
    | some (.ob c _, _, _) => match Γ.cn[c]? with
      | some _ => match Γ.sub[c]? with
        | some r => match r[c']? with
          | some b => some (.bl b, true, true)
          | none => none
        | none => none
      | none => none
    | _ => none
  | .minL a, δ => match eval Γ a δ with
    | some (.ls (x :: xs), f, g) => if mmOk (x :: xs) = true then some (minF x xs, f, g) else none
    | _ => none
  | .maxL a, δ => match eval Γ a δ with
    | some (.ls (x :: xs), f, g) => if mmOk (x :: xs) = true then some (maxF x xs, f, g) else none
    | _ => none
  | .rev a, δ => match eval Γ a δ with
    | some (.ls xs, f, g) => some (.ls xs.reverse, f || flats xs.reverse, g)
    | _ => none
  | .ev2 a, δ => match eval Γ a δ with
    | some (.ls xs, f, g) => some (.ls (G.ev2 xs), f || flats (G.ev2 xs), g)
    | _ => none
  | .new k es, δ => match Γ.nd[k]? with
    | some F => match evalA Γ es δ with
      | some (ds, f, _) => if ds.length = F.ar then (match F.run ds with
        | some fs => some (.ob F.cl fs, F.fr || f, F.fr)
        | none => none) else none
      | none => none
    | none => none
  | .meth m o es, δ => match Γ.ms[m]? with
    | some (nm, tb) => match eval Γ o δ with
      | some (.ob c fs, f, g) => match lookN tb c with
        | some F => match evalA Γ es δ with
          | some (ds, f', g') => if ds.length + 1 = F.ar ∧ (Γ.cn[c]?.map fun ns => ns.all fun n => n != nm) = some true then (match F.run (.ob c fs :: ds) with
            | some d => some (d, F.fr || (f && f') || d.flat, F.fr || d.flat)
            | none => none) else none
          | none => none
        | none => none
      | _ => none
    | none => none
  | .bin o a b, δ => match eval Γ a δ with
    | some (.int i, _, _) => match eval Γ b δ with
      | some (.int j, _, _) => match o.run i j with
        | some z => some (.int z, true, true)
        | none => none
      | _ => none
    | _ => none
  | .cat a b, δ => match eval Γ a δ with
    | some (.ls xs, f, g) => match eval Γ b δ with
      | some (.ls ys, f', g') => if xs.length + ys.length ≤ 100000 then some (.ls (xs ++ ys), (f && f') || flats (xs ++ ys), g && g') else none
      | _ => none
    | _ => none
  | .rep a b, δ => match eval Γ a δ with
    | some (.ls xs, f, g) => match eval Γ b δ with
      | some (.int k, _, _) => if 0 ≤ k ∧ k ≤ 1000 ∧ xs.length ≤ 1000 then some (.ls (List.replicate k.toNat xs).flatten, f || flats (List.replicate k.toNat xs).flatten, g) else none
      | _ => none
    | _ => none
  | .neg a, δ => match eval Γ a δ with
    | some (.int i, _, _) => some (.int (-i), true, true)
    | _ => none
  | .not a, δ => match eval Γ a δ with
    | some (.bl b, _, _) => some (.bl (!b), true, true)
    | _ => none
  | .eq a b, δ => match eval Γ a δ with
    | some (x, _, _) => match eval Γ b δ with
      | some (y, _, _) => if (x.eqok && y.eqok) = true then some (.bl (x.eqv y), true, true) else none
      | none => none
    | none => none
  | .ne a b, δ => match eval Γ a δ with
    | some (x, _, _) => match eval Γ b δ with
      | some (y, _, _) => if (x.eqok && y.eqok) = true then some (.bl (!x.eqv y), true, true) else none
      | none => none
    | none => none
  | .cmp o a b, δ => match eval Γ a δ with
    | some (.int i, _, _) => match eval Γ b δ with
      | some (.int j, _, _) => some (.bl (o.f i j), true, true)
      | _ => none
    | _ => none
  | .chn o o' a b c, δ => match eval Γ a δ with
    | some (.int i, _, _) => match eval Γ b δ with
      | some (.int j, _, _) => if o.f i j = true then (match eval Γ c δ with
        | some (.int k, _, _) => some (.bl (o'.f j k), true, true)
        | _ => none) else some (.bl false, true, true)
      | _ => none
    | _ => none
  | .isb a b, δ => match eval Γ a δ with
    | some (.bl i, _, _) => match eval Γ b δ with
      | some (.bl j, _, _) => some (.bl (decide (i = j)), true, true)
      | _ => none
    | _ => none
  | .isnb a b, δ => match eval Γ a δ with
    | some (.bl i, _, _) => match eval Γ b δ with
      | some (.bl j, _, _) => some (.bl (!decide (i = j)), true, true)
      | _ => none
    | _ => none
  | .and a b, δ => match eval Γ a δ with
    | some (.bl true, _, _) => eval Γ b δ
    | some (.bl false, _, _) => some (.bl false, true, true)
    | _ => none
  | .or a b, δ => match eval Γ a δ with
    | some (.bl false, _, _) => eval Γ b δ
    | some (.bl true, _, _) => some (.bl true, true, true)
    | _ => none
  | .ite c a b, δ => if isTst c = true then (match eval Γ c δ with
    | some (.bl true, _, _) => eval Γ a δ
    | some (.bl false, _, _) => eval Γ b δ
    | _ => none) else none
  | .ix a b, δ => match eval Γ a δ with
    | some (.ls xs, f, g) => match eval Γ b δ with
      | some (.int i, _, _) => match atI xs i with
        | some d => some (d, f, g)
        | none => none
      | _ => none
    | some (.tp xs, f, g) => match eval Γ b δ with
      | some (.int i, _, _) => match atI xs i with
        | some d => some (d, f, g)
        | none => none
      | _ => none
    | _ => none
  | .oix i b, δ => match δ[i]? with
    | some (.ow xs g) => match eval Γ b δ with
      | some (.int i, _, _) => match atI xs i with
        | some d => some (d, true, g)
        | none => none
      | _ => none
    | _ => none
  | .sl a lo hi, δ => match eval Γ a δ with
    | some (.ls xs, f, g) => match evalO Γ lo δ with
      | some l => match evalO Γ hi δ with
        | some h => some (.ls (cutD xs l h), f || flats (cutD xs l h), g)
        | none => none
      | none => none
    | _ => none
  | .tup es, δ => match evalA Γ es δ with
    | some (ds, f, g) => if ds.length ≤ 1000 then some (.tp ds, f, g) else none
    | none => none
  | .lst es, δ => match evalA Γ es δ with
    | some (ds, f, g) => if ds.length ≤ 1000 then some (.ls ds, f, g) else none
    | none => none
  | .len a, δ => match eval Γ a δ with
    | some (.ls xs, _, _) => some (.int (xs.length : Int), true, true)
    | some (.tp xs, _, _) => some (.int (xs.length : Int), true, true)
    | _ => none
  | .isI t a, δ => match eval Γ a δ with
    | some (d, _, _) => match isT t d with
      | some b => some (.bl b, true, true)
      | none => none
    | none => none
  | .toL a, δ => match eval Γ a δ with
    | some (.ls xs, f, g) => some (.ls xs, f || flats xs, g || flats xs)
    | some (.tp xs, f, g) => some (.ls xs, f || flats xs, g || flats xs)
    | _ => none
  | .toR a, δ => match eval Γ a δ with
    | some (.int n, _, _) => if -1000000 ≤ n ∧ n ≤ 1000000 then some (.ls (rngD 0 n.toNat), true, true) else none
    | _ => none
  | .all a, δ => match eval Γ a δ with
    | some (.ls xs, _, _) => match blsOf xs with
      | some bs => some (.bl (bs.all id), true, true)
      | none => none
    | _ => none
  | .any a, δ => match eval Γ a δ with
    | some (.ls xs, _, _) => match blsOf xs with
      | some bs => some (.bl (bs.any id), true, true)
      | none => none
    | _ => none
  | .cnt a b, δ => match eval Γ a δ with
    | some (.ls xs, _, _) => match eval Γ b δ with
      | some (.int k, _, _) => match intsOf xs with
        | some ns => some (.int ((ns.count k : Nat) : Int), true, true)
        | none => none
      | _ => none
    | _ => none
  | .cntD a b, δ => match eval Γ a δ with
    | some (.ls xs, _, _) => match eval Γ b δ with
      | some (y, _, _) => if ((D.ls xs).eqok && y.eqok) = true then some (.int ((xs.countP fun z => z.eqv y : Nat) : Int), true, true) else none
      | none => none
    | _ => none
  | .tupL a, δ => match eval Γ a δ with
    | some (.ls xs, f, g) => some (.tp xs, f || flats xs, g || flats xs)
    | _ => none
  | .lenSet a, δ => match eval Γ a δ with
    | some (.ls xs, _, _) => match tupsOf xs with
      | some nss => if nss.length < 64 then some (.int ((ddp nss).length : Int), true, true) else none
      | none => none
    | _ => none
  | .min2 a b, δ => match eval Γ a δ with
    | some (.int i, _, _) => match eval Γ b δ with
      | some (.int j, _, _) => some (.int (if j < i then j else i), true, true)
      | _ => none
    | _ => none
  | .max2 a b, δ => match eval Γ a δ with
    | some (.int i, _, _) => match eval Γ b δ with
      | some (.int j, _, _) => some (.int (if j > i then j else i), true, true)
      | _ => none
    | _ => none
  | .sum a, δ => match eval Γ a δ with
    | some (.ls xs, _, _) => match intsOf xs with
      | some ns => some (.int ns.sum, true, true)
      | none => none
    | _ => none
  | .srt a, δ => match eval Γ a δ with
    | some (.ls xs, _, _) => match intsOf xs with
      | some ns => if ns.length < 60 then some (.ls ((sdd ns).map D.int), true, true) else none
      | none => none
    | _ => none
  | .call k es, δ => match Γ.fs[k]? with
    | some F => match evalA Γ es δ with
      | some (ds, f, _) => if ds.length = F.ar then (match F.run ds with
        | some d => some (d, F.fr || f || d.flat, F.fr || d.flat)
        | none => none) else none
      | none => none
    | none => none
  | .lc t it e, δ => match evalI Γ it δ with
    | some (ds, g) => if ds.length ≤ 50000 then (match lcRun t g (fun _ => some true) (fun δ2 => eval Γ e δ2) (wipeD δ t.sl) ds with
      | some (ys, gs) => some (.ls ys, true, gs)
      | none => none) else none
    | none => none
  | .lcQ t a e, δ => match eval Γ a δ with
    | some (.ls ds, _, _) => if ds.length ≤ 50000 ∧ flats ds = true then (match lcRun t true (fun _ => some true) (fun δ2 => eval Γ e δ2) (wipeD δ t.sl) ds with
      | some (ys, gs) => some (.ls ys, true, gs)
      | none => none) else none
    | _ => none
  | .lcf t it c e, δ => match evalI Γ it δ with
    | some (ds, g) => if ds.length ≤ 50000 ∧ isTst c = true then (match lcRun t g (fun δ2 => tst (eval Γ c δ2)) (fun δ2 => eval Γ e δ2) (wipeD δ t.sl) ds with
      | some (ys, gs) => some (.ls ys, true, gs)
      | none => none) else none
    | none => none
  | _, _ => none
def evalA (Γ : Ga) : E → List Sl → Option (List D × Bool × Bool)
  | .nil, _ => some ([], true, true)
  | .cons a r, δ => match eval Γ a δ with
    | some (d, f, g) => match evalA Γ r δ with
      | some (ds, f', g') => some (d :: ds, f && f', g && g')
      | none => none
    | none => none
  | _, _ => none
def evalO (Γ : Ga) : E → List Sl → Option (Option Int)
  | .nil, _ => some none
  | .cons a .nil, δ => match eval Γ a δ with
    | some (.int i, _, _) => some (some i)
    | _ => none
  | _, _ => none
def evalI (Γ : Ga) : E → List Sl → Option (List D × Bool)
  | .itL a, δ => match eval Γ a δ with
    | some (.ls ds, true, g) => some (ds, g)
    | _ => none
  | .itT a, δ => match eval Γ a δ with
    | some (.tp ds, true, g) => some (ds, g)
    | _ => none
  | .itR a, δ => match eval Γ a δ with
    | some (.int n, _, _) => if -1000000 ≤ n ∧ n ≤ 1000000 then some (rngD 0 n.toNat, true) else none
    | _ => none
  | .itR2 a b, δ => match eval Γ a δ with
    | some (.int m, _, _) => match eval Γ b δ with
      | some (.int n, _, _) => if -1000000 ≤ m ∧ m ≤ 1000000 ∧ -1000000 ≤ n ∧ n ≤ 1000000 then some (rngD m (n - m).toNat, true) else none
      | _ => none
    | _ => none
  | .itR3 a b c, δ => match eval Γ a δ with
    | some (.int m, _, _) => match eval Γ b δ with
      | some (.int n, _, _) => match eval Γ c δ with
        | some (.int s, _, _) => if -1000000 ≤ m ∧ m ≤ 1000000 ∧ -1000000 ≤ n ∧ n ≤ 1000000 ∧ 0 < s ∧ s < 1000 then some (rng3D m s (rsz m n s), true) else none
        | _ => none
      | _ => none
    | _ => none
  | .itZ a b, δ => match eval Γ a δ with
    | some (.ls xs, true, g) => match eval Γ b δ with
      | some (.ls ys, true, g') => some (zipD xs ys, g && g')
      | _ => none
    | _ => none
  | .itE a, δ => match eval Γ a δ with
    | some (.ls xs, true, g) => some (enumD 0 xs, g)
    | _ => none
  | _, _ => none
end

/-! ### trees -/
mutual
/-- all leaves are flat -/
def D.tflat : D → Bool
  | .ls ds => D.tflats ds
  | .ob _ ds => D.tflats ds
  | .dc _ ds => D.tflats ds
  | .tp _ => false
  | _ => true
def D.tflats : List D → Bool
  | [] => true
  | d :: ds => D.tflat d && D.tflats ds
end
/-- a tree of new cells, all of its leaves flat -/
def TreeAt (C : Cf) (H H' : Hp) (d : D) (v : V) : Prop := ∃ ps, Tr C Emp H' d v ps ∧ ps.Nodup ∧ ∀ p ∈ ps, H p = none
def TreesAt (C : Cf) (H H' : Hp) (ds : List D) (vs : List V) : Prop := ∃ ps, Trs C Emp H' ds vs ps ∧ ps.Nodup ∧ ∀ p ∈ ps, H p = none
/-! does the value d of e stand as a tree -/
mutual
def trOk (Γ : Ga) : E → D → Bool
  | .toL _, .ls ds => ds.all D.leaf
  | .toR _, .ls ds => ds.all D.leaf
  | .lst es, .ls ds => trOks Γ es ds
  | .lc _ _ e, .ls ds => ds.all fun d => trOk Γ e d
  | .lcf _ _ _ e, .ls ds => ds.all fun d => trOk Γ e d
  | .ite _ a b, d => trOk Γ a d && trOk Γ b d
  | .new k _, .ob _ ds => (match Γ.nd[k]? with | some F => F.tr | none => false) && D.tflats ds
  | .call k _, d => ((match Γ.fs[k]? with | some F => F.tr | none => false) && d.tflat) || d.leaf
  | _, d => d.leaf
def trOks (Γ : Ga) : E → List D → Bool
  | .nil, [] => true
  | .cons a r, d :: ds => trOk Γ a d && trOks Γ r ds
  | _, _ => false
end
/-! ### readings -/
def spOf (C : Cf) (F : Fd) : Sp := fun vs H Q _ => ∃ B ds d, Same B H ∧ Rps C B ds vs ∧ ds.length = F.ar ∧ F.run ds = some d ∧ ∀ v H', Same H H' → Rp C (Rsd (if F.fr = true then Emp else B) H H') d v → (F.tr = true → d.tflat = true → TreeAt C H H' d v) → Q v H'
/-- what an __init__ promises -/
def spIn (C : Cf) (F : Nd) : Sp := fun vs H Q _ => ∃ x dx us B ds fs, vs = .ref x :: us ∧ H x = some (.ins (C.Cl F.cl).1 dx []) ∧ Same B H ∧ B x = none ∧ Rps C B ds us ∧ ds.length = F.ar ∧ F.run ds = some fs ∧
  ∀ H' xs, (∀ p o, p ≠ x → H p = some o → H' p = some o) → H' x = some (.ins (C.Cl F.cl).1 dx ((C.Cl F.cl).2.zip xs)) → xs.length = (C.Cl F.cl).2.length → Rps C (Rsd (if F.fr = true then Emp else B) H H') fs xs → (F.tr = true → D.tflats fs = true → TreesAt C H H' fs xs) → Q .non H'
def tMs (C : Cf) (nm : Str) (to : TE) (ta : TA) : List (Nat × Fd) → TE
  | [] => fun _ _ _ => False
  | (c, F) :: r => fun σ H Q => tMeth (C.Cl c).1 nm (spOf C F) [] E0 to ta σ H Q ∨ tMs C nm to ta r σ H Q
/-- min, max of a list of alike data -/
def rMinDat (K : PySem.W.Frag) : List V → Hp → VK → Prop := fun vs H Q => ∃ a xs x r, vs = [.ref a] ∧ SqL K H a xs ∧ DpAll K H xs (x :: r) ∧ PySem.W.AlikeAll (x :: r) ∧ PyData.depthAll (x :: r) ≤ 60 ∧ ∀ (i : Nat) v, xs[i]? = some v → (∀ d, Dp K H v d → d = PySem.W.minD x r) → Q v H
def rMaxDat (K : PySem.W.Frag) : List V → Hp → VK → Prop := fun vs H Q => ∃ a xs x r, vs = [.ref a] ∧ SqL K H a xs ∧ DpAll K H xs (x :: r) ∧ PySem.W.AlikeAll (x :: r) ∧ PyData.depthAll (x :: r) ≤ 60 ∧ ∀ (i : Nat) v, xs[i]? = some v → (∀ d, Dp K H v d → d = PySem.W.maxD x r) → Q v H
def rTupS (K : PySem.W.Frag) : List V → Hp → VK → Prop := fun xs H Q => ∃ p ys, xs = [.ref p] ∧ ((SqL K H p ys ∧ ∀ l, H l = none → Q (.ref l) (upd H l (.tup ys))) ∨ (SqT K H p ys ∧ Q (.ref p) H))
def rLenS (K : PySem.W.Frag) : List V → Hp → VK → Prop := fun xs H Q => ∃ p ys, xs = [.ref p] ∧ (SqL K H p ys ∨ SqT K H p ys) ∧ Q (.int ys.length) H
def rListS (K : PySem.W.Frag) : List V → Hp → VK → Prop := fun xs H Q => ∃ p ys, xs = [.ref p] ∧ (SqL K H p ys ∨ SqT K H p ys) ∧ ∀ l, H l = none → Q (.ref l) (upd H l (.lst ys))
def rMax2 : List V → Hp → VK → Prop := fun xs H Q => ∃ i j, xs = [.int i, .int j] ∧ Q (.int (if j > i then j else i)) H
def rMin2 : List V → Hp → VK → Prop := fun xs H Q => ∃ i j, xs = [.int i, .int j] ∧ Q (.int (if j < i then j else i)) H
def tFalse {α : Type} : St → Hp → α → Prop := fun _ _ _ => False
mutual
def rd (C : Cf) (Γ : Ga) : E → TE
  | .var i => tVar i
  | .int n => tC (.int n)
  | .str x => tC (.str x)
  | .bl b => tC (.bl b)
  | .non => tC .non
  | .kon k => tC (C.kv k)
  | .inn a b => tOp (rInD C.K) (rd C Γ a) (rd C Γ b)
  | .nin a b => tOp (rNotInD C.K) (rd C Γ a) (rd C Γ b)
  | .inT a b => tOp (rIn C.K false) (rd C Γ a) (rd C Γ b)
  | .fld f a => tFld C.K (rd C Γ a) f
  | .isC c a => tCB (rIsi C.K) (tCons (rd C Γ a) (tCons (tC (.ref (C.Cl c).1)) tNil))
  | .minL a => tCB (rMinDat C.K) (tCons (rd C Γ a) tNil)
  | .maxL a => tCB (rMaxDat C.K) (tCons (rd C Γ a) tNil)
  | .rev a => tRevL C.K (rd C Γ a)
  | .ev2 a => tEv2 C.K (rd C Γ a)
  | .new k es => match Γ.nd[k]? with
    | some F => tMake (C.Cl F.cl).1 (spIn C F) [] E0 (rdA C Γ es)
    | none => tFalse
  | .meth m o es => match Γ.ms[m]? with
    | some p => tMs C p.1 (rd C Γ o) (rdA C Γ es) p.2
    | none => tFalse
  | .bin o a b => tOp o.r (rd C Γ a) (rd C Γ b)
  | .cat a b => tOp rCat (rd C Γ a) (rd C Γ b)
  | .rep a b => tOp rRep (rd C Γ a) (rd C Γ b)
  | .neg a => tUn (rU fun i => .int (-i)) (rd C Γ a)
  | .not a => tNotV (rd C Γ a)
  | .eq a b => tOp (rEqD C.K) (rd C Γ a) (rd C Γ b)
  | .ne a b => tOp (rNeD C.K) (rd C Γ a) (rd C Γ b)
  | .cmp o a b => tOp o.r (rd C Γ a) (rd C Γ b)
  | .chn o o' a b c => tChain o.r o'.r (rd C Γ a) (rd C Γ b) (rd C Γ c)
  | .isb a b => tOp rIsB (rd C Γ a) (rd C Γ b)
  | .isnb a b => tOp rNotB (rd C Γ a) (rd C Γ b)
  | .and a b => tAndV (rd C Γ a) (rd C Γ b)
  | .or a b => tOrV (rd C Γ a) (rd C Γ b)
  | .ite c a b => tIf (rdT C Γ c) (rd C Γ a) (rd C Γ b)
  | .ix a b => tOp (rIx C.K) (rd C Γ a) (rd C Γ b)
  | .oix i b => tOp (rIx C.K) (tVar i) (rd C Γ b)
  | .sl a lo hi => tSl (rSlL C.K) (rd C Γ a) (rdO C Γ lo) (rdO C Γ hi)
  | .tup es => tTup (rdA C Γ es)
  | .lst es => tLst (rdA C Γ es)
  | .len a => tCB (rLenS C.K) (tCons (rd C Γ a) tNil)
  | .isI t a => tCB (rIsi C.K) (tCons (rd C Γ a) (tCons (tC (.ty t.nm)) tNil))
  | .toL a => tCB (rListS C.K) (tCons (rd C Γ a) tNil)
  | .toR a => tLstRg (tRg1 (rd C Γ a))
  | .all a => tCB (rAll C.K) (tCons (rd C Γ a) tNil)
  | .any a => tCB (rAny C.K) (tCons (rd C Γ a) tNil)
  | .cnt a b => tBM C.K "list" (rCntI C.K) (rd C Γ a) (tCons (rd C Γ b) tNil)
  | .cntD a b => tBM C.K "list" (rCntD C.K) (rd C Γ a) (tCons (rd C Γ b) tNil)
  | .tupL a => tCB (rTupS C.K) (tCons (rd C Γ a) tNil)
  | .lenSet a => tLenSetT C.K (rd C Γ a)
  | .min2 a b => tCB rMin2 (tCons (rd C Γ a) (tCons (rd C Γ b) tNil))
  | .max2 a b => tCB rMax2 (tCons (rd C Γ a) (tCons (rd C Γ b) tNil))
  | .sum a => tCB (rSum C.K) (tCons (rd C Γ a) tNil)
  | .srt a => tCB (rSortedSet C.w) (tCons (tCB (rSetOfI C.w C.K) (tCons (rd C Γ a) tNil)) tNil)
  | .call k es => match Γ.fs[k]? with
    | some F => tCall (spOf C F) [] E0 (rdA C Γ es)
    | none => tFalse
  | .lc t it e => tLc (rdI C Γ it) (t.rd C.K) tYes (rd C Γ e) t.sl
  | .lcQ t a e => tLc (iList C.K (rd C Γ a)) (t.rd C.K) tYes (rd C Γ e) t.sl
  | .lcf t it c e => tLc (rdI C Γ it) (t.rd C.K) (rdT C Γ c) (rd C Γ e) t.sl
  | _ => tFalse
def rdA (C : Cf) (Γ : Ga) : E → TA
  | .nil => tNil
  | .cons a r => tCons (rd C Γ a) (rdA C Γ r)
  | _ => tFalse
def rdO (C : Cf) (Γ : Ga) : E → TO
  | .nil => tNoPart
  | .cons a _ => tPart (rd C Γ a)
  | _ => tFalse
def rdT (C : Cf) (Γ : Ga) : E → TT
  | .not a => tNot (rdT C Γ a)
  | .and a b => tAnd (rdT C Γ a) (rdT C Γ b)
  | .or a b => tOr (rdT C Γ a) (rdT C Γ b)
  | .var i => tB (tVar i)
  | .bl b => tB (tC (.bl b))
  | .eq a b => tB (tOp (rEqD C.K) (rd C Γ a) (rd C Γ b))
  | .ne a b => tB (tOp (rNeD C.K) (rd C Γ a) (rd C Γ b))
  | .cmp o a b => tB (tOp o.r (rd C Γ a) (rd C Γ b))
  | .chn o o' a b c => tB (tChain o.r o'.r (rd C Γ a) (rd C Γ b) (rd C Γ c))
  | .isb a b => tB (tOp rIsB (rd C Γ a) (rd C Γ b))
  | .isnb a b => tB (tOp rNotB (rd C Γ a) (rd C Γ b))
  | .isI t a => tB (tCB (rIsi C.K) (tCons (rd C Γ a) (tCons (tC (.ty t.nm)) tNil)))
  | .all a => tB (tCB (rAll C.K) (tCons (rd C Γ a) tNil))
  | .any a => tB (tCB (rAny C.K) (tCons (rd C Γ a) tNil))
  | .call k es => tB (match Γ.fs[k]? with
    | some F => tCall (spOf C F) [] E0 (rdA C Γ es)
    | none => tFalse)
  | .inn a b => tB (tOp (rInD C.K) (rd C Γ a) (rd C Γ b))
  | .nin a b => tB (tOp (rNotInD C.K) (rd C Γ a) (rd C Γ b))
  | .inT a b => tB (tOp (rIn C.K false) (rd C Γ a) (rd C Γ b))
  | .isC c a => tB (tCB (rIsi C.K) (tCons (rd C Γ a) (tCons (tC (.ref (C.Cl c).1)) tNil)))
  | .ix a b => tB (tOp (rIx C.K) (rd C Γ a) (rd C Γ b))
  | .meth m o es => tB (match Γ.ms[m]? with
    | some p => tMs C p.1 (rd C Γ o) (rdA C Γ es) p.2
    | none => tFalse)
  | _ => tFalse
def rdI (C : Cf) (Γ : Ga) : E → TI
  | .itL a => iList C.K (rd C Γ a)
  | .itT a => iTup C.K (rd C Γ a)
  | .itR a => iRng1 (tCons (rd C Γ a) tNil)
  | .itR2 a b => iRng2 (tCons (rd C Γ a) (tCons (rd C Γ b) tNil))
  | .itR3 a b c => iRng3 (tCons (rd C Γ a) (tCons (rd C Γ b) (tCons (rd C Γ c) tNil)))
  | .itZ a b => iZip C.K (tCons (rd C Γ a) (tCons (rd C Γ b) tNil))
  | .itE a => iEnum C.K (tCons (rd C Γ a) tNil)
  | _ => tFalse
end
end G

namespace G
open PySem PySem.Spec PyProof.Rows L2
section
variable {X : Cx}
theorem cr_minDat (hc : X.calm = true) (hu : X.A.units + 64 < cLine) : CallR X (.builtin "min") (rMinDat X.K) := by
  intro pins s σ H vs us Q I r h
  obtain ⟨a, xs, x, rr, rfl, hs, hd, al, hdep, q⟩ := h
  obtain ⟨its, rv, hl, _⟩ := I.list hs
  rw [Vals.ref1 r]
  obtain ⟨as, ra⟩ := Dp.readsAll I (x :: rr) xs its hd rv
  refine PySem.W.min_list_data (I.ok.hd hc) hl.isList (by simpa using ra) al (by omega) fun i u h' tk bs hi hr hk => ?_
  have hi' : its[i]? = some u := by simpa using hi
  have hlt : i < xs.length := by
    rw [rv.length]
    exact (List.getElem?_eq_some_iff.mp hi').1
  obtain ⟨w, ew, rw'⟩ := rv.get (List.getElem?_eq_getElem hlt)
  rw [hi'] at ew
  cases ew
  refine ⟨_, H, I.kept hk, rw', q i _ (List.getElem?_eq_getElem hlt) fun d k => ?_⟩
  obtain ⟨cs, rd'⟩ := Dp.reads I d _ _ k rw'
  exact ((reads_det (fun b o e _ => hk b o e) rd' hr).1).symm
theorem cr_maxDat (hc : X.calm = true) (hu : X.A.units + 64 < cLine) : CallR X (.builtin "max") (rMaxDat X.K) := by
  intro pins s σ H vs us Q I r h
  obtain ⟨a, xs, x, rr, rfl, hs, hd, al, hdep, q⟩ := h
  obtain ⟨its, rv, hl, _⟩ := I.list hs
  rw [Vals.ref1 r]
  obtain ⟨as, ra⟩ := Dp.readsAll I (x :: rr) xs its hd rv
  refine PySem.W.max_list_data (I.ok.hd hc) hl.isList (by simpa using ra) al (by omega) fun i u h' tk bs hi hr hk => ?_
  have hi' : its[i]? = some u := by simpa using hi
  have hlt : i < xs.length := by
    rw [rv.length]
    exact (List.getElem?_eq_some_iff.mp hi').1
  obtain ⟨w, ew, rw'⟩ := rv.get (List.getElem?_eq_getElem hlt)
  rw [hi'] at ew
  cases ew
  refine ⟨_, H, I.kept hk, rw', q i _ (List.getElem?_eq_getElem hlt) fun d k => ?_⟩
  obtain ⟨cs, rd'⟩ := Dp.reads I d _ _ k rw'
  exact ((reads_det (fun b o e _ => hk b o e) rd' hr).1).symm
/-- either of two readings -/
theorem pe_or {e : Expr} {t u : TE} (h : PE X e t) (k : PE X e u) : PE X e (fun σ H Q => t σ H Q ∨ u σ H Q) :=
  ⟨fun pins s σ H Q I z => z.elim (h.1 pins s σ H Q I) (k.1 pins s σ H Q I)⟩
theorem pe_nope {e : Expr} : PE X e (fun _ _ _ => False) := ⟨fun pins s σ H Q I z => z.elim⟩
end
end G

namespace G
open PySem L2
section
variable (C : Cf) (B0 H0 : Hp)
def EvOk (te : TE) (δ : List Sl) (r : Rs) : Prop := ∀ B H σ, Stt C B0 H0 B H σ δ → ∀ Q : VK, (∀ v B' H', Gro B H B' H' → Stt C B0 H0 B' H' σ δ → Rp C (Rg B0 H0 B' H' r.2.1 r.2.2) r.1 v → Q v H') → te σ H Q
def ArOk (ta : TA) (δ : List Sl) (r : List D × Bool × Bool) : Prop := ∀ B H σ, Stt C B0 H0 B H σ δ → ∀ Q : List V → Hp → Prop, (∀ vs B' H', Gro B H B' H' → Stt C B0 H0 B' H' σ δ → Rps C (Rg B0 H0 B' H' r.2.1 r.2.2) r.1 vs → Q vs H') → ta σ H Q
def TtOk (tt : TT) (δ : List Sl) (b : Bool) : Prop := ∀ B H σ, Stt C B0 H0 B H σ δ → ∀ Q : Bool → Hp → Prop, (∀ B' H', Gro B H B' H' → Stt C B0 H0 B' H' σ δ → Q b H') → tt σ H Q
def PoOk (to : TO) (δ : List Sl) (o : Option Int) : Prop := ∀ B H σ, Stt C B0 H0 B H σ δ → ∀ Q : Option Int → Hp → Prop, (∀ B' H', Gro B H B' H' → Stt C B0 H0 B' H' σ δ → Q o H') → to σ H Q
def NwOk (te : TE) (δ : List Sl) (ds : List D) (f g : Bool) : Prop := ∀ B H σ, Stt C B0 H0 B H σ δ → ∀ Q : VK, (∀ p vs B' H', Gro B H B' H' → Stt C B0 H0 B' H' σ δ → H p = none → B' p = none → H' p = some (.lst vs) → Rps C (Rg B0 H0 B' H' f g) ds vs → Q (.ref p) H') → te σ H Q
def WkOk (J : It) (ds : List D) (g : Bool) (B1 : Hp) : Prop := ∃ (Gd : Hp → Prop) (Y : Nat → Hp → V → Hp → Prop), Walk J ds.length Gd Y ∧ (∀ B' H' σ' δ', Same B1 B' → Stt C B0 H0 B' H' σ' δ' → Gd H') ∧
  ∀ (i : Nat) H' x H2 B' σ' δ', i < ds.length → Same B1 B' → Stt C B0 H0 B' H' σ' δ' → Y i H' x H2 → ∃ d B2, ds[i]? = some d ∧ Gro B' H' B2 H2 ∧ Stt C B0 H0 B2 H2 σ' δ' ∧ Rp C (Rg B0 H0 B2 H2 true g) d x
def ItOk (wi : TI) (δ : List Sl) (r : List D × Bool) : Prop := ∀ B H σ, Stt C B0 H0 B H σ δ → ∀ R : It → Hp → Prop, (∀ J B' H', Gro B H B' H' → Stt C B0 H0 B' H' σ δ → WkOk C B0 H0 J r.1 r.2 B' → R J H') → wi σ H R
def WkOkW (J : It) (ds : List D) (g : Bool) (B1 H1 : Hp) : Prop := ∃ (Gd : Hp → Prop) (Y : Nat → Hp → V → Hp → Prop), Walk J ds.length Gd Y ∧ (∀ B' H' σ' δ', Same B1 B' → Same H1 H' → Stt C B0 H0 B' H' σ' δ' → Gd H') ∧
  ∀ (i : Nat) H' x H2 B' σ' δ', i < ds.length → Same B1 B' → Same H1 H' → Stt C B0 H0 B' H' σ' δ' → Y i H' x H2 → ∃ d B2, ds[i]? = some d ∧ Gro B' H' B2 H2 ∧ Stt C B0 H0 B2 H2 σ' δ' ∧ Rp C (Rg B0 H0 B2 H2 true g) d x
def ItOkW (wi : TI) (δ : List Sl) (r : List D × Bool) : Prop := ∀ B H σ, Stt C B0 H0 B H σ δ → ∀ R : It → Hp → Prop, (∀ J B' H', Gro B H B' H' → Stt C B0 H0 B' H' σ δ → WkOkW C B0 H0 J r.1 r.2 B' H' → R J H') → wi σ H R
end
section
variable {C : Cf} {B0 H0 : Hp} {δ : List Sl} {ta tb tc te : TE}
theorem NwOk.ev {ds : List D} {f g : Bool} (h : NwOk C B0 H0 te δ ds f g) : EvOk C B0 H0 te δ (.ls ds, f, g) := by
  intro B H σ S Q q
  refine h B H σ S Q fun p vs B' H' G S' hp hb hh r => ?_
  have h0 : H0 p = none := S.ex0.free hp
  cases f with
  | true =>
    have nw : ∀ z o, (upd B' p (.lst vs)) z = some o → B z = some o ∨ H z = none := fun z o k => by
      by_cases e : z = p
      · subst e; exact .inr hp
      · rw [upd_ne e] at k; exact G.nw z o k
    refine q _ (upd B' p (.lst vs)) H' ⟨G.eb.trans (same_upd hb), G.eh, nw⟩ (S.grow (G.eb.trans (same_upd hb)) G.eh (fun z o k => ?_) nw) ?_
    · by_cases e : z = p
      · subst e; rw [upd_same] at k; rw [hh]; exact k
      · rw [upd_ne e] at k; exact S'.sub _ _ k
    · show Rp C (Rg B0 H0 (upd B' p (.lst vs)) H' true g) (.ls ds) (.ref p)
      rw [rp_ls]
      refine ⟨p, vs, rfl, ?_, r.mono (rg_mono (same_upd hb) (Same.refl _) _ _)⟩
      cases g
      · exact upd_same
      · show (match H0 p with | none => (upd B' p (.lst vs)) p | some _ => none) = _
        rw [h0]; exact upd_same
  | false =>
    refine q _ B' H' G S' ?_
    show Rp C (Rg B0 H0 B' H' false g) (.ls ds) (.ref p)
    rw [rp_ls]
    refine ⟨p, vs, rfl, ?_, r⟩
    cases g
    · show (match B0 p, H0 p with | none, some _ => none | _, _ => H' p) = _
      rw [h0]; cases B0 p <;> exact hh
    · show (match H0 p with | none => H' p | some _ => none) = _
      rw [h0]; exact hh
theorem rps_flat {H H' : Hp} : ∀ {ds : List D} {vs : List V}, flats ds = true → Rps C H ds vs → Rps C H' ds vs
  | [], _, _, h => by simpa only [Rps] using h
  | d :: ds, vs, e, h => by
    simp only [flats, List.all_cons, Bool.and_eq_true] at e
    simp only [Rps] at h ⊢
    obtain ⟨v, r, h1, h2, h3⟩ := h
    exact ⟨v, r, h1, h2.flat e.1, rps_flat e.2 h3⟩
theorem NwOk.up {ds : List D} {f g : Bool} (h : NwOk C B0 H0 te δ ds f g) : NwOk C B0 H0 te δ ds (f || flats ds) g := by
  cases e : flats ds with
  | false => rw [Bool.or_false]; exact h
  | true =>
    rw [Bool.or_true]
    intro B H σ S Q q
    exact h B H σ S Q fun p vs B' H' G S' hp hb hh r => q p vs B' H' G S' hp hb hh (rps_flat e r)
theorem NwOk.up2 {ds : List D} {f g : Bool} (h : NwOk C B0 H0 te δ ds f g) : NwOk C B0 H0 te δ ds (f || flats ds) (g || flats ds) := by
  cases e : flats ds with
  | false => rw [Bool.or_false, Bool.or_false]; exact h
  | true =>
    rw [Bool.or_true, Bool.or_true]
    intro B H σ S Q q
    exact h B H σ S Q fun p vs B' H' G S' hp hb hh r => q p vs B' H' G S' hp hb hh (rps_flat e r)
/-- what a rule lays at any free place is a new list -/
theorem nw_of {ds : List D} {f g : Bool} {B H : Hp} {σ : St} {vs : List V} (S : Stt C B0 H0 B H σ δ) (r : Rps C (Rg B0 H0 B H f g) ds vs) {B1 H1 : Hp} (G : Gro B1 H1 B H) {Q : VK}
    (q : ∀ p vs B' H', Gro B1 H1 B' H' → Stt C B0 H0 B' H' σ δ → H1 p = none → B' p = none → H' p = some (.lst vs) → Rps C (Rg B0 H0 B' H' f g) ds vs → Q (.ref p) H') : ∀ p, H p = none → Q (.ref p) (upd H p (.lst vs)) := fun p hp =>
  q p vs B (upd H p (.lst vs)) ⟨G.eb, G.eh.trans (same_upd hp), G.nw⟩ (S.cell hp) (G.eh.free hp) (S.sub.free hp) upd_same (r.mono (rg_mono (Same.refl _) (same_upd hp) _ _))
theorem ev_c {d : D} {v : V} (r : Rp C Emp d v) : EvOk C B0 H0 (tC v) δ (d, true, true) := fun B H σ S Q q =>
  q v B H (Gro.refl _ _) S (r.mono fun _ _ h => by cases h)
theorem ev_sh {i : Nat} {d : D} {g : Bool} (h : δ[i]? = some (.sh d g)) : EvOk C B0 H0 (tVar i) δ (d, true, g) := fun B H σ S Q q => by
  obtain ⟨v, e, r⟩ := S.shr i d g h
  exact ⟨v, e, q v B H (Gro.refl _ _) S r⟩
theorem ev_ow {i : Nat} {ds : List D} {g : Bool} (h : δ[i]? = some (.ow ds g)) : EvOk C B0 H0 (tVar i) δ (.ls ds, false, g) := fun B H σ S Q q => by
  obtain ⟨p, vs, e, h0, hb, hh, r⟩ := S.own i ds g h
  refine ⟨.ref p, e, q _ B H (Gro.refl _ _) S ?_⟩
  show Rp C (Rg B0 H0 B H false g) (.ls ds) (.ref p)
  rw [rp_ls]
  refine ⟨p, vs, rfl, ?_, r.mono (S.weak true g false g (fun h => by cases h) id)⟩
  cases g
  · show (match B0 p, H0 p with | none, some _ => none | _, _ => H p) = _
    rw [h0]; cases B0 p <;> exact hh
  · show (match H0 p with | none => H p | some _ => none) = _
    rw [h0]; exact hh
theorem ev_rg {i : Nat} {d : D} (h : δ[i]? = some (.rg d)) : EvOk C B0 H0 (tVar i) δ (d, false, false) := fun B H σ S Q q => by
  obtain ⟨v, e, r⟩ := S.rgn i d h
  exact ⟨v, e, q v B H (Gro.refl _ _) S r⟩
theorem Stt.trRp {B H : Hp} {σ : St} (S : Stt C B0 H0 B H σ δ) {i : Nat} {d : D} (h : δ[i]? = some (.tr d)) : ∃ v ps, σ[i]? = some (some v) ∧ Tr C B H d v ps ∧ (∀ p ∈ ps, H0 p = none) ∧ Rp C (Rsd B0 H0 H) d v := by
  obtain ⟨φ, T⟩ := S.tre
  obtain ⟨v, e, t⟩ := T.tr i d h
  exact ⟨v, φ i, e, t, fun p hp => (T.nw i d p h hp).1, t.rp S.b_rsd fun p hp o ho => rsd_at (T.nw i d p h hp).1 ho⟩
theorem ev_tr {i : Nat} {d : D} (h : δ[i]? = some (.tr d)) : EvOk C B0 H0 (tVar i) δ (d, false, false) := fun B H σ S Q q => by
  obtain ⟨v, ps, e, _, _, r⟩ := S.trRp h
  exact ⟨v, e, q v B H (Gro.refl _ _) S r⟩
theorem ev_al {i j : Nat} {p : List Nat} {d d' : D} (h : δ[i]? = some (.al j p)) (hj : δ[j]? = some (.tr d)) (hs : d.sub p = some d') : EvOk C B0 H0 (tVar i) δ (d', false, false) := fun B H σ S Q q => by
  obtain ⟨v, e, a⟩ := S.ali i j p h
  obtain ⟨w, d2, ew, n⟩ := a d hj
  have n2 := n.sub
  rw [hs] at n2
  cases n2
  obtain ⟨w', ps, ew', t, h0, _⟩ := S.trRp hj
  rw [ew] at ew'
  cases ew'
  obtain ⟨v', qs, n', t', sb⟩ := t.nav hs
  obtain ⟨_, rfl⟩ := n.fn n'
  exact ⟨v, e, q v B H (Gro.refl _ _) S (t'.rp S.b_rsd fun p hp o ho => rsd_at (h0 p (sb p hp)) ho)⟩
/-- two operands -/
theorem ev_two {r : R2} {x y : D} {f g f' g' : Bool} (ha : EvOk C B0 H0 ta δ (x, f, g)) (hb : EvOk C B0 H0 tb δ (y, f', g')) {B H : Hp} {σ : St} (S : Stt C B0 H0 B H σ δ) {Q : VK}
    (k : ∀ v u B' H', Gro B H B' H' → Stt C B0 H0 B' H' σ δ → Rp C (Rg B0 H0 B' H' f g) x v → Rp C (Rg B0 H0 B' H' f' g') y u → r v u H' Q) : tOp r ta tb σ H Q :=
  ha B H σ S _ fun v B1 H1 G1 S1 r1 => hb B1 H1 σ S1 _ fun u B2 H2 G2 S2 r2 => k v u B2 H2 (G1.trans G2) S2 (r1.mono (G2.rg _ _)) r2
/-- two operands, a flat value that is made of them without a change -/
theorem ev_flat2 {r : R2} {x y z : D} {zv : V} {f g f' g' : Bool} (ha : EvOk C B0 H0 ta δ (x, f, g)) (hb : EvOk C B0 H0 tb δ (y, f', g')) (hz : Rp C Emp z zv)
    (k : ∀ v u H (Q : VK), Rp C H x v → Rp C H y u → Q zv H → r v u H Q) : EvOk C B0 H0 (tOp r ta tb) δ (z, true, true) := fun B H σ S Q q =>
  ev_two ha hb S fun v u B' H' G' S' r1 r2 => k v u H' Q (r1.mono (S'.toH _ _)) (r2.mono (S'.toH _ _)) (q zv B' H' G' S' (hz.mono fun _ _ h => by cases h))
theorem emp_int (i : Int) : Rp C Emp (.int i) (.int i) := by rw [rp_int]
theorem emp_bl (i : Bool) : Rp C Emp (.bl i) (.bl i) := by rw [rp_bl]
theorem emp_str (i : Str) : Rp C Emp (.str i) (.str i) := by rw [rp_str]
theorem emp_non : Rp C Emp .non .non := by rw [rp_non]
theorem bo_ok {o : Bo} {i j z : Int} (h : o.run i j = some z) {H : Hp} {Q : VK} (q : Q (.int z) H) : o.r (.int i) (.int j) H Q := by
  cases o <;> simp only [Bo.run] at h
  · cases h; exact ⟨i, j, rfl, rfl, q⟩
  · cases h; exact ⟨i, j, rfl, rfl, q⟩
  · split at h
    · cases h; exact ⟨i, j, rfl, rfl, (by assumption), q⟩
    · cases h
  · split at h
    · cases h; exact ⟨i, j, rfl, rfl, (by assumption), q⟩
    · cases h
  · split at h
    · cases h; exact ⟨i, j, rfl, rfl, (by assumption), q⟩
    · cases h
  · split at h
    · cases h; exact ⟨i, j, rfl, rfl, (by assumption), q⟩
    · cases h
  · split at h
    · cases h; exact ⟨i, j, rfl, rfl, (by assumption), q⟩
    · cases h
theorem co_ok {o : Co} {i j : Int} {H : Hp} {Q : VK} (q : Q (.bl (o.f i j)) H) : o.r (.int i) (.int j) H Q := by
  cases o <;> exact ⟨i, j, rfl, rfl, q⟩
theorem ev_bin {o : Bo} {i j z : Int} {f g f' g' : Bool} (ha : EvOk C B0 H0 ta δ (.int i, f, g)) (hb : EvOk C B0 H0 tb δ (.int j, f', g')) (h : o.run i j = some z) : EvOk C B0 H0 (tOp o.r ta tb) δ (.int z, true, true) :=
  ev_flat2 ha hb (emp_int z) fun v u H Q r1 r2 q => by
    rw [rp_int] at r1 r2
    subst r1 r2
    exact bo_ok h q
theorem ev_cmp {o : Co} {i j : Int} {f g f' g' : Bool} (ha : EvOk C B0 H0 ta δ (.int i, f, g)) (hb : EvOk C B0 H0 tb δ (.int j, f', g')) : EvOk C B0 H0 (tOp o.r ta tb) δ (.bl (o.f i j), true, true) :=
  ev_flat2 ha hb (emp_bl _) fun v u H Q r1 r2 q => by
    rw [rp_int] at r1 r2
    subst r1 r2
    exact co_ok q
theorem ev_eq {x y : D} {f g f' g' : Bool} (ha : EvOk C B0 H0 ta δ (x, f, g)) (hb : EvOk C B0 H0 tb δ (y, f', g')) (h : (x.eqok && y.eqok) = true) : EvOk C B0 H0 (tOp (rEqD C.K) ta tb) δ (.bl (x.eqv y), true, true) :=
  ev_flat2 ha hb (emp_bl _) fun v u H Q r1 r2 q => by
    rw [Bool.and_eq_true] at h
    obtain ⟨h1, h2⟩ := h
    simp only [D.eqok, Bool.and_eq_true] at h1 h2
    exact ⟨x.py, y.py, r1.dp h1.1, r2.dp h2.1, h1.2, h2.2, q⟩
theorem ev_ne {x y : D} {f g f' g' : Bool} (ha : EvOk C B0 H0 ta δ (x, f, g)) (hb : EvOk C B0 H0 tb δ (y, f', g')) (h : (x.eqok && y.eqok) = true) : EvOk C B0 H0 (tOp (rNeD C.K) ta tb) δ (.bl (!x.eqv y), true, true) :=
  ev_flat2 ha hb (emp_bl _) fun v u H Q r1 r2 q => by
    rw [Bool.and_eq_true] at h
    obtain ⟨h1, h2⟩ := h
    simp only [D.eqok, Bool.and_eq_true] at h1 h2
    exact ⟨x.py, y.py, r1.dp h1.1, r2.dp h2.1, h1.2, h2.2, q⟩
theorem ev_isb {i j : Bool} {f g f' g' : Bool} (ha : EvOk C B0 H0 ta δ (.bl i, f, g)) (hb : EvOk C B0 H0 tb δ (.bl j, f', g')) : EvOk C B0 H0 (tOp rIsB ta tb) δ (.bl (decide (i = j)), true, true) :=
  ev_flat2 ha hb (emp_bl _) fun v u H Q r1 r2 q => by
    rw [rp_bl] at r1 r2
    subst r1 r2
    exact ⟨i, j, rfl, rfl, q⟩
theorem ev_isnb {i j : Bool} {f g f' g' : Bool} (ha : EvOk C B0 H0 ta δ (.bl i, f, g)) (hb : EvOk C B0 H0 tb δ (.bl j, f', g')) : EvOk C B0 H0 (tOp rNotB ta tb) δ (.bl (!decide (i = j)), true, true) :=
  ev_flat2 ha hb (emp_bl _) fun v u H Q r1 r2 q => by
    rw [rp_bl] at r1 r2
    subst r1 r2
    exact ⟨i, j, rfl, rfl, q⟩
theorem sz_of {n : Nat} (h : n ≤ 1000000) : n ≤ sizeLine := Nat.le_trans h (by decide)
theorem nw_cat {xs ys : List D} {f g f' g' : Bool} (ha : EvOk C B0 H0 ta δ (.ls xs, f, g)) (hb : EvOk C B0 H0 tb δ (.ls ys, f', g')) (h : xs.length + ys.length ≤ 100000) : NwOk C B0 H0 (tOp rCat ta tb) δ (xs ++ ys) (f && f') (g && g') := fun B H σ S Q q =>
  ev_two ha hb S fun v u B' H' G' S' r1 r2 => by
    rw [rp_ls] at r1 r2
    obtain ⟨a, vs, rfl, h1, k1⟩ := r1
    obtain ⟨b, us, rfl, h2, k2⟩ := r2
    refine ⟨a, b, vs, us, rfl, rfl, S'.toH _ _ _ _ h1, S'.toH _ _ _ _ h2, sz_of (by rw [k1.len, k2.len]; omega), nw_of S' ?_ G' q⟩
    exact (k1.mono (S'.weakL f g f' g')).app (k2.mono (S'.weakR f' g' f g))
theorem rps_rep {H : Hp} {ds : List D} {vs : List V} (r : Rps C H ds vs) : ∀ n : Nat, Rps C H (List.replicate n ds).flatten (List.replicate n vs).flatten
  | 0 => by simp [Rps]
  | n + 1 => by
    rw [List.replicate_succ, List.replicate_succ, List.flatten_cons, List.flatten_cons]
    exact r.app (rps_rep r n)
theorem nw_rep {xs : List D} {k : Int} {f g f' g' : Bool} (ha : EvOk C B0 H0 ta δ (.ls xs, f, g)) (hb : EvOk C B0 H0 tb δ (.int k, f', g')) (h : 0 ≤ k ∧ k ≤ 1000 ∧ xs.length ≤ 1000) : NwOk C B0 H0 (tOp rRep ta tb) δ (List.replicate k.toNat xs).flatten f g := fun B H σ S Q q =>
  ev_two ha hb S fun v u B' H' G' S' r1 r2 => by
    rw [rp_ls] at r1
    rw [rp_int] at r2
    subst r2
    obtain ⟨a, vs, rfl, h1, k1⟩ := r1
    refine ⟨a, k, vs, rfl, rfl, S'.toH _ _ _ _ h1, by omega, by omega, sz_of ?_, nw_of S' (rps_rep k1 _) G' q⟩
    have e1 : k.toNat ≤ 1000 := by omega
    have e2 : vs.length ≤ 1000 := by rw [k1.len]; omega
    exact Nat.le_trans (Nat.mul_le_mul e2 e1) (by decide)
theorem ev_neg {i : Int} {f g : Bool} (ha : EvOk C B0 H0 ta δ (.int i, f, g)) : EvOk C B0 H0 (tUn (rU fun i => .int (-i)) ta) δ (.int (-i), true, true) := fun B H σ S Q q =>
  ha B H σ S _ fun v B1 H1 G1 S1 r1 => by
    rw [rp_int] at r1
    subst r1
    exact ⟨i, rfl, q _ B1 H1 G1 S1 ((emp_int _).mono fun _ _ h => by cases h)⟩
theorem rp_emp {H : Hp} {d : D} {v : V} (h : Rp C Emp d v) : Rp C H d v := h.mono fun _ _ h => by cases h
theorem ev_not {b : Bool} {f g : Bool} (ha : EvOk C B0 H0 ta δ (.bl b, f, g)) : EvOk C B0 H0 (tNotV ta) δ (.bl (!b), true, true) := fun B H σ S Q q =>
  ha B H σ S _ fun v B1 H1 G1 S1 r1 => by
    rw [rp_bl] at r1
    subst r1
    exact ⟨b, rfl, q _ B1 H1 G1 S1 (rp_emp (emp_bl _))⟩
theorem ev_chn1 {o o' : Co} {i j k : Int} {f g f' g' f2 g2 : Bool} (ha : EvOk C B0 H0 ta δ (.int i, f, g)) (hb : EvOk C B0 H0 tb δ (.int j, f', g')) (hc : EvOk C B0 H0 tc δ (.int k, f2, g2)) (h : o.f i j = true) : EvOk C B0 H0 (tChain o.r o'.r ta tb tc) δ (.bl (o'.f j k), true, true) := fun B H σ S Q q =>
  ha B H σ S _ fun v B1 H1 G1 S1 r1 => hb B1 H1 σ S1 _ fun u B2 H2 G2 S2 r2 => by
    rw [rp_int] at r1 r2
    subst r1 r2
    refine co_ok ⟨true, by rw [h], ?_⟩
    rw [if_pos rfl]
    refine hc B2 H2 σ S2 _ fun w B3 H3 G3 S3 r3 => ?_
    rw [rp_int] at r3
    subst r3
    exact co_ok (q _ B3 H3 ((G1.trans G2).trans G3) S3 (rp_emp (emp_bl _)))
theorem ev_chn0 {o o' : Co} {i j : Int} {f g f' g' : Bool} (ha : EvOk C B0 H0 ta δ (.int i, f, g)) (hb : EvOk C B0 H0 tb δ (.int j, f', g')) (h : ¬ o.f i j = true) : EvOk C B0 H0 (tChain o.r o'.r ta tb tc) δ (.bl false, true, true) := fun B H σ S Q q =>
  ha B H σ S _ fun v B1 H1 G1 S1 r1 => hb B1 H1 σ S1 _ fun u B2 H2 G2 S2 r2 => by
    rw [rp_int] at r1 r2
    subst r1 r2
    refine co_ok ⟨false, by rw [Bool.eq_false_iff.mpr h], ?_⟩
    rw [if_neg Bool.false_ne_true]
    exact q _ B2 H2 (G1.trans G2) S2 (rp_emp (emp_bl _))
theorem ev_and1 {r : Rs} {f g : Bool} (ha : EvOk C B0 H0 ta δ (.bl true, f, g)) (hb : EvOk C B0 H0 tb δ r) : EvOk C B0 H0 (tAndV ta tb) δ r := fun B H σ S Q q =>
  ha B H σ S _ fun v B1 H1 G1 S1 r1 => by
    rw [rp_bl] at r1
    subst r1
    refine ⟨true, rfl, ?_⟩
    rw [if_pos rfl]
    exact hb B1 H1 σ S1 _ fun v B2 H2 G2 S2 r2 => q v B2 H2 (G1.trans G2) S2 r2
theorem ev_and0 {f g : Bool} (ha : EvOk C B0 H0 ta δ (.bl false, f, g)) : EvOk C B0 H0 (tAndV ta tb) δ (.bl false, true, true) := fun B H σ S Q q =>
  ha B H σ S _ fun v B1 H1 G1 S1 r1 => by
    rw [rp_bl] at r1
    subst r1
    refine ⟨false, rfl, ?_⟩
    rw [if_neg Bool.false_ne_true]
    exact q _ B1 H1 G1 S1 (rp_emp (emp_bl _))
theorem ev_or0 {r : Rs} {f g : Bool} (ha : EvOk C B0 H0 ta δ (.bl false, f, g)) (hb : EvOk C B0 H0 tb δ r) : EvOk C B0 H0 (tOrV ta tb) δ r := fun B H σ S Q q =>
  ha B H σ S _ fun v B1 H1 G1 S1 r1 => by
    rw [rp_bl] at r1
    subst r1
    refine ⟨false, rfl, ?_⟩
    rw [if_neg Bool.false_ne_true]
    exact hb B1 H1 σ S1 _ fun v B2 H2 G2 S2 r2 => q v B2 H2 (G1.trans G2) S2 r2
theorem ev_or1 {f g : Bool} (ha : EvOk C B0 H0 ta δ (.bl true, f, g)) : EvOk C B0 H0 (tOrV ta tb) δ (.bl true, true, true) := fun B H σ S Q q =>
  ha B H σ S _ fun v B1 H1 G1 S1 r1 => by
    rw [rp_bl] at r1
    subst r1
    refine ⟨true, rfl, ?_⟩
    rw [if_pos rfl]
    exact q _ B1 H1 G1 S1 (rp_emp (emp_bl _))
theorem ev_ite1 {r : Rs} {t : TT} (ht : TtOk C B0 H0 t δ true) (ha : EvOk C B0 H0 ta δ r) : EvOk C B0 H0 (tIf t ta tb) δ r := fun B H σ S Q q =>
  ht B H σ S _ fun B1 H1 G1 S1 => by
    rw [if_pos rfl]
    exact ha B1 H1 σ S1 _ fun v B2 H2 G2 S2 r2 => q v B2 H2 (G1.trans G2) S2 r2
theorem ev_ite0 {r : Rs} {t : TT} (ht : TtOk C B0 H0 t δ false) (hb : EvOk C B0 H0 tb δ r) : EvOk C B0 H0 (tIf t ta tb) δ r := fun B H σ S Q q =>
  ht B H σ S _ fun B1 H1 G1 S1 => by
    rw [if_neg Bool.false_ne_true]
    exact hb B1 H1 σ S1 _ fun v B2 H2 G2 S2 r2 => q v B2 H2 (G1.trans G2) S2 r2
theorem atI_rps {H : Hp} {ds : List D} {vs : List V} {i : Int} {d : D} (r : Rps C H ds vs) (h : atI ds i = some d) : ∃ v, atI vs i = some v ∧ Rp C H d v := by
  unfold atI at h ⊢
  rw [r.len]
  cases e : ixN ds.length i with
  | none => rw [e] at h; cases h
  | some j =>
    rw [e] at h
    exact r.get (i := j) h
theorem ev_ixL {xs : List D} {i : Int} {d : D} {f g f' g' : Bool} (ha : EvOk C B0 H0 ta δ (.ls xs, f, g)) (hb : EvOk C B0 H0 tb δ (.int i, f', g')) (h : atI xs i = some d) : EvOk C B0 H0 (tOp (rIx C.K) ta tb) δ (d, f, g) := fun B H σ S Q q =>
  ev_two ha hb S fun v u B' H' G' S' r1 r2 => by
    rw [rp_ls] at r1
    rw [rp_int] at r2
    subst r2
    obtain ⟨a, vs, rfl, h1, k1⟩ := r1
    obtain ⟨v, e, r⟩ := atI_rps k1 h
    exact .inl ⟨a, vs, i, v, rfl, rfl, SqL.of (S'.toH _ _ _ _ h1), e, q v B' H' G' S' r⟩
theorem ev_ixT {xs : List D} {i : Int} {d : D} {f g f' g' : Bool} (ha : EvOk C B0 H0 ta δ (.tp xs, f, g)) (hb : EvOk C B0 H0 tb δ (.int i, f', g')) (h : atI xs i = some d) : EvOk C B0 H0 (tOp (rIx C.K) ta tb) δ (d, f, g) := fun B H σ S Q q =>
  ev_two ha hb S fun v u B' H' G' S' r1 r2 => by
    rw [rp_tp] at r1
    rw [rp_int] at r2
    subst r2
    obtain ⟨a, vs, rfl, h1, k1⟩ := r1
    obtain ⟨v, e, r⟩ := atI_rps k1 h
    exact .inr (.inl ⟨a, vs, i, v, rfl, rfl, sqt_mono (S'.toH _ _) h1, e, q v B' H' G' S' r⟩)
theorem ev_oix {j : Nat} {xs : List D} {i : Int} {d : D} {g f' g' : Bool} (hj : δ[j]? = some (.ow xs g)) (hb : EvOk C B0 H0 tb δ (.int i, f', g')) (h : atI xs i = some d) : EvOk C B0 H0 (tOp (rIx C.K) (tVar j) tb) δ (d, true, g) := fun B H σ S Q q => by
  obtain ⟨p, vs, e, h0, hb0, hh, r⟩ := S.own j xs g hj
  refine ⟨.ref p, e, ?_⟩
  refine hb B H σ S _ fun u B' H' G' S' r2 => ?_
  rw [rp_int] at r2
  subst r2
  obtain ⟨v, e, r⟩ := atI_rps (r.mono (G'.rg true g)) h
  exact .inl ⟨p, vs, i, v, rfl, rfl, SqL.of (G'.eh _ _ hh), e, q v B' H' G' S' r⟩
theorem rps_cut {H : Hp} {ds : List D} {vs : List V} (r : Rps C H ds vs) (lo hi : Option Int) : Rps C H (cutD ds lo hi) (cutV vs lo hi) := by
  unfold cutD cutV
  rw [r.len]
  exact (r.drop _).take _
theorem nw_sl {xs : List D} {lo hi : Option Int} {tl th : TO} {f g : Bool} (ha : EvOk C B0 H0 ta δ (.ls xs, f, g)) (hl : PoOk C B0 H0 tl δ lo) (hh : PoOk C B0 H0 th δ hi) : NwOk C B0 H0 (tSl (rSlL C.K) ta tl th) δ (cutD xs lo hi) f g := fun B H σ S Q q =>
  ha B H σ S _ fun v B1 H1 G1 S1 r1 => hl B1 H1 σ S1 _ fun B2 H2 G2 S2 => hh B2 H2 σ S2 _ fun B3 H3 G3 S3 => by
    rw [rp_ls] at r1
    obtain ⟨a, vs, rfl, h1, k1⟩ := r1
    refine ⟨a, vs, rfl, SqL.of ((G2.eh.trans G3.eh) _ _ (S1.toH _ _ _ _ h1)), nw_of S3 (rps_cut (k1.mono ((G2.trans G3).rg f g)) lo hi) ((G1.trans G2).trans G3) q⟩
theorem ev_tup {ta : TA} {ds : List D} {f g : Bool} (ha : ArOk C B0 H0 ta δ (ds, f, g)) (h : ds.length ≤ 1000) : EvOk C B0 H0 (tTup ta) δ (.tp ds, f, g) := fun B H σ S Q q =>
  ha B H σ S _ fun vs B1 H1 G1 S1 r1 => by
    refine ⟨sz_of (by rw [r1.len]; show ds.length ≤ _; omega), fun p hp => ?_⟩
    obtain ⟨B2, G2, S2, e⟩ := S1.alloc2 (o := .tup vs) hp f g
    refine q _ B2 _ (G1.trans G2) S2 ?_
    show Rp C (Rg B0 H0 B2 _ f g) (.tp ds) (.ref p)
    rw [rp_tp]
    exact ⟨p, vs, rfl, SqT.of e, r1.mono (G2.rg f g)⟩
theorem nw_lst {ta : TA} {ds : List D} {f g : Bool} (ha : ArOk C B0 H0 ta δ (ds, f, g)) (h : ds.length ≤ 1000) : NwOk C B0 H0 (tLst ta) δ ds f g := fun B H σ S Q q =>
  ha B H σ S _ fun vs B1 H1 G1 S1 r1 => ⟨sz_of (by rw [r1.len]; show ds.length ≤ _; omega), nw_of S1 r1 G1 q⟩
theorem ev_lenL {xs : List D} {f g : Bool} (ha : EvOk C B0 H0 ta δ (.ls xs, f, g)) : EvOk C B0 H0 (tCB (rLenS C.K) (tCons ta tNil)) δ (.int (xs.length : Int), true, true) := fun B H σ S Q q =>
  ha B H σ S _ fun v B1 H1 G1 S1 r1 => by
    rw [rp_ls] at r1
    obtain ⟨a, vs, rfl, h1, k1⟩ := r1
    refine ⟨a, vs, rfl, .inl (SqL.of (S1.toH _ _ _ _ h1)), ?_⟩
    rw [k1.len]
    exact q _ B1 H1 G1 S1 (rp_emp (emp_int _))
theorem ev_lenT {xs : List D} {f g : Bool} (ha : EvOk C B0 H0 ta δ (.tp xs, f, g)) : EvOk C B0 H0 (tCB (rLenS C.K) (tCons ta tNil)) δ (.int (xs.length : Int), true, true) := fun B H σ S Q q =>
  ha B H σ S _ fun v B1 H1 G1 S1 r1 => by
    rw [rp_tp] at r1
    obtain ⟨a, vs, rfl, h1, k1⟩ := r1
    refine ⟨a, vs, rfl, .inr (sqt_mono (S1.toH _ _) h1), ?_⟩
    rw [k1.len]
    exact q _ B1 H1 G1 S1 (rp_emp (emp_int _))
theorem nw_toL {xs : List D} {f g : Bool} (ha : EvOk C B0 H0 ta δ (.ls xs, f, g)) : NwOk C B0 H0 (tCB (rListS C.K) (tCons ta tNil)) δ xs f g := fun B H σ S Q q =>
  ha B H σ S _ fun v B1 H1 G1 S1 r1 => by
    rw [rp_ls] at r1
    obtain ⟨a, vs, rfl, h1, k1⟩ := r1
    exact ⟨a, vs, rfl, .inl (SqL.of (S1.toH _ _ _ _ h1)), nw_of S1 k1 G1 q⟩
theorem nw_toLT {xs : List D} {f g : Bool} (ha : EvOk C B0 H0 ta δ (.tp xs, f, g)) : NwOk C B0 H0 (tCB (rListS C.K) (tCons ta tNil)) δ xs f g := fun B H σ S Q q =>
  ha B H σ S _ fun v B1 H1 G1 S1 r1 => by
    rw [rp_tp] at r1
    obtain ⟨a, vs, rfl, h1, k1⟩ := r1
    exact ⟨a, vs, rfl, .inr (sqt_mono (S1.toH _ _) h1), nw_of S1 k1 G1 q⟩
theorem ints_of {H : Hp} : ∀ {ds : List D} {ns : List Int} {vs : List V}, intsOf ds = some ns → Rps C H ds vs → vs = ns.map V.int
  | [], ns, vs, h, r => by
    simp only [intsOf, Option.some.injEq] at h
    subst h
    simp only [Rps] at r
    exact r
  | d :: ds, ns, vs, h, r => by
    cases d with
    | int i =>
      simp only [intsOf] at h
      split at h
      · rename_i ms e
        cases h
        simp only [Rps] at r
        obtain ⟨v, us, rfl, r1, r2⟩ := r
        rw [rp_int] at r1
        subst r1
        rw [ints_of e r2]
        rfl
      · cases h
    | _ => simp [intsOf] at h
theorem bls_of {H : Hp} : ∀ {ds : List D} {ns : List Bool} {vs : List V}, blsOf ds = some ns → Rps C H ds vs → vs = ns.map V.bl
  | [], ns, vs, h, r => by
    simp only [blsOf, Option.some.injEq] at h
    subst h
    simp only [Rps] at r
    exact r
  | d :: ds, ns, vs, h, r => by
    cases d with
    | bl i =>
      simp only [blsOf] at h
      split at h
      · rename_i ms e
        cases h
        simp only [Rps] at r
        obtain ⟨v, us, rfl, r1, r2⟩ := r
        rw [rp_bl] at r1
        subst r1
        rw [bls_of e r2]
        rfl
      · cases h
    | _ => simp [blsOf] at h
theorem rps_ints {H : Hp} : ∀ ns : List Int, Rps C H (ns.map D.int) (ns.map V.int)
  | [] => by simp [Rps]
  | n :: ns => .cons (by rw [rp_int]) (rps_ints ns)
/-- a call of a list of truths, of ints -/
theorem ev_bls {r : List V → Hp → VK → Prop} {xs : List D} {bs : List Bool} {f g : Bool} {z : D} {zv : V} (ha : EvOk C B0 H0 ta δ (.ls xs, f, g)) (h : blsOf xs = some bs) (hz : Rp C Emp z zv) (k : ∀ a H (Q : VK), SqL C.K H a (bs.map V.bl) → Q zv H → r [.ref a] H Q) :
    EvOk C B0 H0 (tCB r (tCons ta tNil)) δ (z, true, true) := fun B H σ S Q q =>
  ha B H σ S _ fun v B1 H1 G1 S1 r1 => by
    rw [rp_ls] at r1
    obtain ⟨a, vs, rfl, h1, k1⟩ := r1
    have e := bls_of h k1
    subst e
    exact k a H1 Q (SqL.of (S1.toH _ _ _ _ h1)) (q _ B1 H1 G1 S1 (rp_emp hz))
theorem ev_ints {r : List V → Hp → VK → Prop} {xs : List D} {bs : List Int} {f g : Bool} {z : D} {zv : V} (ha : EvOk C B0 H0 ta δ (.ls xs, f, g)) (h : intsOf xs = some bs) (hz : Rp C Emp z zv) (k : ∀ a H (Q : VK), SqL C.K H a (bs.map V.int) → Q zv H → r [.ref a] H Q) :
    EvOk C B0 H0 (tCB r (tCons ta tNil)) δ (z, true, true) := fun B H σ S Q q =>
  ha B H σ S _ fun v B1 H1 G1 S1 r1 => by
    rw [rp_ls] at r1
    obtain ⟨a, vs, rfl, h1, k1⟩ := r1
    have e := ints_of h k1
    subst e
    exact k a H1 Q (SqL.of (S1.toH _ _ _ _ h1)) (q _ B1 H1 G1 S1 (rp_emp hz))
theorem ev_cnt {xs : List D} {ns : List Int} {n : Int} {f g f' g' : Bool} (ha : EvOk C B0 H0 ta δ (.ls xs, f, g)) (hb : EvOk C B0 H0 tb δ (.int n, f', g')) (h : intsOf xs = some ns) : EvOk C B0 H0 (tBM C.K "list" (rCntI C.K) ta (tCons tb tNil)) δ (.int ((ns.count n : Nat) : Int), true, true) := fun B H σ S Q q =>
  ha B H σ S _ fun v B1 H1 G1 S1 r1 => by
    rw [rp_ls] at r1
    obtain ⟨a, vs, rfl, h1, k1⟩ := r1
    have e := ints_of h k1
    subst e
    have h2 := S1.toH _ _ _ _ h1
    refine ⟨.inl ⟨rfl, _, SqL.of h2⟩, ?_⟩
    refine hb B1 H1 σ S1 _ fun u B2 H2 G2 S2 r2 => ?_
    rw [rp_int] at r2
    subst r2
    exact ⟨a, ns, n, rfl, rfl, SqL.of (G2.eh _ _ h2), q _ B2 H2 (G1.trans G2) S2 (rp_emp (emp_int _))⟩
theorem ev_mm {r : List V → Hp → VK → Prop} {i j z : Int} {f g f' g' : Bool} (ha : EvOk C B0 H0 ta δ (.int i, f, g)) (hb : EvOk C B0 H0 tb δ (.int j, f', g')) (k : ∀ H (Q : VK), Q (.int z) H → r [.int i, .int j] H Q) : EvOk C B0 H0 (tCB r (tCons ta (tCons tb tNil))) δ (.int z, true, true) := fun B H σ S Q q =>
  ha B H σ S _ fun v B1 H1 G1 S1 r1 => hb B1 H1 σ S1 _ fun u B2 H2 G2 S2 r2 => by
    rw [rp_int] at r1 r2
    subst r1 r2
    exact k H2 Q (q _ B2 H2 (G1.trans G2) S2 (rp_emp (emp_int _)))
/-! isinstance -/
theorem ty_sqt {K : PySem.W.Frag} {H : Hp} {a : Addr} {xs : List V} (h : SqT K H a xs) : TyX K H (.ref a) (.type "tuple") := by
  rcases h with (h | ⟨o, h⟩) | ⟨o, its, n, h, hc, _⟩
  · exact .base (.tup h)
  · exact .fTuple h
  · exact .kTuple h hc
theorem kit_all (K : PySem.W.Frag) : ∀ t : Ty5,
    PySem.W.kitOne K (.type "NoneType") (.type t.nm) = some false ∧ PySem.W.kitOne K (.type "bool") (.type t.nm) = some (match t with | .int => true | .bool => true | _ => false) ∧
    PySem.W.kitOne K (.type "int") (.type t.nm) = some (match t with | .int => true | _ => false) ∧ PySem.W.kitOne K (.type "str") (.type t.nm) = some (match t with | .str => true | _ => false) ∧
    PySem.W.kitOne K (.type "list") (.type t.nm) = some (match t with | .list => true | _ => false) ∧ PySem.W.kitOne K (.type "tuple") (.type t.nm) = some (match t with | .tuple => true | _ => false)
  | .int => ⟨kit_ty (by decide +kernel), kit_ty (by decide +kernel), kit_ty (by decide +kernel), kit_ty (by decide +kernel), kit_ty (by decide +kernel), kit_ty (by decide +kernel)⟩
  | .bool => ⟨kit_ty (by decide +kernel), kit_ty (by decide +kernel), kit_ty (by decide +kernel), kit_ty (by decide +kernel), kit_ty (by decide +kernel), kit_ty (by decide +kernel)⟩
  | .str => ⟨kit_ty (by decide +kernel), kit_ty (by decide +kernel), kit_ty (by decide +kernel), kit_ty (by decide +kernel), kit_ty (by decide +kernel), kit_ty (by decide +kernel)⟩
  | .list => ⟨kit_ty (by decide +kernel), kit_ty (by decide +kernel), kit_ty (by decide +kernel), kit_ty (by decide +kernel), kit_ty (by decide +kernel), kit_ty (by decide +kernel)⟩
  | .tuple => ⟨kit_ty (by decide +kernel), kit_ty (by decide +kernel), kit_ty (by decide +kernel), kit_ty (by decide +kernel), kit_ty (by decide +kernel), kit_ty (by decide +kernel)⟩
theorem isT_ok {t : Ty5} {d : D} {b : Bool} {v : V} {H : Hp} (h : isT t d = some b) (r : Rp C H d v) : ∃ tv, TyX C.K H v tv ∧ PySem.W.kitOne C.K tv (.type t.nm) = some b := by
  obtain ⟨k1, k2, k3, k4, k5, k6⟩ := kit_all C.K t
  cases d with
  | non => rw [rp_non] at r; subst r; exact ⟨_, .base .non, by rw [k1, ← h]; cases t <;> rfl⟩
  | bl x => rw [rp_bl] at r; subst r; exact ⟨_, .base (.bl x), by rw [k2, ← h]; cases t <;> rfl⟩
  | int x => rw [rp_int] at r; subst r; exact ⟨_, .base (.int x), by rw [k3, ← h]; cases t <;> rfl⟩
  | str x => rw [rp_str] at r; subst r; exact ⟨_, .base (.str x), by rw [k4, ← h]; cases t <;> rfl⟩
  | ls x => rw [rp_ls] at r; obtain ⟨a, vs, rfl, h1, _⟩ := r; exact ⟨_, .base (.lst h1), by rw [k5, ← h]; cases t <;> rfl⟩
  | tp x => rw [rp_tp] at r; obtain ⟨a, vs, rfl, h1, _⟩ := r; exact ⟨_, ty_sqt h1, by rw [k6, ← h]; cases t <;> rfl⟩
  | ob c x => cases t <;> simp [isT] at h
  | dc ks x =>
    rw [rp_dc] at r
    obtain ⟨a, vs, rfl, h1, _⟩ := r
    refine ⟨_, .base (.dK h1), ?_⟩
    have hb : b = false := by cases t <;> simpa [isT] using h.symm
    subst hb
    cases t <;> exact kit_ty (by decide +kernel)
theorem ev_isI {t : Ty5} {d : D} {b f g : Bool} (ha : EvOk C B0 H0 ta δ (d, f, g)) (h : isT t d = some b) : EvOk C B0 H0 (tCB (rIsi C.K) (tCons ta (tCons (tC (.ty t.nm)) tNil))) δ (.bl b, true, true) := fun B H σ S Q q =>
  ha B H σ S _ fun v B1 H1 G1 S1 r1 => by
    obtain ⟨tv, h1, h2⟩ := isT_ok h (r1.mono (S1.toH _ _))
    exact ⟨v, .ty t.nm, tv, .type t.nm, b, rfl, .ty _, h1, h2, q _ B1 H1 G1 S1 (rp_emp (emp_bl _))⟩
/-! sorted(set(..)) -/
theorem insU_mem (x : Int) : ∀ (l : List Int) (k : Int), k ∈ insU x l ↔ k = x ∨ k ∈ l
  | [], k => by simp [insU]
  | y :: r, k => by
    unfold insU
    split
    · simp
    · split
      · rename_i e
        subst e
        simp
      · simp only [List.mem_cons, insU_mem x r k]
        constructor
        · rintro (h | h | h)
          · exact .inr (.inl h)
          · exact .inl h
          · exact .inr (.inr h)
        · rintro (h | h | h)
          · exact .inr (.inl h)
          · exact .inl h
          · exact .inr (.inr h)
theorem insU_lt (x : Int) : ∀ {l : List Int}, l.Pairwise (· < ·) → (insU x l).Pairwise (· < ·)
  | [], _ => by simp [insU]
  | y :: r, h => by
    obtain ⟨h1, h2⟩ := List.pairwise_cons.mp h
    unfold insU
    split
    · rename_i e
      refine List.pairwise_cons.mpr ⟨fun z hz => ?_, h⟩
      rcases List.mem_cons.mp hz with rfl | hz
      · exact e
      · exact Int.lt_trans e (h1 z hz)
    · split
      · exact h
      · refine List.pairwise_cons.mpr ⟨fun z hz => ?_, insU_lt x h2⟩
        rcases (insU_mem x r z).mp hz with rfl | hz
        · omega
        · exact h1 z hz
theorem sdd_mem : ∀ (l : List Int) (k : Int), k ∈ sdd l ↔ k ∈ l
  | [], k => by simp [sdd]
  | x :: l, k => by
    show k ∈ insU x (sdd l) ↔ _
    rw [insU_mem, sdd_mem l k]
    simp
theorem sdd_lt : ∀ l : List Int, (sdd l).Pairwise (· < ·)
  | [] => List.Pairwise.nil
  | x :: l => insU_lt x (sdd_lt l)
theorem lt_same : ∀ {a b : List Int}, a.Pairwise (· < ·) → b.Pairwise (· < ·) → (∀ k, k ∈ a ↔ k ∈ b) → a = b
  | [], [], _, _, _ => rfl
  | [], y :: b, _, _, h => absurd ((h y).mpr (by simp)) (by simp)
  | x :: a, [], _, _, h => absurd ((h x).mp (by simp)) (by simp)
  | x :: a, y :: b, ha, hb, h => by
    obtain ⟨a1, a2⟩ := List.pairwise_cons.mp ha
    obtain ⟨b1, b2⟩ := List.pairwise_cons.mp hb
    have e : x = y := by
      have p := (h x).mp (by simp)
      have q := (h y).mpr (by simp)
      rcases List.mem_cons.mp p with p | p
      · exact p
      · rcases List.mem_cons.mp q with q | q
        · exact q.symm
        · have := b1 x p
          have := a1 y q
          omega
    subst e
    congr 1
    refine lt_same a2 b2 fun k => ⟨fun hk => ?_, fun hk => ?_⟩
    · rcases List.mem_cons.mp ((h k).mp (List.mem_cons_of_mem _ hk)) with e | e
      · have := a1 k hk
        omega
      · exact e
    · rcases List.mem_cons.mp ((h k).mpr (List.mem_cons_of_mem _ hk)) with e | e
      · have := b1 k hk
        omega
      · exact e
theorem nw_srt {xs : List D} {ns : List Int} {f g : Bool} (ha : EvOk C B0 H0 ta δ (.ls xs, f, g)) (h : intsOf xs = some ns) (hn : ns.length < 60) : NwOk C B0 H0 (tCB (rSortedSet C.w) (tCons (tCB (rSetOfI C.w C.K) (tCons ta tNil)) tNil)) δ ((sdd ns).map D.int) true true := fun B H σ S Q q =>
  ha B H σ S _ fun v B1 H1 G1 S1 r1 => by
    rw [rp_ls] at r1
    obtain ⟨a, vs, rfl, h1, k1⟩ := r1
    have e := ints_of h k1
    subst e
    refine ⟨a, ns, rfl, SqL.of (S1.toH _ _ _ _ h1), hn, fun s Sm n hs hS le => ?_⟩
    have S2 := S1.cell (o := SetO C.w s Sm n) hs
    refine ⟨s, Sm, n, rfl, upd_same, by omega, fun ms p lt mem _ hp => ?_⟩
    have e : ms = sdd ns := lt_same lt (sdd_lt ns) fun k => by
      rw [mem k, hS k, sdd_mem, decide_eq_true_eq]
    subst e
    exact nw_of S2 (rps_ints (sdd ns)) ⟨G1.eb, G1.eh.trans (same_upd hs), G1.nw⟩ q p hp
/-! arguments -/
theorem rps_rng (n : Nat) {H : Hp} : ∀ (f : Nat → Int) (l : List Nat), Rps C H (l.map fun k => D.int (f k)) (l.map fun k => V.int (f k))
  | f, [] => Rps.nil
  | f, k :: l => .cons (by rw [rp_int]) (rps_rng n f l)
theorem nw_toR {n : Int} {f g : Bool} (ha : EvOk C B0 H0 ta δ (.int n, f, g)) (h : -1000000 ≤ n ∧ n ≤ 1000000) : NwOk C B0 H0 (tLstRg (tRg1 ta)) δ (rngD 0 n.toNat) true true := fun B H σ S Q q =>
  ha B H σ S _ fun v B1 H1 G1 S1 r1 => by
    rw [rp_int] at r1
    subst r1
    refine ⟨n, rfl, ⟨by omega, by omega, by omega, by omega, by omega⟩, nw_of S1 ?_ G1 q⟩
    unfold rngD rgV
    rw [Int.sub_zero]
    exact rps_rng 0 (fun k => 0 + (k : Int)) _
theorem countP_pys (y : D) : ∀ xs : List D, ((D.pys xs).countP fun z => PyData.eqv z y.py) = xs.countP fun z => z.eqv y
  | [] => rfl
  | x :: xs => by
    simp only [D.pys, List.countP_cons, countP_pys y xs, D.eqv]
theorem ev_cntD {xs : List D} {y : D} {f g f' g' : Bool} (ha : EvOk C B0 H0 ta δ (.ls xs, f, g)) (hb : EvOk C B0 H0 tb δ (y, f', g')) (h : ((D.ls xs).eqok && y.eqok) = true) : EvOk C B0 H0 (tBM C.K "list" (rCntD C.K) ta (tCons tb tNil)) δ (.int ((xs.countP fun z => z.eqv y : Nat) : Int), true, true) := fun B H σ S Q q =>
  ha B H σ S _ fun v B1 H1 G1 S1 r1 => by
    have r1' := r1
    rw [rp_ls] at r1'
    obtain ⟨a, vs, rfl, h1, k1⟩ := r1'
    refine ⟨.inl ⟨rfl, vs, SqL.of (S1.toH _ _ _ _ h1)⟩, ?_⟩
    refine hb B1 H1 σ S1 _ fun u B2 H2 G2 S2 r2 => ?_
    rw [Bool.and_eq_true] at h
    obtain ⟨e1, e2⟩ := h
    simp only [D.eqok, Bool.and_eq_true] at e1 e2
    have d1 := (r1.mono ((S1.toH f g).trans G2.eh)).dp e1.1
    refine ⟨a, u, y.py, D.pys xs, rfl, rfl, d1, (r2.mono (S2.toH f' g')).dp e2.1, e1.2, e2.2, ?_⟩
    rw [countP_pys]
    exact q _ B2 H2 (G1.trans G2) S2 (rp_emp (emp_int _))
theorem ev_tupL {xs : List D} {f g : Bool} (ha : EvOk C B0 H0 ta δ (.ls xs, f, g)) : EvOk C B0 H0 (tCB (rTupS C.K) (tCons ta tNil)) δ (.tp xs, f || flats xs, g || flats xs) := fun B H σ S Q q =>
  ha B H σ S _ fun v B1 H1 G1 S1 r1 => by
    rw [rp_ls] at r1
    obtain ⟨a, vs, rfl, h1, k1⟩ := r1
    refine ⟨a, vs, rfl, .inl ⟨SqL.of (S1.toH _ _ _ _ h1), fun l hl => ?_⟩⟩
    obtain ⟨B2, G2, S2, e2⟩ := S1.alloc2 (o := .tup vs) hl (f || flats xs) (g || flats xs)
    refine q _ B2 _ (G1.trans G2) S2 ?_
    show Rp C (Rg B0 H0 B2 (upd H1 l (.tup vs)) (f || flats xs) (g || flats xs)) (.tp xs) (.ref l)
    rw [rp_tp]
    refine ⟨l, vs, rfl, SqT.of e2, ?_⟩
    have k2 := k1.mono (G2.rg f g)
    cases e : flats xs with
    | true => exact rps_flat e k2
    | false => rw [Bool.or_false, Bool.or_false]; exact k2
theorem tups_of {H : Hp} : ∀ {ds : List D} {nss : List (List Int)} {vs : List V}, tupsOf ds = some nss → Rps C H ds vs → ∃ ks : List (Addr × List Int), vs = ks.map (fun p => V.ref p.1) ∧ ks.map (·.2) = nss ∧ ∀ p ∈ ks, SqT C.K H p.1 (p.2.map V.int)
  | [], nss, vs, h, r => by
    simp only [tupsOf, Option.some.injEq] at h
    simp only [Rps] at r
    subst h r
    exact ⟨[], rfl, rfl, by simp⟩
  | .tp xs :: ds, nss, vs, h, r => by
    simp only [tupsOf] at h
    split at h
    · rename_i ns e1
      split at h
      · rename_i nss' e2
        cases h
        simp only [Rps] at r
        obtain ⟨v, us, rfl, r1, r2⟩ := r
        rw [rp_tp] at r1
        obtain ⟨a, ws, rfl, h1, k1⟩ := r1
        obtain ⟨ks, e3, e4, e5⟩ := tups_of e2 r2
        have e6 := ints_of e1 k1
        refine ⟨(a, ns) :: ks, by simp [e3], by simp [e4], fun p hp => ?_⟩
        rcases List.mem_cons.mp hp with rfl | hp
        · rw [← e6]; exact h1
        · exact e5 p hp
      · cases h
    · cases h
  | .non :: _, _, _, h, _ => by simp [tupsOf] at h
  | .bl _ :: _, _, _, h, _ => by simp [tupsOf] at h
  | .int _ :: _, _, _, h, _ => by simp [tupsOf] at h
  | .str _ :: _, _, _, h, _ => by simp [tupsOf] at h
  | .ls _ :: _, _, _, h, _ => by simp [tupsOf] at h
  | .ob _ _ :: _, _, _, h, _ => by simp [tupsOf] at h
theorem ddp_mem : ∀ {l : List (List Int)} {x : List Int}, x ∈ ddp l ↔ x ∈ l
  | [], x => by simp [ddp]
  | y :: l, x => by
    unfold ddp
    split
    · rename_i h
      rw [ddp_mem, List.mem_cons]
      constructor
      · exact .inr
      · rintro (rfl | h')
        · exact h
        · exact h'
    · rw [List.mem_cons, List.mem_cons, ddp_mem]
theorem ddp_nodup : ∀ l : List (List Int), (ddp l).Nodup
  | [] => by simp [ddp]
  | y :: l => by
    unfold ddp
    split
    · exact ddp_nodup l
    · rename_i h
      rw [List.nodup_cons, ddp_mem]
      exact ⟨h, ddp_nodup l⟩
theorem nodup_le : ∀ {l m : List (List Int)}, l.Nodup → (∀ x ∈ l, x ∈ m) → l.length ≤ m.length
  | [], m, _, _ => Nat.zero_le _
  | x :: l, m, nd, h => by
    rw [List.nodup_cons] at nd
    have hx := h x (by simp)
    have := nodup_le (l := l) (m := m.erase x) nd.2 fun y hy => (List.mem_erase_of_ne (show y ≠ x from fun e => nd.1 (by rw [← e]; exact hy))).mpr (h y (by simp [hy]))
    rw [List.length_erase_of_mem hx] at this
    have : 0 < m.length := List.length_pos_of_mem hx
    simp only [List.length_cons]
    omega
theorem ev_lenSet {xs : List D} {nss : List (List Int)} {f g : Bool} (ha : EvOk C B0 H0 ta δ (.ls xs, f, g)) (h : tupsOf xs = some nss) (hn : nss.length < 64) : EvOk C B0 H0 (tLenSetT C.K ta) δ (.int ((ddp nss).length : Int), true, true) := fun B H σ S Q q =>
  ha B H σ S _ fun v B1 H1 G1 S1 r1 => by
    rw [rp_ls] at r1
    obtain ⟨a, vs, rfl, h1, k1⟩ := r1
    obtain ⟨ks, rfl, e2, e3⟩ := tups_of h k1
    refine ⟨a, ks, rfl, SqL.of (S1.toH _ _ _ _ h1), fun p hp => sqt_mono (S1.toH _ _) (e3 p hp), ?_, fun L nd mem => ?_⟩
    · rw [← e2, List.length_map] at hn
      exact hn
    · have : L.length = (ddp nss).length := by
        refine Nat.le_antisymm (nodup_le nd fun x hx => ?_) (nodup_le (ddp_nodup _) fun x hx => ?_)
        · rw [ddp_mem, ← e2]; exact (mem x).mp hx
        · rw [ddp_mem, ← e2] at hx; exact (mem x).mpr hx
      rw [this]
      exact q _ B1 H1 G1 S1 (rp_emp (emp_int _))
theorem ar_nil : ArOk C B0 H0 tNil δ ([], true, true) := fun B H σ S Q q => q [] B H (Gro.refl _ _) S Rps.nil
theorem ar_cons {ta : TE} {tr : TA} {d : D} {ds : List D} {f g f' g' : Bool} (ha : EvOk C B0 H0 ta δ (d, f, g)) (hr : ArOk C B0 H0 tr δ (ds, f', g')) : ArOk C B0 H0 (tCons ta tr) δ (d :: ds, f && f', g && g') := fun B H σ S Q q =>
  ha B H σ S _ fun v B1 H1 G1 S1 r1 => hr B1 H1 σ S1 _ fun vs B2 H2 G2 S2 r2 =>
    q _ B2 H2 (G1.trans G2) S2 (.cons (r1.mono (Same.trans (G2.rg f g) (S2.weakL f g f' g'))) (r2.mono (S2.weakR f' g' f g)))
theorem po_none : PoOk C B0 H0 tNoPart δ none := fun B H σ S Q q => q B H (Gro.refl _ _) S
theorem po_some {i : Int} {f g : Bool} (ha : EvOk C B0 H0 ta δ (.int i, f, g)) : PoOk C B0 H0 (tPart ta) δ (some i) := fun B H σ S Q q =>
  ha B H σ S _ fun v B1 H1 G1 S1 r1 => by
    rw [rp_int] at r1
    exact ⟨i, r1, q B1 H1 G1 S1⟩
/-! tests -/
theorem tt_B {b f g : Bool} (ha : EvOk C B0 H0 ta δ (.bl b, f, g)) : TtOk C B0 H0 (tB ta) δ b := fun B H σ S Q q =>
  ha B H σ S _ fun v B1 H1 G1 S1 r1 => by
    rw [rp_bl] at r1
    exact ⟨b, r1, q B1 H1 G1 S1⟩
theorem tt_not {t : TT} {b : Bool} (h : TtOk C B0 H0 t δ b) : TtOk C B0 H0 (tNot t) δ (!b) := fun B H σ S Q q => h B H σ S _ q
theorem tt_and1 {t u : TT} {b : Bool} (h : TtOk C B0 H0 t δ true) (k : TtOk C B0 H0 u δ b) : TtOk C B0 H0 (tAnd t u) δ b := fun B H σ S Q q =>
  h B H σ S _ fun B1 H1 G1 S1 => by
    rw [if_pos rfl]
    exact k B1 H1 σ S1 _ fun B2 H2 G2 S2 => q B2 H2 (G1.trans G2) S2
theorem tt_and0 {t u : TT} (h : TtOk C B0 H0 t δ false) : TtOk C B0 H0 (tAnd t u) δ false := fun B H σ S Q q =>
  h B H σ S _ fun B1 H1 G1 S1 => by
    rw [if_neg Bool.false_ne_true]
    exact q B1 H1 G1 S1
theorem tt_or0 {t u : TT} {b : Bool} (h : TtOk C B0 H0 t δ false) (k : TtOk C B0 H0 u δ b) : TtOk C B0 H0 (tOr t u) δ b := fun B H σ S Q q =>
  h B H σ S _ fun B1 H1 G1 S1 => by
    rw [if_neg Bool.false_ne_true]
    exact k B1 H1 σ S1 _ fun B2 H2 G2 S2 => q B2 H2 (G1.trans G2) S2
theorem tt_or1 {t u : TT} (h : TtOk C B0 H0 t δ true) : TtOk C B0 H0 (tOr t u) δ true := fun B H σ S Q q =>
  h B H σ S _ fun B1 H1 G1 S1 => by
    rw [if_pos rfl]
    exact q B1 H1 G1 S1
theorem tt_yes : TtOk C B0 H0 tYes δ true := fun B H σ S Q q => q B H (Gro.refl _ _) S
/-! a call -/
theorem call_core {fr : Bool} {d : D} {f g : Bool} {B H B1 H1 H2 : Hp} {σ : St} {v : V} (G1 : Gro B H B1 H1) (S1 : Stt C B0 H0 B1 H1 σ δ) (e : Same H1 H2) (r : Rp C (Rsd (if fr = true then Emp else Rg B0 H0 B1 H1 f g) H1 H2) d v) {Q : VK}
    (q : ∀ v B' H', Gro B H B' H' → Stt C B0 H0 B' H' σ δ → Rp C (Rg B0 H0 B' H' (fr || f || d.flat) (fr || d.flat)) d v → Q v H') : Q v H2 := by
    -- the base behind the call: with all that is new
    have G2 : Gro B1 H1 (Rsd B1 H1 H2) H2 := by
      refine ⟨fun p o h => ?_, e, fun p o h => ?_⟩
      · unfold Rsd
        rw [h]
        exact e _ _ (S1.sub _ _ h)
      · unfold Rsd at h
        cases hb : B1 p with
        | some x =>
          rw [hb] at h
          have h : H2 p = some o := h
          have := e _ _ (S1.sub _ _ hb)
          rw [h] at this
          exact .inl this.symm
        | none =>
          cases hh : H1 p with
          | none => exact .inr rfl
          | some x => rw [hb, hh] at h; cases h
    have S2 : Stt C B0 H0 (Rsd B1 H1 H2) H2 σ δ := S1.grow G2.eb G2.eh rsd_sub G2.nw
    have n0 : ∀ p, H1 p = none → H0 p = none := fun p h => S1.ex0.free h
    by_cases fl : d.flat = true
    · exact q v _ H2 (G1.trans G2) S2 (r.flat fl)
    · have fl : d.flat = false := Bool.eq_false_iff.mpr fl
      rw [fl, Bool.or_false, Bool.or_false] at q
      cases hf : fr with
      | true =>
        rw [hf, if_pos rfl] at r
        rw [hf] at q
        refine q v _ H2 (G1.trans G2) S2 (r.mono fun p o h => ?_)
        show (match H0 p with | none => Rsd B1 H1 H2 p | some _ => none) = some o
        unfold Rsd Emp at h
        cases hh : H1 p with
        | some x => rw [hh] at h; cases h
        | none =>
          rw [hh] at h
          rw [n0 p hh]
          show Rsd B1 H1 H2 p = some o
          unfold Rsd
          rw [hh]
          cases B1 p <;> exact h
      | false =>
        rw [hf, if_neg Bool.false_ne_true] at r
        rw [hf] at q
        cases f with
        | true =>
          refine q v _ H2 (G1.trans G2) S2 (r.mono fun p o h => ?_)
          show Rsd B1 H1 H2 p = some o
          have w : ∀ p o, Rg B0 H0 B1 H1 true g p = some o → B1 p = some o := S1.weak true g true false id (fun h => by cases h)
          unfold Rsd at h ⊢
          cases hh : H1 p with
          | none => rw [hh] at h; cases B1 p <;> cases hx : Rg B0 H0 B1 H1 true g p <;> rw [hx] at h <;> exact h
          | some x =>
            rw [hh] at h
            cases hx : Rg B0 H0 B1 H1 true g p with
            | none => rw [hx] at h; cases h
            | some y => rw [hx] at h; rw [w p y hx]; exact h
        | false =>
          refine q v _ H2 (G1.trans G2) S2 (r.mono fun p o h => ?_)
          show Rsd B0 H0 H2 p = some o
          have w : ∀ p o, Rg B0 H0 B1 H1 false g p = some o → Rsd B0 H0 H1 p = some o := S1.weak false g false false id (fun h => by cases h)
          have h2 : H2 p = some o := rsd_sub p o h
          unfold Rsd at h
          cases hh : H1 p with
          | none =>
            unfold Rsd
            rw [n0 p hh]
            cases B0 p <;> exact h2
          | some x =>
            rw [hh] at h
            cases hx : Rg B0 H0 B1 H1 false g p with
            | none => rw [hx] at h; cases h
            | some y =>
              have z := w p y hx
              unfold Rsd at z ⊢
              split at z
              · cases z
              · exact h2
theorem ev_call {F : Fd} {ta : TA} {ds : List D} {d : D} {f g : Bool} {E : XK} (ha : ArOk C B0 H0 ta δ (ds, f, g)) (hl : ds.length = F.ar) (h : F.run ds = some d) : EvOk C B0 H0 (tCall (spOf C F) [] E ta) δ (d, F.fr || f || d.flat, F.fr || d.flat) := fun B H σ S Q q =>
  ha B H σ S _ fun vs B1 H1 G1 S1 r1 => by
    rw [List.append_nil]
    exact ⟨Rg B0 H0 B1 H1 f g, ds, d, S1.toH f g, r1, hl, h, fun v H2 e r _ => call_core G1 S1 e r q⟩
end
end G

namespace G
open PySem L2
section
variable {C : Cf} {B0 H0 : Hp} {δ : List Sl} {ta tb tc te : TE}
theorem Rps.back {H : Hp} : ∀ {ds : List D} {vs : List V} {i : Nat} {v : V}, Rps C H ds vs → vs[i]? = some v → ∃ d, ds[i]? = some d ∧ Rp C H d v := fun {ds vs i v} r h => by
  have hi : i < vs.length := (List.getElem?_eq_some_iff.mp h).1
  have hd : i < ds.length := by rw [← r.len]; exact hi
  obtain ⟨w, e, q⟩ := r.get (i := i) (List.getElem?_eq_getElem hd)
  rw [h] at e
  cases e
  exact ⟨_, List.getElem?_eq_getElem hd, q⟩
theorem rg_up {B H B' H' : Hp} (e : Same B B') (g : Bool) : Same (Rg B0 H0 B H true g) (Rg B0 H0 B' H' true g) := by
  rw [rg_true g (H := H') (H' := H)]
  exact rg_mono e (Same.refl _) true g
theorem it_L {ds : List D} {g : Bool} (ha : EvOk C B0 H0 ta δ (.ls ds, true, g)) : ItOk C B0 H0 (iList C.K ta) δ (ds, g) := fun B H σ S R q =>
  ha B H σ S _ fun v B1 H1 G1 S1 r1 => by
    rw [rp_ls] at r1
    obtain ⟨a, vs, rfl, h1, k1⟩ := r1
    have hb : B1 a = some (.lst vs) := S1.weak true g true false id (fun h => by cases h) _ _ h1
    refine ⟨a, rfl, ⟨vs, SqL.of (S1.sub _ _ hb)⟩, q _ B1 H1 G1 S1 ⟨fun H => SqL C.K H a vs, YAt vs, ?_, fun B' H' σ' δ' e S' => ?_, fun i H' x H2 B' σ' δ' hi e S' y => ?_⟩⟩
    · rw [show ds.length = vs.length from k1.len.symm]
      exact walk_list
    · exact SqL.of (S'.sub _ _ (e _ _ hb))
    · obtain ⟨rfl, y⟩ := y
      obtain ⟨d, h2, r⟩ := k1.back y
      exact ⟨d, B', h2, Gro.refl _ _, S', r.mono (rg_up e g)⟩
theorem it_T {ds : List D} {g : Bool} (ha : EvOk C B0 H0 ta δ (.tp ds, true, g)) : ItOk C B0 H0 (iTup C.K ta) δ (ds, g) := fun B H σ S R q =>
  ha B H σ S _ fun v B1 H1 G1 S1 r1 => by
    rw [rp_tp] at r1
    obtain ⟨a, vs, rfl, h1, k1⟩ := r1
    have hb : SqT C.K B1 a vs := sqt_mono (S1.weak true g true false id (fun h => by cases h)) h1
    refine ⟨a, rfl, ⟨vs, sqt_mono S1.sub hb⟩, q _ B1 H1 G1 S1 ⟨fun H => SqT C.K H a vs, YAt vs, ?_, fun B' H' σ' δ' e S' => ?_, fun i H' x H2 B' σ' δ' hi e S' y => ?_⟩⟩
    · rw [show ds.length = vs.length from k1.len.symm]
      exact walk_tup
    · exact sqt_mono S'.sub (sqt_mono e hb)
    · obtain ⟨rfl, y⟩ := y
      obtain ⟨d, h2, r⟩ := k1.back y
      exact ⟨d, B', h2, Gro.refl _ _, S', r.mono (rg_up e g)⟩
theorem rngD_len (lo : Int) (n : Nat) : (rngD lo n).length = n := by simp [rngD]
theorem rngD_get {lo : Int} {n i : Nat} (h : i < n) : (rngD lo n)[i]? = some (.int (lo + (i : Int))) := by
  unfold rngD
  rw [List.getElem?_map, List.getElem?_range h]
  rfl
theorem wk_rng (lo : Int) (n : Nat) (B1 : Hp) : WkOk C B0 H0 (Itr lo n) (rngD lo n) true B1 := by
  refine ⟨fun _ => True, YFn fun i => .int (lo + i), ?_, fun _ _ _ _ _ _ => trivial, fun i H' x H2 B' σ' δ' hi e S' y => ?_⟩
  · rw [rngD_len]
    exact walk_range
  · obtain ⟨rfl, rfl⟩ := y
    rw [rngD_len] at hi
    exact ⟨_, B', rngD_get hi, Gro.refl _ _, S', by rw [rp_int]⟩
theorem it_R {n : Int} {f g : Bool} (ha : EvOk C B0 H0 ta δ (.int n, f, g)) (h : -1000000 ≤ n ∧ n ≤ 1000000) : ItOk C B0 H0 (iRng1 (tCons ta tNil)) δ (rngD 0 n.toNat, true) := fun B H σ S R q =>
  ha B H σ S _ fun v B1 H1 G1 S1 r1 => by
    rw [rp_int] at r1
    subst r1
    exact ⟨n, rfl, by omega, by omega, q _ B1 H1 G1 S1 (wk_rng 0 n.toNat B1)⟩
theorem it_R2 {m n : Int} {f g f' g' : Bool} (ha : EvOk C B0 H0 ta δ (.int m, f, g)) (hb : EvOk C B0 H0 tb δ (.int n, f', g')) (h : -1000000 ≤ m ∧ m ≤ 1000000 ∧ -1000000 ≤ n ∧ n ≤ 1000000) : ItOk C B0 H0 (iRng2 (tCons ta (tCons tb tNil))) δ (rngD m (n - m).toNat, true) := fun B H σ S R q =>
  ha B H σ S _ fun v B1 H1 G1 S1 r1 => hb B1 H1 σ S1 _ fun u B2 H2 G2 S2 r2 => by
    rw [rp_int] at r1 r2
    subst r1 r2
    exact ⟨m, n, rfl, ⟨by omega, by omega, by omega, by omega⟩, q _ B2 H2 (G1.trans G2) S2 (wk_rng m _ B2)⟩
theorem zipD_len : ∀ xs ys : List D, (zipD xs ys).length = min xs.length ys.length
  | [], _ => by simp [zipD]
  | x :: xs, [] => by simp [zipD]
  | x :: xs, y :: ys => by
    simp only [zipD, List.length_cons, zipD_len xs ys]
    omega
theorem zipD_get : ∀ {xs ys : List D} {i : Nat} {x y : D}, xs[i]? = some x → ys[i]? = some y → (zipD xs ys)[i]? = some (.tp [x, y])
  | [], _, _, _, _, h, _ => by simp at h
  | _ :: _, [], _, _, _, _, h => by simp at h
  | a :: xs, b :: ys, 0, x, y, h, k => by
    simp at h k
    subst h k
    rfl
  | a :: xs, b :: ys, i + 1, x, y, h, k => by
    simp only [zipD, List.getElem?_cons_succ] at h k ⊢
    exact zipD_get h k
theorem it_Z {xs ys : List D} {g g' : Bool} (ha : EvOk C B0 H0 ta δ (.ls xs, true, g)) (hb : EvOk C B0 H0 tb δ (.ls ys, true, g')) : ItOk C B0 H0 (iZip C.K (tCons ta (tCons tb tNil))) δ (zipD xs ys, g && g') := fun B H σ S R q =>
  ha B H σ S _ fun v B1 H1 G1 S1 r1 => hb B1 H1 σ S1 _ fun u B2 H2 G2 S2 r2 => by
    have r1 := r1.mono (G2.rg true g)
    rw [rp_ls] at r1 r2
    obtain ⟨a, vs, rfl, h1, k1⟩ := r1
    obtain ⟨b, us, rfl, h2, k2⟩ := r2
    have hb1 : B2 a = some (.lst vs) := S2.weak true g true false id (fun h => by cases h) _ _ h1
    have hb2 : B2 b = some (.lst us) := S2.weak true g' true false id (fun h => by cases h) _ _ h2
    refine ⟨a, b, vs, us, rfl, SqL.of (S2.sub _ _ hb1), SqL.of (S2.sub _ _ hb2), q _ B2 H2 (G1.trans G2) S2 ⟨_, _, walk_zip (xs := vs) (ys := us) ?_, fun B' H' σ' δ' e S' => ?_, fun i H' x H3 B' σ' δ' hi e S' y => ?_⟩⟩
    · show (zipD xs ys).length = _
      rw [zipD_len, k1.len, k2.len]
    · exact ⟨SqL.of (S'.sub _ _ (e _ _ hb1)), SqL.of (S'.sub _ _ (e _ _ hb2))⟩
    · obtain ⟨T, x1, x2, rfl, hT, rfl, y1, y2⟩ := y
      obtain ⟨d1, e1, q1⟩ := k1.back y1
      obtain ⟨d2, e2, q2⟩ := k2.back y2
      obtain ⟨B3, G3, S3, e3⟩ := S'.alloc2 (o := .tup [x1, x2]) hT true (g && g')
      refine ⟨.tp [d1, d2], B3, zipD_get e1 e2, G3, S3, ?_⟩
      rw [rp_tp]
      refine ⟨T, [x1, x2], rfl, SqT.of e3, .cons (q1.mono ?_) (.one (q2.mono ?_))⟩
      · exact Same.trans (rg_up (e.trans G3.eb) g) (S3.weakL true g true g')
      · exact Same.trans (rg_up (e.trans G3.eb) g') (S3.weakR true g' true g)
theorem enumD_len : ∀ (n : Nat) (xs : List D), (enumD n xs).length = xs.length
  | _, [] => rfl
  | n, x :: xs => by simp [enumD, enumD_len (n + 1) xs]
theorem enumD_get : ∀ {xs : List D} {n i : Nat} {x : D}, xs[i]? = some x → (enumD n xs)[i]? = some (.tp [.int ((n + i : Nat) : Int), x])
  | [], _, _, _, h => by simp at h
  | a :: xs, n, 0, x, h => by
    simp at h
    subst h
    rfl
  | a :: xs, n, i + 1, x, h => by
    simp only [enumD, List.getElem?_cons_succ] at h ⊢
    rw [enumD_get h]
    congr 5
    omega
theorem it_E {xs : List D} {g : Bool} (ha : EvOk C B0 H0 ta δ (.ls xs, true, g)) : ItOk C B0 H0 (iEnum C.K (tCons ta tNil)) δ (enumD 0 xs, g) := fun B H σ S R q =>
  ha B H σ S _ fun v B1 H1 G1 S1 r1 => by
    rw [rp_ls] at r1
    obtain ⟨a, vs, rfl, h1, k1⟩ := r1
    have hb1 : B1 a = some (.lst vs) := S1.weak true g true false id (fun h => by cases h) _ _ h1
    refine ⟨a, vs, rfl, SqL.of (S1.sub _ _ hb1), q _ B1 H1 G1 S1 ⟨fun H => SqL C.K H a vs, YPair (fun i => some (.int (i : Nat))) (fun i => vs[i]?), ?_, fun B' H' σ' δ' e S' => ?_, fun i H' x H3 B' σ' δ' hi e S' y => ?_⟩⟩
    · rw [show (enumD 0 xs, g).1.length = vs.length by rw [show (enumD 0 xs, g).1 = enumD 0 xs from rfl, enumD_len, k1.len]]
      exact walk_enum (xs := vs)
    · exact SqL.of (S'.sub _ _ (e _ _ hb1))
    · obtain ⟨T, x1, x2, rfl, hT, rfl, y1, y2⟩ := y
      cases y1
      obtain ⟨d2, e2, q2⟩ := k1.back y2
      obtain ⟨B3, G3, S3, e3⟩ := S'.alloc2 (o := .tup [.int (i : Nat), x2]) hT true g
      have e4 := enumD_get (n := 0) e2
      rw [Nat.zero_add] at e4
      refine ⟨.tp [.int ((i : Nat) : Int), d2], B3, e4, G3, S3, ?_⟩
      rw [rp_tp]
      exact ⟨T, _, rfl, SqT.of e3, .cons (by rw [rp_int]) (.one (q2.mono (rg_up (e.trans G3.eb) g)))⟩
/-! comprehensions -/
theorem ItOk.w {wi : TI} {r : List D × Bool} (h : ItOk C B0 H0 wi δ r) : ItOkW C B0 H0 wi δ r := fun B H σ S R q =>
  h B H σ S R fun J B' H' G S' wk => q J B' H' G S' (by
    obtain ⟨Gd, Y, w, wg, wy⟩ := wk
    exact ⟨Gd, Y, w, fun B2 H2 σ2 δ2 e _ S2 => wg B2 H2 σ2 δ2 e S2, fun i H2 x H3 B2 σ2 δ2 hi e _ S2 y => wy i H2 x H3 B2 σ2 δ2 hi e S2 y⟩)
/-- a list that stands for now, of flat ones -/
theorem it_Q {ds : List D} {f g : Bool} (ha : EvOk C B0 H0 ta δ (.ls ds, f, g)) (hf : flats ds = true) : ItOkW C B0 H0 (iList C.K ta) δ (ds, true) := fun B H σ S R q =>
  ha B H σ S _ fun v B1 H1 G1 S1 r1 => by
    rw [rp_ls] at r1
    obtain ⟨a, vs, rfl, h1, k1⟩ := r1
    have hh : H1 a = some (.lst vs) := S1.toH _ _ _ _ h1
    refine ⟨a, rfl, ⟨vs, SqL.of hh⟩, q _ B1 H1 G1 S1 ⟨fun H => SqL C.K H a vs, YAt vs, ?_, fun B' H' σ' δ' e eh S' => ?_, fun i H' x H2 B' σ' δ' hi e eh S' y => ?_⟩⟩
    · rw [show ds.length = vs.length from k1.len.symm]
      exact walk_list
    · exact SqL.of (eh _ _ hh)
    · obtain ⟨rfl, y⟩ := y
      obtain ⟨d, h2, r⟩ := k1.back y
      exact ⟨d, B', h2, Gro.refl _ _, S', r.flat (List.all_eq_true.mp hf d (List.mem_of_getElem? h2))⟩
theorem nw_lc {wi : TI} {t : Tg} {tt : TT} {ds : List D} {g : Bool} {cf : List Sl → Option Bool} {ef : List Sl → Option Rs} {ys : List D} {gs : Bool}
    (hi : ItOkW C B0 H0 wi δ (ds, g)) (hn : ds.length ≤ 50000) (h : lcRun t g cf ef (wipeD δ t.sl) ds = some (ys, gs)) (hc : ∀ δ2 b, cf δ2 = some b → TtOk C B0 H0 tt δ2 b) (he : ∀ δ2 r, ef δ2 = some r → EvOk C B0 H0 te δ2 r) :
    NwOk C B0 H0 (tLc wi (t.rd C.K) tt te t.sl) δ ys true gs := fun B H σ S Q q => by
  refine hi B H σ S _ fun J B1 H1 G1 S1 wk => ?_
  obtain ⟨Gd, Y, w, wg, wy⟩ := wk
  intro L hL
  have h0L : H0 L = none := S1.ex0.free hL
  refine lc_it w (fun i Hc => ∃ B' acc ys1 ys2 gs2, Gro B1 H1 B' Hc ∧ Stt C B0 H0 B' Hc σ δ ∧ B' L = none ∧ Hc L = some (.lst acc) ∧ Rps C (Rg B0 H0 B' Hc true gs) ys1 acc ∧ ys1.length ≤ i ∧
    lcRun t g cf ef (wipeD δ t.sl) (ds.drop i) = some (ys2, gs2) ∧ (gs = true → gs2 = true) ∧ ys1 ++ ys2 = ys) ?_ ?_ ?_ ?_
  · refine ⟨B1, [], [], ys, gs, ⟨Same.refl _, same_upd hL, fun _ _ h => .inl h⟩, S1.cell hL, S1.sub.free hL, upd_same, Rps.nil, Nat.le_refl _, h, id, rfl⟩
  · rintro i Hc _ ⟨B', acc, ys1, ys2, gs2, G', S', _⟩
    exact wg B' Hc σ δ G'.eb G'.eh S'
  · rintro i x Hc Hd hlt ⟨B', acc, ys1, ys2, gs2, G', S', bL, cL, ra, hl, run, hg, ey⟩ y
    obtain ⟨d, B2, ed, G2, S2, rd⟩ := wy i Hc x Hd B' σ δ hlt G'.eb G'.eh S' y
    have edr : ds.drop i = d :: ds.drop (i + 1) := by
      have hlt' : i < ds.length := hlt
      rw [List.getElem?_eq_getElem hlt'] at ed
      rw [List.drop_eq_getElem_cons hlt']
      cases ed
      rfl
    rw [edr] at run
    simp only [lcRun] at run
    split at run
    · cases run
    · rename_i δ2 e2
      have b2L : B2 L = none := by
        cases z : B2 L with
        | none => rfl
        | some o =>
          rcases G2.nw L o z with k | k
          · rw [bL] at k; cases k
          · rw [cL] at k; cases k
      refine Tg.ok g t d (S2.wipe t.sl) rd e2 fun σ2 S3 w2 => ⟨?_, ?_⟩
      · rw [w2 t.sl fun _ h => h, wipe_wipe]
      · cases ec : cf δ2 with
        | none => rw [ec] at run; cases run
        | some b =>
          rw [ec] at run
          refine hc δ2 b ec B2 Hd σ2 S3 _ fun B3 H3 G3 S4 => ?_
          have c3 : H3 L = some (.lst acc) := G3.eh _ _ (G2.eh _ _ cL)
          have b3L : B3 L = none := by
            cases z : B3 L with
            | none => rfl
            | some o =>
              rcases G3.nw L o z with k | k
              · rw [b2L] at k; cases k
              · rw [G2.eh _ _ cL] at k; cases k
          have S3' : Stt C B0 H0 B3 H3 σ δ := S2.by G3 S4
          cases b with
          | false =>
            rw [if_neg Bool.false_ne_true]
            exact ⟨B3, acc, ys1, ys2, gs2, (G'.trans G2).trans G3, S3', b3L, c3, ra.mono ((G2.trans G3).rg true gs), by omega, run, hg, ey⟩
          | true =>
            rw [if_pos rfl]
            dsimp only at run
            split at run
            · rename_i y gy ee
              split at run
              · rename_i ys3 gs3 er
                cases run
                refine he δ2 _ ee B3 H3 σ2 S4 _ fun v B4 H4 G4 S5 rv => ?_
                have c4 : H4 L = some (.lst acc) := G4.eh _ _ c3
                have b4L : B4 L = none := by
                  cases z : B4 L with
                  | none => rfl
                  | some o =>
                    rcases G4.nw L o z with k | k
                    · rw [b3L] at k; cases k
                    · rw [c3] at k; cases k
                have S4' : Stt C B0 H0 B4 H4 σ δ := S3'.by G4 S5
                have G5 := ((G'.trans G2).trans G3).trans G4
                refine ⟨acc, c4, ?_, B4, acc ++ [v], ys1 ++ [y], ys3, gs3, ⟨G5.eb, fun p o k => ?_, G5.nw⟩, S1.grow G5.eb (fun p o k => ?_) (fun p o k => ?_) G5.nw, b4L, upd_same, ?_, ?_, er, fun k => ?_, ?_⟩
                · have hlt' : i < ds.length := hlt
                  rw [ra.len]
                  exact Nat.lt_of_lt_of_le (show ys1.length < 100000 by omega) (by decide)
                · rw [upd_ne (ne_of_none k hL)]
                  exact G5.eh _ _ k
                · rw [upd_ne (ne_of_none k hL)]
                  exact G5.eh _ _ k
                · rw [upd_ne (ne_of_none k b4L)]
                  exact S5.sub _ _ k
                · rw [rg_true gs (H' := H4)]
                  refine (ra.mono (((G2.trans G3).trans G4).rg true gs)).app (.one (rv.mono ?_))
                  exact S5.weak true gy true gs id fun k => (Bool.and_eq_true_iff.mp (hg k)).1
                · rw [List.length_append]
                  show ys1.length + 1 ≤ i + 1
                  omega
                · exact (Bool.and_eq_true_iff.mp (hg k)).2
                · rw [List.append_assoc]
                  exact ey
              · cases run
            · cases run
  · rintro Hc ⟨B', acc, ys1, ys2, gs2, G', S', bL, cL, ra, hl, run, hg, ey⟩
    rw [show ds.drop ds.length = [] from List.drop_length] at run
    simp only [lcRun, Option.some.injEq, Prod.mk.injEq] at run
    obtain ⟨rfl, rfl⟩ := run
    rw [List.append_nil] at ey
    subst ey
    exact q L acc B' Hc (G1.trans G') S' (G1.eh.free hL) bL cL ra
end
end G

namespace G
open PySem L2
/-- what isinstance asks of an own class -/
structure TyF (K : PySem.W.Frag) (A : Addr) : Prop where
  a : PySem.W.findIn K (.ref A) (Str.ofString "__class__") = some (some (.builtin "object.__class__"))
  b : PySem.W.specialIn K (.builtin "object.__class__") (Str.ofString "__get__") = some (some (.builtin "getset_descriptor.__get__"))
  c : PySem.W.takesIn K (.builtin "object.__class__") = some true
  d : PySem.W.mroIn K A (.type "object") = some true
/-- what the table's facts say -/
structure KsOk (C : Cf) (Γ : Ga) : Prop where
  ks : ∀ (k : Nat) d, Γ.ks[k]? = some d → Rp C Emp d (C.kv k)
  cn : ∀ (c : Nat) ns, Γ.cn[c]? = some ns → (C.Cl c).2 = ns ∧ Cls C.K (C.Cl c).1 ∧ TyF C.K (C.Cl c).1 ∧ ∀ f ∈ ns, NoAttr C.K (C.Cl c).1 f
  sub : ∀ (c : Nat) r (c' : Nat) b, Γ.sub[c]? = some r → r[c']? = some b → PySem.W.kitOne C.K (.ref (C.Cl c).1) (.ref (C.Cl c').1) = some b
section
variable {C : Cf} {B0 H0 : Hp} {δ : List Sl} {ta tb tc te : TE} {Γ : Ga}
theorem any_pys (x : D) : ∀ ys : List D, ((D.pys ys).any fun z => PyData.eqv z x.py) = ys.any fun z => z.eqv x
  | [] => rfl
  | y :: ys => by
    simp only [D.pys, List.any_cons, any_pys x ys]
    rfl
theorem ev_inn {x : D} {ys : List D} {f g f' g' : Bool} (ha : EvOk C B0 H0 ta δ (x, f, g)) (hb : EvOk C B0 H0 tb δ (.ls ys, f', g')) (h : (x.eqok && (D.ls ys).eqok) = true) : EvOk C B0 H0 (tOp (rInD C.K) ta tb) δ (.bl (ys.any fun z => z.eqv x), true, true) :=
  ev_flat2 ha hb (emp_bl _) fun v u H Q r1 r2 q => by
    rw [Bool.and_eq_true] at h
    obtain ⟨h1, h2⟩ := h
    simp only [D.eqok, Bool.and_eq_true] at h1 h2
    have k := r2.dp h2.1
    simp only [D.py] at k
    exact ⟨x.py, D.pys ys, r1.dp h1.1, k, h1.2, by simpa only [D.py] using h2.2, by rw [any_pys]; exact q⟩
theorem ev_nin {x : D} {ys : List D} {f g f' g' : Bool} (ha : EvOk C B0 H0 ta δ (x, f, g)) (hb : EvOk C B0 H0 tb δ (.ls ys, f', g')) (h : (x.eqok && (D.ls ys).eqok) = true) : EvOk C B0 H0 (tOp (rNotInD C.K) ta tb) δ (.bl (!ys.any fun z => z.eqv x), true, true) :=
  ev_flat2 ha hb (emp_bl _) fun v u H Q r1 r2 q => by
    rw [Bool.and_eq_true] at h
    obtain ⟨h1, h2⟩ := h
    simp only [D.eqok, Bool.and_eq_true] at h1 h2
    have k := r2.dp h2.1
    simp only [D.py] at k
    exact ⟨x.py, D.pys ys, r1.dp h1.1, k, h1.2, by simpa only [D.py] using h2.2, by rw [any_pys]; exact q⟩
theorem strs_of {H : Hp} : ∀ {ds : List D} {ss : List Str} {vs : List V}, strsOf ds = some ss → Rps C H ds vs → vs = ss.map V.str
  | [], ss, vs, h, r => by
    simp only [strsOf, Option.some.injEq] at h
    subst h
    simp only [Rps] at r
    exact r
  | d :: ds, ss, vs, h, r => by
    cases d with
    | str i =>
      simp only [strsOf] at h
      split at h
      · rename_i ms e
        cases h
        simp only [Rps] at r
        obtain ⟨v, us, rfl, r1, r2⟩ := r
        rw [rp_str] at r1
        subst r1
        rw [strs_of e r2]
        rfl
      · cases h
    | _ => simp [strsOf] at h
theorem inV_strs (x : Str) : ∀ ss : List Str, inV (.str x) (ss.map V.str) = ss.any fun z => z == x
  | [] => rfl
  | s :: ss => by
    have := inV_strs x ss
    unfold inV at this ⊢
    rw [List.map_cons, List.any_cons, List.any_cons, this]
    rfl
theorem flatV_strs : ∀ ss : List Str, (ss.map V.str).all flatV = true
  | [] => rfl
  | s :: ss => by
    rw [List.map_cons, List.all_cons, flatV_strs ss]
    rfl
theorem ev_inT {x : Str} {ys : List D} {ss : List Str} {f g f' g' : Bool} (ha : EvOk C B0 H0 ta δ (.str x, f, g)) (hb : EvOk C B0 H0 tb δ (.tp ys, f', g')) (h : strsOf ys = some ss) : EvOk C B0 H0 (tOp (rIn C.K false) ta tb) δ (.bl (ss.any fun z => z == x), true, true) :=
  ev_flat2 ha hb (emp_bl _) fun v u H Q r1 r2 q => by
    rw [rp_str] at r1
    rw [rp_tp] at r2
    subst r1
    obtain ⟨a, xs, rfl, h1, h2⟩ := r2
    have e := strs_of h h2
    subst e
    refine ⟨a, _, rfl, .inr h1, rfl, flatV_strs ss, ?_⟩
    rw [if_neg Bool.false_ne_true, inV_strs]
    exact q
theorem fld_look {H : Hp} (f : Str) : ∀ {ns : List Str} {ds : List D} {xs : List V} {d : D}, fldD f ns ds = some d → Rps C H ds xs → f ∈ ns ∧ ∃ v, (ns.zip xs).lookup f = some v ∧ Rp C H d v
  | [], _, _, _, h, _ => by simp [fldD] at h
  | n :: ns, [], _, _, h, _ => by simp [fldD] at h
  | n :: ns, d :: ds, xs, d', h, r => by
    simp only [Rps] at r
    obtain ⟨v, us, rfl, r1, r2⟩ := r
    simp only [fldD] at h
    rw [List.zip_cons_cons, List.lookup_cons]
    split at h
    · rename_i e
      cases h
      subst e
      exact ⟨by simp, v, by simp, r1⟩
    · rename_i e
      obtain ⟨h1, w, h2, h3⟩ := fld_look f h r2
      refine ⟨by simp [h1], w, ?_, h3⟩
      rw [show (f == n) = false by simpa using e]
      exact h2
theorem ev_fld (hk : KsOk C Γ) {nm : Str} {c : Nat} {fs : List D} {ns : List Str} {d : D} {f g : Bool} (ha : EvOk C B0 H0 ta δ (.ob c fs, f, g)) (hn : Γ.cn[c]? = some ns) (h : fldD nm ns fs = some d) : EvOk C B0 H0 (tFld C.K ta nm) δ (d, f, g) := fun B H σ S Q q =>
  ha B H σ S _ fun v B1 H1 G1 S1 r1 => by
    rw [rp_ob] at r1
    obtain ⟨a, dx, xs, rfl, h1, hl, k1⟩ := r1
    obtain ⟨e, cl, _, na⟩ := hk.cn c ns hn
    obtain ⟨hm, w, h2, h3⟩ := fld_look nm h k1
    exact ⟨a, _, dx, _, w, rfl, S1.toH _ _ _ _ h1, cl, na nm hm, by rw [e]; exact h2, q w B1 H1 G1 S1 h3⟩
theorem ev_isC (hk : KsOk C Γ) {c c' : Nat} {fs : List D} {r : List Bool} {b : Bool} {f g : Bool} {ns : List Str} (ha : EvOk C B0 H0 ta δ (.ob c fs, f, g)) (hn : Γ.cn[c]? = some ns) (h1 : Γ.sub[c]? = some r) (h2 : r[c']? = some b) : EvOk C B0 H0 (tCB (rIsi C.K) (tCons ta (tCons (tC (.ref (C.Cl c').1)) tNil))) δ (.bl b, true, true) := fun B H σ S Q q =>
  ha B H σ S _ fun v B1 H1 G1 S1 r1 => by
    rw [rp_ob] at r1
    obtain ⟨a, dx, xs, rfl, k1, hl, k2⟩ := r1
    obtain ⟨_, cl, ty, _⟩ := hk.cn c ns hn
    exact ⟨.ref a, _, _, _, b, rfl, .own _, .base (.ins (S1.toH _ _ _ _ k1) cl ty.a ty.b ty.c ty.d), hk.sub c r c' b h1 h2, q _ B1 H1 G1 S1 (rp_emp (emp_bl _))⟩
/-! min, max of alike data -/
theorem py_inj : ∀ {a b : D}, a.plain = true → b.plain = true → a.py = b.py → a = b := by
  have key : (∀ a b : D, a.plain = true → b.plain = true → a.py = b.py → a = b) := by
    intro a
    refine D.rec (motive_1 := fun a => ∀ b : D, a.plain = true → b.plain = true → a.py = b.py → a = b) (motive_2 := fun xs => ∀ ys : List D, D.plains xs = true → D.plains ys = true → D.pys xs = D.pys ys → xs = ys) ?_ ?_ ?_ ?_ ?_ ?_ ?_ ?_ ?_ ?_ a
    · intro b _ hb e; cases b <;> simp_all [D.py, D.plain]
    · intro x b _ hb e; cases b <;> simp_all [D.py, D.plain]
    · intro x b _ hb e; cases b <;> simp_all [D.py, D.plain]
    · intro x b _ hb e; cases b <;> simp_all [D.py, D.plain]
    · intro xs ih b ha hb e
      cases b with
      | ls ys =>
        simp only [D.py, PyData.list.injEq] at e
        rw [ih ys ha hb e]
      | _ => simp_all [D.py, D.plain]
    · intro xs ih b ha hb e
      cases b with
      | tp ys =>
        simp only [D.py, PyData.tuple.injEq] at e
        rw [ih ys ha hb e]
      | _ => simp_all [D.py, D.plain]
    · intro c xs ih b ha hb e; simp [D.plain] at ha
    · intro c xs ih b ha hb e; simp [D.plain] at ha
    · intro ys _ _ e; cases ys <;> simp_all [D.pys]
    · intro x xs ih1 ih2 ys ha hb e
      cases ys with
      | nil => simp [D.pys] at e
      | cons y ys =>
        simp only [D.plains, Bool.and_eq_true] at ha hb
        simp only [D.pys, List.cons.injEq] at e
        rw [ih1 y ha.1 hb.1 e.1, ih2 ys ha.2 hb.2 e.2]
  exact fun {a b} => key a b
theorem minF_py (xs : List D) : ∀ x : D, (minF x xs).py = PySem.W.minD x.py (D.pys xs) := by
  unfold minF PySem.W.minD
  induction xs with
  | nil => intro x; rfl
  | cons y ys ih =>
    intro x
    simp only [D.pys, List.foldl_cons]
    rw [ih]
    congr 1
    unfold ltD
    split <;> rfl
theorem maxF_py (xs : List D) : ∀ x : D, (maxF x xs).py = PySem.W.maxD x.py (D.pys xs) := by
  unfold maxF PySem.W.maxD
  induction xs with
  | nil => intro x; rfl
  | cons y ys ih =>
    intro x
    simp only [D.pys, List.foldl_cons]
    rw [ih]
    congr 1
    unfold ltD
    split <;> rfl
theorem minF_mem (xs : List D) : ∀ x : D, minF x xs ∈ x :: xs := by
  unfold minF
  induction xs with
  | nil => intro x; simp
  | cons y ys ih =>
    intro x
    simp only [List.foldl_cons]
    split
    · exact List.mem_cons_of_mem _ (ih y)
    · rcases List.mem_cons.mp (ih x) with h | h
      · rw [h]; simp
      · simp [h]
theorem maxF_mem (xs : List D) : ∀ x : D, maxF x xs ∈ x :: xs := by
  unfold maxF
  induction xs with
  | nil => intro x; simp
  | cons y ys ih =>
    intro x
    simp only [List.foldl_cons]
    split
    · exact List.mem_cons_of_mem _ (ih y)
    · rcases List.mem_cons.mp (ih x) with h | h
      · rw [h]; simp
      · simp [h]
theorem intsOf_mem : ∀ {ds : List D} {ns : List Int}, intsOf ds = some ns → ds = ns.map D.int
  | [], ns, h => by
    simp only [intsOf, Option.some.injEq] at h
    subst h
    rfl
  | d :: ds, ns, h => by
    cases d with
    | int i =>
      simp only [intsOf] at h
      split at h
      · rename_i ms e
        cases h
        rw [intsOf_mem e]
        rfl
      · cases h
    | _ => simp [intsOf] at h
theorem pys_map (ds : List D) : D.pys ds = ds.map D.py := by
  induction ds with
  | nil => rfl
  | cons d ds ih => simp only [D.pys, ih, List.map_cons]
theorem pl_ints (ns : List Int) : D.plains (ns.map D.int) = true := by
  induction ns with
  | nil => rfl
  | cons n ns ih => simp [D.plains, D.plain, ih]
theorem dep_ints (ns : List Int) : PyData.depthAll (D.pys (ns.map D.int)) = 0 := by
  induction ns with
  | nil => simp [D.pys, PyData.depthAll]
  | cons n ns ih => simp [D.pys, D.py, PyData.depthAll, PyData.depth, ih]
theorem alike_ints : ∀ ns ms : List Int, PySem.W.alikeAll (D.pys (ns.map D.int)) (D.pys (ms.map D.int)) = true
  | [], _ => by simp [D.pys, PySem.W.alikeAll]
  | n :: ns, [] => by simp [D.pys, PySem.W.alikeAll]
  | n :: ns, m :: ms => by simp [D.pys, D.py, PySem.W.alikeAll, PySem.W.alike, alike_ints ns ms]
theorem isPr_of {d : D} (h : isPr d = true) : ∃ i ns, d = .tp [.int i, .ls (List.map D.int ns)] := by
  unfold isPr at h
  split at h
  · rename_i i xs
    cases e : intsOf xs with
    | none => rw [e] at h; cases h
    | some ns => exact ⟨i, ns, by rw [intsOf_mem e]⟩
  · cases h
theorem mm_facts {ds : List D} (h : mmOk ds = true) : (∀ d ∈ ds, d.plain = true) ∧ PySem.W.AlikeAll (D.pys ds) ∧ PyData.depthAll (D.pys ds) ≤ 60 := by
  unfold mmOk at h
  rw [Bool.or_eq_true] at h
  rcases h with h | h
  · cases e : intsOf ds with
    | none => rw [e] at h; cases h
    | some ns =>
      have e := intsOf_mem e
      subst e
      refine ⟨fun d hd => ?_, ⟨fun x hx y hy => ?_, fun x hx => ?_⟩, by rw [dep_ints]; omega⟩
      · obtain ⟨i, _, rfl⟩ := List.mem_map.mp hd
        rfl
      · rw [pys_map] at hx hy
        obtain ⟨a, ha, rfl⟩ := List.mem_map.mp hx
        obtain ⟨b, hb, rfl⟩ := List.mem_map.mp hy
        obtain ⟨i, _, rfl⟩ := List.mem_map.mp ha
        obtain ⟨j, _, rfl⟩ := List.mem_map.mp hb
        simp [D.py, PySem.W.alike]
      · rw [pys_map] at hx
        obtain ⟨a, ha, rfl⟩ := List.mem_map.mp hx
        obtain ⟨i, _, rfl⟩ := List.mem_map.mp ha
        simp [D.py]
  · rw [List.all_eq_true] at h
    refine ⟨fun d hd => ?_, ⟨fun x hx y hy => ?_, fun x hx => ?_⟩, ?_⟩
    · obtain ⟨i, ns, rfl⟩ := isPr_of (h d hd)
      simp [D.plain, D.plains, pl_ints]
    · rw [pys_map] at hx hy
      obtain ⟨a, ha, rfl⟩ := List.mem_map.mp hx
      obtain ⟨b, hb, rfl⟩ := List.mem_map.mp hy
      obtain ⟨i, ns, rfl⟩ := isPr_of (h a ha)
      obtain ⟨j, ms, rfl⟩ := isPr_of (h b hb)
      simp [D.py, D.pys, PySem.W.alike, PySem.W.alikeAll, alike_ints]
    · rw [pys_map] at hx
      obtain ⟨a, ha, rfl⟩ := List.mem_map.mp hx
      obtain ⟨i, ns, rfl⟩ := isPr_of (h a ha)
      simp [D.py]
    · have : ∀ l : List D, (∀ d ∈ l, isPr d = true) → PyData.depthAll (D.pys l) ≤ 60 := by
        intro l
        induction l with
        | nil => intro _; simp [D.pys, PyData.depthAll]
        | cons d l ih =>
          intro hl
          obtain ⟨i, ns, rfl⟩ := isPr_of (hl d (by simp))
          have := ih fun d hd => hl d (by simp [hd])
          simp only [D.pys, D.py, PyData.depthAll, PyData.depth, dep_ints]
          omega
      exact this ds h
theorem plains_of : ∀ {ds : List D}, (∀ d ∈ ds, d.plain = true) → D.plains ds = true
  | [], _ => rfl
  | d :: ds, h => by
    simp only [D.plains, Bool.and_eq_true]
    exact ⟨h d (by simp), plains_of fun d hd => h d (by simp [hd])⟩
theorem ev_minL {x : D} {xs : List D} {f g : Bool} (ha : EvOk C B0 H0 ta δ (.ls (x :: xs), f, g)) (h : mmOk (x :: xs) = true) : EvOk C B0 H0 (tCB (rMinDat C.K) (tCons ta tNil)) δ (minF x xs, f, g) := fun B H σ S Q q =>
  ha B H σ S _ fun v B1 H1 G1 S1 r1 => by
    rw [rp_ls] at r1
    obtain ⟨a, vs, rfl, h1, k1⟩ := r1
    obtain ⟨m1, m2, m3⟩ := mm_facts h
    have k2 := k1.mono (S1.toH f g)
    refine ⟨a, vs, x.py, D.pys xs, rfl, SqL.of (S1.toH _ _ _ _ h1), k2.dp (plains_of m1), m2, m3, fun i v hv hu => ?_⟩
    obtain ⟨d, ed, rd'⟩ := k1.back hv
    have hd := m1 d (List.mem_of_getElem? ed)
    have e := hu d.py (Rp.dp hd (rd'.mono (S1.toH f g)))
    have e2 : d = minF x xs := py_inj hd (m1 _ (minF_mem xs x)) (by rw [e, minF_py])
    subst e2
    exact q v B1 H1 G1 S1 rd'
theorem ev_maxL {x : D} {xs : List D} {f g : Bool} (ha : EvOk C B0 H0 ta δ (.ls (x :: xs), f, g)) (h : mmOk (x :: xs) = true) : EvOk C B0 H0 (tCB (rMaxDat C.K) (tCons ta tNil)) δ (maxF x xs, f, g) := fun B H σ S Q q =>
  ha B H σ S _ fun v B1 H1 G1 S1 r1 => by
    rw [rp_ls] at r1
    obtain ⟨a, vs, rfl, h1, k1⟩ := r1
    obtain ⟨m1, m2, m3⟩ := mm_facts h
    have k2 := k1.mono (S1.toH f g)
    refine ⟨a, vs, x.py, D.pys xs, rfl, SqL.of (S1.toH _ _ _ _ h1), k2.dp (plains_of m1), m2, m3, fun i v hv hu => ?_⟩
    obtain ⟨d, ed, rd'⟩ := k1.back hv
    have hd := m1 d (List.mem_of_getElem? ed)
    have e := hu d.py (Rp.dp hd (rd'.mono (S1.toH f g)))
    have e2 : d = maxF x xs := py_inj hd (m1 _ (maxF_mem xs x)) (by rw [e, maxF_py])
    subst e2
    exact q v B1 H1 G1 S1 rd'
theorem rps_rev {H : Hp} : ∀ {ds : List D} {vs : List V}, Rps C H ds vs → Rps C H ds.reverse vs.reverse
  | [], _, h => by
    simp only [Rps] at h
    subst h
    simp [Rps]
  | d :: ds, vs, h => by
    simp only [Rps] at h
    obtain ⟨v, r, rfl, h2, h3⟩ := h
    rw [List.reverse_cons, List.reverse_cons]
    exact (rps_rev h3).app (.one h2)
theorem nw_rev {xs : List D} {f g : Bool} (ha : EvOk C B0 H0 ta δ (.ls xs, f, g)) : NwOk C B0 H0 (tRevL C.K ta) δ xs.reverse f g := fun B H σ S Q q =>
  ha B H σ S _ fun v B1 H1 G1 S1 r1 => by
    rw [rp_ls] at r1
    obtain ⟨a, vs, rfl, h1, k1⟩ := r1
    exact ⟨a, vs, rfl, SqL.of (S1.toH _ _ _ _ h1), nw_of S1 (rps_rev k1) G1 q⟩
theorem rps_ev2 {H : Hp} : ∀ {ds : List D} {vs : List V}, Rps C H ds vs → Rps C H (G.ev2 ds) (G.ev2 vs)
  | [], vs, h => by
    simp only [Rps] at h
    subst h
    simp [G.ev2, Rps]
  | [d], vs, h => by
    simp only [Rps] at h
    obtain ⟨v, r, rfl, h1, rfl⟩ := h
    simp only [G.ev2, Rps]
    exact ⟨v, [], rfl, h1, rfl⟩
  | d :: e :: ds, vs, h => by
    simp only [Rps] at h
    obtain ⟨v, r, rfl, h1, u, r', rfl, h2, h3⟩ := h
    simp only [G.ev2, Rps]
    exact ⟨v, _, rfl, h1, rps_ev2 h3⟩
theorem nw_ev2 {xs : List D} {f g : Bool} (ha : EvOk C B0 H0 ta δ (.ls xs, f, g)) : NwOk C B0 H0 (tEv2 C.K ta) δ (G.ev2 xs) f g := fun B H σ S Q q =>
  ha B H σ S _ fun v B1 H1 G1 S1 r1 => by
    rw [rp_ls] at r1
    obtain ⟨a, vs, rfl, h1, k1⟩ := r1
    exact ⟨a, vs, rfl, SqL.of (S1.toH _ _ _ _ h1), nw_of S1 (rps_ev2 k1) G1 q⟩
/-! range with a step -/
theorem rng3D_len (lo st : Int) (n : Nat) : (rng3D lo st n).length = n := by simp [rng3D]
theorem rng3D_get {lo st : Int} {n i : Nat} (h : i < n) : (rng3D lo st n)[i]? = some (.int (lo + (i : Int) * st)) := by
  unfold rng3D
  rw [List.getElem?_map, List.getElem?_range h]
  rfl
theorem rgC_up {m n s : Int} (h : -1000000 ≤ m ∧ m ≤ 1000000 ∧ -1000000 ≤ n ∧ n ≤ 1000000 ∧ 0 < s ∧ s < 1000) : RgC m n s (rsz m n s) := by
  obtain ⟨h1, h2, h3, h4, h5, h6⟩ := h
  have hd0 : 0 ≤ (n - m - 1) / s ∨ ¬ m < n := by
    by_cases k : m < n
    · exact .inl (Int.ediv_nonneg (by omega) (by omega))
    · exact .inr k
  refine ⟨by omega, by omega, ?_, ?_⟩
  · have hs : Builtin.Range.rangeSize m n s ≤ 2000001 := by
      unfold Builtin.Range.rangeSize
      rw [if_pos (by omega)]
      split
      · have : (n - m - 1) / s ≤ n - m - 1 := Int.ediv_le_self _ (by omega)
        omega
      · omega
    have hs0 : 0 ≤ Builtin.Range.rangeSize m n s := by
      unfold Builtin.Range.rangeSize
      rw [if_pos (by omega)]
      split
      · rename_i k
        rcases hd0 with z | z
        · omega
        · exact absurd k z
      · omega
    unfold Builtin.Range.small
    simp only [Builtin.Range.rangeFitsLong, Bool.and_eq_true, Bool.or_eq_true, decide_eq_true_eq, beq_iff_eq, show s > 0 from h5, if_true]
    omega
  · unfold Builtin.Range.rangeSize rsz
    rw [if_pos (by omega)]
    split
    · rename_i k
      rcases hd0 with z | z
      · omega
      · exact absurd k z
    · rfl
theorem it_R3 {m n s : Int} {f g f' g' f2 g2 : Bool} (ha : EvOk C B0 H0 ta δ (.int m, f, g)) (hb : EvOk C B0 H0 tb δ (.int n, f', g')) (hc : EvOk C B0 H0 tc δ (.int s, f2, g2)) (h : -1000000 ≤ m ∧ m ≤ 1000000 ∧ -1000000 ≤ n ∧ n ≤ 1000000 ∧ 0 < s ∧ s < 1000) : ItOk C B0 H0 (iRng3 (tCons ta (tCons tb (tCons tc tNil)))) δ (rng3D m s (rsz m n s), true) := fun B H σ S R q =>
  ha B H σ S _ fun v B1 H1 G1 S1 r1 => hb B1 H1 σ S1 _ fun u B2 H2 G2 S2 r2 => hc B2 H2 σ S2 _ fun w B3 H3 G3 S3 r3 => by
    rw [rp_int] at r1 r2 r3
    subst r1 r2 r3
    refine ⟨m, n, s, _, rfl, rgC_up h, q _ B3 H3 ((G1.trans G2).trans G3) S3 ⟨fun _ => True, YFn fun i => .int (m + (i : Nat) * s), ?_, fun _ _ _ _ _ _ => trivial, fun i H' x H4 B' σ' δ' hi e S' y => ?_⟩⟩
    · rw [show (rng3D m s (rsz m n s), true).1.length = rsz m n s from rng3D_len _ _ _]
      exact walk_rangeC
    · obtain ⟨rfl, rfl⟩ := y
      rw [show (rng3D m s (rsz m n s), true).1.length = rsz m n s from rng3D_len _ _ _] at hi
      exact ⟨_, B', rng3D_get hi, Gro.refl _ _, S', by rw [rp_int]⟩
/-! objects -/
theorem ev_new {F : Nd} {ta : TA} {ds fs : List D} {f g : Bool} {E : XK} (ha : ArOk C B0 H0 ta δ (ds, f, g)) (hl : ds.length = F.ar) (h : F.run ds = some fs) : EvOk C B0 H0 (tMake (C.Cl F.cl).1 (spIn C F) [] E ta) δ (.ob F.cl fs, F.fr || f, F.fr) := fun B H σ S Q q =>
  ha B H σ S _ fun vs B1 H1 G1 S1 r1 => by
    intro x dx hx hdx ne
    rw [List.append_nil]
    have n1 : ∀ p o, H1 p = some o → (upd (upd H1 dx (.own x)) x (.ins (C.Cl F.cl).1 dx [])) p = some o := fun p o h => by
      rw [upd_ne (ne_of_none h hx), upd_ne (ne_of_none h hdx)]
      exact h
    refine ⟨x, dx, vs, Rg B0 H0 B1 H1 f g, ds, fs, rfl, upd_same, fun p o k => n1 p o (S1.toH f g p o k), (S1.toH f g).free hx, r1, hl, h, fun H2 xs hs hx2 hn r _ => ?_⟩
    refine ⟨rfl, ?_⟩
    have e : Same H1 H2 := fun p o k => hs p o (ne_of_none k hx) (n1 p o k)
    refine call_core (fr := F.fr) (d := .ob F.cl fs) (f := f) (g := g) G1 S1 e ?_ (fun v B' H' G' S' r' => ?_)
    · rw [rp_ob]
      refine ⟨x, dx, xs, rfl, ?_, hn, r.mono fun p o k => ?_⟩
      · unfold Rsd
        rw [hx]
        split
        · rename_i e1 e2; cases e2
        · exact hx2
      · unfold Rsd at k ⊢
        split at k
        · cases k
        · rename_i e1
          split
          · rename_i e2 e3
            exact absurd (n1 _ _ e3) (fun z => e1 _ e2 z)
          · exact k
    · simp only [D.flat, Bool.or_false] at r'
      exact q v B' H' G' S' r'
theorem lookup_none {nm : Str} : ∀ {ns : List Str} {xs : List V}, (ns.all fun n => n != nm) = true → (ns.zip xs).lookup nm = none
  | [], _, _ => rfl
  | n :: ns, [], _ => rfl
  | n :: ns, x :: xs, h => by
    simp only [List.all_cons, Bool.and_eq_true] at h
    rw [List.zip_cons_cons, List.lookup_cons]
    have : (nm == n) = false := by
      have := h.1
      simp only [bne_iff_ne, ne_eq] at this
      simp only [beq_eq_false_iff_ne, ne_eq]
      exact fun z => this z.symm
    rw [this]
    exact lookup_none h.2
theorem ev_meth (hk : KsOk C Γ) {nm : Str} {to : TE} {ta : TA} {c : Nat} {fs ds : List D} {d : D} {f g f' g' : Bool} (ho : EvOk C B0 H0 to δ (.ob c fs, f, g)) (ha : ArOk C B0 H0 ta δ (ds, f', g')) :
    ∀ {tb : List (Nat × Fd)} {F : Fd}, lookN tb c = some F → (ds.length + 1 = F.ar ∧ (Γ.cn[c]?.map fun ns => ns.all fun n => n != nm) = some true) → F.run (.ob c fs :: ds) = some d → EvOk C B0 H0 (tMs C nm to ta tb) δ (d, F.fr || (f && f') || d.flat, F.fr || d.flat)
  | [], F, h, _, _ => by simp [lookN] at h
  | (c1, F1) :: r, F, h, hl, hr => fun B H σ S Q q => by
    simp only [lookN] at h
    split at h
    · rename_i e
      cases h
      subst e
      refine .inl (ho B H σ S _ fun v B1 H1 G1 S1 r1 => ?_)
      have r1' := r1
      rw [rp_ob] at r1
      obtain ⟨a, dx, xs, rfl, k1, hn, k2⟩ := r1
      have hno : ((C.Cl c1).2.zip xs).lookup nm = none := by
        cases z : Γ.cn[c1]? with
        | none => rw [z] at hl; exact absurd hl.2 (by simp)
        | some ns =>
          rw [z] at hl
          rw [(hk.cn c1 ns z).1]
          exact lookup_none (by simpa using hl.2)
      refine ⟨a, dx, _, rfl, S1.toH _ _ _ _ k1, hno, ?_⟩
      refine ha B1 H1 σ S1 _ fun vs B2 H2 G2 S2 r2 => ?_
      rw [List.append_nil]
      refine ⟨Rg B0 H0 B2 H2 (f && f') (g && g'), .ob c1 fs :: ds, d, S2.toH _ _, .cons (r1'.mono (Same.trans (G2.rg f g) (S2.weakL f g f' g'))) (r2.mono (S2.weakR f' g' f g)), by simpa using hl.1, hr, fun v H3 e r _ => ?_⟩
      exact call_core (G1.trans G2) S2 e r q
    · exact .inr (ev_meth hk ho ha h hl hr B H σ S Q q)
end
end G

namespace G
open PySem L2
section
variable {C : Cf} {B0 H0 : Hp} {Γ : Ga}
theorem tst_tt {c : E} {δ2 : List Sl} {b : Bool} (t : isTst c = true) (ih : ∀ δ b f g, isTst c = true → eval Γ c δ = some (.bl b, f, g) → TtOk C B0 H0 (rdT C Γ c) δ b) (h : tst (eval Γ c δ2) = some b) : TtOk C B0 H0 (rdT C Γ c) δ2 b := by
  cases e : eval Γ c δ2 with
  | none => rw [e] at h; cases h
  | some r =>
    obtain ⟨d, f, g⟩ := r
    rw [e] at h
    cases d with
    | bl x =>
      simp only [tst, Option.some.injEq] at h
      subst h
      exact ih δ2 x f g t e
    | _ => simp [tst] at h
theorem eval_all (hk : KsOk C Γ) : ∀ c : E, (∀ δ r, eval Γ c δ = some r → EvOk C B0 H0 (rd C Γ c) δ r) ∧ (∀ δ r, evalA Γ c δ = some r → ArOk C B0 H0 (rdA C Γ c) δ r) ∧ (∀ δ o, evalO Γ c δ = some o → PoOk C B0 H0 (rdO C Γ c) δ o) ∧
    (∀ δ r, evalI Γ c δ = some r → ItOk C B0 H0 (rdI C Γ c) δ r) ∧ (∀ δ b f g, isTst c = true → eval Γ c δ = some (.bl b, f, g) → TtOk C B0 H0 (rdT C Γ c) δ b) := by
  intro c
  induction c with
  | var i =>
    have ev : ∀ δ r, eval Γ (.var i) δ = some r → EvOk C B0 H0 (rd C Γ (.var i)) δ r := fun δ r h => by
      simp only [eval] at h
      split at h
      · rename_i d g e; cases h; simp only [rd]; exact ev_sh e
      · rename_i ds g e; cases h; simp only [rd]; exact ev_ow e
      · rename_i d e; cases h; simp only [rd]; exact ev_rg e
      · rename_i d e; cases h; simp only [rd]; exact ev_tr e
      · rename_i j q e
        split at h
        · rename_i d ej
          split at h
          · rename_i d2 es; cases h; simp only [rd]; exact ev_al e ej es
          · cases h
        · cases h
      · cases h
    refine ⟨ev, fun δ r h => ?_, fun δ r h => ?_, fun δ r h => ?_, fun δ b f g t h => ?_⟩
    · simp [evalA] at h
    · simp [evalO] at h
    · simp [evalI] at h
    · have k := ev δ _ h
      simp only [rd] at k
      simp only [rdT]
      exact tt_B k
  | int n =>
    have ev : ∀ δ r, eval Γ (.int n) δ = some r → EvOk C B0 H0 (rd C Γ (.int n)) δ r := fun δ r h => by
      simp only [eval] at h; cases h; simp only [rd]; exact ev_c (emp_int _)
    refine ⟨ev, fun δ r h => ?_, fun δ r h => ?_, fun δ r h => ?_, fun δ b f g t h => ?_⟩
    · simp [evalA] at h
    · simp [evalO] at h
    · simp [evalI] at h
    · simp [isTst] at t
  | str n =>
    have ev : ∀ δ r, eval Γ (.str n) δ = some r → EvOk C B0 H0 (rd C Γ (.str n)) δ r := fun δ r h => by
      simp only [eval] at h; cases h; simp only [rd]; exact ev_c (emp_str _)
    refine ⟨ev, fun δ r h => ?_, fun δ r h => ?_, fun δ r h => ?_, fun δ b f g t h => ?_⟩
    · simp [evalA] at h
    · simp [evalO] at h
    · simp [evalI] at h
    · simp [isTst] at t
  | bl n =>
    have ev : ∀ δ r, eval Γ (.bl n) δ = some r → EvOk C B0 H0 (rd C Γ (.bl n)) δ r := fun δ r h => by
      simp only [eval] at h; cases h; simp only [rd]; exact ev_c (emp_bl _)
    refine ⟨ev, fun δ r h => ?_, fun δ r h => ?_, fun δ r h => ?_, fun δ b f g t h => ?_⟩
    · simp [evalA] at h
    · simp [evalO] at h
    · simp [evalI] at h
    · have k := ev δ _ h
      simp only [rd] at k
      simp only [rdT]
      exact tt_B k
  | non  =>
    have ev : ∀ δ r, eval Γ (.non ) δ = some r → EvOk C B0 H0 (rd C Γ (.non )) δ r := fun δ r h => by
      simp only [eval] at h; cases h; simp only [rd]; exact ev_c emp_non
    refine ⟨ev, fun δ r h => ?_, fun δ r h => ?_, fun δ r h => ?_, fun δ b f g t h => ?_⟩
    · simp [evalA] at h
    · simp [evalO] at h
    · simp [evalI] at h
    · simp [isTst] at t
  | kon k =>
    have ev : ∀ δ r, eval Γ (.kon k) δ = some r → EvOk C B0 H0 (rd C Γ (.kon k)) δ r := fun δ r h => by
      simp only [eval] at h
      split at h
      · rename_i d e; cases h; simp only [rd]; exact ev_c (hk.ks _ _ e)
      · cases h
    refine ⟨ev, fun δ r h => ?_, fun δ r h => ?_, fun δ r h => ?_, fun δ b f g t h => ?_⟩
    · simp [evalA] at h
    · simp [evalO] at h
    · simp [evalI] at h
    · simp [isTst] at t
  | bin o a b iha ihb =>
    have ev : ∀ δ r, eval Γ (.bin o a b) δ = some r → EvOk C B0 H0 (rd C Γ (.bin o a b)) δ r := fun δ r h => by
      simp only [eval] at h
      split at h
      · rename_i i f1 g1 e1
        split at h
        · rename_i j f2 g2 e2
          split at h
          · rename_i z e3; cases h; simp only [rd]; exact ev_bin (iha.1 δ _ e1) (ihb.1 δ _ e2) e3
          · cases h
        · cases h
      · cases h
    refine ⟨ev, fun δ r h => ?_, fun δ r h => ?_, fun δ r h => ?_, fun δ b f g t h => ?_⟩
    · simp [evalA] at h
    · simp [evalO] at h
    · simp [evalI] at h
    · simp [isTst] at t
  | cat a b iha ihb =>
    have ev : ∀ δ r, eval Γ (.cat a b) δ = some r → EvOk C B0 H0 (rd C Γ (.cat a b)) δ r := fun δ r h => by
      simp only [eval] at h
      split at h
      · rename_i i f1 g1 e1
        split at h
        · rename_i j f2 g2 e2
          split at h
          · rename_i e3; cases h; simp only [rd]; exact (nw_cat (iha.1 δ _ e1) (ihb.1 δ _ e2) e3).up.ev
          · cases h
        · cases h
      · cases h
    refine ⟨ev, fun δ r h => ?_, fun δ r h => ?_, fun δ r h => ?_, fun δ b f g t h => ?_⟩
    · simp [evalA] at h
    · simp [evalO] at h
    · simp [evalI] at h
    · simp [isTst] at t
  | rep a b iha ihb =>
    have ev : ∀ δ r, eval Γ (.rep a b) δ = some r → EvOk C B0 H0 (rd C Γ (.rep a b)) δ r := fun δ r h => by
      simp only [eval] at h
      split at h
      · rename_i i f1 g1 e1
        split at h
        · rename_i j f2 g2 e2
          split at h
          · rename_i e3; cases h; simp only [rd]; exact (nw_rep (iha.1 δ _ e1) (ihb.1 δ _ e2) e3).up.ev
          · cases h
        · cases h
      · cases h
    refine ⟨ev, fun δ r h => ?_, fun δ r h => ?_, fun δ r h => ?_, fun δ b f g t h => ?_⟩
    · simp [evalA] at h
    · simp [evalO] at h
    · simp [evalI] at h
    · simp [isTst] at t
  | neg a iha =>
    have ev : ∀ δ r, eval Γ (.neg a) δ = some r → EvOk C B0 H0 (rd C Γ (.neg a)) δ r := fun δ r h => by
      simp only [eval] at h
      split at h
      · rename_i i f1 g1 e1; cases h; simp only [rd]; exact ev_neg (iha.1 δ _ e1)
      · cases h
    refine ⟨ev, fun δ r h => ?_, fun δ r h => ?_, fun δ r h => ?_, fun δ b f g t h => ?_⟩
    · simp [evalA] at h
    · simp [evalO] at h
    · simp [evalI] at h
    · simp [isTst] at t
  | not a iha =>
    have ev : ∀ δ r, eval Γ (.not a) δ = some r → EvOk C B0 H0 (rd C Γ (.not a)) δ r := fun δ r h => by
      simp only [eval] at h
      split at h
      · rename_i i f1 g1 e1; cases h; simp only [rd]; exact ev_not (iha.1 δ _ e1)
      · cases h
    refine ⟨ev, fun δ r h => ?_, fun δ r h => ?_, fun δ r h => ?_, fun δ b f g t h => ?_⟩
    · simp [evalA] at h
    · simp [evalO] at h
    · simp [evalI] at h
    · simp only [isTst] at t
      simp only [eval] at h
      split at h
      · rename_i i f1 g1 e1; cases h; simp only [rdT]; exact tt_not (iha.2.2.2.2 δ _ _ _ t e1)
      · cases h
  | eq a b iha ihb =>
    have ev : ∀ δ r, eval Γ (.eq a b) δ = some r → EvOk C B0 H0 (rd C Γ (.eq a b)) δ r := fun δ r h => by
      simp only [eval] at h
      split at h
      · rename_i x f1 g1 e1
        split at h
        · rename_i y f2 g2 e2
          split at h
          · rename_i e3; cases h; simp only [rd]; exact ev_eq (iha.1 δ _ e1) (ihb.1 δ _ e2) e3
          · cases h
        · cases h
      · cases h
    refine ⟨ev, fun δ r h => ?_, fun δ r h => ?_, fun δ r h => ?_, fun δ b f g t h => ?_⟩
    · simp [evalA] at h
    · simp [evalO] at h
    · simp [evalI] at h
    · have k := ev δ _ h
      simp only [rd] at k
      simp only [rdT]
      exact tt_B k
  | ne a b iha ihb =>
    have ev : ∀ δ r, eval Γ (.ne a b) δ = some r → EvOk C B0 H0 (rd C Γ (.ne a b)) δ r := fun δ r h => by
      simp only [eval] at h
      split at h
      · rename_i x f1 g1 e1
        split at h
        · rename_i y f2 g2 e2
          split at h
          · rename_i e3; cases h; simp only [rd]; exact ev_ne (iha.1 δ _ e1) (ihb.1 δ _ e2) e3
          · cases h
        · cases h
      · cases h
    refine ⟨ev, fun δ r h => ?_, fun δ r h => ?_, fun δ r h => ?_, fun δ b f g t h => ?_⟩
    · simp [evalA] at h
    · simp [evalO] at h
    · simp [evalI] at h
    · have k := ev δ _ h
      simp only [rd] at k
      simp only [rdT]
      exact tt_B k
  | cmp o a b iha ihb =>
    have ev : ∀ δ r, eval Γ (.cmp o a b) δ = some r → EvOk C B0 H0 (rd C Γ (.cmp o a b)) δ r := fun δ r h => by
      simp only [eval] at h
      split at h
      · rename_i i f1 g1 e1
        split at h
        · rename_i j f2 g2 e2
          cases h; simp only [rd]; exact ev_cmp (iha.1 δ _ e1) (ihb.1 δ _ e2)
        · cases h
      · cases h
    refine ⟨ev, fun δ r h => ?_, fun δ r h => ?_, fun δ r h => ?_, fun δ b f g t h => ?_⟩
    · simp [evalA] at h
    · simp [evalO] at h
    · simp [evalI] at h
    · have k := ev δ _ h
      simp only [rd] at k
      simp only [rdT]
      exact tt_B k
  | chn o o' a b c iha ihb ihc =>
    have ev : ∀ δ r, eval Γ (.chn o o' a b c) δ = some r → EvOk C B0 H0 (rd C Γ (.chn o o' a b c)) δ r := fun δ r h => by
      simp only [eval] at h
      split at h
      · rename_i i f1 g1 e1
        split at h
        · rename_i j f2 g2 e2
          split at h
          · rename_i e3
            split at h
            · rename_i k f3 g3 e4; cases h; simp only [rd]; exact ev_chn1 (iha.1 δ _ e1) (ihb.1 δ _ e2) (ihc.1 δ _ e4) e3
            · cases h
          · rename_i e3; cases h; simp only [rd]; exact ev_chn0 (iha.1 δ _ e1) (ihb.1 δ _ e2) e3
        · cases h
      · cases h
    refine ⟨ev, fun δ r h => ?_, fun δ r h => ?_, fun δ r h => ?_, fun δ b f g t h => ?_⟩
    · simp [evalA] at h
    · simp [evalO] at h
    · simp [evalI] at h
    · have k := ev δ _ h
      simp only [rd] at k
      simp only [rdT]
      exact tt_B k
  | isb a b iha ihb =>
    have ev : ∀ δ r, eval Γ (.isb a b) δ = some r → EvOk C B0 H0 (rd C Γ (.isb a b)) δ r := fun δ r h => by
      simp only [eval] at h
      split at h
      · rename_i i f1 g1 e1
        split at h
        · rename_i j f2 g2 e2
          cases h; simp only [rd]; exact ev_isb (iha.1 δ _ e1) (ihb.1 δ _ e2)
        · cases h
      · cases h
    refine ⟨ev, fun δ r h => ?_, fun δ r h => ?_, fun δ r h => ?_, fun δ b f g t h => ?_⟩
    · simp [evalA] at h
    · simp [evalO] at h
    · simp [evalI] at h
    · have k := ev δ _ h
      simp only [rd] at k
      simp only [rdT]
      exact tt_B k
  | isnb a b iha ihb =>
    have ev : ∀ δ r, eval Γ (.isnb a b) δ = some r → EvOk C B0 H0 (rd C Γ (.isnb a b)) δ r := fun δ r h => by
      simp only [eval] at h
      split at h
      · rename_i i f1 g1 e1
        split at h
        · rename_i j f2 g2 e2
          cases h; simp only [rd]; exact ev_isnb (iha.1 δ _ e1) (ihb.1 δ _ e2)
        · cases h
      · cases h
    refine ⟨ev, fun δ r h => ?_, fun δ r h => ?_, fun δ r h => ?_, fun δ b f g t h => ?_⟩
    · simp [evalA] at h
    · simp [evalO] at h
    · simp [evalI] at h
    · have k := ev δ _ h
      simp only [rd] at k
      simp only [rdT]
      exact tt_B k
  | and a b iha ihb =>
    have ev : ∀ δ r, eval Γ (.and a b) δ = some r → EvOk C B0 H0 (rd C Γ (.and a b)) δ r := fun δ r h => by
      simp only [eval] at h
      split at h
      · rename_i f1 g1 e1; simp only [rd]; exact ev_and1 (iha.1 δ _ e1) (ihb.1 δ _ h)
      · rename_i f1 g1 e1; cases h; simp only [rd]; exact ev_and0 (iha.1 δ _ e1)
      · cases h
    refine ⟨ev, fun δ r h => ?_, fun δ r h => ?_, fun δ r h => ?_, fun δ b f g t h => ?_⟩
    · simp [evalA] at h
    · simp [evalO] at h
    · simp [evalI] at h
    · simp only [isTst, Bool.and_eq_true] at t
      simp only [eval] at h
      split at h
      · rename_i f1 g1 e1; simp only [rdT]; exact tt_and1 (iha.2.2.2.2 δ _ _ _ t.1 e1) (ihb.2.2.2.2 δ _ _ _ t.2 h)
      · rename_i f1 g1 e1; cases h; simp only [rdT]; exact tt_and0 (iha.2.2.2.2 δ _ _ _ t.1 e1)
      · cases h
  | or a b iha ihb =>
    have ev : ∀ δ r, eval Γ (.or a b) δ = some r → EvOk C B0 H0 (rd C Γ (.or a b)) δ r := fun δ r h => by
      simp only [eval] at h
      split at h
      · rename_i f1 g1 e1; simp only [rd]; exact ev_or0 (iha.1 δ _ e1) (ihb.1 δ _ h)
      · rename_i f1 g1 e1; cases h; simp only [rd]; exact ev_or1 (iha.1 δ _ e1)
      · cases h
    refine ⟨ev, fun δ r h => ?_, fun δ r h => ?_, fun δ r h => ?_, fun δ b f g t h => ?_⟩
    · simp [evalA] at h
    · simp [evalO] at h
    · simp [evalI] at h
    · simp only [isTst, Bool.and_eq_true] at t
      simp only [eval] at h
      split at h
      · rename_i f1 g1 e1; simp only [rdT]; exact tt_or0 (iha.2.2.2.2 δ _ _ _ t.1 e1) (ihb.2.2.2.2 δ _ _ _ t.2 h)
      · rename_i f1 g1 e1; cases h; simp only [rdT]; exact tt_or1 (iha.2.2.2.2 δ _ _ _ t.1 e1)
      · cases h
  | ite c a b ihc iha ihb =>
    have ev : ∀ δ r, eval Γ (.ite c a b) δ = some r → EvOk C B0 H0 (rd C Γ (.ite c a b)) δ r := fun δ r h => by
      simp only [eval] at h
      split at h
      · rename_i t
        split at h
        · rename_i f1 g1 e1; simp only [rd]; exact ev_ite1 (ihc.2.2.2.2 δ _ _ _ t e1) (iha.1 δ _ h)
        · rename_i f1 g1 e1; simp only [rd]; exact ev_ite0 (ihc.2.2.2.2 δ _ _ _ t e1) (ihb.1 δ _ h)
        · cases h
      · cases h
    refine ⟨ev, fun δ r h => ?_, fun δ r h => ?_, fun δ r h => ?_, fun δ b f g t h => ?_⟩
    · simp [evalA] at h
    · simp [evalO] at h
    · simp [evalI] at h
    · simp [isTst] at t
  | ix a b iha ihb =>
    have ev : ∀ δ r, eval Γ (.ix a b) δ = some r → EvOk C B0 H0 (rd C Γ (.ix a b)) δ r := fun δ r h => by
      simp only [eval] at h
      split at h
      · rename_i xs f1 g1 e1
        split at h
        · rename_i i f2 g2 e2
          split at h
          · rename_i d e3; cases h; simp only [rd]; exact ev_ixL (iha.1 δ _ e1) (ihb.1 δ _ e2) e3
          · cases h
        · cases h
      · rename_i xs f1 g1 e1
        split at h
        · rename_i i f2 g2 e2
          split at h
          · rename_i d e3; cases h; simp only [rd]; exact ev_ixT (iha.1 δ _ e1) (ihb.1 δ _ e2) e3
          · cases h
        · cases h
      · cases h
    refine ⟨ev, fun δ r h => ?_, fun δ r h => ?_, fun δ r h => ?_, fun δ b f g t h => ?_⟩
    · simp [evalA] at h
    · simp [evalO] at h
    · simp [evalI] at h
    · have k := ev δ _ h
      simp only [rd] at k
      simp only [rdT]
      exact tt_B k
  | oix j b ihb =>
    have ev : ∀ δ r, eval Γ (.oix j b) δ = some r → EvOk C B0 H0 (rd C Γ (.oix j b)) δ r := fun δ r h => by
      simp only [eval] at h
      split at h
      · rename_i xs g1 e1
        split at h
        · rename_i i f2 g2 e2
          split at h
          · rename_i d e3; cases h; simp only [rd]; exact ev_oix e1 (ihb.1 δ _ e2) e3
          · cases h
        · cases h
      · cases h
    refine ⟨ev, fun δ r h => ?_, fun δ r h => ?_, fun δ r h => ?_, fun δ b f g t h => ?_⟩
    · simp [evalA] at h
    · simp [evalO] at h
    · simp [evalI] at h
    · simp [isTst] at t
  | sl a lo hi iha ihl ihh =>
    have ev : ∀ δ r, eval Γ (.sl a lo hi) δ = some r → EvOk C B0 H0 (rd C Γ (.sl a lo hi)) δ r := fun δ r h => by
      simp only [eval] at h
      split at h
      · rename_i xs f1 g1 e1
        split at h
        · rename_i l e2
          split at h
          · rename_i u e3; cases h; simp only [rd]; exact (nw_sl (iha.1 δ _ e1) (ihl.2.2.1 δ _ e2) (ihh.2.2.1 δ _ e3)).up.ev
          · cases h
        · cases h
      · cases h
    refine ⟨ev, fun δ r h => ?_, fun δ r h => ?_, fun δ r h => ?_, fun δ b f g t h => ?_⟩
    · simp [evalA] at h
    · simp [evalO] at h
    · simp [evalI] at h
    · simp [isTst] at t
  | tup es ihe =>
    have ev : ∀ δ r, eval Γ (.tup es) δ = some r → EvOk C B0 H0 (rd C Γ (.tup es)) δ r := fun δ r h => by
      simp only [eval] at h
      split at h
      · rename_i ds f1 g1 e1
        split at h
        · rename_i e2; cases h; simp only [rd]; exact ev_tup (ihe.2.1 δ _ e1) e2
        · cases h
      · cases h
    refine ⟨ev, fun δ r h => ?_, fun δ r h => ?_, fun δ r h => ?_, fun δ b f g t h => ?_⟩
    · simp [evalA] at h
    · simp [evalO] at h
    · simp [evalI] at h
    · simp [isTst] at t
  | lst es ihe =>
    have ev : ∀ δ r, eval Γ (.lst es) δ = some r → EvOk C B0 H0 (rd C Γ (.lst es)) δ r := fun δ r h => by
      simp only [eval] at h
      split at h
      · rename_i ds f1 g1 e1
        split at h
        · rename_i e2; cases h; simp only [rd]; exact (nw_lst (ihe.2.1 δ _ e1) e2).ev
        · cases h
      · cases h
    refine ⟨ev, fun δ r h => ?_, fun δ r h => ?_, fun δ r h => ?_, fun δ b f g t h => ?_⟩
    · simp [evalA] at h
    · simp [evalO] at h
    · simp [evalI] at h
    · simp [isTst] at t
  | len a iha =>
    have ev : ∀ δ r, eval Γ (.len a) δ = some r → EvOk C B0 H0 (rd C Γ (.len a)) δ r := fun δ r h => by
      simp only [eval] at h
      split at h
      · rename_i xs f1 g1 e1; cases h; simp only [rd]; exact ev_lenL (iha.1 δ _ e1)
      · rename_i xs f1 g1 e1; cases h; simp only [rd]; exact ev_lenT (iha.1 δ _ e1)
      · cases h
    refine ⟨ev, fun δ r h => ?_, fun δ r h => ?_, fun δ r h => ?_, fun δ b f g t h => ?_⟩
    · simp [evalA] at h
    · simp [evalO] at h
    · simp [evalI] at h
    · simp [isTst] at t
  | isI t a iha =>
    have ev : ∀ δ r, eval Γ (.isI t a) δ = some r → EvOk C B0 H0 (rd C Γ (.isI t a)) δ r := fun δ r h => by
      simp only [eval] at h
      split at h
      · rename_i d f1 g1 e1
        split at h
        · rename_i b e2; cases h; simp only [rd]; exact ev_isI (iha.1 δ _ e1) e2
        · cases h
      · cases h
    refine ⟨ev, fun δ r h => ?_, fun δ r h => ?_, fun δ r h => ?_, fun δ b f g t h => ?_⟩
    · simp [evalA] at h
    · simp [evalO] at h
    · simp [evalI] at h
    · have k := ev δ _ h
      simp only [rd] at k
      simp only [rdT]
      exact tt_B k
  | toL a iha =>
    have ev : ∀ δ r, eval Γ (.toL a) δ = some r → EvOk C B0 H0 (rd C Γ (.toL a)) δ r := fun δ r h => by
      simp only [eval] at h
      split at h
      · rename_i xs f1 g1 e1; cases h; simp only [rd]; exact (nw_toL (iha.1 δ _ e1)).up2.ev
      · rename_i xs f1 g1 e1; cases h; simp only [rd]; exact (nw_toLT (iha.1 δ _ e1)).up2.ev
      · cases h
    refine ⟨ev, fun δ r h => ?_, fun δ r h => ?_, fun δ r h => ?_, fun δ b f g t h => ?_⟩
    · simp [evalA] at h
    · simp [evalO] at h
    · simp [evalI] at h
    · simp [isTst] at t
  | all a iha =>
    have ev : ∀ δ r, eval Γ (.all a) δ = some r → EvOk C B0 H0 (rd C Γ (.all a)) δ r := fun δ r h => by
      simp only [eval] at h
      split at h
      · rename_i xs f1 g1 e1
        split at h
        · rename_i bs e2; cases h; simp only [rd]; exact ev_bls (iha.1 δ _ e1) e2 (emp_bl _) fun a H Q s q => ⟨a, bs, rfl, s, q⟩
        · cases h
      · cases h
    refine ⟨ev, fun δ r h => ?_, fun δ r h => ?_, fun δ r h => ?_, fun δ b f g t h => ?_⟩
    · simp [evalA] at h
    · simp [evalO] at h
    · simp [evalI] at h
    · have k := ev δ _ h
      simp only [rd] at k
      simp only [rdT]
      exact tt_B k
  | any a iha =>
    have ev : ∀ δ r, eval Γ (.any a) δ = some r → EvOk C B0 H0 (rd C Γ (.any a)) δ r := fun δ r h => by
      simp only [eval] at h
      split at h
      · rename_i xs f1 g1 e1
        split at h
        · rename_i bs e2; cases h; simp only [rd]; exact ev_bls (iha.1 δ _ e1) e2 (emp_bl _) fun a H Q s q => ⟨a, bs, rfl, s, q⟩
        · cases h
      · cases h
    refine ⟨ev, fun δ r h => ?_, fun δ r h => ?_, fun δ r h => ?_, fun δ b f g t h => ?_⟩
    · simp [evalA] at h
    · simp [evalO] at h
    · simp [evalI] at h
    · have k := ev δ _ h
      simp only [rd] at k
      simp only [rdT]
      exact tt_B k
  | cnt a b iha ihb =>
    have ev : ∀ δ r, eval Γ (.cnt a b) δ = some r → EvOk C B0 H0 (rd C Γ (.cnt a b)) δ r := fun δ r h => by
      simp only [eval] at h
      split at h
      · rename_i i f1 g1 e1
        split at h
        · rename_i j f2 g2 e2
          split at h
          · rename_i ns e3; cases h; simp only [rd]; exact ev_cnt (iha.1 δ _ e1) (ihb.1 δ _ e2) e3
          · cases h
        · cases h
      · cases h
    refine ⟨ev, fun δ r h => ?_, fun δ r h => ?_, fun δ r h => ?_, fun δ b f g t h => ?_⟩
    · simp [evalA] at h
    · simp [evalO] at h
    · simp [evalI] at h
    · simp [isTst] at t
  | min2 a b iha ihb =>
    have ev : ∀ δ r, eval Γ (.min2 a b) δ = some r → EvOk C B0 H0 (rd C Γ (.min2 a b)) δ r := fun δ r h => by
      simp only [eval] at h
      split at h
      · rename_i i f1 g1 e1
        split at h
        · rename_i j f2 g2 e2
          cases h; simp only [rd]; exact ev_mm (iha.1 δ _ e1) (ihb.1 δ _ e2) fun H Q q => ⟨_, _, rfl, q⟩
        · cases h
      · cases h
    refine ⟨ev, fun δ r h => ?_, fun δ r h => ?_, fun δ r h => ?_, fun δ b f g t h => ?_⟩
    · simp [evalA] at h
    · simp [evalO] at h
    · simp [evalI] at h
    · simp [isTst] at t
  | max2 a b iha ihb =>
    have ev : ∀ δ r, eval Γ (.max2 a b) δ = some r → EvOk C B0 H0 (rd C Γ (.max2 a b)) δ r := fun δ r h => by
      simp only [eval] at h
      split at h
      · rename_i i f1 g1 e1
        split at h
        · rename_i j f2 g2 e2
          cases h; simp only [rd]; exact ev_mm (iha.1 δ _ e1) (ihb.1 δ _ e2) fun H Q q => ⟨_, _, rfl, q⟩
        · cases h
      · cases h
    refine ⟨ev, fun δ r h => ?_, fun δ r h => ?_, fun δ r h => ?_, fun δ b f g t h => ?_⟩
    · simp [evalA] at h
    · simp [evalO] at h
    · simp [evalI] at h
    · simp [isTst] at t
  | sum a iha =>
    have ev : ∀ δ r, eval Γ (.sum a) δ = some r → EvOk C B0 H0 (rd C Γ (.sum a)) δ r := fun δ r h => by
      simp only [eval] at h
      split at h
      · rename_i xs f1 g1 e1
        split at h
        · rename_i bs e2; cases h; simp only [rd]; exact ev_ints (iha.1 δ _ e1) e2 (emp_int _) fun a H Q s q => ⟨a, bs, rfl, s, q⟩
        · cases h
      · cases h
    refine ⟨ev, fun δ r h => ?_, fun δ r h => ?_, fun δ r h => ?_, fun δ b f g t h => ?_⟩
    · simp [evalA] at h
    · simp [evalO] at h
    · simp [evalI] at h
    · simp [isTst] at t
  | cntD a b iha ihb =>
    have ev : ∀ δ r, eval Γ (.cntD a b) δ = some r → EvOk C B0 H0 (rd C Γ (.cntD a b)) δ r := fun δ r h => by
      simp only [eval] at h
      split at h
      · rename_i xs f1 g1 e1
        split at h
        · rename_i y f2 g2 e2
          split at h
          · rename_i e3; cases h; simp only [rd]; exact ev_cntD (iha.1 δ _ e1) (ihb.1 δ _ e2) e3
          · cases h
        · cases h
      · cases h
    refine ⟨ev, fun δ r h => ?_, fun δ r h => ?_, fun δ r h => ?_, fun δ b f g t h => ?_⟩
    · simp [evalA] at h
    · simp [evalO] at h
    · simp [evalI] at h
    · simp [isTst] at t
  | tupL a iha =>
    have ev : ∀ δ r, eval Γ (.tupL a) δ = some r → EvOk C B0 H0 (rd C Γ (.tupL a)) δ r := fun δ r h => by
      simp only [eval] at h
      split at h
      · rename_i xs f1 g1 e1; cases h; simp only [rd]; exact ev_tupL (iha.1 δ _ e1)
      · cases h
    refine ⟨ev, fun δ r h => ?_, fun δ r h => ?_, fun δ r h => ?_, fun δ b f g t h => ?_⟩
    · simp [evalA] at h
    · simp [evalO] at h
    · simp [evalI] at h
    · simp [isTst] at t
  | lenSet a iha =>
    have ev : ∀ δ r, eval Γ (.lenSet a) δ = some r → EvOk C B0 H0 (rd C Γ (.lenSet a)) δ r := fun δ r h => by
      simp only [eval] at h
      split at h
      · rename_i xs f1 g1 e1
        split at h
        · rename_i nss e2
          split at h
          · rename_i e3; cases h; simp only [rd]; exact ev_lenSet (iha.1 δ _ e1) e2 e3
          · cases h
        · cases h
      · cases h
    refine ⟨ev, fun δ r h => ?_, fun δ r h => ?_, fun δ r h => ?_, fun δ b f g t h => ?_⟩
    · simp [evalA] at h
    · simp [evalO] at h
    · simp [evalI] at h
    · simp [isTst] at t
  | toR a iha =>
    have ev : ∀ δ r, eval Γ (.toR a) δ = some r → EvOk C B0 H0 (rd C Γ (.toR a)) δ r := fun δ r h => by
      simp only [eval] at h
      split at h
      · rename_i n f1 g1 e1
        split at h
        · rename_i e2; cases h; simp only [rd]; exact (nw_toR (iha.1 δ _ e1) e2).ev
        · cases h
      · cases h
    refine ⟨ev, fun δ r h => ?_, fun δ r h => ?_, fun δ r h => ?_, fun δ b f g t h => ?_⟩
    · simp [evalA] at h
    · simp [evalO] at h
    · simp [evalI] at h
    · simp [isTst] at t
  | srt a iha =>
    have ev : ∀ δ r, eval Γ (.srt a) δ = some r → EvOk C B0 H0 (rd C Γ (.srt a)) δ r := fun δ r h => by
      simp only [eval] at h
      split at h
      · rename_i xs f1 g1 e1
        split at h
        · rename_i ns e2
          split at h
          · rename_i e3; cases h; simp only [rd]; exact (nw_srt (iha.1 δ _ e1) e2 e3).ev
          · cases h
        · cases h
      · cases h
    refine ⟨ev, fun δ r h => ?_, fun δ r h => ?_, fun δ r h => ?_, fun δ b f g t h => ?_⟩
    · simp [evalA] at h
    · simp [evalO] at h
    · simp [evalI] at h
    · simp [isTst] at t
  | call k es ihe =>
    have ev : ∀ δ r, eval Γ (.call k es) δ = some r → EvOk C B0 H0 (rd C Γ (.call k es)) δ r := fun δ r h => by
      simp only [eval] at h
      split at h
      · rename_i F eF
        split at h
        · rename_i ds f1 g1 e1
          split at h
          · rename_i e2
            split at h
            · rename_i d e3; cases h; simp only [rd, eF]; exact ev_call (ihe.2.1 δ _ e1) e2 e3
            · cases h
          · cases h
        · cases h
      · cases h
    refine ⟨ev, fun δ r h => ?_, fun δ r h => ?_, fun δ r h => ?_, fun δ b f g t h => ?_⟩
    · simp [evalA] at h
    · simp [evalO] at h
    · simp [evalI] at h
    · have k := ev δ _ h
      simp only [rd] at k
      simp only [rdT]
      exact tt_B k
  | lc t it e ihi ihe =>
    have ev : ∀ δ r, eval Γ (.lc t it e) δ = some r → EvOk C B0 H0 (rd C Γ (.lc t it e)) δ r := fun δ r h => by
      simp only [eval] at h
      split at h
      · rename_i ds g e1
        split at h
        · rename_i e2
          split at h
          · rename_i ys gs e3; cases h; simp only [rd]; exact (nw_lc (ihi.2.2.2.1 δ _ e1).w e2 e3 (fun δ2 b hb => by cases hb; exact tt_yes) (fun δ2 r hr => ihe.1 δ2 r hr)).ev
          · cases h
        · cases h
      · cases h
    refine ⟨ev, fun δ r h => ?_, fun δ r h => ?_, fun δ r h => ?_, fun δ b f g t h => ?_⟩
    · simp [evalA] at h
    · simp [evalO] at h
    · simp [evalI] at h
    · simp [isTst] at t
  | lcQ t a e iha ihe =>
    have ev : ∀ δ r, eval Γ (.lcQ t a e) δ = some r → EvOk C B0 H0 (rd C Γ (.lcQ t a e)) δ r := fun δ r h => by
      simp only [eval] at h
      split at h
      · rename_i ds f1 g1 e1
        split at h
        · rename_i e2
          split at h
          · rename_i ys gs e3; cases h; simp only [rd]; exact (nw_lc (it_Q (iha.1 δ _ e1) e2.2) e2.1 e3 (fun δ2 b hb => by cases hb; exact tt_yes) (fun δ2 r hr => ihe.1 δ2 r hr)).ev
          · cases h
        · cases h
      · cases h
    refine ⟨ev, fun δ r h => ?_, fun δ r h => ?_, fun δ r h => ?_, fun δ b f g t h => ?_⟩
    · simp [evalA] at h
    · simp [evalO] at h
    · simp [evalI] at h
    · simp [isTst] at t
  | lcf t it c e ihi ihc ihe =>
    have ev : ∀ δ r, eval Γ (.lcf t it c e) δ = some r → EvOk C B0 H0 (rd C Γ (.lcf t it c e)) δ r := fun δ r h => by
      simp only [eval] at h
      split at h
      · rename_i ds g e1
        split at h
        · rename_i e2
          split at h
          · rename_i ys gs e3; cases h; simp only [rd]; exact (nw_lc (ihi.2.2.2.1 δ _ e1).w e2.1 e3 (fun δ2 b hb => tst_tt e2.2 ihc.2.2.2.2 hb) (fun δ2 r hr => ihe.1 δ2 r hr)).ev
          · cases h
        · cases h
      · cases h
    refine ⟨ev, fun δ r h => ?_, fun δ r h => ?_, fun δ r h => ?_, fun δ b f g t h => ?_⟩
    · simp [evalA] at h
    · simp [evalO] at h
    · simp [evalI] at h
    · simp [isTst] at t
  | inn a b iha ihb =>
    have ev : ∀ δ r, eval Γ (.inn a b) δ = some r → EvOk C B0 H0 (rd C Γ (.inn a b)) δ r := fun δ r h => by
      simp only [eval] at h
      split at h
      · rename_i x f1 g1 e1
        split at h
        · rename_i ys f2 g2 e2
          split at h
          · rename_i e3; cases h; simp only [rd]; exact ev_inn (iha.1 δ _ e1) (ihb.1 δ _ e2) e3
          · cases h
        · cases h
      · cases h
    refine ⟨ev, fun δ r h => ?_, fun δ r h => ?_, fun δ r h => ?_, fun δ b f g t h => ?_⟩
    · simp [evalA] at h
    · simp [evalO] at h
    · simp [evalI] at h
    · have k := ev δ _ h
      simp only [rd] at k
      simp only [rdT]
      exact tt_B k
  | nin a b iha ihb =>
    have ev : ∀ δ r, eval Γ (.nin a b) δ = some r → EvOk C B0 H0 (rd C Γ (.nin a b)) δ r := fun δ r h => by
      simp only [eval] at h
      split at h
      · rename_i x f1 g1 e1
        split at h
        · rename_i ys f2 g2 e2
          split at h
          · rename_i e3; cases h; simp only [rd]; exact ev_nin (iha.1 δ _ e1) (ihb.1 δ _ e2) e3
          · cases h
        · cases h
      · cases h
    refine ⟨ev, fun δ r h => ?_, fun δ r h => ?_, fun δ r h => ?_, fun δ b f g t h => ?_⟩
    · simp [evalA] at h
    · simp [evalO] at h
    · simp [evalI] at h
    · have k := ev δ _ h
      simp only [rd] at k
      simp only [rdT]
      exact tt_B k
  | inT a b iha ihb =>
    have ev : ∀ δ r, eval Γ (.inT a b) δ = some r → EvOk C B0 H0 (rd C Γ (.inT a b)) δ r := fun δ r h => by
      simp only [eval] at h
      split at h
      · rename_i i f1 g1 e1
        split at h
        · rename_i j f2 g2 e2
          split at h
          · rename_i ss e3; cases h; simp only [rd]; exact ev_inT (iha.1 δ _ e1) (ihb.1 δ _ e2) e3
          · cases h
        · cases h
      · cases h
    refine ⟨ev, fun δ r h => ?_, fun δ r h => ?_, fun δ r h => ?_, fun δ b f g t h => ?_⟩
    · simp [evalA] at h
    · simp [evalO] at h
    · simp [evalI] at h
    · have k := ev δ _ h
      simp only [rd] at k
      simp only [rdT]
      exact tt_B k
  | fld nm a iha =>
    have ev : ∀ δ r, eval Γ (.fld nm a) δ = some r → EvOk C B0 H0 (rd C Γ (.fld nm a)) δ r := fun δ r h => by
      simp only [eval] at h
      split at h
      · rename_i c fs f1 g1 e1
        split at h
        · rename_i ns e2
          split at h
          · split at h
            · rename_i d e3; cases h; simp only [rd]; exact ev_fld hk (iha.1 δ _ e1) e2 e3
            · cases h
          · cases h
        · cases h
      · cases h
    refine ⟨ev, fun δ r h => ?_, fun δ r h => ?_, fun δ r h => ?_, fun δ b f g t h => ?_⟩
    · simp [evalA] at h
    · simp [evalO] at h
    · simp [evalI] at h
    · simp [isTst] at t
  | isC c' a iha =>
    have ev : ∀ δ r, eval Γ (.isC c' a) δ = some r → EvOk C B0 H0 (rd C Γ (.isC c' a)) δ r := fun δ r h => by
      simp only [eval] at h
      split at h
      · rename_i c fs f1 g1 e1
        split at h
        · rename_i ns e2
          split at h
          · rename_i r e3
            split at h
            · rename_i b e4; cases h; simp only [rd]; exact ev_isC hk (iha.1 δ _ e1) e2 e3 e4
            · cases h
          · cases h
        · cases h
      · cases h
    refine ⟨ev, fun δ r h => ?_, fun δ r h => ?_, fun δ r h => ?_, fun δ b f g t h => ?_⟩
    · simp [evalA] at h
    · simp [evalO] at h
    · simp [evalI] at h
    · have k := ev δ _ h
      simp only [rd] at k
      simp only [rdT]
      exact tt_B k
  | minL a iha =>
    have ev : ∀ δ r, eval Γ (.minL a) δ = some r → EvOk C B0 H0 (rd C Γ (.minL a)) δ r := fun δ r h => by
      simp only [eval] at h
      split at h
      · rename_i x xs f1 g1 e1
        split at h
        · rename_i e2; cases h; simp only [rd]; exact ev_minL (iha.1 δ _ e1) e2
        · cases h
      · cases h
    refine ⟨ev, fun δ r h => ?_, fun δ r h => ?_, fun δ r h => ?_, fun δ b f g t h => ?_⟩
    · simp [evalA] at h
    · simp [evalO] at h
    · simp [evalI] at h
    · simp [isTst] at t
  | maxL a iha =>
    have ev : ∀ δ r, eval Γ (.maxL a) δ = some r → EvOk C B0 H0 (rd C Γ (.maxL a)) δ r := fun δ r h => by
      simp only [eval] at h
      split at h
      · rename_i x xs f1 g1 e1
        split at h
        · rename_i e2; cases h; simp only [rd]; exact ev_maxL (iha.1 δ _ e1) e2
        · cases h
      · cases h
    refine ⟨ev, fun δ r h => ?_, fun δ r h => ?_, fun δ r h => ?_, fun δ b f g t h => ?_⟩
    · simp [evalA] at h
    · simp [evalO] at h
    · simp [evalI] at h
    · simp [isTst] at t
  | rev a iha =>
    have ev : ∀ δ r, eval Γ (.rev a) δ = some r → EvOk C B0 H0 (rd C Γ (.rev a)) δ r := fun δ r h => by
      simp only [eval] at h
      split at h
      · rename_i xs f1 g1 e1; cases h; simp only [rd]; exact (nw_rev (iha.1 δ _ e1)).up.ev
      · cases h
    refine ⟨ev, fun δ r h => ?_, fun δ r h => ?_, fun δ r h => ?_, fun δ b f g t h => ?_⟩
    · simp [evalA] at h
    · simp [evalO] at h
    · simp [evalI] at h
    · simp [isTst] at t
  | ev2 a iha =>
    have ev : ∀ δ r, eval Γ (.ev2 a) δ = some r → EvOk C B0 H0 (rd C Γ (.ev2 a)) δ r := fun δ r h => by
      simp only [eval] at h
      split at h
      · rename_i xs f1 g1 e1; cases h; simp only [rd]; exact (nw_ev2 (iha.1 δ _ e1)).up.ev
      · cases h
    refine ⟨ev, fun δ r h => ?_, fun δ r h => ?_, fun δ r h => ?_, fun δ b f g t h => ?_⟩
    · simp [evalA] at h
    · simp [evalO] at h
    · simp [evalI] at h
    · simp [isTst] at t
  | new k es ihe =>
    have ev : ∀ δ r, eval Γ (.new k es) δ = some r → EvOk C B0 H0 (rd C Γ (.new k es)) δ r := fun δ r h => by
      simp only [eval] at h
      split at h
      · rename_i F eF
        split at h
        · rename_i ds f1 g1 e1
          split at h
          · rename_i e2
            split at h
            · rename_i fs e3; cases h; simp only [rd, eF]; exact ev_new (ihe.2.1 δ _ e1) e2 e3
            · cases h
          · cases h
        · cases h
      · cases h
    refine ⟨ev, fun δ r h => ?_, fun δ r h => ?_, fun δ r h => ?_, fun δ b f g t h => ?_⟩
    · simp [evalA] at h
    · simp [evalO] at h
    · simp [evalI] at h
    · simp [isTst] at t
  | meth m o es iho ihe =>
    have ev : ∀ δ r, eval Γ (.meth m o es) δ = some r → EvOk C B0 H0 (rd C Γ (.meth m o es)) δ r := fun δ r h => by
      simp only [eval] at h
      split at h
      · rename_i nm tb eF
        split at h
        · rename_i c fs f1 g1 e0
          split at h
          · rename_i F e4
            split at h
            · rename_i ds f2 g2 e1
              split at h
              · rename_i e2
                split at h
                · rename_i d e3; cases h; simp only [rd, eF]; exact ev_meth hk (iho.1 δ _ e0) (ihe.2.1 δ _ e1) e4 e2 e3
                · cases h
              · cases h
            · cases h
          · cases h
        · cases h
      · cases h
    refine ⟨ev, fun δ r h => ?_, fun δ r h => ?_, fun δ r h => ?_, fun δ b f g t h => ?_⟩
    · simp [evalA] at h
    · simp [evalO] at h
    · simp [evalI] at h
    · have k := ev δ _ h
      simp only [rd] at k
      simp only [rdT]
      exact tt_B k
  | itR3 a b c iha ihb ihc =>
    have ev : ∀ δ r, eval Γ (.itR3 a b c) δ = some r → EvOk C B0 H0 (rd C Γ (.itR3 a b c)) δ r := fun δ r h => by
      simp [eval] at h
    refine ⟨ev, fun δ r h => ?_, fun δ r h => ?_, fun δ r h => ?_, fun δ b f g t h => ?_⟩
    · simp [evalA] at h
    · simp [evalO] at h
    · simp only [evalI] at h
      split at h
      · rename_i m f1 g1 e1
        split at h
        · rename_i n f2 g2 e2
          split at h
          · rename_i s f3 g3 e3
            split at h
            · rename_i e4; cases h; simp only [rdI]; exact it_R3 (iha.1 δ _ e1) (ihb.1 δ _ e2) (ihc.1 δ _ e3) e4
            · cases h
          · cases h
        · cases h
      · cases h
    · simp [isTst] at t
  | nil  =>
    have ev : ∀ δ r, eval Γ (.nil ) δ = some r → EvOk C B0 H0 (rd C Γ (.nil )) δ r := fun δ r h => by
      simp [eval] at h
    refine ⟨ev, fun δ r h => ?_, fun δ r h => ?_, fun δ r h => ?_, fun δ b f g t h => ?_⟩
    · simp only [evalA] at h; cases h; simp only [rdA]; exact ar_nil
    · simp only [evalO] at h; cases h; simp only [rdO]; exact po_none
    · simp [evalI] at h
    · simp [isTst] at t
  | cons a tl iha ihr =>
    have ev : ∀ δ r, eval Γ (.cons a tl) δ = some r → EvOk C B0 H0 (rd C Γ (.cons a tl)) δ r := fun δ r h => by
      simp [eval] at h
    refine ⟨ev, fun δ r h => ?_, fun δ r h => ?_, fun δ r h => ?_, fun δ b f g t h => ?_⟩
    · simp only [evalA] at h
      split at h
      · rename_i d f1 g1 e1
        split at h
        · rename_i ds f2 g2 e2; cases h; simp only [rdA]; exact ar_cons (iha.1 δ _ e1) (ihr.2.1 δ _ e2)
        · cases h
      · cases h
    · cases tl with
      | nil =>
        simp only [evalO] at h
        split at h
        · rename_i i f1 g1 e1; cases h; simp only [rdO]; exact po_some (iha.1 δ _ e1)
        · cases h
      | _ => simp [evalO] at h
    · simp [evalI] at h
    · simp [isTst] at t
  | itL a iha =>
    have ev : ∀ δ r, eval Γ (.itL a) δ = some r → EvOk C B0 H0 (rd C Γ (.itL a)) δ r := fun δ r h => by
      simp [eval] at h
    refine ⟨ev, fun δ r h => ?_, fun δ r h => ?_, fun δ r h => ?_, fun δ b f g t h => ?_⟩
    · simp [evalA] at h
    · simp [evalO] at h
    · simp only [evalI] at h
      split at h
      · rename_i ds g e1; cases h; simp only [rdI]; exact it_L (iha.1 δ _ e1)
      · cases h
    · simp [isTst] at t
  | itT a iha =>
    have ev : ∀ δ r, eval Γ (.itT a) δ = some r → EvOk C B0 H0 (rd C Γ (.itT a)) δ r := fun δ r h => by
      simp [eval] at h
    refine ⟨ev, fun δ r h => ?_, fun δ r h => ?_, fun δ r h => ?_, fun δ b f g t h => ?_⟩
    · simp [evalA] at h
    · simp [evalO] at h
    · simp only [evalI] at h
      split at h
      · rename_i ds g e1; cases h; simp only [rdI]; exact it_T (iha.1 δ _ e1)
      · cases h
    · simp [isTst] at t
  | itE a iha =>
    have ev : ∀ δ r, eval Γ (.itE a) δ = some r → EvOk C B0 H0 (rd C Γ (.itE a)) δ r := fun δ r h => by
      simp [eval] at h
    refine ⟨ev, fun δ r h => ?_, fun δ r h => ?_, fun δ r h => ?_, fun δ b f g t h => ?_⟩
    · simp [evalA] at h
    · simp [evalO] at h
    · simp only [evalI] at h
      split at h
      · rename_i ds g e1; cases h; simp only [rdI]; exact it_E (iha.1 δ _ e1)
      · cases h
    · simp [isTst] at t
  | itR a iha =>
    have ev : ∀ δ r, eval Γ (.itR a) δ = some r → EvOk C B0 H0 (rd C Γ (.itR a)) δ r := fun δ r h => by
      simp [eval] at h
    refine ⟨ev, fun δ r h => ?_, fun δ r h => ?_, fun δ r h => ?_, fun δ b f g t h => ?_⟩
    · simp [evalA] at h
    · simp [evalO] at h
    · simp only [evalI] at h
      split at h
      · rename_i n f1 g1 e1
        split at h
        · rename_i e2; cases h; simp only [rdI]; exact it_R (iha.1 δ _ e1) e2
        · cases h
      · cases h
    · simp [isTst] at t
  | itR2 a b iha ihb =>
    have ev : ∀ δ r, eval Γ (.itR2 a b) δ = some r → EvOk C B0 H0 (rd C Γ (.itR2 a b)) δ r := fun δ r h => by
      simp [eval] at h
    refine ⟨ev, fun δ r h => ?_, fun δ r h => ?_, fun δ r h => ?_, fun δ b f g t h => ?_⟩
    · simp [evalA] at h
    · simp [evalO] at h
    · simp only [evalI] at h
      split at h
      · rename_i m f1 g1 e1
        split at h
        · rename_i n f2 g2 e2
          split at h
          · rename_i e3; cases h; simp only [rdI]; exact it_R2 (iha.1 δ _ e1) (ihb.1 δ _ e2) e3
          · cases h
        · cases h
      · cases h
    · simp [isTst] at t
  | itZ a b iha ihb =>
    have ev : ∀ δ r, eval Γ (.itZ a b) δ = some r → EvOk C B0 H0 (rd C Γ (.itZ a b)) δ r := fun δ r h => by
      simp [eval] at h
    refine ⟨ev, fun δ r h => ?_, fun δ r h => ?_, fun δ r h => ?_, fun δ b f g t h => ?_⟩
    · simp [evalA] at h
    · simp [evalO] at h
    · simp only [evalI] at h
      split at h
      · rename_i xs g1 e1
        split at h
        · rename_i ys g2 e2; cases h; simp only [rdI]; exact it_Z (iha.1 δ _ e1) (ihb.1 δ _ e2)
        · cases h
      · cases h
    · simp [isTst] at t
end
end G

namespace G
open PySem L2
section
variable {C : Cf} {B H H' : Hp}
mutual
theorem Tr.ex : ∀ {d : D} {v : V} {ps : List Addr}, Tr C B H d v ps → ∀ p ∈ ps, ∃ o, H p = some o
  | .ls ds, v, ps, h, p, hp => by
    rw [tr_ls] at h
    obtain ⟨a, xs, qs, h1, h2, rfl, h4⟩ := h
    rcases List.mem_cons.mp hp with rfl | hp
    · exact ⟨_, h2⟩
    · exact Trs.ex h4 p hp
  | .dc ks ds, v, ps, h, p, hp => by
    rw [tr_dc] at h
    obtain ⟨a, xs, qs, h1, h2, h3, rfl, h4⟩ := h
    rcases List.mem_cons.mp hp with rfl | hp
    · exact ⟨_, h2⟩
    · exact Trs.ex h4 p hp
  | .ob c ds, v, ps, h, p, hp => by
    rw [tr_ob] at h
    obtain ⟨a, dx, xs, qs, h1, h2, h3, rfl, h4⟩ := h
    rcases List.mem_cons.mp hp with rfl | hp
    · exact ⟨_, h2⟩
    · exact Trs.ex h4 p hp
  | .tp ds, v, ps, h, p, hp => by
    simp only [Tr] at h
    rw [h.1] at hp
    cases hp
  | .non, _, _, h, p, hp => by
    simp only [Tr] at h
    rw [h.1] at hp
    cases hp
  | .bl _, _, _, h, p, hp => by
    simp only [Tr] at h
    rw [h.1] at hp
    cases hp
  | .int _, _, _, h, p, hp => by
    simp only [Tr] at h
    rw [h.1] at hp
    cases hp
  | .str _, _, _, h, p, hp => by
    simp only [Tr] at h
    rw [h.1] at hp
    cases hp
theorem Trs.ex : ∀ {ds : List D} {vs : List V} {ps : List Addr}, Trs C B H ds vs ps → ∀ p ∈ ps, ∃ o, H p = some o
  | [], _, _, h, p, hp => by
    rw [trs_nil] at h
    rw [h.2] at hp
    cases hp
  | d :: ds, vs, ps, h, p, hp => by
    rw [trs_cons] at h
    obtain ⟨v, r, p1, p2, h1, rfl, h3, h4⟩ := h
    rcases List.mem_append.mp hp with hp | hp
    · exact Tr.ex h3 p hp
    · exact Trs.ex h4 p hp
end
mutual
theorem Tr.emp {B' : Hp} : ∀ {d : D} {v : V} {ps : List Addr}, d.tflat = true → Tr C B H d v ps → Tr C B' H d v ps
  | .ls ds, v, ps, e, h => by
    rw [tr_ls] at h ⊢
    obtain ⟨a, xs, qs, h1, h2, h3, h4⟩ := h
    exact ⟨a, xs, qs, h1, h2, h3, Trs.emp (by simpa only [D.tflat] using e) h4⟩
  | .dc ks ds, v, ps, e, h => by
    rw [tr_dc] at h ⊢
    obtain ⟨a, xs, qs, h1, h2, hl, h3, h4⟩ := h
    exact ⟨a, xs, qs, h1, h2, hl, h3, Trs.emp (by simpa only [D.tflat] using e) h4⟩
  | .ob c ds, v, ps, e, h => by
    rw [tr_ob] at h ⊢
    obtain ⟨a, dx, xs, qs, h1, h2, hl, h3, h4⟩ := h
    exact ⟨a, dx, xs, qs, h1, h2, hl, h3, Trs.emp (by simpa only [D.tflat] using e) h4⟩
  | .tp ds, v, ps, e, h => by simp [D.tflat] at e
  | .non, _, _, _, h => by simpa only [Tr] using h
  | .bl _, _, _, _, h => by simpa only [Tr] using h
  | .int _, _, _, _, h => by simpa only [Tr] using h
  | .str _, _, _, _, h => by simpa only [Tr] using h
theorem Trs.emp {B' : Hp} : ∀ {ds : List D} {vs : List V} {ps : List Addr}, D.tflats ds = true → Trs C B H ds vs ps → Trs C B' H ds vs ps
  | [], _, _, _, h => by simpa only [Trs] using h
  | d :: ds, vs, ps, e, h => by
    rw [trs_cons] at h ⊢
    simp only [D.tflats, Bool.and_eq_true] at e
    obtain ⟨v, r, p1, p2, h1, h2, h3, h4⟩ := h
    exact ⟨v, r, p1, p2, h1, h2, Tr.emp e.1 h3, Trs.emp e.2 h4⟩
end
theorem nd_app {l r : List Addr} (h1 : l.Nodup) (h2 : r.Nodup) (h : ∀ p ∈ l, p ∉ r) : (l ++ r).Nodup := by
  rw [List.nodup_append]
  exact ⟨h1, h2, fun a ha b hb e => h a ha (e ▸ hb)⟩
end
section
variable (C : Cf) (B0 H0 : Hp)
def TwOk (te : TE) (δ : List Sl) (d : D) : Prop := ∀ B H σ, Stt C B0 H0 B H σ δ → ∀ Q : VK, (∀ v ps B' H', Gro B H B' H' → Stt C B0 H0 B' H' σ δ → Tr C B' H' d v ps → ps.Nodup → (∀ p ∈ ps, H p = none ∧ B' p = none) → Q v H') → te σ H Q
def TwsOk (ta : TA) (δ : List Sl) (ds : List D) : Prop := ∀ B H σ, Stt C B0 H0 B H σ δ → ∀ Q : List V → Hp → Prop, (∀ vs ps B' H', Gro B H B' H' → Stt C B0 H0 B' H' σ δ → Trs C B' H' ds vs ps → ps.Nodup → (∀ p ∈ ps, H p = none ∧ B' p = none) → Q vs H') → ta σ H Q
end
theorem Gro.keepN {B H B' H' : Hp} (G : Gro B H B' H') {p : Addr} (hb : B p = none) (hh : ∃ o, H p = some o) : B' p = none := by
  obtain ⟨o, hh⟩ := hh
  cases z : B' p with
  | none => rfl
  | some o' =>
    rcases G.nw p o' z with k | k
    · rw [hb] at k; cases k
    · rw [hh] at k; cases k
section
variable {C : Cf} {B0 H0 : Hp} {δ : List Sl} {te ta : TE}
theorem tw_leaf {d : D} {g : Bool} (h : EvOk C B0 H0 te δ (d, true, g)) (hl : d.leaf = true) : TwOk C B0 H0 te δ d := fun B H σ S Q q =>
  h B H σ S Q fun v B' H' G S' r => q v [] B' H' G S' (by rw [tr_leaf hl]; exact ⟨rfl, r.mono (S'.weak true g true false id (fun h => by cases h))⟩) List.nodup_nil (fun p hp => by cases hp)
theorem tw_nw {ds : List D} {g : Bool} (h : NwOk C B0 H0 te δ ds true g) (hl : ds.all D.leaf = true) : TwOk C B0 H0 te δ (.ls ds) := fun B H σ S Q q =>
  h B H σ S Q fun p vs B' H' G S' hp hb hh r => q (.ref p) [p] B' H' G S' (by
    rw [tr_ls]
    exact ⟨p, vs, [], rfl, hh, rfl, Trs.of_leaves hl (r.mono (S'.weak true g true false id (fun h => by cases h)))⟩) (by simp) (fun x hx => by
    rw [List.mem_singleton] at hx
    subst hx
    exact ⟨hp, hb⟩)
theorem tws_nil : TwsOk C B0 H0 tNil δ [] := fun B H σ S Q q => q [] [] B H (Gro.refl _ _) S (by rw [trs_nil]; exact ⟨rfl, rfl⟩) List.nodup_nil (fun p hp => by cases hp)
theorem tws_cons {ta : TE} {tr : TA} {d : D} {ds : List D} (ha : TwOk C B0 H0 ta δ d) (hr : TwsOk C B0 H0 tr δ ds) : TwsOk C B0 H0 (tCons ta tr) δ (d :: ds) := fun B H σ S Q q =>
  ha B H σ S _ fun v p1 B1 H1 G1 S1 t1 n1 w1 => hr B1 H1 σ S1 _ fun vs p2 B2 H2 G2 S2 t2 n2 w2 => by
    refine q (v :: vs) (p1 ++ p2) B2 H2 (G1.trans G2) S2 ?_ (nd_app n1 n2 fun p hp hq => ?_) fun p hp => ?_
    · rw [trs_cons]
      exact ⟨v, vs, p1, p2, rfl, rfl, t1.keep G2.eb fun p _ o => G2.eh p o, t2⟩
    · obtain ⟨o, ho⟩ := t1.ex p hp
      rw [(w2 p hq).1] at ho
      cases ho
    · rcases List.mem_append.mp hp with hp | hp
      · exact ⟨(w1 p hp).1, G2.keepN (w1 p hp).2 (t1.ex p hp)⟩
      · exact ⟨G1.eh.free (w2 p hp).1, (w2 p hp).2⟩
theorem tw_lst {ta : TA} {ds : List D} (ha : TwsOk C B0 H0 ta δ ds) (h : ds.length ≤ 1000) : TwOk C B0 H0 (tLst ta) δ (.ls ds) := fun B H σ S Q q =>
  ha B H σ S _ fun vs ps B1 H1 G1 S1 t1 n1 w1 => by
    refine ⟨sz_of (by rw [t1.len]; omega), fun l hl => ?_⟩
    refine q (.ref l) (l :: ps) B1 (upd H1 l (.lst vs)) ⟨G1.eb, G1.eh.trans (same_upd hl), G1.nw⟩ (S1.cell hl) ?_ ?_ fun p hp => ?_
    · rw [tr_ls]
      exact ⟨l, vs, ps, rfl, upd_same, rfl, t1.keep (Same.refl _) fun p _ o => same_upd hl p o⟩
    · rw [List.nodup_cons]
      refine ⟨fun z => ?_, n1⟩
      obtain ⟨o, ho⟩ := t1.ex l z
      rw [hl] at ho
      cases ho
    · rcases List.mem_cons.mp hp with rfl | hp
      · exact ⟨G1.eh.free hl, S1.sub.free hl⟩
      · exact w1 p hp
theorem tw_ite1 {t : TT} {ta tb : TE} {d : D} (ht : TtOk C B0 H0 t δ true) (ha : TwOk C B0 H0 ta δ d) : TwOk C B0 H0 (tIf t ta tb) δ d := fun B H σ S Q q =>
  ht B H σ S _ fun B1 H1 G1 S1 => by
    rw [if_pos rfl]
    exact ha B1 H1 σ S1 _ fun v ps B2 H2 G2 S2 t n w => q v ps B2 H2 (G1.trans G2) S2 t n fun p hp => ⟨G1.eh.free (w p hp).1, (w p hp).2⟩
theorem tw_ite0 {t : TT} {ta tb : TE} {d : D} (ht : TtOk C B0 H0 t δ false) (ha : TwOk C B0 H0 tb δ d) : TwOk C B0 H0 (tIf t ta tb) δ d := fun B H σ S Q q =>
  ht B H σ S _ fun B1 H1 G1 S1 => by
    rw [if_neg Bool.false_ne_true]
    exact ha B1 H1 σ S1 _ fun v ps B2 H2 G2 S2 t n w => q v ps B2 H2 (G1.trans G2) S2 t n fun p hp => ⟨G1.eh.free (w p hp).1, (w p hp).2⟩
theorem tw_call {F : Fd} {ta : TA} {ds : List D} {d : D} {f g : Bool} {E : XK} (ha : ArOk C B0 H0 ta δ (ds, f, g)) (hl : ds.length = F.ar) (h : F.run ds = some d) (ht : F.tr = true) (hd : d.tflat = true) : TwOk C B0 H0 (tCall (spOf C F) [] E ta) δ d := fun B H σ S Q q =>
  ha B H σ S _ fun vs B1 H1 G1 S1 r1 => by
    rw [List.append_nil]
    refine ⟨Rg B0 H0 B1 H1 f g, ds, d, S1.toH f g, r1, hl, h, fun v H2 e r t => ?_⟩
    obtain ⟨ps, t, n, w⟩ := t ht hd
    exact q v ps B1 H2 ⟨G1.eb, G1.eh.trans e, G1.nw⟩ (S1.grow (Same.refl _) e (S1.sub.trans e) fun _ _ k => .inl k) (Tr.emp hd t) n fun p hp => ⟨G1.eh.free (w p hp), S1.sub.free (w p hp)⟩
theorem tw_new {F : Nd} {ta : TA} {ds fs : List D} {f g : Bool} {E : XK} (ha : ArOk C B0 H0 ta δ (ds, f, g)) (hl : ds.length = F.ar) (h : F.run ds = some fs) (ht : F.tr = true) (hd : D.tflats fs = true) : TwOk C B0 H0 (tMake (C.Cl F.cl).1 (spIn C F) [] E ta) δ (.ob F.cl fs) := fun B H σ S Q q =>
  ha B H σ S _ fun vs B1 H1 G1 S1 r1 => by
    intro x dx hx hdx ne
    rw [List.append_nil]
    have n1 : ∀ p o, H1 p = some o → (upd (upd H1 dx (.own x)) x (.ins (C.Cl F.cl).1 dx [])) p = some o := fun p o h => by
      rw [upd_ne (ne_of_none h hx), upd_ne (ne_of_none h hdx)]
      exact h
    refine ⟨x, dx, vs, Rg B0 H0 B1 H1 f g, ds, fs, rfl, upd_same, fun p o k => n1 p o (S1.toH f g p o k), (S1.toH f g).free hx, r1, hl, h, fun H2 xs hs hx2 hn r t => ?_⟩
    refine ⟨rfl, ?_⟩
    have e : Same H1 H2 := fun p o k => hs p o (ne_of_none k hx) (n1 p o k)
    obtain ⟨ps, t, n, w⟩ := t ht hd
    have w1 : ∀ p ∈ ps, H1 p = none := fun p hp => by
      cases z : H1 p with
      | none => rfl
      | some o =>
        have := w p hp
        rw [n1 p o z] at this
        cases this
    refine q (.ref x) (x :: ps) B1 H2 ⟨G1.eb, G1.eh.trans e, G1.nw⟩ (S1.grow (Same.refl _) e (S1.sub.trans e) fun _ _ k => .inl k) ?_ ?_ fun p hp => ?_
    · rw [tr_ob]
      exact ⟨x, dx, xs, ps, rfl, hx2, hn, rfl, Trs.emp hd t⟩
    · rw [List.nodup_cons]
      refine ⟨fun z => ?_, n⟩
      have := w x z
      rw [upd_same] at this
      cases this
    · rcases List.mem_cons.mp hp with rfl | hp
      · exact ⟨G1.eh.free hx, S1.sub.free hx⟩
      · exact ⟨G1.eh.free (w1 p hp), S1.sub.free (w1 p hp)⟩
theorem tw_lc {wi : TI} {t : Tg} {tt : TT} {ds : List D} {g : Bool} {cf : List Sl → Option Bool} {ef : List Sl → Option Rs} {ys : List D} {gs : Bool} {ok : D → Bool}
    (hi : ItOk C B0 H0 wi δ (ds, g)) (hn : ds.length ≤ 50000) (h : lcRun t g cf ef (wipeD δ t.sl) ds = some (ys, gs)) (hc : ∀ δ2 b, cf δ2 = some b → TtOk C B0 H0 tt δ2 b) (hy : ys.all ok = true) (he : ∀ δ2 d g, ef δ2 = some (d, true, g) → ok d = true → TwOk C B0 H0 te δ2 d) :
    TwOk C B0 H0 (tLc wi (t.rd C.K) tt te t.sl) δ (.ls ys) := fun B H σ S Q q => by
  refine hi B H σ S _ fun J B1 H1 G1 S1 wk => ?_
  obtain ⟨Gd, Y, w, wg, wy⟩ := wk
  intro L hL
  have h0L : H0 L = none := S1.ex0.free hL
  refine lc_it w (fun i Hc => ∃ B' acc ys1 ys2 gs2 ps, Gro B1 H1 B' Hc ∧ Stt C B0 H0 B' Hc σ δ ∧ B' L = none ∧ Hc L = some (.lst acc) ∧ Trs C B' Hc ys1 acc ps ∧ ps.Nodup ∧ (∀ p ∈ ps, H1 p = none ∧ B' p = none ∧ p ≠ L) ∧ ys1.length ≤ i ∧
    lcRun t g cf ef (wipeD δ t.sl) (ds.drop i) = some (ys2, gs2) ∧ ys1 ++ ys2 = ys) ?_ ?_ ?_ ?_
  · exact ⟨B1, [], [], ys, gs, [], ⟨Same.refl _, same_upd hL, fun _ _ h => .inl h⟩, S1.cell hL, S1.sub.free hL, upd_same, by rw [trs_nil]; exact ⟨rfl, rfl⟩, List.nodup_nil, (fun p hp => by cases hp), Nat.le_refl _, h, rfl⟩
  · rintro i Hc _ ⟨B', acc, ys1, ys2, gs2, ps, G', S', _⟩
    exact wg B' Hc σ δ G'.eb S'
  · rintro i x Hc Hd hlt ⟨B', acc, ys1, ys2, gs2, ps, G', S', bL, cL, ra, nd, wn, hl, run, ey⟩ y
    obtain ⟨d, B2, ed, G2, S2, rd⟩ := wy i Hc x Hd B' σ δ hlt G'.eb S' y
    have edr : ds.drop i = d :: ds.drop (i + 1) := by
      have hlt' : i < ds.length := hlt
      rw [List.getElem?_eq_getElem hlt'] at ed
      rw [List.drop_eq_getElem_cons hlt']
      cases ed
      rfl
    rw [edr] at run
    simp only [lcRun] at run
    split at run
    · cases run
    · rename_i δ2 e2
      have b2L : B2 L = none := G2.keepN bL ⟨_, cL⟩
      refine Tg.ok g t d (S2.wipe t.sl) rd e2 fun σ2 S3 w2 => ⟨?_, ?_⟩
      · rw [w2 t.sl fun _ h => h, wipe_wipe]
      · cases ec : cf δ2 with
        | none => rw [ec] at run; cases run
        | some b =>
          rw [ec] at run
          refine hc δ2 b ec B2 Hd σ2 S3 _ fun B3 H3 G3 S4 => ?_
          have c3 : H3 L = some (.lst acc) := G3.eh _ _ (G2.eh _ _ cL)
          have b3L : B3 L = none := G3.keepN b2L ⟨_, G2.eh _ _ cL⟩
          have S3' : Stt C B0 H0 B3 H3 σ δ := S2.by G3 S4
          have ra3 : Trs C B3 H3 ys1 acc ps := ra.keep (G2.trans G3).eb fun p _ o => (G2.trans G3).eh p o
          have wn3 : ∀ p ∈ ps, H1 p = none ∧ B3 p = none ∧ p ≠ L := fun p hp => ⟨(wn p hp).1, (G2.trans G3).keepN (wn p hp).2.1 (ra.ex p hp), (wn p hp).2.2⟩
          cases b with
          | false =>
            rw [if_neg Bool.false_ne_true]
            exact ⟨B3, acc, ys1, ys2, gs2, ps, (G'.trans G2).trans G3, S3', b3L, c3, ra3, nd, wn3, by omega, run, ey⟩
          | true =>
            rw [if_pos rfl]
            dsimp only at run
            split at run
            · rename_i y gy ee
              split at run
              · rename_i ys3 gs3 er
                cases run
                have oky : ok y = true := by
                  rw [← ey, List.all_append, Bool.and_eq_true] at hy
                  have := hy.2
                  rw [List.all_cons, Bool.and_eq_true] at this
                  exact this.1
                refine he δ2 y gy ee oky B3 H3 σ2 S4 _ fun v pv B4 H4 G4 S5 tv nv wv => ?_
                have c4 : H4 L = some (.lst acc) := G4.eh _ _ c3
                have b4L : B4 L = none := G4.keepN b3L ⟨_, c3⟩
                have G5 := ((G'.trans G2).trans G3).trans G4
                have nL : ∀ p ∈ pv, p ≠ L := fun p hp z => by
                  have := (wv p hp).1
                  rw [z, c3] at this
                  cases this
                refine ⟨acc, c4, ?_, B4, acc ++ [v], ys1 ++ [y], ys3, gs3, ps ++ pv, ⟨G5.eb, fun p o k => ?_, G5.nw⟩, S1.grow G5.eb (fun p o k => ?_) (fun p o k => ?_) G5.nw, b4L, upd_same, ?_, nd_app nd nv (fun p hp hq => ?_), fun p hp => ?_, ?_, er, ?_⟩
                · have hlt' : i < ds.length := hlt
                  rw [ra.len]
                  exact Nat.lt_of_lt_of_le (show ys1.length < 100000 by omega) (by decide)
                · rw [upd_ne (ne_of_none k hL)]
                  exact G5.eh _ _ k
                · rw [upd_ne (ne_of_none k hL)]
                  exact G5.eh _ _ k
                · rw [upd_ne (ne_of_none k b4L)]
                  exact S5.sub _ _ k
                · refine Trs.app (ra3.keep G4.eb fun p hp o k => ?_) (.one (tv.keep (Same.refl _) fun p hp o k => ?_))
                  · rw [upd_ne (wn3 p hp).2.2]
                    exact G4.eh _ _ k
                  · rw [upd_ne (nL p hp)]
                    exact k
                · obtain ⟨o, ho⟩ := ra3.ex p hp
                  rw [(wv p hq).1] at ho
                  cases ho
                · rcases List.mem_append.mp hp with hp | hp
                  · exact ⟨(wn p hp).1, G4.keepN (wn3 p hp).2.1 (ra3.ex p hp), (wn p hp).2.2⟩
                  · refine ⟨?_, (wv p hp).2, nL p hp⟩
                    cases z : H1 p with
                    | none => rfl
                    | some o =>
                      have := (wv p hp).1
                      rw [((G'.trans G2).trans G3).eh _ _ z] at this
                      cases this
                · rw [List.length_append]
                  show ys1.length + 1 ≤ i + 1
                  omega
                · rw [List.append_assoc]
                  exact ey
              · cases run
            · cases run
  · rintro Hc ⟨B', acc, ys1, ys2, gs2, ps, G', S', bL, cL, ra, nd, wn, hl, run, ey⟩
    rw [show ds.drop ds.length = [] from List.drop_length] at run
    simp only [lcRun, Option.some.injEq, Prod.mk.injEq] at run
    obtain ⟨rfl, rfl⟩ := run
    rw [List.append_nil] at ey
    subst ey
    refine q (.ref L) (L :: ps) B' Hc (G1.trans G') S' ?_ ?_ fun p hp => ?_
    · rw [tr_ls]
      exact ⟨L, acc, ps, rfl, cL, rfl, ra⟩
    · rw [List.nodup_cons]
      exact ⟨fun z => (wn L z).2.2 rfl, nd⟩
    · rcases List.mem_cons.mp hp with rfl | hp
      · exact ⟨G1.eh.free hL, bL⟩
      · exact ⟨G1.eh.free (wn p hp).1, (wn p hp).2.1⟩
end
section
variable {C : Cf} {B0 H0 : Hp} {Γ : Ga}
theorem eval_tree (hk : KsOk C Γ) : ∀ c : E, (∀ δ d g, eval Γ c δ = some (d, true, g) → trOk Γ c d = true → TwOk C B0 H0 (rd C Γ c) δ d) ∧ (∀ δ ds f g, evalA Γ c δ = some (ds, f, g) → f = true → trOks Γ c ds = true → TwsOk C B0 H0 (rdA C Γ c) δ ds) := by
  have ev := fun c => (eval_all (B0 := B0) (H0 := H0) hk c)
  intro c
  induction c with
  | toL a iha =>
    refine ⟨fun δ d g h t => ?_, fun δ ds f g h => by simp [evalA] at h⟩
    simp only [eval] at h
    split at h
    · rename_i xs f1 g1 e1
      simp only [Option.some.injEq, Prod.mk.injEq] at h
      obtain ⟨rfl, hf, hg⟩ := h
      simp only [rd]
      have := (nw_toL ((ev a).1 δ _ e1)).up2
      rw [hf] at this
      exact tw_nw this (by simpa only [trOk] using t)
    · rename_i xs f1 g1 e1
      simp only [Option.some.injEq, Prod.mk.injEq] at h
      obtain ⟨rfl, hf, hg⟩ := h
      simp only [rd]
      have := (nw_toLT ((ev a).1 δ _ e1)).up2
      rw [hf] at this
      exact tw_nw this (by simpa only [trOk] using t)
    · cases h
  | toR a iha =>
    refine ⟨fun δ d g h t => ?_, fun δ ds f g h => by simp [evalA] at h⟩
    simp only [eval] at h
    split at h
    · rename_i n f1 g1 e1
      split at h
      · rename_i e2
        cases h
        simp only [rd]
        exact tw_nw (nw_toR ((ev a).1 δ _ e1) e2) (by simpa only [trOk] using t)
      · cases h
    · cases h
  | lst es ihe =>
    refine ⟨fun δ d g h t => ?_, fun δ ds f g h => by simp [evalA] at h⟩
    simp only [eval] at h
    split at h
    · rename_i ds f1 g1 e1
      split at h
      · rename_i e2
        simp only [Option.some.injEq, Prod.mk.injEq] at h
        obtain ⟨rfl, hf, hg⟩ := h
        simp only [rd]
        exact tw_lst (ihe.2 δ ds f1 g1 e1 hf (by simpa only [trOk] using t)) e2
      · cases h
    · cases h
  | lc t it e ihi ihe =>
    refine ⟨fun δ d g h tk => ?_, fun δ ds f g h => by simp [evalA] at h⟩
    simp only [eval] at h
    split at h
    · rename_i ds g1 e1
      split at h
      · rename_i e2
        split at h
        · rename_i ys gs e3
          cases h
          simp only [rd]
          exact tw_lc ((ev _).2.2.2.1 δ _ e1) e2 e3 (fun δ2 b hb => by cases hb; exact tt_yes) (by simpa only [trOk] using tk) (fun δ2 d g hr ho => ihe.1 δ2 d g hr ho)
        · cases h
      · cases h
    · cases h
  | lcf t it c e ihi ihc ihe =>
    refine ⟨fun δ d g h tk => ?_, fun δ ds f g h => by simp [evalA] at h⟩
    simp only [eval] at h
    split at h
    · rename_i ds g1 e1
      split at h
      · rename_i e2
        split at h
        · rename_i ys gs e3
          cases h
          simp only [rd]
          exact tw_lc ((ev _).2.2.2.1 δ _ e1) e2.1 e3 (fun δ2 b hb => tst_tt e2.2 (ev _).2.2.2.2 hb) (by simpa only [trOk] using tk) (fun δ2 d g hr ho => ihe.1 δ2 d g hr ho)
        · cases h
      · cases h
    · cases h
  | ite c a b ihc iha ihb =>
    refine ⟨fun δ d g h tk => ?_, fun δ ds f g h => by simp [evalA] at h⟩
    simp only [trOk, Bool.and_eq_true] at tk
    simp only [eval] at h
    split at h
    · rename_i t
      split at h
      · rename_i f1 g1 e1; simp only [rd]; exact tw_ite1 ((ev c).2.2.2.2 δ _ _ _ t e1) (iha.1 δ d g h tk.1)
      · rename_i f1 g1 e1; simp only [rd]; exact tw_ite0 ((ev c).2.2.2.2 δ _ _ _ t e1) (ihb.1 δ d g h tk.2)
      · cases h
    · cases h
  | new k es ihe =>
    refine ⟨fun δ d g h tk => ?_, fun δ ds f g h => by simp [evalA] at h⟩
    simp only [eval] at h
    split at h
    · rename_i F eF
      split at h
      · rename_i ds f1 g1 e1
        split at h
        · rename_i e2
          split at h
          · rename_i fs e3
            simp only [Option.some.injEq, Prod.mk.injEq] at h
            obtain ⟨rfl, hf, hg⟩ := h
            simp only [trOk, eF, Bool.and_eq_true] at tk
            simp only [rd, eF]
            exact tw_new ((ev es).2.1 δ _ e1) e2 e3 tk.1 tk.2
          · cases h
        · cases h
      · cases h
    · cases h
  | call k es ihe =>
    refine ⟨fun δ d g h tk => ?_, fun δ ds f g h => by simp [evalA] at h⟩
    have h' := h
    simp only [eval] at h
    split at h
    · rename_i F eF
      split at h
      · rename_i ds f1 g1 e1
        split at h
        · rename_i e2
          split at h
          · rename_i d' e3
            simp only [Option.some.injEq, Prod.mk.injEq] at h
            obtain ⟨rfl, hf, hg⟩ := h
            simp only [trOk, eF, Bool.or_eq_true, Bool.and_eq_true] at tk
            rcases tk with tk | tk
            · simp only [rd, eF]
              exact tw_call ((ev es).2.1 δ _ e1) e2 e3 tk.1 tk.2
            · exact tw_leaf ((ev _).1 δ _ h') tk
          · cases h
        · cases h
      · cases h
    · cases h
  | nil =>
    refine ⟨fun δ d g h tk => by simp [eval] at h, fun δ ds f g h hf t => ?_⟩
    simp only [evalA, Option.some.injEq, Prod.mk.injEq] at h
    obtain ⟨rfl, _⟩ := h
    simp only [rdA]
    exact tws_nil
  | cons a r iha ihr =>
    refine ⟨fun δ d g h tk => by simp [eval] at h, fun δ ds f g h hf t => ?_⟩
    simp only [evalA] at h
    split at h
    · rename_i d f1 g1 e1
      split at h
      · rename_i ds2 f2 g2 e2
        simp only [Option.some.injEq, Prod.mk.injEq] at h
        obtain ⟨rfl, h2, h3⟩ := h
        subst hf
        rw [Bool.and_eq_true] at h2
        obtain ⟨rfl, rfl⟩ := h2
        simp only [trOks, Bool.and_eq_true] at t
        simp only [rdA]
        exact tws_cons (iha.1 δ d g1 e1 t.1) (ihr.2 δ ds2 true g2 e2 rfl t.2)
      · cases h
    · cases h
  | _ =>
    refine ⟨fun δ d g h tk => tw_leaf ((ev _).1 δ _ h) (by simpa only [trOk] using tk), fun δ ds f g h => by simp [evalA] at h⟩
end
end G

namespace G
open PySem L2
/-! ### new lists -/
def isNew : E → Bool
  | .cat _ _ => true | .rep _ _ => true | .sl _ _ _ => true | .lst _ => true | .toL _ => true | .toR _ => true | .srt _ => true | .lc _ _ _ => true | .lcf _ _ _ _ => true | .rev _ => true
  | .ite _ a b => isNew a && isNew b
  | _ => false
theorem nw_ite1 {C : Cf} {B0 H0 : Hp} {δ : List Sl} {t : TT} {ta tb : TE} {ds : List D} {f g : Bool} (ht : TtOk C B0 H0 t δ true) (ha : NwOk C B0 H0 ta δ ds f g) : NwOk C B0 H0 (tIf t ta tb) δ ds f g := fun B H σ S Q q =>
  ht B H σ S _ fun B1 H1 G1 S1 => by
    rw [if_pos rfl]
    exact ha B1 H1 σ S1 _ fun p vs B2 H2 G2 S2 h1 h2 h3 r => q p vs B2 H2 (G1.trans G2) S2 (G1.eh.free h1) h2 h3 r
theorem nw_ite0 {C : Cf} {B0 H0 : Hp} {δ : List Sl} {t : TT} {ta tb : TE} {ds : List D} {f g : Bool} (ht : TtOk C B0 H0 t δ false) (ha : NwOk C B0 H0 tb δ ds f g) : NwOk C B0 H0 (tIf t ta tb) δ ds f g := fun B H σ S Q q =>
  ht B H σ S _ fun B1 H1 G1 S1 => by
    rw [if_neg Bool.false_ne_true]
    exact ha B1 H1 σ S1 _ fun p vs B2 H2 G2 S2 h1 h2 h3 r => q p vs B2 H2 (G1.trans G2) S2 (G1.eh.free h1) h2 h3 r
section
variable {C : Cf} {B0 H0 : Hp} {Γ : Ga}
theorem eval_new (hk : KsOk C Γ) : ∀ {c : E} {δ : List Sl} {ds : List D} {f g : Bool} (n : isNew c = true) (h : eval Γ c δ = some (.ls ds, f, g)), NwOk C B0 H0 (rd C Γ c) δ ds f g := by
  have ev := fun c => (eval_all (B0 := B0) (H0 := H0) hk c)
  intro c
  induction c <;> intro δ ds f g n h
  case ite c a b ihc iha ihb =>
    simp only [isNew, Bool.and_eq_true] at n
    simp only [eval] at h
    split at h
    · rename_i t
      split at h
      · rename_i f1 g1 e1; simp only [rd]; exact nw_ite1 ((eval_all hk c).2.2.2.2 δ _ _ _ t e1) (iha n.1 h)
      · rename_i f1 g1 e1; simp only [rd]; exact nw_ite0 ((eval_all hk c).2.2.2.2 δ _ _ _ t e1) (ihb n.2 h)
      · cases h
    · cases h
  all_goals simp only [isNew, Bool.false_eq_true] at n
  · simp only [eval] at h
    split at h
    · rename_i i f1 g1 e1
      split at h
      · rename_i j f2 g2 e2
        split at h
        · rename_i e3; cases h; simp only [rd]; exact (nw_cat ((ev _).1 δ _ e1) ((ev _).1 δ _ e2) e3).up
        · cases h
      · cases h
    · cases h
  · simp only [eval] at h
    split at h
    · rename_i i f1 g1 e1
      split at h
      · rename_i j f2 g2 e2
        split at h
        · rename_i e3; cases h; simp only [rd]; exact (nw_rep ((ev _).1 δ _ e1) ((ev _).1 δ _ e2) e3).up
        · cases h
      · cases h
    · cases h
  · simp only [eval] at h
    split at h
    · rename_i xs f1 g1 e1
      split at h
      · rename_i l e2
        split at h
        · rename_i u e3; cases h; simp only [rd]; exact (nw_sl ((ev _).1 δ _ e1) ((ev _).2.2.1 δ _ e2) ((ev _).2.2.1 δ _ e3)).up
        · cases h
      · cases h
    · cases h
  · simp only [eval] at h
    split at h
    · rename_i ds f1 g1 e1
      split at h
      · rename_i e2; cases h; simp only [rd]; exact nw_lst ((ev _).2.1 δ _ e1) e2
      · cases h
    · cases h
  · simp only [eval] at h
    split at h
    · rename_i xs f1 g1 e1; cases h; simp only [rd]; exact (nw_rev ((ev _).1 δ _ e1)).up
    · cases h
  · simp only [eval] at h
    split at h
    · rename_i xs f1 g1 e1; cases h; simp only [rd]; exact (nw_toL ((ev _).1 δ _ e1)).up2
    · rename_i xs f1 g1 e1; cases h; simp only [rd]; exact (nw_toLT ((ev _).1 δ _ e1)).up2
    · cases h
  · simp only [eval] at h
    split at h
    · rename_i n f1 g1 e1
      split at h
      · rename_i e2; cases h; simp only [rd]; exact nw_toR ((ev _).1 δ _ e1) e2
      · cases h
    · cases h
  · simp only [eval] at h
    split at h
    · rename_i xs f1 g1 e1
      split at h
      · rename_i ns e2
        split at h
        · rename_i e3; cases h; simp only [rd]; exact nw_srt ((ev _).1 δ _ e1) e2 e3
        · cases h
      · cases h
    · cases h
  · simp only [eval] at h
    split at h
    · rename_i ds g e1
      split at h
      · rename_i e2
        split at h
        · rename_i ys gs e3; cases h; simp only [rd]; exact nw_lc ((ev _).2.2.2.1 δ _ e1).w e2 e3 (fun δ2 b hb => by cases hb; exact tt_yes) (fun δ2 r hr => (ev _).1 δ2 r hr)
        · cases h
      · cases h
    · cases h
  · simp only [eval] at h
    split at h
    · rename_i ds g e1
      split at h
      · rename_i e2
        split at h
        · rename_i ys gs e3; cases h; simp only [rd]; exact nw_lc ((ev _).2.2.2.1 δ _ e1).w e2.1 e3 (fun δ2 b hb => tst_tt e2.2 (ev _).2.2.2.2 hb) (fun δ2 r hr => (ev _).1 δ2 r hr)
        · cases h
      · cases h
    · cases h
end

/-! ### statements -/
inductive S where
  | nil | seq (a r : S) | asg (t : Tg) (e : E) | own (i : Nat) (e : E) | par (i j : Nat) (oi oj : Bool) (a b : E)
  | app (i : Nat) (e : E) | ext (i : Nat) (e : E) | six (i : Nat) (b e : E) | aix (i : Nat) (b e : E) | aug (i : Nat) (e : E)
  | ite (c : E) (a b : S) | loop (t : Tg) (it : E) (b : S) | ret (e : E) | exp (e : E) | frz (i : Nat) (r : S) | die | pop0 (i : Nat)
inductive Rz where
  | nx (δ : List Sl) | rt (r : Rs)
def slotOf (o : Bool) (e : E) : Rs → Option Sl
  | (d, true, g) => if o = true then (match d with
    | .ls ds => if isNew e = true then some (.ow ds g) else none
    | _ => none) else some (.sh d g)
  | _ => none
def forRun (t : Tg) (g : Bool) (ex : List Sl → Option Rz) : List D → List Sl → Option Rz
  | [], δ => some (.nx δ)
  | d :: r, δ => match t.run g d δ with
    | none => none
    | some δ1 => match ex δ1 with
      | some (.nx δ2) => forRun t g ex r δ2
      | some (.rt v) => some (.rt v)
      | none => none
def exec (Γ : Ga) : S → List Sl → Option Rz
  | .nil, δ => some (.nx δ)
  | .seq a r, δ => match exec Γ a δ with
    | some (.nx δ1) => exec Γ r δ1
    | some (.rt v) => some (.rt v)
    | none => none
  | .asg t e, δ => match eval Γ e δ with
    | some (d, true, g) => match t.run g d δ with
      | some δ1 => some (.nx δ1)
      | none => none
    | _ => none
  | .own i e, δ => match eval Γ e δ with
    | some r => match slotOf true e r with
      | some s => some (.nx (δ.set i s))
      | none => none
    | none => none
  | .par i j oi oj a b, δ => match eval Γ a δ with
    | some r => match slotOf oi a r with
      | some s => match eval Γ b δ with
        | some r' => match slotOf oj b r' with
          | some s' => some (.nx ((δ.set i s).set j s'))
          | none => none
        | none => none
      | none => none
    | none => none
  | .app i e, δ => match δ[i]? with
    | some (.ow ds g) => match eval Γ e δ with
      | some (d, true, g') => if ds.length < 100000 then some (.nx (δ.set i (.ow (ds ++ [d]) (g && (g' || d.flat))))) else none
      | _ => none
    | _ => none
  | .ext i e, δ => match δ[i]? with
    | some (.ow ds g) => match eval Γ e δ with
      | some (.ls es, true, g') => if ds.length + es.length < 100000 then some (.nx (δ.set i (.ow (ds ++ es) (g && (g' || flats es))))) else none
      | _ => none
    | _ => none
  | .six i b e, δ => match δ[i]? with
    | some (.ow ds g) => match eval Γ e δ with
      | some (d, true, g') => match eval Γ b δ with
        | some (.int k, _, _) => match ixN ds.length k with
          | some j => some (.nx (δ.set i (.ow (ds.set j d) (g && (g' || d.flat)))))
          | none => none
        | _ => none
      | _ => none
    | _ => none
  | .aix i b e, δ => match δ[i]? with
    | some (.ow ds g) => match eval Γ b δ with
      | some (.int k, _, _) => match atI ds k with
        | some (.int x) => match eval Γ e δ with
          | some (.int y, _, _) => match ixN ds.length k with
            | some j => some (.nx (δ.set i (.ow (ds.set j (.int (x + y))) g)))
            | none => none
          | _ => none
        | _ => none
      | _ => none
    | _ => none
  | .aug i e, δ => match δ[i]? with
    | some (.sh (.int x) _) => match eval Γ e δ with
      | some (.int y, _, _) => some (.nx (δ.set i (.sh (.int (x + y)) true)))
      | _ => none
    | _ => none
  | .ite c a b, δ => if isTst c = true then (match eval Γ c δ with
    | some (.bl true, _, _) => exec Γ a δ
    | some (.bl false, _, _) => exec Γ b δ
    | _ => none) else none
  | .loop t it b, δ => match evalI Γ it δ with
    | some (ds, g) => forRun t g (fun δ => exec Γ b δ) ds δ
    | none => none
  | .ret e, δ => match eval Γ e δ with
    | some r => some (.rt r)
    | none => none
  | .exp e, δ => match eval Γ e δ with
    | some _ => some (.nx δ)
    | none => none
  | .frz i r, δ => match δ[i]? with
    | some (.ow ds g) => exec Γ r (δ.set i (.sh (.ls ds) g))
    | _ => none
  | .die, _ => none
  | .pop0 i, δ => match δ[i]? with
    | some (.ow (_ :: ds) g) => some (.nx (δ.set i (.ow ds g)))
    | _ => none
def rGetL (K : PySem.W.Frag) : V → V → Hp → VK → Prop := fun o i H Q => ∃ p xs k v, o = .ref p ∧ i = .int k ∧ SqL K H p xs ∧ atI xs k = some v ∧ Q v H
def rdS (C : Cf) (Γ : Ga) : S → TS
  | .nil => tNext
  | .seq a r => tSeq (rdS C Γ a) (rdS C Γ r)
  | .asg t e => tAsg (rd C Γ e) (t.rd C.K)
  | .own i e => tAsg (rd C Γ e) (gName i)
  | .par i j _ _ a b => tPar i j (tCons (rd C Γ a) (tCons (rd C Γ b) tNil))
  | .app i e => tDrop (tBM C.K "list" rAppend (tVar i) (tCons (rd C Γ e) tNil))
  | .ext i e => tDrop (tBM C.K "list" rExtend (tVar i) (tCons (rd C Γ e) tNil))
  | .pop0 i => tDrop (tBM C.K "list" rPopAt (tVar i) (tCons (tC (.int 0)) tNil))
  | .six i b e => tAsg (rd C Γ e) (gSub (tVar i) (rd C Γ b) rSetL)
  | .aix i b e => tAugS (tVar i) (rd C Γ b) (rd C Γ e) (rGetL C.K) (ipI fun i j => i + j) rSetL
  | .aug i e => tAug i (rd C Γ e) (ipI fun i j => i + j)
  | .ite c a b => tIfS (rdT C Γ c) (rdS C Γ a) (rdS C Γ b)
  | .loop t it b => tFor (rdI C Γ it) (t.rd C.K) (rdS C Γ b)
  | .ret e => tRet (rd C Γ e)
  | .exp e => tDrop (rd C Γ e)
  | .frz _ r => rdS C Γ r
  | .die => tNever
/-- a value of this form is a tree if its leaves are flat -/
def stT (Γ : Ga) : E → Bool
  | .ite _ a b => stT Γ a && stT Γ b
  | .new k _ => match Γ.nd[k]? with | some F => F.tr | none => false
  | _ => false
def retT (Γ : Ga) : S → Bool
  | .ret e => stT Γ e
  | .seq a r => retT Γ a && retT Γ r
  | .ite _ a b => retT Γ a && retT Γ b
  | .loop _ _ b => retT Γ b
  | .frz _ r => retT Γ r
  | _ => true
theorem stT_ob {Γ : Ga} : ∀ {e : E} {δ : List Sl} {d : D} {f g : Bool}, stT Γ e = true → eval Γ e δ = some (d, f, g) → ∃ c xs, d = .ob c xs := by
  intro e
  induction e with
  | ite c a b _ iha ihb =>
    intro δ d f g s h
    simp only [stT, Bool.and_eq_true] at s
    simp only [eval] at h
    split at h
    · split at h
      · exact iha s.1 h
      · exact ihb s.2 h
      · cases h
    · cases h
  | new k es _ =>
    intro δ d f g s h
    simp only [eval] at h
    split at h
    · split at h
      · split at h
        · split at h
          · cases h; exact ⟨_, _, rfl⟩
          · cases h
        · cases h
      · cases h
    · cases h
  | _ => intro δ d f g s; simp [stT] at s
theorem stT_tr {Γ : Ga} : ∀ {e : E} {c : Nat} {xs : List D}, stT Γ e = true → D.tflats xs = true → trOk Γ e (.ob c xs) = true := by
  intro e
  induction e with
  | ite c a b _ iha ihb =>
    intro c xs s t
    simp only [stT, Bool.and_eq_true] at s
    simp only [trOk, Bool.and_eq_true]
    exact ⟨iha s.1 t, ihb s.2 t⟩
  | new k es _ =>
    intro c xs s t
    simp only [stT] at s
    simp only [trOk, Bool.and_eq_true]
    exact ⟨s, t⟩
  | _ => intro c xs s; simp [stT] at s
theorem stT_ok {Γ : Ga} {e : E} {δ : List Sl} {d : D} {f g : Bool} (s : stT Γ e = true) (t : d.tflat = true) (h : eval Γ e δ = some (d, f, g)) : trOk Γ e d = true := by
  obtain ⟨c, xs, rfl⟩ := stT_ob s h
  exact stT_tr s (by simpa only [D.tflat] using t)
section
variable (C : Cf) (B0 H0 : Hp)
def StOk (ts : TS) (δ : List Sl) (z : Rz) (T : Bool) : Prop := ∀ B H σ, Stt C B0 H0 B H σ δ → NoRg δ → ∀ Dn : Ends, (∀ δ', z = .nx δ' → ∀ B' H' σ', Same B B' → Stt C B0 H0 B' H' σ' δ' → NoRg δ' → Dn.nx σ' H') →
  (∀ r, z = .rt r → ∀ v B' H' σ' δ', Same B B' → Stt C B0 H0 B' H' σ' δ' → Rp C (Rg B0 H0 B' H' r.2.1 r.2.2) r.1 v → (T = true → r.1.tflat = true → r.2.1 = true → TreeAt C H0 H' r.1 v) → Dn.rt v H') → ts Dn σ H
end
section
variable {C : Cf} {B0 H0 : Hp} {Γ : Ga} {δ : List Sl}
/-- a value that is to be stored as s -/
def SlV (C : Cf) (B0 H0 H B' H' : Hp) (v : V) : Sl → Prop
  | .no => False
  | .rg _ => False
  | .tr _ => False
  | .al _ _ => False
  | .sh d g => Rp C (Rg B0 H0 B' H' true g) d v
  | .ow ds g => ∃ p vs, v = .ref p ∧ H p = none ∧ B' p = none ∧ H' p = some (.lst vs) ∧ Rps C (Rg B0 H0 B' H' true g) ds vs
theorem slot_ok (hk : KsOk C Γ) {o : Bool} {e : E} {r : Rs} {s : Sl} (h : eval Γ e δ = some r) (hs : slotOf o e r = some s) {B H : Hp} {σ : St} (S : Stt C B0 H0 B H σ δ) {Q : VK}
    (q : ∀ v B' H', Gro B H B' H' → Stt C B0 H0 B' H' σ δ → SlV C B0 H0 H B' H' v s → Q v H') : rd C Γ e σ H Q := by
  obtain ⟨d, f, g⟩ := r
  cases f with
  | false => simp [slotOf] at hs
  | true =>
    cases o with
    | false =>
      simp only [slotOf, Bool.false_eq_true, if_false, Option.some.injEq] at hs
      subst hs
      exact (eval_all hk e).1 δ _ h B H σ S Q q
    | true =>
      simp only [slotOf, if_true] at hs
      split at hs
      · split at hs
        · rename_i ds n
          cases hs
          exact eval_new hk n h B H σ S Q fun p vs B' H' G S' h1 h2 h3 r => q _ B' H' G S' ⟨p, vs, rfl, h1, h2, h3, r⟩
        · cases hs
      · cases hs
theorem SlV.up {H B' H' B2 H2 : Hp} {v : V} {s : Sl} (h : SlV C B0 H0 H B' H' v s) (G : Gro B' H' B2 H2) : SlV C B0 H0 H B2 H2 v s := by
  cases s with
  | no => exact h
  | rg d => exact h
  | tr d => exact h
  | al j q => exact h
  | sh d g => exact Rp.mono (G.rg true g) h
  | ow ds g =>
    obtain ⟨p, vs, e, h1, h2, h3, r⟩ := h
    refine ⟨p, vs, e, h1, ?_, G.eh _ _ h3, r.mono (G.rg true g)⟩
    cases z : B2 p with
    | none => rfl
    | some o =>
      rcases G.nw p o z with k | k
      · rw [h2] at k; cases k
      · rw [h3] at k; cases k
theorem Stt.noat {B H : Hp} {σ : St} (S : Stt C B0 H0 B H σ δ) {p : Addr} (hp : H p = none) (i : Nat) (ds : List D) (g : Bool) (k : δ[i]? = some (.ow ds g)) : σ[i]? ≠ some (some (.ref p)) := fun z => by
  obtain ⟨p', vs, e, _, _, hh, _⟩ := S.own i ds g k
  rw [z] at e
  cases e
  rw [hp] at hh
  cases hh
theorem Stt.noTr {B H B' H' : Hp} {σ : St} (S : Stt C B0 H0 B H σ δ) (G : Gro B H B' H') (S' : Stt C B0 H0 B' H' σ δ) : ∃ φ, TrOk C H0 B' H' σ δ φ ∧ ∀ p, H p = none → ∀ (i : Nat) d, δ[i]? = some (.tr d) → p ∉ φ i := by
  obtain ⟨φ, T⟩ := S.tre
  refine ⟨φ, T.grow G.eb G.eh G.nw, fun p hp i d h hq => ?_⟩
  obtain ⟨_, _, ⟨o, ho⟩, _⟩ := T.nw i d p h hq
  rw [hp] at ho
  cases ho
theorem Stt.setSl {B H B' H' : Hp} {σ : St} {v : V} {s : Sl} {j : Nat} (S : Stt C B0 H0 B H σ δ) (G : Gro B H B' H') (S' : Stt C B0 H0 B' H' σ δ) (h : SlV C B0 H0 H B' H' v s) : Stt C B0 H0 B' H' (σ.set j (some v)) (δ.set j s) := by
  cases s with
  | no => exact h.elim
  | rg d => exact h.elim
  | tr d => exact h.elim
  | al k q => exact h.elim
  | sh d g => exact S'.setSh h
  | ow ds g =>
    obtain ⟨p, vs, rfl, h1, h2, h3, r⟩ := h
    obtain ⟨φ, T, np⟩ := S.noTr G S'
    exact S'.setOw (S.ex0.free h1) h2 h3 r (fun i ds g k _ => S.noat h1 i ds g k) ⟨φ, T, np p h1⟩
theorem slV_nr {H B' H' : Hp} {v : V} {s : Sl} (h : SlV C B0 H0 H B' H' v s) : ∀ d, s ≠ .rg d := fun d e => by
  subst e
  exact h.elim
theorem run_nr (g : Bool) : ∀ (t : Tg) (d : D) {δ δ' : List Sl}, t.run g d δ = some δ' → NoRg δ → NoRg δ'
  | .nm j, d, δ, δ', e, n => by
    simp only [Tg.run, Option.some.injEq] at e
    subst e
    exact n.set fun _ => Sl.noConfusion
  | .t2 a b, d, δ, δ', e, n => by
    cases d with
    | tp xs =>
      rcases xs with _ | ⟨x, _ | ⟨y, _ | ⟨z, xs⟩⟩⟩
      · simp [Tg.run] at e
      · simp [Tg.run] at e
      · simp only [Tg.run] at e
        split at e
        · rename_i δ1 e1
          exact run_nr g b y e (run_nr g a x e1 n)
        · cases e
      · simp [Tg.run] at e
    | _ => simp [Tg.run] at e
  | .t3 a b c, d, δ, δ', e, n => by
    cases d with
    | tp xs =>
      rcases xs with _ | ⟨x, _ | ⟨y, _ | ⟨z, _ | ⟨u, xs⟩⟩⟩⟩
      · simp [Tg.run] at e
      · simp [Tg.run] at e
      · simp [Tg.run] at e
      · simp only [Tg.run] at e
        split at e
        · rename_i δ1 e1
          split at e
          · rename_i δ2 e2
            exact run_nr g c z e (run_nr g b y e2 (run_nr g a x e1 n))
          · cases e
        · cases e
      · simp [Tg.run] at e
    | _ => simp [Tg.run] at e
theorem rp_up {B H : Hp} {f g : Bool} {d : D} {v : V} (r : Rp C (Rg B0 H0 B H f g) d v) : Rp C (Rg B0 H0 B H f (g || d.flat)) d v := by
  cases e : d.flat with
  | true => exact r.flat e
  | false => rw [Bool.or_false]; exact r
theorem rps_up {B H : Hp} {f g : Bool} {ds : List D} {vs : List V} (r : Rps C (Rg B0 H0 B H f g) ds vs) : Rps C (Rg B0 H0 B H f (g || flats ds)) ds vs := by
  cases e : flats ds with
  | true => exact rps_flat e r
  | false => rw [Bool.or_false]; exact r
theorem ixN_lt {n : Nat} {k : Int} {j : Nat} (h : ixN n k = some j) : j < n := by
  unfold ixN at h
  split at h
  · split at h
    · cases h; omega
    · cases h
  · split at h
    · cases h; omega
    · cases h
theorem st_for {t : Tg} {wi : TI} {tb : TS} {ds : List D} {g T : Bool} {ex : List Sl → Option Rz} {z : Rz} (hi : ItOk C B0 H0 wi δ (ds, g)) (h : forRun t g ex ds δ = some z) (hb : ∀ δ1 z1, ex δ1 = some z1 → StOk C B0 H0 tb δ1 z1 T) : StOk C B0 H0 (tFor wi (t.rd C.K) tb) δ z T := by
  intro B H σ S nr Dn qn qr
  refine hi B H σ S _ fun J B1 H1 G1 S1 wk => ?_
  obtain ⟨Gd, Y, w, wg, wy⟩ := wk
  refine for_it w (fun i σ' H' => ∃ B' δ', Same B1 B' ∧ Stt C B0 H0 B' H' σ' δ' ∧ NoRg δ' ∧ forRun t g ex (ds.drop i) δ' = some z) ⟨B1, δ, Same.refl _, S1, nr, h⟩ ?_ ?_ ?_
  · rintro i σ' H' _ ⟨B', δ', e, S', _⟩
    exact wg B' H' σ' δ' e S'
  · rintro i x σ' H' H2 hlt ⟨B', δ', e, S', nr', run⟩ y
    obtain ⟨d, B2, ed, G2, S2, rx⟩ := wy i H' x H2 B' σ' δ' hlt e S' y
    have edr : ds.drop i = d :: ds.drop (i + 1) := by
      have hlt' : i < ds.length := hlt
      rw [List.getElem?_eq_getElem hlt'] at ed
      rw [List.drop_eq_getElem_cons hlt']
      cases ed
      rfl
    rw [edr] at run
    simp only [forRun] at run
    split at run
    · cases run
    · rename_i δ1 e1
      refine Tg.ok g t d S2 rx e1 fun σ2 S3 _ => ?_
      split at run
      · rename_i δ2 e2
        refine hb δ1 _ e2 B2 H2 σ2 S3 (run_nr g t d e1 nr') _ (fun δ3 hz B3 H3 σ3 e3 S4 nr4 => ?_) (fun r hz => by cases hz)
        cases hz
        exact ⟨B3, δ2, (e.trans G2.eb).trans e3, S4, nr4, run⟩
      · rename_i v e2
        refine hb δ1 _ e2 B2 H2 σ2 S3 (run_nr g t d e1 nr') _ (fun δ3 hz => by cases hz) (fun r hz v' B3 H3 σ3 δ3 e3 S4 rv tv => ?_)
        cases hz
        cases run
        exact qr _ rfl v' B3 H3 σ3 δ3 (G1.eb.trans ((e.trans G2.eb).trans e3)) S4 rv tv
      · cases run
  · rintro σ' H' ⟨B', δ', e, S', nr', run⟩
    rw [show ds.drop ds.length = [] from List.drop_length] at run
    simp only [forRun, Option.some.injEq] at run
    exact qn δ' run.symm B' H' σ' (G1.eb.trans e) S' nr'
theorem exec_ok (hk : KsOk C Γ) : ∀ (c : S) (δ : List Sl) (z : Rz), exec Γ c δ = some z → StOk C B0 H0 (rdS C Γ c) δ z (retT Γ c) := by
  have ev := fun c => (eval_all (B0 := B0) (H0 := H0) hk c)
  intro c
  induction c with
  | nil =>
    intro δ z h B H σ S nr Dn qn qr
    simp only [exec] at h
    cases h
    simp only [rdS]
    exact qn δ rfl B H σ (Same.refl _) S nr
  | seq a r iha ihr =>
    intro δ z h B H σ S nr Dn qn qr
    simp only [exec] at h
    simp only [rdS]
    split at h
    · rename_i δ1 e1
      refine iha δ _ e1 B H σ S nr _ (fun δ' hz B' H' σ' e S' nr' => ?_) (fun r hz => by cases hz)
      cases hz
      exact ihr δ1 z h B' H' σ' S' nr' Dn (fun δ2 hz B2 H2 σ2 e2 S2 nr2 => qn δ2 hz B2 H2 σ2 (e.trans e2) S2 nr2) (fun r hz v B2 H2 σ2 δ2 e2 S2 rv tv => qr r hz v B2 H2 σ2 δ2 (e.trans e2) S2 rv fun k => tv (Bool.and_eq_true_iff.mp k).2)
    · rename_i v e1
      cases h
      exact iha δ _ e1 B H σ S nr _ (fun δ' hz => by cases hz) (fun r hz v B' H' σ' δ' e S' rv tv => qr r hz v B' H' σ' δ' e S' rv fun k => tv (Bool.and_eq_true_iff.mp k).1)
    · cases h
  | asg t e =>
    intro δ z h B H σ S nr Dn qn qr
    simp only [exec] at h
    simp only [rdS]
    split at h
    · rename_i d g e1
      split at h
      · rename_i δ1 e2
        cases h
        refine (ev e).1 δ _ e1 B H σ S _ fun v B' H' G S' r => ?_
        exact Tg.ok g t d S' r e2 fun σ' S2 _ => qn δ1 rfl B' H' σ' G.eb S2 (run_nr g t d e2 nr)
      · cases h
    · cases h
  | own i e =>
    intro δ z h B H σ S nr Dn qn qr
    simp only [exec] at h
    simp only [rdS]
    split at h
    · rename_i r e1
      split at h
      · rename_i s e2
        cases h
        refine slot_ok hk e1 e2 S fun v B' H' G S' r => ?_
        exact qn _ rfl B' H' _ G.eb (S.setSl G S' r) (nr.set (slV_nr r))
      · cases h
    · cases h
  | par i j oi oj a b =>
    intro δ z h B H σ S nr Dn qn qr
    simp only [exec] at h
    simp only [rdS]
    split at h
    · rename_i r e1
      split at h
      · rename_i s e2
        split at h
        · rename_i r' e3
          split at h
          · rename_i s' e4
            cases h
            refine slot_ok hk e1 e2 S fun v B' H' G S' r => ?_
            refine slot_ok hk e3 e4 S' fun u B2 H2 G2 S2 r2 => ?_
            refine ⟨v, u, rfl, ?_⟩
            have T0 := S.setSl (j := i) G S' r
            exact qn _ rfl B2 H2 _ (G.trans G2).eb (T0.setSl G2 (T0.by G2 S2) r2) ((nr.set (slV_nr r)).set (slV_nr r2))
          · cases h
        · cases h
      · cases h
    · cases h
  | pop0 i =>
    intro δ z h B H σ S nr Dn qn qr
    simp only [exec] at h
    simp only [rdS]
    split at h
    · rename_i d ds g e0
      cases h
      obtain ⟨p, vs, ei, h0, hb, hh, r⟩ := S.own i (d :: ds) g e0
      simp only [Rps] at r
      obtain ⟨v, us, rfl, r1, r2⟩ := r
      refine ⟨.ref p, ei, .inl ⟨rfl, _, SqL.of hh⟩, ?_⟩
      refine ⟨p, v :: us, 0, 0, v, rfl, rfl, hh, by decide, by decide, by simp [seqIndex?], rfl, ?_⟩
      exact qn _ rfl B _ σ (Same.refl _) (S.upOw nr e0 ei r2) (nr.set fun _ => Sl.noConfusion)
    · cases h
  | app i e =>
    intro δ z h B H σ S nr Dn qn qr
    simp only [exec] at h
    simp only [rdS]
    split at h
    · rename_i ds g e0
      split at h
      · rename_i d g' e1
        split at h
        · rename_i hz
          cases h
          obtain ⟨p, vs, ei, h0, hb, hh, r⟩ := S.own i ds g e0
          refine ⟨.ref p, ei, .inl ⟨rfl, _, SqL.of hh⟩, ?_⟩
          refine (ev e).1 δ _ e1 B H σ S _ fun v B' H' G S' rv => ?_
          refine ⟨p, vs, v, rfl, rfl, G.eh _ _ hh, Nat.lt_of_lt_of_le (show vs.length < 100000 by rw [r.len]; exact hz) (by decide), ?_⟩
          refine qn _ rfl B' _ σ G.eb (S'.upOw nr e0 ei ?_) (nr.set fun _ => Sl.noConfusion)
          exact ((r.mono (G.rg true g)).mono (S'.weakL true g true _)).app (.one ((rp_up rv).mono (S'.weakR true _ true g)))
        · cases h
      · cases h
    · cases h
  | ext i e =>
    intro δ z h B H σ S nr Dn qn qr
    simp only [exec] at h
    simp only [rdS]
    split at h
    · rename_i ds g e0
      split at h
      · rename_i es g' e1
        split at h
        · rename_i hz
          cases h
          obtain ⟨p, vs, ei, h0, hb, hh, r⟩ := S.own i ds g e0
          refine ⟨.ref p, ei, .inl ⟨rfl, _, SqL.of hh⟩, ?_⟩
          refine (ev e).1 δ _ e1 B H σ S _ fun v B' H' G S' rv => ?_
          rw [rp_ls] at rv
          obtain ⟨b, us, rfl, hb', ru⟩ := rv
          refine ⟨p, b, vs, us, rfl, rfl, G.eh _ _ hh, S'.toH _ _ _ _ hb', sz_of (by rw [r.len, ru.len]; omega), ?_⟩
          refine qn _ rfl B' _ σ G.eb (S'.upOw nr e0 ei ?_) (nr.set fun _ => Sl.noConfusion)
          exact ((r.mono (G.rg true g)).mono (S'.weakL true g true _)).app ((rps_up ru).mono (S'.weakR true _ true g))
        · cases h
      · cases h
    · cases h
  | six i b e =>
    intro δ z h B H σ S nr Dn qn qr
    simp only [exec] at h
    simp only [rdS]
    split at h
    · rename_i ds g e0
      split at h
      · rename_i d g' e1
        split at h
        · rename_i k f2 g2 e2
          split at h
          · rename_i j e3
            cases h
            refine (ev e).1 δ _ e1 B H σ S _ fun v B' H' G S' rv => ?_
            obtain ⟨p, vs, ei, h0, hb, hh, r⟩ := S'.own i ds g e0
            refine ⟨.ref p, ei, ?_⟩
            refine (ev b).1 δ _ e2 B' H' σ S' _ fun u B2 H2 G2 S2 r2 => ?_
            rw [rp_int] at r2
            subst r2
            refine ⟨p, vs, k, j, rfl, rfl, G2.eh _ _ hh, by rw [r.len]; exact e3, ?_⟩
            refine qn _ rfl B2 _ σ (G.trans G2).eb (S2.upOw nr e0 ei ?_) (nr.set fun _ => Sl.noConfusion)
            exact ((r.mono (G2.rg true g)).mono (S2.weakL true g true _)).set j ((rp_up (rv.mono (G2.rg true g'))).mono (S2.weakR true _ true g))
          · cases h
        · cases h
      · cases h
    · cases h
  | aix i b e =>
    intro δ z h B H σ S nr Dn qn qr
    simp only [exec] at h
    simp only [rdS]
    split at h
    · rename_i ds g e0
      split at h
      · rename_i k f2 g2 e2
        split at h
        · rename_i x e3
          split at h
          · rename_i y f4 g4 e4
            split at h
            · rename_i j e5
              cases h
              obtain ⟨p, vs, ei, h0, hb, hh, r⟩ := S.own i ds g e0
              refine ⟨.ref p, ei, ?_⟩
              refine (ev b).1 δ _ e2 B H σ S _ fun u B' H' G S' r2 => ?_
              rw [rp_int] at r2
              subst r2
              obtain ⟨v, ev', rv⟩ := atI_rps r e3
              rw [rp_int] at rv
              subst rv
              refine ⟨p, vs, k, .int x, rfl, rfl, SqL.of (G.eh _ _ hh), ev', ?_⟩
              refine (ev e).1 δ _ e4 B' H' σ S' _ fun u B2 H2 G2 S2 r3 => ?_
              rw [rp_int] at r3
              subst r3
              refine ⟨x, y, rfl, rfl, p, vs, k, j, rfl, rfl, (G.eh.trans G2.eh) _ _ hh, by rw [r.len]; exact e5, ?_⟩
              refine qn _ rfl B2 _ σ (G.trans G2).eb (S2.upOw nr e0 ei ?_) (nr.set fun _ => Sl.noConfusion)
              exact (r.mono ((G.trans G2).rg true g)).set j (by rw [rp_int])
            · cases h
          · cases h
        · cases h
      · cases h
    · cases h
  | aug i e =>
    intro δ z h B H σ S nr Dn qn qr
    simp only [exec] at h
    simp only [rdS]
    split at h
    · rename_i x g e0
      split at h
      · rename_i y f4 g4 e4
        cases h
        obtain ⟨v, ei, r⟩ := S.shr i _ g e0
        rw [rp_int] at r
        subst r
        refine ⟨.int x, ei, ?_⟩
        refine (ev e).1 δ _ e4 B H σ S _ fun u B2 H2 G2 S2 r3 => ?_
        rw [rp_int] at r3
        subst r3
        exact ⟨x, y, rfl, rfl, qn _ rfl B2 H2 _ G2.eb (S2.setSh (by rw [rp_int])) (nr.set fun _ => Sl.noConfusion)⟩
      · cases h
    · cases h
  | ite c a b iha ihb =>
    intro δ z h B H σ S nr Dn qn qr
    simp only [exec] at h
    simp only [rdS]
    split at h
    · rename_i t
      split at h
      · rename_i f1 g1 e1
        refine (ev c).2.2.2.2 δ _ _ _ t e1 B H σ S _ fun B' H' G S' => ?_
        rw [if_pos rfl]
        exact iha δ z h B' H' σ S' nr Dn (fun δ2 hz B2 H2 σ2 e2 S2 nr2 => qn δ2 hz B2 H2 σ2 (G.eb.trans e2) S2 nr2) (fun r hz v B2 H2 σ2 δ2 e2 S2 rv tv => qr r hz v B2 H2 σ2 δ2 (G.eb.trans e2) S2 rv fun k => tv (Bool.and_eq_true_iff.mp k).1)
      · rename_i f1 g1 e1
        refine (ev c).2.2.2.2 δ _ _ _ t e1 B H σ S _ fun B' H' G S' => ?_
        rw [if_neg Bool.false_ne_true]
        exact ihb δ z h B' H' σ S' nr Dn (fun δ2 hz B2 H2 σ2 e2 S2 nr2 => qn δ2 hz B2 H2 σ2 (G.eb.trans e2) S2 nr2) (fun r hz v B2 H2 σ2 δ2 e2 S2 rv tv => qr r hz v B2 H2 σ2 δ2 (G.eb.trans e2) S2 rv fun k => tv (Bool.and_eq_true_iff.mp k).2)
      · cases h
    · cases h
  | loop t it b ihb =>
    intro δ z h
    simp only [exec] at h
    simp only [rdS]
    split at h
    · rename_i ds g e1
      exact st_for (T := retT Γ b) ((ev it).2.2.2.1 δ _ e1) h fun δ1 z1 h1 => ihb δ1 z1 h1
    · cases h
  | ret e =>
    intro δ z h B H σ S nr Dn qn qr
    simp only [exec] at h
    simp only [rdS]
    split at h
    · rename_i r e1
      cases h
      by_cases hT : stT Γ e = true ∧ r.1.tflat = true ∧ r.2.1 = true
      · obtain ⟨d, f, g⟩ := r
        obtain ⟨h1, h2, h3⟩ := hT
        have h3 : f = true := h3
        subst h3
        refine (eval_tree hk e).1 δ d g e1 (stT_ok h1 h2 e1) B H σ S _ fun v ps B' H' G S' t n w => ?_
        have hb : ∀ p ∈ ps, H0 p = none := fun p hp => S.ex0.free (w p hp).1
        let B2 : Hp := fun p => if p ∈ ps then H' p else B' p
        have e2 : Same B' B2 := fun p o k => by
          show (if p ∈ ps then H' p else B' p) = some o
          split
          · exact S'.sub _ _ k
          · exact k
        have S2 : Stt C B0 H0 B2 H' σ δ := S.grow (G.eb.trans e2) G.eh (fun p o k => by
            have k : (if p ∈ ps then H' p else B' p) = some o := k
            split at k
            · exact k
            · exact S'.sub _ _ k) (fun p o k => by
            have k : (if p ∈ ps then H' p else B' p) = some o := k
            split at k
            · exact .inr (w p (by assumption)).1
            · exact G.nw p o k)
        refine qr _ rfl v B2 H' σ δ (G.eb.trans e2) S2 ?_ fun _ _ _ => ⟨ps, Tr.emp h2 t, n, hb⟩
        have nH : Tr C Emp H' d v ps := Tr.emp h2 t
        cases g with
        | false =>
          refine nH.rp (fun _ _ k => by cases k) fun p hp o k => ?_
          show (if p ∈ ps then H' p else B' p) = some o
          rw [if_pos hp]
          exact k
        | true =>
          refine nH.rp (fun _ _ k => by cases k) fun p hp o k => ?_
          show (match H0 p with | none => (if p ∈ ps then H' p else B' p) | some _ => none) = some o
          rw [hb p hp]
          show (if p ∈ ps then H' p else B' p) = some o
          rw [if_pos hp]
          exact k
      · exact (ev e).1 δ _ e1 B H σ S _ fun v B' H' G S' rv => qr r rfl v B' H' σ δ G.eb S' rv fun h1 h2 h3 => absurd ⟨h1, h2, h3⟩ hT
    · cases h
  | exp e =>
    intro δ z h B H σ S nr Dn qn qr
    simp only [exec] at h
    simp only [rdS]
    split at h
    · rename_i r e1
      cases h
      exact (ev e).1 δ _ e1 B H σ S _ fun v B' H' G S' rv => qn δ rfl B' H' σ G.eb S' nr
    · cases h
  | frz i r ihr =>
    intro δ z h B H σ S nr Dn qn qr
    simp only [exec] at h
    simp only [rdS]
    split at h
    · rename_i ds g e0
      obtain ⟨B', eb, S'⟩ := S.freeze e0
      exact ihr _ z h B' H σ S' (nr.set fun _ => Sl.noConfusion) Dn (fun δ2 hz B2 H2 σ2 e2 S2 nr2 => qn δ2 hz B2 H2 σ2 (eb.trans e2) S2 nr2) (fun r hz v B2 H2 σ2 δ2 e2 S2 rv tv => qr r hz v B2 H2 σ2 δ2 (eb.trans e2) S2 rv tv)
    · cases h
  | die =>
    intro δ z h
    simp only [exec] at h
    cases h
end
/-! ### a def by its compact text -/
def st0 (n : Nat) (ds : List D) : List Sl := ds.map (fun d => Sl.sh d false) ++ List.replicate (n - ds.length) .no
def endOf (fr : Bool) : Option Rz → Option D
  | some (.rt (d, _, g)) => if fr = true then (if (g || d.flat) = true then some d else none) else some d
  | some (.nx _) => some .non
  | none => none
def mkFd (Γ : Ga) (ar n : Nat) (fr : Bool) (c : S) : Fd := ⟨ar, fr, false, fun ds => endOf fr (exec Γ c (st0 n ds))⟩
/-- a def that gives a tree -/
def endOfT (fr : Bool) : Option Rz → Option D
  | some (.rt (d, f, g)) => if f = true then (if fr = true then (if (g || d.flat) = true then some d else none) else some d) else none
  | _ => none
def mkFdT (Γ : Ga) (ar n : Nat) (fr : Bool) (c : S) : Fd := ⟨ar, fr, true, fun ds => endOfT fr (exec Γ c (st0 n ds))⟩
end G

namespace G
open PySem PySem.Spec PyProof.Rows L2
/-! ### two more rules -/
theorem mulx_ok {i j : Int} (h : CMulX i j) : IntMulOk i j := by
  unfold CMulX mulok at h
  simp only [Bool.or_eq_true, decide_eq_true_eq] at h
  rcases h with (h | h) | h
  · exact CMul.ok (.inl ⟨by omega, by omega⟩)
  · exact CMul.ok (.inr ⟨by omega, by omega⟩)
  · have b : ∀ x : Int, Builtin.Int.intBits x ≤ x.natAbs.log2 + 1 := fun x => by
      unfold Builtin.Int.intBits
      split <;> omega
    have b1 := b i
    have b2 := b j
    have e : bitsLine = 134217728 := by decide
    intro z
    rw [Bool.and_eq_true] at z
    have z3 := z.2
    unfold Builtin.Int.intTooBig at z3
    have z4 := of_decide_eq_true z3
    rw [e] at z4
    omega
section
variable {X : Cx}
theorem op_mulX : OpR X (binaryOp .Mult) (Bo.r .mul) := opI fun _ _ _ _ _ _ _ hc q => PyProof.Rows.mul_int q (mulx_ok hc)
theorem get_list : PGet X (rGetL X.K) := by
  intro pins s σ H x y v u Q I rx ry h
  obtain ⟨p, xs, i, z, rfl, rfl, hq, he, q⟩ := h
  cases rx
  obtain ⟨t, rfl⟩ := ry
  obtain ⟨its, r, pl, hz⟩ := I.list hq
  obtain ⟨j, h1, h2, h3, h4, h5⟩ := atI_get he
  obtain ⟨w, ew, rw'⟩ := r.get h2
  have hl := r.length
  have hn := line63
  have fin : EP X pins σ Q w s := ⟨z, H, I, rw', q⟩
  by_cases h0 : 0 ≤ i
  · have hj : i.toNat = j := by
      rw [seqIndex_of h0 h5] at h1
      exact Option.some.inj h1
    exact wpAny_getItem_list pl.isList h0 (by omega) (by rw [hj]; simpa using ew) fin
  · have hj : (i + (its.toArray.size : Int)).toNat = j := by
      rw [seqIndex_neg (by omega) h4] at h1
      rw [List.size_toArray, ← hl]
      exact Option.some.inj h1
    exact wpAny_getItem_list_neg pl.isList (by omega) (by rw [List.size_toArray] <;> omega) (by omega) (by rw [hj]; simpa using ew) fin
end

/-! ### a def by its compact text -/
theorem stt_start {C : Cf} {B H : Hp} {N : List Str} {ds : List D} {vs : List V} (e : Same B H) (r : Rps C B ds vs) : Stt C B H B H (L2.start N vs) (st0 N.length ds) := by
  have hl := r.len
  have ge : ∀ (i : Nat) s, (st0 N.length ds)[i]? = some s → s ≠ .no → ∃ d, ds[i]? = some d ∧ s = .sh d false := fun i s h n => by
    unfold st0 at h
    by_cases hi : i < ds.length
    · rw [List.getElem?_append_left (by simpa using hi), List.getElem?_map, List.getElem?_eq_getElem hi] at h
      simp only [Option.map_some, Option.some.injEq] at h
      exact ⟨_, List.getElem?_eq_getElem hi, h.symm⟩
    · rw [List.getElem?_append_right (by simpa using hi), List.getElem?_replicate] at h
      split at h
      · exact absurd (Option.some.inj h).symm n
      · cases h
  refine ⟨Same.refl _, Same.refl _, e, fun _ _ h => .inl h, ?_, fun i d g h => ?_, fun i ds' g h => ?_, fun i j a b c d p h => ?_, fun i d h => ?_, ⟨fun _ => [], fun i d h => ?_, fun i d h => ?_, fun i d p h => ?_, fun i j d d' p h => ?_⟩, fun i j q h => ?_⟩
  · unfold L2.start st0
    simp only [List.length_append, List.length_map, List.length_replicate, hl]
  · obtain ⟨d', h1, h2⟩ := ge i _ h Sl.noConfusion
    cases h2
    obtain ⟨v, h3, h4⟩ := r.get h1
    refine ⟨v, ?_, h4⟩
    unfold L2.start
    have hi : i < vs.length := (List.getElem?_eq_some_iff.mp h3).1
    rw [List.getElem?_append_left (by simpa using hi), List.getElem?_map, h3]
    rfl
  all_goals
    obtain ⟨d', _, h2⟩ := ge i _ h Sl.noConfusion
    cases h2
theorem st0_nr (n : Nat) (ds : List D) : NoRg (st0 n ds) := fun i d h => by
  unfold st0 at h
  by_cases hi : i < ds.length
  · rw [List.getElem?_append_left (by simpa using hi), List.getElem?_map, List.getElem?_eq_getElem hi] at h
    simp at h
  · rw [List.getElem?_append_right (by simpa using hi), List.getElem?_replicate] at h
    split at h
    · simp at h
    · cases h
theorem fn_end2 {C : Cf} {B H B' H' : Hp} {σ' : L2.St} {δ' : List Sl} {d' : D} {f' g' fr : Bool} {d : D} {v : V} {R : Prop} (S' : Stt C B H B' H' σ' δ') (rv : Rp C (Rg B H B' H' f' g') d' v) (run : (if fr = true then (if (g' || d'.flat) = true then some d' else none) else some d') = some d)
    (q : Same H H' → Rp C (Rsd (if fr = true then Emp else B) H H') d v → R) : R := by
  cases fr with
  | false =>
    simp only [Bool.false_eq_true, if_false, Option.some.injEq] at run
    subst run
    refine q S'.ex0 ?_
    rw [if_neg Bool.false_ne_true]
    exact rv.mono (S'.weak f' g' false false (fun h => by cases h) (fun h => by cases h))
  | true =>
    simp only [if_true] at run
    split at run
    · rename_i hg
      cases run
      refine q S'.ex0 ?_
      rw [if_pos rfl]
      rw [Bool.or_eq_true] at hg
      rcases hg with hg | hg
      · have hg : g' = true := hg
        subst hg
        refine rv.mono (Same.trans (S'.weak f' true false true (fun h => by cases h) id) fun p o h => ?_)
        have h : (match H p with | none => H' p | some _ => none) = some o := h
        unfold Rsd Emp
        cases z : H p with
        | none => rw [z] at h; exact h
        | some u => rw [z] at h; cases h
      · exact rv.flat hg
    · cases run
theorem fn_end {C : Cf} {B H B' H' : Hp} {σ' : L2.St} {δ' : List Sl} {d' : D} {f' g' fr : Bool} {d : D} {v : V} {Q : V → Hp → Prop} (S' : Stt C B H B' H' σ' δ') (rv : Rp C (Rg B H B' H' f' g') d' v) (run : (if fr = true then (if (g' || d'.flat) = true then some d' else none) else some d') = some d)
    (q : ∀ v H', Same H H' → Rp C (Rsd (if fr = true then Emp else B) H H') d v → Q v H') : Q v H' := fn_end2 S' rv run (q v H')
section
variable {P : Program} {w : World} {K : PySem.W.Frag} {mg : Str → Option Value} {base : Heap}
theorem fn_c {Cl : Nat → Addr × List Str} {kv : Nat → V} {x qual : Str} {st : Stmt} {f : Addr} {fd : FuncData} {N ps : List Str} {k : Nat} {Γ : Ga} {fr : Bool} {c : S} (F : Fun K x qual st f fd) (sc : FnScope N ps (defScope st)) (hk : KsOk ⟨K, Cl, w, kv⟩ Γ)
    (body : ∀ (cdv : Value) (A : Around) (outer : List Env) (s : Shared) (H : Hp) (E : XK), Room k (A.deeper (envOfC qual (defScope st) s.heap.objs.size f cdv)) →
      PSs (cxOf CX0 P w K mg base N qual (defScope st) f cdv A outer s H E).nox (defBody st) (rdS ⟨K, Cl, w, kv⟩ Γ c)) : FnOk P w K mg base CX0 (k + 1) f fd ps (spOf ⟨K, Cl, w, kv⟩ (mkFd Γ ps.length N.length fr c)) := by
  refine F.ok sc (fun vs H Q E h => ?_) (fun cdv A outer s H vs Q E hr h => ?_)
  · obtain ⟨B, ds, d, e, r, hl, _⟩ := h
    exact r.len.trans hl
  · obtain ⟨B, ds, d, e, r, hl, run, q⟩ := h
    refine ⟨_, body cdv A outer s H E hr, ?_⟩
    have S := stt_start (N := N) e r
    have run : endOf fr (exec Γ c (st0 N.length ds)) = some d := run
    cases ex : exec Γ c (st0 N.length ds) with
    | none => rw [ex] at run; cases run
    | some z =>
      rw [ex] at run
      refine exec_ok hk c _ z ex B H _ S (st0_nr _ _) _ (fun δ' hz B' H' σ' eb S' _ => ?_) (fun rr hz v B' H' σ' δ' eb S' rv _ => ?_)
      · subst hz
        simp only [endOf, Option.some.injEq] at run
        subst run
        exact q _ H' S'.ex0 (by rw [rp_non]) (fun h => by cases h)
      · subst hz
        obtain ⟨d', f', g'⟩ := rr
        simp only [endOf] at run
        have q : ∀ v H', Same H H' → Rp ⟨K, Cl, w, kv⟩ (Rsd (if fr = true then Emp else B) H H') d v → (false = true → d.tflat = true → TreeAt ⟨K, Cl, w, kv⟩ H H' d v) → Q v H' := q
        refine fn_end S' rv run fun v' H2 e2 r2 => q v' H2 e2 r2 (fun h => by cases h)
/-- a def that gives a tree -/
theorem fnT_c {Cl : Nat → Addr × List Str} {kv : Nat → V} {x qual : Str} {st : Stmt} {f : Addr} {fd : FuncData} {N ps : List Str} {k : Nat} {Γ : Ga} {fr : Bool} {c : S} (F : Fun K x qual st f fd) (sc : FnScope N ps (defScope st)) (hk : KsOk ⟨K, Cl, w, kv⟩ Γ) (hT : retT Γ c = true)
    (body : ∀ (cdv : Value) (A : Around) (outer : List Env) (s : Shared) (H : Hp) (E : XK), Room k (A.deeper (envOfC qual (defScope st) s.heap.objs.size f cdv)) →
      PSs (cxOf CX0 P w K mg base N qual (defScope st) f cdv A outer s H E).nox (defBody st) (rdS ⟨K, Cl, w, kv⟩ Γ c)) : FnOk P w K mg base CX0 (k + 1) f fd ps (spOf ⟨K, Cl, w, kv⟩ (mkFdT Γ ps.length N.length fr c)) := by
  refine F.ok sc (fun vs H Q E h => ?_) (fun cdv A outer s H vs Q E hr h => ?_)
  · obtain ⟨B, ds, d, e, r, hl, _⟩ := h
    exact r.len.trans hl
  · obtain ⟨B, ds, d, e, r, hl, run, q⟩ := h
    refine ⟨_, body cdv A outer s H E hr, ?_⟩
    have S := stt_start (N := N) e r
    have run : endOfT fr (exec Γ c (st0 N.length ds)) = some d := run
    cases ex : exec Γ c (st0 N.length ds) with
    | none => rw [ex] at run; cases run
    | some z =>
      rw [ex] at run
      refine exec_ok hk c _ z ex B H _ S (st0_nr _ _) _ (fun δ' hz B' H' σ' eb S' _ => ?_) (fun rr hz v B' H' σ' δ' eb S' rv tv => ?_)
      · subst hz
        simp [endOfT] at run
      · subst hz
        obtain ⟨d', f', g'⟩ := rr
        simp only [endOfT] at run
        split at run
        · rename_i hf
          have q : ∀ v H', Same H H' → Rp ⟨K, Cl, w, kv⟩ (Rsd (if fr = true then Emp else B) H H') d v → (true = true → d.tflat = true → TreeAt ⟨K, Cl, w, kv⟩ H H' d v) → Q v H' := q
          have ed : d' = d := by
            split at run
            · split at run
              · exact Option.some.inj run
              · cases run
            · exact Option.some.inj run
          subst ed
          refine fn_end2 S' rv run fun e2 r2 => q v H' e2 r2 fun _ ht => tv hT ht hf
        · cases run
/-- a def whose arguments come by their places -/
structure Fn1 (K : PySem.W.Frag) (mg : Str → Option Value) (x : Str) (st : Stmt) (ps : List Str) (f : Addr) (fd : FuncData) : Prop where
  F : Fun K x x st f fd
  g : mg x = some (.ref f)
  b : Binds K fd ps []
/-! ### the law's own def: its script is cut first -/
def spLaw (K : PySem.W.Frag) : Sp := fun vs H Q _ => ∃ (a : Addr) (ns : List Int), vs = [.ref a] ∧ SqL K H a (ns.map V.int) ∧ ns.length ≤ 63 ∧ (∀ z ∈ ns, Builtin.Int.intBits z ≤ 1048576) ∧ ∀ H', Q (.bl true) H'
theorem cut63 {ns : List Int} (h : ns.length ≤ 63) : cutV (ns.map V.int) none (some 63) = ns.map V.int := by
  unfold cutV
  rw [HT.sIx_none, show HT.sIx (ns.map V.int).length (ns.map V.int).length (some 63) = min 63 (ns.map V.int).length from HT.sIx_nat _ _ 63]
  rw [List.drop_zero, Nat.sub_zero, List.take_of_length_le]
  simp only [List.length_map]
  omega
theorem law_c {Cl : Nat → Addr × List Str} {kv : Nat → V} {st : Stmt} {f : Addr} {fd : FuncData} {N : List Str} {x : Str} {k : Nat} {Γ : Ga} {c : S} (F : Fun K "law" "law" st f fd) (sc : FnScope N [x] (defScope st)) (hk : KsOk ⟨K, Cl, w, kv⟩ Γ)
    (body : ∀ (cdv : Value) (A : Around) (outer : List Env) (s : Shared) (H : Hp) (E : XK), Room k (A.deeper (envOfC "law" (defScope st) s.heap.objs.size f cdv)) →
      PSs (cxOf CX0 P w K mg base N "law" (defScope st) f cdv A outer s H E).nox (defBody st) (tSeq (tAsg (tSl (rSlL K) (tVar 0) tNoPart (tPart (tC (.int 63)))) (gName 0)) (rdS ⟨K, Cl, w, kv⟩ Γ c)))
    (run : ∀ ns : List Int, ns.length ≤ 63 → (∀ z ∈ ns, Builtin.Int.intBits z ≤ 1048576) → ∃ f g, exec Γ c (st0 N.length [.ls (ns.map D.int)]) = some (.rt (.bl true, f, g))) : FnOk P w K mg base CX0 (k + 1) f fd [x] (spLaw K) := by
  refine F.ok sc (fun vs H Q E h => ?_) (fun cdv A outer s H vs Q E hr h => ?_)
  · obtain ⟨a, ns, rfl, _⟩ := h
    rfl
  · obtain ⟨a, ns, rfl, hS, hl, hb, q⟩ := h
    refine ⟨_, body cdv A outer s H E hr, ?_⟩
    have hN : 0 < N.length := by
      have := congrArg List.length sc.pre
      simp only [List.length_take, List.length_singleton] at this
      omega
    refine ⟨.ref a, ?_, 63, rfl, a, ns.map V.int, rfl, hS, fun p hp => ?_⟩
    · unfold L2.start
      rfl
    · rw [cut63 hl]
      obtain ⟨f', g', ex⟩ := run ns hl hb
      have S : Stt ⟨K, Cl, w, kv⟩ (upd H p (.lst (ns.map V.int))) (upd H p (.lst (ns.map V.int))) (upd H p (.lst (ns.map V.int))) (upd H p (.lst (ns.map V.int))) (L2.start N [.ref p]) (st0 N.length [.ls (ns.map D.int)]) :=
        stt_start (Same.refl _) (.one (by rw [rp_ls]; exact ⟨p, _, rfl, upd_same, rps_ints ns⟩))
      have e : (L2.start N [V.ref a]).set 0 (some (V.ref p)) = L2.start N [.ref p] := by
        unfold L2.start
        rfl
      show rdS ⟨K, Cl, w, kv⟩ Γ c _ ((L2.start N [V.ref a]).set 0 (some (V.ref p))) _
      rw [e]
      refine exec_ok hk c _ _ ex _ _ _ S (st0_nr _ _) _ (fun δ' hz => by cases hz) (fun rr hz v B' H' σ' δ' eb S' rv _ => ?_)
      cases hz
      rw [rp_bl] at rv
      subst rv
      exact q H'
end
end G

namespace G
open PySem L2
/-! ### plain facts about data -/
theorem intsOf_map : ∀ ns : List Int, intsOf (ns.map D.int) = some ns
  | [] => rfl
  | n :: ns => by simp only [List.map_cons, intsOf, intsOf_map ns]
theorem blsOf_map : ∀ ns : List Bool, blsOf (ns.map D.bl) = some ns
  | [] => rfl
  | n :: ns => by simp only [List.map_cons, blsOf, blsOf_map ns]
theorem flats_int (ns : List Int) : flats (ns.map D.int) = true := by
  simp [flats, D.flat]
theorem cut_map {α β : Type} (f : α → β) (xs : List α) (lo hi : Option Int) : cutD (xs.map f) lo hi = (cutD xs lo hi).map f := by
  unfold cutD
  rw [List.length_map, ← List.map_drop, ← List.map_take]
theorem atI_map {α β : Type} (f : α → β) (xs : List α) (i : Int) : atI (xs.map f) i = (atI xs i).map f := by
  unfold atI
  rw [List.length_map]
  cases ixN xs.length i with
  | none => rfl
  | some j => simp
theorem cut_all {α : Type} {xs : List α} {n : Nat} (h : xs.length ≤ n) : cutD xs none (some (n : Int)) = xs := by
  unfold cutD
  rw [HT.sIx_none, HT.sIx_nat, List.drop_zero, Nat.sub_zero, List.take_of_length_le (by omega)]
theorem cut_take {α : Type} (xs : List α) (n : Nat) : cutD xs none (some (n : Int)) = xs.take n := by
  unfold cutD
  rw [HT.sIx_none, HT.sIx_nat, List.drop_zero, Nat.sub_zero]
  by_cases h : n ≤ xs.length
  · rw [Nat.min_eq_left h]
  · rw [Nat.min_eq_right (by omega), List.take_length, List.take_of_length_le (by omega)]
theorem cut_drop {α : Type} (xs : List α) (n : Nat) : cutD xs (some (n : Int)) none = xs.drop n := by
  unfold cutD
  rw [HT.sIx_none, HT.sIx_nat]
  by_cases h : n ≤ xs.length
  · rw [Nat.min_eq_left h, List.take_of_length_le (by rw [List.length_drop]; omega)]
  · rw [Nat.min_eq_right (by omega), List.drop_length, List.take_nil, List.drop_eq_nil_of_le (by omega)]
theorem cut_mid {α : Type} (xs : List α) (m n : Nat) (h : n ≤ xs.length) (h' : m ≤ n) : cutD xs (some (m : Int)) (some (n : Int)) = (xs.drop m).take (n - m) := by
  unfold cutD
  rw [HT.sIx_nat, HT.sIx_nat, Nat.min_eq_left h, Nat.min_eq_left (by omega)]
theorem cut_sub {α : Type} {xs : List α} {lo hi : Option Int} {x : α} (h : x ∈ cutD xs lo hi) : x ∈ xs := List.mem_of_mem_drop (List.mem_of_mem_take h)
theorem cut_len {α : Type} (xs : List α) (lo hi : Option Int) : (cutD xs lo hi).length ≤ xs.length := by
  unfold cutD
  rw [List.length_take, List.length_drop]
  omega
theorem atI_nat {α : Type} {xs : List α} {j : Nat} {v : α} (h : xs[j]? = some v) : atI xs (j : Int) = some v := by
  have hj : j < xs.length := (List.getElem?_eq_some_iff.mp h).1
  unfold atI ixN
  rw [if_pos (by omega), if_pos (by omega)]
  simpa using h
theorem atI_last {α : Type} {xs : List α} {v : α} : atI (xs ++ [v]) (-1) = some v := by
  unfold atI ixN
  rw [if_neg (by omega), if_pos (by simp only [List.length_append, List.length_singleton]; omega)]
  have : ((-1 : Int) + ((xs ++ [v]).length : Nat)).toNat = xs.length := by
    rw [List.length_append]
    show ((-1 : Int) + ((xs.length + 1 : Nat) : Int)).toNat = _
    omega
  rw [this]
  simp
theorem atI_0 {α : Type} (x : α) (xs : List α) : atI (x :: xs) 0 = some x := G.atI_nat (j := 0) rfl
theorem atI_1 {α : Type} (x y : α) (xs : List α) : atI (x :: y :: xs) 1 = some y := G.atI_nat (j := 1) rfl
theorem atI_2 {α : Type} (x y z : α) (xs : List α) : atI (x :: y :: z :: xs) 2 = some z := G.atI_nat (j := 2) rfl
/-! equality -/
def okn (n : Nat) (d : D) : Bool := d.plain && d.py.canLay0 && decide (d.py.depth ≤ n)
theorem eqok_okn (d : D) : d.eqok = okn 64 d := by
  unfold D.eqok okn SeqAt.shaped
  rw [Bool.and_assoc]
theorem okn_int (n : Nat) (i : Int) : okn n (.int i) = true := by simp [okn, D.plain, D.py, PyData.canLay0, PyData.depth]
theorem okn_bl (n : Nat) (i : Bool) : okn n (.bl i) = true := by simp [okn, D.plain, D.py, PyData.canLay0, PyData.depth]
theorem okn_non (n : Nat) : okn n .non = true := by simp [okn, D.plain, D.py, PyData.canLay0, PyData.depth]
theorem okn_str (n : Nat) (x : Str) : okn n (.str x) = PyData.strOk x := by simp [okn, D.plain, D.py, PyData.canLay0, PyData.depth]
theorem okn_all (n : Nat) : ∀ ds : List D, (D.plains ds && PyData.canLayAll0 (D.pys ds) && decide (PyData.depthAll (D.pys ds) ≤ n)) = ds.all (okn n)
  | [] => by simp [D.plains, D.pys, PyData.canLayAll0, PyData.depthAll]
  | d :: ds => by
    rw [List.all_cons, ← okn_all n ds]
    simp only [D.plains, D.pys, PyData.canLayAll0, PyData.depthAll, okn]
    rw [Bool.eq_iff_iff]
    simp only [Bool.and_eq_true, decide_eq_true_eq]
    constructor
    · rintro ⟨⟨⟨a, b⟩, c, d⟩, e⟩
      exact ⟨⟨⟨a, c⟩, by omega⟩, ⟨b, d⟩, by omega⟩
    · rintro ⟨⟨⟨a, c⟩, e⟩, ⟨b, d⟩, f⟩
      exact ⟨⟨⟨a, b⟩, c, d⟩, by omega⟩
theorem okn_ls (n : Nat) (ds : List D) : okn (n + 1) (.ls ds) = ds.all (okn n) := by
  rw [← okn_all]
  simp [okn, D.plain, D.py, PyData.canLay0, PyData.depth]
theorem okn_tp (n : Nat) (ds : List D) : okn (n + 1) (.tp ds) = ds.all (okn n) := by
  rw [← okn_all]
  simp [okn, D.plain, D.py, PyData.canLay0, PyData.depth]
theorem okn_ints (n : Nat) (ns : List Int) : okn (n + 1) (.ls (ns.map D.int)) = true := by
  rw [okn_ls]
  simp [okn_int]
mutual
/-- ints, texts, lists, tuples and None alone -/
def D.nb : D → Bool
  | .non => true | .int _ => true | .str _ => true | .bl _ => false | .ob _ _ => false | .dc _ _ => false | .ls xs => D.nbs xs | .tp xs => D.nbs xs
def D.nbs : List D → Bool
  | [] => true | x :: r => D.nb x && D.nbs r
end
mutual
theorem eqv_nb : ∀ {a b : D}, a.nb = true → b.nb = true → (a.eqv b = true ↔ a = b)
  | .non, b, _, hb => by cases b <;> simp [D.eqv, D.py, PyData.eqv, D.nb] at hb ⊢
  | .int i, b, _, hb => by cases b <;> simp [D.eqv, D.py, PyData.eqv, D.nb] at hb ⊢
  | .str i, b, _, hb => by cases b <;> simp [D.eqv, D.py, PyData.eqv, D.nb] at hb ⊢
  | .bl i, b, ha, _ => by simp [D.nb] at ha
  | .ob i _, b, ha, _ => by simp [D.nb] at ha
  | .dc i _, b, ha, _ => by simp [D.nb] at ha
  | .ls xs, b, ha, hb => by
    cases b with
    | ls ys =>
      simp only [D.nb] at ha hb
      have := eqvs_nb ha hb
      simp only [D.eqv, D.py, PyData.eqv, D.ls.injEq]
      exact this
    | _ => simp [D.eqv, D.py, PyData.eqv, D.nb] at hb ⊢
  | .tp xs, b, ha, hb => by
    cases b with
    | tp ys =>
      simp only [D.nb] at ha hb
      have := eqvs_nb ha hb
      simp only [D.eqv, D.py, PyData.eqv, D.tp.injEq]
      exact this
    | _ => simp [D.eqv, D.py, PyData.eqv, D.nb] at hb ⊢
theorem eqvs_nb : ∀ {a b : List D}, D.nbs a = true → D.nbs b = true → (PyData.eqvAll (D.pys a) (D.pys b) = true ↔ a = b)
  | [], [], _, _ => by simp [D.pys, PyData.eqvAll]
  | [], y :: ys, _, _ => by simp [D.pys, PyData.eqvAll]
  | x :: xs, [], _, _ => by simp [D.pys, PyData.eqvAll]
  | x :: xs, y :: ys, ha, hb => by
    simp only [D.nbs, Bool.and_eq_true] at ha hb
    have h1 := eqv_nb ha.1 hb.1
    have h2 := eqvs_nb ha.2 hb.2
    simp only [D.pys, PyData.eqvAll, Bool.and_eq_true, List.cons.injEq]
    rw [h2]
    exact ⟨fun h => ⟨h1.mp h.1, h.2⟩, fun h => ⟨h1.mpr h.1, h.2⟩⟩
end
theorem eqv_self {d : D} (h : d.nb = true) : d.eqv d = true := (eqv_nb h h).mpr rfl
theorem nbs_all : ∀ ds : List D, D.nbs ds = ds.all D.nb
  | [] => rfl
  | d :: ds => by simp only [D.nbs, List.all_cons, nbs_all ds]
theorem nbs_ints (ns : List Int) : D.nbs (ns.map D.int) = true := by
  rw [nbs_all]
  simp [D.nb]
theorem eqv_int (a b : Int) : (D.int a).eqv (.int b) = decide (a = b) := by
  rw [Bool.eq_iff_iff, eqv_nb (by rfl) (by rfl)]
  simp
theorem eqv_bl (a b : Bool) : (D.bl a).eqv (.bl b) = decide (a = b) := by
  simp [D.eqv, D.py, PyData.eqv]
  cases a <;> cases b <;> rfl
theorem map_int_inj {a b : List Int} (h : a.map D.int = b.map D.int) : a = b := by
  have := congrArg intsOf h
  rw [intsOf_map, intsOf_map] at this
  exact Option.some.inj this
theorem eqv_ints (a b : List Int) : (D.ls (a.map D.int)).eqv (.ls (b.map D.int)) = decide (a = b) := by
  rw [Bool.eq_iff_iff, eqv_nb (by simp only [D.nb]; exact nbs_ints a) (by simp only [D.nb]; exact nbs_ints b)]
  simp only [D.ls.injEq, decide_eq_true_eq]
  exact ⟨map_int_inj, fun h => by rw [h]⟩
theorem rep_map {α β : Type} (f : α → β) (n : Nat) (xs : List α) : (List.replicate n (xs.map f)).flatten = ((List.replicate n xs).flatten).map f := by
  induction n with
  | zero => rfl
  | succ n ih => rw [List.replicate_succ, List.flatten_cons, List.replicate_succ, List.flatten_cons, List.map_append, ih]
/-! loops -/
theorem forRun_fold {α β : Type} {t : Tg} {g : Bool} {ex : List Sl → Option Rz} {f : α → D} {up : β → α → β} (st : Nat → β → List Sl → Prop) : ∀ (as : List α) (i : Nat) (b : β) (δ : List Sl), st i b δ →
    (∀ (j : Nat) a b δ, as[j]? = some a → st (i + j) b δ → ∃ δ1 δ2, t.run g (f a) δ = some δ1 ∧ ex δ1 = some (.nx δ2) ∧ st (i + j + 1) (up b a) δ2) →
    ∃ δ', forRun t g ex (as.map f) δ = some (.nx δ') ∧ st (i + as.length) (as.foldl up b) δ'
  | [], i, b, δ, h, _ => ⟨δ, rfl, h⟩
  | a :: as, i, b, δ, h, step => by
    obtain ⟨δ1, δ2, h1, h2, h3⟩ := step 0 a b δ rfl h
    obtain ⟨δ', e, h'⟩ := forRun_fold st as (i + 1) (up b a) δ2 h3 fun j a' b' δ' hj hs => by
      have := step (j + 1) a' b' δ' (by simpa using hj) (by rw [show i + (j + 1) = i + 1 + j by omega]; exact hs)
      rw [show i + (j + 1) + 1 = i + 1 + j + 1 by omega] at this
      exact this
    refine ⟨δ', ?_, ?_⟩
    · rw [List.map_cons]
      unfold forRun
      rw [h1]
      show (match ex δ1 with | some (.nx δ2) => forRun t g ex (as.map f) δ2 | some (.rt v) => some (.rt v) | none => none) = _
      rw [h2]
      exact e
    · rw [List.length_cons, List.foldl_cons, show i + (as.length + 1) = i + 1 + as.length by omega]
      exact h'
/-- a loop whose state is not told by a fold -/
theorem forRun_inv {t : Tg} {g : Bool} {ex : List Sl → Option Rz} (st : Nat → List Sl → Prop) : ∀ (ds : List D) (i : Nat) (δ : List Sl), st i δ →
    (∀ (j : Nat) d δ, ds[j]? = some d → st (i + j) δ → ∃ δ1 δ2, t.run g d δ = some δ1 ∧ ex δ1 = some (.nx δ2) ∧ st (i + j + 1) δ2) → ∃ δ', forRun t g ex ds δ = some (.nx δ') ∧ st (i + ds.length) δ' := by
  intro ds i δ h step
  have := forRun_fold (t := t) (g := g) (ex := ex) (f := id) (up := fun (_ : Unit) (_ : D) => ()) (fun i _ δ => st i δ) ds i () δ h fun j a b δ hj hs => step j a δ hj hs
  rw [List.map_id] at this
  exact this
/-- a comprehension without a test, the same value each turn by the item -/
theorem lcRun_map {α : Type} {t : Tg} {g : Bool} {ef : List Sl → Option Rs} {δ : List Sl} {f : α → D} {y : α → D} : ∀ (as : List α), (∀ a ∈ as, ∃ δ2, t.run g (f a) δ = some δ2 ∧ ∃ gy, ef δ2 = some (y a, true, gy)) →
    ∃ gs, lcRun t g (fun _ => some true) ef δ (as.map f) = some (as.map y, gs)
  | [], _ => ⟨true, rfl⟩
  | a :: as, h => by
    obtain ⟨δ2, h1, gy, h2⟩ := h a List.mem_cons_self
    obtain ⟨gs, e⟩ := lcRun_map as fun b hb => h b (List.mem_cons_of_mem _ hb)
    refine ⟨gy && gs, ?_⟩
    rw [List.map_cons, List.map_cons]
    unfold lcRun
    rw [h1]
    dsimp only
    rw [h2]
    dsimp only
    rw [e]
theorem eval_lc_of {Γ : Ga} {t : Tg} {it e : E} {δ : List Sl} {ds ys : List D} {g gs : Bool} (h : evalI Γ it δ = some (ds, g)) (hl : ds.length ≤ 50000) (r : lcRun t g (fun _ => some true) (fun δ2 => eval Γ e δ2) (wipeD δ t.sl) ds = some (ys, gs)) :
    eval Γ (.lc t it e) δ = some (.ls ys, true, gs) := by
  unfold eval
  rw [h]
  dsimp only
  rw [if_pos hl, r]
theorem eval_lcf_of {Γ : Ga} {t : Tg} {it c e : E} {δ : List Sl} {ds ys : List D} {g gs : Bool} (h : evalI Γ it δ = some (ds, g)) (hl : ds.length ≤ 50000) (ht : isTst c = true) (r : lcRun t g (fun δ2 => tst (eval Γ c δ2)) (fun δ2 => eval Γ e δ2) (wipeD δ t.sl) ds = some (ys, gs)) :
    eval Γ (.lcf t it c e) δ = some (.ls ys, true, gs) := by
  unfold eval
  rw [h]
  dsimp only
  rw [if_pos ⟨hl, ht⟩, r]
theorem all_true {α : Type} (xs : List α) : (xs.all fun _ => true) = true := by
  simp
theorem exec_loop_of {Γ : Ga} {t : Tg} {it : E} {b : S} {δ : List Sl} {ds : List D} {g : Bool} {z : Rz} (h : evalI Γ it δ = some (ds, g)) (r : forRun t g (fun δ => exec Γ b δ) ds δ = some z) : exec Γ (.loop t it b) δ = some z := by
  unfold exec
  rw [h]
  exact r
/-- a comprehension of truths -/
theorem lcRun_bls {α : Type} {t : Tg} {g : Bool} {ef : List Sl → Option Rs} {δ : List Sl} {f : α → D} {p : α → Bool} (as : List α) (h : ∀ a ∈ as, ∃ δ2, t.run g (f a) δ = some δ2 ∧ ∃ gy, ef δ2 = some (.bl (p a), true, gy)) :
    ∃ L gs, lcRun t g (fun _ => some true) ef δ (as.map f) = some (L, gs) ∧ blsOf L = some (as.map p) := by
  obtain ⟨gs, e⟩ := lcRun_map (y := fun a => D.bl (p a)) as h
  refine ⟨_, gs, e, ?_⟩
  have := blsOf_map (as.map p)
  rw [List.map_map] at this
  exact this
theorem exec_nx {Γ : Ga} {a r : S} {δ δ1 : List Sl} {z : Option Rz} (h : exec Γ a δ = some (.nx δ1)) (k : exec Γ r δ1 = z) : exec Γ (.seq a r) δ = z := by
  unfold exec
  rw [h]
  exact k
theorem exec_rt {Γ : Ga} {a r : S} {δ : List Sl} {v : Rs} (h : exec Γ a δ = some (.rt v)) : exec Γ (.seq a r) δ = some (.rt v) := by
  unfold exec
  rw [h]
/-! great ints -/
theorem log2_lt_of {n k : Nat} (h : n < 2 ^ k) (h0 : 0 < k) : n.log2 < k := by
  by_cases z : n = 0
  · subst z; simp; exact h0
  · exact (Nat.log2_lt z).mpr h
theorem log2_add (a b : Int) {m : Nat} (ha : a.natAbs.log2 ≤ m) (hb : b.natAbs.log2 ≤ m) : (a + b).natAbs.log2 ≤ m + 1 := by
  have h1 : a.natAbs < 2 ^ (m + 1) := Nat.lt_of_lt_of_le Nat.lt_log2_self (Nat.pow_le_pow_right (by decide) (by omega))
  have h2 : b.natAbs < 2 ^ (m + 1) := Nat.lt_of_lt_of_le Nat.lt_log2_self (Nat.pow_le_pow_right (by decide) (by omega))
  have h3 : (a + b).natAbs < 2 ^ (m + 2) := by
    have e : 2 ^ (m + 2) = 2 ^ (m + 1) + 2 ^ (m + 1) := by rw [Nat.pow_succ 2 (m + 1)]; omega
    have := Int.natAbs_add_le a b
    rw [e]
    omega
  have := log2_lt_of h3 (by omega)
  omega
theorem log2_small {a : Int} {m : Nat} (h : a.natAbs < 2 ^ m) (h0 : 0 < m) : a.natAbs.log2 ≤ m := Nat.le_of_lt (log2_lt_of h h0)
theorem mul_wide {a b : Int} (ha : a.natAbs.log2 ≤ 40000000) (hb : b.natAbs.log2 ≤ 40000000) : mulok a b = true := by
  unfold mulok
  rw [show decide (a.natAbs.log2 + b.natAbs.log2 < 100000000) = true from decide_eq_true (by omega), Bool.or_true]
theorem mul_right {a b : Int} (h : b.natAbs < 18446744073709551616) : mulok a b = true := by
  unfold mulok
  rw [show decide (b.natAbs < 18446744073709551616) = true from decide_eq_true h, Bool.or_true, Bool.true_or]
theorem mul_left {a b : Int} (h : a.natAbs < 18446744073709551616) : mulok a b = true := by
  unfold mulok
  rw [show decide (a.natAbs < 18446744073709551616) = true from decide_eq_true h, Bool.true_or, Bool.true_or]
theorem bits_log2 {z : Int} {n : Nat} (h : Builtin.Int.intBits z ≤ n) : z.natAbs.log2 ≤ n := by
  unfold Builtin.Int.intBits at h
  split at h
  · rename_i e
    have : z = 0 := by simpa using e
    subst this
    simp
  · omega
end G

namespace Sh
/-! ### notes, what was heard, scores: plain -/
abbrev Wd := Bool × Bool
def wv (b : Bool) (w : Wd) : Int := if w.2 = b then (if w.1 = true then 1 else -1) else 0
def pt (b : Bool) (ws : List Wd) : Int := (ws.map (wv b)).sum
def sc (b : Bool) : List (List Wd) → List Nat → Int
  | ws :: r, m :: t => pt b (ws.take m) + sc b r t
  | _, _ => 0
/-- what a hand may have heard -/
def Va (notes : List (List Wd)) (hand said : Nat) (h : List Nat) : Prop := h.length = notes.length ∧ (∀ p ∈ notes.zip h, p.2 ≤ p.1.length) ∧ h[hand]? = some said
def opts (i hand said n : Nat) : List Nat := (List.range (n + 1)).filter fun m => decide (i ≠ hand) || decide (m = said)
def ahGo (hand said : Nat) : Nat → List (List Wd) → List (List Nat) → List (List Nat)
  | _, [], acc => acc
  | i, ws :: r, acc => ahGo hand said (i + 1) r (acc.flatMap fun s => (opts i hand said ws.length).map fun m => s ++ [m])
def ah (notes : List (List Wd)) (hand said : Nat) : List (List Nat) := ahGo hand said 0 notes [[]]
def vd (hand said : Nat) : Nat → List (List Wd) → List Nat → Prop
  | _, [], [] => True
  | i, ws :: r, m :: t => (m ≤ ws.length ∧ (i = hand → m = said)) ∧ vd hand said (i + 1) r t
  | _, _, _ => False
theorem opts_mem {i hand said n m : Nat} : m ∈ opts i hand said n ↔ m ≤ n ∧ (i = hand → m = said) := by
  unfold opts
  simp only [List.mem_filter, List.mem_range, Bool.or_eq_true, decide_eq_true_eq]
  constructor
  · rintro ⟨h1, h2⟩
    refine ⟨by omega, fun e => ?_⟩
    rcases h2 with h2 | h2
    · exact absurd e h2
    · exact h2
  · rintro ⟨h1, h2⟩
    refine ⟨by omega, ?_⟩
    by_cases e : i = hand
    · exact .inr (h2 e)
    · exact .inl e
theorem ahGo_mem {hand said : Nat} : ∀ (notes : List (List Wd)) (i : Nat) (acc : List (List Nat)) (h : List Nat), h ∈ ahGo hand said i notes acc ↔ ∃ s ∈ acc, ∃ t, h = s ++ t ∧ vd hand said i notes t
  | [], i, acc, h => by
    simp only [ahGo]
    constructor
    · intro k
      exact ⟨h, k, [], by simp, by simp [vd]⟩
    · rintro ⟨s, hs, t, rfl, ht⟩
      cases t with
      | nil => simpa using hs
      | cons m t => simp [vd] at ht
  | ws :: r, i, acc, h => by
    simp only [ahGo]
    rw [ahGo_mem r (i + 1)]
    constructor
    · rintro ⟨s, hs, t, rfl, ht⟩
      obtain ⟨s0, hs0, hm⟩ := List.mem_flatMap.mp hs
      obtain ⟨m, hm2, rfl⟩ := List.mem_map.mp hm
      exact ⟨s0, hs0, m :: t, by simp, opts_mem.mp hm2, ht⟩
    · rintro ⟨s, hs, t, rfl, ht⟩
      cases t with
      | nil => simp [vd] at ht
      | cons m t =>
        simp only [vd] at ht
        exact ⟨s ++ [m], List.mem_flatMap.mpr ⟨s, hs, List.mem_map.mpr ⟨m, opts_mem.mpr ht.1, rfl⟩⟩, t, by simp, ht.2⟩
theorem vd_va {hand said : Nat} : ∀ (notes : List (List Wd)) (i : Nat) (h : List Nat), vd hand said i notes h ↔ (h.length = notes.length ∧ (∀ p ∈ notes.zip h, p.2 ≤ p.1.length) ∧ (i ≤ hand → hand < i + notes.length → h[hand - i]? = some said))
  | [], i, [] => by
    simp only [vd, List.length_nil, List.zip_nil_left, true_and, true_iff]
    exact ⟨fun p hp => by simp at hp, fun a b => by omega⟩
  | [], i, m :: t => by simp [vd]
  | ws :: r, i, [] => by simp [vd]
  | ws :: r, i, m :: t => by
    simp only [vd, vd_va r (i + 1) t, List.length_cons, List.zip_cons_cons, List.mem_cons, forall_eq_or_imp]
    constructor
    · rintro ⟨⟨h1, h2⟩, h3, h4, h5⟩
      refine ⟨by omega, ⟨h1, h4⟩, fun a b => ?_⟩
      by_cases e : i = hand
      · subst e
        simp [h2 rfl]
      · have := h5 (by omega) (by omega)
        rw [show hand - i = (hand - (i + 1)) + 1 by omega, List.getElem?_cons_succ]
        exact this
    · rintro ⟨h1, ⟨h2, h3⟩, h4⟩
      refine ⟨⟨h2, fun e => ?_⟩, by omega, h3, fun a b => ?_⟩
      · subst e
        have := h4 (Nat.le_refl _) (by omega)
        simpa using this
      · have := h4 (by omega) (by omega)
        rw [show hand - i = (hand - (i + 1)) + 1 by omega, List.getElem?_cons_succ] at this
        exact this
theorem mem_ah {notes : List (List Wd)} {hand said : Nat} (hh : hand < notes.length) {h : List Nat} : h ∈ ah notes hand said ↔ Va notes hand said h := by
  unfold ah Va
  rw [ahGo_mem]
  constructor
  · rintro ⟨s, hs, t, rfl, ht⟩
    simp at hs
    subst hs
    have := (vd_va notes 0 t).mp ht
    exact ⟨by simpa using this.1, by simpa using this.2.1, by simpa using this.2.2 (by omega) (by omega)⟩
  · rintro ⟨h1, h2, h3⟩
    exact ⟨[], by simp, h, by simp, (vd_va notes 0 h).mpr ⟨h1, h2, fun _ _ => by simpa using h3⟩⟩
theorem opts_len (i hand said n : Nat) : (opts i hand said n).length ≤ n + 1 := by
  unfold opts
  exact Nat.le_trans (List.length_filter_le _ _) (by simp)
theorem flatMap_len {α β : Type} (k : Nat) (f : α → List β) : ∀ l : List α, (∀ a ∈ l, (f a).length ≤ k) → (l.flatMap f).length ≤ l.length * k
  | [], _ => by simp
  | a :: l, h => by
    rw [List.flatMap_cons, List.length_append, List.length_cons, Nat.add_mul, Nat.one_mul]
    have := h a (by simp)
    have := flatMap_len k f l fun b hb => h b (by simp [hb])
    omega
theorem ahGo_len {hand said : Nat} : ∀ (notes : List (List Wd)) (i : Nat) (acc : List (List Nat)), (∀ ws ∈ notes, ws.length ≤ 6) → (ahGo hand said i notes acc).length ≤ acc.length * 7 ^ notes.length
  | [], _, acc, _ => by simp [ahGo]
  | ws :: r, i, acc, h => by
    simp only [ahGo]
    have h1 := ahGo_len (hand := hand) (said := said) r (i + 1) (acc.flatMap fun s => (opts i hand said ws.length).map fun m => s ++ [m]) fun w hw => h w (by simp [hw])
    have h2 := flatMap_len 7 (fun s => (opts i hand said ws.length).map fun m => s ++ [m]) acc fun s _ => by
      rw [List.length_map]
      have := opts_len i hand said ws.length
      have := h ws (by simp)
      omega
    calc _ ≤ _ := h1
      _ ≤ acc.length * 7 * 7 ^ r.length := Nat.mul_le_mul_right _ h2
      _ = acc.length * 7 ^ (ws :: r).length := by rw [List.length_cons, Nat.pow_succ, Nat.mul_assoc, Nat.mul_comm 7]
theorem ah_len {notes : List (List Wd)} {hand said : Nat} (h : ∀ ws ∈ notes, ws.length ≤ 6) (hn : notes.length ≤ 3) : (ah notes hand said).length ≤ 343 := by
  have := ahGo_len (hand := hand) (said := said) notes 0 [[]] h
  unfold ah
  refine Nat.le_trans this ?_
  rw [List.length_singleton, Nat.one_mul]
  exact Nat.le_trans (Nat.pow_le_pow_right (by omega) hn) (by decide)
/-! no less -/
def leL : List Nat → List Nat → Bool
  | a :: s, b :: t => decide (a ≤ b) && leL s t
  | _, _ => true
theorem leL_refl : ∀ a : List Nat, leL a a = true
  | [] => rfl
  | a :: s => by simp [leL, leL_refl s]
theorem leL_trans : ∀ {a b c : List Nat}, a.length = b.length → b.length = c.length → leL a b = true → leL b c = true → leL a c = true
  | [], _, _, _, _, _, _ => by simp [leL]
  | a :: s, [], _, h, _, _, _ => by simp at h
  | a :: s, b :: t, [], _, h, _, _ => by simp at h
  | a :: s, b :: t, c :: u, h1, h2, h3, h4 => by
    simp only [leL, Bool.and_eq_true, decide_eq_true_eq] at h3 h4 ⊢
    exact ⟨by omega, leL_trans (by simpa using h1) (by simpa using h2) h3.2 h4.2⟩
theorem leL_app : ∀ {a b : List Nat} (c d : List Nat), a.length = b.length → leL (a ++ c) (b ++ d) = (leL a b && leL c d)
  | [], [], c, d, _ => by simp [leL]
  | [], _ :: _, _, _, h => by simp at h
  | _ :: _, [], _, _, h => by simp at h
  | a :: s, b :: t, c, d, h => by
    simp only [List.cons_append, leL, leL_app c d (show s.length = t.length by simpa using h), Bool.and_assoc]
/-! showings, histories -/
structure Sg where
  said : Nat
  a : Int
  b : Int
def Fit (notes : List (List Wd)) (hand : Nat) (s : Sg) (h : List Nat) : Prop := Va notes hand s.said h ∧ sc false notes h = s.a ∧ sc true notes h = s.b
def Gd (notes : List (List Wd)) (hand : Nat) : Option (List Nat) → List Sg → Prop
  | _, [] => True
  | pv, s :: r => ∃ h, Fit notes hand s h ∧ (∀ p, pv = some p → leL p h = true) ∧ Gd notes hand (some h) r
def fitL (notes : List (List Wd)) (hand : Nat) (s : Sg) : List (List Nat) := (ah notes hand s.said).filter fun h => decide (sc false notes h = s.a) && decide (sc true notes h = s.b)
def nxt (notes : List (List Wd)) (hand : Nat) (pv : Option (List (List Nat))) (s : Sg) : List (List Nat) := match pv with
  | none => fitL notes hand s
  | some l => (fitL notes hand s).filter fun h => l.any fun p => leL p h
def lf (notes : List (List Wd)) (hand : Nat) : Option (List (List Nat)) → List Sg → List (List (List Nat))
  | _, [] => []
  | pv, s :: r => nxt notes hand pv s :: lf notes hand (some (nxt notes hand pv s)) r
def lastNE : Option (List (List Nat)) → List (List (List Nat)) → Prop
  | none, [] => True
  | some l, [] => l ≠ []
  | _, l :: r => lastNE (some l) r
section
variable {notes : List (List Wd)} {hand : Nat}
theorem fitL_mem (hh : hand < notes.length) {s : Sg} {h : List Nat} : h ∈ fitL notes hand s ↔ Fit notes hand s h := by
  unfold fitL Fit
  rw [List.mem_filter, mem_ah hh]
  simp
theorem nxt_none (hh : hand < notes.length) {s : Sg} {h : List Nat} : h ∈ nxt notes hand none s ↔ Fit notes hand s h := fitL_mem hh
theorem nxt_some (hh : hand < notes.length) {l : List (List Nat)} {s : Sg} {h : List Nat} : h ∈ nxt notes hand (some l) s ↔ Fit notes hand s h ∧ ∃ p ∈ l, leL p h = true := by
  unfold nxt
  simp only [List.mem_filter, fitL_mem hh, List.any_eq_true]
theorem lastNE_some (hh : hand < notes.length) : ∀ (shown : List Sg) (l : List (List Nat)), lastNE (some l) (lf notes hand (some l) shown) ↔ ∃ p ∈ l, Gd notes hand (some p) shown
  | [], l => by
    simp only [lf, lastNE, Gd, and_true]
    constructor
    · intro h
      cases l with
      | nil => exact absurd rfl h
      | cons a l => exact ⟨a, by simp⟩
    · rintro ⟨p, hp⟩ rfl
      simp at hp
  | s :: r, l => by
    simp only [lf, lastNE, Gd]
    rw [lastNE_some hh r]
    constructor
    · rintro ⟨h, h1, h2⟩
      obtain ⟨h3, p, hp, h4⟩ := (nxt_some hh).mp h1
      exact ⟨p, hp, h, h3, fun q hq => by cases hq; exact h4, h2⟩
    · rintro ⟨p, hp, h, h3, h4, h2⟩
      exact ⟨h, (nxt_some hh).mpr ⟨h3, p, hp, h4 p rfl⟩, h2⟩
theorem lastNE_none (hh : hand < notes.length) (shown : List Sg) : lastNE none (lf notes hand none shown) ↔ Gd notes hand none shown := by
  cases shown with
  | nil => simp [lf, lastNE, Gd]
  | cons s r =>
    simp only [lf, lastNE, Gd]
    rw [lastNE_some hh r]
    constructor
    · rintro ⟨h, h1, h2⟩
      exact ⟨h, (nxt_none hh).mp h1, (fun q hq => by simp at hq), h2⟩
    · rintro ⟨h, h3, _, h2⟩
      exact ⟨h, (nxt_none hh).mpr h3, h2⟩
theorem Gd.weak (hl : ∀ s h, Fit notes hand s h → h.length = notes.length) : ∀ {shown : List Sg} {p h : List Nat}, p.length = notes.length → h.length = notes.length → leL p h = true → Gd notes hand (some h) shown → Gd notes hand (some p) shown
  | [], _, _, _, _, _, _ => trivial
  | s :: r, p, h, hp, hh, hle, g => by
    obtain ⟨k, f, le, g⟩ := g
    exact ⟨k, f, fun q hq => by cases hq; exact leL_trans (by omega) (by rw [hh, hl s k f]) hle (le h rfl), g⟩
theorem Fit.len {s : Sg} {h : List Nat} (f : Fit notes hand s h) : h.length = notes.length := f.1.1
theorem Gd.none : ∀ {shown : List Sg} {h : List Nat}, Gd notes hand (some h) shown → Gd notes hand none shown
  | [], _, _ => trivial
  | s :: r, h, g => by
    obtain ⟨k, f, le, g⟩ := g
    exact ⟨k, f, (fun q hq => by simp at hq), g⟩
/-- one left out -/
theorem Gd.out : ∀ {a : List Sg} {s : Sg} {b : List Sg} {pv : Option (List Nat)}, (∀ p, pv = some p → p.length = notes.length) → Gd notes hand pv (a ++ s :: b) → Gd notes hand pv (a ++ b)
  | [], s, b, pv, hp, g => by
    obtain ⟨h, f, le, g⟩ := g
    cases pv with
    | none => exact g.none
    | some p => exact Gd.weak (fun s h f => f.len) (hp p rfl) f.len (le p rfl) g
  | x :: a, s, b, pv, hp, g => by
    obtain ⟨h, f, le, g⟩ := g
    exact ⟨h, f, le, Gd.out (fun p e => by cases e; exact f.len) g⟩
/-- one twice -/
theorem Gd.dbl : ∀ {a : List Sg} {s : Sg} {b : List Sg} {pv : Option (List Nat)}, Gd notes hand pv (a ++ s :: b) → Gd notes hand pv (a ++ s :: s :: b)
  | [], s, b, pv, g => by
    obtain ⟨h, f, le, g⟩ := g
    exact ⟨h, f, le, h, f, fun q hq => by cases hq; exact leL_refl _, g⟩
  | x :: a, s, b, pv, g => by
    obtain ⟨h, f, le, g⟩ := g
    exact ⟨h, f, le, Gd.dbl g⟩
/-- turned into another's -/
theorem Gd.map {notes' : List (List Wd)} {hand' : Nat} (φ : List Nat → List Nat) (σ : Sg → Sg) (hf : ∀ s h, Fit notes hand s h → Fit notes' hand' (σ s) (φ h)) (hle : ∀ s p h, p.length = notes.length → Fit notes hand s h → leL p h = true → leL (φ p) (φ h) = true) :
    ∀ {shown : List Sg} {pv : Option (List Nat)}, (∀ p, pv = some p → p.length = notes.length) → Gd notes hand pv shown → Gd notes' hand' (pv.map φ) (shown.map σ)
  | [], _, _, _ => trivial
  | s :: r, pv, hp, g => by
    obtain ⟨h, f, le, g⟩ := g
    refine ⟨φ h, hf s h f, fun q hq => ?_, Gd.map φ σ hf hle (pv := some h) (fun p e => by cases e; exact f.len) g⟩
    cases pv with
    | none => cases hq
    | some p =>
      cases hq
      exact hle s p h (hp p rfl) f (le p rfl)
end
/-! sides exchanged -/
def oth (notes : List (List Wd)) : List (List Wd) := notes.map fun ws => ws.map fun w => (w.1, !w.2)
theorem wv_oth (b : Bool) (w : Wd) : wv b (w.1, !w.2) = wv (!b) w := by
  unfold wv
  cases w.2 <;> cases b <;> rfl
theorem pt_oth (b : Bool) (ws : List Wd) : pt b (ws.map fun w => (w.1, !w.2)) = pt (!b) ws := by
  unfold pt
  rw [List.map_map]
  congr 1
  apply List.map_congr_left
  intro w _
  exact wv_oth b w
theorem sc_oth (b : Bool) : ∀ (notes : List (List Wd)) (h : List Nat), sc b (oth notes) h = sc (!b) notes h
  | [], _ => rfl
  | ws :: r, [] => rfl
  | ws :: r, m :: t => by
    have := sc_oth b r t
    simp only [oth, List.map_cons, sc] at this ⊢
    rw [this, ← List.map_take, pt_oth]
theorem va_oth {notes : List (List Wd)} {hand said : Nat} {h : List Nat} : Va (oth notes) hand said h ↔ Va notes hand said h := by
  unfold Va oth
  rw [List.length_map]
  have : (∀ p ∈ (notes.map fun ws => ws.map fun w => (w.1, !w.2)).zip h, p.2 ≤ p.1.length) ↔ ∀ p ∈ notes.zip h, p.2 ≤ p.1.length := by
    rw [List.zip_map_left]
    simp only [List.mem_map]
    constructor
    · intro k p hp
      have := k _ ⟨p, hp, rfl⟩
      simpa using this
    · rintro k _ ⟨p, hp, rfl⟩
      simpa using k p hp
  rw [this]
def swS (s : Sg) : Sg := ⟨s.said, s.b, s.a⟩
theorem fit_oth {notes : List (List Wd)} {hand : Nat} {s : Sg} {h : List Nat} (f : Fit notes hand s h) : Fit (oth notes) hand (swS s) h :=
  ⟨va_oth.mpr f.1, by rw [sc_oth]; exact f.2.2, by rw [sc_oth]; exact f.2.1⟩
theorem oth_oth (notes : List (List Wd)) : oth (oth notes) = notes := by
  unfold oth
  rw [List.map_map]
  conv => rhs; rw [← List.map_id notes]
  apply List.map_congr_left
  intro ws _
  simp only [Function.comp, List.map_map, id]
  conv => rhs; rw [← List.map_id ws]
  apply List.map_congr_left
  intro w _
  simp
theorem oth_len (notes : List (List Wd)) : (oth notes).length = notes.length := by simp [oth]
theorem gd_oth {notes : List (List Wd)} {hand : Nat} {shown : List Sg} : Gd (oth notes) hand none (shown.map swS) ↔ Gd notes hand none shown := by
  have key : ∀ (notes : List (List Wd)) (shown : List Sg), Gd notes hand none shown → Gd (oth notes) hand none (shown.map swS) := fun notes shown g =>
    Gd.map id swS (fun s h f => fit_oth f) (fun s p h _ _ e => e) (pv := none) (fun p e => by cases e) g
  constructor
  · intro g
    have := key _ _ g
    rw [oth_oth, List.map_map, show swS ∘ swS = id from rfl, List.map_id] at this
    exact this
  · exact key notes shown
/-! hands renamed in turn -/
theorem sc_app (b : Bool) : ∀ {x : List (List Wd)} {u : List Nat} (y : List (List Wd)) (v : List Nat), x.length = u.length → sc b (x ++ y) (u ++ v) = sc b x u + sc b y v
  | [], [], y, v, _ => by simp [sc]
  | [], _ :: _, _, _, h => by simp at h
  | _ :: _, [], _, _, h => by simp at h
  | ws :: x, m :: u, y, v, h => by
    simp only [List.cons_append, sc, sc_app b y v (show x.length = u.length by simpa using h)]
    omega
theorem fit_app {x y : List (List Wd)} {hand hand' : Nat} {s : Sg} {u v : List Nat} (hl : x.length = u.length) (f : Fit (x ++ y) hand s (u ++ v)) (hs : (v ++ u)[hand']? = (u ++ v)[hand]?) : Fit (y ++ x) hand' s (v ++ u) := by
  have h1 := f.len
  simp only [List.length_append] at h1
  have hl2 : y.length = v.length := by omega
  refine ⟨⟨by simp; omega, fun p hp => ?_, by rw [hs]; exact f.1.2.2⟩, ?_, ?_⟩
  · apply f.1.2.1
    rw [List.zip_append hl]
    rw [List.zip_append hl2] at hp
    rcases List.mem_append.mp hp with k | k
    · exact List.mem_append_right _ k
    · exact List.mem_append_left _ k
  · rw [sc_app _ _ _ hl2, ← f.2.1, sc_app _ _ _ hl]
    omega
  · rw [sc_app _ _ _ hl2, ← f.2.2, sc_app _ _ _ hl]
    omega
def rot (n : Nat) (h : List Nat) : List Nat := h.drop n ++ h.take n
theorem gd_rot {x y : List (List Wd)} {hand hand' : Nat} {shown : List Sg} (hs : ∀ h : List Nat, h.length = x.length + y.length → (rot x.length h)[hand']? = h[hand]?) (g : Gd (x ++ y) hand none shown) : Gd (y ++ x) hand' none shown := by
  have := Gd.map (notes' := y ++ x) (hand' := hand') (rot x.length) id (fun s h f => ?_) (fun s p h hp f e => ?_) (pv := none) (fun p e => by cases e) g
  · rwa [List.map_id] at this
  · have hl := f.len
    rw [List.length_append] at hl
    have ht : x.length = (h.take x.length).length := by rw [List.length_take]; omega
    have f' : Fit (x ++ y) hand s (h.take x.length ++ h.drop x.length) := by rw [List.take_append_drop]; exact f
    refine fit_app ht f' ?_
    rw [List.take_append_drop]
    exact hs h hl
  · have hl := f.len
    rw [List.length_append] at hl hp
    unfold rot
    rw [leL_app _ _ (by simp; omega)]
    have e' : leL (p.take x.length ++ p.drop x.length) (h.take x.length ++ h.drop x.length) = true := by rw [List.take_append_drop, List.take_append_drop]; exact e
    rw [leL_app _ _ (by simp; omega), Bool.and_eq_true] at e'
    rw [e'.1, e'.2]
    rfl
/-! a hand without words -/
theorem gd_add {notes : List (List Wd)} {hand : Nat} {shown : List Sg} (hh : hand < notes.length) : Gd (notes ++ [[]]) hand none shown ↔ Gd notes hand none shown := by
  constructor
  · intro g
    have := Gd.map (notes' := notes) (hand' := hand) (fun h => h.take notes.length) id (fun s h f => ?_) (fun s p h hp f e => ?_) (pv := none) (fun p e => by cases e) g
    · rwa [List.map_id] at this
    · have hl := f.len
      simp only [List.length_append, List.length_singleton] at hl
      have ht : notes.length = (h.take notes.length).length := by rw [List.length_take]; omega
      have f' : Fit (notes ++ [[]]) hand s (h.take notes.length ++ h.drop notes.length) := by rw [List.take_append_drop]; exact f
      have z : ∀ b, sc b [([] : List Wd)] (h.drop notes.length) = 0 := fun b => by
        cases h.drop notes.length with
        | nil => rfl
        | cons m t => simp [sc, pt]
      refine ⟨⟨by omega, fun p hp => f'.1.2.1 p ?_, ?_⟩, ?_, ?_⟩
      · rw [List.zip_append ht]
        exact List.mem_append_left _ hp
      · rw [List.getElem?_take_of_lt hh]
        exact f.1.2.2
      · have := f'.2.1
        rw [sc_app _ _ _ ht, z] at this
        simp at this ⊢
        exact this
      · have := f'.2.2
        rw [sc_app _ _ _ ht, z] at this
        simp at this ⊢
        exact this
    · have hl := f.len
      simp only [List.length_append, List.length_singleton] at hl hp
      have e' : leL (p.take notes.length ++ p.drop notes.length) (h.take notes.length ++ h.drop notes.length) = true := by rw [List.take_append_drop, List.take_append_drop]; exact e
      rw [leL_app _ _ (by simp; omega), Bool.and_eq_true] at e'
      exact e'.1
  · intro g
    have := Gd.map (notes' := notes ++ [[]]) (hand' := hand) (fun h => h ++ [0]) id (fun s h f => ?_) (fun s p h hp f e => ?_) (pv := none) (fun p e => by cases e) g
    · rwa [List.map_id] at this
    · have hl := f.len
      refine ⟨⟨by simp [hl], fun p hp => ?_, ?_⟩, ?_, ?_⟩
      · rw [List.zip_append hl.symm] at hp
        rcases List.mem_append.mp hp with k | k
        · exact f.1.2.1 p k
        · simp at k
          subst k
          simp
      · rw [List.getElem?_append_left (by omega)]
        exact f.1.2.2
      · rw [sc_app _ _ _ hl.symm]
        simp [sc, pt]
        exact f.2.1
      · rw [sc_app _ _ _ hl.symm]
        simp [sc, pt]
        exact f.2.2
    · rw [leL_app _ _ (by rw [hp, f.len]), e]
      rfl
/-! more words -/
theorem sc_more (b : Bool) : ∀ {x y : List (List Wd)} {h : List Nat}, x.length = y.length → (∀ p ∈ x.zip y, p.1 <+: p.2) → (∀ p ∈ x.zip h, p.2 ≤ p.1.length) → sc b y h = sc b x h
  | [], [], _, _, _, _ => rfl
  | [], _ :: _, _, h, _, _ => by simp at h
  | _ :: _, [], _, h, _, _ => by simp at h
  | a :: x, c :: y, [], _, _, _ => rfl
  | a :: x, c :: y, m :: t, hl, hp, hv => by
    simp only [sc]
    rw [sc_more b (show x.length = y.length by simpa using hl) (fun p k => hp p (by simp [k])) (fun p k => hv p (by simp [k]))]
    obtain ⟨d, hd⟩ := hp (a, c) (by simp)
    have hm := hv (a, m) (by simp)
    simp only at hd hm
    rw [← hd, List.take_append_of_le_length hm]
theorem va_more {hand said : Nat} {x y : List (List Wd)} {h : List Nat} (hl : x.length = y.length) (hp : ∀ p ∈ x.zip y, p.1 <+: p.2) (f : Va x hand said h) : Va y hand said h := by
  refine ⟨by rw [f.1, hl], ?_, f.2.2⟩
  have key : ∀ (x y : List (List Wd)) (h : List Nat), x.length = y.length → (∀ p ∈ x.zip y, p.1 <+: p.2) → (∀ p ∈ x.zip h, p.2 ≤ p.1.length) → ∀ p ∈ y.zip h, p.2 ≤ p.1.length := by
    intro x
    induction x with
    | nil =>
      intro y h hl
      cases y with
      | nil => simp
      | cons c y => simp at hl
    | cons a x ih =>
      intro y h hl hp hv
      cases y with
      | nil => simp at hl
      | cons c y =>
        cases h with
        | nil => simp
        | cons m t =>
          intro p k
          rw [List.zip_cons_cons] at k
          rcases List.mem_cons.mp k with rfl | k
          · have := hv (a, m) (by simp)
            have := (hp (a, c) (by simp)).length_le
            simp only at *
            omega
          · exact ih y t (by simpa using hl) (fun p k => hp p (by simp [k])) (fun p k => hv p (by simp [k])) p k
  exact key x y h hl hp f.2.1
theorem gd_more {x y : List (List Wd)} {hand : Nat} {shown : List Sg} (hl : x.length = y.length) (hp : ∀ p ∈ x.zip y, p.1 <+: p.2) (g : Gd x hand none shown) : Gd y hand none shown := by
  have := Gd.map (notes' := y) (hand' := hand) id id (fun s h f => ⟨va_more hl hp f.1, (sc_more _ hl hp f.1.2.1).trans f.2.1, (sc_more _ hl hp f.1.2.1).trans f.2.2⟩) (fun s p h _ _ e => e) (pv := none) (fun p e => by cases e) g
  rwa [List.map_id] at this
end Sh

namespace G
open PySem L2
/-- a comprehension with a test -/
theorem lcRun_filter {α : Type} {t : Tg} {g : Bool} {cf : List Sl → Option Bool} {ef : List Sl → Option Rs} {δ : List Sl} {f : α → D} {y : α → D} {p : α → Bool} : ∀ (as : List α), (∀ a ∈ as, ∃ δ2, t.run g (f a) δ = some δ2 ∧ cf δ2 = some (p a) ∧ (p a = true → ∃ gy, ef δ2 = some (y a, true, gy))) →
    ∃ gs, lcRun t g cf ef δ (as.map f) = some ((as.filter p).map y, gs)
  | [], _ => ⟨true, rfl⟩
  | a :: as, h => by
    obtain ⟨δ2, h1, h2, h3⟩ := h a List.mem_cons_self
    obtain ⟨gs, e⟩ := lcRun_filter (y := y) (p := p) as fun b hb => h b (List.mem_cons_of_mem _ hb)
    cases hp : p a with
    | false =>
      rw [hp] at h2
      refine ⟨gs, ?_⟩
      simp only [List.map_cons, lcRun, h1, h2, List.filter_cons, hp, Bool.false_eq_true, if_false]
      exact e
    | true =>
      rw [hp] at h2
      obtain ⟨gy, h4⟩ := h3 hp
      refine ⟨gy && gs, ?_⟩
      simp only [List.map_cons, lcRun, h1, h2, h4, e, List.filter_cons, hp, if_true, List.map_cons]
theorem exec_ext_of {Γ : Ga} {i : Nat} {e : E} {δ : List Sl} {ds es : List D} {g g' : Bool} (h1 : δ[i]? = some (.ow ds g)) (h2 : eval Γ e δ = some (.ls es, true, g')) (h3 : ds.length + es.length < 100000) : exec Γ (.ext i e) δ = some (.nx (δ.set i (.ow (ds ++ es) (g && (g' || flats es))))) := by
  unfold exec
  rw [h1]
  dsimp only
  rw [h2]
  dsimp only
  rw [if_pos h3]
theorem exec_app_of {Γ : Ga} {i : Nat} {e : E} {δ : List Sl} {ds : List D} {d : D} {g g' : Bool} (h1 : δ[i]? = some (.ow ds g)) (h2 : eval Γ e δ = some (d, true, g')) (h3 : ds.length < 100000) : exec Γ (.app i e) δ = some (.nx (δ.set i (.ow (ds ++ [d]) (g && (g' || d.flat))))) := by
  unfold exec
  rw [h1]
  dsimp only
  rw [h2]
  dsimp only
  rw [if_pos h3]
theorem exec_asg_of {Γ : Ga} {j : Nat} {e : E} {δ : List Sl} {d : D} {g : Bool} (h2 : eval Γ e δ = some (d, true, g)) : exec Γ (.asg (.nm j) e) δ = some (.nx (δ.set j (.sh d g))) := by
  unfold exec
  rw [h2]
  rfl
theorem exec_own_of {Γ : Ga} {i : Nat} {e : E} {δ : List Sl} {ds : List D} {g : Bool} (n : isNew e = true) (h : eval Γ e δ = some (.ls ds, true, g)) : exec Γ (.own i e) δ = some (.nx (δ.set i (.ow ds g))) := by
  unfold exec
  rw [h]
  simp [slotOf, n]
theorem eval_ite_t {Γ : Ga} {c a b : E} {δ : List Sl} {f g : Bool} (t : isTst c = true) (h : eval Γ c δ = some (.bl true, f, g)) : eval Γ (.ite c a b) δ = eval Γ a δ := by
  conv => lhs; unfold eval
  rw [if_pos t, h]
theorem eval_ite_f {Γ : Ga} {c a b : E} {δ : List Sl} {f g : Bool} (t : isTst c = true) (h : eval Γ c δ = some (.bl false, f, g)) : eval Γ (.ite c a b) δ = eval Γ b δ := by
  conv => lhs; unfold eval
  rw [if_pos t, h]
theorem exec_ite_t {Γ : Ga} {c : E} {a b : S} {δ : List Sl} {f g : Bool} (t : isTst c = true) (h : eval Γ c δ = some (.bl true, f, g)) : exec Γ (.ite c a b) δ = exec Γ a δ := by
  conv => lhs; unfold exec
  rw [if_pos t, h]
theorem exec_ite_f {Γ : Ga} {c : E} {a b : S} {δ : List Sl} {f g : Bool} (t : isTst c = true) (h : eval Γ c δ = some (.bl false, f, g)) : exec Γ (.ite c a b) δ = exec Γ b δ := by
  conv => lhs; unfold exec
  rw [if_pos t, h]
theorem exec_exp_of {Γ : Ga} {e : E} {δ : List Sl} {r : Rs} (h : eval Γ e δ = some r) : exec Γ (.exp e) δ = some (.nx δ) := by
  unfold exec
  rw [h]
theorem exec_ret_of {Γ : Ga} {e : E} {δ : List Sl} {r : Rs} (h : eval Γ e δ = some r) : exec Γ (.ret e) δ = some (.rt r) := by
  unfold exec
  rw [h]
theorem zipD_map {α β : Type} (f : α → D) (k : β → D) : ∀ (xs : List α) (ys : List β), zipD (xs.map f) (ys.map k) = (xs.zip ys).map fun p => .tp [f p.1, k p.2]
  | [], _ => by simp [zipD]
  | _ :: _, [] => by simp [zipD]
  | x :: xs, y :: ys => by simp [zipD, zipD_map f k xs ys]
theorem enumD_map {α : Type} (f : α → D) : ∀ (n : Nat) (xs : List α), enumD n (xs.map f) = (xs.zipIdx n).map fun p => .tp [.int (p.2 : Nat), f p.1]
  | _, [] => rfl
  | n, x :: xs => by simp [enumD, enumD_map f (n + 1) xs, List.zipIdx_cons]
theorem rngD_0 (n : Nat) : rngD 0 n = (List.range n).map fun (k : Nat) => D.int (k : Int) := by
  unfold rngD
  apply List.map_congr_left
  intro k _
  simp
open Sh
/-! ### the notes' data -/
def eW (w : Wd) : D := .tp [.str (if w.1 = true then "point" else "back"), .int (if w.2 = true then 1 else 0)]
def eL (ws : List Wd) : D := .ls (ws.map eW)
def eN (notes : List (List Wd)) : D := .ls (notes.map eL)
def eH (h : List Nat) : D := .ls (h.map fun (m : Nat) => D.int (m : Int))
def eS (s : Sg) : D := .tp [.int (s.said : Int), .int s.a, .int s.b]
structure NOk (notes : List (List Wd)) : Prop where
  l1 : 1 ≤ notes.length
  l3 : notes.length ≤ 3
  w6 : ∀ ws ∈ notes, ws.length ≤ 6
theorem nb_eH (h : List Nat) : (eH h).nb = true := by
  simp only [eH, D.nb, nbs_all]
  simp [D.nb]
theorem nb_eHs (l : List (List Nat)) : (D.ls (l.map eH)).nb = true := by
  simp only [D.nb, nbs_all]
  simp [nb_eH]
theorem okn_eH (n : Nat) (h : List Nat) : okn (n + 1) (eH h) = true := by
  unfold eH
  rw [okn_ls]
  simp [okn_int]
theorem eqv_nil (l : List D) (h : D.nbs l = true) : (D.ls l).eqv (.ls []) = decide (l = []) := by
  rw [Bool.eq_iff_iff, eqv_nb (by simpa only [D.nb] using h) (by rfl)]
  simp
theorem eqv_ii (a b c d : Int) : (D.tp [.int a, .int b]).eqv (.tp [.int c, .int d]) = (decide (a = c) && decide (b = d)) := by
  rw [Bool.eq_iff_iff, eqv_nb (by rfl) (by rfl)]
  simp
/-! the least of pairs -/
def fstI : D → Int
  | .tp (.int a :: _) => a
  | _ => 0
theorem ltD_pr {x y : D} (hx : isPr x = true) (hy : isPr y = true) : (ltD x y = true → fstI x ≤ fstI y) ∧ (ltD x y = false → fstI y ≤ fstI x) := by
  obtain ⟨a, ns, rfl⟩ := isPr_of hx
  obtain ⟨b, ms, rfl⟩ := isPr_of hy
  simp only [fstI]
  by_cases h : a = b
  · subst h
    exact ⟨fun _ => Int.le_refl _, fun _ => Int.le_refl _⟩
  · have e : ltD (.tp [.int a, .ls (ns.map D.int)]) (.tp [.int b, .ls (ms.map D.int)]) = decide (a < b) := by
      unfold ltD
      simp only [D.py, D.pys]
      rw [PySem.W.dataLt_pair (by simp [PySem.W.alike]) (by simp [PySem.W.alike, alike_ints]), PySem.W.dataLt_int]
      simp [PyData.eqv, h]
    rw [e]
    constructor
    · intro k
      have := of_decide_eq_true k
      omega
    · intro k
      have := of_decide_eq_false k
      omega
theorem minF_least : ∀ (xs : List D) (x : D), (∀ d ∈ x :: xs, isPr d = true) → ∀ y ∈ x :: xs, fstI (minF x xs) ≤ fstI y := by
  intro xs
  unfold minF
  induction xs with
  | nil =>
    intro x _ y hy
    simp at hy
    subst hy
    exact Int.le_refl _
  | cons z zs ih =>
    intro x h y hy
    simp only [List.foldl_cons]
    have hx := h x (by simp)
    have hz := h z (by simp)
    have l := ltD_pr hz hx
    cases e : ltD z x with
    | true =>
      rw [if_pos rfl]
      have k := ih z fun d hd => h d (List.mem_cons_of_mem _ hd)
      rcases List.mem_cons.mp hy with rfl | hy
      · exact Int.le_trans (k z (by simp)) (l.1 e)
      · exact k y hy
    | false =>
      rw [if_neg Bool.false_ne_true]
      have k := ih x fun d hd => h d (by
        rcases List.mem_cons.mp hd with rfl | hd
        · simp
        · simp [hd])
      rcases List.mem_cons.mp hy with rfl | hy
      · exact k y (by simp)
      · rcases List.mem_cons.mp hy with rfl | hy
        · exact Int.le_trans (k x (by simp)) (l.2 e)
        · exact k y (by simp [hy])
theorem maxF_most : ∀ (xs : List D) (x : D), (∀ d ∈ x :: xs, isPr d = true) → ∀ y ∈ x :: xs, fstI y ≤ fstI (maxF x xs) := by
  intro xs
  unfold maxF
  induction xs with
  | nil =>
    intro x _ y hy
    simp at hy
    subst hy
    exact Int.le_refl _
  | cons z zs ih =>
    intro x h y hy
    simp only [List.foldl_cons]
    have hx := h x (by simp)
    have hz := h z (by simp)
    have l := ltD_pr hx hz
    cases e : ltD x z with
    | true =>
      rw [if_pos rfl]
      have k := ih z fun d hd => h d (List.mem_cons_of_mem _ hd)
      rcases List.mem_cons.mp hy with rfl | hy
      · exact Int.le_trans (l.1 e) (k z (by simp))
      · exact k y hy
    | false =>
      rw [if_neg Bool.false_ne_true]
      have k := ih x fun d hd => h d (by
        rcases List.mem_cons.mp hd with rfl | hd
        · simp
        · simp [hd])
      rcases List.mem_cons.mp hy with rfl | hy
      · exact k y (by simp)
      · rcases List.mem_cons.mp hy with rfl | hy
        · exact Int.le_trans (l.2 e) (k x (by simp))
        · exact k y (by simp [hy])
end G

namespace R
open PySem L2
/-! ### values, cells, the heap -/
inductive RV where
  | non | bl (b : Bool) | int (i : Int) | lin (c k : Int) (j : Nat) | str (x : Str) | tp (xs : List RV) | rf (n : Nat) | cst (k : Nat) | lm (k : Nat)
inductive RC where
  | lst (xs : List RV) | dic (kvs : List (Key × RV)) | ins (c : Nat) (fs : List (Str × RV)) | scr
inductive Tre where
  | lf | nd (v : Option RC) (l r : Tre)
def Tre.get : Tre → Nat → Option RC
  | .lf, _ => none
  | .nd v l r, n => match n with
    | 0 => v
    | m + 1 => match m % 2 with
      | 0 => l.get (m / 2)
      | _ => r.get (m / 2)
def mkL (v : Option RC) (x r : Tre) : Tre := match x with
  | .lf => .nd v .lf r
  | .nd a b c => .nd v (.nd a b c) r
def mkR (v : Option RC) (l x : Tre) : Tre := match x with
  | .lf => .nd v l .lf
  | .nd a b c => .nd v l (.nd a b c)
theorem mkL_eq (v : Option RC) (x r : Tre) : mkL v x r = .nd v x r := by cases x <;> rfl
theorem mkR_eq (v : Option RC) (l x : Tre) : mkR v l x = .nd v l x := by cases x <;> rfl
def Tre.put : Nat → Tre → Nat → RC → Tre
  | 0, t, _, _ => t
  | d + 1, .lf, n, c => match n with
    | 0 => .nd (some c) .lf .lf
    | m + 1 => match m % 2 with
      | 0 => mkL none (Tre.put d .lf (m / 2) c) .lf
      | _ => mkR none .lf (Tre.put d .lf (m / 2) c)
  | d + 1, .nd v l r, n, c => match n with
    | 0 => .nd (some c) l r
    | m + 1 => match m % 2 with
      | 0 => mkL v (Tre.put d l (m / 2) c) r
      | _ => mkR v l (Tre.put d r (m / 2) c)
theorem mod2_cases (m : Nat) : m % 2 = 0 ∨ m % 2 = 1 := by omega
theorem get_same : ∀ (d : Nat) (t : Tre) (n : Nat) (c : RC), n + 1 < 2 ^ d → (Tre.put d t n c).get n = some c
  | 0, t, n, c, h => by simp at h
  | d + 1, .lf, 0, c, h => rfl
  | d + 1, .lf, m + 1, c, h => by
    have h2 : m / 2 + 1 < 2 ^ d := by rw [Nat.pow_succ] at h; omega
    rcases mod2_cases m with e | e <;> simp only [Tre.put, e, mkL_eq, mkR_eq, Tre.get] <;> exact get_same d _ _ c h2
  | d + 1, .nd v l r, 0, c, h => rfl
  | d + 1, .nd v l r, m + 1, c, h => by
    have h2 : m / 2 + 1 < 2 ^ d := by rw [Nat.pow_succ] at h; omega
    rcases mod2_cases m with e | e <;> simp only [Tre.put, e, mkL_eq, mkR_eq, Tre.get] <;> exact get_same d _ _ c h2
theorem get_lf (k : Nat) : Tre.get .lf k = none := rfl
theorem get_ne : ∀ (d : Nat) (t : Tre) (n k : Nat) (c : RC), k ≠ n → (Tre.put d t n c).get k = t.get k
  | 0, t, n, k, c, h => rfl
  | d + 1, .lf, 0, 0, c, h => absurd rfl h
  | d + 1, .lf, 0, k + 1, c, h => by
    rcases mod2_cases k with e | e <;> simp only [Tre.put, e, Tre.get]
  | d + 1, .lf, m + 1, 0, c, h => by
    rcases mod2_cases m with e | e <;> simp only [Tre.put, e, mkL_eq, mkR_eq, Tre.get]
  | d + 1, .lf, m + 1, k + 1, c, h => by
    rcases mod2_cases m with e | e <;> rcases mod2_cases k with e' | e' <;> simp only [Tre.put, e, e', mkL_eq, mkR_eq, Tre.get]
    · rw [get_ne d .lf (m / 2) (k / 2) c (by omega)]; rfl
    · rw [get_ne d .lf (m / 2) (k / 2) c (by omega)]; rfl
  | d + 1, .nd v l r, 0, 0, c, h => absurd rfl h
  | d + 1, .nd v l r, 0, k + 1, c, h => by
    rcases mod2_cases k with e | e <;> simp only [Tre.put, e, Tre.get]
  | d + 1, .nd v l r, m + 1, 0, c, h => by
    rcases mod2_cases m with e | e <;> simp only [Tre.put, e, mkL_eq, mkR_eq, Tre.get]
  | d + 1, .nd v l r, m + 1, k + 1, c, h => by
    rcases mod2_cases m with e | e <;> rcases mod2_cases k with e' | e' <;> simp only [Tre.put, e, e', mkL_eq, mkR_eq, Tre.get]
    · rw [get_ne d l (m / 2) (k / 2) c (by omega)]
    · rw [get_ne d r (m / 2) (k / 2) c (by omega)]
structure Hs where
  n : Nat
  t : Tre
def Hs.get (h : Hs) (i : Nat) : Option RC := h.t.get i
def Hs.put (h : Hs) (i : Nat) (c : RC) : Hs := ⟨h.n, h.t.put 22 i c⟩
def Hs.new (h : Hs) (c : RC) : Option Hs := if h.n < 4000000 then some ⟨h.n + 1, h.t.put 22 h.n c⟩ else none

/-! ### what they stand for -/
/-- a lambda's words -/
structure LmD where
  q : Str
  params : Arguments
  body : Expr
  scope : Scope
/-- the object at f is that lambda, its code object at c -/
def LmO (f : Addr) (D : LmD) (c : Addr) : HO := .ext fun h => ∃ (od : Option Addr) (sl : Array (Option Value)) (pm ctv : Value), h.get? f = some (⟨.type "function", od, .func (PySem.W.kla_fn "<lambda>" D.q D.params D.body D.scope [] pm (.ref c) ctv), sl⟩ : Obj)
structure Cf where
  K : PySem.W.Frag
  w : World
  Cl : Nat → Addr
  kv : Nat → V
  T : List (Addr × Str)
  ρ : Nat → Int
  ns : List Int
  lm : Nat → LmD
mutual
def Vr (C : Cf) (α : Nat → Addr) (n : Nat) (H : Hp) : RV → V → Prop
  | .non, v => v = .non
  | .bl b, v => v = .bl b
  | .int i, v => v = .int i
  | .lin c k j, v => v = .int (c + k * C.ρ j)
  | .str x, v => v = .str x
  | .tp xs, v => ∃ a ys, v = .ref a ∧ SqT C.K H a ys ∧ Vrs C α n H xs ys
  | .rf i, v => v = .ref (α i) ∧ i < n
  | .cst k, v => v = C.kv k
  | .lm k, v => ∃ f c', v = .ref f ∧ H f = some (LmO f (C.lm k) c') ∧ H c' = some (LamX.CodeO c' (C.lm k).q)
def Vrs (C : Cf) (α : Nat → Addr) (n : Nat) (H : Hp) : List RV → List V → Prop
  | [], vs => vs = []
  | x :: xs, vs => ∃ v r, vs = v :: r ∧ Vr C α n H x v ∧ Vrs C α n H xs r
end
def CellR (C : Cf) (α : Nat → Addr) (n : Nat) (H : Hp) : RC → HO → Prop
  | .lst xs, o => ∃ ys, o = .lst ys ∧ Vrs C α n H xs ys
  | .dic kvs, o => ∃ ys, o = .dK ((kvs.map (·.1)).zip ys) ∧ Vrs C α n H (kvs.map (·.2)) ys
  | .ins c fs, o => ∃ dx ys, o = .ins (C.Cl c) dx ((fs.map (·.1)).zip ys) ∧ Vrs C α n H (fs.map (·.2)) ys
  | .scr, o => o = .lst (C.ns.map V.int)
/-- own cells are lists, dicts, instances -/
def Own : HO → Prop
  | .lst _ => True | .dK _ => True | .ins _ _ _ => True | _ => False
theorem CellR.own {C : Cf} {α : Nat → Addr} {n : Nat} {H : Hp} {c : RC} {o : HO} (h : CellR C α n H c o) : Own o := by
  cases c with
  | lst xs => obtain ⟨_, rfl, _⟩ := h; trivial
  | dic xs => obtain ⟨_, rfl, _⟩ := h; trivial
  | ins c xs => obtain ⟨_, _, rfl, _⟩ := h; trivial
  | scr => obtain rfl : o = _ := h; trivial
structure Sim (C : Cf) (α : Nat → Addr) (h : Hs) (H : Hp) : Prop where
  cel : ∀ i c, h.get i = some c → ∃ o, H (α i) = some o ∧ CellR C α h.n H c o
  all : ∀ i, i < h.n → ∃ c, h.get i = some c
  top : ∀ i, h.n ≤ i → h.get i = none
  inj : ∀ i j, i < h.n → j < h.n → α i = α j → i = j
  bnd : h.n ≤ 4000000
  tab : LamX.Tabs C.T H
structure Ev (n n' : Nat) (α α' : Nat → Addr) (H H' : Hp) : Prop where
  le : n ≤ n'
  ag : ∀ i, i < n → α' i = α i
  fr : ∀ b o, H b = some o → (∀ ps, o ≠ .tbl ps) → (∀ i, i < n → b ≠ α i) → H' b = some o
  nw : ∀ i, n ≤ i → i < n' → ∀ o, H (α' i) = some o → ∃ ps, o = .tbl ps
theorem Ev.refl {n : Nat} {α : Nat → Addr} {H : Hp} : Ev n n α α H H := ⟨Nat.le_refl _, fun _ _ => rfl, fun _ _ h _ _ => h, fun i h1 h2 => by omega⟩
theorem Ev.trans {n n' n2 : Nat} {α α' α2 : Nat → Addr} {H H' H2 : Hp} (a : Ev n n' α α' H H') (b : Ev n' n2 α' α2 H' H2) (inj : ∀ i j, i < n2 → j < n2 → α2 i = α2 j → i = j) : Ev n n2 α α2 H H2 := by
  refine ⟨Nat.le_trans a.le b.le, fun i hi => ?_, fun c o h1 h2 h3 => ?_, fun i h1 h2 o ho => ?_⟩
  · rw [b.ag i (Nat.lt_of_lt_of_le hi a.le), a.ag i hi]
  · refine b.fr c o (a.fr c o h1 h2 h3) h2 fun i hi z => ?_
    by_cases hin : i < n
    · exact h3 i hin (by rw [z, a.ag i hin])
    · obtain ⟨ps, e⟩ := a.nw i (by omega) hi o (by rw [← z]; exact h1)
      exact h2 ps e
  · by_cases hin : i < n'
    · exact a.nw i h1 hin o (by rw [← b.ag i hin]; exact ho)
    · cases o with
      | tbl ps => exact ⟨ps, rfl⟩
      | _ =>
        refine b.nw i (by omega) h2 _ (a.fr _ _ ho (fun ps => by simp) fun j hj z => ?_)
        have := inj i j h2 (by have := a.le; have := b.le; omega) (by rw [z, b.ag j (Nat.lt_of_lt_of_le hj a.le), a.ag j hj])
        omega
section
variable {C : Cf} {α α' : Nat → Addr} {h h' : Hs} {H H' : Hp} {n n' : Nat}
theorem vr_int {i : Int} {v : V} : Vr C α n H (.int i) v ↔ v = .int i := by simp only [Vr]
theorem vr_lin {c k : Int} {j : Nat} {v : V} : Vr C α n H (.lin c k j) v ↔ v = .int (c + k * C.ρ j) := by simp only [Vr]
theorem vr_bl {i : Bool} {v : V} : Vr C α n H (.bl i) v ↔ v = .bl i := by simp only [Vr]
theorem vr_str {i : Str} {v : V} : Vr C α n H (.str i) v ↔ v = .str i := by simp only [Vr]
theorem vr_non {v : V} : Vr C α n H .non v ↔ v = .non := by simp only [Vr]
theorem vr_cst {k : Nat} {v : V} : Vr C α n H (.cst k) v ↔ v = C.kv k := by simp only [Vr]
theorem vr_lm {k : Nat} {v : V} : Vr C α n H (.lm k) v ↔ ∃ f c', v = .ref f ∧ H f = some (LmO f (C.lm k) c') ∧ H c' = some (LamX.CodeO c' (C.lm k).q) := by simp only [Vr]
theorem vr_rf {i : Nat} {v : V} : Vr C α n H (.rf i) v ↔ v = .ref (α i) ∧ i < n := by simp only [Vr]
theorem vr_tp {xs : List RV} {v : V} : Vr C α n H (.tp xs) v ↔ ∃ a ys, v = .ref a ∧ SqT C.K H a ys ∧ Vrs C α n H xs ys := by simp only [Vr]
theorem vrs_nil {vs : List V} : Vrs C α n H [] vs ↔ vs = [] := by simp only [Vrs]
theorem vrs_cons {x : RV} {xs : List RV} {vs : List V} : Vrs C α n H (x :: xs) vs ↔ ∃ v r, vs = v :: r ∧ Vr C α n H x v ∧ Vrs C α n H xs r := by simp only [Vrs]
/-- what is kept of a tuple -/
def Kp (H H' : Hp) : Prop := (∀ a ys, Rd H a (.tup ys) → Rd H' a (.tup ys)) ∧ ∀ a g, H a = some (.ext g) → H' a = some (.ext g)
theorem sqt_kp {K : PySem.W.Frag} {a : Addr} {xs : List V} (e : Kp H H') (s : SqT K H a xs) : SqT K H' a xs := by
  rcases s with s | s
  · exact .inl (e.1 a xs s)
  · exact .inr s
mutual
theorem Vr.move (e : Kp H H') (le : n ≤ n') (ag : ∀ i, i < n → α' i = α i) : ∀ {x : RV} {v : V}, Vr C α n H x v → Vr C α' n' H' x v
  | .non, _, h => by simpa only [Vr] using h
  | .bl _, _, h => by simpa only [Vr] using h
  | .int _, _, h => by simpa only [Vr] using h
  | .lin _ _ _, _, h => by simpa only [Vr] using h
  | .str _, _, h => by simpa only [Vr] using h
  | .cst _, _, h => by simpa only [Vr] using h
  | .lm k, v, h => by
    rw [vr_lm] at h ⊢
    obtain ⟨f, c', h1, h2, h3⟩ := h
    exact ⟨f, c', h1, e.2 _ _ h2, e.2 _ _ h3⟩
  | .rf i, v, h => by
    rw [vr_rf] at h ⊢
    exact ⟨by rw [ag i h.2]; exact h.1, Nat.lt_of_lt_of_le h.2 le⟩
  | .tp xs, v, h => by
    rw [vr_tp] at h ⊢
    obtain ⟨a, ys, h1, h2, h3⟩ := h
    exact ⟨a, ys, h1, sqt_kp e h2, Vrs.move e le ag h3⟩
theorem Vrs.move (e : Kp H H') (le : n ≤ n') (ag : ∀ i, i < n → α' i = α i) : ∀ {xs : List RV} {vs : List V}, Vrs C α n H xs vs → Vrs C α' n' H' xs vs
  | [], _, h => by simpa only [Vrs] using h
  | x :: xs, vs, h => by
    rw [vrs_cons] at h ⊢
    obtain ⟨v, r, h1, h2, h3⟩ := h
    exact ⟨v, r, h1, Vr.move e le ag h2, Vrs.move e le ag h3⟩
end
theorem CellR.move (e : Kp H H') (le : n ≤ n') (ag : ∀ i, i < n → α' i = α i) {c : RC} {o : HO} (r : CellR C α n H c o) : CellR C α' n' H' c o := by
  cases c with
  | lst xs => obtain ⟨ys, e1, e2⟩ := r; exact ⟨ys, e1, e2.move e le ag⟩
  | dic xs => obtain ⟨ys, e1, e2⟩ := r; exact ⟨ys, e1, e2.move e le ag⟩
  | ins c xs => obtain ⟨dx, ys, e1, e2⟩ := r; exact ⟨dx, ys, e1, e2.move e le ag⟩
  | scr => exact r
/-- own addresses hold no tuple -/
theorem Sim.ntup (S : Sim C α h H) {i : Nat} (hi : i < h.n) {o : HO} (e : H (α i) = some o) : Own o := by
  obtain ⟨c, hc⟩ := S.all i hi
  obtain ⟨o', e', r⟩ := S.cel i c hc
  rw [e] at e'
  cases e'
  exact r.own
theorem Sim.kp (S : Sim C α h H) (e : Ev h.n n' α α' H H') : Kp H H' := by
  refine ⟨?_, fun a g k => e.fr a _ k (fun ps => by simp) fun i hi z => by
    rw [z] at k
    exact (S.ntup hi k).elim⟩
  rintro a ys (k | ⟨o, k⟩)
  · exact .inl (e.fr a _ k (fun ps => by simp) fun i hi z => by
      rw [z] at k
      exact (S.ntup hi k).elim)
  · exact .inr ⟨o, e.fr a _ k (fun ps => by simp) fun i hi z => by
      rw [z] at k
      exact (S.ntup hi k).elim⟩
theorem Sim.vr (S : Sim C α h H) (e : Ev h.n n' α α' H H') {x : RV} {v : V} (r : Vr C α h.n H x v) : Vr C α' n' H' x v := r.move (S.kp e) e.le e.ag
theorem Sim.vrs (S : Sim C α h H) (e : Ev h.n n' α α' H H') {x : List RV} {v : List V} (r : Vrs C α h.n H x v) : Vrs C α' n' H' x v := r.move (S.kp e) e.le e.ag
theorem Vrs.len : ∀ {xs : List RV} {vs : List V}, Vrs C α n H xs vs → vs.length = xs.length
  | [], _, h => by rw [vrs_nil] at h; rw [h]; rfl
  | x :: xs, vs, h => by
    rw [vrs_cons] at h
    obtain ⟨v, r, rfl, _, h3⟩ := h
    simp [Vrs.len h3]
theorem Vrs.get : ∀ {xs : List RV} {vs : List V} {i : Nat} {x : RV}, Vrs C α n H xs vs → xs[i]? = some x → ∃ v, vs[i]? = some v ∧ Vr C α n H x v
  | [], _, _, _, _, e => by simp at e
  | d :: ds, vs, i, d', h, e => by
    rw [vrs_cons] at h
    obtain ⟨v, r, rfl, h2, h3⟩ := h
    cases i with
    | zero => simp at e; subst e; exact ⟨v, rfl, h2⟩
    | succ i =>
      obtain ⟨w, e1, e2⟩ := Vrs.get (i := i) h3 (by simpa using e)
      exact ⟨w, by simpa using e1, e2⟩
theorem Vrs.nil : Vrs C α n H [] [] := by simp [Vrs]
theorem Vrs.cons {d : RV} {v : V} {ds : List RV} {vs : List V} (h : Vr C α n H d v) (k : Vrs C α n H ds vs) : Vrs C α n H (d :: ds) (v :: vs) := by
  rw [vrs_cons]
  exact ⟨_, _, rfl, h, k⟩
theorem Vrs.one {d : RV} {v : V} (h : Vr C α n H d v) : Vrs C α n H [d] [v] := .cons h .nil
theorem Vrs.app : ∀ {ds es : List RV} {vs ws : List V}, Vrs C α n H ds vs → Vrs C α n H es ws → Vrs C α n H (ds ++ es) (vs ++ ws)
  | [], _, _, _, h, k => by
    rw [vrs_nil] at h
    subst h
    exact k
  | d :: ds, es, vs, ws, h, k => by
    rw [vrs_cons] at h
    obtain ⟨v, r, rfl, h2, h3⟩ := h
    exact .cons h2 (Vrs.app h3 k)
theorem Vrs.drop : ∀ (m : Nat) {ds : List RV} {vs : List V}, Vrs C α n H ds vs → Vrs C α n H (ds.drop m) (vs.drop m)
  | 0, _, _, h => h
  | m + 1, [], vs, h => by
    rw [vrs_nil] at h
    subst h
    simp [Vrs]
  | m + 1, d :: ds, vs, h => by
    rw [vrs_cons] at h
    obtain ⟨v, r, rfl, h2, h3⟩ := h
    exact Vrs.drop m h3
theorem Vrs.take : ∀ (m : Nat) {ds : List RV} {vs : List V}, Vrs C α n H ds vs → Vrs C α n H (ds.take m) (vs.take m)
  | 0, _, _, h => by simp [Vrs]
  | m + 1, [], vs, h => by
    rw [vrs_nil] at h
    subst h
    simp [Vrs]
  | m + 1, d :: ds, vs, h => by
    rw [vrs_cons] at h
    obtain ⟨v, r, rfl, h2, h3⟩ := h
    exact .cons h2 (Vrs.take m h3)
theorem Vrs.set : ∀ (j : Nat) {ds : List RV} {vs : List V} {d : RV} {v : V}, Vrs C α n H ds vs → Vr C α n H d v → Vrs C α n H (ds.set j d) (vs.set j v)
  | _, [], vs, _, _, h, _ => by
    rw [vrs_nil] at h
    subst h
    simp [Vrs]
  | 0, d :: ds, vs, _, _, h, k => by
    rw [vrs_cons] at h
    obtain ⟨v, r, rfl, h2, h3⟩ := h
    exact .cons k h3
  | j + 1, d :: ds, vs, _, _, h, k => by
    rw [vrs_cons] at h
    obtain ⟨v, r, rfl, h2, h3⟩ := h
    exact .cons h2 (Vrs.set j h3 k)
theorem Vrs.rev : ∀ {ds : List RV} {vs : List V}, Vrs C α n H ds vs → Vrs C α n H ds.reverse vs.reverse
  | [], _, h => by
    rw [vrs_nil] at h
    subst h
    exact .nil
  | d :: ds, vs, h => by
    rw [vrs_cons] at h
    obtain ⟨v, r, rfl, h2, h3⟩ := h
    rw [List.reverse_cons, List.reverse_cons]
    exact (Vrs.rev h3).app (.one h2)
theorem Vrs.rep {ds : List RV} {vs : List V} (r : Vrs C α n H ds vs) : ∀ k : Nat, Vrs C α n H (List.replicate k ds).flatten (List.replicate k vs).flatten
  | 0 => by simp [Vrs]
  | k + 1 => by
    rw [List.replicate_succ, List.replicate_succ, List.flatten_cons, List.flatten_cons]
    exact r.app (Vrs.rep r k)
theorem Vrs.dropLast {ds : List RV} {vs : List V} (r : Vrs C α n H ds vs) : Vrs C α n H ds.dropLast vs.dropLast := by
  rw [List.dropLast_eq_take, List.dropLast_eq_take, r.len]
  exact r.take _
/-! ### steps of the heap -/
theorem tabs_kp {T : List (Addr × Str)} (t : LamX.Tabs T H) (e : ∀ b o, H b = some o → (∀ u, o = .tbl u → H' b = some o) ∧ (∀ q, o = LamX.CodeO b q → H' b = some o)) : LamX.Tabs T H' := by
  intro p hp
  obtain ⟨ps, h1, h2, h3⟩ := t p hp
  refine ⟨ps, (e _ _ h1).1 _ rfl, h2, fun pos cv hc => ?_⟩
  obtain ⟨c, e1, e2⟩ := h3 pos cv hc
  exact ⟨c, e1, (e _ _ e2).2 _ rfl⟩
theorem codeO_own {c : Addr} {q : Str} : ¬ Own (LamX.CodeO c q) := by unfold LamX.CodeO; simp [Own]
/-- a new cell beside -/
theorem Sim.side (S : Sim C α h H) {p : Addr} {o : HO} (hp : H p = none) : Sim C α h (upd H p o) ∧ Ev h.n h.n α α H (upd H p o) := by
  have ex : ∀ b u, H b = some u → upd H p o b = some u := fun b u e => by rw [upd_ne (ne_of_none e hp)]; exact e
  have ev : Ev h.n h.n α α H (upd H p o) := ⟨Nat.le_refl _, fun _ _ => rfl, fun b u e _ _ => ex b u e, fun i h1 h2 => by omega⟩
  refine ⟨⟨fun i c hc => ?_, S.all, S.top, S.inj, S.bnd, S.tab.ext ex⟩, ev⟩
  obtain ⟨u, e, r⟩ := S.cel i c hc
  exact ⟨u, ex _ _ e, r.move (S.kp ev) (Nat.le_refl _) fun _ _ => rfl⟩
def ext (α : Nat → Addr) (n : Nat) (p : Addr) : Nat → Addr := fun i => if i = n then p else α i
theorem ext_at {α : Nat → Addr} {n : Nat} {p : Addr} : ext α n p n = p := if_pos rfl
theorem ext_lt {α : Nat → Addr} {n i : Nat} {p : Addr} (hi : i < n) : ext α n p i = α i := if_neg (by omega)
/-- a cell that stands beside comes to the own ones -/
theorem Sim.take {H0 : Hp} (S : Sim C α h H) {p : Addr} {o : HO} {c : RC} (hp : H p = some o) (hq : ∀ i, i < h.n → α i ≠ p) (r : CellR C α h.n H c o) (e : h.new c = some h') : Sim C (ext α h.n p) h' H ∧ h'.n = h.n + 1 := by
  unfold Hs.new at e
  split at e
  · rename_i hb
    cases e
    have ag : ∀ i, i < h.n → ext α h.n p i = α i := fun i hi => ext_lt hi
    have kk : Kp H H := ⟨fun _ _ k => k, fun _ _ k => k⟩
    refine ⟨⟨fun i c' hc => ?_, fun i hi => ?_, fun i hi => ?_, fun i j hi hj z => ?_, by show h.n + 1 ≤ _; omega, S.tab⟩, rfl⟩
    · have hc : (h.t.put 22 h.n c).get i = some c' := hc
      by_cases hi : i = h.n
      · subst hi
        rw [get_same 22 _ _ _ (by omega)] at hc
        cases hc
        exact ⟨o, by rw [ext_at]; exact hp, r.move kk (by show h.n ≤ h.n + 1; omega) ag⟩
      · rw [get_ne 22 _ _ _ _ hi] at hc
        obtain ⟨u, e1, e2⟩ := S.cel i c' hc
        have hlt : i < h.n := by
          refine Nat.lt_of_not_le fun z => ?_
          have := S.top i z
          rw [show h.get i = some c' from hc] at this
          cases this
        exact ⟨u, by rw [ext_lt hlt]; exact e1, e2.move kk (by show h.n ≤ h.n + 1; omega) ag⟩
    · have hi : i < h.n + 1 := hi
      show ∃ c', (h.t.put 22 h.n c).get i = some c'
      by_cases hn : i = h.n
      · subst hn
        exact ⟨c, get_same 22 _ _ _ (by omega)⟩
      · rw [get_ne 22 _ _ _ _ hn]
        exact S.all i (by omega)
    · have hi : h.n + 1 ≤ i := hi
      show (h.t.put 22 h.n c).get i = none
      rw [get_ne 22 _ _ _ _ (by omega)]
      exact S.top i (by omega)
    · have hi : i < h.n + 1 := hi
      have hj : j < h.n + 1 := hj
      by_cases ei : i = h.n
      · by_cases ej : j = h.n
        · omega
        · subst ei
          rw [ext_at, ext_lt (by omega)] at z
          exact absurd z.symm (hq j (by omega))
      · by_cases ej : j = h.n
        · subst ej
          rw [ext_at, ext_lt (by omega)] at z
          exact absurd z (hq i (by omega))
        · rw [ext_lt (by omega), ext_lt (by omega)] at z
          exact S.inj i j (by omega) (by omega) z
  · cases e
theorem Sim.fresh (S : Sim C α h H) {p : Addr} (hp : H p = none) {i : Nat} (hi : i < h.n) : α i ≠ p := fun z => by
  obtain ⟨c, hc⟩ := S.all i hi
  obtain ⟨o, e, _⟩ := S.cel i c hc
  rw [z, hp] at e
  cases e
/-- a new own cell -/
theorem Sim.alloc (S : Sim C α h H) {p : Addr} {o : HO} {c : RC} (hp : H p = none) (r : CellR C α h.n H c o) (e : h.new c = some h') : Sim C (ext α h.n p) h' (upd H p o) ∧ Ev h.n h'.n α (ext α h.n p) H (upd H p o) ∧ h'.n = h.n + 1 := by
  obtain ⟨S1, e1⟩ := S.side (o := o) hp
  obtain ⟨S2, e2⟩ := S1.take (H0 := H) upd_same (fun i hi => S.fresh hp hi) (r.move (S.kp e1) (Nat.le_refl _) fun _ _ => rfl) e
  refine ⟨S2, ⟨by omega, fun i hi => ext_lt hi, fun b u k _ _ => by rw [upd_ne (ne_of_none k hp)]; exact k, fun i h1 h2 u k => ?_⟩, e2⟩
  have : i = h.n := by omega
  subst this
  rw [ext_at, hp] at k
  cases k
/-- an own cell is stored anew -/
theorem Sim.store (S : Sim C α h H) {i : Nat} {c : RC} {o : HO} (hi : i < h.n) (r : CellR C α h.n H c o) : Sim C α (h.put i c) (upd H (α i) o) ∧ Ev h.n h.n α α H (upd H (α i) o) := by
  have ev : Ev h.n h.n α α H (upd H (α i) o) := ⟨Nat.le_refl _, fun _ _ => rfl, fun b u e _ k => by rw [upd_ne (k i hi)]; exact e, fun j h1 h2 => by omega⟩
  have kk := S.kp ev
  have hb := S.bnd
  refine ⟨⟨fun j c' hc => ?_, fun j hj => ?_, fun j hj => ?_, S.inj, S.bnd, tabs_kp S.tab fun b u hu => ?_⟩, ev⟩
  · have hc : (h.t.put 22 i c).get j = some c' := hc
    by_cases hj : j = i
    · subst hj
      rw [get_same 22 _ _ _ (by omega)] at hc
      cases hc
      exact ⟨o, upd_same, r.move kk (Nat.le_refl _) fun _ _ => rfl⟩
    · rw [get_ne 22 _ _ _ _ hj] at hc
      obtain ⟨u, e1, e2⟩ := S.cel j c' hc
      have hlt : j < h.n := by
        refine Nat.lt_of_not_le fun z => ?_
        have := S.top j z
        rw [show h.get j = some c' from hc] at this
        cases this
      exact ⟨u, by rw [upd_ne (fun z => hj (S.inj j i hlt hi z))]; exact e1, e2.move kk (Nat.le_refl _) fun _ _ => rfl⟩
  · have hj : j < h.n := hj
    show ∃ c', (h.t.put 22 i c).get j = some c'
    by_cases hn : j = i
    · subst hn
      exact ⟨c, get_same 22 _ _ _ (by omega)⟩
    · rw [get_ne 22 _ _ _ _ hn]
      exact S.all j hj
  · have hj : h.n ≤ j := hj
    show (h.t.put 22 i c).get j = none
    rw [get_ne 22 _ _ _ _ (by omega)]
    exact S.top j hj
  · refine ⟨fun v e => ?_, fun q e => ?_⟩
    · rw [upd_ne]
      · exact hu
      · intro z
        rw [z] at hu
        have := S.ntup hi hu
        rw [e] at this
        exact this
    · rw [upd_ne]
      · exact hu
      · intro z
        have hu2 := hu
        rw [z] at hu2
        have := S.ntup hi hu2
        rw [e] at this
        exact codeO_own this
theorem Sim.lt (S : Sim C α h H) {i : Nat} {c : RC} (hc : h.get i = some c) : i < h.n := by
  refine Nat.lt_of_not_le fun z => ?_
  rw [S.top i z] at hc
  cases hc
end
end R

/-! a lambda with parameters and no captured name, kept as a value -/
namespace R
open PySem PySem.Spec PyProof.Rows L2 LamX NdefX
theorem lmO_at {P : Program} {w : World} {H : Hp} {h : Heap} {f c : Addr} {D : LmD} (hok : HOk P w H h) (e : H f = some (LmO f D c)) : ∃ (od : Option Addr) (sl : Array (Option Value)) (pm ctv : Value), h.get? f = some (⟨.type "function", od, .func (PySem.W.kla_fn "<lambda>" D.q D.params D.body D.scope [] pm (.ref c) ctv), sl⟩ : Obj) := by
  obtain ⟨z, _, _⟩ := hok f _ e
  exact z
def LmD.nf (D : LmD) (c : Addr) : NF := ⟨"<lambda>", D.q, D.params, [], D.scope, [], c⟩
theorem clo_nil {cells : List (Str × Addr)} : ∀ {names : List (Str × NameKind)}, (∀ y ∈ names, y.2 ≠ .free) → cloFrom cells names [] = []
  | [], _ => rfl
  | (n, k) :: r, h => by
    unfold cloFrom
    rw [if_neg (by
      intro z
      exact h (n, k) (.head _) (by simpa using z))]
    exact clo_nil fun y hy => h y (.tail _ hy)
section
variable {X : Cx} {pins : List (Addr × Obj)} {σ : L2.St} {H : Hp} {s : Shared}
theorem inv_lm {D : LmD} {c : Addr} {t' : Nat} {pm ctv : Value} (I : Inv X pins σ H s) :
    Inv X pins σ (upd H s.heap.objs.size (LmO s.heap.objs.size D c)) { s with heap := s.heap.push (PySem.W.kla_obj "<lambda>" D.q D.params D.body D.scope [] pm c ctv), toks := t' } := by
  refine I.laid (a := s.heap.objs.size) (fun b u e => Heap.get?_push_of_some _ e) (Nat.le_refl _) ?_
  have e : (s.heap.push (PySem.W.kla_obj "<lambda>" D.q D.params D.body D.scope [] pm c ctv)).get? s.heap.objs.size = some (PySem.W.kla_obj "<lambda>" D.q D.params D.body D.scope [] pm c ctv) := Heap.get?_push_size _ rfl
  exact ⟨⟨_, _, pm, ctv, e⟩, ⟨_, e⟩, fun h1 h2 ⟨od, sl, p, t, z⟩ st => ⟨od, sl, p, t, st _ z⟩⟩
/-- the reading of a lambda -/
def tLamV (T : List (Addr × Str)) (D : LmD) : TE := fun _ H Q => Tabs T H ∧ ∀ (f c' : Addr) (H1 : Hp), ExtN H H1 → Tabs T H1 → H f = none → H1 f = some (LmO f D c') → H1 c' = some (CodeO c' D.q) → Q (.ref f) H1
theorem pe_lamv {T : List (Addr × Str)} {c P : Addr} {params : Arguments} {body : Expr} {scope : Scope} {pos : Pos} (TB : TabB X.base X.mg c P) (hcode : X.env.code = .ref c)
    (hm : (P, X.env.qual ++ "<lambda>") ∈ T) (hu : ∀ p ∈ T, p.1 = P → p.2 = X.env.qual ++ "<lambda>") (hdef : defaultsOf params X.env = ([], [])) (hno : ∀ y ∈ scope.names, y.2 ≠ .free) :
    PE X (.Lambda params body scope pos) (tLamV T ⟨X.env.qual ++ "<lambda>", params, body, scope⟩) := by
  refine ⟨fun pins s σ H Q I h => ?_⟩
  obtain ⟨hT, h⟩ := h
  obtain ⟨ps, hP, ht, ha⟩ := hT _ hm
  refine PySem.W.kla_eval hdef ?_
  have bP : s.heap.BuiltinsAt X.mg P := TB.bm.keeps I.bk
  have hP' : s.heap.get? P = some { cls := .none, data := .fields ps } := I.hok P _ hP
  have hfree : ∀ y ∈ scope.names, y.2 = .free → ∃ c, X.env.cells.lookup y.1 = some c := fun y hy e => absurd e (hno y hy)
  have hcl : closureFor scope X.env = pure [] := by
    rw [← clo_nil (cells := X.env.cells) hno]
    exact closure_ok hfree
  cases hc : codeAmong pos ps.toList with
  | none =>
    refine PySem.W.kla_makeFunction (mg := X.mg) (c := c) (P := P) (ps := ps) hcl I.ok.glob (I.mod.glob.keeps I.bk) hcode (TB.code.keeps I.bk) hP' ht hc TB.gP bP fun c' ctv h' tk hx hge hlt hrec htb => ?_
    obtain ⟨c2, oc, vs, t, e2, hoc, hd, hv⟩ := hrec
    cases e2
    have nC : H c' = none := I.hok.fresh hge
    have I1 := inv_table (t' := tk) (more := #[rawInt pos.line, rawInt pos.col, .ref c']) (h' := h') I hP (fun b o hb e => hx b o hb e) htb hge ⟨oc, vs, t, hoc, hd, hv⟩
    have hE : ExtN H (upd (upd H P (.tbl (ps ++ #[rawInt pos.line, rawInt pos.col, .ref c']))) c' (CodeO c' (X.env.qual ++ "<lambda>"))) := fun b o e n => by
      rw [upd_ne (ne_of_none e nC), upd_ne (fun z => n ps (Option.some.inj (e.symm.trans (by rw [z]; exact hP))))]
      exact e
    have eL : (ps ++ #[rawInt pos.line, rawInt pos.col, .ref c']).toList = ps.toList ++ [rawInt pos.line, rawInt pos.col, .ref c'] := by simp
    have T1 : Tabs T (upd (upd H P (.tbl (ps ++ #[rawInt pos.line, rawInt pos.col, .ref c']))) c' (CodeO c' (X.env.qual ++ "<lambda>"))) := fun p hp => by
      by_cases hb : p.1 = P
      · rw [hu p hp hb, hb]
        refine ⟨_, by rw [upd_ne (ne_of_none hP nC), upd_same], by rw [eL]; exact PySem.TriplesOk_snoc _ _ _ _ ht, fun p' cv hcv => ?_⟩
        rw [eL] at hcv
        rcases among_app _ ht hcv with z | z
        · obtain ⟨c0, e1, e2⟩ := ha p' cv z
          exact ⟨c0, e1, hE _ _ e2 codeO_ne⟩
        · exact ⟨c', z, upd_same⟩
      · obtain ⟨ps', a1, a2, a3⟩ := hT p hp
        refine ⟨ps', by rw [upd_ne (ne_of_none a1 nC), upd_ne hb]; exact a1, a2, fun p' cv hcv => ?_⟩
        obtain ⟨c0, e1, e2⟩ := a3 p' cv hcv
        exact ⟨c0, e1, hE _ _ e2 codeO_ne⟩
    have nF := I1.hok.fresh (Nat.le_refl _)
    have I2 := inv_lm (D := ⟨X.env.qual ++ "<lambda>", params, body, scope⟩) (c := c') (t' := tk) (pm := (X.mg "__name__").getD .none) (ctv := ctv) I1
    refine ⟨.ref h'.objs.size, _, I2, rfl, h h'.objs.size c' _ (fun b o e n => ?_) (T1.ext fun b o e => ?_) (I.hok.fresh (Nat.le_trans hge (Nat.le_of_lt hlt))) upd_same ?_⟩
    · have e1 := hE b o e n
      exact (upd_ne (ne_of_none e1 nF)).trans e1
    · exact (upd_ne (ne_of_none e nF)).trans e
    · exact (upd_ne (Nat.ne_of_lt hlt)).trans upd_same
  | some cv =>
    obtain ⟨c', e, hco⟩ := ha pos cv hc
    subst e
    refine PySem.W.kla_makeFunctionHit (mg := X.mg) (c := c) (P := P) (ps := ps) hcl I.ok.glob (I.mod.glob.keeps I.bk) hcode (TB.code.keeps I.bk) hP' ht hc bP fun ctv h' tk hx hsz => ?_
    have I1 : Inv X pins σ H { s with heap := h', toks := tk } := I.kept hx
    have nF : H h'.objs.size = none := I1.hok.fresh (Nat.le_refl _)
    have I2 := inv_lm (D := ⟨X.env.qual ++ "<lambda>", params, body, scope⟩) (c := c') (t' := tk) (pm := (X.mg "__name__").getD .none) (ctv := ctv) I1
    refine ⟨.ref h'.objs.size, _, I2, rfl, h h'.objs.size c' _ (fun b o e n => ?_) (hT.ext fun b o e => ?_) nF upd_same ?_⟩
    · exact (upd_ne (ne_of_none e nF)).trans e
    · exact (upd_ne (ne_of_none e nF)).trans e
    · exact (upd_ne (ne_of_none hco nF)).trans hco
end
/-! ### calls -/
structure LOk (P : Program) (w : World) (K : PySem.W.Frag) (mg : Str → Option Value) (base : Heap) (CX : CXT) (k : Nat) (D : LmD) (ps : List Str) (sp : Sp) : Prop where
  len : ∀ vs H Q E, sp vs H Q E → vs.length = ps.length
  run : ∀ (A : Around) (outer : List Env) (s : Shared) (H : Hp) (f c : Addr) (us : List Value) (vs : List V) (Q : VK) (E : XK), Room k A → Env0 P w K mg base A outer s H → H f = some (LmO f D c) → H c = some (CodeO c D.q) →
    Vals vs us → sp vs H Q E → codeAny (model P w) A (.call (.ref f) ⟨us, []⟩) (CR CX outer P w H s Q E) s
section
variable {CX : CXT} {P : Program} {w : World} {K : PySem.W.Frag} {mg : Str → Option Value} {base : Heap} {N ps : List Str} {D : LmD} {k j : Nat} {sp sp' : Sp}
theorem LOk.imp (o : LOk P w K mg base CX k D ps sp) (h : ∀ vs H Q E, sp' vs H Q E → sp vs H Q E) : LOk P w K mg base CX k D ps sp' :=
  ⟨fun vs H Q E q => o.len vs H Q E (h _ _ _ _ q), fun A outer s H f c us vs Q E hr e0 hf hc r q => o.run A outer s H f c us vs Q E hr e0 hf hc r (h _ _ _ _ q)⟩
theorem lok_of (S : NScope N ps [] D.scope) (hb : ∀ (c : Addr) (pm ctv : Value) (us : List Value), us.length = ps.length → bindArgs (PySem.W.kla_fn "<lambda>" D.q D.params D.body D.scope [] pm (.ref c) ctv) ⟨us, []⟩ = pure (ps.zip us)) (len : ∀ vs H Q E, sp vs H Q E → vs.length = ps.length)
    (hbody : ∀ (A : Around) (outer : List Env) (s : Shared) (H : Hp) (f c : Addr) (vs : List V) (Q : VK) (E : XK), Room k (A.deeper (envF (D.nf c) f s.heap.objs.size)) → sp vs H Q E →
      ∃ t, PE (ncx CX P w K mg base N (D.nf c) f A outer s H E) D.body t ∧ t (startF N vs []) H Q) :
    LOk P w K mg base CX (k + 1) D ps sp := by
  refine ⟨len, fun A outer s H f c us vs Q E hr e0 hf hc r hsp => ?_⟩
  have hl := len _ _ _ _ hsp
  have lim : s.heap.NoLimit := e0.mod.nolimit.keeps fun b o e => (e0.bs b o e).1
  obtain ⟨od, sl, pm, ctv, ho⟩ := lmO_at e0.hok hf
  refine PySem.W.kla_callFunE hr.depth ho rfl S.co S.gen rfl (codeO_at e0.hok hc) ?_
  rw [hb c pm ctv us (by rw [← r.length]; exact hl)]
  refine wpAny_pure (wpAny_newFunctionEnv S.nocell (fun ⟨n, _⟩ hy => S.par n (List.of_mem_zip hy).1) (fun h₁ hns hsb => ⟨lim.fresh _ hsb, ?_⟩) S.kind)
  show codeAny _ _ (.expr D.body (envF (D.nf c) f s.heap.objs.size)) _ _
  have kp : ∀ b o, s.heap.get? b = some o → h₁.get? b = some o := fun b o e => hsb.extBut b o (Nat.ne_of_lt (Heap.lt_size e)) (Heap.get?_push_of_some _ e)
  obtain ⟨t, ht, hq⟩ := hbody A outer s H f c vs Q E (hr.deeper _) hsp
  have C : CellsAt (D.nf c).cl [] [] s.heap H := ⟨rfl, fun y c e => (by cases e), fun x y c e => (by cases e), fun i y e => (by simp at e)⟩
  have I : Inv (ncx CX P w K mg base N (D.nf c) f A outer s H E) [] (startF N vs []) H { s with heap := h₁, toks := s.toks + (ps.zip us).length } := inv_startN (F := D.nf c) S hr.hd e0 hl r C hns kp
  refine PySem.W.kla_codeExpr (wpAny_mono (ht.run [] _ (startF N vs []) H Q I hq) (fun v s' hs => ?_) fun e s' hs => hs)
  obtain ⟨w', H', J, rv, q⟩ := hs
  exact ⟨w', H', J.os, J.bare, J.base, J.hok, rv, q⟩
end
/-- f(..), f a name that holds a lambda -/
def tCallLm (D : LmD) (i : Nat) (sp : Sp) (E : XK) (t : TA) : TE := fun σ H Q => ∃ f c', σ[i]? = some (some (.ref f)) ∧ H f = some (LmO f D c') ∧
  t σ H fun vs H1 => H1 f = some (LmO f D c') ∧ H1 c' = some (CodeO c' D.q) ∧ sp vs H1 Q E
section
variable {X : Cx} {CX : CXT} {D : LmD} {ps : List Str} {i j k : Nat} {x : Str} {sp : Sp} {E : XK} {t : TA} {e : Expr} {es : List Expr} {p pos : Pos}
theorem lmAt_of {pins : List (Addr × Obj)} {σ : L2.St} {H : Hp} {s : Shared} {f c : Addr} (I : Inv X pins σ H s) (e : H f = some (LmO f D c)) : PySem.W.FnAt f s.heap := by
  obtain ⟨od, sl, pm, ctv, ho⟩ := lmO_at I.hok e
  exact ⟨_, od, _, sl, ho⟩
theorem pe_callLm (Fn : LOk X.prog X.w X.K X.mg X.base CX k D ps sp) (hr : Room j X.A) (hk : k ≤ j) (hx : Passes CX X E) (hN : X.N[i]? = some x) (hv : Vis X.env.scope x) (ha : PA X (e :: es) t)
    (hd : (x == ("__debug__" : Str)) = false := by decide) (hcd : (x == ("__classdict__" : Str)) = false := by decide)
    (he : starEach (e :: es) X.env = (false, eval e X.env) :: starEach es X.env := by rfl) (hpl : (backTo pos (starEach es X.env)).any (·.1) = false := by rfl) :
    PE X (.Call (.Name x p) (e :: es) [] pos) (tCallLm D i sp E t) := by
  refine ⟨fun pins s σ H Q I h => ?_⟩
  obtain ⟨f, c', hs, hf, ht⟩ := h
  refine wpAny_Call_Name_kw (thn ((pe_var (pos := p) hN hv hd hcd).run pins s σ H (fun v H1 => v = .ref f ∧ H1 = H) I ⟨.ref f, hs, rfl, rfl⟩) fun u s1 ⟨v, H1, I1, r1, q1⟩ => ?_)
  obtain ⟨ev, eH⟩ := q1
  subst ev
  rw [eH] at I1
  obtain rfl : u = Value.ref f := r1
  refine PySem.W.callWith_F (first := []) (lmAt_of I1 hf) (thn (ha.run pos pins s1 σ H _ I1 ht) fun us s2 ⟨vs, H2, I2, r, h1, h2, q⟩ => ⟨lmAt_of I2 h1, ?_⟩) he hpl
  show wpAny _ _ (call (.ref f) us) _ _ _
  refine wpAny_call (codeAny_mono (Fn.run X.A X.stack s2 H2 f c' us vs Q E (hr.mono hk) I2.env0 h1 h2 r q) fun r s' hq => ?_)
  cases r with
  | error e => exact hx pins σ H2 s2 e s' I2 hq
  | ok fl =>
    cases fl with
    | ret u => exact I2.after hq
    | next => exact False.elim hq
    | brk => exact False.elim hq
    | cont => exact False.elim hq
end
end R

namespace R
open PySem L2
open G (Tg Bo Co Ty5)
/-! ### numbers -/
def ltD (c k : Int) : Option Bool := if 0 ≤ k ∧ 0 < c then some true else if k ≤ 0 ∧ c ≤ 0 then some false else none
def leD (c k : Int) : Option Bool := if 0 ≤ k ∧ 0 ≤ c then some true else if k ≤ 0 ∧ c < 0 then some false else none
def eqD (c k : Int) : Option Bool := if 0 ≤ k ∧ 0 < c then some false else if k ≤ 0 ∧ c < 0 then some false else none
/-- what a - b is, by one letter -/
def difZ (nn : Nat → Bool) : RV → RV → Option (Int × Int)
  | .int a, .lin c k j => if nn j = true then some (a - c, -k) else none
  | .lin c k j, .int a => if nn j = true then some (c - a, k) else none
  | _, _ => none
def ltZ (nn : Nat → Bool) (a b : RV) : Option Bool := match difZ nn b a with
  | some (c, k) => ltD c k
  | none => none
def leZ (nn : Nat → Bool) (a b : RV) : Option Bool := match difZ nn b a with
  | some (c, k) => leD c k
  | none => none
def eqZ (nn : Nat → Bool) (a b : RV) : Option Bool := match difZ nn b a with
  | some (c, k) => eqD c k
  | none => none
def coZ (nn : Nat → Bool) (o : Co) (a b : RV) : Option Bool := match a, b with
  | .int i, .int j => some (o.f i j)
  | _, _ => match o with
    | .lt => ltZ nn a b
    | .le => leZ nn a b
    | .gt => ltZ nn b a
    | .ge => leZ nn b a
def addZ : RV → RV → Option RV
  | .int a, .lin c k j => some (.lin (a + c) k j)
  | .lin c k j, .int a => some (.lin (c + a) k j)
  | _, _ => none
def subZ : RV → RV → Option RV
  | .int a, .lin c k j => some (.lin (a - c) (-k) j)
  | .lin c k j, .int a => some (.lin (c - a) k j)
  | _, _ => none

/-! ### the table -/
inductive Ot where
  | ok (v : RV) (h : Hs) | ex (c : Nat) (h : Hs) | no
structure Gt where
  ks : List RV
  run : Nat → List RV → Hs → Ot
  ms : List (Str × List (Nat × Nat))
  nw : List (Nat × Nat)
  sub : Nat → Option (List Bool)
  fn : Nat → Option (List Str)
  kd : Nat → List Bool
  nn : Nat → Bool
  md : RV → Int → Option RV
  dv : RV → Int → Option RV

/-! ### data -/
def mapO {α β : Type} (f : α → Option β) : List α → Option (List β)
  | [] => some []
  | x :: xs => match f x with
    | some y => match mapO f xs with
      | some ys => some (y :: ys)
      | none => none
    | none => none
def strOkB (x : Str) : Bool := PyData.canLay0 (.str x)
/-- plain data: no dicts, no objects -/
def plF : Nat → Hs → RV → Bool
  | 0, _, _ => false
  | f + 1, h, v => match v with
    | .non => true | .bl _ => true | .int _ => true | .lin _ _ _ => true
    | .str x => strOkB x
    | .tp xs => xs.all (plF f h)
    | .rf n => match h.get n with
      | some (.lst xs) => xs.all (plF f h)
      | _ => false
    | .cst _ => false
    | .lm _ => false
def eqL (eq : RV → RV → Option Bool) : List RV → List RV → Option Bool
  | [], [] => some true
  | x :: xs, y :: ys => match eq x y with
    | some true => eqL eq xs ys
    | some false => some false
    | none => none
  | _, _ => some false
def eqF (nn : Nat → Bool) : Nat → Hs → RV → RV → Option Bool
  | 0, _, _, _ => none
  | f + 1, h, v, w => match v, w with
    | .non, .non => some true
    | .bl a, .bl b => some (a == b)
    | .bl a, .int j => some ((if a then (1 : Int) else 0) == j)
    | .int i, .bl b => some (i == (if b then (1 : Int) else 0))
    | .int i, .int j => some (i == j)
    | .int i, .lin c k j => eqZ nn (.int i) (.lin c k j)
    | .lin c k j, .int i => eqZ nn (.lin c k j) (.int i)
    | .str x, .str y => some (x == y)
    | .tp xs, .tp ys => eqL (eqF nn f h) xs ys
    | .rf n, .rf m => match h.get n, h.get m with
      | some (.lst xs), some (.lst ys) => eqL (eqF nn f h) xs ys
      | _, _ => none
    | .non, .bl _ => some false | .non, .int _ => some false | .non, .str _ => some false | .non, .tp _ => some false | .non, .rf _ => some false
    | .bl _, .non => some false | .bl _, .str _ => some false | .bl _, .tp _ => some false | .bl _, .rf _ => some false
    | .int _, .non => some false | .int _, .str _ => some false | .int _, .tp _ => some false | .int _, .rf _ => some false
    | .str _, .non => some false | .str _, .bl _ => some false | .str _, .int _ => some false | .str _, .tp _ => some false | .str _, .rf _ => some false
    | .tp _, .non => some false | .tp _, .bl _ => some false | .tp _, .int _ => some false | .tp _, .str _ => some false | .tp _, .rf _ => some false
    | .rf _, .non => some false | .rf _, .bl _ => some false | .rf _, .int _ => some false | .rf _, .str _ => some false | .rf _, .tp _ => some false
    | _, _ => none
def anyL (eq : RV → Option Bool) : List RV → Option Bool
  | [] => some false
  | x :: xs => match eq x with
    | some true => some true
    | some false => anyL eq xs
    | none => none
/-- as data of the other layer -/
def toD : Nat → Hs → RV → Option G.D
  | 0, _, _ => none
  | f + 1, h, v => match v with
    | .non => some .non | .bl b => some (.bl b) | .int i => some (.int i) | .str x => some (.str x)
    | .tp xs => match mapO (toD f h) xs with
      | some ds => some (.tp ds)
      | none => none
    | .rf n => match h.get n with
      | some (.lst xs) => match mapO (toD f h) xs with
        | some ds => some (.ls ds)
        | none => none
      | _ => none
    | _ => none
def intsR : List RV → Option (List Int)
  | [] => some []
  | .int i :: r => match intsR r with
    | some ns => some (i :: ns)
    | none => none
  | _ => none
def blsR : List RV → Option (List Bool)
  | [] => some []
  | .bl i :: r => match blsR r with
    | some ns => some (i :: ns)
    | none => none
  | _ => none
def strsR : List RV → Option (List Str)
  | [] => some []
  | .str i :: r => match strsR r with
    | some ns => some (i :: ns)
    | none => none
  | _ => none
def tupsR : List RV → Option (List (List Int))
  | [] => some []
  | .tp xs :: r => match intsR xs with
    | some ns => match tupsR r with
      | some nss => some (ns :: nss)
      | none => none
    | none => none
  | _ => none
/-- the one among them that is the datum -/
def oneOf (m : G.D) : List RV → List G.D → Option RV
  | v :: vs, d :: ds => if d.eqv m = true then (if ds.any (fun e => e.eqv m) = true then none else some v) else oneOf m vs ds
  | _, _ => none
def isTR (h : Hs) : Ty5 → RV → Option Bool
  | t, .non => some false
  | .int, .bl _ => some true
  | .bool, .bl _ => some true
  | _, .bl _ => some false
  | .int, .int _ => some true
  | _, .int _ => some false
  | .int, .lin _ _ _ => some true
  | _, .lin _ _ _ => some false
  | .str, .str _ => some true
  | _, .str _ => some false
  | .tuple, .tp _ => some true
  | _, .tp _ => some false
  | t, .rf n => match h.get n with
    | some (.lst _) => some (match t with | .list => true | _ => false)
    | some (.dic _) => some false
    | _ => none
  | _, .cst _ => none
  | _, .lm _ => none
def keyR : RV → Option Key
  | .int i => some (.inl i)
  | .str x => some (.inr x)
  | _ => none
def lookR (k : Key) : List (Key × RV) → Option RV
  | [] => none
  | (q, v) :: r => if q = k then some v else lookR k r
def putR (k : Key) (v : RV) (kvs : List (Key × RV)) : List (Key × RV) :=
  if (kvs.any fun kv => decide (kv.1 = k)) = true then kvs.map (fun kv => if kv.1 = k then (kv.1, v) else kv) else kvs ++ [(k, v)]
def fldR (f : Str) : List (Str × RV) → Option RV
  | [] => none
  | (q, v) :: r => if q = f then some v else fldR f r
def fputR (f : Str) (v : RV) : List (Str × RV) → List (Str × RV)
  | [] => [(f, v)]
  | (q, w) :: r => if q = f then (q, v) :: r else (q, w) :: fputR f v r

/-! ### operations -/
inductive O1 where
  | neg | not | isN | notN | len | toL | tupL | lenSet | all | any | sum | rev | minL | maxL | isC (c : Nat) | isI (t : Ty5) | fld (f : Str) | clr | popL | srtD | abs
inductive O2 where
  | bin (o : Bo) | cat | rep | eq | ne | cmp (o : Co) | isb | isnb | ix | dix | nin | inT | din | app | extd
def lstAt (h : Hs) : RV → Option (Nat × List RV)
  | .rf n => match h.get n with
    | some (.lst xs) => some (n, xs)
    | _ => none
  | _ => none
def newL (h : Hs) (xs : List RV) : Option (RV × Hs) := if xs.length < 100000 then (match h.new (.lst xs) with
  | some h' => some (.rf h.n, h')
  | none => none) else none
def f1 (Γ : Gt) (o : O1) (v : RV) (h : Hs) : Option (RV × Hs) := match o with
  | .neg => match v with
    | .int i => some (.int (-i), h)
    | .lin c k j => some (.lin (-c) (-k) j, h)
    | _ => none
  | .not => match v with
    | .bl b => some (.bl (!b), h)
    | _ => none
  | .isN => match v with
    | .non => some (.bl true, h)
    | .cst _ => none
    | .lm _ => none
    | _ => some (.bl false, h)
  | .notN => match v with
    | .non => some (.bl false, h)
    | .cst _ => none
    | .lm _ => none
    | _ => some (.bl true, h)
  | .len => match v with
    | .tp xs => some (.int xs.length, h)
    | _ => match lstAt h v with
      | some (_, xs) => some (.int xs.length, h)
      | none => none
  | .toL => match v with
    | .tp xs => newL h xs
    | _ => match lstAt h v with
      | some (_, xs) => newL h xs
      | none => none
  | .tupL => match lstAt h v with
    | some (_, xs) => some (.tp xs, h)
    | none => none
  | .lenSet => match lstAt h v with
    | some (_, xs) => match tupsR xs with
      | some nss => if nss.length < 64 then some (.int ((G.ddp nss).length : Int), h) else none
      | none => none
    | none => none
  | .all => match lstAt h v with
    | some (_, xs) => match blsR xs with
      | some bs => some (.bl (bs.all id), h)
      | none => none
    | none => none
  | .any => match lstAt h v with
    | some (_, xs) => match blsR xs with
      | some bs => some (.bl (bs.any id), h)
      | none => none
    | none => none
  | .sum => match lstAt h v with
    | some (_, xs) => match intsR xs with
      | some bs => some (.int bs.sum, h)
      | none => none
    | none => none
  | .rev => match lstAt h v with
    | some (_, xs) => newL h xs.reverse
    | none => none
  | .minL => match lstAt h v with
    | some (_, xs) => match mapO (toD 4 h) xs with
      | some (d :: ds) => if G.mmOk (d :: ds) = true then (match oneOf (G.minF d ds) xs (d :: ds) with
        | some w => some (w, h)
        | none => none) else none
      | _ => none
    | none => none
  | .maxL => match lstAt h v with
    | some (_, xs) => match mapO (toD 4 h) xs with
      | some (d :: ds) => if G.mmOk (d :: ds) = true then (match oneOf (G.maxF d ds) xs (d :: ds) with
        | some w => some (w, h)
        | none => none) else none
      | _ => none
    | none => none
  | .isC c' => match v with
    | .rf n => match h.get n with
      | some (.ins c _) => match Γ.sub c with
        | some r => match r[c']? with
          | some b => some (.bl b, h)
          | none => none
        | none => none
      | _ => none
    | _ => none
  | .isI t => match isTR h t v with
    | some b => some (.bl b, h)
    | none => none
  | .fld f => match v with
    | .rf n => match h.get n with
      | some (.ins c fs) => match Γ.fn c with
        | some l => if l.contains f = true then (match fldR f fs with
          | some w => some (w, h)
          | none => none) else none
        | none => none
      | _ => none
    | _ => none
  | .clr => match lstAt h v with
    | some (n, _) => some (.non, h.put n (.lst []))
    | none => none
  | .popL => match lstAt h v with
    | some (n, xs) => match xs[xs.length - 1]? with
      | some w => some (w, h.put n (.lst xs.dropLast))
      | none => none
    | none => none
  | .abs => match v with
    | .int i => some (.int (if i < 0 then -i else i), h)
    | .lin c k j => match Γ.dv (.lin c k j) 0 with
      | some z => some (z, h)
      | none => none
    | _ => none
  | .srtD => match v with
    | .rf n => match h.get n with
      | some (.dic kvs) => match intsR (kvs.map fun p => match p.1 with | .inl i => RV.int i | .inr x => RV.str x) with
        | some ns => if ns.length < 60 ∧ (G.sdd ns).length = ns.length then newL h ((G.sdd ns).map RV.int) else none
        | none => none
      | _ => none
    | _ => none
def f2 (Γ : Gt) (o : O2) (v w : RV) (h : Hs) : Option (RV × Hs) := match o with
  | .bin o => match v, w with
    | .int i, .int j => match o.run i j with
      | some z => some (.int z, h)
      | none => none
    | _, _ => match o with
      | .add => match addZ v w with
        | some z => some (z, h)
        | none => none
      | .sub => match subZ v w with
        | some z => some (z, h)
        | none => none
      | .mod => match w with
        | .int j => match Γ.md v j with
          | some z => some (z, h)
          | none => none
        | _ => none
      | .fdiv => match w with
        | .int j => if 0 < j then (match Γ.dv v j with
          | some z => some (z, h)
          | none => none) else none
        | _ => none
      | _ => none
  | .cat => match lstAt h v with
    | some (_, xs) => match lstAt h w with
      | some (_, ys) => newL h (xs ++ ys)
      | none => none
    | none => none
  | .rep => match lstAt h v with
    | some (_, xs) => match w with
      | .int k => if 0 ≤ k ∧ k ≤ 1000 ∧ xs.length ≤ 1000 then newL h (List.replicate k.toNat xs).flatten else none
      | _ => none
    | none => none
  | .eq => if (plF 12 h v && plF 12 h w) = true then (match eqF Γ.nn 12 h v w with
    | some b => some (.bl b, h)
    | none => none) else none
  | .ne => if (plF 12 h v && plF 12 h w) = true then (match eqF Γ.nn 12 h v w with
    | some b => some (.bl (!b), h)
    | none => none) else none
  | .cmp o => match coZ Γ.nn o v w with
    | some b => some (.bl b, h)
    | none => none
  | .isb => match v, w with
    | .bl i, .bl j => some (.bl (decide (i = j)), h)
    | _, _ => none
  | .isnb => match v, w with
    | .bl i, .bl j => some (.bl (!decide (i = j)), h)
    | _, _ => none
  | .ix => match w with
    | .int i => match v with
      | .tp xs => match atI xs i with
        | some z => some (z, h)
        | none => none
      | _ => match lstAt h v with
        | some (_, xs) => match atI xs i with
          | some z => some (z, h)
          | none => none
        | none => none
    | _ => none
  | .dix => match v with
    | .rf n => match h.get n with
      | some (.dic kvs) => match keyR w with
        | some k => match lookR k kvs with
          | some z => some (z, h)
          | none => none
        | none => none
      | _ => none
    | _ => none
  | .nin => match lstAt h w with
    | some (_, ys) => if (plF 11 h v && plF 12 h w) = true then (match anyL (fun z => eqF Γ.nn 11 h z v) ys with
      | some b => some (.bl (!b), h)
      | none => none) else none
    | none => none
  | .inT => match v with
    | .str x => match w with
      | .tp ys => match strsR ys with
        | some ss => some (.bl (ss.any fun z => z == x), h)
        | none => none
      | _ => none
    | _ => none
  | .din => match w with
    | .rf n => match h.get n with
      | some (.dic kvs) => match keyR v with
        | some k => some (.bl (lookR k kvs).isSome, h)
        | none => none
      | _ => none
    | _ => none
  | .app => match lstAt h v with
    | some (n, xs) => if xs.length < 100000 then some (.non, h.put n (.lst (xs ++ [w]))) else none
    | none => none
  | .extd => match lstAt h v with
    | some (n, xs) => match lstAt h w with
      | some (_, ys) => if xs.length + ys.length < 100000 then some (.non, h.put n (.lst (xs ++ ys))) else none
      | none => none
    | none => none

def pre2 (o : O2) (h : Hs) (v : RV) : Bool := match o with
  | .app => (lstAt h v).isSome
  | .extd => (lstAt h v).isSome
  | _ => true

/-! ### expressions -/
inductive X where
  | nil | cons (a r : X)
  | var (i : Nat) | cn (v : RV) | kon (k : Nat)
  | o1 (o : O1) (a : X) | o2 (o : O2) (a b : X) | dget (d k x : X) | chn (o o' : Co) (a b c : X)
  | and (a b : X) | or (a b : X) | ite (c a b : X) | sl (a lo hi : X) | tup (es : X) | lst (es : X) | dnew
  | call (k : Nat) (es : X) | meth (m : Nat) (o es : X) | new (k : Nat) (es : X) | cv (i : Nat) (cs : List (Nat × Nat)) (es : X) | lamv (k : Nat) | lcall (i : Nat) (cs : List (Nat × Nat)) (es : X) | kinds (b : X)
  | itL (a : X) | itT (a : X) | itR (a : X) | itR2 (a b : X) | itZ (a b : X) | itE (a : X)
  | lc (t : Tg) (it e : X) | lcf (t : Tg) (it c e : X)
abbrev Sg := List (Option RV)
inductive Its where
  | L (n : Nat) | S (xs : List RV) | R (lo : Int) (k : Nat) | Z (n m : Nat) | E (n : Nat)
def Its.next (s : Its) (i : Nat) (h : Hs) : Option (Option RV) := match s with
  | .L n => match h.get n with
    | some (.lst xs) => some xs[i]?
    | _ => none
  | .S xs => some xs[i]?
  | .R lo k => if i < k then some (some (.int (lo + i))) else some none
  | .Z n m => match h.get n, h.get m with
    | some (.lst xs), some (.lst ys) => match xs[i]?, ys[i]? with
      | some x, some y => some (some (.tp [x, y]))
      | _, _ => some none
    | _, _ => none
  | .E n => match h.get n with
    | some (.lst xs) => match xs[i]? with
      | some x => some (some (.tp [.int i, x]))
      | none => some none
    | _ => none
def tgR : Tg → RV → Sg → Option Sg
  | .nm j, v, σ => some (σ.set j (some v))
  | .t2 a b, .tp [x, y], σ => match tgR a x σ with
    | some σ1 => tgR b y σ1
    | none => none
  | .t3 a b c, .tp [x, y, z], σ => match tgR a x σ with
    | some σ1 => match tgR b y σ1 with
      | some σ2 => tgR c z σ2
      | none => none
    | none => none
  | _, _, _ => none
def wipeR (σ : Sg) : List Nat → Sg
  | [] => σ
  | v :: vs => (wipeR σ vs).set v none
def lcR (nx : Nat → Hs → Option (Option RV)) (t : Tg) (cf : Sg → Hs → Option (Bool × Hs)) (ef : Sg → Hs → Option (RV × Hs)) (σ : Sg) : Nat → Nat → Hs → List RV → Option (RV × Hs)
  | 0, _, _, _ => none
  | f + 1, i, h, acc => match nx i h with
    | none => none
    | some none => newL h acc.reverse
    | some (some v) => match tgR t v σ with
      | none => none
      | some σ1 => match cf σ1 h with
        | none => none
        | some (b, h1) => match b with
          | false => lcR nx t cf ef σ f (i + 1) h1 acc
          | true => match ef σ1 h1 with
            | none => none
            | some (y, h2) => lcR nx t cf ef σ f (i + 1) h2 (y :: acc)
def tstR : Option (RV × Hs) → Option (Bool × Hs)
  | some (.bl b, h) => some (b, h)
  | _ => none
def lookM : List (Nat × Nat) → Nat → Option Nat
  | [], _ => none
  | (c, k) :: r, d => if c = d then some k else lookM r d
def otO : Ot → Option (RV × Hs)
  | .ok v h => some (v, h)
  | _ => none
def isTs : X → Bool
  | .o1 .not a => isTs a
  | .and a b => isTs a && isTs b
  | .or a b => isTs a && isTs b
  | .var _ => true | .o2 _ _ _ => true | .o1 _ _ => true | .chn _ _ _ _ _ => true | .call _ _ => true | .meth _ _ _ => true
  | _ => false
def isFl : RV → Bool
  | .bl _ => true | .int _ => true | .str _ => true | .non => true | _ => false
def kdO (kd : Nat → List Bool) : Ot → Option (RV × Hs)
  | .ok _ h1 => newL h1 []
  | .ex c h1 => if (kd c).isEmpty = false then newL h1 ((kd c).map RV.bl) else none
  | .no => none
mutual
def ev (Γ : Gt) : X → Sg → Hs → Option (RV × Hs)
  | .var i, σ, h => match σ[i]? with
    | some (some v) => some (v, h)
    | _ => none
  | .cn v, _, h => if isFl v = true then some (v, h) else none
  | .kon k, _, h => match Γ.ks[k]? with
    | some v => some (v, h)
    | none => none
  | .o1 o a, σ, h => match ev Γ a σ h with
    | some (v, h1) => f1 Γ o v h1
    | none => none
  | .o2 o a b, σ, h => match ev Γ a σ h with
    | some (v, h1) => if pre2 o h1 v = true then (match ev Γ b σ h1 with
      | some (w, h2) => f2 Γ o v w h2
      | none => none) else none
    | none => none
  | .dget d k x, σ, h => match ev Γ d σ h with
    | some (.rf n, h1) => match h1.get n with
      | some (.dic _) => match ev Γ k σ h1 with
        | some (w, h2) => match ev Γ x σ h2 with
          | some (z, h3) => match keyR w, h3.get n with
            | some q, some (.dic kvs) => some ((lookR q kvs).getD z, h3)
            | _, _ => none
          | none => none
        | none => none
      | _ => none
    | _ => none
  | .chn o o' a b c, σ, h => match ev Γ a σ h with
    | some (v, h1) => match ev Γ b σ h1 with
      | some (w, h2) => match coZ Γ.nn o v w with
        | some true => match ev Γ c σ h2 with
          | some (z, h3) => match coZ Γ.nn o' w z with
            | some r => some (.bl r, h3)
            | none => none
          | none => none
        | some false => some (.bl false, h2)
        | none => none
      | none => none
    | none => none
  | .and a b, σ, h => match ev Γ a σ h with
    | some (.bl true, h1) => ev Γ b σ h1
    | some (.bl false, h1) => some (.bl false, h1)
    | _ => none
  | .or a b, σ, h => match ev Γ a σ h with
    | some (.bl false, h1) => ev Γ b σ h1
    | some (.bl true, h1) => some (.bl true, h1)
    | _ => none
  | .ite c a b, σ, h => if isTs c = true then (match ev Γ c σ h with
    | some (.bl true, h1) => ev Γ a σ h1
    | some (.bl false, h1) => ev Γ b σ h1
    | _ => none) else none
  | .sl a lo hi, σ, h => match ev Γ a σ h with
    | some (v, h1) => match evO Γ lo σ h1 with
      | some (l, h2) => match evO Γ hi σ h2 with
        | some (u, h3) => match lstAt h3 v with
          | some (_, xs) => newL h3 (G.cutD xs l u)
          | none => none
        | none => none
      | none => none
    | none => none
  | .tup es, σ, h => match evA Γ es σ h with
    | some (vs, h1) => if vs.length ≤ 1000 then some (.tp vs, h1) else none
    | none => none
  | .lst es, σ, h => match evA Γ es σ h with
    | some (vs, h1) => newL h1 vs
    | none => none
  | .dnew, _, h => match h.new (.dic []) with
    | some h' => some (.rf h.n, h')
    | none => none
  | .call k es, σ, h => match evA Γ es σ h with
    | some (vs, h1) => otO (Γ.run k vs h1)
    | none => none
  | .meth m o es, σ, h => match ev Γ o σ h with
    | some (.rf n, h1) => match Γ.ms[m]?, h1.get n with
      | some (nm, tb), some (.ins c fs) => match lookM tb c with
        | some k => if (fs.all fun p => p.1 != nm) = true then (match evA Γ es σ h1 with
          | some (vs, h2) => otO (Γ.run k (.rf n :: vs) h2)
          | none => none) else none
        | none => none
      | _, _ => none
    | _ => none
  | .new k es, σ, h => match Γ.nw[k]? with
    | some (c, d) => match evA Γ es σ h with
      | some (vs, h1) => match h1.new (.ins c []) with
        | some h2 => match Γ.run d (.rf h1.n :: vs) h2 with
          | .ok .non h3 => some (.rf h1.n, h3)
          | _ => none
        | none => none
      | none => none
    | none => none
  | .cv i cs es, σ, h => match σ[i]? with
    | some (some (.cst c)) => match lookM cs c with
      | some k => match evA Γ es σ h with
        | some (vs, h1) => otO (Γ.run k vs h1)
        | none => none
      | none => none
    | _ => none
  | .lamv k, _, h => some (.lm k, h)
  | .lcall i cs es, σ, h => match σ[i]? with
    | some (some (.lm c)) => match lookM cs c with
      | some k => match evA Γ es σ h with
        | some (vs, h1) => otO (Γ.run k vs h1)
        | none => none
      | none => none
    | _ => none
  | .kinds b, σ, h => kdO Γ.kd (evC Γ b σ h)
  | .lc t it e, σ, h => match evI Γ it σ h with
    | some (s, h1) => lcR s.next t (fun _ h => some (true, h)) (fun σ h => ev Γ e σ h) (wipeR σ t.sl) 3000 0 h1 []
    | none => none
  | .lcf t it c e, σ, h => if isTs c = true then (match evI Γ it σ h with
    | some (s, h1) => lcR s.next t (fun σ h => tstR (ev Γ c σ h)) (fun σ h => ev Γ e σ h) (wipeR σ t.sl) 3000 0 h1 []
    | none => none) else none
  | _, _, _ => none
/-- a call that may raise -/
def evC (Γ : Gt) : X → Sg → Hs → Ot
  | .call k es, σ, h => match evA Γ es σ h with
    | some (vs, h1) => Γ.run k vs h1
    | none => .no
  | .meth m o es, σ, h => match ev Γ o σ h with
    | some (.rf n, h1) => match Γ.ms[m]?, h1.get n with
      | some (nm, tb), some (.ins c fs) => match lookM tb c with
        | some k => if (fs.all fun p => p.1 != nm) = true then (match evA Γ es σ h1 with
          | some (vs, h2) => Γ.run k (.rf n :: vs) h2
          | none => .no) else .no
        | none => .no
      | _, _ => .no
    | _ => .no
  | .new k es, σ, h => match Γ.nw[k]? with
    | some (c, d) => match evA Γ es σ h with
      | some (vs, h1) => match h1.new (.ins c []) with
        | some h2 => match Γ.run d (.rf h1.n :: vs) h2 with
          | .ok .non h3 => .ok (.rf h1.n) h3
          | .ex c h3 => .ex c h3
          | _ => .no
        | none => .no
      | none => .no
    | none => .no
  | .cv i cs es, σ, h => match σ[i]? with
    | some (some (.cst c)) => match lookM cs c with
      | some k => match evA Γ es σ h with
        | some (vs, h1) => Γ.run k vs h1
        | none => .no
      | none => .no
    | _ => .no
  | .lcall i cs es, σ, h => match σ[i]? with
    | some (some (.lm c)) => match lookM cs c with
      | some k => match evA Γ es σ h with
        | some (vs, h1) => Γ.run k vs h1
        | none => .no
      | none => .no
    | _ => .no
  | _, _, _ => .no
def evA (Γ : Gt) : X → Sg → Hs → Option (List RV × Hs)
  | .nil, _, h => some ([], h)
  | .cons a r, σ, h => match ev Γ a σ h with
    | some (v, h1) => match evA Γ r σ h1 with
      | some (vs, h2) => some (v :: vs, h2)
      | none => none
    | none => none
  | _, _, _ => none
def evO (Γ : Gt) : X → Sg → Hs → Option (Option Int × Hs)
  | .nil, _, h => some (none, h)
  | .cons a .nil, σ, h => match ev Γ a σ h with
    | some (.int i, h1) => some (some i, h1)
    | _ => none
  | _, _, _ => none
def evI (Γ : Gt) : X → Sg → Hs → Option (Its × Hs)
  | .itL a, σ, h => match ev Γ a σ h with
    | some (v, h1) => match lstAt h1 v with
      | some (n, _) => some (.L n, h1)
      | none => none
    | none => none
  | .itT a, σ, h => match ev Γ a σ h with
    | some (.tp xs, h1) => some (.S xs, h1)
    | _ => none
  | .itR a, σ, h => match ev Γ a σ h with
    | some (.int n, h1) => if -1000000 ≤ n ∧ n ≤ 1000000 then some (.R 0 n.toNat, h1) else none
    | _ => none
  | .itR2 a b, σ, h => match ev Γ a σ h with
    | some (.int m, h1) => match ev Γ b σ h1 with
      | some (.int n, h2) => if -1000000 ≤ m ∧ m ≤ 1000000 ∧ -1000000 ≤ n ∧ n ≤ 1000000 then some (.R m (n - m).toNat, h2) else none
      | _ => none
    | _ => none
  | .itZ a b, σ, h => match ev Γ a σ h with
    | some (v, h1) => match ev Γ b σ h1 with
      | some (w, h2) => match lstAt h2 v, lstAt h2 w with
        | some (n, _), some (m, _) => some (.Z n m, h2)
        | _, _ => none
      | none => none
    | none => none
  | .itE a, σ, h => match ev Γ a σ h with
    | some (v, h1) => match lstAt h1 v with
      | some (n, _) => some (.E n, h1)
      | none => none
    | none => none
  | _, _, _ => none
end

/-! ### readings -/
def PostR (C : Cf) (α : Nat → Addr) (n : Nat) (H : Hp) (Q : VK) (E : XK) : Ot → Prop
  | .ok v h' => ∀ u α' H', Ev n h'.n α α' H H' → Sim C α' h' H' → Vr C α' h'.n H' v u → Q u H'
  | .ex c h' => ∀ α' H', Ev n h'.n α α' H H' → Sim C α' h' H' → E (.ref (C.Cl c)) none H'
  | .no => False
def spR (C : Cf) (run : List RV → Hs → Ot) : Sp := fun vs H Q E => ∃ α h args, Sim C α h H ∧ Vrs C α h.n H args vs ∧ PostR C α h.n H Q E (run args h)
def EF : XK := fun _ _ _ => False
def vOf : RV → V
  | .bl b => .bl b | .int i => .int i | .str x => .str x | _ => .non
def tN (ta : TE) : TE := tIsN ta
def rSrtD : List V → Hp → VK → Prop := fun xs H Q => ∃ (a : Addr) (kvs : List (Key × V)) (ks : List Int), xs = [.ref a] ∧ Rd H a (.dK kvs) ∧ kvs.map (·.1) = ks.map Sum.inl ∧ ks.length < 64 ∧ ∀ (ys : List Int) (p : Addr), ys.Perm ks → ys.Pairwise (· ≤ ·) → H p = none → Q (.ref p) (upd H p (.lst (ys.map V.int)))
def rAbsI : List V → Hp → VK → Prop := fun xs H Q => ∃ i, xs = [.int i] ∧ Q (.int (if i < 0 then -i else i)) H
def rd1 (C : Cf) : O1 → TE → TE
  | .neg, ta => tUn (rU fun i => .int (-i)) ta
  | .not, ta => tNotV ta
  | .isN, ta => tIsN ta
  | .notN, ta => tNotN ta
  | .len, ta => tCB (G.rLenS C.K) (tCons ta tNil)
  | .toL, ta => tCB (G.rListS C.K) (tCons ta tNil)
  | .tupL, ta => tCB (G.rTupS C.K) (tCons ta tNil)
  | .lenSet, ta => G.tLenSetT C.K ta
  | .all, ta => tCB (rAll C.K) (tCons ta tNil)
  | .any, ta => tCB (rAny C.K) (tCons ta tNil)
  | .sum, ta => tCB (rSum C.K) (tCons ta tNil)
  | .rev, ta => tRevL C.K ta
  | .minL, ta => tCB (G.rMinDat C.K) (tCons ta tNil)
  | .maxL, ta => tCB (G.rMaxDat C.K) (tCons ta tNil)
  | .isC c, ta => tCB (rIsi C.K) (tCons ta (tCons (tC (.ref (C.Cl (12 + c)))) tNil))
  | .isI t, ta => tCB (rIsi C.K) (tCons ta (tCons (tC (.ty t.nm)) tNil))
  | .fld f, ta => tFld C.K ta f
  | .clr, ta => tBM0 C.K "list" rClear ta
  | .popL, ta => tBM0 C.K "list" rPop ta
  | .srtD, ta => tCB rSrtD (tCons ta tNil)
  | .abs, ta => tCB rAbsI (tCons ta tNil)
def rd2 (C : Cf) : O2 → TE → TE → TE
  | .bin o, ta, tb => tOp o.r ta tb
  | .cat, ta, tb => tOp rCat ta tb
  | .rep, ta, tb => tOp rRep ta tb
  | .eq, ta, tb => tOp (rEqD C.K) ta tb
  | .ne, ta, tb => tOp (rNeD C.K) ta tb
  | .cmp o, ta, tb => tOp o.r ta tb
  | .isb, ta, tb => tOp rIsB ta tb
  | .isnb, ta, tb => tOp rNotB ta tb
  | .ix, ta, tb => tOp (rIx C.K) ta tb
  | .dix, ta, tb => tDGet ta tb
  | .nin, ta, tb => tOp (rNotInD C.K) ta tb
  | .inT, ta, tb => tOp (rIn C.K false) ta tb
  | .din, ta, tb => tDIn ta tb
  | .app, ta, tb => tBM C.K "list" rAppend ta (tCons tb tNil)
  | .extd, ta, tb => tBM C.K "list" rExtend ta (tCons tb tNil)
def tMsR (C : Cf) (Γ : Gt) (E : XK) (nm : Str) (to : TE) (ta : TA) : List (Nat × Nat) → TE
  | [] => fun _ _ _ => False
  | (c, k) :: r => fun σ H Q => tMeth (C.Cl c) nm (spR C (Γ.run k)) [] E to ta σ H Q ∨ tMsR C Γ E nm to ta r σ H Q
def tCv (C : Cf) (Γ : Gt) (E : XK) (i : Nat) (ta : TA) : List (Nat × Nat) → TE
  | [] => fun _ _ _ => False
  | (c, k) :: r => fun σ H Q => (∃ f, C.kv c = .ref f ∧ tCallL i f (spR C (Γ.run k)) [] E ta σ H Q) ∨ tCv C Γ E i ta r σ H Q
def tLmC (C : Cf) (Γ : Gt) (E : XK) (i : Nat) (ta : TA) : List (Nat × Nat) → TE
  | [] => fun _ _ _ => False
  | (c, k) :: r => fun σ H Q => tCallLm (C.lm c) i (spR C (Γ.run k)) E ta σ H Q ∨ tLmC C Γ E i ta r σ H Q
/-- what the law's own kinds make of a lambda -/
def TKinds (C : Cf) (kd : Nat → List Bool) : (XK → Hp → VK → Prop) → Hp → VK → Prop := fun tl H Q => ∀ l, H l = none → tl (fun cls d H' => d = none ∧ ∃ c, cls = .ref (C.Cl c) ∧ (kd c).isEmpty = false ∧ ∀ H2 p, Same H' H2 → H' p = none → H2 p = some (.lst ((kd c).map V.bl)) → Q (.ref p) H2) (upd H l (.lst [])) fun _ H' => ∃ v, (some (some (V.ref l)) : Option (Option V)) = some (some v) ∧ Q v H'
mutual
def rd (C : Cf) (Γ : Gt) : X → TE
  | .var i => tVar i
  | .cn v => tC (vOf v)
  | .kon k => tC (C.kv k)
  | .o1 o a => rd1 C o (rd C Γ a)
  | .o2 o a b => rd2 C o (rd C Γ a) (rd C Γ b)
  | .dget d k x => tDGet2 (rd C Γ d) (rd C Γ k) (rd C Γ x)
  | .chn o o' a b c => tChain o.r o'.r (rd C Γ a) (rd C Γ b) (rd C Γ c)
  | .and a b => tAndV (rd C Γ a) (rd C Γ b)
  | .or a b => tOrV (rd C Γ a) (rd C Γ b)
  | .ite c a b => tIf (rdT C Γ c) (rd C Γ a) (rd C Γ b)
  | .sl a lo hi => tSl (rSlL C.K) (rd C Γ a) (rdO C Γ lo) (rdO C Γ hi)
  | .tup es => tTup (rdA C Γ es)
  | .lst es => tLst (rdA C Γ es)
  | .dnew => tDNewK
  | .call k es => tCall (spR C (Γ.run k)) [] EF (rdA C Γ es)
  | .meth m o es => match Γ.ms[m]? with
    | some p => tMsR C Γ EF p.1 (rd C Γ o) (rdA C Γ es) p.2
    | none => fun _ _ _ => False
  | .new k es => match Γ.nw[k]? with
    | some p => tMake (C.Cl p.1) (spR C (Γ.run p.2)) [] EF (rdA C Γ es)
    | none => fun _ _ _ => False
  | .cv i cs es => tCv C Γ EF i (rdA C Γ es) cs
  | .lamv k => tLamV C.T (C.lm k)
  | .lcall i cs es => tLmC C Γ EF i (rdA C Γ es) cs
  | .kinds b => LamX.tLam C.T (TKinds C Γ.kd) (fun E => rdC C Γ E b)
  | .lc t it e => tLc (rdI C Γ it) (t.rd C.K) tYes (rd C Γ e) t.sl
  | .lcf t it c e => tLc (rdI C Γ it) (t.rd C.K) (rdT C Γ c) (rd C Γ e) t.sl
  | _ => fun _ _ _ => False
def rdC (C : Cf) (Γ : Gt) (E : XK) : X → TE
  | .call k es => tCall (spR C (Γ.run k)) [] E (rdA C Γ es)
  | .meth m o es => match Γ.ms[m]? with
    | some p => tMsR C Γ E p.1 (rd C Γ o) (rdA C Γ es) p.2
    | none => fun _ _ _ => False
  | .new k es => match Γ.nw[k]? with
    | some p => tMake (C.Cl p.1) (spR C (Γ.run p.2)) [] E (rdA C Γ es)
    | none => fun _ _ _ => False
  | .cv i cs es => tCv C Γ E i (rdA C Γ es) cs
  | .lcall i cs es => tLmC C Γ E i (rdA C Γ es) cs
  | _ => fun _ _ _ => False
def rdA (C : Cf) (Γ : Gt) : X → TA
  | .nil => tNil
  | .cons a r => tCons (rd C Γ a) (rdA C Γ r)
  | _ => fun _ _ _ => False
def rdO (C : Cf) (Γ : Gt) : X → TO
  | .nil => tNoPart
  | .cons a _ => tPart (rd C Γ a)
  | _ => fun _ _ _ => False
def rdT (C : Cf) (Γ : Gt) : X → TT
  | .o1 .not a => tNot (rdT C Γ a)
  | .and a b => tAnd (rdT C Γ a) (rdT C Γ b)
  | .or a b => tOr (rdT C Γ a) (rdT C Γ b)
  | .var i => tB (tVar i)
  | .o2 o a b => tB (rd2 C o (rd C Γ a) (rd C Γ b))
  | .o1 o a => tB (rd1 C o (rd C Γ a))
  | .chn o o' a b c => tB (tChain o.r o'.r (rd C Γ a) (rd C Γ b) (rd C Γ c))
  | .call k es => tB (tCall (spR C (Γ.run k)) [] EF (rdA C Γ es))
  | .meth m o es => tB (match Γ.ms[m]? with
    | some p => tMsR C Γ EF p.1 (rd C Γ o) (rdA C Γ es) p.2
    | none => fun _ _ _ => False)
  | _ => fun _ _ _ => False
def rdI (C : Cf) (Γ : Gt) : X → TI
  | .itL a => iList C.K (rd C Γ a)
  | .itT a => iTup C.K (rd C Γ a)
  | .itR a => iRng1 (tCons (rd C Γ a) tNil)
  | .itR2 a b => iRng2 (tCons (rd C Γ a) (tCons (rd C Γ b) tNil))
  | .itZ a b => iZip C.K (tCons (rd C Γ a) (tCons (rd C Γ b) tNil))
  | .itE a => iEnum C.K (tCons (rd C Γ a) tNil)
  | _ => fun _ _ _ => False
end
end R

namespace R
open PySem L2
open G (Tg Bo Co Ty5)
def SgR (C : Cf) (α : Nat → Addr) (n : Nat) (H : Hp) (σ : Sg) (s : St) : Prop := s.length = σ.length ∧ ∀ (i : Nat) v, σ[i]? = some (some v) → ∃ u, s[i]? = some (some u) ∧ Vr C α n H v u
def EvR (C : Cf) (te : TE) (σ : Sg) (h : Hs) (v : RV) (h' : Hs) : Prop := ∀ α H s, Sim C α h H → SgR C α h.n H σ s → ∀ Q : VK, (∀ u α' H', Ev h.n h'.n α α' H H' → Sim C α' h' H' → Vr C α' h'.n H' v u → Q u H') → te s H Q
def ArR (C : Cf) (ta : TA) (σ : Sg) (h : Hs) (vs : List RV) (h' : Hs) : Prop := ∀ α H s, Sim C α h H → SgR C α h.n H σ s → ∀ Q : List V → Hp → Prop, (∀ us α' H', Ev h.n h'.n α α' H H' → Sim C α' h' H' → Vrs C α' h'.n H' vs us → Q us H') → ta s H Q
def TtR (C : Cf) (tt : TT) (σ : Sg) (h : Hs) (b : Bool) (h' : Hs) : Prop := ∀ α H s, Sim C α h H → SgR C α h.n H σ s → ∀ Q : Bool → Hp → Prop, (∀ α' H', Ev h.n h'.n α α' H H' → Sim C α' h' H' → Q b H') → tt s H Q
def PoR (C : Cf) (to : TO) (σ : Sg) (h : Hs) (o : Option Int) (h' : Hs) : Prop := ∀ α H s, Sim C α h H → SgR C α h.n H σ s → ∀ Q : Option Int → Hp → Prop, (∀ α' H', Ev h.n h'.n α α' H H' → Sim C α' h' H' → Q o H') → to s H Q
structure KsR (C : Cf) (Γ : Gt) : Prop where
  rf : ∀ c, ∃ f, C.kv c = .ref f
  ks : ∀ (k : Nat) v, Γ.ks[k]? = some v → ∀ α n H, Vr C α n H v (C.kv k)
  nn : ∀ j, Γ.nn j = true → 0 ≤ C.ρ j
  md : ∀ v j z, Γ.md v j = some z → ∃ i m : Int, (∀ α n H u, Vr C α n H v u → u = .int i) ∧ (∀ α n H, Vr C α n H z (.int m)) ∧ 0 < j ∧ m = i % j
  dv : ∀ v j z, Γ.dv v j = some z → ∃ i m : Int, (∀ α n H u, Vr C α n H v u → u = .int i) ∧ (∀ α n H, Vr C α n H z (.int m)) ∧ ((0 < j ∧ j < 1073741824 ∧ m = i / j) ∨ (j = 0 ∧ m = if i < 0 then -i else i))
  cl : ∀ (c : Nat) r, Γ.sub c = some r → Cls C.K (C.Cl c) ∧ G.TyF C.K (C.Cl c)
  na : ∀ (c : Nat) l, Γ.fn c = some l → Cls C.K (C.Cl c) ∧ ∀ f ∈ l, NoAttr C.K (C.Cl c) f
  sub : ∀ (c : Nat) r (c' : Nat) b, Γ.sub c = some r → r[c']? = some b → PySem.W.kitOne C.K (.ref (C.Cl c)) (.ref (C.Cl (12 + c'))) = some b
section
variable {C : Cf} {Γ : Gt} {α α' : Nat → Addr} {h h0 h1 h2 h3 h' : Hs} {H H' : Hp} {n n' : Nat} {σ : Sg} {s : St} {ta tb tc : TE}
theorem SgR.up (g : SgR C α h.n H σ s) (S : Sim C α h H) (e : Ev h.n n' α α' H H') : SgR C α' n' H' σ s := ⟨g.1, fun i v k => by
  obtain ⟨u, e1, e2⟩ := g.2 i v k
  exact ⟨u, e1, S.vr e e2⟩⟩
/-- one operand -/
def Stp (C : Cf) (r : V → Hp → VK → Prop) (h : Hs) (v : RV) (w : RV) (h' : Hs) : Prop := ∀ α H u, Sim C α h H → Vr C α h.n H v u → ∀ Q : VK, (∀ u' α' H', Ev h.n h'.n α α' H H' → Sim C α' h' H' → Vr C α' h'.n H' w u' → Q u' H') → r u H Q
def Stp2 (C : Cf) (r : V → V → Hp → VK → Prop) (h : Hs) (v v' : RV) (w : RV) (h' : Hs) : Prop := ∀ α H u u2, Sim C α h H → Vr C α h.n H v u → Vr C α h.n H v' u2 → ∀ Q : VK, (∀ u' α' H', Ev h.n h'.n α α' H H' → Sim C α' h' H' → Vr C α' h'.n H' w u' → Q u' H') → r u u2 H Q
theorem ev_un {r : V → Hp → VK → Prop} {v w : RV} (ha : EvR C ta σ h0 v h) (k : Stp C r h v w h') : EvR C (fun s H Q => ta s H fun x H1 => r x H1 Q) σ h0 w h' := fun α H s S g Q q =>
  ha α H s S g _ fun u α1 H1 e1 S1 r1 => k α1 H1 u S1 r1 Q fun u' α2 H2 e2 S2 r2 => q u' α2 H2 (e1.trans e2 S2.inj) S2 r2
theorem ev_bi {r : V → V → Hp → VK → Prop} {v v' w : RV} (ha : EvR C ta σ h0 v h1) (hb : EvR C tb σ h1 v' h) (k : Stp2 C r h v v' w h') : EvR C (fun s H Q => ta s H fun x H1 => tb s H1 fun y H2 => r x y H2 Q) σ h0 w h' := fun α H s S g Q q =>
  ha α H s S g _ fun u α1 H1 e1 S1 r1 => hb α1 H1 s S1 (g.up S e1) _ fun u2 α2 H2 e2 S2 r2 => k α2 H2 u u2 S2 (S1.vr e2 r1) r2 Q fun u' α3 H3 e3 S3 r3 => q u' α3 H3 ((e1.trans e2 S2.inj).trans e3 S3.inj) S3 r3
theorem lstAt_of {v : RV} {m : Nat} {xs : List RV} (e : lstAt h v = some (m, xs)) : v = .rf m ∧ h.get m = some (.lst xs) := by
  unfold lstAt at e
  split at e
  · split at e
    · rename_i ys g
      cases e
      exact ⟨rfl, g⟩
    · cases e
  · cases e
theorem Sim.lst (S : Sim C α h H) {m : Nat} {xs : List RV} (e : h.get m = some (.lst xs)) : ∃ ys, H (α m) = some (.lst ys) ∧ Vrs C α h.n H xs ys := by
  obtain ⟨o, e1, ys, rfl, r⟩ := S.cel m _ e
  exact ⟨ys, e1, r⟩
theorem Sim.dic (S : Sim C α h H) {m : Nat} {xs : List (Key × RV)} (e : h.get m = some (.dic xs)) : ∃ ys, H (α m) = some (.dK ((xs.map (·.1)).zip ys)) ∧ Vrs C α h.n H (xs.map (·.2)) ys := by
  obtain ⟨o, e1, ys, rfl, r⟩ := S.cel m _ e
  exact ⟨ys, e1, r⟩
theorem Sim.ins (S : Sim C α h H) {m c : Nat} {xs : List (Str × RV)} (e : h.get m = some (.ins c xs)) : ∃ dx ys, H (α m) = some (.ins (C.Cl c) dx ((xs.map (·.1)).zip ys)) ∧ Vrs C α h.n H (xs.map (·.2)) ys := by
  obtain ⟨o, e1, dx, ys, rfl, r⟩ := S.cel m _ e
  exact ⟨dx, ys, e1, r⟩
/-- a list of the heap, as it is read -/
theorem Sim.at (S : Sim C α h H) {v : RV} {m : Nat} {xs : List RV} {u : V} (e : lstAt h v = some (m, xs)) (r : Vr C α h.n H v u) : ∃ ys, u = .ref (α m) ∧ H (α m) = some (.lst ys) ∧ Vrs C α h.n H xs ys ∧ m < h.n := by
  obtain ⟨rfl, g⟩ := lstAt_of e
  rw [vr_rf] at r
  obtain ⟨ys, e1, e2⟩ := S.lst g
  exact ⟨ys, r.1, e1, e2, r.2⟩
theorem newL_of {xs : List RV} {w : RV} (e : newL h xs = some (w, h')) : w = .rf h.n ∧ h.new (.lst xs) = some h' ∧ xs.length < 100000 := by
  unfold newL at e
  split at e
  · rename_i hl
    split at e
    · rename_i h2 g
      cases e
      exact ⟨rfl, g, hl⟩
    · cases e
  · cases e
theorem Sim.newl (S : Sim C α h H) {xs : List RV} {ys : List V} {w : RV} (e : newL h xs = some (w, h')) (r : Vrs C α h.n H xs ys) {p : Addr} (hp : H p = none) {Q : VK}
    (q : ∀ u' α' H', Ev h.n h'.n α α' H H' → Sim C α' h' H' → Vr C α' h'.n H' w u' → Q u' H') : Q (.ref p) (upd H p (.lst ys)) := by
  obtain ⟨rfl, g, _⟩ := newL_of e
  obtain ⟨S1, e1, en⟩ := S.alloc (c := .lst xs) (o := .lst ys) hp ⟨ys, rfl, r⟩ g
  exact q _ _ _ e1 S1 (by rw [vr_rf]; exact ⟨by rw [ext_at], by omega⟩)
theorem Sim.same (S : Sim C α h H) {w : RV} {u : V} {Q : VK} (r : Vr C α h.n H w u) (q : ∀ u' α' H', Ev h.n h.n α α' H H' → Sim C α' h H' → Vr C α' h.n H' w u' → Q u' H') : Q u H := q u α H .refl S r
theorem Sim.sto (S : Sim C α h H) {i : Nat} {xs : List RV} {ys : List V} {w : RV} {u : V} (hi : i < h.n) (r : Vrs C α h.n H xs ys) (rw' : Vr C α h.n H w u) {Q : VK}
    (q : ∀ u' α' H', Ev h.n (h.put i (.lst xs)).n α α' H H' → Sim C α' (h.put i (.lst xs)) H' → Vr C α' (h.put i (.lst xs)).n H' w u' → Q u' H') : Q u (upd H (α i) (.lst ys)) := by
  obtain ⟨S1, e1⟩ := S.store (c := .lst xs) (o := .lst ys) hi ⟨ys, rfl, r⟩
  exact q _ _ _ e1 S1 (S.vr e1 rw')
theorem sz_of {m : Nat} (hm : m ≤ 1000000) : m ≤ sizeLine := Nat.le_trans hm (by decide)
theorem sz_lt {m : Nat} (hm : m < 1000000) : m < sizeLine := Nat.lt_of_lt_of_le hm (by decide)
/-! lists of flat ones -/
theorem intsR_of : ∀ {ds : List RV} {ns : List Int} {vs : List V}, intsR ds = some ns → Vrs C α n H ds vs → vs = ns.map V.int
  | [], ns, vs, h, r => by
    simp only [intsR, Option.some.injEq] at h
    subst h
    rw [vrs_nil] at r
    exact r
  | d :: ds, ns, vs, h, r => by
    cases d with
    | int i =>
      simp only [intsR] at h
      split at h
      · rename_i ms e
        cases h
        rw [vrs_cons] at r
        obtain ⟨v, us, rfl, r1, r2⟩ := r
        rw [vr_int] at r1
        subst r1
        rw [intsR_of e r2]
        rfl
      · cases h
    | _ => simp [intsR] at h
theorem blsR_of : ∀ {ds : List RV} {ns : List Bool} {vs : List V}, blsR ds = some ns → Vrs C α n H ds vs → vs = ns.map V.bl
  | [], ns, vs, h, r => by
    simp only [blsR, Option.some.injEq] at h
    subst h
    rw [vrs_nil] at r
    exact r
  | d :: ds, ns, vs, h, r => by
    cases d with
    | bl i =>
      simp only [blsR] at h
      split at h
      · rename_i ms e
        cases h
        rw [vrs_cons] at r
        obtain ⟨v, us, rfl, r1, r2⟩ := r
        rw [vr_bl] at r1
        subst r1
        rw [blsR_of e r2]
        rfl
      · cases h
    | _ => simp [blsR] at h
theorem strsR_of : ∀ {ds : List RV} {ns : List Str} {vs : List V}, strsR ds = some ns → Vrs C α n H ds vs → vs = ns.map V.str
  | [], ns, vs, h, r => by
    simp only [strsR, Option.some.injEq] at h
    subst h
    rw [vrs_nil] at r
    exact r
  | d :: ds, ns, vs, h, r => by
    cases d with
    | str i =>
      simp only [strsR] at h
      split at h
      · rename_i ms e
        cases h
        rw [vrs_cons] at r
        obtain ⟨v, us, rfl, r1, r2⟩ := r
        rw [vr_str] at r1
        subst r1
        rw [strsR_of e r2]
        rfl
      · cases h
    | _ => simp [strsR] at h
theorem tupsR_of : ∀ {ds : List RV} {nss : List (List Int)} {vs : List V}, tupsR ds = some nss → Vrs C α n H ds vs → ∃ ks : List (Addr × List Int), vs = ks.map (fun p => V.ref p.1) ∧ ks.map (·.2) = nss ∧ ∀ p ∈ ks, SqT C.K H p.1 (p.2.map V.int)
  | [], nss, vs, h, r => by
    simp only [tupsR, Option.some.injEq] at h
    rw [vrs_nil] at r
    subst h r
    exact ⟨[], rfl, rfl, by simp⟩
  | d :: ds, nss, vs, h, r => by
    cases d with
    | tp xs =>
      simp only [tupsR] at h
      split at h
      · rename_i ns e1
        split at h
        · rename_i nss' e2
          cases h
          rw [vrs_cons] at r
          obtain ⟨v, us, rfl, r1, r2⟩ := r
          rw [vr_tp] at r1
          obtain ⟨a, ws, rfl, h1, k1⟩ := r1
          obtain ⟨ks, e3, e4, e5⟩ := tupsR_of e2 r2
          have e6 := intsR_of e1 k1
          refine ⟨(a, ns) :: ks, by simp [e3], by simp [e4], fun p hp => ?_⟩
          rcases List.mem_cons.mp hp with rfl | hp
          · rw [← e6]; exact h1
          · exact e5 p hp
        · cases h
      · cases h
    | _ => simp [tupsR] at h
theorem vrs_bls (bs : List Bool) : Vrs C α n H (bs.map RV.bl) (bs.map V.bl) := by
  induction bs with
  | nil => exact .nil
  | cons b bs ih => exact .cons (by rw [vr_bl]) ih
theorem vrs_ints (bs : List Int) : Vrs C α n H (bs.map RV.int) (bs.map V.int) := by
  induction bs with
  | nil => exact .nil
  | cons b bs ih => exact .cons (by rw [vr_int]) ih
/-! data of the other layer -/
theorem mapO_get {α β : Type} {f : α → Option β} : ∀ {xs : List α} {ys : List β}, mapO f xs = some ys → ys.length = xs.length ∧ ∀ (i : Nat) x, xs[i]? = some x → ∃ y, ys[i]? = some y ∧ f x = some y
  | [], ys, h => by
    simp only [mapO, Option.some.injEq] at h
    subst h
    exact ⟨rfl, fun i x e => by simp at e⟩
  | x :: xs, ys, h => by
    simp only [mapO] at h
    split at h
    · rename_i y e
      split at h
      · rename_i zs e2
        cases h
        obtain ⟨h1, h2⟩ := mapO_get e2
        refine ⟨by simp [h1], fun i x' e' => ?_⟩
        cases i with
        | zero => simp at e'; subst e'; exact ⟨y, rfl, e⟩
        | succ i =>
          obtain ⟨z, e3, e4⟩ := h2 i x' (by simpa using e')
          exact ⟨z, by simpa using e3, e4⟩
      · cases h
    · cases h
theorem toD_dps (S : Sim C α h H) (f : Nat) (ih : ∀ {v : RV} {d : G.D} {u : V}, toD f h v = some d → Vr C α h.n H v u → Dp C.K H u d.py ∧ d.plain = true) : ∀ {xs : List RV} {ds : List G.D} {us : List V}, mapO (toD f h) xs = some ds → Vrs C α h.n H xs us → DpAll C.K H us (G.D.pys ds) ∧ G.D.plains ds = true
  | [], ds, us, e, r => by
    simp only [mapO, Option.some.injEq] at e
    subst e
    rw [vrs_nil] at r
    subst r
    exact ⟨.nil, rfl⟩
  | x :: xs, ds, us, e, r => by
    simp only [mapO] at e
    split at e
    · rename_i y e1
      split at e
      · rename_i ys e2
        cases e
        rw [vrs_cons] at r
        obtain ⟨v, vs, rfl, r1, r2⟩ := r
        obtain ⟨a1, a2⟩ := ih e1 r1
        obtain ⟨b1, b2⟩ := toD_dps S f ih e2 r2
        refine ⟨.cons a1 b1, ?_⟩
        simp only [G.D.plains, Bool.and_eq_true]
        exact ⟨a2, b2⟩
      · cases e
    · cases e
theorem toD_dp (S : Sim C α h H) : ∀ (f : Nat) {v : RV} {d : G.D} {u : V}, toD f h v = some d → Vr C α h.n H v u → Dp C.K H u d.py ∧ d.plain = true
  | 0, v, d, u, e, r => by simp [toD] at e
  | f + 1, v, d, u, e, r => by
    cases v with
    | non => simp only [toD, Option.some.injEq] at e; subst e; rw [vr_non] at r; subst r; exact ⟨.non, rfl⟩
    | bl b => simp only [toD, Option.some.injEq] at e; subst e; rw [vr_bl] at r; subst r; exact ⟨.bl _, rfl⟩
    | int b => simp only [toD, Option.some.injEq] at e; subst e; rw [vr_int] at r; subst r; exact ⟨.int _, rfl⟩
    | str b => simp only [toD, Option.some.injEq] at e; subst e; rw [vr_str] at r; subst r; exact ⟨.str _, rfl⟩
    | lin c k j => simp [toD] at e
    | cst k => simp [toD] at e
    | lm k => simp [toD] at e
    | tp xs =>
      simp only [toD] at e
      split at e
      · rename_i ds e1
        cases e
        rw [vr_tp] at r
        obtain ⟨a, ys, rfl, h1, h2⟩ := r
        obtain ⟨a1, a2⟩ := toD_dps S f (toD_dp S f) e1 h2
        exact ⟨.tup h1 a1, by simpa only [G.D.plain] using a2⟩
      · cases e
    | rf m =>
      simp only [toD] at e
      split at e
      · rename_i xs g
        split at e
        · rename_i ds e1
          cases e
          rw [vr_rf] at r
          obtain ⟨rfl, _⟩ := r
          obtain ⟨ys, h1, h2⟩ := S.lst g
          obtain ⟨a1, a2⟩ := toD_dps S f (toD_dp S f) e1 h2
          exact ⟨.lst (SqL.of h1) a1, by simpa only [G.D.plain] using a2⟩
        · cases e
      · cases e
end
end R

namespace R
open PySem L2
open G (Tg Bo Co Ty5)
section
variable {C : Cf} {Γ : Gt} {α α' : Nat → Addr} {h h0 h1 h2 h3 h' : Hs} {H H' : Hp} {n n' : Nat} {σ : Sg} {s : St} {ta tb tc : TE}
theorem kit_dict (K : PySem.W.Frag) : ∀ t : Ty5, PySem.W.kitOne K (.type "dict") (.type t.nm) = some false
  | .int => kit_ty (by decide +kernel)
  | .bool => kit_ty (by decide +kernel)
  | .str => kit_ty (by decide +kernel)
  | .list => kit_ty (by decide +kernel)
  | .tuple => kit_ty (by decide +kernel)
theorem isTR_ok {t : Ty5} {v : RV} {b : Bool} {u : V} (S : Sim C α h H) (e : isTR h t v = some b) (r : Vr C α h.n H v u) : ∃ tv, TyX C.K H u tv ∧ PySem.W.kitOne C.K tv (.type t.nm) = some b := by
  obtain ⟨k1, k2, k3, k4, k5, k6⟩ := G.kit_all C.K t
  cases v with
  | non => rw [vr_non] at r; subst r; exact ⟨_, .base .non, by rw [k1, ← e]; cases t <;> rfl⟩
  | bl x => rw [vr_bl] at r; subst r; exact ⟨_, .base (.bl x), by rw [k2, ← e]; cases t <;> rfl⟩
  | int x => rw [vr_int] at r; subst r; exact ⟨_, .base (.int x), by rw [k3, ← e]; cases t <;> rfl⟩
  | lin c k j => rw [vr_lin] at r; subst r; exact ⟨_, .base (.int _), by rw [k3, ← e]; cases t <;> rfl⟩
  | str x => rw [vr_str] at r; subst r; exact ⟨_, .base (.str x), by rw [k4, ← e]; cases t <;> rfl⟩
  | tp x => rw [vr_tp] at r; obtain ⟨a, vs, rfl, h1, _⟩ := r; exact ⟨_, G.ty_sqt h1, by rw [k6, ← e]; cases t <;> rfl⟩
  | cst k => cases t <;> simp [isTR] at e
  | lm k => cases t <;> simp [isTR] at e
  | rf m =>
    rw [vr_rf] at r
    obtain ⟨rfl, hm⟩ := r
    have e2 : (match h.get m with
      | some (.lst _) => some (match t with | .list => true | _ => false)
      | some (.dic _) => some false
      | _ => none) = some b := by cases t <;> exact e
    split at e2
    · rename_i xs g
      obtain ⟨ys, e1, _⟩ := S.lst g
      exact ⟨_, .base (.lst e1), by rw [k5, ← e2]; cases t <;> rfl⟩
    · rename_i xs g
      obtain ⟨ys, e1, _⟩ := S.dic g
      cases e2
      exact ⟨_, .base (.dK e1), kit_dict C.K t⟩
    · cases e2
theorem fldR_of {f : Str} : ∀ {fs : List (Str × RV)} {ys : List V} {w : RV}, fldR f fs = some w → Vrs C α n H (fs.map (·.2)) ys → ∃ u, ((fs.map (·.1)).zip ys).lookup f = some u ∧ Vr C α n H w u
  | [], _, _, h, _ => by simp [fldR] at h
  | (q, v) :: r, ys, w, h, k => by
    simp only [List.map_cons] at k ⊢
    rw [vrs_cons] at k
    obtain ⟨u, us, rfl, k1, k2⟩ := k
    rw [List.zip_cons_cons, List.lookup_cons]
    simp only [fldR] at h
    split at h
    · rename_i e
      cases h
      subst e
      exact ⟨u, by simp, k1⟩
    · rename_i e
      obtain ⟨x, e1, e2⟩ := fldR_of h k2
      exact ⟨x, by rw [show (f == q) = false by simpa using fun z => e z.symm]; exact e1, e2⟩
theorem fld_none {f : Str} : ∀ {fs : List (Str × RV)} {ys : List V}, (fs.all fun p => p.1 != f) = true → ((fs.map (·.1)).zip ys).lookup f = none
  | [], _, _ => by simp
  | (q, v) :: r, [], _ => by simp
  | (q, v) :: r, y :: ys, h => by
    simp only [List.all_cons, Bool.and_eq_true] at h
    rw [List.map_cons, List.zip_cons_cons, List.lookup_cons]
    rw [show (f == q) = false by simpa using fun z => (by simpa using h.1 : ¬ q = f) z.symm]
    exact fld_none h.2
theorem oneOf_of {m : G.D} : ∀ {vs : List RV} {ds : List G.D} {w : RV}, oneOf m vs ds = some w → ∃ i : Nat, vs[i]? = some w ∧ (∃ d, ds[i]? = some d ∧ d.eqv m = true) ∧ ∀ (j : Nat) d, ds[j]? = some d → d.eqv m = true → j = i
  | [], _, _, h => by simp [oneOf] at h
  | v :: vs, [], _, h => by simp [oneOf] at h
  | v :: vs, d :: ds, w, h => by
    simp only [oneOf] at h
    split at h
    · rename_i e
      split at h
      · cases h
      · rename_i e2
        cases h
        refine ⟨0, rfl, ⟨d, rfl, e⟩, fun j d' hj hd => ?_⟩
        cases j with
        | zero => rfl
        | succ j =>
          rw [List.getElem?_cons_succ] at hj
          exact absurd (List.any_eq_true.mpr ⟨d', List.mem_of_getElem? hj, hd⟩) e2
    · rename_i e
      obtain ⟨i, h1, ⟨d', h2, h3⟩, h4⟩ := oneOf_of h
      refine ⟨i + 1, by simpa using h1, ⟨d', by simpa using h2, h3⟩, fun j d2 hj hd => ?_⟩
      cases j with
      | zero =>
        simp only [List.getElem?_cons_zero, Option.some.injEq] at hj
        subst hj
        exact absurd hd e
      | succ j =>
        rw [List.getElem?_cons_succ] at hj
        rw [h4 j d2 hj hd]
/-- the picked one is the least (the greatest) -/
theorem pick_ok {xs : List RV} {d m : G.D} {ds : List G.D} {ys : List V} {w : RV} {M : PyData} (S : Sim C α h H) (e : mapO (toD 4 h) xs = some (d :: ds)) (r : Vrs C α h.n H xs ys) (hm : G.mmOk (d :: ds) = true) (mem : m ∈ d :: ds) (hM : m.py = M) (o : oneOf m xs (d :: ds) = some w)
    (i : Nat) (u : V) (hu : ys[i]? = some u) (hd : ∀ x, Dp C.K H u x → x = M) : Vr C α h.n H w u := by
  obtain ⟨f1, f2, f3⟩ := G.mm_facts hm
  obtain ⟨l1, l2⟩ := mapO_get e
  obtain ⟨i0, e0, ⟨d0, e1, e2⟩, uq⟩ := oneOf_of o
  have hi : i < ys.length := (List.getElem?_eq_some_iff.mp hu).1
  rw [r.len] at hi
  obtain ⟨x, hx⟩ : ∃ x, xs[i]? = some x := ⟨xs[i], List.getElem?_eq_getElem hi⟩
  obtain ⟨u', hu', rx⟩ := r.get hx
  rw [hu] at hu'
  cases hu'
  obtain ⟨di, hdi, te⟩ := l2 i x hx
  obtain ⟨dp, pl⟩ := toD_dp S 4 te rx
  have e3 : di.py = M := hd _ dp
  have e4 : di = m := G.py_inj pl (f1 m mem) (by rw [e3, hM])
  have e5 : di.eqv m = true := by
    rw [e4]
    refine PySem.W.eqv_refl_alike m.py (f2.1 m.py ?_ m.py ?_) <;> (rw [G.pys_map]; exact List.mem_map.mpr ⟨m, mem, rfl⟩)
  have e6 := uq i di hdi e5
  subst e6
  rw [e0] at hx
  cases hx
  exact rx
theorem rng_sdd (ns : List Int) : (G.sdd ns).length ≤ ns.length := by
  have ins : ∀ (x : Int) (l : List Int), (G.insU x l).length ≤ l.length + 1 := by
    intro x l
    induction l with
    | nil => simp [G.insU]
    | cons y r ih =>
      unfold G.insU
      split
      · simp
      · split
        · simp
        · simp only [List.length_cons]; omega
  induction ns with
  | nil => simp [G.sdd]
  | cons x l ih =>
    show (G.insU x (G.sdd l)).length ≤ _
    have := ins x (G.sdd l)
    simp only [List.length_cons]
    omega
theorem nodup_sdd : ∀ {ns : List Int}, (G.sdd ns).length = ns.length → ns.Nodup
  | [], _ => by simp
  | x :: l, h => by
    have ins : ∀ (x : Int) (l : List Int), x ∈ l → (G.insU x l).length ≤ l.length ∨ ¬ l.Pairwise (· < ·) := by
      intro x l
      induction l with
      | nil => intro h; simp at h
      | cons y r ih =>
        intro hx
        by_cases hp : (y :: r).Pairwise (· < ·)
        · obtain ⟨h1, h2⟩ := List.pairwise_cons.mp hp
          unfold G.insU
          split
          · rename_i hlt
            rcases List.mem_cons.mp hx with e | e
            · omega
            · have := h1 x e; omega
          · split
            · exact .inl (Nat.le_refl _)
            · rename_i n1 n2
              rcases List.mem_cons.mp hx with e | e
              · exact absurd e n2
              · rcases ih e with z | z
                · exact .inl (by simp only [List.length_cons]; omega)
                · exact absurd h2 z
        · exact .inr hp
    have h : (G.insU x (G.sdd l)).length = l.length + 1 := h
    have hl := rng_sdd l
    have hu : (G.insU x (G.sdd l)).length ≤ (G.sdd l).length + 1 := by
      have key : ∀ (x : Int) (l : List Int), (G.insU x l).length ≤ l.length + 1 := by
        intro x l
        induction l with
        | nil => simp [G.insU]
        | cons y r ih =>
          unfold G.insU
          split
          · simp
          · split
            · simp
            · simp only [List.length_cons]; omega
      exact key x _
    rw [List.nodup_cons]
    refine ⟨fun hx => ?_, nodup_sdd (by omega)⟩
    rcases ins x (G.sdd l) ((G.sdd_mem l x).mpr hx) with z | z
    · omega
    · exact z (G.sdd_lt l)
theorem f1_ok (hk : KsR C Γ) {o : O1} {v w : RV} (ha : EvR C ta σ h0 v h) (e : f1 Γ o v h = some (w, h')) : EvR C (rd1 C o ta) σ h0 w h' := by
  cases o with
  | neg =>
    refine ev_un (r := rU fun i => .int (-i)) ha fun α H u S r Q q => ?_
    simp only [f1] at e
    split at e
    · cases e
      rw [vr_int] at r
      subst r
      exact ⟨_, rfl, S.same (by rw [vr_int]) q⟩
    · cases e
      rw [vr_lin] at r
      subst r
      refine ⟨_, rfl, S.same ?_ q⟩
      rw [vr_lin]
      show V.int (-(_ + _)) = _
      rw [Int.neg_add, Int.neg_mul]
    · cases e
  | not =>
    refine ev_un (r := fun x H1 Q => ∃ c, x = .bl c ∧ Q (.bl (!c)) H1) ha fun α H u S r Q q => ?_
    simp only [f1] at e
    split at e
    · cases e
      rw [vr_bl] at r
      exact ⟨_, r, S.same (by rw [vr_bl]) q⟩
    · cases e
  | isN =>
    refine ev_un (r := fun x H1 Q => Q (.bl (decide (x = .non))) H1) ha fun α H u S r Q q => ?_
    have key : ∀ b, w = .bl b → decide (u = .non) = b → h' = h → Q (.bl (decide (u = .non))) H := fun b e1 e2 e3 => by
      subst e1 e3
      exact S.same (by rw [vr_bl, e2]) q
    cases v <;> simp only [f1, Option.some.injEq, Prod.mk.injEq] at e <;> first
      | exact (Option.some_ne_none _ e.symm).elim
      | skip
    · rw [vr_non] at r; exact key _ e.1.symm (by rw [r]; rfl) e.2.symm
    · rw [vr_bl] at r; exact key _ e.1.symm (by rw [r]; rfl) e.2.symm
    · rw [vr_int] at r; exact key _ e.1.symm (by rw [r]; rfl) e.2.symm
    · rw [vr_lin] at r; exact key _ e.1.symm (by rw [r]; rfl) e.2.symm
    · rw [vr_str] at r; exact key _ e.1.symm (by rw [r]; rfl) e.2.symm
    · rw [vr_tp] at r; obtain ⟨a, ys, r, _⟩ := r; exact key _ e.1.symm (by rw [r]; rfl) e.2.symm
    · rw [vr_rf] at r; exact key _ e.1.symm (by rw [r.1]; rfl) e.2.symm
  | notN =>
    refine ev_un (r := fun x H1 Q => Q (.bl (!decide (x = .non))) H1) ha fun α H u S r Q q => ?_
    have key : ∀ b, w = .bl b → (!decide (u = .non)) = b → h' = h → Q (.bl (!decide (u = .non))) H := fun b e1 e2 e3 => by
      subst e1 e3
      exact S.same (by rw [vr_bl, e2]) q
    cases v <;> simp only [f1, Option.some.injEq, Prod.mk.injEq] at e <;> first
      | exact (Option.some_ne_none _ e.symm).elim
      | skip
    · rw [vr_non] at r; exact key _ e.1.symm (by rw [r]; rfl) e.2.symm
    · rw [vr_bl] at r; exact key _ e.1.symm (by rw [r]; rfl) e.2.symm
    · rw [vr_int] at r; exact key _ e.1.symm (by rw [r]; rfl) e.2.symm
    · rw [vr_lin] at r; exact key _ e.1.symm (by rw [r]; rfl) e.2.symm
    · rw [vr_str] at r; exact key _ e.1.symm (by rw [r]; rfl) e.2.symm
    · rw [vr_tp] at r; obtain ⟨a, ys, r, _⟩ := r; exact key _ e.1.symm (by rw [r]; rfl) e.2.symm
    · rw [vr_rf] at r; exact key _ e.1.symm (by rw [r.1]; rfl) e.2.symm
  | len =>
    refine ev_un (r := fun x H1 Q => G.rLenS C.K [x] H1 Q) ha fun α H u S r Q q => ?_
    simp only [f1] at e
    split at e
    · cases e
      rw [vr_tp] at r
      obtain ⟨a, ys, rfl, r1, r2⟩ := r
      exact ⟨a, ys, rfl, .inr r1, S.same (by rw [vr_int, r2.len]) q⟩
    · split at e
      · rename_i m xs g
        cases e
        obtain ⟨ys, rfl, r1, r2, _⟩ := S.at g r
        exact ⟨_, ys, rfl, .inl (SqL.of r1), S.same (by rw [vr_int, r2.len]) q⟩
      · cases e
  | toL =>
    refine ev_un (r := fun x H1 Q => G.rListS C.K [x] H1 Q) ha fun α H u S r Q q => ?_
    simp only [f1] at e
    split at e
    · rw [vr_tp] at r
      obtain ⟨a, ys, rfl, r1, r2⟩ := r
      exact ⟨a, ys, rfl, .inr r1, fun p hp => S.newl e r2 hp q⟩
    · split at e
      · rename_i m xs g
        obtain ⟨ys, rfl, r1, r2, _⟩ := S.at g r
        exact ⟨_, ys, rfl, .inl (SqL.of r1), fun p hp => S.newl e r2 hp q⟩
      · cases e
  | tupL =>
    refine ev_un (r := fun x H1 Q => G.rTupS C.K [x] H1 Q) ha fun α H u S r Q q => ?_
    simp only [f1] at e
    split at e
    · rename_i m xs g
      cases e
      obtain ⟨ys, rfl, r1, r2, _⟩ := S.at g r
      refine ⟨_, ys, rfl, .inl ⟨SqL.of r1, fun p hp => ?_⟩⟩
      obtain ⟨S1, e1⟩ := S.side (o := .tup ys) hp
      refine q _ _ _ e1 S1 ?_
      rw [vr_tp]
      exact ⟨p, ys, rfl, SqT.of upd_same, S.vrs e1 r2⟩
    · cases e
  | lenSet =>
    refine ev_un (r := fun x H1 Q => ∃ (l : Addr) (ks : List (Addr × List Int)), x = V.ref l ∧ SqL C.K H1 l (ks.map fun p => V.ref p.1) ∧ (∀ p ∈ ks, SqT C.K H1 p.1 (p.2.map V.int)) ∧ ks.length < 64 ∧ ∀ L : List (List Int), L.Nodup → (∀ k, k ∈ L ↔ k ∈ ks.map (·.2)) → Q (.int (L.length : Nat)) H1) ha fun α H u S r Q q => ?_
    simp only [f1] at e
    split at e
    · rename_i m xs g
      split at e
      · rename_i nss e1
        split at e
        · rename_i hl
          cases e
          obtain ⟨ys, rfl, r1, r2, _⟩ := S.at g r
          obtain ⟨ks, rfl, e2, e3⟩ := tupsR_of e1 r2
          refine ⟨_, ks, rfl, SqL.of r1, e3, ?_, fun L nd mem => ?_⟩
          · rw [← e2, List.length_map] at hl
            exact hl
          · have : L.length = (G.ddp nss).length := by
              refine Nat.le_antisymm (G.nodup_le nd fun x hx => ?_) (G.nodup_le (G.ddp_nodup _) fun x hx => ?_)
              · rw [G.ddp_mem, ← e2]; exact (mem x).mp hx
              · rw [G.ddp_mem, ← e2] at hx; exact (mem x).mpr hx
            rw [this]
            exact S.same (by rw [vr_int]) q
        · cases e
      · cases e
    · cases e
  | all =>
    refine ev_un (r := fun x H1 Q => rAll C.K [x] H1 Q) ha fun α H u S r Q q => ?_
    simp only [f1] at e
    split at e
    · rename_i m xs g
      split at e
      · rename_i bs e1
        cases e
        obtain ⟨ys, rfl, r1, r2, _⟩ := S.at g r
        have e2 := blsR_of e1 r2
        subst e2
        exact ⟨_, bs, rfl, SqL.of r1, S.same (by rw [vr_bl]) q⟩
      · cases e
    · cases e
  | any =>
    refine ev_un (r := fun x H1 Q => rAny C.K [x] H1 Q) ha fun α H u S r Q q => ?_
    simp only [f1] at e
    split at e
    · rename_i m xs g
      split at e
      · rename_i bs e1
        cases e
        obtain ⟨ys, rfl, r1, r2, _⟩ := S.at g r
        have e2 := blsR_of e1 r2
        subst e2
        exact ⟨_, bs, rfl, SqL.of r1, S.same (by rw [vr_bl]) q⟩
      · cases e
    · cases e
  | sum =>
    refine ev_un (r := fun x H1 Q => rSum C.K [x] H1 Q) ha fun α H u S r Q q => ?_
    simp only [f1] at e
    split at e
    · rename_i m xs g
      split at e
      · rename_i bs e1
        cases e
        obtain ⟨ys, rfl, r1, r2, _⟩ := S.at g r
        have e2 := intsR_of e1 r2
        subst e2
        exact ⟨_, bs, rfl, SqL.of r1, S.same (by rw [vr_int]) q⟩
      · cases e
    · cases e
  | rev =>
    refine ev_un (r := fun x H1 Q => ∃ a xs, x = .ref a ∧ SqL C.K H1 a xs ∧ ∀ p, H1 p = none → Q (.ref p) (upd H1 p (.lst xs.reverse))) ha fun α H u S r Q q => ?_
    simp only [f1] at e
    split at e
    · rename_i m xs g
      obtain ⟨ys, rfl, r1, r2, _⟩ := S.at g r
      exact ⟨_, ys, rfl, SqL.of r1, fun p hp => S.newl e r2.rev hp q⟩
    · cases e
  | minL =>
    refine ev_un (r := fun x H1 Q => G.rMinDat C.K [x] H1 Q) ha fun α H u S r Q q => ?_
    simp only [f1] at e
    split at e
    · rename_i m xs g
      split at e
      · rename_i d ds e1
        split at e
        · rename_i e2
          split at e
          · rename_i w' e3
            cases e
            obtain ⟨ys, rfl, r1, r2, _⟩ := S.at g r
            obtain ⟨m1, m2, m3⟩ := G.mm_facts e2
            obtain ⟨a1, a2⟩ := toD_dps S 4 (toD_dp S 4) e1 r2
            exact ⟨_, ys, d.py, G.D.pys ds, rfl, SqL.of r1, a1, m2, m3, fun i v hv hu => S.same (pick_ok S e1 r2 e2 (G.minF_mem ds d) (G.minF_py ds d) e3 i v hv hu) q⟩
          · cases e
        · cases e
      · cases e
    · cases e
  | maxL =>
    refine ev_un (r := fun x H1 Q => G.rMaxDat C.K [x] H1 Q) ha fun α H u S r Q q => ?_
    simp only [f1] at e
    split at e
    · rename_i m xs g
      split at e
      · rename_i d ds e1
        split at e
        · rename_i e2
          split at e
          · rename_i w' e3
            cases e
            obtain ⟨ys, rfl, r1, r2, _⟩ := S.at g r
            obtain ⟨m1, m2, m3⟩ := G.mm_facts e2
            obtain ⟨a1, a2⟩ := toD_dps S 4 (toD_dp S 4) e1 r2
            exact ⟨_, ys, d.py, G.D.pys ds, rfl, SqL.of r1, a1, m2, m3, fun i v hv hu => S.same (pick_ok S e1 r2 e2 (G.maxF_mem ds d) (G.maxF_py ds d) e3 i v hv hu) q⟩
          · cases e
        · cases e
      · cases e
    · cases e
  | isC c' =>
    refine ev_un (r := fun x H1 Q => rIsi C.K [x, .ref (C.Cl (12 + c'))] H1 Q) ha fun α H u S r Q q => ?_
    simp only [f1] at e
    split at e
    · split at e
      · rename_i m c fs g
        split at e
        · rename_i l e1
          split at e
          · rename_i b e2
            cases e
            rw [vr_rf] at r
            obtain ⟨rfl, _⟩ := r
            obtain ⟨dx, ys, r1, r2⟩ := S.ins g
            obtain ⟨cl, ty⟩ := hk.cl c l e1
            exact ⟨_, _, _, _, b, rfl, .own _, .base (.ins r1 cl ty.a ty.b ty.c ty.d), hk.sub c l c' b e1 e2, S.same (by rw [vr_bl]) q⟩
          · cases e
        · cases e
      · cases e
    · cases e
  | isI t =>
    refine ev_un (r := fun x H1 Q => rIsi C.K [x, .ty t.nm] H1 Q) ha fun α H u S r Q q => ?_
    simp only [f1] at e
    split at e
    · rename_i b e1
      cases e
      obtain ⟨tv, k1, k2⟩ := isTR_ok S e1 r
      exact ⟨u, .ty t.nm, tv, .type t.nm, b, rfl, .ty _, k1, k2, S.same (by rw [vr_bl]) q⟩
    · cases e
  | fld f =>
    refine ev_un (r := fun x H1 Q => ∃ a Cc dx fs v, x = .ref a ∧ H1 a = some (.ins Cc dx fs) ∧ Cls C.K Cc ∧ NoAttr C.K Cc f ∧ fs.lookup f = some v ∧ Q v H1) ha fun α H u S r Q q => ?_
    simp only [f1] at e
    split at e
    · split at e
      · rename_i m c fs g
        split at e
        · rename_i l e1
          split at e
          · rename_i e2
            split at e
            · rename_i w' e3
              cases e
              rw [vr_rf] at r
              obtain ⟨rfl, _⟩ := r
              obtain ⟨dx, ys, r1, r2⟩ := S.ins g
              obtain ⟨cl, na⟩ := hk.na c l e1
              obtain ⟨u, l1, l2⟩ := fldR_of e3 r2
              exact ⟨_, _, dx, _, u, rfl, r1, cl, na f (by simpa using e2), l1, S.same l2 q⟩
            · cases e
          · cases e
        · cases e
      · cases e
    · cases e
  | clr =>
    refine ev_un (r := fun x H1 Q => tyV C.K "list" x H1 ∧ rClear x [] H1 Q) ha fun α H u S r Q q => ?_
    simp only [f1] at e
    split at e
    · rename_i m xs g
      cases e
      obtain ⟨ys, rfl, r1, r2, hm⟩ := S.at g r
      exact ⟨.inl ⟨rfl, ys, SqL.of r1⟩, _, ys, rfl, rfl, r1, S.sto hm .nil (by rw [vr_non]) q⟩
    · cases e
  | popL =>
    refine ev_un (r := fun x H1 Q => tyV C.K "list" x H1 ∧ rPop x [] H1 Q) ha fun α H u S r Q q => ?_
    simp only [f1] at e
    split at e
    · rename_i m xs g
      split at e
      · rename_i w' e1
        cases e
        obtain ⟨ys, rfl, r1, r2, hm⟩ := S.at g r
        obtain ⟨y, k1, k2⟩ := r2.get e1
        exact ⟨.inl ⟨rfl, ys, SqL.of r1⟩, _, ys, y, rfl, rfl, r1, by rw [r2.len]; exact k1, S.sto hm r2.dropLast k2 q⟩
      · cases e
    · cases e
  | srtD =>
    refine ev_un (r := fun x H1 Q => rSrtD [x] H1 Q) ha fun α H u S r Q q => ?_
    simp only [f1] at e
    split at e
    · split at e
      · rename_i m kvs g
        split at e
        · rename_i ns e1
          split at e
          · rename_i e2
            rw [vr_rf] at r
            obtain ⟨rfl, _⟩ := r
            obtain ⟨ys, r1, r2⟩ := S.dic g
            refine ⟨_, _, ns, rfl, .inl r1, ?_, by omega, fun ys' p hp1 hp2 hp => ?_⟩
            · have key : ∀ (kvs : List (Key × RV)) (ys : List V) (ns : List Int), ys.length = (kvs.map (·.2)).length → intsR (kvs.map fun p => match p.1 with | .inl i => RV.int i | .inr x => RV.str x) = some ns → ((kvs.map (·.1)).zip ys).map (·.1) = ns.map Sum.inl := by
                intro kvs
                induction kvs with
                | nil => intro ys ns _ h; simp [intsR] at h; subst h; simp
                | cons p kvs ih =>
                  intro ys ns hl h
                  obtain ⟨k, v⟩ := p
                  cases ys with
                  | nil => simp at hl
                  | cons y ys =>
                    cases k with
                    | inr x => simp [intsR] at h
                    | inl i =>
                      simp only [List.map_cons, intsR] at h
                      split at h
                      · rename_i ms e
                        cases h
                        rw [List.map_cons, List.zip_cons_cons, List.map_cons, ih ys ms (by simpa using hl) e]
                        rfl
                      · cases h
              exact key kvs ys ns r2.len e1
            · have nd : ns.Nodup := nodup_sdd e2.2
              have e3 : ys' = G.sdd ns := by
                refine G.lt_same ?_ (G.sdd_lt ns) fun k => by rw [G.sdd_mem]; exact hp1.mem_iff
                have nd' : ys'.Nodup := hp1.nodup_iff.mpr nd
                refine (List.Pairwise.and hp2 nd').imp fun h => ?_
                obtain ⟨h1, h2⟩ := h
                omega
              rw [e3]
              exact S.newl e (vrs_ints _) hp q
          · cases e
        · cases e
      · cases e
    · cases e
  | abs =>
    refine ev_un (r := fun x H1 Q => rAbsI [x] H1 Q) ha fun α H u S r Q q => ?_
    simp only [f1] at e
    split at e
    · rename_i i
      cases e
      rw [vr_int] at r
      subst r
      exact ⟨_, rfl, S.same (by rw [vr_int]) q⟩
    · rename_i c k j
      split at e
      · rename_i z hz
        cases e
        obtain ⟨i, m, k1, k2, k3⟩ := hk.dv _ _ _ hz
        rw [k1 _ _ _ _ r]
        rcases k3 with ⟨k3, _⟩ | ⟨_, rfl⟩
        · omega
        · exact ⟨_, rfl, S.same (k2 _ _ _) q⟩
      · cases e
    · cases e
end
end R

namespace R
open PySem L2
open G (Tg Bo Co Ty5)
/-! numbers -/
theorem ltD_ok {c k x : Int} {b : Bool} (hx : 0 ≤ x) (e : ltD c k = some b) : b = decide (0 < c + k * x) := by
  unfold ltD at e
  split at e
  · rename_i h
    cases e
    have := Int.mul_nonneg h.1 hx
    exact (decide_eq_true (by omega)).symm
  · split at e
    · rename_i h
      cases e
      have : k * x ≤ 0 := Int.mul_nonpos_of_nonpos_of_nonneg h.1 hx
      exact (decide_eq_false (by omega)).symm
    · cases e
theorem leD_ok {c k x : Int} {b : Bool} (hx : 0 ≤ x) (e : leD c k = some b) : b = decide (0 ≤ c + k * x) := by
  unfold leD at e
  split at e
  · rename_i h
    cases e
    have := Int.mul_nonneg h.1 hx
    exact (decide_eq_true (by omega)).symm
  · split at e
    · rename_i h
      cases e
      have : k * x ≤ 0 := Int.mul_nonpos_of_nonpos_of_nonneg h.1 hx
      exact (decide_eq_false (by omega)).symm
    · cases e
theorem eqD_ok {c k x : Int} {b : Bool} (hx : 0 ≤ x) (e : eqD c k = some b) : b = decide (c + k * x = 0) := by
  unfold eqD at e
  split at e
  · rename_i h
    cases e
    have := Int.mul_nonneg h.1 hx
    exact (decide_eq_false (by omega)).symm
  · split at e
    · rename_i h
      cases e
      have : k * x ≤ 0 := Int.mul_nonpos_of_nonpos_of_nonneg h.1 hx
      exact (decide_eq_false (by omega)).symm
    · cases e
/-- the number that a value stands for -/
def numV (C : Cf) : RV → Option Int
  | .int i => some i
  | .lin c k j => some (c + k * C.ρ j)
  | _ => none
section
variable {C : Cf} {Γ : Gt} {α α' : Nat → Addr} {h h0 h1 h2 h3 h' : Hs} {H H' : Hp} {n n' : Nat} {σ : Sg} {s : St} {ta tb tc : TE}
theorem num_vr {v : RV} {i : Int} {u : V} (e : numV C v = some i) (r : Vr C α n H v u) : u = .int i := by
  unfold numV at e
  split at e
  · cases e; rw [vr_int] at r; exact r
  · cases e; rw [vr_lin] at r; exact r
  · cases e
theorem difZ_ok (hk : KsR C Γ) {a b : RV} {c k : Int} (e : difZ Γ.nn a b = some (c, k)) : ∃ i j x : Int, numV C a = some i ∧ numV C b = some j ∧ i - j = c + k * x ∧ 0 ≤ x := by
  unfold difZ at e
  split at e
  · split at e
    · rename_i hj
      cases e
      refine ⟨_, _, _, rfl, rfl, ?_, hk.nn _ hj⟩
      rw [Int.neg_mul]
      omega
    · cases e
  · split at e
    · rename_i hj
      cases e
      refine ⟨_, _, _, rfl, rfl, ?_, hk.nn _ hj⟩
      omega
    · cases e
  · cases e
theorem ltZ_ok (hk : KsR C Γ) {a b : RV} {r : Bool} (e : ltZ Γ.nn a b = some r) : ∃ i j : Int, numV C a = some i ∧ numV C b = some j ∧ r = decide (i < j) := by
  unfold ltZ at e
  split at e
  · rename_i c k d
    obtain ⟨j, i, x, h1, h2, h3, h4⟩ := difZ_ok hk d
    refine ⟨i, j, h2, h1, ?_⟩
    rw [ltD_ok h4 e, ← h3]
    exact decide_eq_decide.mpr (by omega)
  · cases e
theorem leZ_ok (hk : KsR C Γ) {a b : RV} {r : Bool} (e : leZ Γ.nn a b = some r) : ∃ i j : Int, numV C a = some i ∧ numV C b = some j ∧ r = decide (i ≤ j) := by
  unfold leZ at e
  split at e
  · rename_i c k d
    obtain ⟨j, i, x, h1, h2, h3, h4⟩ := difZ_ok hk d
    refine ⟨i, j, h2, h1, ?_⟩
    rw [leD_ok h4 e, ← h3]
    exact decide_eq_decide.mpr (by omega)
  · cases e
theorem eqZ_ok (hk : KsR C Γ) {a b : RV} {r : Bool} (e : eqZ Γ.nn a b = some r) : ∃ i j : Int, numV C a = some i ∧ numV C b = some j ∧ r = decide (i = j) := by
  unfold eqZ at e
  split at e
  · rename_i c k d
    obtain ⟨j, i, x, h1, h2, h3, h4⟩ := difZ_ok hk d
    refine ⟨i, j, h2, h1, ?_⟩
    rw [eqD_ok h4 e, ← h3]
    exact decide_eq_decide.mpr (by omega)
  · cases e
theorem coZ_ok (hk : KsR C Γ) {o : Co} {a b : RV} {r : Bool} (e : coZ Γ.nn o a b = some r) : ∃ i j : Int, numV C a = some i ∧ numV C b = some j ∧ r = o.f i j := by
  unfold coZ at e
  split at e
  · cases e
    exact ⟨_, _, rfl, rfl, rfl⟩
  · cases o with
    | lt => exact ltZ_ok hk e
    | le => exact leZ_ok hk e
    | gt => obtain ⟨i, j, h1, h2, h3⟩ := ltZ_ok hk e; exact ⟨j, i, h2, h1, h3⟩
    | ge => obtain ⟨i, j, h1, h2, h3⟩ := leZ_ok hk e; exact ⟨j, i, h2, h1, h3⟩
theorem addZ_ok {a b z : RV} (e : addZ a b = some z) : ∃ i j : Int, numV C a = some i ∧ numV C b = some j ∧ numV C z = some (i + j) := by
  unfold addZ at e
  split at e
  · cases e
    exact ⟨_, _, rfl, rfl, by simp only [numV]; congr 1; omega⟩
  · cases e
    exact ⟨_, _, rfl, rfl, by simp only [numV]; congr 1; omega⟩
  · cases e
theorem subZ_ok {a b z : RV} (e : subZ a b = some z) : ∃ i j : Int, numV C a = some i ∧ numV C b = some j ∧ numV C z = some (i - j) := by
  unfold subZ at e
  split at e
  · cases e
    exact ⟨_, _, rfl, rfl, by simp only [numV]; congr 1; rw [Int.neg_mul]; omega⟩
  · cases e
    exact ⟨_, _, rfl, rfl, by simp only [numV]; congr 1; omega⟩
  · cases e
theorem vr_num {v : RV} {i : Int} (e : numV C v = some i) : Vr C α n H v (.int i) := by
  unfold numV at e
  split at e
  · cases e; rw [vr_int]
  · cases e; rw [vr_lin]
  · cases e
/-! equality -/
def pyF (C : Cf) : Nat → Hs → RV → PyData
  | 0, _, _ => .none
  | f + 1, h, v => match v with
    | .non => .none | .bl b => .bool b | .int i => .int i | .lin c k j => .int (c + k * C.ρ j) | .str x => .str x
    | .tp xs => .tuple (xs.map (pyF C f h))
    | .rf n => match h.get n with
      | some (.lst xs) => .list (xs.map (pyF C f h))
      | _ => .none
    | .cst _ => .none
    | .lm _ => .none
theorem depth_map {l : List RV} {g : RV → PyData} {f : Nat} (hh : ∀ x ∈ l, (g x).depth ≤ f) : PyData.depthAll (l.map g) ≤ f := by
  induction l with
  | nil => simp [PyData.depthAll]
  | cons x l ih =>
    simp only [List.map_cons, PyData.depthAll]
    have := hh x (by simp)
    have := ih fun y hy => hh y (by simp [hy])
    omega
theorem lay_map {l : List RV} {g : RV → PyData} (hh : ∀ x ∈ l, (g x).canLay0 = true) : PyData.canLayAll0 (l.map g) = true := by
  induction l with
  | nil => simp [PyData.canLayAll0]
  | cons x l ih =>
    simp only [List.map_cons, PyData.canLayAll0, Bool.and_eq_true]
    exact ⟨hh x (by simp), ih fun y hy => hh y (by simp [hy])⟩
theorem pl_shape : ∀ (f : Nat) {v : RV}, plF f h v = true → (pyF C f h v).depth ≤ f ∧ (pyF C f h v).canLay0 = true
  | 0, v, e => by simp [plF] at e
  | f + 1, v, e => by
    cases v with
    | non => simp [pyF, PyData.depth, PyData.canLay0]
    | bl b => simp [pyF, PyData.depth, PyData.canLay0]
    | int b => simp [pyF, PyData.depth, PyData.canLay0]
    | lin c k j => simp [pyF, PyData.depth, PyData.canLay0]
    | str b => exact ⟨by simp [pyF, PyData.depth], by simpa only [plF, strOkB, pyF] using e⟩
    | cst k => simp [plF] at e
    | lm k => simp [plF] at e
    | tp xs =>
      simp only [plF, List.all_eq_true] at e
      simp only [pyF, PyData.depth, PyData.canLay0]
      exact ⟨Nat.succ_le_succ (depth_map fun x hx => (pl_shape f (e x hx)).1), lay_map fun x hx => (pl_shape f (e x hx)).2⟩
    | rf m =>
      simp only [plF] at e
      split at e
      · rename_i xs g
        simp only [List.all_eq_true] at e
        simp only [pyF, g, PyData.depth, PyData.canLay0]
        exact ⟨Nat.succ_le_succ (depth_map fun x hx => (pl_shape f (e x hx)).1), lay_map fun x hx => (pl_shape f (e x hx)).2⟩
      · cases e
theorem pl_dps (f : Nat) (ih : ∀ {v : RV} {u : V}, plF f h v = true → Vr C α h.n H v u → Dp C.K H u (pyF C f h v)) : ∀ {xs : List RV} {us : List V}, (∀ x ∈ xs, plF f h x = true) → Vrs C α h.n H xs us → DpAll C.K H us (xs.map (pyF C f h))
  | [], us, e, r => by
    rw [vrs_nil] at r
    subst r
    exact .nil
  | x :: xs, us, e, r => by
    rw [vrs_cons] at r
    obtain ⟨v, vs, rfl, r1, r2⟩ := r
    exact .cons (ih (e x (by simp)) r1) (pl_dps f ih (fun y hy => e y (by simp [hy])) r2)
theorem pl_dp (S : Sim C α h H) : ∀ (f : Nat) {v : RV} {u : V}, plF f h v = true → Vr C α h.n H v u → Dp C.K H u (pyF C f h v)
  | 0, v, u, e, r => by simp [plF] at e
  | f + 1, v, u, e, r => by
    cases v with
    | non => rw [vr_non] at r; subst r; exact .non
    | bl b => rw [vr_bl] at r; subst r; exact .bl _
    | int b => rw [vr_int] at r; subst r; exact .int _
    | lin c k j => rw [vr_lin] at r; subst r; exact .int _
    | str b => rw [vr_str] at r; subst r; exact .str _
    | cst k => simp [plF] at e
    | lm k => simp [plF] at e
    | tp xs =>
      simp only [plF, List.all_eq_true] at e
      rw [vr_tp] at r
      obtain ⟨a, ys, rfl, r1, r2⟩ := r
      exact .tup r1 (pl_dps f (pl_dp S f) e r2)
    | rf m =>
      simp only [plF] at e
      split at e
      · rename_i xs g
        simp only [List.all_eq_true] at e
        rw [vr_rf] at r
        obtain ⟨rfl, _⟩ := r
        obtain ⟨ys, h1, h2⟩ := S.lst g
        simp only [pyF, g]
        exact .lst (SqL.of h1) (pl_dps f (pl_dp S f) e h2)
      · cases e
theorem eqL_ok {eq : RV → RV → Option Bool} {g : RV → PyData} {p : RV → Prop} (ih : ∀ x y b, p x → p y → eq x y = some b → PyData.eqv (g x) (g y) = b) : ∀ {xs ys : List RV} {b : Bool}, (∀ x ∈ xs, p x) → (∀ x ∈ ys, p x) → eqL eq xs ys = some b → PyData.eqvAll (xs.map g) (ys.map g) = b
  | [], [], b, _, _, e => by simp only [eqL, Option.some.injEq] at e; subst e; simp [PyData.eqvAll]
  | [], y :: ys, b, _, _, e => by simp only [eqL, Option.some.injEq] at e; subst e; simp [PyData.eqvAll]
  | x :: xs, [], b, _, _, e => by simp only [eqL, Option.some.injEq] at e; subst e; simp [PyData.eqvAll]
  | x :: xs, y :: ys, b, h1, h2, e => by
    simp only [eqL] at e
    simp only [List.map_cons, PyData.eqvAll]
    split at e
    · rename_i e1
      rw [ih x y _ (h1 x (by simp)) (h2 y (by simp)) e1, eqL_ok ih (fun z hz => h1 z (by simp [hz])) (fun z hz => h2 z (by simp [hz])) e]
      simp
    · rename_i e1
      cases e
      rw [ih x y _ (h1 x (by simp)) (h2 y (by simp)) e1]
      simp
    · cases e
theorem pl_rf {f m : Nat} (e : plF (f + 1) h (.rf m) = true) : ∃ xs, h.get m = some (.lst xs) ∧ (∀ x ∈ xs, plF f h x = true) ∧ pyF C (f + 1) h (.rf m) = .list (xs.map (pyF C f h)) := by
  simp only [plF] at e
  split at e
  · rename_i xs g
    simp only [List.all_eq_true] at e
    exact ⟨xs, g, e, by simp only [pyF, g]⟩
  · cases e
theorem pl_tp {f : Nat} {xs : List RV} (e : plF (f + 1) h (.tp xs) = true) : ∀ x ∈ xs, plF f h x = true := by
  simpa only [plF, List.all_eq_true] using e
theorem eqF_ok (hk : KsR C Γ) : ∀ (f : Nat) {v w : RV} {b : Bool}, plF f h v = true → plF f h w = true → eqF Γ.nn f h v w = some b → PyData.eqv (pyF C f h v) (pyF C f h w) = b
  | 0, v, w, b, p1, p2, e => by simp [eqF] at e
  | f + 1, v, w, b, p1, p2, e => by
    cases v <;> cases w <;> simp only [eqF, Option.some.injEq, reduceCtorEq] at e <;> (try (subst e; simp only [pyF, PyData.eqv]; done)) <;> (try (obtain ⟨xs, g1, p1, q1⟩ := pl_rf (C := C) p1)) <;> (try (obtain ⟨ys, g2, p2, q2⟩ := pl_rf (C := C) p2)) <;> (try (subst e; rw [q2]; simp only [pyF, PyData.eqv]; done)) <;> (try (subst e; rw [q1]; simp only [pyF, PyData.eqv]; done))
    · obtain ⟨i, j, h1, h2, h3⟩ := eqZ_ok hk e
      simp only [numV, Option.some.injEq] at h1 h2
      subst h1 h2 h3
      simp only [pyF, PyData.eqv]
      exact Bool.eq_iff_iff.mpr (by simp)
    · obtain ⟨i, j, h1, h2, h3⟩ := eqZ_ok hk e
      simp only [numV, Option.some.injEq] at h1 h2
      subst h1 h2 h3
      simp only [pyF, PyData.eqv]
      exact Bool.eq_iff_iff.mpr (by simp)
    · simp only [pyF, PyData.eqv]
      exact eqL_ok (p := fun x => plF f h x = true) (fun x y b h1 h2 e => eqF_ok hk f h1 h2 e) (pl_tp p1) (pl_tp p2) e
    · rw [g1, g2] at e
      rw [q1, q2]
      simp only [PyData.eqv]
      exact eqL_ok (p := fun x => plF f h x = true) (fun x y b h1 h2 e => eqF_ok hk f h1 h2 e) p1 p2 e
theorem anyL_ok (hk : KsR C Γ) {f : Nat} {v : RV} (pv : plF f h v = true) : ∀ {ys : List RV} {b : Bool}, (∀ x ∈ ys, plF f h x = true) → anyL (fun z => eqF Γ.nn f h z v) ys = some b → ((ys.map (pyF C f h)).any fun z => PyData.eqv z (pyF C f h v)) = b
  | [], b, _, e => by simp only [anyL, Option.some.injEq] at e; subst e; rfl
  | y :: ys, b, p, e => by
    simp only [anyL] at e
    rw [List.map_cons, List.any_cons]
    split at e
    · rename_i e1
      cases e
      rw [eqF_ok hk f (p y (by simp)) pv e1]
      simp
    · rename_i e1
      rw [eqF_ok hk f (p y (by simp)) pv e1, anyL_ok hk pv (fun z hz => p z (by simp [hz])) e]
      simp
    · cases e
/-- more fuel tells the same -/
theorem pl_more : ∀ (f : Nat) {v : RV}, plF f h v = true → plF (f + 1) h v = true ∧ pyF C (f + 1) h v = pyF C f h v
  | 0, v, e => by simp [plF] at e
  | f + 1, v, e => by
    cases v with
    | non => exact ⟨rfl, rfl⟩
    | bl b => exact ⟨rfl, rfl⟩
    | int b => exact ⟨rfl, rfl⟩
    | lin c k j => exact ⟨rfl, rfl⟩
    | str b => exact ⟨e, rfl⟩
    | cst k => simp [plF] at e
    | lm k => simp [plF] at e
    | tp xs =>
      have p := pl_tp e
      refine ⟨?_, ?_⟩
      · show (xs.all (plF (f + 1) h)) = true
        exact List.all_eq_true.mpr fun x hx => (pl_more f (p x hx)).1
      · show PyData.tuple (xs.map (pyF C (f + 1) h)) = PyData.tuple (xs.map (pyF C f h))
        rw [List.map_congr_left fun x hx => (pl_more f (p x hx)).2]
    | rf m =>
      obtain ⟨xs, g, p, q⟩ := pl_rf (C := C) e
      refine ⟨?_, ?_⟩
      · show (match h.get m with | some (.lst xs) => xs.all (plF (f + 1) h) | _ => false) = true
        rw [g]
        exact List.all_eq_true.mpr fun x hx => (pl_more f (p x hx)).1
      · rw [q]
        show (match h.get m with | some (.lst xs) => PyData.list (xs.map (pyF C (f + 1) h)) | _ => .none) = _
        rw [g]
        show PyData.list (xs.map (pyF C (f + 1) h)) = PyData.list (xs.map (pyF C f h))
        rw [List.map_congr_left fun x hx => (pl_more f (p x hx)).2]
theorem shaped_of {f : Nat} {v : RV} (hf : f ≤ 64) (p : plF f h v = true) : SeqAt.shaped (pyF C f h v) = true := by
  obtain ⟨h1, h2⟩ := pl_shape (C := C) f p
  unfold SeqAt.shaped
  rw [h2, Bool.true_and]
  exact decide_eq_true (by omega)
/-! dicts -/
theorem keyR_of {v : RV} {k : Key} {u : V} (e : keyR v = some k) (r : Vr C α n H v u) : u = kV k := by
  unfold keyR at e
  split at e
  · cases e; rw [vr_int] at r; exact r
  · cases e; rw [vr_str] at r; exact r
  · cases e
theorem lookR_of {k : Key} : ∀ {kvs : List (Key × RV)} {ys : List V}, Vrs C α n H (kvs.map (·.2)) ys → (∀ z, lookR k kvs = some z → ∃ u, valV ((kvs.map (·.1)).zip ys) k = some u ∧ Vr C α n H z u) ∧ (lookR k kvs = none → valV ((kvs.map (·.1)).zip ys) k = none)
  | [], ys, r => ⟨fun z e => by simp [lookR] at e, fun _ => rfl⟩
  | (q, v) :: kvs, ys, r => by
    rw [List.map_cons, vrs_cons] at r
    obtain ⟨u, us, rfl, r1, r2⟩ := r
    obtain ⟨i1, i2⟩ := lookR_of (k := k) r2
    rw [List.map_cons, List.zip_cons_cons]
    by_cases e : q = k
    · refine ⟨fun z h => ?_, fun h => ?_⟩
      · simp only [lookR, if_pos e, Option.some.injEq] at h
        subst h
        exact ⟨u, by simp [valV, e], r1⟩
      · simp [lookR, if_pos e] at h
    · have v : valV ((q, u) :: (kvs.map (·.1)).zip us) k = valV ((kvs.map (·.1)).zip us) k := by
        unfold valV
        rw [List.find?_cons_of_neg (by simpa using e)]
      refine ⟨fun z h => ?_, fun h => ?_⟩
      · simp only [lookR, if_neg e] at h
        rw [v]
        exact i1 z h
      · simp only [lookR, if_neg e] at h
        rw [v]
        exact i2 h
theorem atI_vrs {ds : List RV} {vs : List V} {i : Int} {d : RV} (r : Vrs C α n H ds vs) (e : atI ds i = some d) : ∃ v, atI vs i = some v ∧ Vr C α n H d v := by
  unfold atI at e ⊢
  rw [r.len]
  cases q : ixN ds.length i with
  | none => rw [q] at e; cases e
  | some j =>
    rw [q] at e
    exact r.get (i := j) e
theorem f2_ok (hk : KsR C Γ) {o : O2} {v v' w : RV} (ha : EvR C ta σ h0 v h1) (hb : EvR C tb σ h1 v' h) (pr : pre2 o h1 v = true) (e : f2 Γ o v v' h = some (w, h')) : EvR C (rd2 C o ta tb) σ h0 w h' := by
  cases o with
  | bin o =>
    refine ev_bi (r := o.r) ha hb fun α H u u2 S r r' Q q => ?_
    simp only [f2] at e
    split at e
    · rename_i i j
      split at e
      · rename_i z hz
        cases e
        rw [vr_int] at r r'
        subst r r'
        exact G.bo_ok hz (S.same (by rw [vr_int]) q)
      · cases e
    · split at e
      · split at e
        · rename_i z hz
          cases e
          obtain ⟨i, j, k1, k2, k3⟩ := addZ_ok (C := C) hz
          rw [num_vr k1 r, num_vr k2 r']
          exact G.bo_ok (o := .add) rfl (S.same (vr_num k3) q)
        · cases e
      · split at e
        · rename_i z hz
          cases e
          obtain ⟨i, j, k1, k2, k3⟩ := subZ_ok (C := C) hz
          rw [num_vr k1 r, num_vr k2 r']
          exact G.bo_ok (o := .sub) rfl (S.same (vr_num k3) q)
        · cases e
      · split at e
        · rename_i j
          split at e
          · rename_i z hz
            cases e
            obtain ⟨i, m, k1, k2, k3, rfl⟩ := hk.md _ _ _ hz
            rw [vr_int] at r'
            subst r'
            rw [k1 _ _ _ _ r]
            exact G.bo_ok (o := .mod) (by simp only [Bo.run]; rw [if_pos k3]) (S.same (k2 _ _ _) q)
          · cases e
        · cases e
      · split at e
        · rename_i j
          split at e
          · rename_i hj
            split at e
            · rename_i z hz
              cases e
              obtain ⟨i, m, k1, k2, k3⟩ := hk.dv _ _ _ hz
              rw [vr_int] at r'
              subst r'
              rw [k1 _ _ _ _ r]
              rcases k3 with ⟨k3, k4, rfl⟩ | ⟨k3, _⟩
              · exact G.bo_ok (o := .fdiv) (by simp only [Bo.run]; rw [if_pos ⟨k3, k4⟩]) (S.same (k2 _ _ _) q)
              · omega
            · cases e
          · cases e
        · cases e
      · cases e
  | cat =>
    refine ev_bi (r := rCat) ha hb fun α H u u2 S r r' Q q => ?_
    simp only [f2] at e
    split at e
    · rename_i m xs g
      split at e
      · rename_i m2 ys g2
        obtain ⟨xs', rfl, r1, r2, _⟩ := S.at g r
        obtain ⟨ys', rfl, r3, r4, _⟩ := S.at g2 r'
        have hl := (newL_of e).2.2
        rw [List.length_append] at hl
        exact ⟨_, _, xs', ys', rfl, rfl, r1, r3, sz_of (by rw [r2.len, r4.len]; omega), fun p hp => S.newl e (r2.app r4) hp q⟩
      · cases e
    · cases e
  | rep =>
    refine ev_bi (r := rRep) ha hb fun α H u u2 S r r' Q q => ?_
    simp only [f2] at e
    split at e
    · rename_i m xs g
      split at e
      · rename_i k
        split at e
        · rename_i hl
          obtain ⟨xs', rfl, r1, r2, _⟩ := S.at g r
          rw [vr_int] at r'
          subst r'
          refine ⟨_, k, xs', rfl, rfl, r1, by omega, by omega, sz_of ?_, fun p hp => S.newl e (r2.rep _) hp q⟩
          have e1 : k.toNat ≤ 1000 := by omega
          have e2 : xs'.length ≤ 1000 := by rw [r2.len]; omega
          exact Nat.le_trans (Nat.mul_le_mul e2 e1) (by decide)
        · cases e
      · cases e
    · cases e
  | eq =>
    refine ev_bi (r := rEqD C.K) ha hb fun α H u u2 S r r' Q q => ?_
    simp only [f2] at e
    split at e
    · rename_i p
      rw [Bool.and_eq_true] at p
      split at e
      · rename_i b hb
        cases e
        refine ⟨_, _, pl_dp S 12 p.1 r, pl_dp S 12 p.2 r', shaped_of (by decide) p.1, shaped_of (by decide) p.2, ?_⟩
        rw [eqF_ok hk 12 p.1 p.2 hb]
        exact S.same (by rw [vr_bl]) q
      · cases e
    · cases e
  | ne =>
    refine ev_bi (r := rNeD C.K) ha hb fun α H u u2 S r r' Q q => ?_
    simp only [f2] at e
    split at e
    · rename_i p
      rw [Bool.and_eq_true] at p
      split at e
      · rename_i b hb
        cases e
        refine ⟨_, _, pl_dp S 12 p.1 r, pl_dp S 12 p.2 r', shaped_of (by decide) p.1, shaped_of (by decide) p.2, ?_⟩
        rw [eqF_ok hk 12 p.1 p.2 hb]
        exact S.same (by rw [vr_bl]) q
      · cases e
    · cases e
  | cmp o =>
    refine ev_bi (r := o.r) ha hb fun α H u u2 S r r' Q q => ?_
    simp only [f2] at e
    split at e
    · rename_i b hb
      cases e
      obtain ⟨i, j, k1, k2, rfl⟩ := coZ_ok hk hb
      rw [num_vr k1 r, num_vr k2 r']
      exact G.co_ok (S.same (by rw [vr_bl]) q)
    · cases e
  | isb =>
    refine ev_bi (r := rIsB) ha hb fun α H u u2 S r r' Q q => ?_
    simp only [f2] at e
    split at e
    · cases e
      rw [vr_bl] at r r'
      exact ⟨_, _, r, r', S.same (by rw [vr_bl]) q⟩
    · cases e
  | isnb =>
    refine ev_bi (r := rNotB) ha hb fun α H u u2 S r r' Q q => ?_
    simp only [f2] at e
    split at e
    · cases e
      rw [vr_bl] at r r'
      exact ⟨_, _, r, r', S.same (by rw [vr_bl]) q⟩
    · cases e
  | ix =>
    refine ev_bi (r := rIx C.K) ha hb fun α H u u2 S r r' Q q => ?_
    simp only [f2] at e
    split at e
    · rename_i i
      rw [vr_int] at r'
      subst r'
      split at e
      · split at e
        · rename_i z hz
          cases e
          rw [vr_tp] at r
          obtain ⟨a, ys, rfl, r1, r2⟩ := r
          obtain ⟨y, k1, k2⟩ := atI_vrs r2 hz
          exact .inr (.inl ⟨a, ys, i, y, rfl, rfl, r1, k1, S.same k2 q⟩)
        · cases e
      · split at e
        · rename_i m xs g
          split at e
          · rename_i z hz
            cases e
            obtain ⟨ys, rfl, r1, r2, _⟩ := S.at g r
            obtain ⟨y, k1, k2⟩ := atI_vrs r2 hz
            exact .inl ⟨_, ys, i, y, rfl, rfl, SqL.of r1, k1, S.same k2 q⟩
          · cases e
        · cases e
    · cases e
  | dix =>
    refine ev_bi (r := fun x y H2 Q => ∃ a v, x = .ref a ∧ DGet H2 a y (some v) ∧ Q v H2) ha hb fun α H u u2 S r r' Q q => ?_
    simp only [f2] at e
    split at e
    · split at e
      · rename_i m kvs g
        split at e
        · rename_i k hkk
          split at e
          · rename_i z hz
            cases e
            rw [vr_rf] at r
            obtain ⟨rfl, _⟩ := r
            obtain ⟨ys, r1, r2⟩ := S.dic g
            obtain ⟨y, k1, k2⟩ := (lookR_of r2).1 _ hz
            refine ⟨_, y, rfl, ?_, S.same k2 q⟩
            rw [keyR_of hkk r', ← k1]
            exact DGet.k r1
          · cases e
        · cases e
      · cases e
    · cases e
  | nin =>
    refine ev_bi (r := rNotInD C.K) ha hb fun α H u u2 S r r' Q q => ?_
    simp only [f2] at e
    split at e
    · rename_i m ys g
      split at e
      · rename_i p
        rw [Bool.and_eq_true] at p
        split at e
        · rename_i b hbb
          cases e
          obtain ⟨rfl, g2⟩ := lstAt_of g
          obtain ⟨ys', g3, p2, q2⟩ := pl_rf (C := C) p.2
          rw [g2] at g3
          cases g3
          have dp := pl_dp S 12 p.2 r'
          rw [q2] at dp
          have sh := shaped_of (C := C) (by decide) p.2
          rw [q2] at sh
          refine ⟨_, _, pl_dp S 11 p.1 r, dp, shaped_of (by decide) p.1, sh, ?_⟩
          rw [anyL_ok hk p.1 p2 hbb]
          exact S.same (by rw [vr_bl]) q
        · cases e
      · cases e
    · cases e
  | inT =>
    refine ev_bi (r := rIn C.K false) ha hb fun α H u u2 S r r' Q q => ?_
    simp only [f2] at e
    split at e
    · rename_i x
      split at e
      · split at e
        · rename_i ss hs
          cases e
          rw [vr_str] at r
          rw [vr_tp] at r'
          subst r
          obtain ⟨a, xs, rfl, k1, k2⟩ := r'
          have e2 := strsR_of hs k2
          subst e2
          refine ⟨a, _, rfl, .inr k1, rfl, G.flatV_strs ss, ?_⟩
          rw [if_neg Bool.false_ne_true, G.inV_strs]
          exact S.same (by rw [vr_bl]) q
        · cases e
      · cases e
    · cases e
  | din =>
    refine ev_bi (r := fun y x H2 Q => ∃ a o, x = .ref a ∧ DGet H2 a y o ∧ Q (.bl o.isSome) H2) ha hb fun α H u u2 S r r' Q q => ?_
    simp only [f2] at e
    split at e
    · split at e
      · rename_i m kvs g
        split at e
        · rename_i k hkk
          cases e
          rw [vr_rf] at r'
          obtain ⟨rfl, _⟩ := r'
          obtain ⟨ys, r1, r2⟩ := S.dic g
          refine ⟨_, _, rfl, by rw [keyR_of hkk r]; exact DGet.k r1, S.same ?_ q⟩
          rw [vr_bl]
          cases z : lookR k kvs with
          | none => rw [(lookR_of r2).2 z]; rfl
          | some y =>
            obtain ⟨y', k1, _⟩ := (lookR_of r2).1 y z
            rw [k1]
            rfl
        · cases e
      · cases e
    · cases e
  | app =>
    intro α H s S g Q q
    refine ha α H s S g _ fun u α1 H1 e1 S1 r1 => ?_
    obtain ⟨⟨m0, xs0⟩, p0⟩ := Option.isSome_iff_exists.mp (show (lstAt h1 v).isSome = true from pr)
    obtain ⟨ys0, rfl, k1, k2, _⟩ := S1.at p0 r1
    refine ⟨.inl ⟨rfl, ys0, SqL.of k1⟩, ?_⟩
    refine hb α1 H1 s S1 (g.up S e1) _ fun u2 α2 H2 e2 S2 r2 => ?_
    have r3 := S1.vr e2 r1
    simp only [f2] at e
    split at e
    · rename_i m xs gg
      split at e
      · rename_i hl
        cases e
        obtain ⟨ys, eu, k3, k4, hm⟩ := S2.at gg r3
        refine ⟨_, ys, u2, eu, rfl, k3, sz_lt (by rw [k4.len]; omega), ?_⟩
        exact S2.sto hm (k4.app (.one r2)) (by rw [vr_non]) fun u' α' H' e3 S3 r4 => q u' α' H' ((e1.trans e2 S2.inj).trans e3 S3.inj) S3 r4
      · cases e
    · cases e
  | extd =>
    intro α H s S g Q q
    refine ha α H s S g _ fun u α1 H1 e1 S1 r1 => ?_
    obtain ⟨⟨m0, xs0⟩, p0⟩ := Option.isSome_iff_exists.mp (show (lstAt h1 v).isSome = true from pr)
    obtain ⟨ys0, rfl, k1, k2, _⟩ := S1.at p0 r1
    refine ⟨.inl ⟨rfl, ys0, SqL.of k1⟩, ?_⟩
    refine hb α1 H1 s S1 (g.up S e1) _ fun u2 α2 H2 e2 S2 r2 => ?_
    have r3 := S1.vr e2 r1
    simp only [f2] at e
    split at e
    · rename_i m xs gg
      split at e
      · rename_i m2 zs gg2
        split at e
        · rename_i hl
          cases e
          obtain ⟨ys, eu, k3, k4, hm⟩ := S2.at gg r3
          obtain ⟨ys2, rfl, k5, k6, hm2⟩ := S2.at gg2 r2
          refine ⟨_, _, ys, ys2, eu, rfl, k3, k5, sz_of (by rw [k4.len, k6.len]; omega), ?_⟩
          exact S2.sto hm (k4.app k6) (by rw [vr_non]) fun u' α' H' e3 S3 r4 => q u' α' H' ((e1.trans e2 S2.inj).trans e3 S3.inj) S3 r4
        · cases e
      · cases e
    · cases e
end
end R

namespace R
open PySem L2
open G (Tg Bo Co Ty5)
def WkR (C : Cf) (J : It) (s : Its) (α0 : Nat → Addr) (n0 : Nat) (H0 : Hp) : Prop := ∀ α h H i, Sim C α h H → Ev n0 h.n α0 α H0 H →
  (∀ v, s.next i h = some (some v) → J.go i H ∧ ∀ x H', J.yld i H x H' → Sim C α h H' ∧ Ev h.n h.n α α H H' ∧ Vr C α h.n H' v x) ∧ (s.next i h = some none → J.stop i H)
def ItR (C : Cf) (wi : TI) (σ : Sg) (h : Hs) (s : Its) (h' : Hs) : Prop := ∀ α H st, Sim C α h H → SgR C α h.n H σ st → ∀ R : It → Hp → Prop, (∀ J α' H', Ev h.n h'.n α α' H H' → Sim C α' h' H' → WkR C J s α' h'.n H' → R J H') → wi st H R
def CaR (C : Cf) (te : XK → TE) (σ : Sg) (h : Hs) (o : Ot) : Prop := ∀ α H s, Sim C α h H → SgR C α h.n H σ s → ∀ (Q : VK) (E : XK), PostR C α h.n H Q E o → te E s H Q
section
variable {C : Cf} {Γ : Gt} {α α' : Nat → Addr} {h h0 h1 h2 h3 h' : Hs} {H H' : Hp} {n n' : Nat} {σ : Sg} {s : St} {ta tb tc : TE}
theorem CaR.ev {te : XK → TE} {v : RV} {o : Ot} (k : CaR C te σ h o) (e : otO o = some (v, h')) : EvR C (te EF) σ h v h' := by
  cases o with
  | ok w h2 =>
    simp only [otO, Option.some.injEq, Prod.mk.injEq] at e
    obtain ⟨rfl, rfl⟩ := e
    exact fun α H s S g Q q => k α H s S g Q EF q
  | ex c h2 => simp [otO] at e
  | no => simp [otO] at e
/-! growth -/
theorem Sim.grow (S : Sim C α h H) (e : Same H H') : Sim C α h H' ∧ Ev h.n h.n α α H H' := by
  have ev : Ev h.n h.n α α H H' := ⟨Nat.le_refl _, fun _ _ => rfl, fun b o k _ _ => e b o k, fun i h1 h2 => by omega⟩
  exact ⟨⟨fun i c hc => by
    obtain ⟨o, e1, e2⟩ := S.cel i c hc
    exact ⟨o, e _ _ e1, e2.move (S.kp ev) (Nat.le_refl _) fun _ _ => rfl⟩, S.all, S.top, S.inj, S.bnd, S.tab.ext e⟩, ev⟩
theorem Sim.extN (S : Sim C α h H) (e : LamX.ExtN H H') (t : LamX.Tabs C.T H') : Sim C α h H' ∧ Ev h.n h.n α α H H' := by
  have ev : Ev h.n h.n α α H H' := ⟨Nat.le_refl _, fun _ _ => rfl, fun b o k n _ => e b o k n, fun i h1 h2 => by omega⟩
  refine ⟨⟨fun i c hc => ?_, S.all, S.top, S.inj, S.bnd, t⟩, ev⟩
  obtain ⟨o, e1, e2⟩ := S.cel i c hc
  refine ⟨o, e _ _ e1 fun ps z => ?_, e2.move (S.kp ev) (Nat.le_refl _) fun _ _ => rfl⟩
  have := e2.own
  rw [z] at this
  exact this
/-- a cell apart stays apart -/
theorem Ev.out (e : Ev n n' α α' H H') {l : Addr} {o : HO} (hl : H l = some o) (nt : ∀ ps, o ≠ .tbl ps) (ho : ∀ i, i < n → α i ≠ l) : ∀ i, i < n' → α' i ≠ l := fun i hi z => by
  by_cases hn : i < n
  · rw [e.ag i hn] at z
    exact ho i hn z
  · obtain ⟨ps, e1⟩ := e.nw i (by omega) hi o (by rw [z]; exact hl)
    exact nt ps e1
theorem Ev.stay (e : Ev n n' α α' H H') {l : Addr} {o : HO} (hl : H l = some o) (nt : ∀ ps, o ≠ .tbl ps) (ho : ∀ i, i < n → α i ≠ l) : H' l = some o := e.fr l o hl nt fun i hi z => ho i hi z.symm
theorem Ev.ext (e : Ev n n' α α' H H') {l : Addr} (hl : ∀ o, H l = some o → ∃ ps, o = .tbl ps) : Ev n (n' + 1) α (ext α' n' l) H H' := ⟨Nat.le_succ_of_le e.le, fun i hi => by rw [ext_lt (Nat.lt_of_lt_of_le hi e.le), e.ag i hi], e.fr, fun i h1 h2 o ho => by
  by_cases hi : i = n'
  · subst hi
    rw [ext_at] at ho
    exact hl o ho
  · rw [ext_lt (by omega)] at ho
    exact e.nw i h1 (by omega) o ho⟩
/-- a list that stands apart is stored anew -/
theorem Sim.other (S : Sim C α h H) {D : Addr} {xs ys : List V} (hD : H D = some (.lst xs)) (ho : ∀ i, i < h.n → α i ≠ D) : Sim C α h (upd H D (.lst ys)) ∧ Kp H (upd H D (.lst ys)) := by
  have kp : Kp H (upd H D (.lst ys)) := by
    refine ⟨?_, fun a g k => by
      rw [upd_ne]
      · exact k
      · intro z; rw [z, hD] at k; cases k⟩
    rintro a zs (k | ⟨o, k⟩)
    · refine .inl ?_
      rw [upd_ne]
      · exact k
      · intro z; rw [z, hD] at k; cases k
    · refine .inr ⟨o, ?_⟩
      rw [upd_ne]
      · exact k
      · intro z; rw [z, hD] at k; cases k
  refine ⟨⟨fun i c hc => ?_, S.all, S.top, S.inj, S.bnd, tabs_kp S.tab fun b u hu => ⟨fun v e => ?_, fun q e => ?_⟩⟩, kp⟩
  · obtain ⟨o, e1, e2⟩ := S.cel i c hc
    exact ⟨o, by rw [upd_ne (ho i (S.lt hc))]; exact e1, e2.move kp (Nat.le_refl _) fun _ _ => rfl⟩
  · rw [upd_ne]
    · exact hu
    · intro z; rw [z, hD] at hu; cases hu; cases e
  · rw [upd_ne]
    · exact hu
    · intro z
      rw [z, hD] at hu
      cases hu
      unfold LamX.CodeO at e
      cases e
/-! targets -/
theorem SgR.set (g : SgR C α n H σ s) {j : Nat} {v : RV} {u : V} (r : Vr C α n H v u) : SgR C α n H (σ.set j (some v)) (s.set j (some u)) := by
  refine ⟨by simp [g.1], fun i w e => ?_⟩
  rcases G.get_set e with ⟨rfl, e2, hl⟩ | ⟨ne, e⟩
  · cases e2
    exact ⟨u, G.set_get (by rw [g.1]; exact hl), r⟩
  · rw [G.set_ne ne]
    exact g.2 i w e
theorem SgR.unset (g : SgR C α n H σ s) {j : Nat} : SgR C α n H (σ.set j none) (s.set j none) := by
  refine ⟨by simp [g.1], fun i w e => ?_⟩
  rcases G.get_set e with ⟨rfl, e2, hl⟩ | ⟨ne, e⟩
  · cases e2
  · rw [G.set_ne ne]
    exact g.2 i w e
theorem SgR.wipe (g : SgR C α n H σ s) : ∀ vs : List Nat, SgR C α n H (wipeR σ vs) (L2.wipe s vs)
  | [] => g
  | v :: vs => (SgR.wipe g vs).unset
theorem tgR_ok : ∀ (t : Tg) (d : RV) {v : V} {s : St} {σ σ' : Sg}, SgR C α n H σ s → Vr C α n H d v → tgR t d σ = some σ' → ∀ {Q : St → Hp → Prop},
    (∀ s', SgR C α n H σ' s' → (∀ vs, (∀ j ∈ t.sl, j ∈ vs) → L2.wipe s' vs = L2.wipe s vs) → Q s' H) → t.rd C.K v s H Q
  | .nm j, d, v, s, σ, σ', g, r, e, Q, q => by
    simp only [tgR, Option.some.injEq] at e
    subst e
    exact q _ (g.set r) fun vs hv => G.wipe_set (hv j (by simp [Tg.sl]))
  | .t2 a b, d, v, s, σ, σ', g, r, e, Q, q => by
    cases d with
    | tp xs =>
      rcases xs with _ | ⟨x, _ | ⟨y, _ | ⟨z, xs⟩⟩⟩
      · simp [tgR] at e
      · simp [tgR] at e
      · simp only [tgR] at e
        rw [vr_tp] at r
        obtain ⟨p, xs, rfl, h1, h2⟩ := r
        simp only [Vrs] at h2
        obtain ⟨v1, _, rfl, r1, v2, _, rfl, r2, rfl⟩ := h2
        split at e
        · rename_i σ1 e1
          refine ⟨p, [v1, v2], rfl, h1, rfl, v1, [v2], rfl, ?_⟩
          refine tgR_ok a x g r1 e1 fun s1 g1 w1 => ?_
          refine ⟨v2, [], rfl, ?_⟩
          refine tgR_ok b y g1 r2 e fun s2 g2 w2 => ?_
          refine ⟨rfl, q s2 g2 fun vs hv => ?_⟩
          rw [w2 vs fun j hj => hv j (by simp [Tg.sl, hj]), w1 vs fun j hj => hv j (by simp [Tg.sl, hj])]
        · cases e
      · simp [tgR] at e
    | _ => simp [tgR] at e
  | .t3 a b c, d, v, s, σ, σ', g, r, e, Q, q => by
    cases d with
    | tp xs =>
      rcases xs with _ | ⟨x, _ | ⟨y, _ | ⟨z, _ | ⟨w, xs⟩⟩⟩⟩
      · simp [tgR] at e
      · simp [tgR] at e
      · simp [tgR] at e
      · simp only [tgR] at e
        rw [vr_tp] at r
        obtain ⟨p, xs, rfl, h1, h2⟩ := r
        simp only [Vrs] at h2
        obtain ⟨v1, _, rfl, r1, v2, _, rfl, r2, v3, _, rfl, r3, rfl⟩ := h2
        split at e
        · rename_i σ1 e1
          split at e
          · rename_i σ2 e2
            refine ⟨p, [v1, v2, v3], rfl, h1, rfl, v1, [v2, v3], rfl, ?_⟩
            refine tgR_ok a x g r1 e1 fun s1 g1 w1 => ?_
            refine ⟨v2, [v3], rfl, ?_⟩
            refine tgR_ok b y g1 r2 e2 fun s2 g2 w2 => ?_
            refine ⟨v3, [], rfl, ?_⟩
            refine tgR_ok c z g2 r3 e fun s3 g3 w3 => ?_
            refine ⟨rfl, q s3 g3 fun vs hv => ?_⟩
            rw [w3 vs fun j hj => hv j (by simp [Tg.sl, hj]), w2 vs fun j hj => hv j (by simp [Tg.sl, hj]), w1 vs fun j hj => hv j (by simp [Tg.sl, hj])]
          · cases e
        · cases e
      · simp [tgR] at e
    | _ => simp [tgR] at e
/-! iterators -/
theorem it_L {v : RV} {m : Nat} {xs : List RV} (ha : EvR C ta σ h v h1) (e : lstAt h1 v = some (m, xs)) : ItR C (iList C.K ta) σ h (.L m) h1 := fun α H s S g R q =>
  ha α H s S g _ fun u α1 H1 e1 S1 r1 => by
    obtain ⟨ys, rfl, k1, k2, hm⟩ := S1.at e r1
    refine ⟨_, rfl, ⟨ys, SqL.of k1⟩, q _ α1 H1 e1 S1 fun α2 h2 H2 i S2 e2 => ⟨fun w hw => ?_, fun hw => ?_⟩⟩
    · simp only [Its.next] at hw
      split at hw
      · rename_i zs g2
        obtain ⟨zs', k3, k4⟩ := S2.lst g2
        rw [e2.ag m hm] at k3
        have hw := Option.some.inj hw
        obtain ⟨x', k5, k6⟩ := k4.get hw
        refine ⟨⟨zs', x', SqL.of k3, k5⟩, fun x H' y => ?_⟩
        obtain ⟨rfl, y⟩ := y
        have := y zs' (SqL.of k3)
        rw [k5] at this
        cases this
        exact ⟨S2, .refl, k6⟩
      · cases hw
    · simp only [Its.next] at hw
      split at hw
      · rename_i zs g2
        obtain ⟨zs', k3, k4⟩ := S2.lst g2
        rw [e2.ag m hm] at k3
        have hw := Option.some.inj hw
        refine ⟨zs', SqL.of k3, ?_⟩
        rw [k4.len]
        exact List.getElem?_eq_none_iff.mp hw
      · cases hw
theorem it_T {xs : List RV} (ha : EvR C ta σ h (.tp xs) h1) : ItR C (iTup C.K ta) σ h (.S xs) h1 := fun α H s S g R q =>
  ha α H s S g _ fun u α1 H1 e1 S1 r1 => by
    rw [vr_tp] at r1
    obtain ⟨a, ys, rfl, k1, k2⟩ := r1
    refine ⟨a, rfl, ⟨ys, k1⟩, q _ α1 H1 e1 S1 fun α2 h2 H2 i S2 e2 => ?_⟩
    have k3 : SqT C.K H2 a ys := sqt_kp (S1.kp e2) k1
    have k4 := S1.vrs e2 k2
    refine ⟨fun w hw => ?_, fun hw => ?_⟩
    · simp only [Its.next] at hw
      have hw := Option.some.inj hw
      obtain ⟨x', k5, k6⟩ := k4.get hw
      refine ⟨⟨ys, x', k3, k5⟩, fun x H' y => ?_⟩
      obtain ⟨rfl, y⟩ := y
      have := y ys k3
      rw [k5] at this
      cases this
      exact ⟨S2, .refl, k6⟩
    · simp only [Its.next] at hw
      have hw := Option.some.inj hw
      refine ⟨ys, k3, ?_⟩
      rw [k4.len]
      exact List.getElem?_eq_none_iff.mp hw
theorem wk_R {lo : Int} {k : Nat} {H0 : Hp} : WkR C (Itr lo k) (.R lo k) α n H0 := by
  intro α2 h2 H2 i S2 e2
  refine ⟨fun w hw => ?_, fun hw => ?_⟩
  · simp only [Its.next] at hw
    split at hw
    · rename_i hi
      simp only [Option.some.injEq] at hw
      subst hw
      refine ⟨hi, fun x H' y => ?_⟩
      obtain ⟨rfl, rfl⟩ := y
      exact ⟨S2, .refl, by rw [vr_int]⟩
    · simp at hw
  · simp only [Its.next] at hw
    split at hw
    · simp at hw
    · rename_i hi
      exact Nat.le_of_not_lt hi
theorem it_R {k : Int} (ha : EvR C ta σ h (.int k) h1) (hn : -1000000 ≤ k ∧ k ≤ 1000000) : ItR C (iRng1 (tCons ta tNil)) σ h (.R 0 k.toNat) h1 := fun α H s S g R q =>
  ha α H s S g _ fun u α1 H1 e1 S1 r1 => by
    rw [vr_int] at r1
    subst r1
    exact ⟨k, rfl, by omega, by omega, q _ α1 H1 e1 S1 wk_R⟩
theorem it_R2 {m k : Int} (ha : EvR C ta σ h (.int m) h1) (hb : EvR C tb σ h1 (.int k) h2) (hn : -1000000 ≤ m ∧ m ≤ 1000000 ∧ -1000000 ≤ k ∧ k ≤ 1000000) : ItR C (iRng2 (tCons ta (tCons tb tNil))) σ h (.R m (k - m).toNat) h2 := fun α H s S g R q =>
  ha α H s S g _ fun u α1 H1 e1 S1 r1 => hb α1 H1 s S1 (g.up S e1) _ fun u2 α2 H2 e2 S2 r2 => by
    rw [vr_int] at r1 r2
    subst r1 r2
    exact ⟨m, k, rfl, ⟨by omega, by omega, by omega, by omega⟩, q _ α2 H2 (e1.trans e2 S2.inj) S2 wk_R⟩
theorem it_Z {v w : RV} {m k : Nat} {xs ys : List RV} (ha : EvR C ta σ h v h1) (hb : EvR C tb σ h1 w h2) (e : lstAt h2 v = some (m, xs)) (e' : lstAt h2 w = some (k, ys)) : ItR C (iZip C.K (tCons ta (tCons tb tNil))) σ h (.Z m k) h2 := fun α H s S g R q =>
  ha α H s S g _ fun u α1 H1 e1 S1 r1 => hb α1 H1 s S1 (g.up S e1) _ fun u2 α2 H2 e2 S2 r2 => by
    obtain ⟨xs', rfl, k1, k2, hm⟩ := S2.at e (S1.vr e2 r1)
    obtain ⟨ys', rfl, k3, k4, hk⟩ := S2.at e' r2
    refine ⟨_, _, xs', ys', rfl, SqL.of k1, SqL.of k3, q _ α2 H2 (e1.trans e2 S2.inj) S2 fun α3 h3 H3 i S3 e3 => ⟨fun w hw => ?_, fun hw => ?_⟩⟩
    · simp only [Its.next] at hw
      split at hw
      · rename_i zs zs2 g2 g3
        obtain ⟨zs', a1, a2⟩ := S3.lst g2
        obtain ⟨zs2', a3, a4⟩ := S3.lst g3
        rw [e3.ag m hm] at a1
        rw [e3.ag k hk] at a3
        split at hw
        · rename_i x y hx hy
          simp only [Option.some.injEq] at hw
          subst hw
          obtain ⟨x', b1, b2⟩ := a2.get hx
          obtain ⟨y', b3, b4⟩ := a4.get hy
          refine ⟨⟨zs', zs2', x', y', SqL.of a1, SqL.of a3, b1, b3⟩, fun z H' yy => ?_⟩
          obtain ⟨T, x2, y2, rfl, hT, rfl, y3, y4⟩ := yy
          have z1 := y3 zs' (SqL.of a1)
          have z2 := y4 zs2' (SqL.of a3)
          rw [b1] at z1
          rw [b3] at z2
          cases z1
          cases z2
          obtain ⟨S4, e4⟩ := S3.side (o := .tup [x', y']) hT
          refine ⟨S4, e4, ?_⟩
          rw [vr_tp]
          exact ⟨T, _, rfl, SqT.of upd_same, .cons (S3.vr e4 b2) (.one (S3.vr e4 b4))⟩
        · simp at hw
      · cases hw
    · simp only [Its.next] at hw
      split at hw
      · rename_i zs zs2 g2 g3
        obtain ⟨zs', a1, a2⟩ := S3.lst g2
        obtain ⟨zs2', a3, a4⟩ := S3.lst g3
        rw [e3.ag m hm] at a1
        rw [e3.ag k hk] at a3
        split at hw
        · simp at hw
        · rename_i hno
          refine ⟨zs', zs2', SqL.of a1, SqL.of a3, ?_⟩
          rw [a2.len, a4.len]
          by_cases hx : i < zs.length
          · by_cases hy : i < zs2.length
            · exact (hno _ _ (List.getElem?_eq_getElem hx) (List.getElem?_eq_getElem hy)).elim
            · exact .inr (Nat.le_of_not_lt hy)
          · exact .inl (Nat.le_of_not_lt hx)
      · cases hw
theorem it_E {v : RV} {m : Nat} {xs : List RV} (ha : EvR C ta σ h v h1) (e : lstAt h1 v = some (m, xs)) : ItR C (iEnum C.K (tCons ta tNil)) σ h (.E m) h1 := fun α H s S g R q =>
  ha α H s S g _ fun u α1 H1 e1 S1 r1 => by
    obtain ⟨ys, rfl, k1, k2, hm⟩ := S1.at e r1
    refine ⟨_, ys, rfl, SqL.of k1, q _ α1 H1 e1 S1 fun α2 h2 H2 i S2 e2 => ⟨fun w hw => ?_, fun hw => ?_⟩⟩
    · simp only [Its.next] at hw
      split at hw
      · rename_i zs g2
        obtain ⟨zs', k3, k4⟩ := S2.lst g2
        rw [e2.ag m hm] at k3
        split at hw
        · rename_i x hx
          simp only [Option.some.injEq] at hw
          subst hw
          obtain ⟨x', k5, k6⟩ := k4.get hx
          refine ⟨⟨zs', x', SqL.of k3, k5⟩, fun z H' yy => ?_⟩
          obtain ⟨T, x2, rfl, hT, rfl, y3⟩ := yy
          have z1 := y3 zs' (SqL.of k3)
          rw [k5] at z1
          cases z1
          obtain ⟨S4, e4⟩ := S2.side (o := .tup [.int (i : Nat), x']) hT
          refine ⟨S4, e4, ?_⟩
          rw [vr_tp]
          exact ⟨T, _, rfl, SqT.of upd_same, .cons (by rw [vr_int]) (.one (S2.vr e4 k6))⟩
        · simp at hw
      · cases hw
    · simp only [Its.next] at hw
      split at hw
      · rename_i zs g2
        obtain ⟨zs', k3, k4⟩ := S2.lst g2
        rw [e2.ag m hm] at k3
        split at hw
        · simp at hw
        · rename_i hx
          refine ⟨zs', SqL.of k3, ?_⟩
          rw [k4.len]
          exact List.getElem?_eq_none_iff.mp hx
      · cases hw
/-! comprehensions -/
theorem lc_ok {wi : TI} {t : Tg} {tt : TT} {te : TE} {it : Its} {cf : Sg → Hs → Option (Bool × Hs)} {ef : Sg → Hs → Option (RV × Hs)} {v : RV}
    (hi : ItR C wi σ h it h1) (run : lcR it.next t cf ef (wipeR σ t.sl) 3000 0 h1 [] = some (v, h')) (hc : ∀ σ2 h2 b h3, cf σ2 h2 = some (b, h3) → TtR C tt σ2 h2 b h3) (he : ∀ σ2 h2 y h3, ef σ2 h2 = some (y, h3) → EvR C te σ2 h2 y h3) :
    EvR C (tLc wi (t.rd C.K) tt te t.sl) σ h v h' := fun α H st S g Q q => by
  refine hi α H st S g _ fun J α1 H1 e1 S1 wk => ?_
  intro D hD
  have g1 := g.up S e1
  refine ⟨fun i m Hc => ∃ α' hc acc accV, Sim C α' hc Hc ∧ Ev h1.n hc.n α1 α' H1 Hc ∧ Hc D = some (.lst accV) ∧ (∀ i, i < hc.n → α' i ≠ D) ∧ Vrs C α' hc.n Hc acc.reverse accV ∧ acc.length + m ≤ 3000 ∧ lcR it.next t cf ef (wipeR σ t.sl) m i hc acc = some (v, h'), ⟨3000, ?_⟩, ?_⟩
  · obtain ⟨S2, e2⟩ := S1.side (o := .lst []) hD
    exact ⟨α1, h1, [], [], S2, e2, upd_same, fun i hi => S1.fresh hD hi, .nil, by simp, run⟩
  · rintro i m Hc ⟨α', hq, acc, accV, S2, e2, cD, oD, ra, hl, run⟩
    cases m with
    | zero => simp [lcR] at run
    | succ m =>
      simp only [lcR] at run
      obtain ⟨w1, w2⟩ := wk α' hq Hc i S2 e2
      split at run
      · cases run
      · -- the end
        rename_i hn
        refine .inl ⟨w2 hn, ?_⟩
        obtain ⟨rfl, gn, _⟩ := newL_of run
        obtain ⟨S3, en⟩ := S2.take (H0 := Hc) (c := .lst acc.reverse) (o := .lst accV) cD oD ⟨accV, rfl, ra⟩ gn
        have e3 : Ev h1.n h'.n α1 (ext α' hq.n D) H1 Hc := by
          rw [en]
          exact e2.ext fun o ho => by rw [hD] at ho; cases ho
        exact q _ _ _ (e1.trans e3 S3.inj) S3 (by rw [vr_rf]; exact ⟨by rw [ext_at], by omega⟩)
      · rename_i x hx
        obtain ⟨go, yl⟩ := w1 x hx
        split at run
        · cases run
        · rename_i σ1 ht
          refine .inr ⟨go, fun H' => ∃ α' hc acc accV, Sim C α' hc H' ∧ Ev h1.n hc.n α1 α' H1 H' ∧ H' D = some (.lst accV) ∧ (∀ i, i < hc.n → α' i ≠ D) ∧ Vrs C α' hc.n H' acc.reverse accV ∧ acc.length + m ≤ 3000 ∧ lcR it.next t cf ef (wipeR σ t.sl) m (i + 1) hc acc = some (v, h'), fun H' w => ⟨m, by omega, w⟩, fun u H' yy => ?_⟩
          obtain ⟨S3, e3, ru⟩ := yl u H' yy
          have nt : ∀ ps, HO.lst accV ≠ .tbl ps := fun ps z => by cases z
          have cD3 : H' D = some (.lst accV) := e3.stay cD nt oD
          have e13 := e2.trans e3 S3.inj
          have g3 : SgR C α' hq.n H' (wipeR σ t.sl) (L2.wipe st t.sl) := (g1.up S1 e13).wipe t.sl
          refine tgR_ok t x g3 ru ht fun s1 gs1 w1 => ⟨?_, ?_⟩
          · rw [w1 t.sl fun _ h => h, G.wipe_wipe]
          · split at run
            · cases run
            · rename_i b hb hcf
              refine hc _ _ _ _ hcf α' H' s1 S3 gs1 _ fun α4 H4 e4 S4 => ?_
              have cD4 : H4 D = some (.lst accV) := e4.stay cD3 nt oD
              have oD4 := e4.out cD3 nt oD
              have e14 := e13.trans e4 S4.inj
              have ra4 := S3.vrs e4 (S2.vrs e3 ra)
              cases b with
              | false =>
                rw [if_neg Bool.false_ne_true]
                exact ⟨α4, hb, acc, accV, S4, e14, cD4, oD4, ra4, by omega, run⟩
              | true =>
                rw [if_pos rfl]
                dsimp only at run
                split at run
                · cases run
                · rename_i y h5 hef
                  refine he _ _ _ _ hef α4 H4 s1 S4 (gs1.up S3 e4) _ fun uy α5 H5 e5 S5 ry => ?_
                  have cD5 : H5 D = some (.lst accV) := e5.stay cD4 nt oD4
                  have oD5 := e5.out cD4 nt oD4
                  have e15 := e14.trans e5 S5.inj
                  have ra5 := S4.vrs e5 ra4
                  obtain ⟨S6, kp⟩ := S5.other (ys := accV ++ [uy]) cD5 oD5
                  have hlen := ra5.len
                  rw [List.length_reverse] at hlen
                  refine ⟨accV, cD5, sz_lt (by omega), α5, h5, y :: acc, accV ++ [uy], S6, ⟨e15.le, e15.ag, fun b o hb1 hb2 hb3 => ?_, e15.nw⟩, upd_same, oD5, ?_, by simp only [List.length_cons]; omega, run⟩
                  · rw [upd_ne (ne_of_none hb1 hD)]
                    exact e15.fr b o hb1 hb2 hb3
                  · rw [List.reverse_cons]
                    exact (ra5.app (.one ry)).move kp (Nat.le_refl _) fun _ _ => rfl
/-! calls -/
theorem ar_nil : ArR C tNil σ h [] h := fun α H s S g Q q => q [] α H .refl S .nil
theorem ar_cons {tr : TA} {v : RV} {vs : List RV} (ha : EvR C ta σ h v h1) (hr : ArR C tr σ h1 vs h2) : ArR C (tCons ta tr) σ h (v :: vs) h2 := fun α H s S g Q q =>
  ha α H s S g _ fun u α1 H1 e1 S1 r1 => hr α1 H1 s S1 (g.up S e1) _ fun us α2 H2 e2 S2 r2 => q _ α2 H2 (e1.trans e2 S2.inj) S2 (.cons (S1.vr e2 r1) r2)
/-- what a call ends in, from where its arguments stand -/
theorem ot_up (e1 : Ev n h.n α α' H H') {o : Ot} {Q : VK} {E : XK} (k : PostR C α n H Q E o) : PostR C α' h.n H' Q E o := by
  cases o with
  | ok v h2 => exact fun u α2 H2 e S r => k u α2 H2 (e1.trans e S.inj) S r
  | ex c h2 => exact fun α2 H2 e S => k α2 H2 (e1.trans e S.inj) S
  | no => exact k
theorem ca_call {ta : TA} {vs : List RV} {run : List RV → Hs → Ot} (ha : ArR C ta σ h vs h1) : CaR C (fun E => tCall (spR C run) [] E ta) σ h (run vs h1) := fun α H s S g Q E q =>
  ha α H s S g _ fun us α1 H1 e1 S1 r1 => by
    rw [List.append_nil]
    exact ⟨α1, h1, vs, S1, r1, ot_up e1 q⟩
theorem ca_cv {ta : TA} {vs : List RV} {i c k : Nat} (hk : KsR C Γ) (hc : ∃ f, C.kv c = .ref f) (hi : σ[i]? = some (some (.cst c))) (ha : ArR C ta σ h vs h1) : ∀ {cs : List (Nat × Nat)}, lookM cs c = some k → CaR C (fun E => tCv C Γ E i ta cs) σ h (Γ.run k vs h1)
  | [], e => by simp [lookM] at e
  | (c', k') :: cs, e => by
    simp only [lookM] at e
    split at e
    · rename_i ec
      cases e
      subst ec
      obtain ⟨f, hf⟩ := hc
      intro α H s S g Q E q
      refine .inl ⟨f, hf, ?_, ha α H s S g _ fun us α1 H1 e1 S1 r1 => ?_⟩
      · obtain ⟨u, e1, e2⟩ := g.2 i _ hi
        rw [vr_cst, hf] at e2
        rw [e1, e2]
      · rw [List.append_nil]
        exact ⟨α1, h1, vs, S1, r1, ot_up e1 q⟩
    · intro α H s S g Q E q
      exact .inr (ca_cv hk hc hi ha e α H s S g Q E q)
theorem ca_lcall {ta : TA} {vs : List RV} {i c k : Nat} (hi : σ[i]? = some (some (.lm c))) (ha : ArR C ta σ h vs h1) : ∀ {cs : List (Nat × Nat)}, lookM cs c = some k → CaR C (fun E => tLmC C Γ E i ta cs) σ h (Γ.run k vs h1)
  | [], e => by simp [lookM] at e
  | (c', k') :: cs, e => by
    simp only [lookM] at e
    split at e
    · rename_i ec
      cases e
      subst ec
      intro α H s S g Q E q
      obtain ⟨u, g1, g2⟩ := g.2 i _ hi
      rw [vr_lm] at g2
      obtain ⟨f, c', rfl, g3, g4⟩ := g2
      refine .inl ⟨f, c', g1, g3, ha α H s S g _ fun us α1 H1 e1 S1 r1 => ?_⟩
      have kp := S.kp e1
      exact ⟨kp.2 _ _ g3, kp.2 _ _ g4, α1, h1, vs, S1, r1, ot_up e1 q⟩
    · intro α H s S g Q E q
      exact .inr (ca_lcall hi ha e α H s S g Q E q)
theorem lamv_ok {k : Nat} : EvR C (tLamV C.T (C.lm k)) σ h (.lm k) h := fun α H s S g Q q => by
  refine ⟨S.tab, fun f c' H1 eN tb _ hf hc => ?_⟩
  obtain ⟨S1, e1⟩ := S.extN eN tb
  exact q _ _ _ e1 S1 (by rw [vr_lm]; exact ⟨f, c', rfl, hf, hc⟩)
theorem ca_meth {to : TE} {ta : TA} {vs : List RV} {nm : Str} {m c k : Nat} {fs : List (Str × RV)} (ho : EvR C to σ h (.rf m) h1) (hg : h1.get m = some (.ins c fs)) (hn : (fs.all fun p => p.1 != nm) = true) (ha : ArR C ta σ h1 vs h2) : ∀ {tb : List (Nat × Nat)}, lookM tb c = some k → CaR C (fun E => tMsR C Γ E nm to ta tb) σ h (Γ.run k (.rf m :: vs) h2)
  | [], e => by simp [lookM] at e
  | (c', k') :: cs, e => by
    simp only [lookM] at e
    split at e
    · rename_i ec
      cases e
      subst ec
      intro α H s S g Q E q
      refine .inl (ho α H s S g _ fun u α1 H1 e1 S1 r1 => ?_)
      have r1' := r1
      rw [vr_rf] at r1'
      obtain ⟨rfl, _⟩ := r1'
      obtain ⟨dx, ys, k1, k2⟩ := S1.ins hg
      refine ⟨_, dx, _, rfl, k1, fld_none hn, ?_⟩
      refine ha α1 H1 s S1 (g.up S e1) _ fun us α2 H2 e2 S2 r2 => ?_
      rw [List.append_nil]
      exact ⟨α2, h2, .rf m :: vs, S2, .cons (S1.vr e2 r1) r2, ot_up (e1.trans e2 S2.inj) q⟩
    · intro α H s S g Q E q
      exact .inr (ca_meth ho hg hn ha e α H s S g Q E q)
def newOt (x : Nat) : Ot → Ot
  | .ok .non h => .ok (.rf x) h
  | .ex c h => .ex c h
  | _ => .no
theorem ca_new {ta : TA} {vs : List RV} {c : Nat} {run : List RV → Hs → Ot} (ha : ArR C ta σ h vs h1) (hn : h1.new (.ins c []) = some h2) : CaR C (fun E => tMake (C.Cl c) (spR C run) [] E ta) σ h (newOt h1.n (run (.rf h1.n :: vs) h2)) := fun α H s S g Q E q =>
  ha α H s S g _ fun us α1 H1 e1 S1 r1 => by
    intro x dx hx hdx hne
    rw [List.append_nil]
    obtain ⟨S2, e2⟩ := S1.side (o := .own x) hdx
    have hx2 : upd H1 dx (.own x) x = none := by rw [upd_ne (fun z => hne z.symm)]; exact hx
    obtain ⟨S3, e3, en⟩ := S2.alloc (c := .ins c []) (o := .ins (C.Cl c) dx []) hx2 ⟨dx, [], rfl, .nil⟩ hn
    have e13 : Ev h1.n h2.n α1 (ext α1 h1.n x) H1 _ := e2.trans e3 S3.inj
    refine ⟨ext α1 h1.n x, h2, .rf h1.n :: vs, S3, .cons (by rw [vr_rf]; exact ⟨by rw [ext_at], by omega⟩) (S1.vrs e13 r1), ?_⟩
    have e03 := e1.trans e13 S3.inj
    cases hr : run (.rf h1.n :: vs) h2 with
    | no => rw [hr] at q; exact q
    | ex c2 h3 =>
      rw [hr] at q
      exact fun α2 H2 e S => q α2 H2 (e03.trans e S.inj) S
    | ok v h3 =>
      rw [hr] at q
      cases v with
      | non =>
        intro u α2 H2 e S r
        rw [vr_non] at r
        refine ⟨r, ?_⟩
        have := q (.ref x) α2 H2 (e03.trans e S.inj) S (by
          rw [vr_rf]
          exact ⟨by rw [e.ag h1.n (by omega), ext_at], by have := e.le; omega⟩)
        exact this
      | _ => exact q.elim
theorem kinds_ok {te : XK → TE} {o : Ot} {v : RV} {kd : Nat → List Bool} (k : CaR C te σ h o) (e : kdO kd o = some (v, h')) : EvR C (LamX.tLam C.T (TKinds C kd) te) σ h v h' := fun α H s S g Q q => by
  refine ⟨S.tab, fun H1 eN tb l hl => ?_⟩
  obtain ⟨S1, e1⟩ := S.extN eN tb
  obtain ⟨S2, e2⟩ := S1.side (o := .lst []) hl
  have oH : ∀ p, H1 p = none → ∀ o, H p = some o → ∃ ps, o = .tbl ps := fun p hp o ho => by
    cases o with
    | tbl ps => exact ⟨ps, rfl⟩
    | _ => rw [eN p _ ho (fun ps => by simp)] at hp; cases hp
  have e12 := e1.trans e2 S2.inj
  refine k α _ s S2 (g.up S e12) _ _ ?_
  cases o with
  | no => cases e
  | ok w h1 =>
    intro u α3 H3 e3 S3 r3
    have nt : ∀ ps, HO.lst [] ≠ .tbl ps := fun ps z => by cases z
    have ol : ∀ i, i < h.n → α i ≠ l := fun i hi => S1.fresh hl hi
    have c3 : H3 l = some (.lst []) := e3.stay upd_same nt ol
    have o3 := e3.out upd_same nt ol
    refine ⟨_, rfl, ?_⟩
    obtain ⟨rfl, gn, _⟩ := newL_of e
    obtain ⟨S4, en⟩ := S3.take (H0 := H3) (c := .lst []) (o := .lst []) c3 o3 ⟨[], rfl, .nil⟩ gn
    have e4 : Ev h.n h'.n α (ext α3 h1.n l) H H3 := by
      rw [en]
      exact (e12.trans e3 S3.inj).ext (oH l hl)
    exact q _ _ _ e4 S4 (by rw [vr_rf]; exact ⟨by rw [ext_at], by omega⟩)
  | ex c h1 =>
    intro α3 H3 e3 S3
    simp only [kdO] at e
    split at e
    · rename_i hc
      refine ⟨rfl, c, rfl, hc, fun H4 p eS hp hc => ?_⟩
      obtain ⟨rfl, gn, _⟩ := newL_of e
      obtain ⟨S4, e4⟩ := S3.grow eS
      have e04 := (e12.trans e3 S3.inj).trans e4 S4.inj
      obtain ⟨S5, en⟩ := S4.take (H0 := H4) (c := .lst ((kd c).map RV.bl)) (o := .lst ((kd c).map V.bl)) hc (fun i hi => S3.fresh hp hi) ⟨_, rfl, vrs_bls _⟩ gn
      refine q _ (ext α3 h1.n p) H4 ?_ S5 (by rw [vr_rf]; exact ⟨by rw [ext_at], by omega⟩)
      rw [en]
      refine e04.ext fun o ho => ?_
      cases o with
      | tbl ps => exact ⟨ps, rfl⟩
      | _ =>
        have z := (e12.trans e3 S3.inj).fr p _ ho (fun ps => by simp) fun i hi z => ?_
        · rw [hp] at z; cases z
        · have := S3.fresh hp (Nat.lt_of_lt_of_le hi (e12.trans e3 S3.inj).le)
          rw [(e12.trans e3 S3.inj).ag i hi] at this
          exact this z.symm
    · cases e
end
end R

namespace R
open PySem L2
open G (Tg Bo Co Ty5)
section
variable {C : Cf} {Γ : Gt} {σ : Sg} {h h' : Hs}
theorem tt_B {ta : TE} {b : Bool} (ha : EvR C ta σ h (.bl b) h') : TtR C (tB ta) σ h b h' := fun α H s S g Q q =>
  ha α H s S g _ fun u α1 H1 v1 S1 r1 => ⟨b, by rw [vr_bl] at r1; exact r1, q α1 H1 v1 S1⟩
/-- printed by mk_rc5.py: every expression does as it is told -/
theorem ev_all (hk : KsR C Γ) : ∀ x : X, (∀ σ h v h', ev Γ x σ h = some (v, h') → EvR C (rd C Γ x) σ h v h') ∧ (∀ σ h, evC Γ x σ h ≠ .no → CaR C (fun E => rdC C Γ E x) σ h (evC Γ x σ h)) ∧ (∀ σ h vs h', evA Γ x σ h = some (vs, h') → ArR C (rdA C Γ x) σ h vs h') ∧
    (∀ σ h o h', evO Γ x σ h = some (o, h') → PoR C (rdO C Γ x) σ h o h') ∧ (∀ σ h t h', evI Γ x σ h = some (t, h') → ItR C (rdI C Γ x) σ h t h') ∧ (∀ σ h b h', isTs x = true → ev Γ x σ h = some (.bl b, h') → TtR C (rdT C Γ x) σ h b h') := by
  intro x
  induction x with
  | nil  =>
    have self : ∀ σ h w0 h', ev Γ (.nil ) σ h = some (w0, h') → EvR C (rd C Γ (.nil )) σ h w0 h' := by
      intro σ h v' h' e
      simp [ev] at e
    refine ⟨self, ?_, ?_, ?_, ?_, ?_⟩
    · intro σ h hn
      simp [evC] at hn
    · intro σ h vs h' e
      simp only [evA, Option.some.injEq, Prod.mk.injEq] at e
      obtain ⟨rfl, rfl⟩ := e
      exact ar_nil
    · intro σ h o h' e
      simp only [evO, Option.some.injEq, Prod.mk.injEq] at e
      obtain ⟨rfl, rfl⟩ := e
      exact fun α H s S g Q q => q α H .refl S
    · intro σ h t h' e
      simp [evI] at e
    · intro σ h b h' ht e
      simp [isTs] at ht
  | cons a r iha ihr =>
    have self : ∀ σ h w0 h', ev Γ (.cons a r) σ h = some (w0, h') → EvR C (rd C Γ (.cons a r)) σ h w0 h' := by
      intro σ h v' h' e
      simp [ev] at e
    refine ⟨self, ?_, ?_, ?_, ?_, ?_⟩
    · intro σ h hn
      simp [evC] at hn
    · intro σ h vs h' e
      simp only [evA] at e
      simp only [rdA]
      split at e
      · rename_i w h1 e1
        split at e
        · rename_i ws h2 e2
          cases e
          exact ar_cons (iha.1 _ _ _ _ e1) (ihr.2.2.1 _ _ _ _ e2)
        · cases e
      · cases e
    · intro σ h o h' e
      cases r <;> simp only [evO] at e <;> try (cases e; done)
      simp only [rdO]
      split at e
      · rename_i i h1 e1
        cases e
        exact fun α H s S g Q q => iha.1 _ _ _ _ e1 α H s S g _ fun u α1 H1 v1 S1 r1 => ⟨i, by rw [vr_int] at r1; exact r1, q α1 H1 v1 S1⟩
      · cases e
    · intro σ h t h' e
      simp [evI] at e
    · intro σ h b h' ht e
      simp [isTs] at ht
  | var i =>
    have self : ∀ σ h w0 h', ev Γ (.var i) σ h = some (w0, h') → EvR C (rd C Γ (.var i)) σ h w0 h' := by
      intro σ h v' h' e
      simp only [ev] at e
      split at e
      · rename_i w hw
        cases e
        intro α H s S g Q q
        obtain ⟨u, e1, e2⟩ := g.2 i _ hw
        exact ⟨u, e1, q u α H .refl S e2⟩
      · cases e
    refine ⟨self, ?_, ?_, ?_, ?_, ?_⟩
    · intro σ h hn
      simp [evC] at hn
    · intro σ h vs h' e
      simp [evA] at e
    · intro σ h o h' e
      simp [evO] at e
    · intro σ h t h' e
      simp [evI] at e
    · intro σ h b h' ht e
      simp only [rdT]
      exact tt_B (self _ _ _ _ e)
  | cn v =>
    have self : ∀ σ h w0 h', ev Γ (.cn v) σ h = some (w0, h') → EvR C (rd C Γ (.cn v)) σ h w0 h' := by
      intro σ h v' h' e
      simp only [ev] at e
      split at e
      · rename_i hf
        cases e
        intro α H s S g Q q
        refine q _ α H .refl S ?_
        cases v <;> simp [isFl] at hf <;> simp only [vOf, Vr]
      · cases e
    refine ⟨self, ?_, ?_, ?_, ?_, ?_⟩
    · intro σ h hn
      simp [evC] at hn
    · intro σ h vs h' e
      simp [evA] at e
    · intro σ h o h' e
      simp [evO] at e
    · intro σ h t h' e
      simp [evI] at e
    · intro σ h b h' ht e
      simp [isTs] at ht
  | kon k =>
    have self : ∀ σ h w0 h', ev Γ (.kon k) σ h = some (w0, h') → EvR C (rd C Γ (.kon k)) σ h w0 h' := by
      intro σ h v' h' e
      simp only [ev] at e
      split at e
      · rename_i w hw
        cases e
        intro α H s S g Q q
        exact q _ α H .refl S (hk.ks k _ hw _ _ _)
      · cases e
    refine ⟨self, ?_, ?_, ?_, ?_, ?_⟩
    · intro σ h hn
      simp [evC] at hn
    · intro σ h vs h' e
      simp [evA] at e
    · intro σ h o h' e
      simp [evO] at e
    · intro σ h t h' e
      simp [evI] at e
    · intro σ h b h' ht e
      simp [isTs] at ht
  | o1 o a iha =>
    have self : ∀ σ h w0 h', ev Γ (.o1 o a) σ h = some (w0, h') → EvR C (rd C Γ (.o1 o a)) σ h w0 h' := by
      intro σ h v' h' e
      simp only [ev] at e
      split at e
      · rename_i w h1 e1
        simp only [rd]
        exact f1_ok hk (iha.1 _ _ _ _ e1) e
      · cases e
    refine ⟨self, ?_, ?_, ?_, ?_, ?_⟩
    · intro σ h hn
      simp [evC] at hn
    · intro σ h vs h' e
      simp [evA] at e
    · intro σ h o h' e
      simp [evO] at e
    · intro σ h t h' e
      simp [evI] at e
    · intro σ h b h' ht e
      have s1 := self _ _ _ _ e
      simp only [rd] at s1
      cases o <;> first
        | (simp only [rdT]; exact tt_B s1)
        | skip
      simp only [rdT]
      simp only [isTs] at ht
      simp only [ev] at e
      split at e
      · rename_i w h1 e1
        simp only [f1] at e
        split at e
        · rename_i b0
          simp only [Option.some.injEq, Prod.mk.injEq, RV.bl.injEq] at e
          obtain ⟨rfl, rfl⟩ := e
          exact fun α H s S g Q q => iha.2.2.2.2.2 _ _ _ _ ht e1 α H s S g _ q
        · cases e
      · cases e
  | o2 o a b iha ihb =>
    have self : ∀ σ h w0 h', ev Γ (.o2 o a b) σ h = some (w0, h') → EvR C (rd C Γ (.o2 o a b)) σ h w0 h' := by
      intro σ h v' h' e
      simp only [ev] at e
      split at e
      · rename_i w h1 e1
        split at e
        · rename_i pr
          split at e
          · rename_i w2 h2 e2
            simp only [rd]
            exact f2_ok hk (iha.1 _ _ _ _ e1) (ihb.1 _ _ _ _ e2) pr e
          · cases e
        · cases e
      · cases e
    refine ⟨self, ?_, ?_, ?_, ?_, ?_⟩
    · intro σ h hn
      simp [evC] at hn
    · intro σ h vs h' e
      simp [evA] at e
    · intro σ h o h' e
      simp [evO] at e
    · intro σ h t h' e
      simp [evI] at e
    · intro σ h b h' ht e
      simp only [rdT]
      have := self _ _ _ _ e
      simp only [rd] at this
      exact tt_B this
  | dget a b c iha ihb ihc =>
    have self : ∀ σ h w0 h', ev Γ (.dget a b c) σ h = some (w0, h') → EvR C (rd C Γ (.dget a b c)) σ h w0 h' := by
      intro σ h v' h' e
      simp only [ev] at e
      split at e
      · rename_i n h1 e1
        split at e
        · rename_i kv0 g1
          split at e
          · rename_i w h2 e2
            split at e
            · rename_i z h3 e3
              split at e
              · rename_i kq kvs hq g3
                cases e
                simp only [rd]
                intro α H s S g Q q
                refine iha.1 _ _ _ _ e1 α H s S g _ fun u α1 H1 v1 S1 r1 => ?_
                have r1' := r1
                rw [vr_rf] at r1'
                obtain ⟨rfl, hn⟩ := r1'
                obtain ⟨ys0, k0, _⟩ := S1.dic g1
                refine ⟨_, rfl, .inl ⟨_, .inl k0⟩, ?_⟩
                refine ihb.1 _ _ _ _ e2 α1 H1 s S1 (g.up S v1) _ fun u2 α2 H2 v2 S2 r2 => ?_
                refine ihc.1 _ _ _ _ e3 α2 H2 s S2 (g.up S (v1.trans v2 S2.inj)) _ fun u3 α3 H3 v3 S3 r3 => ?_
                obtain ⟨ys, k1, k2⟩ := S3.dic g3
                have en : α3 n = α1 n := by rw [v3.ag n (Nat.lt_of_lt_of_le hn v2.le), v2.ag n hn]
                rw [en] at k1
                refine ⟨_, by rw [keyR_of hq r2]; exact DGet.k k1, ?_⟩
                have ee := (v1.trans v2 S2.inj).trans v3 S3.inj
                cases z2 : lookR kq kvs with
                | none =>
                  rw [z2] at q
                  rw [(lookR_of k2).2 z2]
                  exact q _ α3 H3 ee S3 r3
                | some y =>
                  rw [z2] at q
                  obtain ⟨y', k3, k4⟩ := (lookR_of k2).1 y z2
                  rw [k3]
                  exact q _ α3 H3 ee S3 k4
              · cases e
            · cases e
          · cases e
        · cases e
      · cases e
    refine ⟨self, ?_, ?_, ?_, ?_, ?_⟩
    · intro σ h hn
      simp [evC] at hn
    · intro σ h vs h' e
      simp [evA] at e
    · intro σ h o h' e
      simp [evO] at e
    · intro σ h t h' e
      simp [evI] at e
    · intro σ h b h' ht e
      simp [isTs] at ht
  | chn o o' a b c iha ihb ihc =>
    have self : ∀ σ h w0 h', ev Γ (.chn o o' a b c) σ h = some (w0, h') → EvR C (rd C Γ (.chn o o' a b c)) σ h w0 h' := by
      intro σ h v' h' e
      simp only [ev] at e
      split at e
      · rename_i w1 h1 e1
        split at e
        · rename_i w2 h2 e2
          simp only [rd]
          split at e
          · rename_i ec
            split at e
            · rename_i w3 h3 e3
              split at e
              · rename_i r er
                cases e
                intro α H s S g Q q
                refine iha.1 _ _ _ _ e1 α H s S g _ fun u1 α1 H1 v1 S1 r1 => ihb.1 _ _ _ _ e2 α1 H1 s S1 (g.up S v1) _ fun u2 α2 H2 v2 S2 r2 => ?_
                obtain ⟨i, j, k1, k2, k3⟩ := coZ_ok hk ec
                rw [num_vr k1 (S1.vr v2 r1), num_vr k2 r2]
                refine G.co_ok ⟨true, by rw [← k3], ?_⟩
                rw [if_pos rfl]
                refine ihc.1 _ _ _ _ e3 α2 H2 s S2 (g.up S (v1.trans v2 S2.inj)) _ fun u3 α3 H3 v3 S3 r3 => ?_
                obtain ⟨i', j', k1', k2', k3'⟩ := coZ_ok hk er
                rw [k2] at k1'
                cases k1'
                rw [num_vr k2' r3]
                exact G.co_ok (q _ α3 H3 ((v1.trans v2 S2.inj).trans v3 S3.inj) S3 (by rw [vr_bl, k3']))
              · cases e
            · cases e
          · rename_i ec
            cases e
            intro α H s S g Q q
            refine iha.1 _ _ _ _ e1 α H s S g _ fun u1 α1 H1 v1 S1 r1 => ihb.1 _ _ _ _ e2 α1 H1 s S1 (g.up S v1) _ fun u2 α2 H2 v2 S2 r2 => ?_
            obtain ⟨i, j, k1, k2, k3⟩ := coZ_ok hk ec
            rw [num_vr k1 (S1.vr v2 r1), num_vr k2 r2]
            refine G.co_ok ⟨false, by rw [← k3], ?_⟩
            rw [if_neg Bool.false_ne_true]
            exact q _ α2 H2 (v1.trans v2 S2.inj) S2 (by rw [vr_bl])
          · cases e
        · cases e
      · cases e
    refine ⟨self, ?_, ?_, ?_, ?_, ?_⟩
    · intro σ h hn
      simp [evC] at hn
    · intro σ h vs h' e
      simp [evA] at e
    · intro σ h o h' e
      simp [evO] at e
    · intro σ h t h' e
      simp [evI] at e
    · intro σ h b h' ht e
      simp only [rdT]
      have := self _ _ _ _ e
      simp only [rd] at this
      exact tt_B this
  | and a b iha ihb =>
    have self : ∀ σ h w0 h', ev Γ (.and a b) σ h = some (w0, h') → EvR C (rd C Γ (.and a b)) σ h w0 h' := by
      intro σ h v' h' e
      simp only [ev] at e
      simp only [rd]
      split at e
      · rename_i h1 e1
        intro α H s S g Q q
        refine iha.1 _ _ _ _ e1 α H s S g _ fun u α1 H1 v1 S1 r1 => ?_
        rw [vr_bl] at r1
        refine ⟨true, r1, ?_⟩
        rw [if_pos rfl]
        exact ihb.1 _ _ _ _ e α1 H1 s S1 (g.up S v1) _ fun u2 α2 H2 v2 S2 r2 => q u2 α2 H2 (v1.trans v2 S2.inj) S2 r2
      · rename_i h1 e1
        cases e
        intro α H s S g Q q
        refine iha.1 _ _ _ _ e1 α H s S g _ fun u α1 H1 v1 S1 r1 => ?_
        rw [vr_bl] at r1
        refine ⟨false, r1, ?_⟩
        rw [if_neg Bool.false_ne_true]
        exact q _ α1 H1 v1 S1 (by rw [vr_bl])
      · cases e
    refine ⟨self, ?_, ?_, ?_, ?_, ?_⟩
    · intro σ h hn
      simp [evC] at hn
    · intro σ h vs h' e
      simp [evA] at e
    · intro σ h o h' e
      simp [evO] at e
    · intro σ h t h' e
      simp [evI] at e
    · intro σ h b h' ht e
      simp only [isTs, Bool.and_eq_true] at ht
      simp only [rdT]
      simp only [ev] at e
      split at e
      · rename_i h1 e1
        intro α H s S g Q q
        refine iha.2.2.2.2.2 _ _ _ _ ht.1 e1 α H s S g _ fun α1 H1 v1 S1 => ?_
        rw [if_pos rfl]
        exact ihb.2.2.2.2.2 _ _ _ _ ht.2 e α1 H1 s S1 (g.up S v1) _ fun α2 H2 v2 S2 => q α2 H2 (v1.trans v2 S2.inj) S2
      · rename_i h1 e1
        cases e
        intro α H s S g Q q
        refine iha.2.2.2.2.2 _ _ _ _ ht.1 e1 α H s S g _ fun α1 H1 v1 S1 => ?_
        rw [if_neg Bool.false_ne_true]
        exact q α1 H1 v1 S1
      · cases e
  | or a b iha ihb =>
    have self : ∀ σ h w0 h', ev Γ (.or a b) σ h = some (w0, h') → EvR C (rd C Γ (.or a b)) σ h w0 h' := by
      intro σ h v' h' e
      simp only [ev] at e
      simp only [rd]
      split at e
      · rename_i h1 e1
        intro α H s S g Q q
        refine iha.1 _ _ _ _ e1 α H s S g _ fun u α1 H1 v1 S1 r1 => ?_
        rw [vr_bl] at r1
        refine ⟨false, r1, ?_⟩
        rw [if_neg Bool.false_ne_true]
        exact ihb.1 _ _ _ _ e α1 H1 s S1 (g.up S v1) _ fun u2 α2 H2 v2 S2 r2 => q u2 α2 H2 (v1.trans v2 S2.inj) S2 r2
      · rename_i h1 e1
        cases e
        intro α H s S g Q q
        refine iha.1 _ _ _ _ e1 α H s S g _ fun u α1 H1 v1 S1 r1 => ?_
        rw [vr_bl] at r1
        refine ⟨true, r1, ?_⟩
        rw [if_pos rfl]
        exact q _ α1 H1 v1 S1 (by rw [vr_bl])
      · cases e
    refine ⟨self, ?_, ?_, ?_, ?_, ?_⟩
    · intro σ h hn
      simp [evC] at hn
    · intro σ h vs h' e
      simp [evA] at e
    · intro σ h o h' e
      simp [evO] at e
    · intro σ h t h' e
      simp [evI] at e
    · intro σ h b h' ht e
      simp only [isTs, Bool.and_eq_true] at ht
      simp only [rdT]
      simp only [ev] at e
      split at e
      · rename_i h1 e1
        intro α H s S g Q q
        refine iha.2.2.2.2.2 _ _ _ _ ht.1 e1 α H s S g _ fun α1 H1 v1 S1 => ?_
        rw [if_neg Bool.false_ne_true]
        exact ihb.2.2.2.2.2 _ _ _ _ ht.2 e α1 H1 s S1 (g.up S v1) _ fun α2 H2 v2 S2 => q α2 H2 (v1.trans v2 S2.inj) S2
      · rename_i h1 e1
        cases e
        intro α H s S g Q q
        refine iha.2.2.2.2.2 _ _ _ _ ht.1 e1 α H s S g _ fun α1 H1 v1 S1 => ?_
        rw [if_pos rfl]
        exact q α1 H1 v1 S1
      · cases e
  | ite c a b ihc iha ihb =>
    have self : ∀ σ h w0 h', ev Γ (.ite c a b) σ h = some (w0, h') → EvR C (rd C Γ (.ite c a b)) σ h w0 h' := by
      intro σ h v' h' e
      simp only [ev] at e
      simp only [rd]
      split at e
      · rename_i ht
        split at e
        · rename_i h1 e1
          intro α H s S g Q q
          refine ihc.2.2.2.2.2 _ _ _ _ ht e1 α H s S g _ fun α1 H1 v1 S1 => ?_
          rw [if_pos rfl]
          exact iha.1 _ _ _ _ e α1 H1 s S1 (g.up S v1) _ fun u2 α2 H2 v2 S2 r2 => q u2 α2 H2 (v1.trans v2 S2.inj) S2 r2
        · rename_i h1 e1
          intro α H s S g Q q
          refine ihc.2.2.2.2.2 _ _ _ _ ht e1 α H s S g _ fun α1 H1 v1 S1 => ?_
          rw [if_neg Bool.false_ne_true]
          exact ihb.1 _ _ _ _ e α1 H1 s S1 (g.up S v1) _ fun u2 α2 H2 v2 S2 r2 => q u2 α2 H2 (v1.trans v2 S2.inj) S2 r2
        · cases e
      · cases e
    refine ⟨self, ?_, ?_, ?_, ?_, ?_⟩
    · intro σ h hn
      simp [evC] at hn
    · intro σ h vs h' e
      simp [evA] at e
    · intro σ h o h' e
      simp [evO] at e
    · intro σ h t h' e
      simp [evI] at e
    · intro σ h b h' ht e
      simp [isTs] at ht
  | sl a lo hi iha ihlo ihhi =>
    have self : ∀ σ h w0 h', ev Γ (.sl a lo hi) σ h = some (w0, h') → EvR C (rd C Γ (.sl a lo hi)) σ h w0 h' := by
      intro σ h v' h' e
      simp only [ev] at e
      simp only [rd]
      split at e
      · rename_i w h1 e1
        split at e
        · rename_i l h2 e2
          split at e
          · rename_i u' h3 e3
            split at e
            · rename_i m xs gg
              intro α H s S g Q q
              refine iha.1 _ _ _ _ e1 α H s S g _ fun u α1 H1 v1 S1 r1 => ihlo.2.2.2.1 _ _ _ _ e2 α1 H1 s S1 (g.up S v1) _ fun α2 H2 v2 S2 => ihhi.2.2.2.1 _ _ _ _ e3 α2 H2 s S2 (g.up S (v1.trans v2 S2.inj)) _ fun α3 H3 v3 S3 => ?_
              obtain ⟨ys, rfl, k1, k2, hm⟩ := S3.at gg (S2.vr v3 (S1.vr v2 r1))
              refine ⟨_, ys, rfl, SqL.of k1, fun p hp => ?_⟩
              have k4 : Vrs C α3 h3.n H3 (G.cutD xs l u') (cutV ys l u') := by
                unfold G.cutD cutV
                rw [k2.len]
                exact (k2.drop _).take _
              exact S3.newl e k4 hp fun u'' α4 H4 v4 S4 r4 => q u'' α4 H4 (((v1.trans v2 S2.inj).trans v3 S3.inj).trans v4 S4.inj) S4 r4
            · cases e
          · cases e
        · cases e
      · cases e
    refine ⟨self, ?_, ?_, ?_, ?_, ?_⟩
    · intro σ h hn
      simp [evC] at hn
    · intro σ h vs h' e
      simp [evA] at e
    · intro σ h o h' e
      simp [evO] at e
    · intro σ h t h' e
      simp [evI] at e
    · intro σ h b h' ht e
      simp [isTs] at ht
  | tup es ihes =>
    have self : ∀ σ h w0 h', ev Γ (.tup es) σ h = some (w0, h') → EvR C (rd C Γ (.tup es)) σ h w0 h' := by
      intro σ h v' h' e
      simp only [ev] at e
      simp only [rd]
      split at e
      · rename_i ws h1 e1
        split at e
        · rename_i hl
          cases e
          intro α H s S g Q q
          refine ihes.2.2.1 _ _ _ _ e1 α H s S g _ fun us α1 H1 v1 S1 r1 => ⟨sz_of (by rw [r1.len]; omega), fun p hp => ?_⟩
          obtain ⟨S2, v2⟩ := S1.side (o := .tup us) hp
          refine q _ α1 _ (v1.trans v2 S2.inj) S2 ?_
          rw [vr_tp]
          exact ⟨p, us, rfl, SqT.of upd_same, S1.vrs v2 r1⟩
        · cases e
      · cases e
    refine ⟨self, ?_, ?_, ?_, ?_, ?_⟩
    · intro σ h hn
      simp [evC] at hn
    · intro σ h vs h' e
      simp [evA] at e
    · intro σ h o h' e
      simp [evO] at e
    · intro σ h t h' e
      simp [evI] at e
    · intro σ h b h' ht e
      simp [isTs] at ht
  | lst es ihes =>
    have self : ∀ σ h w0 h', ev Γ (.lst es) σ h = some (w0, h') → EvR C (rd C Γ (.lst es)) σ h w0 h' := by
      intro σ h v' h' e
      simp only [ev] at e
      simp only [rd]
      split at e
      · rename_i ws h1 e1
        intro α H s S g Q q
        refine ihes.2.2.1 _ _ _ _ e1 α H s S g _ fun us α1 H1 v1 S1 r1 => ⟨sz_of (by rw [r1.len]; have := (newL_of e).2.2; omega), fun p hp => ?_⟩
        exact S1.newl e r1 hp fun u'' α4 H4 v4 S4 r4 => q u'' α4 H4 (v1.trans v4 S4.inj) S4 r4
      · cases e
    refine ⟨self, ?_, ?_, ?_, ?_, ?_⟩
    · intro σ h hn
      simp [evC] at hn
    · intro σ h vs h' e
      simp [evA] at e
    · intro σ h o h' e
      simp [evO] at e
    · intro σ h t h' e
      simp [evI] at e
    · intro σ h b h' ht e
      simp [isTs] at ht
  | dnew  =>
    have self : ∀ σ h w0 h', ev Γ (.dnew ) σ h = some (w0, h') → EvR C (rd C Γ (.dnew )) σ h w0 h' := by
      intro σ h v' h' e
      simp only [ev] at e
      simp only [rd]
      split at e
      · rename_i h1 e1
        cases e
        intro α H s S g Q q p hp
        obtain ⟨S1, v1, en⟩ := S.alloc (c := .dic []) (o := .dK []) hp ⟨[], rfl, .nil⟩ e1
        exact q _ _ _ v1 S1 (by rw [vr_rf]; exact ⟨by rw [ext_at], by omega⟩)
      · cases e
    refine ⟨self, ?_, ?_, ?_, ?_, ?_⟩
    · intro σ h hn
      simp [evC] at hn
    · intro σ h vs h' e
      simp [evA] at e
    · intro σ h o h' e
      simp [evO] at e
    · intro σ h t h' e
      simp [evI] at e
    · intro σ h b h' ht e
      simp [isTs] at ht
  | call k es ihes =>
    have self : ∀ σ h w0 h', ev Γ (.call k es) σ h = some (w0, h') → EvR C (rd C Γ (.call k es)) σ h w0 h' := by
      intro σ h v' h' e
      simp only [ev] at e
      simp only [rd]
      split at e
      · rename_i ws h1 e1
        exact (ca_call (ihes.2.2.1 _ _ _ _ e1)).ev e
      · cases e
    refine ⟨self, ?_, ?_, ?_, ?_, ?_⟩
    · intro σ h hn α H s S g Q E q
      simp only [evC] at q
      simp only [rdC]
      split at q
      · rename_i ws h1 e1
        exact ca_call (ihes.2.2.1 _ _ _ _ e1) α H s S g Q E q
      · exact q.elim
    · intro σ h vs h' e
      simp [evA] at e
    · intro σ h o h' e
      simp [evO] at e
    · intro σ h t h' e
      simp [evI] at e
    · intro σ h b h' ht e
      simp only [rdT]
      have := self _ _ _ _ e
      simp only [rd] at this
      exact tt_B this
  | meth m a es iha ihes =>
    have self : ∀ σ h w0 h', ev Γ (.meth m a es) σ h = some (w0, h') → EvR C (rd C Γ (.meth m a es)) σ h w0 h' := by
      intro σ h v' h' e
      simp only [ev] at e
      simp only [rd]
      split at e
      · rename_i n h1 e1
        split at e
        · rename_i nm tb c fs hm hg
          split at e
          · rename_i k hl
            split at e
            · rename_i hn
              split at e
              · rename_i ws h2 e2
                rw [hm]
                exact (ca_meth (iha.1 _ _ _ _ e1) hg hn (ihes.2.2.1 _ _ _ _ e2) hl).ev e
              · cases e
            · cases e
          · cases e
        · cases e
      · cases e
    refine ⟨self, ?_, ?_, ?_, ?_, ?_⟩
    · intro σ h hn α H s S g Q E q
      simp only [evC] at q
      simp only [rdC]
      split at q
      · rename_i n h1 e1
        split at q
        · rename_i nm tb c fs hm hg
          split at q
          · rename_i k hl
            split at q
            · rename_i hnn
              split at q
              · rename_i ws h2 e2
                rw [hm]
                exact ca_meth (iha.1 _ _ _ _ e1) hg hnn (ihes.2.2.1 _ _ _ _ e2) hl α H s S g Q E q
              · exact q.elim
            · exact q.elim
          · exact q.elim
        · exact q.elim
      · exact q.elim
    · intro σ h vs h' e
      simp [evA] at e
    · intro σ h o h' e
      simp [evO] at e
    · intro σ h t h' e
      simp [evI] at e
    · intro σ h b h' ht e
      simp only [rdT]
      have := self _ _ _ _ e
      simp only [rd] at this
      exact tt_B this
  | new k es ihes =>
    have self : ∀ σ h w0 h', ev Γ (.new k es) σ h = some (w0, h') → EvR C (rd C Γ (.new k es)) σ h w0 h' := by
      intro σ h v' h' e
      simp only [ev] at e
      simp only [rd]
      split at e
      · rename_i c d hn
        split at e
        · rename_i ws h1 e1
          split at e
          · rename_i h2 e2
            split at e
            · rename_i h3 e3
              cases e
              rw [hn]
              have k := ca_new (run := Γ.run d) (ihes.2.2.1 _ _ _ _ e1) e2
              rw [e3] at k
              exact k.ev rfl
            · cases e
          · cases e
        · cases e
      · cases e
    refine ⟨self, ?_, ?_, ?_, ?_, ?_⟩
    · intro σ h hn α H s S g Q E q
      simp only [evC] at q
      simp only [rdC]
      split at q
      · rename_i c d hnn
        split at q
        · rename_i ws h1 e1
          split at q
          · rename_i h2 e2
            rw [hnn]
            have k := ca_new (run := Γ.run d) (ihes.2.2.1 _ _ _ _ e1) e2
            split at q
            · rename_i h3 e3
              rw [e3] at k
              exact k α H s S g Q E q
            · rename_i c2 h3 e3
              rw [e3] at k
              exact k α H s S g Q E q
            · exact q.elim
          · exact q.elim
        · exact q.elim
      · exact q.elim
    · intro σ h vs h' e
      simp [evA] at e
    · intro σ h o h' e
      simp [evO] at e
    · intro σ h t h' e
      simp [evI] at e
    · intro σ h b h' ht e
      simp [isTs] at ht
  | cv i cs es ihes =>
    have self : ∀ σ h w0 h', ev Γ (.cv i cs es) σ h = some (w0, h') → EvR C (rd C Γ (.cv i cs es)) σ h w0 h' := by
      intro σ h v' h' e
      simp only [ev] at e
      simp only [rd]
      split at e
      · rename_i c hi
        split at e
        · rename_i k hl
          split at e
          · rename_i ws h1 e1
            exact (ca_cv hk (hk.rf c) hi (ihes.2.2.1 _ _ _ _ e1) hl).ev e
          · cases e
        · cases e
      · cases e
    refine ⟨self, ?_, ?_, ?_, ?_, ?_⟩
    · intro σ h hn α H s S g Q E q
      simp only [evC] at q
      simp only [rdC]
      split at q
      · rename_i c hi
        split at q
        · rename_i k hl
          split at q
          · rename_i ws h1 e1
            exact ca_cv hk (hk.rf c) hi (ihes.2.2.1 _ _ _ _ e1) hl α H s S g Q E q
          · exact q.elim
        · exact q.elim
      · exact q.elim
    · intro σ h vs h' e
      simp [evA] at e
    · intro σ h o h' e
      simp [evO] at e
    · intro σ h t h' e
      simp [evI] at e
    · intro σ h b h' ht e
      simp [isTs] at ht
  | lamv k =>
    have self : ∀ σ h w0 h', ev Γ (.lamv k) σ h = some (w0, h') → EvR C (rd C Γ (.lamv k)) σ h w0 h' := by
      intro σ h v' h' e
      simp only [ev] at e
      simp only [rd]
      cases e
      exact lamv_ok
    refine ⟨self, ?_, ?_, ?_, ?_, ?_⟩
    · intro σ h hn
      simp [evC] at hn
    · intro σ h vs h' e
      simp [evA] at e
    · intro σ h o h' e
      simp [evO] at e
    · intro σ h t h' e
      simp [evI] at e
    · intro σ h b h' ht e
      simp [isTs] at ht
  | lcall i cs es ihes =>
    have self : ∀ σ h w0 h', ev Γ (.lcall i cs es) σ h = some (w0, h') → EvR C (rd C Γ (.lcall i cs es)) σ h w0 h' := by
      intro σ h v' h' e
      simp only [ev] at e
      simp only [rd]
      split at e
      · rename_i c hi
        split at e
        · rename_i k hl
          split at e
          · rename_i ws h1 e1
            exact (ca_lcall hi (ihes.2.2.1 _ _ _ _ e1) hl).ev e
          · cases e
        · cases e
      · cases e
    refine ⟨self, ?_, ?_, ?_, ?_, ?_⟩
    · intro σ h hn α H s S g Q E q
      simp only [evC] at q
      simp only [rdC]
      split at q
      · rename_i c hi
        split at q
        · rename_i k hl
          split at q
          · rename_i ws h1 e1
            exact ca_lcall hi (ihes.2.2.1 _ _ _ _ e1) hl α H s S g Q E q
          · exact q.elim
        · exact q.elim
      · exact q.elim
    · intro σ h vs h' e
      simp [evA] at e
    · intro σ h o h' e
      simp [evO] at e
    · intro σ h t h' e
      simp [evI] at e
    · intro σ h b h' ht e
      simp [isTs] at ht
  | kinds b ihb =>
    have self : ∀ σ h w0 h', ev Γ (.kinds b) σ h = some (w0, h') → EvR C (rd C Γ (.kinds b)) σ h w0 h' := by
      intro σ h v' h' e
      simp only [ev] at e
      simp only [rd]
      have hn : evC Γ b σ h ≠ .no := fun z => by rw [z] at e; cases e
      exact kinds_ok (ihb.2.1 _ _ hn) e
    refine ⟨self, ?_, ?_, ?_, ?_, ?_⟩
    · intro σ h hn
      simp [evC] at hn
    · intro σ h vs h' e
      simp [evA] at e
    · intro σ h o h' e
      simp [evO] at e
    · intro σ h t h' e
      simp [evI] at e
    · intro σ h b h' ht e
      simp [isTs] at ht
  | itL a iha =>
    have self : ∀ σ h w0 h', ev Γ (.itL a) σ h = some (w0, h') → EvR C (rd C Γ (.itL a)) σ h w0 h' := by
      intro σ h v' h' e
      simp [ev] at e
    refine ⟨self, ?_, ?_, ?_, ?_, ?_⟩
    · intro σ h hn
      simp [evC] at hn
    · intro σ h vs h' e
      simp [evA] at e
    · intro σ h o h' e
      simp [evO] at e
    · intro σ h t h' e
      simp only [evI] at e
      simp only [rdI]
      split at e
      · rename_i w h1 e1
        split at e
        · rename_i n xs e2
          cases e
          exact it_L (iha.1 _ _ _ _ e1) e2
        · cases e
      · cases e
    · intro σ h b h' ht e
      simp [isTs] at ht
  | itT a iha =>
    have self : ∀ σ h w0 h', ev Γ (.itT a) σ h = some (w0, h') → EvR C (rd C Γ (.itT a)) σ h w0 h' := by
      intro σ h v' h' e
      simp [ev] at e
    refine ⟨self, ?_, ?_, ?_, ?_, ?_⟩
    · intro σ h hn
      simp [evC] at hn
    · intro σ h vs h' e
      simp [evA] at e
    · intro σ h o h' e
      simp [evO] at e
    · intro σ h t h' e
      simp only [evI] at e
      simp only [rdI]
      split at e
      · rename_i xs h1 e1
        cases e
        exact it_T (iha.1 _ _ _ _ e1)
      · cases e
    · intro σ h b h' ht e
      simp [isTs] at ht
  | itR a iha =>
    have self : ∀ σ h w0 h', ev Γ (.itR a) σ h = some (w0, h') → EvR C (rd C Γ (.itR a)) σ h w0 h' := by
      intro σ h v' h' e
      simp [ev] at e
    refine ⟨self, ?_, ?_, ?_, ?_, ?_⟩
    · intro σ h hn
      simp [evC] at hn
    · intro σ h vs h' e
      simp [evA] at e
    · intro σ h o h' e
      simp [evO] at e
    · intro σ h t h' e
      simp only [evI] at e
      simp only [rdI]
      split at e
      · rename_i n h1 e1
        split at e
        · rename_i hn
          cases e
          exact it_R (iha.1 _ _ _ _ e1) hn
        · cases e
      · cases e
    · intro σ h b h' ht e
      simp [isTs] at ht
  | itR2 a b iha ihb =>
    have self : ∀ σ h w0 h', ev Γ (.itR2 a b) σ h = some (w0, h') → EvR C (rd C Γ (.itR2 a b)) σ h w0 h' := by
      intro σ h v' h' e
      simp [ev] at e
    refine ⟨self, ?_, ?_, ?_, ?_, ?_⟩
    · intro σ h hn
      simp [evC] at hn
    · intro σ h vs h' e
      simp [evA] at e
    · intro σ h o h' e
      simp [evO] at e
    · intro σ h t h' e
      simp only [evI] at e
      simp only [rdI]
      split at e
      · rename_i m h1 e1
        split at e
        · rename_i n h2 e2
          split at e
          · rename_i hn
            cases e
            exact it_R2 (iha.1 _ _ _ _ e1) (ihb.1 _ _ _ _ e2) hn
          · cases e
        · cases e
      · cases e
    · intro σ h b h' ht e
      simp [isTs] at ht
  | itZ a b iha ihb =>
    have self : ∀ σ h w0 h', ev Γ (.itZ a b) σ h = some (w0, h') → EvR C (rd C Γ (.itZ a b)) σ h w0 h' := by
      intro σ h v' h' e
      simp [ev] at e
    refine ⟨self, ?_, ?_, ?_, ?_, ?_⟩
    · intro σ h hn
      simp [evC] at hn
    · intro σ h vs h' e
      simp [evA] at e
    · intro σ h o h' e
      simp [evO] at e
    · intro σ h t h' e
      simp only [evI] at e
      simp only [rdI]
      split at e
      · rename_i v h1 e1
        split at e
        · rename_i w h2 e2
          split at e
          · rename_i n xs m ys g1 g2
            cases e
            exact it_Z (iha.1 _ _ _ _ e1) (ihb.1 _ _ _ _ e2) g1 g2
          · cases e
        · cases e
      · cases e
    · intro σ h b h' ht e
      simp [isTs] at ht
  | itE a iha =>
    have self : ∀ σ h w0 h', ev Γ (.itE a) σ h = some (w0, h') → EvR C (rd C Γ (.itE a)) σ h w0 h' := by
      intro σ h v' h' e
      simp [ev] at e
    refine ⟨self, ?_, ?_, ?_, ?_, ?_⟩
    · intro σ h hn
      simp [evC] at hn
    · intro σ h vs h' e
      simp [evA] at e
    · intro σ h o h' e
      simp [evO] at e
    · intro σ h t h' e
      simp only [evI] at e
      simp only [rdI]
      split at e
      · rename_i w h1 e1
        split at e
        · rename_i n xs e2
          cases e
          exact it_E (iha.1 _ _ _ _ e1) e2
        · cases e
      · cases e
    · intro σ h b h' ht e
      simp [isTs] at ht
  | lc t it e ihit ihe =>
    have self : ∀ σ h w0 h', ev Γ (.lc t it e) σ h = some (w0, h') → EvR C (rd C Γ (.lc t it e)) σ h w0 h' := by
      intro σ h v' h' e
      simp only [ev] at e
      simp only [rd]
      split at e
      · rename_i it' h1 e1
        exact lc_ok (ihit.2.2.2.2.1 _ _ _ _ e1) e (fun σ2 h2 b h3 hb => by cases hb; exact fun α H s S g Q q => q α H .refl S) (fun σ2 h2 y h3 hy => ihe.1 _ _ _ _ hy)
      · cases e
    refine ⟨self, ?_, ?_, ?_, ?_, ?_⟩
    · intro σ h hn
      simp [evC] at hn
    · intro σ h vs h' e
      simp [evA] at e
    · intro σ h o h' e
      simp [evO] at e
    · intro σ h t h' e
      simp [evI] at e
    · intro σ h b h' ht e
      simp [isTs] at ht
  | lcf t it c e ihit ihc ihe =>
    have self : ∀ σ h w0 h', ev Γ (.lcf t it c e) σ h = some (w0, h') → EvR C (rd C Γ (.lcf t it c e)) σ h w0 h' := by
      intro σ h v' h' e
      simp only [ev] at e
      simp only [rd]
      split at e
      · rename_i ht
        split at e
        · rename_i it' h1 e1
          refine lc_ok (ihit.2.2.2.2.1 _ _ _ _ e1) e (fun σ2 h2 b h3 hb => ?_) (fun σ2 h2 y h3 hy => ihe.1 _ _ _ _ hy)
          cases hc : ev Γ c σ2 h2 with
          | none => rw [hc] at hb; simp [tstR] at hb
          | some p =>
            obtain ⟨w, h4⟩ := p
            rw [hc] at hb
            cases w <;> simp [tstR] at hb
            obtain ⟨rfl, rfl⟩ := hb
            exact ihc.2.2.2.2.2 _ _ _ _ ht hc
        · cases e
      · cases e
    refine ⟨self, ?_, ?_, ?_, ?_, ?_⟩
    · intro σ h hn
      simp [evC] at hn
    · intro σ h vs h' e
      simp [evA] at e
    · intro σ h o h' e
      simp [evO] at e
    · intro σ h t h' e
      simp [evI] at e
    · intro σ h b h' ht e
      simp [isTs] at ht
end
end R

namespace R
open PySem L2
open G (Tg Bo Co Ty5)
inductive S where
  | nil | seq (a r : S) | asg (t : Tg) (e : X) | par (i j : Nat) (a b : X) | par3 (i j k : Nat) (a b c : X) | exp (e : X) | expX (e : X)
  | six (a b e : X) | dput (a b e : X) | aix (a b e : X) | aug (i : Nat) (e : X) | fst (f : Str) (a e : X)
  | ite (c : X) (a b : S) | loop (t : Tg) (it : X) (b : S) | whl (c : X) (b : S) | ret (e : X) | rz (c : Nat)
inductive Oc where
  | nx (σ : Sg) (h : Hs) | rt (v : RV) (h : Hs) | ex (c : Nat) (h : Hs) | no
def forR (nx : Nat → Hs → Option (Option RV)) (t : Tg) (ex : Sg → Hs → Oc) : Nat → Nat → Sg → Hs → Oc
  | 0, _, _, _ => .no
  | f + 1, i, σ, h => match nx i h with
    | none => .no
    | some none => .nx σ h
    | some (some v) => match tgR t v σ with
      | none => .no
      | some σ1 => match ex σ1 h with
        | .nx σ2 h2 => forR nx t ex f (i + 1) σ2 h2
        | o => o
def whR (cf : Sg → Hs → Option (Bool × Hs)) (ex : Sg → Hs → Oc) : Nat → Sg → Hs → Oc
  | 0, _, _ => .no
  | f + 1, σ, h => match cf σ h with
    | none => .no
    | some (false, h1) => .nx σ h1
    | some (true, h1) => match ex σ h1 with
      | .nx σ2 h2 => whR cf ex f σ2 h2
      | o => o
def exec (Γ : Gt) : S → Sg → Hs → Oc
  | .nil, σ, h => .nx σ h
  | .seq a r, σ, h => match exec Γ a σ h with
    | .nx σ1 h1 => exec Γ r σ1 h1
    | o => o
  | .asg t e, σ, h => match ev Γ e σ h with
    | some (v, h1) => match tgR t v σ with
      | some σ1 => .nx σ1 h1
      | none => .no
    | none => .no
  | .par i j a b, σ, h => match ev Γ a σ h with
    | some (v, h1) => match ev Γ b σ h1 with
      | some (w, h2) => .nx ((σ.set i (some v)).set j (some w)) h2
      | none => .no
    | none => .no
  | .par3 i j k a b c, σ, h => match ev Γ a σ h with
    | some (v, h1) => match ev Γ b σ h1 with
      | some (w, h2) => match ev Γ c σ h2 with
        | some (z, h3) => .nx (((σ.set i (some v)).set j (some w)).set k (some z)) h3
        | none => .no
      | none => .no
    | none => .no
  | .exp e, σ, h => match ev Γ e σ h with
    | some (_, h1) => .nx σ h1
    | none => .no
  | .expX e, σ, h => match evC Γ e σ h with
    | .ok _ h1 => .nx σ h1
    | .ex c h1 => .ex c h1
    | .no => .no
  | .six a b e, σ, h => match ev Γ e σ h with
    | some (v, h1) => match ev Γ a σ h1 with
      | some (w, h2) => match ev Γ b σ h2 with
        | some (.int k, h3) => match lstAt h3 w with
          | some (n, xs) => match ixN xs.length k with
            | some j => .nx σ (h3.put n (.lst (xs.set j v)))
            | none => .no
          | none => .no
        | _ => .no
      | none => .no
    | none => .no
  | .dput a b e, σ, h => match ev Γ e σ h with
    | some (v, h1) => match ev Γ a σ h1 with
      | some (.rf n, h2) => match ev Γ b σ h2 with
        | some (w, h3) => match h3.get n, keyR w with
          | some (.dic kvs), some k => if kvs.length < 100000 then .nx σ (h3.put n (.dic (putR k v kvs))) else .no
          | _, _ => .no
        | none => .no
      | _ => .no
    | none => .no
  | .aix a b e, σ, h => match ev Γ a σ h with
    | some (w, h1) => match ev Γ b σ h1 with
      | some (.int k, h2) => match lstAt h2 w with
        | some (_, xs) => match atI xs k with
          | some (.int x) => match ev Γ e σ h2 with
            | some (.int y, h3) => match lstAt h3 w with
              | some (n, zs) => match ixN zs.length k with
                | some j => .nx σ (h3.put n (.lst (zs.set j (.int (x + y)))))
                | none => .no
              | none => .no
            | _ => .no
          | _ => .no
        | none => .no
      | _ => .no
    | none => .no
  | .aug i e, σ, h => match σ[i]? with
    | some (some (.int x)) => match ev Γ e σ h with
      | some (.int y, h1) => .nx (σ.set i (some (.int (x + y)))) h1
      | _ => .no
    | _ => .no
  | .fst f a e, σ, h => match ev Γ e σ h with
    | some (v, h1) => match ev Γ a σ h1 with
      | some (.rf n, h2) => match h2.get n with
        | some (.ins c fs) => match Γ.fn c with
          | some l => if l.contains f = true ∧ fs.length < 900 then .nx σ (h2.put n (.ins c (fputR f v fs))) else .no
          | none => .no
        | _ => .no
      | _ => .no
    | none => .no
  | .ite c a b, σ, h => if isTs c = true then (match ev Γ c σ h with
    | some (.bl true, h1) => exec Γ a σ h1
    | some (.bl false, h1) => exec Γ b σ h1
    | _ => .no) else .no
  | .loop t it b, σ, h => match evI Γ it σ h with
    | some (s, h1) => forR s.next t (fun σ h => exec Γ b σ h) 3000 0 σ h1
    | none => .no
  | .whl c b, σ, h => if isTs c = true then whR (fun σ h => tstR (ev Γ c σ h)) (fun σ h => exec Γ b σ h) 3000 σ h else .no
  | .ret e, σ, h => match ev Γ e σ h with
    | some (v, h1) => .rt v h1
    | none => .no
  | .rz c, σ, h => .ex c h
def rdS (C : Cf) (Γ : Gt) (E : XK) : S → TS
  | .nil => tNext
  | .seq a r => tSeq (rdS C Γ E a) (rdS C Γ E r)
  | .asg t e => tAsg (rd C Γ e) (t.rd C.K)
  | .par i j a b => tPar i j (tCons (rd C Γ a) (tCons (rd C Γ b) tNil))
  | .par3 i j k a b c => tPar3 i j k (tCons (rd C Γ a) (tCons (rd C Γ b) (tCons (rd C Γ c) tNil)))
  | .exp e => tDrop (rd C Γ e)
  | .expX e => tDrop (rdC C Γ E e)
  | .six a b e => tAsg (rd C Γ e) (gSub (rd C Γ a) (rd C Γ b) rSetL)
  | .dput a b e => sDPut (rd C Γ a) (rd C Γ b) (rd C Γ e)
  | .aix a b e => tAugS (rd C Γ a) (rd C Γ b) (rd C Γ e) (G.rGetL C.K) (ipI fun i j => i + j) rSetL
  | .aug i e => tAug i (rd C Γ e) (ipI fun i j => i + j)
  | .fst f a e => sFld C.K (rd C Γ a) (rd C Γ e) f
  | .ite c a b => tIfS (rdT C Γ c) (rdS C Γ E a) (rdS C Γ E b)
  | .loop t it b => tFor (rdI C Γ it) (t.rd C.K) (rdS C Γ E b)
  | .whl c b => tWhile (rdT C Γ c) (rdS C Γ E b)
  | .ret e => tRet (rd C Γ e)
  | .rz c => fun _ _ H => E (.ref (C.Cl c)) none H
def PostS (C : Cf) (α : Nat → Addr) (n : Nat) (H : Hp) (D : Ends) (E : XK) : Oc → Prop
  | .nx σ' h' => ∀ s' α' H', Ev n h'.n α α' H H' → Sim C α' h' H' → SgR C α' h'.n H' σ' s' → D.nx s' H'
  | .rt v h' => ∀ u α' H', Ev n h'.n α α' H H' → Sim C α' h' H' → Vr C α' h'.n H' v u → D.rt u H'
  | .ex c h' => ∀ α' H', Ev n h'.n α α' H H' → Sim C α' h' H' → E (.ref (C.Cl c)) none H'
  | .no => False
def StR (C : Cf) (ts : XK → TS) (σ : Sg) (h : Hs) (o : Oc) : Prop := ∀ α H s, Sim C α h H → SgR C α h.n H σ s → ∀ (D : Ends) (E : XK), PostS C α h.n H D E o → ts E D s H
section
variable {C : Cf} {Γ : Gt} {α α' : Nat → Addr} {h h0 h1 h2 h3 h' : Hs} {H H' : Hp} {n n' : Nat} {σ : Sg} {s : St}
theorem ps_up (e1 : Ev n h.n α α' H H') {o : Oc} {D : Ends} {E : XK} (k : PostS C α n H D E o) : PostS C α' h.n H' D E o := by
  cases o with
  | nx σ h2 => exact fun s α2 H2 e S r => k s α2 H2 (e1.trans e S.inj) S r
  | rt v h2 => exact fun u α2 H2 e S r => k u α2 H2 (e1.trans e S.inj) S r
  | ex c h2 => exact fun α2 H2 e S => k α2 H2 (e1.trans e S.inj) S
  | no => exact k
theorem putR_of {k : Key} {v : RV} {u : V} {kvs : List (Key × RV)} {ys : List V} (r : Vrs C α n H (kvs.map (·.2)) ys) (rv : Vr C α n H v u) : ∃ ys', putK ((kvs.map (·.1)).zip ys) k u = ((putR k v kvs).map (·.1)).zip ys' ∧ Vrs C α n H ((putR k v kvs).map (·.2)) ys' := by
  have any_eq : ∀ (kvs : List (Key × RV)) (ys : List V), Vrs C α n H (kvs.map (·.2)) ys → (((kvs.map (·.1)).zip ys).any fun kv => decide (kv.1 = k)) = kvs.any fun kv => decide (kv.1 = k) := by
    intro kvs
    induction kvs with
    | nil => intro ys _; simp
    | cons p kvs ih =>
      intro ys r
      rw [List.map_cons, vrs_cons] at r
      obtain ⟨y, r', rfl, r1, r2⟩ := r
      rw [List.map_cons, List.zip_cons_cons, List.any_cons, List.any_cons, ih _ r2]
  have map_eq : ∀ (kvs : List (Key × RV)) (ys : List V), Vrs C α n H (kvs.map (·.2)) ys → ∃ ys', ((kvs.map (·.1)).zip ys).map (fun kv => if kv.1 = k then (kv.1, u) else kv) = ((kvs.map (fun kv => if kv.1 = k then (kv.1, v) else kv)).map (·.1)).zip ys' ∧ Vrs C α n H ((kvs.map (fun kv => if kv.1 = k then (kv.1, v) else kv)).map (·.2)) ys' := by
    intro kvs
    induction kvs with
    | nil => intro ys _; exact ⟨[], by simp, by simp [Vrs]⟩
    | cons p kvs ih =>
      intro ys r
      obtain ⟨q, w⟩ := p
      rw [List.map_cons, vrs_cons] at r
      obtain ⟨y, r', rfl, r1, r2⟩ := r
      obtain ⟨ys', e1, e2⟩ := ih _ r2
      rw [List.map_cons, List.zip_cons_cons, List.map_cons, List.map_cons, List.map_cons, List.map_cons, e1]
      by_cases e : q = k
      · simp only [if_pos e]
        exact ⟨u :: ys', by rw [List.zip_cons_cons], .cons rv e2⟩
      · simp only [if_neg e]
        exact ⟨y :: ys', by rw [List.zip_cons_cons], .cons r1 e2⟩
  unfold putK putR
  rw [any_eq kvs ys r]
  by_cases e : (kvs.any fun kv => decide (kv.1 = k)) = true
  · rw [if_pos e, if_pos e]
    exact map_eq kvs ys r
  · rw [if_neg e, if_neg e]
    refine ⟨ys ++ [u], ?_, ?_⟩
    · rw [List.map_append, List.zip_append (by have := r.len; simpa using this.symm)]
      rfl
    · rw [List.map_append]
      exact r.app (.one rv)
theorem fputR_of {f : Str} {v : RV} {u : V} : ∀ {fs : List (Str × RV)} {ys : List V}, Vrs C α n H (fs.map (·.2)) ys → Vr C α n H v u → ∃ ys', putF f u ((fs.map (·.1)).zip ys) = ((fputR f v fs).map (·.1)).zip ys' ∧ Vrs C α n H ((fputR f v fs).map (·.2)) ys'
  | [], ys, r, rv => ⟨[u], by simp [putF, fputR], by simp only [fputR]; exact .one rv⟩
  | (q, w) :: fs, ys, r, rv => by
    rw [List.map_cons, vrs_cons] at r
    obtain ⟨y, r', rfl, r1, r2⟩ := r
    rw [List.map_cons, List.zip_cons_cons]
    by_cases e : q = f
    · simp only [putF, fputR, if_pos e]
      exact ⟨u :: r', by rw [List.map_cons, List.zip_cons_cons], .cons rv r2⟩
    · obtain ⟨ys', e1, e2⟩ := fputR_of (f := f) r2 rv
      simp only [putF, fputR, if_neg e, e1]
      exact ⟨y :: ys', by rw [List.map_cons, List.zip_cons_cons], .cons r1 e2⟩
theorem loop_ok {wi : TI} {t : Tg} {tb : XK → TS} {it : Its} {ex : Sg → Hs → Oc} (hi : ItR C wi σ h it h1) (hb : ∀ σ2 h2, StR C tb σ2 h2 (ex σ2 h2)) :
    StR C (fun E => tFor wi (t.rd C.K) (tb E)) σ h (forR it.next t ex 3000 0 σ h1) := fun α H st S g D E q => by
  refine hi α H st S g _ fun J α1 H1 e1 S1 wk => ?_
  have q1 := ps_up e1 q
  refine ⟨fun i m s H => ∃ α' hc σ', Sim C α' hc H ∧ Ev h1.n hc.n α1 α' H1 H ∧ SgR C α' hc.n H σ' s ∧ PostS C α' hc.n H D E (forR it.next t ex m i σ' hc), ⟨3000, α1, h1, σ, S1, .refl, g.up S e1, q1⟩, ?_⟩
  rintro i m s Hc ⟨α', hc, σ', S2, e2, g2, q2⟩
  cases m with
  | zero => exact q2.elim
  | succ m =>
    obtain ⟨w1, w2⟩ := wk α' hc Hc i S2 e2
    simp only [forR] at q2
    split at q2
    · exact q2.elim
    · rename_i hn
      exact .inl ⟨w2 hn, q2 s α' Hc .refl S2 g2⟩
    · rename_i x hx
      obtain ⟨go, yl⟩ := w1 x hx
      split at q2
      · exact q2.elim
      · rename_i σ1 ht
        refine .inr ⟨go, fun s H => ∃ α' hc σ', Sim C α' hc H ∧ Ev h1.n hc.n α1 α' H1 H ∧ SgR C α' hc.n H σ' s ∧ PostS C α' hc.n H D E (forR it.next t ex m (i + 1) σ' hc), fun s H w => ⟨m, by omega, w⟩, fun u H' yy => ?_⟩
        obtain ⟨S3, e3, ru⟩ := yl u H' yy
        refine tgR_ok t x (g2.up S2 e3) ru ht fun s1 gs1 w1 => ?_
        have e13 := e2.trans e3 S3.inj
        refine hb σ1 hc α' H' s1 S3 gs1 _ E ?_
        cases ho : ex σ1 hc with
        | no => rw [ho] at q2; exact q2.elim
        | rt v h5 =>
          rw [ho] at q2
          exact fun u α5 H5 e5 S5 r5 => q2 u α5 H5 (e3.trans e5 S5.inj) S5 r5
        | ex c h5 =>
          rw [ho] at q2
          exact fun α5 H5 e5 S5 => q2 α5 H5 (e3.trans e5 S5.inj) S5
        | nx σ2 h5 =>
          rw [ho] at q2
          exact fun s5 α5 H5 e5 S5 g5 => ⟨α5, h5, σ2, S5, e13.trans e5 S5.inj, g5, ps_up (e3.trans e5 S5.inj) q2⟩
theorem while_ok {tc : TT} {tb : XK → TS} {cf : Sg → Hs → Option (Bool × Hs)} {ex : Sg → Hs → Oc} (hc : ∀ σ2 h2 b h3, cf σ2 h2 = some (b, h3) → TtR C tc σ2 h2 b h3) (hb : ∀ σ2 h2, StR C tb σ2 h2 (ex σ2 h2)) :
    StR C (fun E => tWhile tc (tb E)) σ h (whR cf ex 3000 σ h) := fun α H st S g D E q => by
  refine ⟨fun m s H => ∃ α' hc σ', Sim C α' hc H ∧ SgR C α' hc.n H σ' s ∧ PostS C α' hc.n H D E (whR cf ex m σ' hc), ⟨3000, α, h, σ, S, g, q⟩, ?_⟩
  rintro m s Hc ⟨α', hq, σ', S2, g2, q2⟩
  cases m with
  | zero => exact q2.elim
  | succ m =>
    simp only [whR] at q2
    split at q2
    · exact q2.elim
    · rename_i h3 e
      refine hc _ _ _ _ e α' Hc s S2 g2 _ fun α3 H3 e3 S3 => ?_
      rw [if_neg Bool.false_ne_true]
      exact q2 s α3 H3 e3 S3 (g2.up S2 e3)
    · rename_i h3 e
      refine hc _ _ _ _ e α' Hc s S2 g2 _ fun α3 H3 e3 S3 => ?_
      rw [if_pos rfl]
      refine ⟨fun s H => ∃ α' hc σ', Sim C α' hc H ∧ SgR C α' hc.n H σ' s ∧ PostS C α' hc.n H D E (whR cf ex m σ' hc), fun s H w => ⟨m, by omega, w⟩, ?_⟩
      refine hb σ' h3 α3 H3 s S3 (g2.up S2 e3) _ E ?_
      cases ho : ex σ' h3 with
      | no => rw [ho] at q2; exact q2.elim
      | rt v h5 =>
        rw [ho] at q2
        exact fun u α5 H5 e5 S5 r5 => q2 u α5 H5 (e3.trans e5 S5.inj) S5 r5
      | ex c h5 =>
        rw [ho] at q2
        exact fun α5 H5 e5 S5 => q2 α5 H5 (e3.trans e5 S5.inj) S5
      | nx σ2 h5 =>
        rw [ho] at q2
        exact fun s5 α5 H5 e5 S5 g5 => ⟨α5, h5, σ2, S5, g5, ps_up (e3.trans e5 S5.inj) q2⟩
theorem exec_ok (hk : KsR C Γ) : ∀ (st : S) (σ : Sg) (h : Hs), StR C (fun E => rdS C Γ E st) σ h (exec Γ st σ h) := by
  have V := fun x => (ev_all hk x).1
  have I := fun x => (ev_all hk x).2.2.2.2.1
  have T := fun x => (ev_all hk x).2.2.2.2.2
  intro st
  induction st with
  | nil => exact fun σ h α H s S g D E q => q s α H .refl S g
  | seq a r iha ihr =>
    intro σ h α H s S g D E q
    simp only [exec] at q
    refine iha σ h α H s S g _ E ?_
    cases ho : exec Γ a σ h with
    | no => rw [ho] at q; exact q
    | rt v h5 => rw [ho] at q; exact q
    | ex c h5 => rw [ho] at q; exact q
    | nx σ2 h5 =>
      rw [ho] at q
      exact fun s5 α5 H5 e5 S5 g5 => ihr σ2 h5 α5 H5 s5 S5 g5 D E (ps_up e5 q)
  | asg t e =>
    intro σ h α H s S g D E q
    simp only [exec] at q
    split at q
    · rename_i v h1 e1
      split at q
      · rename_i σ1 ht
        refine V e _ _ _ _ e1 α H s S g _ fun u α1 H1 v1 S1 r1 => ?_
        exact tgR_ok t v (g.up S v1) r1 ht fun s1 gs1 _ => q s1 α1 H1 v1 S1 gs1
      · exact q.elim
    · exact q.elim
  | par i j a b =>
    intro σ h α H s S g D E q
    simp only [exec] at q
    split at q
    · rename_i v h1 e1
      split at q
      · rename_i w h2 e2
        refine V a _ _ _ _ e1 α H s S g _ fun u α1 H1 v1 S1 r1 => V b _ _ _ _ e2 α1 H1 s S1 (g.up S v1) _ fun u2 α2 H2 v2 S2 r2 => ?_
        exact ⟨u, u2, rfl, q _ α2 H2 (v1.trans v2 S2.inj) S2 (((g.up S (v1.trans v2 S2.inj)).set (S1.vr v2 r1)).set r2)⟩
      · exact q.elim
    · exact q.elim
  | par3 i j k a b c =>
    intro σ h α H s S g D E q
    simp only [exec] at q
    split at q
    · rename_i v h1 e1
      split at q
      · rename_i w h2 e2
        split at q
        · rename_i z h3 e3
          refine V a _ _ _ _ e1 α H s S g _ fun u α1 H1 v1 S1 r1 => V b _ _ _ _ e2 α1 H1 s S1 (g.up S v1) _ fun u2 α2 H2 v2 S2 r2 => V c _ _ _ _ e3 α2 H2 s S2 (g.up S (v1.trans v2 S2.inj)) _ fun u3 α3 H3 v3 S3 r3 => ?_
          have ee := (v1.trans v2 S2.inj).trans v3 S3.inj
          exact ⟨u, u2, u3, rfl, q _ α3 H3 ee S3 ((((g.up S ee).set (S2.vr v3 (S1.vr v2 r1))).set (S2.vr v3 r2)).set r3)⟩
        · exact q.elim
      · exact q.elim
    · exact q.elim
  | exp e =>
    intro σ h α H s S g D E q
    simp only [exec] at q
    split at q
    · rename_i v h1 e1
      exact V e _ _ _ _ e1 α H s S g _ fun u α1 H1 v1 S1 r1 => q s α1 H1 v1 S1 (g.up S v1)
    · exact q.elim
  | expX e =>
    intro σ h α H s S g D E q
    simp only [exec] at q
    have hn : evC Γ e σ h ≠ .no := fun z => by rw [z] at q; exact q
    refine (ev_all hk e).2.1 σ h hn α H s S g _ E ?_
    cases ho : evC Γ e σ h with
    | no => exact absurd ho hn
    | ok v h1 =>
      rw [ho] at q
      exact fun u α1 H1 v1 S1 r1 => q s α1 H1 v1 S1 (g.up S v1)
    | ex c h1 =>
      rw [ho] at q
      exact q
  | six a b e =>
    intro σ h α H s S g D E q
    simp only [exec] at q
    split at q
    · rename_i v h1 e1
      split at q
      · rename_i w h2 e2
        split at q
        · rename_i k h3 e3
          split at q
          · rename_i n xs gg
            split at q
            · rename_i j hj
              refine V e _ _ _ _ e1 α H s S g _ fun u α1 H1 v1 S1 r1 => V a _ _ _ _ e2 α1 H1 s S1 (g.up S v1) _ fun u2 α2 H2 v2 S2 r2 => V b _ _ _ _ e3 α2 H2 s S2 (g.up S (v1.trans v2 S2.inj)) _ fun u3 α3 H3 v3 S3 r3 => ?_
              have ee := (v1.trans v2 S2.inj).trans v3 S3.inj
              obtain ⟨ys, rfl, k1, k2, hm⟩ := S3.at gg (S2.vr v3 r2)
              rw [vr_int] at r3
              refine ⟨_, ys, k, j, rfl, r3, k1, by rw [k2.len]; exact hj, ?_⟩
              obtain ⟨S4, v4⟩ := S3.store (c := .lst (xs.set j v)) (o := .lst (ys.set j u)) hm ⟨_, rfl, k2.set j (S2.vr v3 (S1.vr v2 r1))⟩
              exact q s α3 _ (ee.trans v4 S4.inj) S4 (g.up S (ee.trans v4 S4.inj))
            · exact q.elim
          · exact q.elim
        · exact q.elim
      · exact q.elim
    · exact q.elim
  | dput a b e =>
    intro σ h α H s S g D E q
    simp only [exec] at q
    split at q
    · rename_i v h1 e1
      split at q
      · rename_i n h2 e2
        split at q
        · rename_i w h3 e3
          split at q
          · rename_i kvs k gg hq
            split at q
            · rename_i hl
              refine V e _ _ _ _ e1 α H s S g _ fun u α1 H1 v1 S1 r1 => V a _ _ _ _ e2 α1 H1 s S1 (g.up S v1) _ fun u2 α2 H2 v2 S2 r2 => V b _ _ _ _ e3 α2 H2 s S2 (g.up S (v1.trans v2 S2.inj)) _ fun u3 α3 H3 v3 S3 r3 => ?_
              have ee := (v1.trans v2 S2.inj).trans v3 S3.inj
              have r2' := S2.vr v3 r2
              rw [vr_rf] at r2'
              obtain ⟨rfl, hm⟩ := r2'
              obtain ⟨ys, k1, k2⟩ := S3.dic gg
              obtain ⟨ys', p1, p2⟩ := putR_of (k := k) k2 (S2.vr v3 (S1.vr v2 r1))
              rw [keyR_of hq r3]
              refine ⟨_, _, rfl, DPut.k k1 (sz_lt ?_), ?_⟩
              · rw [List.length_zip, List.length_map]; omega
              · rw [p1]
                obtain ⟨S4, v4⟩ := S3.store (c := .dic (putR k v kvs)) (o := .dK (((putR k v kvs).map (·.1)).zip ys')) hm ⟨_, rfl, p2⟩
                exact q s α3 _ (ee.trans v4 S4.inj) S4 (g.up S (ee.trans v4 S4.inj))
            · exact q.elim
          · exact q.elim
        · exact q.elim
      · exact q.elim
    · exact q.elim
  | aix a b e =>
    intro σ h α H s S g D E q
    simp only [exec] at q
    split at q
    · rename_i w h1 e1
      split at q
      · rename_i k h2 e2
        split at q
        · rename_i n0 xs gg
          split at q
          · rename_i x hx
            split at q
            · rename_i y h3 e3
              split at q
              · rename_i n zs gg2
                split at q
                · rename_i j hj
                  refine V a _ _ _ _ e1 α H s S g _ fun u α1 H1 v1 S1 r1 => V b _ _ _ _ e2 α1 H1 s S1 (g.up S v1) _ fun u2 α2 H2 v2 S2 r2 => ?_
                  obtain ⟨ys, eu, k1, k2, hm⟩ := S2.at gg (S1.vr v2 r1)
                  obtain ⟨x', k3, k4⟩ := atI_vrs k2 hx
                  rw [vr_int] at r2 k4
                  refine ⟨_, ys, k, x', eu, r2, SqL.of k1, k3, ?_⟩
                  refine V e _ _ _ _ e3 α2 H2 s S2 (g.up S (v1.trans v2 S2.inj)) _ fun u3 α3 H3 v3 S3 r3 => ?_
                  have ee := (v1.trans v2 S2.inj).trans v3 S3.inj
                  obtain ⟨zs', eu2, k5, k6, hm2⟩ := S3.at gg2 (S2.vr v3 (S1.vr v2 r1))
                  rw [vr_int] at r3
                  refine ⟨x, y, k4, r3, ?_⟩
                  refine ⟨_, zs', k, j, eu2, r2, k5, by rw [k6.len]; exact hj, ?_⟩
                  obtain ⟨S4, v4⟩ := S3.store (c := .lst (zs.set j (.int (x + y)))) (o := .lst (zs'.set j (.int (x + y)))) hm2 ⟨_, rfl, k6.set j (by rw [vr_int])⟩
                  exact q s α3 _ (ee.trans v4 S4.inj) S4 (g.up S (ee.trans v4 S4.inj))
                · exact q.elim
              · exact q.elim
            · exact q.elim
          · exact q.elim
        · exact q.elim
      · exact q.elim
    · exact q.elim
  | aug i e =>
    intro σ h α H s S g D E q
    simp only [exec] at q
    split at q
    · rename_i x hx
      split at q
      · rename_i y h1 e1
        obtain ⟨u, k1, k2⟩ := g.2 i _ hx
        rw [vr_int] at k2
        refine ⟨u, k1, ?_⟩
        refine V e _ _ _ _ e1 α H s S g _ fun u3 α3 H3 v3 S3 r3 => ?_
        rw [vr_int] at r3
        exact ⟨x, y, k2, r3, q _ α3 H3 v3 S3 ((g.up S v3).set (by rw [vr_int]))⟩
      · exact q.elim
    · exact q.elim
  | fst f a e =>
    intro σ h α H s S g D E q
    simp only [exec] at q
    split at q
    · rename_i v h1 e1
      split at q
      · rename_i n h2 e2
        split at q
        · rename_i c fs gg
          split at q
          · rename_i l hl
            split at q
            · rename_i hc
              refine V e _ _ _ _ e1 α H s S g _ fun u α1 H1 v1 S1 r1 => V a _ _ _ _ e2 α1 H1 s S1 (g.up S v1) _ fun u2 α2 H2 v2 S2 r2 => ?_
              have ee := v1.trans v2 S2.inj
              rw [vr_rf] at r2
              obtain ⟨rfl, hm⟩ := r2
              obtain ⟨dx, ys, k1, k2⟩ := S2.ins gg
              obtain ⟨cl, na⟩ := hk.na c l hl
              obtain ⟨ys', p1, p2⟩ := fputR_of (f := f) k2 (S1.vr v2 r1)
              refine ⟨_, _, dx, _, rfl, k1, cl, na f (by simpa using hc.1), ?_, ?_⟩
              · rw [List.length_zip, List.length_map]; omega
              · rw [p1]
                obtain ⟨S4, v4⟩ := S2.store (c := .ins c (fputR f v fs)) (o := .ins (C.Cl c) dx (((fputR f v fs).map (·.1)).zip ys')) hm ⟨dx, _, rfl, p2⟩
                exact q s α2 _ (ee.trans v4 S4.inj) S4 (g.up S (ee.trans v4 S4.inj))
            · exact q.elim
          · exact q.elim
        · exact q.elim
      · exact q.elim
    · exact q.elim
  | ite c a b iha ihb =>
    intro σ h α H s S g D E q
    simp only [exec] at q
    split at q
    · rename_i ht
      split at q
      · rename_i h1 e1
        refine T c _ _ _ _ ht e1 α H s S g _ fun α1 H1 v1 S1 => ?_
        rw [if_pos rfl]
        exact iha σ h1 α1 H1 s S1 (g.up S v1) D E (ps_up v1 q)
      · rename_i h1 e1
        refine T c _ _ _ _ ht e1 α H s S g _ fun α1 H1 v1 S1 => ?_
        rw [if_neg Bool.false_ne_true]
        exact ihb σ h1 α1 H1 s S1 (g.up S v1) D E (ps_up v1 q)
      · exact q.elim
    · exact q.elim
  | loop t it b ihb =>
    intro σ h α H s S g D E q
    simp only [exec] at q
    split at q
    · rename_i it' h1 e1
      exact loop_ok (I it _ _ _ _ e1) ihb α H s S g D E q
    · exact q.elim
  | whl c b ihb =>
    intro σ h α H s S g D E q
    simp only [exec] at q
    split at q
    · rename_i ht
      refine while_ok (fun σ2 h2 b h3 hb => ?_) ihb α H s S g D E q
      cases hc : ev Γ c σ2 h2 with
      | none => rw [hc] at hb; simp [tstR] at hb
      | some p =>
        obtain ⟨w, h4⟩ := p
        rw [hc] at hb
        cases w <;> simp [tstR] at hb
        obtain ⟨rfl, rfl⟩ := hb
        exact T c _ _ _ _ ht hc
    · exact q.elim
  | ret e =>
    intro σ h α H s S g D E q
    simp only [exec] at q
    split at q
    · rename_i v h1 e1
      exact V e _ _ _ _ e1 α H s S g _ fun u α1 H1 v1 S1 r1 => q u α1 H1 v1 S1 r1
    · exact q.elim
  | rz c => exact fun σ h α H s S g D E q => q α H .refl S
end

open PySem.Spec PyProof.Rows
/-! ### defs -/
def fnOc : Oc → Ot
  | .nx _ h => .ok .non h
  | .rt v h => .ok v h
  | .ex c h => .ex c h
  | .no => .no
def fnRun (Γ : Gt) (ar n : Nat) (b : S) (args : List RV) (h : Hs) : Ot := if args.length = ar then fnOc (exec Γ b (args.map some ++ List.replicate (n - ar) none) h) else .no
section
variable {P : Program} {w : World} {K : PySem.W.Frag} {mg : Str → Option Value} {base : Heap}
theorem fn_end0 {C : Cf} {N ps : List Str} {Γ : Gt} {b : S} {α : Nat → Addr} {hs : Hs} {args : List RV} {vs : List V} {H : Hp} {Q : VK} {E : XK} (hk : KsR C Γ) (S : Sim C α hs H) (r : Vrs C α hs.n H args vs) (e : args.length = ps.length)
    (q : PostR C α hs.n H Q E (fnOc (exec Γ b (args.map some ++ List.replicate (N.length - ps.length) none) hs))) : rdS C Γ E b { nx := fun _ H' => Q .non H', rt := Q } (L2.start N vs) H := by
  have g : SgR C α hs.n H (args.map some ++ List.replicate (N.length - ps.length) none) (L2.start N vs) := by
    have hl := r.len
    refine ⟨?_, fun i v hv => ?_⟩
    · unfold L2.start
      simp only [List.length_append, List.length_map, List.length_replicate]
      omega
    · by_cases hi : i < args.length
      · rw [List.getElem?_append_left (by simpa using hi), List.getElem?_map, List.getElem?_eq_getElem hi] at hv
        simp only [Option.map_some, Option.some.injEq] at hv
        obtain ⟨u, e1, e2⟩ := r.get (List.getElem?_eq_getElem hi)
        rw [hv] at e2
        refine ⟨u, ?_, e2⟩
        unfold L2.start
        rw [List.getElem?_append_left (by rw [List.length_map]; omega), List.getElem?_map, e1]
        rfl
      · rw [List.getElem?_append_right (by simpa using hi), List.getElem?_replicate] at hv
        split at hv
        · cases hv
        · cases hv
  refine exec_ok hk b _ hs α H _ S g _ E ?_
  cases ho : exec Γ b (args.map some ++ List.replicate (N.length - ps.length) none) hs with
  | no => rw [ho] at q; exact q
  | ex c h5 => rw [ho] at q; exact q
  | rt v h5 => rw [ho] at q; exact q
  | nx σ2 h5 =>
    rw [ho] at q
    exact fun s5 α5 H5 e5 S5 g5 => q .non α5 H5 e5 S5 (by rw [vr_non])
theorem fn_end {C : Cf} {N ps : List Str} {sc : Scope} {Γ : Gt} {b : S} {α : Nat → Addr} {hs : Hs} {args : List RV} {vs : List V} {H : Hp} {Q : VK} {E : XK} (hk : KsR C Γ) (fs : FnScope N ps sc) (S : Sim C α hs H) (r : Vrs C α hs.n H args vs) (e : args.length = ps.length)
    (q : PostR C α hs.n H Q E (fnOc (exec Γ b (args.map some ++ List.replicate (N.length - ps.length) none) hs))) : rdS C Γ E b { nx := fun _ H' => Q .non H', rt := Q } (L2.start N vs) H := fn_end0 hk S r e q
/-- a lambda by its expression -/
theorem lmR_c {C : Cf} {D : LmD} {N ps : List Str} {k : Nat} {Γ : Gt} {e : X} (S : NdefX.NScope N ps [] D.scope) (hb : ∀ (c : Addr) (pm ctv : Value) (us : List Value), us.length = ps.length → bindArgs (PySem.W.kla_fn "<lambda>" D.q D.params D.body D.scope [] pm (.ref c) ctv) ⟨us, []⟩ = pure (ps.zip us)) (hk : KsR C Γ)
    (body : ∀ (A : Around) (outer : List Env) (s : Shared) (H : Hp) (E : XK) (f c : Addr), Room k (A.deeper (NdefX.envF (D.nf c) f s.heap.objs.size)) →
      PE (NdefX.ncx (L2.CX P w) P w K mg base N (D.nf c) f A outer s H E) D.body (rd C Γ e)) : LOk P w K mg base (L2.CX P w) (k + 1) D ps (spR C (fnRun Γ ps.length N.length (.seq (.ret e) .nil))) := by
  refine lok_of S hb (fun vs H Q E h => ?_) fun A outer s H f c vs Q E hr h => ⟨_, body A outer s H E f c hr, ?_⟩
  · obtain ⟨α, hs, args, S, r, q⟩ := h
    unfold fnRun at q
    split at q
    · rename_i e
      rw [r.len, e]
    · exact q.elim
  · obtain ⟨α, hs, args, S, r, q⟩ := h
    unfold fnRun at q
    split at q
    · rename_i e'
      have q2 := fn_end0 (N := N) (b := .seq (.ret e) .nil) hk S r e' q
      have e2 : NdefX.startF N vs [] = L2.start N vs := by
        unfold NdefX.startF L2.start
        simp
      rw [e2]
      exact q2
    · exact q.elim
theorem lm_no {C : Cf} {CX : CXT} {k : Nat} {D : LmD} {ps : List Str} : LOk P w K mg base CX k D ps (spR C fun _ _ => .no) :=
  ⟨fun _ _ _ _ h => by obtain ⟨_, _, _, _, _, q⟩ := h; exact q.elim, fun _ _ _ _ _ _ _ _ _ _ _ _ _ _ _ h => by obtain ⟨_, _, _, _, _, q⟩ := h; exact q.elim⟩
theorem fnR_c {C : Cf} (hK : C.K = K) {x qual : Str} {st : Stmt} {f : Addr} {fd : FuncData} {N ps : List Str} {k : Nat} {Γ : Gt} {b : S} (F : Fun K x qual st f fd) (sc : FnScope N ps (defScope st)) (hk : KsR C Γ)
    (body : ∀ (cdv : Value) (A : Around) (outer : List Env) (s : Shared) (H : Hp) (E : XK), Room k (A.deeper (envOfC qual (defScope st) s.heap.objs.size f cdv)) →
      PSs (cxOf (L2.CX P w) P w K mg base N qual (defScope st) f cdv A outer s H E) (defBody st) (rdS C Γ E b)) : FnOk P w K mg base (L2.CX P w) (k + 1) f fd ps (spR C (fnRun Γ ps.length N.length b)) := by
  refine F.okX sc (fun vs H Q E h => ?_) (fun cdv A outer s H vs Q E hr h => ⟨_, body cdv A outer s H E hr, ?_⟩)
  · obtain ⟨α, hs, args, S, r, q⟩ := h
    unfold fnRun at q
    split at q
    · rename_i e
      rw [r.len, e]
    · exact q.elim
  · obtain ⟨α, hs, args, S, r, q⟩ := h
    unfold fnRun at q
    split at q
    · rename_i e
      exact fn_end hk sc S r e q
    · exact q.elim
theorem passF {X : Cx} : Passes (L2.CX X.prog X.w) X EF := fun _ _ _ _ _ _ _ h => by
  obtain ⟨_, _, _, _, _, _, _, _, _, _, _, _, z⟩ := h
  exact z.elim
end
end R

namespace R
open PySem L2
open G (Tg Bo Co Ty5)
/-! case by case, by mkrs.py -/
def f1_neg (v : RV) (h : Hs) : Option (RV × Hs) := match v with
    | .int i => some (.int (-i), h)
    | .lin c k j => some (.lin (-c) (-k) j, h)
    | _ => none
def f1_not (v : RV) (h : Hs) : Option (RV × Hs) := match v with
    | .bl b => some (.bl (!b), h)
    | _ => none
def f1_isN (v : RV) (h : Hs) : Option (RV × Hs) := match v with
    | .non => some (.bl true, h)
    | .cst _ => none
    | .lm _ => none
    | _ => some (.bl false, h)
def f1_notN (v : RV) (h : Hs) : Option (RV × Hs) := match v with
    | .non => some (.bl false, h)
    | .cst _ => none
    | .lm _ => none
    | _ => some (.bl true, h)
def f1_len (v : RV) (h : Hs) : Option (RV × Hs) := match v with
    | .tp xs => some (.int xs.length, h)
    | _ => match lstAt h v with
      | some (_, xs) => some (.int xs.length, h)
      | none => none
def f1_toL (v : RV) (h : Hs) : Option (RV × Hs) := match v with
    | .tp xs => newL h xs
    | _ => match lstAt h v with
      | some (_, xs) => newL h xs
      | none => none
def f1_tupL (v : RV) (h : Hs) : Option (RV × Hs) := match lstAt h v with
    | some (_, xs) => some (.tp xs, h)
    | none => none
def f1_lenSet (v : RV) (h : Hs) : Option (RV × Hs) := match lstAt h v with
    | some (_, xs) => match tupsR xs with
      | some nss => if nss.length < 64 then some (.int ((G.ddp nss).length : Int), h) else none
      | none => none
    | none => none
def f1_all (v : RV) (h : Hs) : Option (RV × Hs) := match lstAt h v with
    | some (_, xs) => match blsR xs with
      | some bs => some (.bl (bs.all id), h)
      | none => none
    | none => none
def f1_any (v : RV) (h : Hs) : Option (RV × Hs) := match lstAt h v with
    | some (_, xs) => match blsR xs with
      | some bs => some (.bl (bs.any id), h)
      | none => none
    | none => none
def f1_sum (v : RV) (h : Hs) : Option (RV × Hs) := match lstAt h v with
    | some (_, xs) => match intsR xs with
      | some bs => some (.int bs.sum, h)
      | none => none
    | none => none
def f1_rev (v : RV) (h : Hs) : Option (RV × Hs) := match lstAt h v with
    | some (_, xs) => newL h xs.reverse
    | none => none
def f1_minL (v : RV) (h : Hs) : Option (RV × Hs) := match lstAt h v with
    | some (_, xs) => match mapO (toD 4 h) xs with
      | some (d :: ds) => if G.mmOk (d :: ds) = true then (match oneOf (G.minF d ds) xs (d :: ds) with
        | some w => some (w, h)
        | none => none) else none
      | _ => none
    | none => none
def f1_maxL (v : RV) (h : Hs) : Option (RV × Hs) := match lstAt h v with
    | some (_, xs) => match mapO (toD 4 h) xs with
      | some (d :: ds) => if G.mmOk (d :: ds) = true then (match oneOf (G.maxF d ds) xs (d :: ds) with
        | some w => some (w, h)
        | none => none) else none
      | _ => none
    | none => none
def f1_isC (Γ : Gt) (c' : Nat) (v : RV) (h : Hs) : Option (RV × Hs) := match v with
    | .rf n => match h.get n with
      | some (.ins c _) => match Γ.sub c with
        | some r => match r[c']? with
          | some b => some (.bl b, h)
          | none => none
        | none => none
      | _ => none
    | _ => none
def f1_isI (t : Ty5) (v : RV) (h : Hs) : Option (RV × Hs) := match isTR h t v with
    | some b => some (.bl b, h)
    | none => none
def f1_fld (Γ : Gt) (f : Str) (v : RV) (h : Hs) : Option (RV × Hs) := match v with
    | .rf n => match h.get n with
      | some (.ins c fs) => match Γ.fn c with
        | some l => if l.contains f = true then (match fldR f fs with
          | some w => some (w, h)
          | none => none) else none
        | none => none
      | _ => none
    | _ => none
def f1_clr (v : RV) (h : Hs) : Option (RV × Hs) := match lstAt h v with
    | some (n, _) => some (.non, h.put n (.lst []))
    | none => none
def f1_popL (v : RV) (h : Hs) : Option (RV × Hs) := match lstAt h v with
    | some (n, xs) => match xs[xs.length - 1]? with
      | some w => some (w, h.put n (.lst xs.dropLast))
      | none => none
    | none => none
def f1_abs (Γ : Gt) (v : RV) (h : Hs) : Option (RV × Hs) := match v with
    | .int i => some (.int (if i < 0 then -i else i), h)
    | .lin c k j => match Γ.dv (.lin c k j) 0 with
      | some z => some (z, h)
      | none => none
    | _ => none
def f1_srtD (v : RV) (h : Hs) : Option (RV × Hs) := match v with
    | .rf n => match h.get n with
      | some (.dic kvs) => match intsR (kvs.map fun p => match p.1 with | .inl i => RV.int i | .inr x => RV.str x) with
        | some ns => if ns.length < 60 ∧ (G.sdd ns).length = ns.length then newL h ((G.sdd ns).map RV.int) else none
        | none => none
      | _ => none
    | _ => none
def f2_bin (Γ : Gt) (o : Bo) (v w : RV) (h : Hs) : Option (RV × Hs) := match v, w with
    | .int i, .int j => match o.run i j with
      | some z => some (.int z, h)
      | none => none
    | _, _ => match o with
      | .add => match addZ v w with
        | some z => some (z, h)
        | none => none
      | .sub => match subZ v w with
        | some z => some (z, h)
        | none => none
      | .mod => match w with
        | .int j => match Γ.md v j with
          | some z => some (z, h)
          | none => none
        | _ => none
      | .fdiv => match w with
        | .int j => if 0 < j then (match Γ.dv v j with
          | some z => some (z, h)
          | none => none) else none
        | _ => none
      | _ => none
def f2_cat (v w : RV) (h : Hs) : Option (RV × Hs) := match lstAt h v with
    | some (_, xs) => match lstAt h w with
      | some (_, ys) => newL h (xs ++ ys)
      | none => none
    | none => none
def f2_rep (v w : RV) (h : Hs) : Option (RV × Hs) := match lstAt h v with
    | some (_, xs) => match w with
      | .int k => if 0 ≤ k ∧ k ≤ 1000 ∧ xs.length ≤ 1000 then newL h (List.replicate k.toNat xs).flatten else none
      | _ => none
    | none => none
def f2_eq (Γ : Gt) (v w : RV) (h : Hs) : Option (RV × Hs) := if (plF 12 h v && plF 12 h w) = true then (match eqF Γ.nn 12 h v w with
    | some b => some (.bl b, h)
    | none => none) else none
def f2_ne (Γ : Gt) (v w : RV) (h : Hs) : Option (RV × Hs) := if (plF 12 h v && plF 12 h w) = true then (match eqF Γ.nn 12 h v w with
    | some b => some (.bl (!b), h)
    | none => none) else none
def f2_cmp (Γ : Gt) (o : Co) (v w : RV) (h : Hs) : Option (RV × Hs) := match coZ Γ.nn o v w with
    | some b => some (.bl b, h)
    | none => none
def f2_isb (v w : RV) (h : Hs) : Option (RV × Hs) := match v, w with
    | .bl i, .bl j => some (.bl (decide (i = j)), h)
    | _, _ => none
def f2_isnb (v w : RV) (h : Hs) : Option (RV × Hs) := match v, w with
    | .bl i, .bl j => some (.bl (!decide (i = j)), h)
    | _, _ => none
def f2_ix (v w : RV) (h : Hs) : Option (RV × Hs) := match w with
    | .int i => match v with
      | .tp xs => match atI xs i with
        | some z => some (z, h)
        | none => none
      | _ => match lstAt h v with
        | some (_, xs) => match atI xs i with
          | some z => some (z, h)
          | none => none
        | none => none
    | _ => none
def f2_dix (v w : RV) (h : Hs) : Option (RV × Hs) := match v with
    | .rf n => match h.get n with
      | some (.dic kvs) => match keyR w with
        | some k => match lookR k kvs with
          | some z => some (z, h)
          | none => none
        | none => none
      | _ => none
    | _ => none
def f2_nin (Γ : Gt) (v w : RV) (h : Hs) : Option (RV × Hs) := match lstAt h w with
    | some (_, ys) => if (plF 11 h v && plF 12 h w) = true then (match anyL (fun z => eqF Γ.nn 11 h z v) ys with
      | some b => some (.bl (!b), h)
      | none => none) else none
    | none => none
def f2_inT (v w : RV) (h : Hs) : Option (RV × Hs) := match v with
    | .str x => match w with
      | .tp ys => match strsR ys with
        | some ss => some (.bl (ss.any fun z => z == x), h)
        | none => none
      | _ => none
    | _ => none
def f2_din (v w : RV) (h : Hs) : Option (RV × Hs) := match w with
    | .rf n => match h.get n with
      | some (.dic kvs) => match keyR v with
        | some k => some (.bl (lookR k kvs).isSome, h)
        | none => none
      | _ => none
    | _ => none
def f2_app (v w : RV) (h : Hs) : Option (RV × Hs) := match lstAt h v with
    | some (n, xs) => if xs.length < 100000 then some (.non, h.put n (.lst (xs ++ [w]))) else none
    | none => none
def f2_extd (v w : RV) (h : Hs) : Option (RV × Hs) := match lstAt h v with
    | some (n, xs) => match lstAt h w with
      | some (_, ys) => if xs.length + ys.length < 100000 then some (.non, h.put n (.lst (xs ++ ys))) else none
      | none => none
    | none => none
abbrev FEx := Sg → Hs → Option (RV × Hs)
abbrev FCx := Sg → Hs → Ot
abbrev FAx := Sg → Hs → Option (List RV × Hs)
abbrev FOo := Sg → Hs → Option (Option Int × Hs)
abbrev FIx := Sg → Hs → Option (Its × Hs)
abbrev FSx := Sg → Hs → Oc
def x_var (i : Nat) : FEx := fun σ h => match σ[i]? with
    | some (some v) => some (v, h)
    | _ => none
def x_cn (v : RV) : FEx := fun _ h => if isFl v = true then some (v, h) else none
def x_kon (Γ : Gt) (k : Nat) : FEx := fun _ h => match Γ.ks[k]? with
    | some v => some (v, h)
    | none => none
def x_o1 (o : RV → Hs → Option (RV × Hs)) (a : FEx) : FEx := fun σ h => match a σ h with
    | some (v, h1) => o v h1
    | none => none
def x_o2 (o : RV → RV → Hs → Option (RV × Hs)) (a : FEx) (b : FEx) : FEx := fun σ h => match a σ h with
    | some (v, h1) => match b σ h1 with
      | some (w, h2) => o v w h2
      | none => none
    | none => none
def x_o2p (o : RV → RV → Hs → Option (RV × Hs)) (a : FEx) (b : FEx) : FEx := fun σ h => match a σ h with
    | some (v, h1) => if (lstAt h1 v).isSome = true then (match b σ h1 with
      | some (w, h2) => o v w h2
      | none => none) else none
    | none => none
def x_dget (d : FEx) (k : FEx) (x : FEx) : FEx := fun σ h => match d σ h with
    | some (.rf n, h1) => match h1.get n with
      | some (.dic _) => match k σ h1 with
        | some (w, h2) => match x σ h2 with
          | some (z, h3) => match keyR w, h3.get n with
            | some q, some (.dic kvs) => some ((lookR q kvs).getD z, h3)
            | _, _ => none
          | none => none
        | none => none
      | _ => none
    | _ => none
def x_chn (Γ : Gt) (o : Co) (o' : Co) (a : FEx) (b : FEx) (c : FEx) : FEx := fun σ h => match a σ h with
    | some (v, h1) => match b σ h1 with
      | some (w, h2) => match coZ Γ.nn o v w with
        | some true => match c σ h2 with
          | some (z, h3) => match coZ Γ.nn o' w z with
            | some r => some (.bl r, h3)
            | none => none
          | none => none
        | some false => some (.bl false, h2)
        | none => none
      | none => none
    | none => none
def x_and (a : FEx) (b : FEx) : FEx := fun σ h => match a σ h with
    | some (.bl true, h1) => b σ h1
    | some (.bl false, h1) => some (.bl false, h1)
    | _ => none
def x_or (a : FEx) (b : FEx) : FEx := fun σ h => match a σ h with
    | some (.bl false, h1) => b σ h1
    | some (.bl true, h1) => some (.bl true, h1)
    | _ => none
def x_ite (c : FEx) (a : FEx) (b : FEx) : FEx := fun σ h => match c σ h with
    | some (.bl true, h1) => a σ h1
    | some (.bl false, h1) => b σ h1
    | _ => none
def x_sl (a : FEx) (lo : FOo) (hi : FOo) : FEx := fun σ h => match a σ h with
    | some (v, h1) => match lo σ h1 with
      | some (l, h2) => match hi σ h2 with
        | some (u, h3) => match lstAt h3 v with
          | some (_, xs) => newL h3 (G.cutD xs l u)
          | none => none
        | none => none
      | none => none
    | none => none
def x_tup (es : FAx) : FEx := fun σ h => match es σ h with
    | some (vs, h1) => if vs.length ≤ 1000 then some (.tp vs, h1) else none
    | none => none
def x_lst (es : FAx) : FEx := fun σ h => match es σ h with
    | some (vs, h1) => newL h1 vs
    | none => none
def x_dnew  : FEx := fun _ h => match h.new (.dic []) with
    | some h' => some (.rf h.n, h')
    | none => none
def x_call (Γ : Gt) (k : Nat) (es : FAx) : FEx := fun σ h => match es σ h with
    | some (vs, h1) => otO (Γ.run k vs h1)
    | none => none
def x_meth (Γ : Gt) (m : Nat) (o : FEx) (es : FAx) : FEx := fun σ h => match o σ h with
    | some (.rf n, h1) => match Γ.ms[m]?, h1.get n with
      | some (nm, tb), some (.ins c fs) => match lookM tb c with
        | some k => if (fs.all fun p => p.1 != nm) = true then (match es σ h1 with
          | some (vs, h2) => otO (Γ.run k (.rf n :: vs) h2)
          | none => none) else none
        | none => none
      | _, _ => none
    | _ => none
def x_new (Γ : Gt) (k : Nat) (es : FAx) : FEx := fun σ h => match Γ.nw[k]? with
    | some (c, d) => match es σ h with
      | some (vs, h1) => match h1.new (.ins c []) with
        | some h2 => match Γ.run d (.rf h1.n :: vs) h2 with
          | .ok .non h3 => some (.rf h1.n, h3)
          | _ => none
        | none => none
      | none => none
    | none => none
def x_cv (Γ : Gt) (i : Nat) (cs : List (Nat × Nat)) (es : FAx) : FEx := fun σ h => match σ[i]? with
    | some (some (.cst c)) => match lookM cs c with
      | some k => match es σ h with
        | some (vs, h1) => otO (Γ.run k vs h1)
        | none => none
      | none => none
    | _ => none
def x_lamv (k : Nat) : FEx := fun _ h => some (.lm k, h)
def x_lcall (Γ : Gt) (i : Nat) (cs : List (Nat × Nat)) (es : FAx) : FEx := fun σ h => match σ[i]? with
    | some (some (.lm c)) => match lookM cs c with
      | some k => match es σ h with
        | some (vs, h1) => otO (Γ.run k vs h1)
        | none => none
      | none => none
    | _ => none
def x_kinds (Γ : Gt) (b : FCx) : FEx := fun σ h => kdO Γ.kd (b σ h)
def x_lc (t : Tg) (it : FIx) (e : FEx) : FEx := fun σ h => match it σ h with
    | some (s, h1) => lcR s.next t (fun _ h => some (true, h)) (fun σ h => e σ h) (wipeR σ t.sl) 3000 0 h1 []
    | none => none
def x_lcf (t : Tg) (it : FIx) (c : FEx) (e : FEx) : FEx := fun σ h => match it σ h with
    | some (s, h1) => lcR s.next t (fun σ h => tstR (c σ h)) (fun σ h => e σ h) (wipeR σ t.sl) 3000 0 h1 []
    | none => none
def c_call (Γ : Gt) (k : Nat) (es : FAx) : FCx := fun σ h => match es σ h with
    | some (vs, h1) => Γ.run k vs h1
    | none => .no
def c_meth (Γ : Gt) (m : Nat) (o : FEx) (es : FAx) : FCx := fun σ h => match o σ h with
    | some (.rf n, h1) => match Γ.ms[m]?, h1.get n with
      | some (nm, tb), some (.ins c fs) => match lookM tb c with
        | some k => if (fs.all fun p => p.1 != nm) = true then (match es σ h1 with
          | some (vs, h2) => Γ.run k (.rf n :: vs) h2
          | none => .no) else .no
        | none => .no
      | _, _ => .no
    | _ => .no
def c_new (Γ : Gt) (k : Nat) (es : FAx) : FCx := fun σ h => match Γ.nw[k]? with
    | some (c, d) => match es σ h with
      | some (vs, h1) => match h1.new (.ins c []) with
        | some h2 => match Γ.run d (.rf h1.n :: vs) h2 with
          | .ok .non h3 => .ok (.rf h1.n) h3
          | .ex c h3 => .ex c h3
          | _ => .no
        | none => .no
      | none => .no
    | none => .no
def c_cv (Γ : Gt) (i : Nat) (cs : List (Nat × Nat)) (es : FAx) : FCx := fun σ h => match σ[i]? with
    | some (some (.cst c)) => match lookM cs c with
      | some k => match es σ h with
        | some (vs, h1) => Γ.run k vs h1
        | none => .no
      | none => .no
    | _ => .no
def c_lcall (Γ : Gt) (i : Nat) (cs : List (Nat × Nat)) (es : FAx) : FCx := fun σ h => match σ[i]? with
    | some (some (.lm c)) => match lookM cs c with
      | some k => match es σ h with
        | some (vs, h1) => Γ.run k vs h1
        | none => .no
      | none => .no
    | _ => .no
def a_nil  : FAx := fun _ h => some ([], h)
def a_cons (a : FEx) (r : FAx) : FAx := fun σ h => match a σ h with
    | some (v, h1) => match r σ h1 with
      | some (vs, h2) => some (v :: vs, h2)
      | none => none
    | none => none
def o_nil  : FOo := fun _ h => some (none, h)
def o_cons (a : FEx) : FOo := fun σ h => match a σ h with
    | some (.int i, h1) => some (some i, h1)
    | _ => none
def i_itL (a : FEx) : FIx := fun σ h => match a σ h with
    | some (v, h1) => match lstAt h1 v with
      | some (n, _) => some (.L n, h1)
      | none => none
    | none => none
def i_itT (a : FEx) : FIx := fun σ h => match a σ h with
    | some (.tp xs, h1) => some (.S xs, h1)
    | _ => none
def i_itR (a : FEx) : FIx := fun σ h => match a σ h with
    | some (.int n, h1) => if -1000000 ≤ n ∧ n ≤ 1000000 then some (.R 0 n.toNat, h1) else none
    | _ => none
def i_itR2 (a : FEx) (b : FEx) : FIx := fun σ h => match a σ h with
    | some (.int m, h1) => match b σ h1 with
      | some (.int n, h2) => if -1000000 ≤ m ∧ m ≤ 1000000 ∧ -1000000 ≤ n ∧ n ≤ 1000000 then some (.R m (n - m).toNat, h2) else none
      | _ => none
    | _ => none
def i_itZ (a : FEx) (b : FEx) : FIx := fun σ h => match a σ h with
    | some (v, h1) => match b σ h1 with
      | some (w, h2) => match lstAt h2 v, lstAt h2 w with
        | some (n, _), some (m, _) => some (.Z n m, h2)
        | _, _ => none
      | none => none
    | none => none
def i_itE (a : FEx) : FIx := fun σ h => match a σ h with
    | some (v, h1) => match lstAt h1 v with
      | some (n, _) => some (.E n, h1)
      | none => none
    | none => none
def s_nil  : FSx := fun σ h => .nx σ h
def s_seq (a : FSx) (r : FSx) : FSx := fun σ h => match a σ h with
    | .nx σ1 h1 => r σ1 h1
    | o => o
def s_asg (t : Tg) (e : FEx) : FSx := fun σ h => match e σ h with
    | some (v, h1) => match tgR t v σ with
      | some σ1 => .nx σ1 h1
      | none => .no
    | none => .no
def s_par (i : Nat) (j : Nat) (a : FEx) (b : FEx) : FSx := fun σ h => match a σ h with
    | some (v, h1) => match b σ h1 with
      | some (w, h2) => .nx ((σ.set i (some v)).set j (some w)) h2
      | none => .no
    | none => .no
def s_par3 (i : Nat) (j : Nat) (k : Nat) (a : FEx) (b : FEx) (c : FEx) : FSx := fun σ h => match a σ h with
    | some (v, h1) => match b σ h1 with
      | some (w, h2) => match c σ h2 with
        | some (z, h3) => .nx (((σ.set i (some v)).set j (some w)).set k (some z)) h3
        | none => .no
      | none => .no
    | none => .no
def s_exp (e : FEx) : FSx := fun σ h => match e σ h with
    | some (_, h1) => .nx σ h1
    | none => .no
def s_expX (e : FCx) : FSx := fun σ h => match e σ h with
    | .ok _ h1 => .nx σ h1
    | .ex c h1 => .ex c h1
    | .no => .no
def s_six (a : FEx) (b : FEx) (e : FEx) : FSx := fun σ h => match e σ h with
    | some (v, h1) => match a σ h1 with
      | some (w, h2) => match b σ h2 with
        | some (.int k, h3) => match lstAt h3 w with
          | some (n, xs) => match ixN xs.length k with
            | some j => .nx σ (h3.put n (.lst (xs.set j v)))
            | none => .no
          | none => .no
        | _ => .no
      | none => .no
    | none => .no
def s_dput (a : FEx) (b : FEx) (e : FEx) : FSx := fun σ h => match e σ h with
    | some (v, h1) => match a σ h1 with
      | some (.rf n, h2) => match b σ h2 with
        | some (w, h3) => match h3.get n, keyR w with
          | some (.dic kvs), some k => if kvs.length < 100000 then .nx σ (h3.put n (.dic (putR k v kvs))) else .no
          | _, _ => .no
        | none => .no
      | _ => .no
    | none => .no
def s_aix (a : FEx) (b : FEx) (e : FEx) : FSx := fun σ h => match a σ h with
    | some (w, h1) => match b σ h1 with
      | some (.int k, h2) => match lstAt h2 w with
        | some (_, xs) => match atI xs k with
          | some (.int x) => match e σ h2 with
            | some (.int y, h3) => match lstAt h3 w with
              | some (n, zs) => match ixN zs.length k with
                | some j => .nx σ (h3.put n (.lst (zs.set j (.int (x + y)))))
                | none => .no
              | none => .no
            | _ => .no
          | _ => .no
        | none => .no
      | _ => .no
    | none => .no
def s_aug (i : Nat) (e : FEx) : FSx := fun σ h => match σ[i]? with
    | some (some (.int x)) => match e σ h with
      | some (.int y, h1) => .nx (σ.set i (some (.int (x + y)))) h1
      | _ => .no
    | _ => .no
def s_fst (Γ : Gt) (f : Str) (a : FEx) (e : FEx) : FSx := fun σ h => match e σ h with
    | some (v, h1) => match a σ h1 with
      | some (.rf n, h2) => match h2.get n with
        | some (.ins c fs) => match Γ.fn c with
          | some l => if l.contains f = true ∧ fs.length < 900 then .nx σ (h2.put n (.ins c (fputR f v fs))) else .no
          | none => .no
        | _ => .no
      | _ => .no
    | none => .no
def s_ite (c : FEx) (a : FSx) (b : FSx) : FSx := fun σ h => match c σ h with
    | some (.bl true, h1) => a σ h1
    | some (.bl false, h1) => b σ h1
    | _ => .no
def s_loop (t : Tg) (it : FIx) (b : FSx) : FSx := fun σ h => match it σ h with
    | some (s, h1) => forR s.next t (fun σ h => b σ h) 3000 0 σ h1
    | none => .no
def s_whl (c : FEx) (b : FSx) : FSx := fun σ h => whR (fun σ h => tstR (c σ h)) (fun σ h => b σ h) 3000 σ h
def s_ret (e : FEx) : FSx := fun σ h => match e σ h with
    | some (v, h1) => .rt v h1
    | none => .no
def s_rz (c : Nat) : FSx := fun σ h => .ex c h
def fnRun' (b : FSx) (ar n : Nat) (args : List RV) (h : Hs) : Ot := if args.length = ar then fnOc (b (args.map some ++ List.replicate (n - ar) none) h) else .no
theorem fnRun_of {Γ : Gt} {c : S} {d : FSx} (e : d = exec Γ c) (ar n : Nat) : fnRun' d ar n = fnRun Γ ar n c := by subst e; rfl
end R

namespace R
open PySem PySem.Spec PyProof.Rows L2
abbrev excB : List Value := [.type "ValueError", .type "Exception", .type "BaseException", .type "object"]
theorem sqt_emp {K : PySem.W.Frag} {H : Hp} {a : Addr} {xs : List V} (h : SqT K G.Emp a xs) : SqT K H a xs := by
  rcases h with (h | ⟨o, h⟩) | h
  · cases h
  · cases h
  · exact .inr h
theorem un1 {k : Nat} {A : Around} (hr : Room k A) : A.units + 1 < cLine := by
  have := hr.un
  omega
theorem un65 {k : Nat} {A : Around} (hr : Room k A) : A.units + 65 < cLine := by
  have := hr.un
  omega
/-- a def whose code object is known -/
structure FunC (K : PySem.W.Frag) (x qual : Str) (st : Stmt) (f : Addr) (fd : FuncData) (c : Addr) : Prop where
  ex : ∃ (oc : Value) (od : Option Addr) (kV doc pm : Value) (an : Option Addr) (ct : Value) (osl : Array (Option Value)),
    fd = PySem.W.fnOf x qual (defArgs st) (defBody st) (defScope st) .none kV doc pm an (.ref c) ct ∧ K.lookup f = some ⟨oc, od, .func fd, osl⟩ ∧ PySem.W.codeIn K (.ref c) qual = true
theorem pe_lamvR {X : Cx} {C : Cf} {k : Nat} {c P : Addr} {params : Arguments} {body : Expr} {scope : Scope} {pos : Pos} (hD : C.lm k = ⟨X.env.qual ++ "<lambda>", params, body, scope⟩) (TB : LamX.TabB X.base X.mg c P) (hcode : X.env.code = .ref c)
    (hm : (P, X.env.qual ++ "<lambda>") ∈ C.T) (hu : ∀ p ∈ C.T, p.1 = P → p.2 = X.env.qual ++ "<lambda>") (hdef : defaultsOf params X.env = ([], [])) (hno : ∀ y ∈ scope.names, y.2 ≠ .free) :
    PE X (.Lambda params body scope pos) (tLamV C.T (C.lm k)) := by
  rw [hD]
  exact pe_lamv TB hcode hm hu hdef hno
/-- a name that holds one of several lambdas -/
theorem pe_lmC {X : Cx} {CX : CXT} {C : Cf} {Γ : Gt} {E : XK} {ps : List Str} {i j k : Nat} {x : Str} {t : TA} {e : Expr} {es : List Expr} {p pos : Pos} (hr : Room j X.A) (hk : k ≤ j) (hx : Passes CX X E) (hN : X.N[i]? = some x) (hv : Vis X.env.scope x) (ha : PA X (e :: es) t)
    (hd : (x == ("__debug__" : Str)) = false := by decide) (hcd : (x == ("__classdict__" : Str)) = false := by decide)
    (he : starEach (e :: es) X.env = (false, eval e X.env) :: starEach es X.env := by rfl) (hpl : (backTo pos (starEach es X.env)).any (·.1) = false := by rfl) :
    ∀ {cs : List (Nat × Nat)} (hcs : ∀ q ∈ cs, LOk X.prog X.w X.K X.mg X.base CX k (C.lm q.1) ps (spR C (Γ.run q.2))), PE X (.Call (.Name x p) (e :: es) [] pos) (tLmC C Γ E i t cs)
  | [], _ => ⟨fun pins s σ H Q I z => False.elim z⟩
  | (c, m) :: cs, F => G.pe_or (pe_callLm (F (c, m) (.head _)) hr hk hx hN hv ha hd hcd he hpl) (pe_lmC hr hk hx hN hv ha hd hcd he hpl fun q hq => F q (.tail _ hq))
section
variable {P : Program} {w : World} {K : PySem.W.Frag} {mg : Str → Option Value} {base : Heap}
theorem fn_no {C : Cf} {CX : CXT} {k : Nat} {f : Addr} {fd : FuncData} {ps : List Str} : FnOk P w K mg base CX k f fd ps (spR C fun _ _ => .no) :=
  ⟨fun _ _ _ _ h => by obtain ⟨_, _, _, _, _, q⟩ := h; exact q.elim, fun _ _ _ _ _ _ _ _ _ _ _ _ _ h => by obtain ⟨_, _, _, _, _, q⟩ := h; exact q.elim⟩
theorem fnR_cL {C : Cf} (hK : C.K = K) {x qual : Str} {st : Stmt} {f c : Addr} {fd : FuncData} {N ps : List Str} {k : Nat} {Γ : Gt} {b : S} (F : FunC K x qual st f fd c) (sc : FnScope N ps (defScope st)) (hk : KsR C Γ)
    (body : ∀ (A : Around) (outer : List Env) (s : Shared) (H : Hp) (E : XK), Room k (A.deeper (envOfC qual (defScope st) s.heap.objs.size f (.ref c))) →
      PSs (cxOf (L2.CX P w) P w K mg base N qual (defScope st) f (.ref c) A outer s H E) (defBody st) (rdS C Γ E b)) : FnOk P w K mg base (L2.CX P w) (k + 1) f fd ps (spR C (fnRun Γ ps.length N.length b)) := by
  obtain ⟨oc, od, kV, doc, pm, an, ct, osl, rfl, lk, hcd⟩ := F.ex
  refine fn_of lk hcd sc (fun vs H Q E h => ?_) fun A outer s H vs Q E hr h => ⟨_, body A outer s H E hr, ?_⟩
  · obtain ⟨α, hs, args, S, r, q⟩ := h
    unfold fnRun at q
    split at q
    · rename_i e
      rw [r.len, e]
    · exact q.elim
  · obtain ⟨α, hs, args, S, r, q⟩ := h
    unfold fnRun at q
    split at q
    · rename_i e
      exact fn_end hk sc S r e q
    · exact q.elim
end
section
variable {X : Cx}
theorem pe_ex {C : Cf} {c i : Nat} {f : Addr} {e : Expr} {sp : Sp} {E : XK} {ta : TA} (hf : C.kv c = .ref f) (h : PE X e (tCallL i f sp [] E ta)) : PE X e (fun σ H Q => ∃ f', C.kv c = .ref f' ∧ tCallL i f' sp [] E ta σ H Q) := ⟨fun pins s σ H Q I z => by
  obtain ⟨f', e1, q⟩ := z
  rw [hf] at e1
  cases e1
  exact h.run pins s σ H Q I q⟩
theorem pe_eqR {C : Cf} (hK : C.K = X.K) {ta tb : TE} {a b : Expr} {pos : Pos} (hu : X.A.units + 64 < cLine) (ha : PE X a ta) (hb : PE X b tb) (hm : behindInMarks .Eq b = false) : PE X (.Compare a [.Eq] [b] pos) (rd2 C .eq ta tb) := by
  show PE X _ (tOp (rEqD C.K) ta tb)
  rw [hK]
  exact pe_cmpR (op_eqD hu) ha hb hm
theorem pe_neR {C : Cf} (hK : C.K = X.K) {ta tb : TE} {a b : Expr} {pos : Pos} (hu : X.A.units + 64 < cLine) (ha : PE X a ta) (hb : PE X b tb) (hm : behindInMarks .NotEq b = false) : PE X (.Compare a [.NotEq] [b] pos) (rd2 C .ne ta tb) := by
  show PE X _ (tOp (rNeD C.K) ta tb)
  rw [hK]
  exact pe_cmpR (op_neD hu) ha hb hm
theorem pt_eqR {C : Cf} (hK : C.K = X.K) {ta tb : TE} {a b : Expr} {pos : Pos} (hu : X.A.units + 64 < cLine) (ha : PE X a ta) (hb : PE X b tb) (hm : behindInMarks .Eq b = false) : PT X (.Compare a [.Eq] [b] pos) (tB (rd2 C .eq ta tb)) := by
  show PT X _ (tTest (tOp (rEqD C.K) ta tb))
  rw [hK]
  exact pt_cmpR (op_eqD hu) ha hb hm
theorem pt_neR {C : Cf} (hK : C.K = X.K) {ta tb : TE} {a b : Expr} {pos : Pos} (hu : X.A.units + 64 < cLine) (ha : PE X a ta) (hb : PE X b tb) (hm : behindInMarks .NotEq b = false) : PT X (.Compare a [.NotEq] [b] pos) (tB (rd2 C .ne ta tb)) := by
  show PT X _ (tTest (tOp (rNeD C.K) ta tb))
  rw [hK]
  exact pt_cmpR (op_neD hu) ha hb hm
theorem pe_binR {C : Cf} {o : G.Bo} {op : Operator} {ta tb : TE} {a b : Expr} {pos : Pos} (ho : OpR X (binaryOp op) o.r) (ha : PE X a ta) (hb : PE X b tb) : PE X (.BinOp a op b pos) (rd2 C (.bin o) ta tb) := show PE X _ (tOp o.r ta tb) from pe_op ho ha hb
theorem pe_neg {C : Cf} {ta : TE} {a : Expr} {pos : Pos} (h : PE X a ta) : PE X (.UnaryOp .USub a pos) (rd1 C .neg ta) := show PE X _ (tUn (rU fun i => .int (-i)) ta) from pe_un (r := rU fun i => V.int (-i)) (ta := ta) un_neg h
theorem pe_isC {C : Cf} (hK : C.K = X.K) {c : Nat} {ta : TE} {a : Expr} {x : Str} {p p1 pos : Pos} (hi : Gl X "isinstance") (hz : X.mg "isinstance" = none) (ha : PE X a ta) (hg : Gl X x) (hm : X.mg x = some (.ref (C.Cl (12 + c)))) (hd : (x == ("__debug__" : Str)) = false := by decide) 
    (he : starEach [a, .Name x p1] X.env = (false, eval a X.env) :: starEach [.Name x p1] X.env := by rfl) : PE X (.Call (.Name "isinstance" p) [a, .Name x p1] [] pos) (rd1 C (.isC c) ta) := by
  show PE X _ (tCB (rIsi C.K) (tCons ta (tCons (tC (.ref (C.Cl (12 + c)))) tNil)))
  rw [hK]
  exact pe_callB call_isi hi hz (by decide +kernel) (pa_cons ha (pa_cons (pe_glob hg hm rfl hd) pa_nil) he) (by decide) (by decide) he
/-- an exception's wish, where the slots are as many as the names -/
theorem takes_len {W : WX} (t : Takes X W) : Takes X (fun cls d σ H => σ.length = X.N.length → W cls d σ H) := fun u s' ⟨a, B, sI, pins, σ, H, cls, d, e, I, nb, up, sky, na, os, ag, z⟩ =>
  t u s' ⟨a, B, sI, pins, σ, H, cls, d, e, I, nb, up, sky, na, os, ag, z I.len⟩
/-- a suite's reading by the class of what it holds -/
theorem pss_of {ι : Type} {st : List Stmt} {p : ι → Prop} {t : ι → TS} (h : ∀ i, p i → PSs X st (t i)) : PSs X st (fun D σ H => ∃ i, p i ∧ t i D σ H) := ⟨fun pins s σ H D I z => by
  obtain ⟨i, hp, q⟩ := z
  exact (h i hp).run pins s σ H D I q⟩
end
end R

namespace R
open PySem L2
/-! ### what the law's own kinds tell of an exception -/
def isE (K : PySem.W.Frag) (D a : Addr) (cv : V) : TE := tCB (rIsE K D a) (tCons (tVar 2) (tCons (tC cv) tNil))
def lst3 (K : PySem.W.Frag) (D a : Addr) (ca : Nat → Addr) (i j k : Nat) : TE := tLst (tCons (isE K D a (.ref (ca i))) (tCons (isE K D a (.ref (ca j))) (tCons (isE K D a (.ref (ca k))) tNil)))
def tsK (K : PySem.W.Frag) (ca : Nat → Addr) (c : Nat) (a : Addr) : TS :=
  tSeq (tAsg (lst3 K (ca c) a ca 0 1 2) (gName 1)) (tSeq (tAsg (tOp rCat (tVar 1) (lst3 K (ca c) a ca 3 4 5)) (gName 1)) (tSeq (tAsg (tOp rCat (tVar 1) (lst3 K (ca c) a ca 6 7 8)) (gName 1))
    (tSeq (tAsg (tOp rCat (tVar 1) (lst3 K (ca c) a ca 9 10 11)) (gName 1)) (tSeq (tDrop (tBM K "list" rAppend (tVar 1) (tCons (isE K (ca c) a (.ty "ValueError")) tNil))) tNext))))
section
variable {K : PySem.W.Frag} {D a : Addr} {ca : Nat → Addr} {σ : L2.St} {H : Hp} {Q : VK} {c : Nat}
theorem isE_ok {cv : V} {u : Value} {b : Bool} (h2 : σ[2]? = some (some (.ref a))) (hu : ∀ x, RelV cv x → x = u) (hk : PySem.W.kitOne K (.ref D) u = some b) (q : Q (.bl b) H) : isE K D a cv σ H Q := ⟨.ref a, h2, cv, u, b, rfl, hu, hk, q⟩
theorem lst3_ok (kx : ∀ j, j < 12 → PySem.W.kitOne K (.ref (ca c)) (.ref (ca j)) = some (c == j)) {i j k : Nat} (hi : i < 12) (hj : j < 12) (hk : k < 12) (h2 : σ[2]? = some (some (.ref a))) (q : ∀ p, H p = none → Q (.ref p) (upd H p (.lst [.bl (c == i), .bl (c == j), .bl (c == k)]))) : lst3 K (ca c) a ca i j k σ H Q :=
  isE_ok h2 (fun _ h => h) (kx i hi) (isE_ok h2 (fun _ h => h) (kx j hj) (isE_ok h2 (fun _ h => h) (kx k hk) ⟨sz_of (by simp), q⟩))
theorem cat3_ok (kx : ∀ j, j < 12 → PySem.W.kitOne K (.ref (ca c)) (.ref (ca j)) = some (c == j)) {i j k : Nat} (hi : i < 12) (hj : j < 12) (hk : k < 12) (h2 : σ[2]? = some (some (.ref a))) {l : Addr} {bs : List V} (h1 : σ[1]? = some (some (.ref l))) (hl : H l = some (.lst bs)) (hz : bs.length ≤ 9)
    (q : ∀ H' p, Same H H' → H p = none → H' p = some (.lst (bs ++ [.bl (c == i), .bl (c == j), .bl (c == k)])) → Q (.ref p) H') : tOp rCat (tVar 1) (lst3 K (ca c) a ca i j k) σ H Q := by
  refine ⟨.ref l, h1, lst3_ok kx hi hj hk h2 fun p hp => ?_⟩
  have e1 : Same H (upd H p (.lst [.bl (c == i), .bl (c == j), .bl (c == k)])) := fun b o h => by rw [upd_ne (ne_of_none h hp)]; exact h
  refine ⟨l, p, bs, _, rfl, rfl, e1 _ _ hl, upd_same, sz_of (by simp; omega), fun r hr => ?_⟩
  refine q _ r (fun b o h => ?_) ?_ upd_same
  · rw [upd_ne (ne_of_none (e1 _ _ h) hr)]
    exact e1 _ _ h
  · exact e1.free hr
theorem seq_asg {te : TE} {i : Nat} {u : TS} {D : Ends} (h : te σ H fun x H1 => u D (σ.set i (some x)) H1) : tSeq (tAsg te (gName i)) u D σ H := h
theorem kinds_suite {D' : Ends} (kx : ∀ j, j < 12 → PySem.W.kitOne K (.ref (ca c)) (.ref (ca j)) = some (c == j)) (kv : PySem.W.kitOne K (.ref (ca c)) (.type "ValueError") = some true) (h2 : σ[2]? = some (some (.ref a))) (hlen : σ.length = 3)
    (q : ∀ H' p, Same H H' → H p = none → H' p = some (.lst (((List.range 12).map (fun i => c == i) ++ [true]).map V.bl)) → D'.nx (σ.set 1 (some (.ref p))) H') : tsK K ca c a D' σ H := by
  have s1 : ∀ v, (σ.set 1 v)[1]? = some v := fun v => G.set_get (by omega)
  have s2 : ∀ v, (σ.set 1 v)[2]? = some (some (.ref a)) := fun v => by rw [G.set_ne (by decide)]; exact h2
  have ss : ∀ u v, (σ.set 1 u).set 1 v = σ.set 1 v := fun u v => List.set_set ..
  unfold tsK
  refine seq_asg (lst3_ok (i := 0) (j := 1) (k := 2) kx (by decide) (by decide) (by decide) h2 fun p1 hp1 => ?_)
  have e1 : Same H (upd H p1 (.lst [.bl (c == 0), .bl (c == 1), .bl (c == 2)])) := fun b o h => by rw [upd_ne (ne_of_none h hp1)]; exact h
  refine seq_asg (cat3_ok (i := 3) (j := 4) (k := 5) kx (by decide) (by decide) (by decide) (s2 _) (s1 _) upd_same (by simp) fun H2 p2 e2 n2 c2 => ?_)
  rw [ss]
  refine seq_asg (cat3_ok (i := 6) (j := 7) (k := 8) kx (by decide) (by decide) (by decide) (s2 _) (s1 _) c2 (by simp) fun H3 p3 e3 n3 c3 => ?_)
  rw [ss]
  refine seq_asg (cat3_ok (i := 9) (j := 10) (k := 11) kx (by decide) (by decide) (by decide) (s2 _) (s1 _) c3 (by simp) fun H4 p4 e4 n4 c4 => ?_)
  rw [ss]
  refine ⟨.ref p4, s1 _, .inl ⟨rfl, _, SqL.of c4⟩, ?_⟩
  refine isE_ok (s2 _) (fun _ h => h) kv ⟨p4, _, _, rfl, rfl, c4, sz_lt (by simp), ?_⟩
  have e14 : Same H H4 := ((e1.trans e2).trans e3).trans e4
  have n4' : H p4 = none := ((e1.trans e2).trans e3).free n4
  refine q _ p4 (fun b o h => ?_) n4' ?_
  · rw [upd_ne (ne_of_none h n4')]
    exact e14 _ _ h
  · rw [upd_same]
    rfl
end
end R

namespace R
open PySem PySem.Spec PyProof.Rows L2
section
variable {P : Program} {w : World} {K : PySem.W.Frag} {mg : Str → Option Value} {base : Heap}
theorem fn_ex {ι : Type} {CX : CXT} {k : Nat} {f : Addr} {fd : FuncData} {ps : List Str} {sp : ι → Sp} {sp' : Sp} (ok : ∀ i, FnOk P w K mg base CX k f fd ps (sp i)) (h : ∀ vs H Q E, sp' vs H Q E → ∃ i, sp i vs H Q E) : FnOk P w K mg base CX k f fd ps sp' :=
  ⟨fun vs H Q E q => by obtain ⟨i, q⟩ := h vs H Q E q; exact (ok i).len vs H Q E q, fun A outer s H args us vs Q E hr he hb hv hs => by
    obtain ⟨i, q⟩ := h vs H Q E hs
    exact (ok i).run A outer s H args us vs Q E hr he hb hv q⟩
/-- a def of the other layer, told by the number that it gives -/
theorem sem_d {C : Cf} {Cd : G.Cf} {F : G.Fd} {f : List RV → Hs → Ot} {k : Nat} {fa : Addr} {fd : FuncData} {ps : List Str} (ok : FnOk P w K mg base CX0 k fa fd ps (G.spOf Cd F))
    (hf : ∀ α h H args vs, Sim C α h H → Vrs C α h.n H args vs → f args h = .no ∨ ∃ v ds z, f args h = .ok v h ∧ G.Rps Cd H ds vs ∧ ds.length = F.ar ∧ F.run ds = some (.int z) ∧ ∀ α n H, Vr C α n H v (.int z)) : FnOk P w K mg base CX0 k fa fd ps (spR C f) := by
  refine ok.imp fun vs H Q E h => ?_
  obtain ⟨α, hs, args, S, r, q⟩ := h
  rcases hf α hs H args vs S r with e | ⟨v, ds, z, e, h1, h2, h3, h4⟩
  · rw [e] at q
    exact q.elim
  · rw [e] at q
    refine ⟨H, ds, .int z, Same.refl _, h1, h2, h3, fun u H' e r _ => ?_⟩
    rw [G.rp_int] at r
    subst r
    obtain ⟨S', e'⟩ := S.grow e
    exact q _ α H' e' S' (h4 _ _ _)
/-- from an empty heap: what a closed run gives -/
theorem closed_post {C C2 : Cf} (hT : C.T = C2.T) {α : Nat → Addr} {h h' : Hs} {H : Hp} {Q : VK} {E : XK} {b : Bool} (S : Sim C2 α h H) (q : PostR C2 α h.n H Q E (.ok (.bl b) h)) : PostR C α 0 H Q E (.ok (.bl b) h') := fun u α' H' e S' r => by
  rw [vr_bl] at r
  subst r
  have eN : LamX.ExtN H H' := fun c o hc nt => e.fr c o hc nt fun i hi => absurd hi (by omega)
  obtain ⟨S2, e2⟩ := S.extN eN (by rw [← hT]; exact S'.tab)
  exact q _ α H' e2 S2 (by rw [vr_bl])
theorem sim0 {C : Cf} {α : Nat → Addr} {H : Hp} (t : LamX.Tabs C.T H) : Sim C α ⟨0, .lf⟩ H :=
  ⟨fun i c h => (nomatch h), fun i h => absurd h (Nat.not_lt_zero i), fun i _ => rfl, fun i j h => absurd h (Nat.not_lt_zero i), Nat.zero_le _, t⟩
/-- the law's promise, with tables -/
def spLawT (K : PySem.W.Frag) (T : List (Addr × Str)) : Sp := fun vs H Q _ => ∃ (a : Addr) (ns : List Int), vs = [.ref a] ∧ SqL K H a (ns.map V.int) ∧ ns.length ≤ 63 ∧ (∀ z ∈ ns, Builtin.Int.intBits z ≤ 1048576) ∧ LamX.Tabs T H ∧ ∀ H', Q (.bl true) H'
def h1s : Hs := ⟨1, .nd (some .scr) .lf .lf⟩
theorem lawR_c {T : List (Addr × Str)} {st : Stmt} {f : Addr} {fd : FuncData} {N : List Str} {x : Str} {k : Nat} {c : S} {s0 : Stmt} {rest : List Stmt} (F : Fun K "law" "law" st f fd) (sc : FnScope N [x] (defScope st)) (hd : defBody st = s0 :: rest)
    (cut : ∀ (cdv : Value) (A : Around) (outer : List Env) (s : Shared) (H : Hp) (E : XK), PS (cxOf (L2.CX P w) P w K mg base N "law" (defScope st) f cdv A outer s H E) s0 (tAsg (tSl (rSlL K) (tVar 0) tNoPart (tPart (tC (.int 63)))) (gName 0)))
    (run : ∀ ns : List Int, ns.length ≤ 63 → (∀ z ∈ ns, Builtin.Int.intBits z ≤ 1048576) → ∃ C Γ, C.K = K ∧ C.T = T ∧ C.ns = ns ∧ KsR C Γ ∧ (∃ h', exec Γ c (some (.rf 0) :: List.replicate (N.length - 1) none) h1s = .rt (.bl true) h') ∧
      ∀ (cdv : Value) (A : Around) (outer : List Env) (s : Shared) (H : Hp) (E : XK), Room k (A.deeper (envOfC "law" (defScope st) s.heap.objs.size f cdv)) → PSs (cxOf (L2.CX P w) P w K mg base N "law" (defScope st) f cdv A outer s H E) rest (rdS C Γ E c)) :
    FnOk P w K mg base (L2.CX P w) (k + 1) f fd [x] (spLawT K T) := by
  refine F.okX sc (fun vs H Q E h => ?_) (fun cdv A outer s H vs Q E hr h => ?_)
  · obtain ⟨a, ns, rfl, _⟩ := h
    rfl
  · obtain ⟨a, ns, rfl, hS, hl, hb, ht, q⟩ := h
    obtain ⟨C, Γ, hK, hT, hns, hk, ⟨h', hx⟩, body⟩ := run ns hl hb
    refine ⟨_, by rw [hd]; exact pss_cons (cut cdv A outer s H E) (body cdv A outer s H E hr), ?_⟩
    have hN : 0 < N.length := by
      have := congrArg List.length sc.pre
      simp only [List.length_take, List.length_singleton] at this
      omega
    refine ⟨.ref a, ?_, 63, rfl, a, ns.map V.int, rfl, hS, fun p hp => ?_⟩
    · unfold L2.start
      rfl
    · rw [G.cut63 hl]
      have t1 : LamX.Tabs C.T (upd H p (.lst (ns.map V.int))) := by
        rw [hT]
        exact ht.ext fun b o e => by rw [upd_ne (ne_of_none e hp)]; exact e
      have S1 : Sim C (fun _ => p) h1s (upd H p (.lst (ns.map V.int))) := by
        refine ⟨fun i d hi => ?_, fun i hi => ?_, fun i hi => ?_, fun i j hi hj _ => ?_, by decide, t1⟩
        · cases i with
          | zero => cases hi; exact ⟨_, upd_same, by rw [← hns]; rfl⟩
          | succ i =>
            have hi : (match i % 2 with | 0 => Tre.get .lf (i / 2) | _ => Tre.get .lf (i / 2)) = some d := hi
            split at hi <;> cases hi
        · have : i < 1 := hi
          obtain rfl : i = 0 := by omega
          exact ⟨_, rfl⟩
        · have hi : 1 ≤ i := hi
          cases i with
          | zero => omega
          | succ i =>
            show (match i % 2 with | 0 => Tre.get .lf (i / 2) | _ => Tre.get .lf (i / 2)) = none
            split <;> rfl
        · have h1 : i < 1 := hi
          have h2 : j < 1 := hj
          omega
      have e : (L2.start N [V.ref a]).set 0 (some (V.ref p)) = L2.start N [.ref p] := by
        unfold L2.start
        rfl
      show rdS C Γ E c _ ((L2.start N [V.ref a]).set 0 (some (V.ref p))) _
      rw [e]
      refine exec_ok hk c (some (.rf 0) :: List.replicate (N.length - 1) none) h1s (fun _ => p) _ _ S1 ⟨?_, fun i v hv => ?_⟩ _ E ?_
      · unfold L2.start
        simp only [List.length_append, List.length_map, List.length_replicate, List.length_cons, List.length_nil]
        omega
      · cases i with
        | zero =>
          cases hv
          exact ⟨.ref p, rfl, by rw [vr_rf]; exact ⟨rfl, by decide⟩⟩
        | succ i =>
          rw [List.getElem?_cons_succ, List.getElem?_replicate] at hv
          split at hv <;> cases hv
      · rw [hx]
        intro u α' H' _ _ r
        rw [vr_bl] at r
        subst r
        exact q H'
end
/-! ### the end: tables of the defs that make lambdas -/
/-- the table of the def named nm is empty at the head -/
def TabE (K : PySem.W.Frag) (mg : Str → Option Value) (h : Heap) (nm : Str) : Prop := ∀ (fa c Pt : Addr) (ob : Obj) (fn : FuncData) (e : Value) (dd : Option Addr) (vs : Array Value) (sl : Array (Option Value)), mg nm = some (.ref fa) → K.lookup fa = some ob → ob.data = .func fn → fn.code = .ref c → K.lookup c = some ⟨e, dd, .fields vs, sl⟩ → vs[11]? = some (.ref Pt) →
  h.get? Pt = some { cls := .none, data := .fields #[] }
theorem walk_many {l : PySem.W.OpenLaw} {n k : Nat} {q : Program} {loose : List Str} {XP : (Str → Option Value) → Heap → Prop} {YP : World → Heap → Prop} {d : DefRec} {K : Params → PySem.W.Frag} {CX : World → CXT} {x : Str} (nms : List Str)
    (hn : l.most = some n) (hn2 : n ≤ sizeLine) (hdf : d.params.defaults = []) (hr : Room k callerA) (hrec : (nms.all fun nm => (recsOf q).any fun e => e.name == nm) = true) (hY : ∀ (w : World) (h : Heap), YP w h → (K w.params).In h)
    (F : ∀ (w : World) (mg : Str → Option Value) (fa : Addr) (h : Heap), YP w h → (K w.params).In h → h.Ns mainGlobals mg → mg d.name = some (.ref fa) → (∀ nm ∈ nms, TabE (K w.params) mg h nm) → LamX.LawAtS l w (K w.params) (CX w) k n x mg fa h)
    (hCX : ∀ (w : World) (H : Hp) (s : Shared) (e : Value) (s' : Shared), CX w [] H s (fun _ _ _ => False) e s' → False) :
    PySem.W.WalkO q loose XP YP l.row.toRowW d [] (fun f vs => PySem.call f vs) := by
  refine Att.attach_callB hn hdf fun w s₀ s₁ mg mb fa o pm cd doc a vs ns G Y ho hd hcd hmg hobj hints hlen hbits hg => ?_
  have KX := hY w _ Y
  have tabs : ∀ nm ∈ nms, TabE (K w.params) mg s₁.heap nm := fun nm hnm fa' c Pt ob fn e dd vs1 sl k0 k1 k2 k3 k4 k5 => by
    obtain ⟨r, hm, en⟩ := List.any_eq_true.mp (List.all_eq_true.mp hrec nm hnm)
    obtain ⟨x1, x2, x3, x4, x5, y1, y2, y3, y4, y5, y6⟩ := G.T.tab r hm
    rw [beq_iff_eq.mp en, k0] at y1
    cases y1
    rw [KX _ _ k1] at y2
    cases y2
    rw [k2] at y3
    cases y3
    rw [k3] at y4
    cases y4
    obtain ⟨⟨z1, z2, z3, _, z4, z5⟩, z6⟩ := y6
    rw [KX _ _ k4] at z3
    cases z3
    cases z4
    rw [k5] at z5
    cases z5
    exact z6
  obtain ⟨fd, cs, sp, hT, nT, hC, hb, hsp, hF⟩ := F w mg fa _ Y KX G.T.g hmg tabs
  exact LamX.law_callTs KX G.T.g G.T.b G.T.builtins G.T.nolimit hg hT nT hC G.T.bmain hobj hints (Nat.le_trans hlen hn2) hr hF hb (fun H hH hS => hsp H a ns hlen hbits hH hS) fun H e s' => hCX w H s₁ e s'
end R

namespace K11
open PySem L2 R
/-! compact texts, by genr.py -/
def kss : List RV := [.tp [.str "point", .str "back"]]
def sbs : Nat → Option (List Bool)
  | 12 => some [true, false, false, false]
  | 13 => some [true, true, false, false]
  | 14 => some [true, false, true, false]
  | 15 => some [true, false, false, true]
  | _ => none
def fns : Nat → Option (List Str)
  | 12 => some []
  | 13 => some ["heard"]
  | 14 => some ["lists"]
  | 15 => some ["least", "low", "most", "high"]
  | _ => none
def mss : List (Str × List (Nat × Nat)) := [("shows", [(13, 14), (14, 16), (15, 18)])]
def nws : List (Nat × Nat) := [(13, 13), (14, 15), (15, 17)]
def c_is_whole : S := (.seq (.ret (.and (.o1 (.isI .int) (.var 0)) (.o1 .not (.o1 (.isI .bool) (.var 0))))) .nil)
def c_is_count : S := (.seq (.ret (.and (.call 0 (.cons (.var 0) .nil)) (.chn .le .le (.var 1) (.var 0) (.var 2)))) .nil)
def c_is_word : S := (.seq (.ite (.or (.o1 .not (.o1 (.isI .tuple) (.var 0))) (.or (.o2 .ne (.o1 .len (.var 0)) (.cn (.int 2))) (.o1 .not (.o1 (.isI .str) (.o2 .ix (.var 0) (.cn (.int 0))))))) (.seq (.ret (.cn (.bl false))) .nil) .nil) (.seq (.ret (.and (.o2 .inT (.o2 .ix (.var 0) (.cn (.int 0))) (.kon 0)) (.call 1 (.cons (.o2 .ix (.var 0) (.cn (.int 1))) (.cons (.cn (.int 0)) (.cons (.cn (.int 1)) .nil)))))) .nil))
def m_check_notes_1 : X := (.lc (.nm 2) (.itL (.var 1)) (.call 2 (.cons (.var 2) .nil)))
def l_check_notes_1 : S := (.seq (.ite (.or (.o1 .not (.o1 (.isI .list) (.var 1))) (.or (.o2 (.cmp .gt) (.o1 .len (.var 1)) (.cn (.int 6))) (.o1 .not (.o1 .all m_check_notes_1)))) (.seq (.rz 0) .nil) .nil) .nil)
def c_check_notes : S := (.seq (.ite (.or (.o1 .not (.o1 (.isI .list) (.var 0))) (.o1 .not (.chn .le .le (.cn (.int 1)) (.o1 .len (.var 0)) (.cn (.int 3))))) (.seq (.rz 0) .nil) .nil) (.seq (.loop (.nm 1) (.itL (.var 0)) l_check_notes_1) .nil))
def c_check_hand : S := (.seq (.ite (.o1 .not (.call 1 (.cons (.var 1) (.cons (.cn (.int 0)) (.cons (.o2 (.bin .sub) (.var 0) (.cn (.int 1))) .nil))))) (.seq (.rz 1) .nil) .nil) .nil)
def l_score_of_1 : S := (.seq (.aix (.var 2) (.var 6) (.ite (.o2 .eq (.var 5) (.cn (.str "point"))) (.cn (.int 1)) (.o1 .neg (.cn (.int 1))))) .nil)
def l_score_of_2 : S := (.seq (.loop (.t2 (.nm 5) (.nm 6)) (.itL (.sl (.var 3) .nil (.cons (.var 4) .nil))) l_score_of_1) .nil)
def c_score_of : S := (.seq (.asg (.nm 2) (.lst (.cons (.cn (.int 0)) (.cons (.cn (.int 0)) .nil)))) (.seq (.loop (.t2 (.nm 3) (.nm 4)) (.itZ (.var 0) (.var 1)) l_score_of_2) (.seq (.ret (.tup (.cons (.o2 .ix (.var 2) (.cn (.int 0))) (.cons (.o2 .ix (.var 2) (.cn (.int 1))) .nil)))) .nil)))
def m_is_heard_1 : X := (.lc (.t2 (.nm 2) (.nm 3)) (.itZ (.var 0) (.var 1)) (.chn .le .le (.cn (.int 0)) (.var 3) (.o1 .len (.var 2))))
def c_is_heard : S := (.seq (.ite (.o2 .ne (.o1 .len (.var 1)) (.o1 .len (.var 0))) (.seq (.ret (.cn (.bl false))) .nil) .nil) (.seq (.ret (.o1 .all m_is_heard_1)) .nil))
def m_all_heard_1 : X := (.lcf (.nm 8) (.itR (.o2 (.bin .add) (.o1 .len (.var 5)) (.cn (.int 1)))) (.or (.o2 .ne (.var 4) (.var 1)) (.o2 .eq (.var 8) (.var 2))) (.o2 .cat (.var 7) (.lst (.cons (.var 8) .nil))))
def l_all_heard_1 : S := (.seq (.exp (.o2 .extd (.var 6) m_all_heard_1)) .nil)
def l_all_heard_2 : S := (.seq (.asg (.nm 6) (.lst .nil)) (.seq (.loop (.nm 7) (.itL (.var 3)) l_all_heard_1) (.seq (.asg (.nm 3) (.var 6)) .nil)))
def c_all_heard : S := (.seq (.asg (.nm 3) (.lst (.cons (.lst .nil) .nil))) (.seq (.loop (.t2 (.nm 4) (.nm 5)) (.itE (.var 0)) l_all_heard_2) (.seq (.ret (.var 3)) .nil)))
def m_is_no_less_1 : X := (.lc (.t2 (.nm 2) (.nm 3)) (.itZ (.var 0) (.var 1)) (.o2 (.cmp .ge) (.var 2) (.var 3)))
def c_is_no_less : S := (.seq (.ret (.o1 .all m_is_no_less_1)) .nil)
def l_gone_over_1 : S := (.seq (.aix (.var 6) (.var 2) (.cn (.int 1))) (.seq (.ite (.and (.o2 (.cmp .ge) (.o2 .ix (.var 6) (.var 2)) (.var 3)) (.o2 (.cmp .ge) (.o2 (.bin .sub) (.o2 .ix (.var 6) (.var 2)) (.o2 .ix (.var 6) (.o2 (.bin .sub) (.cn (.int 1)) (.var 2)))) (.var 4))) (.seq (.exp (.o2 .app (.var 5) (.var 2))) (.seq (.asg (.nm 6) (.lst (.cons (.cn (.int 0)) (.cons (.cn (.int 0)) .nil)))) .nil)) .nil) .nil))
def c_gone_over : S := (.seq (.asg (.t2 (.nm 3) (.nm 4)) (.var 0)) (.seq (.par 5 6 (.lst .nil) (.lst (.cons (.cn (.int 0)) (.cons (.cn (.int 0)) .nil)))) (.seq (.loop (.nm 2) (.itL (.var 1)) l_gone_over_1) (.seq (.ret (.tup (.cons (.var 5) (.cons (.tup (.cons (.o2 .ix (.var 6) (.cn (.int 0))) (.cons (.o2 .ix (.var 6) (.cn (.int 1))) .nil))) .nil)))) .nil))))
def m_check_game_1 : X := (.lc (.nm 2) (.itL (.var 1)) (.call 1 (.cons (.var 2) (.cons (.cn (.int 0)) (.cons (.cn (.int 1)) .nil)))))
def c_check_game : S := (.seq (.ite (.or (.o1 .not (.o1 (.isI .tuple) (.var 0))) (.or (.o2 .ne (.o1 .len (.var 0)) (.cn (.int 2))) (.o1 .not (.call 1 (.cons (.o2 .ix (.var 0) (.cn (.int 0))) (.cons (.cn (.int 1)) (.cons (.cn (.int 5)) .nil))))))) (.seq (.rz 5) .nil) .nil) (.seq (.ite (.o1 .not (.call 1 (.cons (.o2 .ix (.var 0) (.cn (.int 1))) (.cons (.cn (.int 1)) (.cons (.cn (.int 2)) .nil))))) (.seq (.rz 5) .nil) .nil) (.seq (.ite (.or (.o1 .not (.o1 (.isI .list) (.var 1))) (.or (.o2 (.cmp .gt) (.o1 .len (.var 1)) (.cn (.int 60))) (.o1 .not (.o1 .all m_check_game_1)))) (.seq (.rz 6) .nil) .nil) .nil)))
def c_games : S := (.seq (.expX (.call 10 (.cons (.var 0) (.cons (.var 1) .nil)))) (.seq (.ret (.call 9 (.cons (.var 0) (.cons (.var 1) .nil)))) .nil))
def c_game_point : S := (.seq (.expX (.call 10 (.cons (.var 0) (.cons (.var 1) .nil)))) (.seq (.ite (.o1 .not (.call 1 (.cons (.var 2) (.cons (.cn (.int 0)) (.cons (.cn (.int 1)) .nil))))) (.seq (.rz 7) .nil) .nil) (.seq (.ret (.o2 (.cmp .gt) (.o1 .len (.o2 .ix (.call 9 (.cons (.var 0) (.cons (.o2 .cat (.var 1) (.lst (.cons (.var 2) .nil))) .nil))) (.cn (.int 0)))) (.o1 .len (.o2 .ix (.call 9 (.cons (.var 0) (.cons (.var 1) .nil))) (.cn (.int 0)))))) .nil)))
def m_History_init_1 : X := (.lc (.nm 2) (.itL (.var 1)) (.o1 .toL (.var 2)))
def c_History_init : S := (.seq (.fst "heard" (.var 0) m_History_init_1) .nil)
def m_History_shows_1 : X := (.lc (.nm 5) (.itL (.var 4)) (.call 6 (.cons (.var 1) (.cons (.var 5) .nil))))
def m_History_shows_2 : X := (.lc (.t2 (.nm 9) (.nm 10)) (.itZ (.var 4) (.sl (.var 4) (.cons (.cn (.int 1)) .nil) .nil)) (.call 8 (.cons (.var 10) (.cons (.var 9) .nil))))
def l_History_shows_1 : S := (.seq (.ite (.or (.o2 .ne (.o2 .ix (.var 5) (.var 2)) (.var 6)) (.o2 .ne (.call 5 (.cons (.var 1) (.cons (.var 5) .nil))) (.tup (.cons (.var 7) (.cons (.var 8) .nil))))) (.seq (.ret (.cn (.bl false))) .nil) .nil) .nil)
def c_History_shows : S := (.seq (.asg (.nm 4) (.o1 (.fld "heard") (.var 0))) (.seq (.ite (.or (.o2 .ne (.o1 .len (.var 4)) (.o1 .len (.var 3))) (.o1 .not (.o1 .all m_History_shows_1))) (.seq (.ret (.cn (.bl false))) .nil) .nil) (.seq (.loop (.t2 (.nm 5) (.t3 (.nm 6) (.nm 7) (.nm 8))) (.itZ (.var 4) (.var 3)) l_History_shows_1) (.seq (.ret (.o1 .all m_History_shows_2)) .nil))))
def m_Never_init_1 : X := (.lc (.nm 3) (.itL (.var 2)) (.o1 .toL (.var 3)))
def m_Never_init_2 : X := (.lc (.nm 2) (.itL (.var 1)) m_Never_init_1)
def c_Never_init : S := (.seq (.fst "lists" (.var 0) m_Never_init_2) .nil)
def m_Never_shows_1 : X := (.lc (.nm 6) (.itL (.o2 .ix (.var 4) (.var 5))) (.call 6 (.cons (.var 1) (.cons (.var 6) .nil))))
def m_Never_shows_2 : X := (.lc (.nm 6) (.itL (.o2 .ix (.var 4) (.var 5))) (.o1 .tupL (.var 6)))
def m_Never_shows_3 : X := (.lc (.nm 11) (.itL (.o2 .ix (.var 4) (.o2 (.bin .sub) (.var 5) (.cn (.int 1))))) (.call 8 (.cons (.var 6) (.cons (.var 11) .nil))))
def l_Never_shows_1 : S := (.seq (.asg (.nm 10) (.or (.o2 .eq (.var 5) (.cn (.int 0))) (.o1 .any m_Never_shows_3))) (.seq (.ite (.and (.var 10) (.and (.o2 .eq (.call 5 (.cons (.var 1) (.cons (.var 6) .nil))) (.tup (.cons (.var 8) (.cons (.var 9) .nil)))) (.o2 .nin (.var 6) (.o2 .ix (.var 4) (.var 5))))) (.seq (.ret (.cn (.bl false))) .nil) .nil) .nil))
def l_Never_shows_2 : S := (.seq (.ite (.o1 .not (.o1 .all m_Never_shows_1)) (.seq (.ret (.cn (.bl false))) .nil) .nil) (.seq (.ite (.o2 (.cmp .lt) (.o1 .lenSet m_Never_shows_2) (.o1 .len (.o2 .ix (.var 4) (.var 5)))) (.seq (.ret (.cn (.bl false))) .nil) .nil) (.seq (.loop (.nm 6) (.itL (.call 7 (.cons (.var 1) (.cons (.var 2) (.cons (.var 7) .nil))))) l_Never_shows_1) .nil)))
def c_Never_shows : S := (.seq (.asg (.nm 4) (.o1 (.fld "lists") (.var 0))) (.seq (.ite (.or (.o2 .ne (.o1 .len (.var 4)) (.o1 .len (.var 3))) (.or (.o2 .eq (.var 4) (.lst .nil)) (.o2 .ne (.o2 .ix (.var 4) (.o1 .neg (.cn (.int 1)))) (.lst .nil)))) (.seq (.ret (.cn (.bl false))) .nil) .nil) (.seq (.loop (.t2 (.nm 5) (.t3 (.nm 7) (.nm 8) (.nm 9))) (.itE (.var 3)) l_Never_shows_2) (.seq (.ret (.cn (.bl true))) .nil))))
def c_Leads_init : S := (.seq (.fst "least" (.var 0) (.var 1)) (.seq (.fst "low" (.var 0) (.o1 .toL (.var 2))) (.seq (.fst "most" (.var 0) (.var 3)) (.seq (.fst "high" (.var 0) (.o1 .toL (.var 4))) .nil))))
def l_Leads_shows_1 : S := (.seq (.ite (.or (.o1 .not (.call 6 (.cons (.var 1) (.cons (.var 4) .nil)))) (.o2 .ne (.o2 .ix (.var 4) (.var 2)) (.var 3))) (.seq (.ret (.cn (.bl false))) .nil) .nil) (.seq (.asg (.t2 (.nm 6) (.nm 7)) (.call 5 (.cons (.var 1) (.cons (.var 4) .nil)))) (.seq (.ite (.o2 .ne (.o2 (.bin .sub) (.var 6) (.var 7)) (.var 5)) (.seq (.ret (.cn (.bl false))) .nil) .nil) .nil)))
def l_Leads_shows_2 : S := (.seq (.asg (.t2 (.nm 6) (.nm 7)) (.call 5 (.cons (.var 1) (.cons (.var 4) .nil)))) (.seq (.ite (.o1 .not (.chn .le .le (.o1 (.fld "least") (.var 0)) (.o2 (.bin .sub) (.var 6) (.var 7)) (.o1 (.fld "most") (.var 0)))) (.seq (.ret (.cn (.bl false))) .nil) .nil) .nil))
def c_Leads_shows : S := (.seq (.loop (.t2 (.nm 4) (.nm 5)) (.itT (.tup (.cons (.tup (.cons (.o1 (.fld "low") (.var 0)) (.cons (.o1 (.fld "least") (.var 0)) .nil))) (.cons (.tup (.cons (.o1 (.fld "high") (.var 0)) (.cons (.o1 (.fld "most") (.var 0)) .nil))) .nil)))) l_Leads_shows_1) (.seq (.loop (.nm 4) (.itL (.call 7 (.cons (.var 1) (.cons (.var 2) (.cons (.var 3) .nil))))) l_Leads_shows_2) (.seq (.ret (.cn (.bl true))) .nil)))
def m_score_1 : X := (.lc (.nm 2) (.itL (.var 1)) (.call 0 (.cons (.var 2) .nil)))
def c_score : S := (.seq (.expX (.call 3 (.cons (.var 0) .nil))) (.seq (.ite (.or (.o1 .not (.o1 (.isI .list) (.var 1))) (.or (.o1 .not (.o1 .all m_score_1)) (.o1 .not (.call 6 (.cons (.var 0) (.cons (.var 1) .nil)))))) (.seq (.rz 2) .nil) .nil) (.seq (.ret (.call 5 (.cons (.var 0) (.cons (.var 1) .nil)))) .nil)))
def c_is_showing : S := (.seq (.ite (.or (.o1 .not (.o1 (.isI .tuple) (.var 0))) (.or (.o2 .ne (.o1 .len (.var 0)) (.cn (.int 3))) (.o1 .not (.call 1 (.cons (.o2 .ix (.var 0) (.cn (.int 0))) (.cons (.cn (.int 0)) (.cons (.var 1) .nil))))))) (.seq (.ret (.cn (.bl false))) .nil) .nil) (.seq (.ret (.and (.call 0 (.cons (.o2 .ix (.var 0) (.cn (.int 1))) .nil)) (.call 0 (.cons (.o2 .ix (.var 0) (.cn (.int 2))) .nil)))) .nil))
def m_lists_of_1 : X := (.lcf (.nm 8) (.itL (.call 7 (.cons (.var 0) (.cons (.var 1) (.cons (.var 4) .nil))))) (.o2 .eq (.call 5 (.cons (.var 0) (.cons (.var 8) .nil))) (.tup (.cons (.var 5) (.cons (.var 6) .nil)))) (.var 8))
def m_lists_of_2 : X := (.lc (.nm 9) (.itL (.o2 .ix (.var 3) (.o1 .neg (.cn (.int 1))))) (.call 8 (.cons (.var 8) (.cons (.var 9) .nil))))
def m_lists_of_3 : X := (.lcf (.nm 8) (.itL (.var 7)) (.o1 .any m_lists_of_2) (.var 8))
def l_lists_of_1 : S := (.seq (.asg (.nm 7) m_lists_of_1) (.seq (.ite (.o2 .ne (.var 3) (.lst .nil)) (.seq (.asg (.nm 7) m_lists_of_3) .nil) .nil) (.seq (.exp (.o2 .app (.var 3) (.var 7))) .nil)))
def c_lists_of : S := (.seq (.asg (.nm 3) (.lst .nil)) (.seq (.loop (.t3 (.nm 4) (.nm 5) (.nm 6)) (.itL (.var 2)) l_lists_of_1) (.seq (.ret (.var 3)) .nil)))
def m_history_of_1 : X := (.lcf (.nm 3) (.itL (.var 2)) (.call 8 (.cons (.o2 .ix (.var 1) (.o1 .neg (.cn (.int 1)))) (.cons (.var 3) .nil))) (.var 3))
def l_history_of_1 : S := (.seq (.exp (.o2 .app (.var 1) (.o2 .ix m_history_of_1 (.cn (.int 0))))) .nil)
def c_history_of : S := (.seq (.asg (.nm 1) (.ite (.o2 .ne (.var 0) (.lst .nil)) (.lst (.cons (.o2 .ix (.o2 .ix (.var 0) (.o1 .neg (.cn (.int 1)))) (.cn (.int 0))) .nil)) (.lst .nil))) (.seq (.loop (.nm 2) (.itL (.sl (.o1 .rev (.var 0)) (.cons (.cn (.int 1)) .nil) .nil)) l_history_of_1) (.seq (.ret (.o1 .rev (.var 1))) .nil)))
def m_judged_1 : X := (.lc (.nm 4) (.itL (.var 2)) (.call 20 (.cons (.var 4) (.cons (.o1 .len (.o2 .ix (.var 0) (.var 1))) .nil))))
def m_judged_2 : X := (.lc (.t2 (.nm 4) (.nm 5)) (.itZ (.var 2) (.sl (.var 2) (.cons (.cn (.int 1)) .nil) .nil)) (.o2 (.cmp .gt) (.o2 .ix (.var 4) (.cn (.int 0))) (.o2 .ix (.var 5) (.cn (.int 0)))))
def c_judged : S := (.seq (.expX (.call 3 (.cons (.var 0) .nil))) (.seq (.expX (.call 4 (.cons (.o1 .len (.var 0)) (.cons (.var 1) .nil)))) (.seq (.ite (.or (.o1 .not (.o1 (.isI .list) (.var 2))) (.o2 (.cmp .gt) (.o1 .len (.var 2)) (.cn (.int 5)))) (.seq (.rz 3) .nil) .nil) (.seq (.ite (.o1 .not (.o1 .all m_judged_1)) (.seq (.rz 3) .nil) .nil) (.seq (.ite (.o1 .any m_judged_2) (.seq (.rz 3) .nil) .nil) (.seq (.asg (.nm 3) (.call 21 (.cons (.var 0) (.cons (.var 1) (.cons (.var 2) .nil))))) (.seq (.ret (.ite (.and (.o2 .ne (.var 3) (.lst .nil)) (.o2 .eq (.o2 .ix (.var 3) (.o1 .neg (.cn (.int 1)))) (.lst .nil))) (.new 1 (.cons (.var 3) .nil)) (.new 0 (.cons (.call 22 (.cons (.var 3) .nil)) .nil)))) .nil)))))))
def l_leads_1 : S := (.seq (.asg (.t2 (.nm 7) (.nm 8)) (.call 5 (.cons (.var 0) (.cons (.var 4) .nil)))) (.seq (.exp (.o2 .app (.var 3) (.tup (.cons (.o2 (.bin .sub) (.var 7) (.var 8)) (.cons (.var 4) .nil))))) .nil))
def c_leads : S := (.seq (.expX (.call 3 (.cons (.var 0) .nil))) (.seq (.expX (.call 4 (.cons (.o1 .len (.var 0)) (.cons (.var 1) .nil)))) (.seq (.ite (.o1 .not (.call 1 (.cons (.var 2) (.cons (.cn (.int 0)) (.cons (.o1 .len (.o2 .ix (.var 0) (.var 1))) .nil))))) (.seq (.rz 4) .nil) .nil) (.seq (.asg (.nm 3) (.lst .nil)) (.seq (.loop (.nm 4) (.itL (.call 7 (.cons (.var 0) (.cons (.var 1) (.cons (.var 2) .nil))))) l_leads_1) (.seq (.par 5 6 (.o1 .minL (.var 3)) (.o1 .maxL (.var 3))) (.seq (.ret (.new 2 (.cons (.o2 .ix (.var 5) (.cn (.int 0))) (.cons (.o2 .ix (.var 5) (.cn (.int 1))) (.cons (.o2 .ix (.var 6) (.cn (.int 0))) (.cons (.o2 .ix (.var 6) (.cn (.int 1))) .nil)))))) .nil)))))))
def m__law_copy_1 : X := (.lc (.nm 1) (.itL (.var 0)) (.call 26 (.cons (.var 1) .nil)))
def m__law_copy_2 : X := (.lc (.nm 1) (.itT (.var 0)) (.call 26 (.cons (.var 1) .nil)))
def c__law_copy : S := (.seq (.ite (.o1 (.isI .list) (.var 0)) (.seq (.ret m__law_copy_1) .nil) .nil) (.seq (.ite (.o1 (.isI .tuple) (.var 0)) (.seq (.ret (.o1 .tupL m__law_copy_2)) .nil) .nil) (.seq (.ret (.var 0)) .nil)))
def l__law_into_1 : S := (.seq (.ite (.and (.o1 (.isI .list) (.var 3)) (.o2 .eq (.o1 .len (.o2 .ix (.var 0) (.var 2))) (.o1 .len (.var 3)))) (.seq (.exp (.call 27 (.cons (.o2 .ix (.var 0) (.var 2)) (.cons (.var 3) .nil)))) .nil) (.seq (.six (.var 0) (.var 2) (.call 26 (.cons (.var 3) .nil))) .nil)) .nil)
def c__law_into : S := (.seq (.loop (.t2 (.nm 2) (.nm 3)) (.itE (.var 1)) l__law_into_1) .nil)
def l__law_spoil_1 : S := (.seq (.exp (.call 28 (.cons (.var 1) .nil))) .nil)
def c__law_spoil : S := (.seq (.ite (.or (.o1 (.isI .list) (.var 0)) (.o1 (.isI .tuple) (.var 0))) (.seq (.loop (.nm 1) (.itL (.o1 .toL (.var 0))) l__law_spoil_1) .nil) .nil) (.seq (.ite (.o1 (.isI .list) (.var 0)) (.seq (.exp (.o2 .app (.var 0) (.cn .non))) .nil) .nil) .nil))
def l__law_door_right_1 : S := (.seq (.exp (.o2 .app (.var 5) (.tup (.cons (.var 3) (.cons (.call 26 (.cons (.lcall 0 [(0, 33), (1, 34), (2, 35), (3, 36), (4, 37), (5, 38), (6, 39), (7, 40), (8, 41), (9, 42)] (.cons (.call 26 (.cons (.var 3) .nil)) .nil)) .nil)) .nil))))) .nil)
def l__law_door_right_2 : S := (.seq (.asg (.nm 8) (.lcall 0 [(0, 33), (1, 34), (2, 35), (3, 36), (4, 37), (5, 38), (6, 39), (7, 40), (8, 41), (9, 42)] (.cons (.var 4) .nil))) (.seq (.ite (.or (.o2 .ne (.var 4) (.var 3)) (.o2 .ne (.var 8) (.var 6))) (.seq (.ret (.cn (.bl false))) .nil) .nil) (.seq (.exp (.call 28 (.cons (.var 8) .nil))) .nil)))
def l__law_door_right_3 : S := (.seq (.exp (.call 27 (.cons (.var 4) (.cons (.var 3) .nil)))) (.seq (.loop (.nm 7) (.itR (.cn (.int 2))) l__law_door_right_2) .nil))
def c__law_door_right : S := (.seq (.par 4 5 (.call 26 (.cons (.var 1) .nil)) (.lst .nil)) (.seq (.loop (.nm 3) (.itT (.tup (.cons (.var 1) (.cons (.var 2) .nil)))) l__law_door_right_1) (.seq (.loop (.t2 (.nm 3) (.nm 6)) (.itL (.o2 .cat (.var 5) (.var 5))) l__law_door_right_3) (.seq (.ret (.cn (.bl true))) .nil))))
def c__law_fields : S := (.seq (.ret (.lst (.cons (.o1 (.fld "least") (.var 0)) (.cons (.o1 (.fld "low") (.var 0)) (.cons (.o1 (.fld "most") (.var 0)) (.cons (.o1 (.fld "high") (.var 0)) .nil)))))) .nil)
def c__law_rows_one : S := (.seq (.asg (.nm 0) (.lst .nil)) (.seq (.exp (.o2 .app (.var 0) (.tup (.cons (.lamv 0) (.cons (.lst (.cons (.lst (.cons (.lst (.cons (.tup (.cons (.cn (.str "point")) (.cons (.cn (.int 0)) .nil))) (.cons (.tup (.cons (.cn (.str "back")) (.cons (.cn (.int 1)) .nil))) .nil))) (.cons (.lst (.cons (.tup (.cons (.cn (.str "point")) (.cons (.cn (.int 1)) .nil))) .nil)) .nil))) (.cons (.lst (.cons (.cn (.int 1)) (.cons (.cn (.int 1)) .nil))) .nil))) (.cons (.lst (.cons (.lst (.cons (.lst (.cons (.tup (.cons (.cn (.str "point")) (.cons (.cn (.int 1)) .nil))) (.cons (.tup (.cons (.cn (.str "back")) (.cons (.cn (.int 1)) .nil))) .nil))) (.cons (.lst (.cons (.tup (.cons (.cn (.str "point")) (.cons (.cn (.int 1)) .nil))) .nil)) .nil))) (.cons (.lst (.cons (.cn (.int 1)) (.cons (.cn (.int 1)) .nil))) .nil))) .nil)))))) (.seq (.exp (.o2 .app (.var 0) (.tup (.cons (.lamv 1) (.cons (.lst (.cons (.lst (.cons (.lst (.cons (.tup (.cons (.cn (.str "point")) (.cons (.cn (.int 0)) .nil))) (.cons (.tup (.cons (.cn (.str "back")) (.cons (.cn (.int 1)) .nil))) .nil))) (.cons (.lst (.cons (.tup (.cons (.cn (.str "point")) (.cons (.cn (.int 1)) .nil))) .nil)) .nil))) (.cons (.lst (.cons (.cn (.int 1)) (.cons (.cn (.int 1)) .nil))) .nil))) (.cons (.lst (.cons (.lst (.cons (.lst (.cons (.tup (.cons (.cn (.str "point")) (.cons (.cn (.int 0)) .nil))) (.cons (.tup (.cons (.cn (.str "back")) (.cons (.cn (.int 1)) .nil))) .nil))) (.cons (.lst (.cons (.tup (.cons (.cn (.str "point")) (.cons (.cn (.int 1)) .nil))) .nil)) .nil))) (.cons (.lst (.cons (.cn (.int 2)) (.cons (.cn (.int 1)) .nil))) .nil))) .nil)))))) (.seq (.exp (.o2 .app (.var 0) (.tup (.cons (.lamv 2) (.cons (.lst (.cons (.lst (.cons (.lst (.cons (.tup (.cons (.cn (.str "point")) (.cons (.cn (.int 0)) .nil))) (.cons (.tup (.cons (.cn (.str "back")) (.cons (.cn (.int 1)) .nil))) .nil))) (.cons (.lst (.cons (.tup (.cons (.cn (.str "point")) (.cons (.cn (.int 1)) .nil))) .nil)) .nil))) (.cons (.lst (.cons (.tup (.cons (.cn (.int 1)) (.cons (.cn (.int 1)) (.cons (.cn (.int 0)) .nil)))) .nil)) .nil))) (.cons (.lst (.cons (.lst (.cons (.lst (.cons (.tup (.cons (.cn (.str "point")) (.cons (.cn (.int 0)) .nil))) (.cons (.tup (.cons (.cn (.str "back")) (.cons (.cn (.int 1)) .nil))) .nil))) (.cons (.lst (.cons (.tup (.cons (.cn (.str "point")) (.cons (.cn (.int 1)) .nil))) .nil)) .nil))) (.cons (.lst (.cons (.tup (.cons (.cn (.int 1)) (.cons (.cn (.int 5)) (.cons (.cn (.int 0)) .nil)))) .nil)) .nil))) .nil)))))) (.seq (.exp (.o2 .app (.var 0) (.tup (.cons (.lamv 3) (.cons (.lst (.cons (.lst (.cons (.lst (.cons (.tup (.cons (.cn (.str "point")) (.cons (.cn (.int 0)) .nil))) (.cons (.tup (.cons (.cn (.str "back")) (.cons (.cn (.int 1)) .nil))) .nil))) (.cons (.lst (.cons (.tup (.cons (.cn (.str "point")) (.cons (.cn (.int 1)) .nil))) .nil)) .nil))) (.cons (.lst (.cons (.tup (.cons (.cn (.int 1)) (.cons (.cn (.int 1)) (.cons (.cn (.int 0)) .nil)))) .nil)) .nil))) (.cons (.lst (.cons (.lst (.cons (.lst (.cons (.tup (.cons (.cn (.str "point")) (.cons (.cn (.int 0)) .nil))) (.cons (.tup (.cons (.cn (.str "back")) (.cons (.cn (.int 1)) .nil))) .nil))) (.cons (.lst (.cons (.tup (.cons (.cn (.str "point")) (.cons (.cn (.int 1)) .nil))) .nil)) .nil))) (.cons (.lst (.cons (.tup (.cons (.cn (.int 1)) (.cons (.cn (.int 1)) (.cons (.cn (.int 1)) .nil)))) .nil)) .nil))) .nil)))))) (.seq (.exp (.o2 .app (.var 0) (.tup (.cons (.lamv 4) (.cons (.lst (.cons (.lst (.cons (.lst (.cons (.tup (.cons (.cn (.str "point")) (.cons (.cn (.int 0)) .nil))) (.cons (.tup (.cons (.cn (.str "back")) (.cons (.cn (.int 1)) .nil))) .nil))) (.cons (.lst (.cons (.tup (.cons (.cn (.str "point")) (.cons (.cn (.int 1)) .nil))) .nil)) .nil))) .nil)) (.cons (.lst (.cons (.lst (.cons (.lst (.cons (.tup (.cons (.cn (.str "point")) (.cons (.cn (.int 1)) .nil))) (.cons (.tup (.cons (.cn (.str "back")) (.cons (.cn (.int 1)) .nil))) .nil))) (.cons (.lst (.cons (.tup (.cons (.cn (.str "point")) (.cons (.cn (.int 1)) .nil))) .nil)) .nil))) .nil)) .nil)))))) (.seq (.exp (.o2 .app (.var 0) (.tup (.cons (.lamv 5) (.cons (.lst (.cons (.lst (.cons (.cn (.int 0)) (.cons (.cn (.int 0)) (.cons (.cn (.int 1)) .nil)))) .nil)) (.cons (.lst (.cons (.lst (.cons (.cn (.int 1)) (.cons (.cn (.int 1)) (.cons (.cn (.int 1)) .nil)))) .nil)) .nil)))))) (.seq (.exp (.o2 .app (.var 0) (.tup (.cons (.lamv 6) (.cons (.lst (.cons (.lst (.cons (.cn (.int 0)) .nil)) .nil)) (.cons (.lst (.cons (.lst (.cons (.cn (.int 1)) .nil)) .nil)) .nil)))))) (.seq (.exp (.o2 .app (.var 0) (.tup (.cons (.lamv 7) (.cons (.lst (.cons (.lst (.cons (.lst (.cons (.tup (.cons (.cn (.str "point")) (.cons (.cn (.int 0)) .nil))) (.cons (.tup (.cons (.cn (.str "back")) (.cons (.cn (.int 1)) .nil))) .nil))) (.cons (.lst (.cons (.tup (.cons (.cn (.str "point")) (.cons (.cn (.int 1)) .nil))) .nil)) .nil))) (.cons (.lst (.cons (.tup (.cons (.cn (.int 1)) (.cons (.cn (.int 1)) (.cons (.cn (.int 0)) .nil)))) .nil)) .nil))) (.cons (.lst (.cons (.lst (.cons (.lst (.cons (.tup (.cons (.cn (.str "point")) (.cons (.cn (.int 0)) .nil))) (.cons (.tup (.cons (.cn (.str "back")) (.cons (.cn (.int 1)) .nil))) .nil))) (.cons (.lst (.cons (.tup (.cons (.cn (.str "point")) (.cons (.cn (.int 1)) .nil))) .nil)) .nil))) (.cons (.lst (.cons (.tup (.cons (.cn (.int 1)) (.cons (.cn (.int 1)) (.cons (.cn (.int 1)) .nil)))) .nil)) .nil))) .nil)))))) (.seq (.exp (.o2 .app (.var 0) (.tup (.cons (.lamv 8) (.cons (.lst (.cons (.lst (.cons (.lst (.cons (.tup (.cons (.cn (.str "point")) (.cons (.cn (.int 0)) .nil))) (.cons (.tup (.cons (.cn (.str "back")) (.cons (.cn (.int 1)) .nil))) .nil))) (.cons (.lst (.cons (.tup (.cons (.cn (.str "point")) (.cons (.cn (.int 1)) .nil))) .nil)) .nil))) (.cons (.lst (.cons (.tup (.cons (.cn (.int 1)) (.cons (.cn (.int 5)) (.cons (.cn (.int 0)) .nil)))) .nil)) .nil))) (.cons (.lst (.cons (.lst (.cons (.lst (.cons (.tup (.cons (.cn (.str "point")) (.cons (.cn (.int 0)) .nil))) (.cons (.tup (.cons (.cn (.str "back")) (.cons (.cn (.int 1)) .nil))) .nil))) (.cons (.lst (.cons (.tup (.cons (.cn (.str "point")) (.cons (.cn (.int 1)) .nil))) .nil)) .nil))) (.cons (.lst (.cons (.tup (.cons (.cn (.int 1)) (.cons (.cn (.int 1)) (.cons (.cn (.int 0)) .nil)))) .nil)) .nil))) .nil)))))) (.seq (.exp (.o2 .app (.var 0) (.tup (.cons (.lamv 9) (.cons (.lst (.cons (.lst (.cons (.lst (.cons (.tup (.cons (.cn (.str "point")) (.cons (.cn (.int 0)) .nil))) (.cons (.tup (.cons (.cn (.str "back")) (.cons (.cn (.int 1)) .nil))) .nil))) (.cons (.lst (.cons (.tup (.cons (.cn (.str "point")) (.cons (.cn (.int 1)) .nil))) .nil)) .nil))) .nil)) (.cons (.lst (.cons (.lst (.cons (.lst (.cons (.tup (.cons (.cn (.str "point")) (.cons (.cn (.int 1)) .nil))) (.cons (.tup (.cons (.cn (.str "back")) (.cons (.cn (.int 1)) .nil))) .nil))) (.cons (.lst (.cons (.tup (.cons (.cn (.str "point")) (.cons (.cn (.int 1)) .nil))) .nil)) .nil))) .nil)) .nil)))))) (.seq (.ret (.var 0)) .nil))))))))))))
def l_law_1 : S := (.seq (.ite (.o1 .not (.call 29 (.cons (.var 3) (.cons (.var 4) (.cons (.var 5) .nil))))) (.seq (.ret (.cn (.bl false))) .nil) .nil) .nil)
def c_law : S := (.seq (.asg (.nm 1) (.call 31 .nil)) (.seq (.asg (.nm 2) (.o2 (.bin .mod) (.o1 .abs (.call 25 (.cons (.var 0) (.cons (.cn (.int 0)) .nil)))) (.o1 .len (.var 1)))) (.seq (.loop (.t3 (.nm 3) (.nm 4) (.nm 5)) (.itL (.o2 .cat (.sl (.var 1) (.cons (.var 2) .nil) .nil) (.sl (.var 1) .nil (.cons (.var 2) .nil)))) l_law_1) (.seq (.ret (.cn (.bl true))) .nil))))
def m_lam0 : X := (.call 19 (.cons (.o2 .ix (.var 0) (.cn (.int 0))) (.cons (.o2 .ix (.var 0) (.cn (.int 1))) .nil)))
def c_lam0 : S := (.seq (.ret m_lam0) .nil)
def m_lam1 : X := (.call 19 (.cons (.o2 .ix (.var 0) (.cn (.int 0))) (.cons (.o2 .ix (.var 0) (.cn (.int 1))) .nil)))
def c_lam1 : S := (.seq (.ret m_lam1) .nil)
def m_lam2 : X := (.o1 (.isC 1) (.call 23 (.cons (.o2 .ix (.var 0) (.cn (.int 0))) (.cons (.cn (.int 0)) (.cons (.o2 .ix (.var 0) (.cn (.int 1))) .nil)))))
def c_lam2 : S := (.seq (.ret m_lam2) .nil)
def m_lam3 : X := (.o1 (.fld "heard") (.call 23 (.cons (.o2 .ix (.var 0) (.cn (.int 0))) (.cons (.cn (.int 0)) (.cons (.o2 .ix (.var 0) (.cn (.int 1))) .nil)))))
def c_lam3 : S := (.seq (.ret m_lam3) .nil)
def m_lam4 : X := (.call 30 (.cons (.call 24 (.cons (.o2 .ix (.var 0) (.cn (.int 0))) (.cons (.cn (.int 0)) (.cons (.cn (.int 1)) .nil)))) .nil))
def c_lam4 : S := (.seq (.ret m_lam4) .nil)
def m_lam5 : X := (.call 11 (.cons (.tup (.cons (.cn (.int 2)) (.cons (.cn (.int 1)) .nil))) (.cons (.o2 .ix (.var 0) (.cn (.int 0))) .nil)))
def c_lam5 : S := (.seq (.ret m_lam5) .nil)
def m_lam6 : X := (.call 12 (.cons (.tup (.cons (.cn (.int 2)) (.cons (.cn (.int 1)) .nil))) (.cons (.o2 .ix (.var 0) (.cn (.int 0))) (.cons (.cn (.int 0)) .nil))))
def c_lam6 : S := (.seq (.ret m_lam6) .nil)
def m_lam7 : X := (.meth 0 (.new 0 (.cons (.lst (.cons (.lst (.cons (.cn (.int 1)) (.cons (.cn (.int 0)) .nil))) .nil)) .nil)) (.cons (.o2 .ix (.var 0) (.cn (.int 0))) (.cons (.cn (.int 0)) (.cons (.o2 .ix (.var 0) (.cn (.int 1))) .nil))))
def c_lam7 : S := (.seq (.ret m_lam7) .nil)
def m_lam8 : X := (.meth 0 (.new 1 (.cons (.lst (.cons (.lst .nil) .nil)) .nil)) (.cons (.o2 .ix (.var 0) (.cn (.int 0))) (.cons (.cn (.int 0)) (.cons (.o2 .ix (.var 0) (.cn (.int 1))) .nil))))
def c_lam8 : S := (.seq (.ret m_lam8) .nil)
def m_lam9 : X := (.meth 0 (.new 2 (.cons (.cn (.int 0)) (.cons (.lst (.cons (.cn (.int 1)) (.cons (.cn (.int 1)) .nil))) (.cons (.cn (.int 1)) (.cons (.lst (.cons (.cn (.int 1)) (.cons (.cn (.int 0)) .nil))) .nil))))) (.cons (.o2 .ix (.var 0) (.cn (.int 0))) (.cons (.cn (.int 0)) (.cons (.cn (.int 1)) .nil))))
def c_lam9 : S := (.seq (.ret m_lam9) .nil)
def kdd (c : Nat) : List Bool := if [0, 1, 2, 3, 4, 5, 6, 7].contains c = true then (List.range 12).map (fun i => c == i) ++ [true] else []
structure Pm where
  md : RV → Int → Option RV
  dv : RV → Int → Option RV
  sem : Nat → List RV → Hs → Ot
def gtOf (pm : Pm) (run : Nat → List RV → Hs → Ot) : Gt := ⟨kss, run, mss, nws, sbs, fns, kdd, fun j => decide (10 ≤ j), pm.md, pm.dv⟩
def run (pm : Pm) : Nat → Nat → List RV → Hs → Ot
  | 0, _ => fun _ _ => .no
  | n + 1, k => match k with
    | 0 => fnRun (gtOf pm (run pm n)) 1 1 c_is_whole
    | 1 => fnRun (gtOf pm (run pm n)) 3 3 c_is_count
    | 2 => fnRun (gtOf pm (run pm n)) 1 1 c_is_word
    | 3 => fnRun (gtOf pm (run pm n)) 1 3 c_check_notes
    | 4 => fnRun (gtOf pm (run pm n)) 2 2 c_check_hand
    | 5 => fnRun (gtOf pm (run pm n)) 2 7 c_score_of
    | 6 => fnRun (gtOf pm (run pm n)) 2 4 c_is_heard
    | 7 => fnRun (gtOf pm (run pm n)) 3 9 c_all_heard
    | 8 => fnRun (gtOf pm (run pm n)) 2 4 c_is_no_less
    | 9 => fnRun (gtOf pm (run pm n)) 2 7 c_gone_over
    | 10 => fnRun (gtOf pm (run pm n)) 2 3 c_check_game
    | 11 => fnRun (gtOf pm (run pm n)) 2 2 c_games
    | 12 => fnRun (gtOf pm (run pm n)) 3 3 c_game_point
    | 13 => fnRun (gtOf pm (run pm n)) 2 3 c_History_init
    | 14 => fnRun (gtOf pm (run pm n)) 4 11 c_History_shows
    | 15 => fnRun (gtOf pm (run pm n)) 2 4 c_Never_init
    | 16 => fnRun (gtOf pm (run pm n)) 4 12 c_Never_shows
    | 17 => fnRun (gtOf pm (run pm n)) 5 5 c_Leads_init
    | 18 => fnRun (gtOf pm (run pm n)) 4 8 c_Leads_shows
    | 19 => fnRun (gtOf pm (run pm n)) 2 3 c_score
    | 20 => fnRun (gtOf pm (run pm n)) 2 2 c_is_showing
    | 21 => fnRun (gtOf pm (run pm n)) 3 10 c_lists_of
    | 22 => fnRun (gtOf pm (run pm n)) 1 4 c_history_of
    | 23 => fnRun (gtOf pm (run pm n)) 3 6 c_judged
    | 24 => fnRun (gtOf pm (run pm n)) 3 9 c_leads
    | 25 => pm.sem 25
    | 26 => fnRun (gtOf pm (run pm n)) 1 2 c__law_copy
    | 27 => fnRun (gtOf pm (run pm n)) 2 4 c__law_into
    | 28 => fnRun (gtOf pm (run pm n)) 1 2 c__law_spoil
    | 29 => fnRun (gtOf pm (run pm n)) 3 9 c__law_door_right
    | 30 => fnRun (gtOf pm (run pm n)) 1 1 c__law_fields
    | 31 => fnRun (gtOf pm (run pm n)) 0 1 c__law_rows_one
    | 33 => fnRun (gtOf pm (run pm n)) 1 1 c_lam0
    | 34 => fnRun (gtOf pm (run pm n)) 1 1 c_lam1
    | 35 => fnRun (gtOf pm (run pm n)) 1 1 c_lam2
    | 36 => fnRun (gtOf pm (run pm n)) 1 1 c_lam3
    | 37 => fnRun (gtOf pm (run pm n)) 1 1 c_lam4
    | 38 => fnRun (gtOf pm (run pm n)) 1 1 c_lam5
    | 39 => fnRun (gtOf pm (run pm n)) 1 1 c_lam6
    | 40 => fnRun (gtOf pm (run pm n)) 1 1 c_lam7
    | 41 => fnRun (gtOf pm (run pm n)) 1 1 c_lam8
    | 42 => fnRun (gtOf pm (run pm n)) 1 1 c_lam9
    | _ => fun _ _ => .no
def c__law_cell_at : G.S := (.seq (.ite (.cmp .lt (.var 1) (.len (.var 0))) (.seq (.ret (.ix (.var 0) (.var 1))) .nil) .nil) (.seq (.ret (.int 0)) .nil))
def ga__law_cell_at : G.Ga := ⟨[], [], [], [], [], []⟩
def fd__law_cell_at : G.Fd := G.mkFd ga__law_cell_at 2 2 false c__law_cell_at
theorem ar__law_cell_at : fd__law_cell_at.ar = 2 := rfl
theorem fr__law_cell_at : fd__law_cell_at.fr = false := rfl
end K11

namespace K11
open PySem PyProof.Rows L2 R
/-! by mkrs.py -/
def dc_is_whole (Γ : Gt) : FSx := (s_seq (s_ret (x_and (x_o1 (f1_isI .int) (x_var 0)) (x_o1 f1_not (x_o1 (f1_isI .bool) (x_var 0))))) s_nil)
theorem dc_is_whole_eq (Γ : Gt) : dc_is_whole Γ = exec Γ c_is_whole := by kernel_rfl!
def dc_is_count (Γ : Gt) : FSx := (s_seq (s_ret (x_and (x_call Γ 0 (a_cons (x_var 0) a_nil)) (x_chn Γ .le .le (x_var 1) (x_var 0) (x_var 2)))) s_nil)
theorem dc_is_count_eq (Γ : Gt) : dc_is_count Γ = exec Γ c_is_count := by kernel_rfl!
def dc_is_word (Γ : Gt) : FSx := (s_seq (s_ite (x_or (x_o1 f1_not (x_o1 (f1_isI .tuple) (x_var 0))) (x_or (x_o2 (f2_ne Γ) (x_o1 f1_len (x_var 0)) (x_cn (.int 2))) (x_o1 f1_not (x_o1 (f1_isI .str) (x_o2 f2_ix (x_var 0) (x_cn (.int 0))))))) (s_seq (s_ret (x_cn (.bl false))) s_nil) s_nil) (s_seq (s_ret (x_and (x_o2 f2_inT (x_o2 f2_ix (x_var 0) (x_cn (.int 0))) (x_kon Γ 0)) (x_call Γ 1 (a_cons (x_o2 f2_ix (x_var 0) (x_cn (.int 1))) (a_cons (x_cn (.int 0)) (a_cons (x_cn (.int 1)) a_nil)))))) s_nil))
theorem dc_is_word_eq (Γ : Gt) : dc_is_word Γ = exec Γ c_is_word := by kernel_rfl!
def dm_check_notes_1 (Γ : Gt) : FEx := (x_lc (.nm 2) (i_itL (x_var 1)) (x_call Γ 2 (a_cons (x_var 2) a_nil)))
def dl_check_notes_1 (Γ : Gt) : FSx := (s_seq (s_ite (x_or (x_o1 f1_not (x_o1 (f1_isI .list) (x_var 1))) (x_or (x_o2 (f2_cmp Γ .gt) (x_o1 f1_len (x_var 1)) (x_cn (.int 6))) (x_o1 f1_not (x_o1 f1_all (dm_check_notes_1 Γ))))) (s_seq (s_rz 0) s_nil) s_nil) s_nil)
def dc_check_notes (Γ : Gt) : FSx := (s_seq (s_ite (x_or (x_o1 f1_not (x_o1 (f1_isI .list) (x_var 0))) (x_o1 f1_not (x_chn Γ .le .le (x_cn (.int 1)) (x_o1 f1_len (x_var 0)) (x_cn (.int 3))))) (s_seq (s_rz 0) s_nil) s_nil) (s_seq (s_loop (.nm 1) (i_itL (x_var 0)) (dl_check_notes_1 Γ)) s_nil))
theorem dc_check_notes_eq (Γ : Gt) : dc_check_notes Γ = exec Γ c_check_notes := by kernel_rfl!
def dc_check_hand (Γ : Gt) : FSx := (s_seq (s_ite (x_o1 f1_not (x_call Γ 1 (a_cons (x_var 1) (a_cons (x_cn (.int 0)) (a_cons (x_o2 (f2_bin Γ .sub) (x_var 0) (x_cn (.int 1))) a_nil))))) (s_seq (s_rz 1) s_nil) s_nil) s_nil)
theorem dc_check_hand_eq (Γ : Gt) : dc_check_hand Γ = exec Γ c_check_hand := by kernel_rfl!
def dl_score_of_1 (Γ : Gt) : FSx := (s_seq (s_aix (x_var 2) (x_var 6) (x_ite (x_o2 (f2_eq Γ) (x_var 5) (x_cn (.str "point"))) (x_cn (.int 1)) (x_o1 f1_neg (x_cn (.int 1))))) s_nil)
def dl_score_of_2 (Γ : Gt) : FSx := (s_seq (s_loop (.t2 (.nm 5) (.nm 6)) (i_itL (x_sl (x_var 3) o_nil (o_cons (x_var 4)))) (dl_score_of_1 Γ)) s_nil)
def dc_score_of (Γ : Gt) : FSx := (s_seq (s_asg (.nm 2) (x_lst (a_cons (x_cn (.int 0)) (a_cons (x_cn (.int 0)) a_nil)))) (s_seq (s_loop (.t2 (.nm 3) (.nm 4)) (i_itZ (x_var 0) (x_var 1)) (dl_score_of_2 Γ)) (s_seq (s_ret (x_tup (a_cons (x_o2 f2_ix (x_var 2) (x_cn (.int 0))) (a_cons (x_o2 f2_ix (x_var 2) (x_cn (.int 1))) a_nil)))) s_nil)))
theorem dc_score_of_eq (Γ : Gt) : dc_score_of Γ = exec Γ c_score_of := by kernel_rfl!
def dm_is_heard_1 (Γ : Gt) : FEx := (x_lc (.t2 (.nm 2) (.nm 3)) (i_itZ (x_var 0) (x_var 1)) (x_chn Γ .le .le (x_cn (.int 0)) (x_var 3) (x_o1 f1_len (x_var 2))))
def dc_is_heard (Γ : Gt) : FSx := (s_seq (s_ite (x_o2 (f2_ne Γ) (x_o1 f1_len (x_var 1)) (x_o1 f1_len (x_var 0))) (s_seq (s_ret (x_cn (.bl false))) s_nil) s_nil) (s_seq (s_ret (x_o1 f1_all (dm_is_heard_1 Γ))) s_nil))
theorem dc_is_heard_eq (Γ : Gt) : dc_is_heard Γ = exec Γ c_is_heard := by kernel_rfl!
def dm_all_heard_1 (Γ : Gt) : FEx := (x_lcf (.nm 8) (i_itR (x_o2 (f2_bin Γ .add) (x_o1 f1_len (x_var 5)) (x_cn (.int 1)))) (x_or (x_o2 (f2_ne Γ) (x_var 4) (x_var 1)) (x_o2 (f2_eq Γ) (x_var 8) (x_var 2))) (x_o2 f2_cat (x_var 7) (x_lst (a_cons (x_var 8) a_nil))))
def dl_all_heard_1 (Γ : Gt) : FSx := (s_seq (s_exp (x_o2p f2_extd (x_var 6) (dm_all_heard_1 Γ))) s_nil)
def dl_all_heard_2 (Γ : Gt) : FSx := (s_seq (s_asg (.nm 6) (x_lst a_nil)) (s_seq (s_loop (.nm 7) (i_itL (x_var 3)) (dl_all_heard_1 Γ)) (s_seq (s_asg (.nm 3) (x_var 6)) s_nil)))
def dc_all_heard (Γ : Gt) : FSx := (s_seq (s_asg (.nm 3) (x_lst (a_cons (x_lst a_nil) a_nil))) (s_seq (s_loop (.t2 (.nm 4) (.nm 5)) (i_itE (x_var 0)) (dl_all_heard_2 Γ)) (s_seq (s_ret (x_var 3)) s_nil)))
theorem dc_all_heard_eq (Γ : Gt) : dc_all_heard Γ = exec Γ c_all_heard := by kernel_rfl!
def dm_is_no_less_1 (Γ : Gt) : FEx := (x_lc (.t2 (.nm 2) (.nm 3)) (i_itZ (x_var 0) (x_var 1)) (x_o2 (f2_cmp Γ .ge) (x_var 2) (x_var 3)))
def dc_is_no_less (Γ : Gt) : FSx := (s_seq (s_ret (x_o1 f1_all (dm_is_no_less_1 Γ))) s_nil)
theorem dc_is_no_less_eq (Γ : Gt) : dc_is_no_less Γ = exec Γ c_is_no_less := by kernel_rfl!
def dl_gone_over_1 (Γ : Gt) : FSx := (s_seq (s_aix (x_var 6) (x_var 2) (x_cn (.int 1))) (s_seq (s_ite (x_and (x_o2 (f2_cmp Γ .ge) (x_o2 f2_ix (x_var 6) (x_var 2)) (x_var 3)) (x_o2 (f2_cmp Γ .ge) (x_o2 (f2_bin Γ .sub) (x_o2 f2_ix (x_var 6) (x_var 2)) (x_o2 f2_ix (x_var 6) (x_o2 (f2_bin Γ .sub) (x_cn (.int 1)) (x_var 2)))) (x_var 4))) (s_seq (s_exp (x_o2p f2_app (x_var 5) (x_var 2))) (s_seq (s_asg (.nm 6) (x_lst (a_cons (x_cn (.int 0)) (a_cons (x_cn (.int 0)) a_nil)))) s_nil)) s_nil) s_nil))
def dc_gone_over (Γ : Gt) : FSx := (s_seq (s_asg (.t2 (.nm 3) (.nm 4)) (x_var 0)) (s_seq (s_par 5 6 (x_lst a_nil) (x_lst (a_cons (x_cn (.int 0)) (a_cons (x_cn (.int 0)) a_nil)))) (s_seq (s_loop (.nm 2) (i_itL (x_var 1)) (dl_gone_over_1 Γ)) (s_seq (s_ret (x_tup (a_cons (x_var 5) (a_cons (x_tup (a_cons (x_o2 f2_ix (x_var 6) (x_cn (.int 0))) (a_cons (x_o2 f2_ix (x_var 6) (x_cn (.int 1))) a_nil))) a_nil)))) s_nil))))
theorem dc_gone_over_eq (Γ : Gt) : dc_gone_over Γ = exec Γ c_gone_over := by kernel_rfl!
def dm_check_game_1 (Γ : Gt) : FEx := (x_lc (.nm 2) (i_itL (x_var 1)) (x_call Γ 1 (a_cons (x_var 2) (a_cons (x_cn (.int 0)) (a_cons (x_cn (.int 1)) a_nil)))))
def dc_check_game (Γ : Gt) : FSx := (s_seq (s_ite (x_or (x_o1 f1_not (x_o1 (f1_isI .tuple) (x_var 0))) (x_or (x_o2 (f2_ne Γ) (x_o1 f1_len (x_var 0)) (x_cn (.int 2))) (x_o1 f1_not (x_call Γ 1 (a_cons (x_o2 f2_ix (x_var 0) (x_cn (.int 0))) (a_cons (x_cn (.int 1)) (a_cons (x_cn (.int 5)) a_nil))))))) (s_seq (s_rz 5) s_nil) s_nil) (s_seq (s_ite (x_o1 f1_not (x_call Γ 1 (a_cons (x_o2 f2_ix (x_var 0) (x_cn (.int 1))) (a_cons (x_cn (.int 1)) (a_cons (x_cn (.int 2)) a_nil))))) (s_seq (s_rz 5) s_nil) s_nil) (s_seq (s_ite (x_or (x_o1 f1_not (x_o1 (f1_isI .list) (x_var 1))) (x_or (x_o2 (f2_cmp Γ .gt) (x_o1 f1_len (x_var 1)) (x_cn (.int 60))) (x_o1 f1_not (x_o1 f1_all (dm_check_game_1 Γ))))) (s_seq (s_rz 6) s_nil) s_nil) s_nil)))
theorem dc_check_game_eq (Γ : Gt) : dc_check_game Γ = exec Γ c_check_game := by kernel_rfl!
def dc_games (Γ : Gt) : FSx := (s_seq (s_expX (c_call Γ 10 (a_cons (x_var 0) (a_cons (x_var 1) a_nil)))) (s_seq (s_ret (x_call Γ 9 (a_cons (x_var 0) (a_cons (x_var 1) a_nil)))) s_nil))
theorem dc_games_eq (Γ : Gt) : dc_games Γ = exec Γ c_games := by kernel_rfl!
def dc_game_point (Γ : Gt) : FSx := (s_seq (s_expX (c_call Γ 10 (a_cons (x_var 0) (a_cons (x_var 1) a_nil)))) (s_seq (s_ite (x_o1 f1_not (x_call Γ 1 (a_cons (x_var 2) (a_cons (x_cn (.int 0)) (a_cons (x_cn (.int 1)) a_nil))))) (s_seq (s_rz 7) s_nil) s_nil) (s_seq (s_ret (x_o2 (f2_cmp Γ .gt) (x_o1 f1_len (x_o2 f2_ix (x_call Γ 9 (a_cons (x_var 0) (a_cons (x_o2 f2_cat (x_var 1) (x_lst (a_cons (x_var 2) a_nil))) a_nil))) (x_cn (.int 0)))) (x_o1 f1_len (x_o2 f2_ix (x_call Γ 9 (a_cons (x_var 0) (a_cons (x_var 1) a_nil))) (x_cn (.int 0)))))) s_nil)))
theorem dc_game_point_eq (Γ : Gt) : dc_game_point Γ = exec Γ c_game_point := by kernel_rfl!
def dm_History_init_1 (Γ : Gt) : FEx := (x_lc (.nm 2) (i_itL (x_var 1)) (x_o1 f1_toL (x_var 2)))
def dc_History_init (Γ : Gt) : FSx := (s_seq (s_fst Γ "heard" (x_var 0) (dm_History_init_1 Γ)) s_nil)
theorem dc_History_init_eq (Γ : Gt) : dc_History_init Γ = exec Γ c_History_init := by kernel_rfl!
def dm_History_shows_1 (Γ : Gt) : FEx := (x_lc (.nm 5) (i_itL (x_var 4)) (x_call Γ 6 (a_cons (x_var 1) (a_cons (x_var 5) a_nil))))
def dm_History_shows_2 (Γ : Gt) : FEx := (x_lc (.t2 (.nm 9) (.nm 10)) (i_itZ (x_var 4) (x_sl (x_var 4) (o_cons (x_cn (.int 1))) o_nil)) (x_call Γ 8 (a_cons (x_var 10) (a_cons (x_var 9) a_nil))))
def dl_History_shows_1 (Γ : Gt) : FSx := (s_seq (s_ite (x_or (x_o2 (f2_ne Γ) (x_o2 f2_ix (x_var 5) (x_var 2)) (x_var 6)) (x_o2 (f2_ne Γ) (x_call Γ 5 (a_cons (x_var 1) (a_cons (x_var 5) a_nil))) (x_tup (a_cons (x_var 7) (a_cons (x_var 8) a_nil))))) (s_seq (s_ret (x_cn (.bl false))) s_nil) s_nil) s_nil)
def dc_History_shows (Γ : Gt) : FSx := (s_seq (s_asg (.nm 4) (x_o1 (f1_fld Γ "heard") (x_var 0))) (s_seq (s_ite (x_or (x_o2 (f2_ne Γ) (x_o1 f1_len (x_var 4)) (x_o1 f1_len (x_var 3))) (x_o1 f1_not (x_o1 f1_all (dm_History_shows_1 Γ)))) (s_seq (s_ret (x_cn (.bl false))) s_nil) s_nil) (s_seq (s_loop (.t2 (.nm 5) (.t3 (.nm 6) (.nm 7) (.nm 8))) (i_itZ (x_var 4) (x_var 3)) (dl_History_shows_1 Γ)) (s_seq (s_ret (x_o1 f1_all (dm_History_shows_2 Γ))) s_nil))))
theorem dc_History_shows_eq (Γ : Gt) : dc_History_shows Γ = exec Γ c_History_shows := by kernel_rfl!
def dm_Never_init_1 (Γ : Gt) : FEx := (x_lc (.nm 3) (i_itL (x_var 2)) (x_o1 f1_toL (x_var 3)))
def dm_Never_init_2 (Γ : Gt) : FEx := (x_lc (.nm 2) (i_itL (x_var 1)) (dm_Never_init_1 Γ))
def dc_Never_init (Γ : Gt) : FSx := (s_seq (s_fst Γ "lists" (x_var 0) (dm_Never_init_2 Γ)) s_nil)
theorem dc_Never_init_eq (Γ : Gt) : dc_Never_init Γ = exec Γ c_Never_init := by kernel_rfl!
def dm_Never_shows_1 (Γ : Gt) : FEx := (x_lc (.nm 6) (i_itL (x_o2 f2_ix (x_var 4) (x_var 5))) (x_call Γ 6 (a_cons (x_var 1) (a_cons (x_var 6) a_nil))))
def dm_Never_shows_2 (Γ : Gt) : FEx := (x_lc (.nm 6) (i_itL (x_o2 f2_ix (x_var 4) (x_var 5))) (x_o1 f1_tupL (x_var 6)))
def dm_Never_shows_3 (Γ : Gt) : FEx := (x_lc (.nm 11) (i_itL (x_o2 f2_ix (x_var 4) (x_o2 (f2_bin Γ .sub) (x_var 5) (x_cn (.int 1))))) (x_call Γ 8 (a_cons (x_var 6) (a_cons (x_var 11) a_nil))))
def dl_Never_shows_1 (Γ : Gt) : FSx := (s_seq (s_asg (.nm 10) (x_or (x_o2 (f2_eq Γ) (x_var 5) (x_cn (.int 0))) (x_o1 f1_any (dm_Never_shows_3 Γ)))) (s_seq (s_ite (x_and (x_var 10) (x_and (x_o2 (f2_eq Γ) (x_call Γ 5 (a_cons (x_var 1) (a_cons (x_var 6) a_nil))) (x_tup (a_cons (x_var 8) (a_cons (x_var 9) a_nil)))) (x_o2 (f2_nin Γ) (x_var 6) (x_o2 f2_ix (x_var 4) (x_var 5))))) (s_seq (s_ret (x_cn (.bl false))) s_nil) s_nil) s_nil))
def dl_Never_shows_2 (Γ : Gt) : FSx := (s_seq (s_ite (x_o1 f1_not (x_o1 f1_all (dm_Never_shows_1 Γ))) (s_seq (s_ret (x_cn (.bl false))) s_nil) s_nil) (s_seq (s_ite (x_o2 (f2_cmp Γ .lt) (x_o1 f1_lenSet (dm_Never_shows_2 Γ)) (x_o1 f1_len (x_o2 f2_ix (x_var 4) (x_var 5)))) (s_seq (s_ret (x_cn (.bl false))) s_nil) s_nil) (s_seq (s_loop (.nm 6) (i_itL (x_call Γ 7 (a_cons (x_var 1) (a_cons (x_var 2) (a_cons (x_var 7) a_nil))))) (dl_Never_shows_1 Γ)) s_nil)))
def dc_Never_shows (Γ : Gt) : FSx := (s_seq (s_asg (.nm 4) (x_o1 (f1_fld Γ "lists") (x_var 0))) (s_seq (s_ite (x_or (x_o2 (f2_ne Γ) (x_o1 f1_len (x_var 4)) (x_o1 f1_len (x_var 3))) (x_or (x_o2 (f2_eq Γ) (x_var 4) (x_lst a_nil)) (x_o2 (f2_ne Γ) (x_o2 f2_ix (x_var 4) (x_o1 f1_neg (x_cn (.int 1)))) (x_lst a_nil)))) (s_seq (s_ret (x_cn (.bl false))) s_nil) s_nil) (s_seq (s_loop (.t2 (.nm 5) (.t3 (.nm 7) (.nm 8) (.nm 9))) (i_itE (x_var 3)) (dl_Never_shows_2 Γ)) (s_seq (s_ret (x_cn (.bl true))) s_nil))))
theorem dc_Never_shows_eq (Γ : Gt) : dc_Never_shows Γ = exec Γ c_Never_shows := by kernel_rfl!
def dc_Leads_init (Γ : Gt) : FSx := (s_seq (s_fst Γ "least" (x_var 0) (x_var 1)) (s_seq (s_fst Γ "low" (x_var 0) (x_o1 f1_toL (x_var 2))) (s_seq (s_fst Γ "most" (x_var 0) (x_var 3)) (s_seq (s_fst Γ "high" (x_var 0) (x_o1 f1_toL (x_var 4))) s_nil))))
theorem dc_Leads_init_eq (Γ : Gt) : dc_Leads_init Γ = exec Γ c_Leads_init := by kernel_rfl!
def dl_Leads_shows_1 (Γ : Gt) : FSx := (s_seq (s_ite (x_or (x_o1 f1_not (x_call Γ 6 (a_cons (x_var 1) (a_cons (x_var 4) a_nil)))) (x_o2 (f2_ne Γ) (x_o2 f2_ix (x_var 4) (x_var 2)) (x_var 3))) (s_seq (s_ret (x_cn (.bl false))) s_nil) s_nil) (s_seq (s_asg (.t2 (.nm 6) (.nm 7)) (x_call Γ 5 (a_cons (x_var 1) (a_cons (x_var 4) a_nil)))) (s_seq (s_ite (x_o2 (f2_ne Γ) (x_o2 (f2_bin Γ .sub) (x_var 6) (x_var 7)) (x_var 5)) (s_seq (s_ret (x_cn (.bl false))) s_nil) s_nil) s_nil)))
def dl_Leads_shows_2 (Γ : Gt) : FSx := (s_seq (s_asg (.t2 (.nm 6) (.nm 7)) (x_call Γ 5 (a_cons (x_var 1) (a_cons (x_var 4) a_nil)))) (s_seq (s_ite (x_o1 f1_not (x_chn Γ .le .le (x_o1 (f1_fld Γ "least") (x_var 0)) (x_o2 (f2_bin Γ .sub) (x_var 6) (x_var 7)) (x_o1 (f1_fld Γ "most") (x_var 0)))) (s_seq (s_ret (x_cn (.bl false))) s_nil) s_nil) s_nil))
def dc_Leads_shows (Γ : Gt) : FSx := (s_seq (s_loop (.t2 (.nm 4) (.nm 5)) (i_itT (x_tup (a_cons (x_tup (a_cons (x_o1 (f1_fld Γ "low") (x_var 0)) (a_cons (x_o1 (f1_fld Γ "least") (x_var 0)) a_nil))) (a_cons (x_tup (a_cons (x_o1 (f1_fld Γ "high") (x_var 0)) (a_cons (x_o1 (f1_fld Γ "most") (x_var 0)) a_nil))) a_nil)))) (dl_Leads_shows_1 Γ)) (s_seq (s_loop (.nm 4) (i_itL (x_call Γ 7 (a_cons (x_var 1) (a_cons (x_var 2) (a_cons (x_var 3) a_nil))))) (dl_Leads_shows_2 Γ)) (s_seq (s_ret (x_cn (.bl true))) s_nil)))
theorem dc_Leads_shows_eq (Γ : Gt) : dc_Leads_shows Γ = exec Γ c_Leads_shows := by kernel_rfl!
def dm_score_1 (Γ : Gt) : FEx := (x_lc (.nm 2) (i_itL (x_var 1)) (x_call Γ 0 (a_cons (x_var 2) a_nil)))
def dc_score (Γ : Gt) : FSx := (s_seq (s_expX (c_call Γ 3 (a_cons (x_var 0) a_nil))) (s_seq (s_ite (x_or (x_o1 f1_not (x_o1 (f1_isI .list) (x_var 1))) (x_or (x_o1 f1_not (x_o1 f1_all (dm_score_1 Γ))) (x_o1 f1_not (x_call Γ 6 (a_cons (x_var 0) (a_cons (x_var 1) a_nil)))))) (s_seq (s_rz 2) s_nil) s_nil) (s_seq (s_ret (x_call Γ 5 (a_cons (x_var 0) (a_cons (x_var 1) a_nil)))) s_nil)))
theorem dc_score_eq (Γ : Gt) : dc_score Γ = exec Γ c_score := by kernel_rfl!
def dc_is_showing (Γ : Gt) : FSx := (s_seq (s_ite (x_or (x_o1 f1_not (x_o1 (f1_isI .tuple) (x_var 0))) (x_or (x_o2 (f2_ne Γ) (x_o1 f1_len (x_var 0)) (x_cn (.int 3))) (x_o1 f1_not (x_call Γ 1 (a_cons (x_o2 f2_ix (x_var 0) (x_cn (.int 0))) (a_cons (x_cn (.int 0)) (a_cons (x_var 1) a_nil))))))) (s_seq (s_ret (x_cn (.bl false))) s_nil) s_nil) (s_seq (s_ret (x_and (x_call Γ 0 (a_cons (x_o2 f2_ix (x_var 0) (x_cn (.int 1))) a_nil)) (x_call Γ 0 (a_cons (x_o2 f2_ix (x_var 0) (x_cn (.int 2))) a_nil)))) s_nil))
theorem dc_is_showing_eq (Γ : Gt) : dc_is_showing Γ = exec Γ c_is_showing := by kernel_rfl!
def dm_lists_of_1 (Γ : Gt) : FEx := (x_lcf (.nm 8) (i_itL (x_call Γ 7 (a_cons (x_var 0) (a_cons (x_var 1) (a_cons (x_var 4) a_nil))))) (x_o2 (f2_eq Γ) (x_call Γ 5 (a_cons (x_var 0) (a_cons (x_var 8) a_nil))) (x_tup (a_cons (x_var 5) (a_cons (x_var 6) a_nil)))) (x_var 8))
def dm_lists_of_2 (Γ : Gt) : FEx := (x_lc (.nm 9) (i_itL (x_o2 f2_ix (x_var 3) (x_o1 f1_neg (x_cn (.int 1))))) (x_call Γ 8 (a_cons (x_var 8) (a_cons (x_var 9) a_nil))))
def dm_lists_of_3 (Γ : Gt) : FEx := (x_lcf (.nm 8) (i_itL (x_var 7)) (x_o1 f1_any (dm_lists_of_2 Γ)) (x_var 8))
def dl_lists_of_1 (Γ : Gt) : FSx := (s_seq (s_asg (.nm 7) (dm_lists_of_1 Γ)) (s_seq (s_ite (x_o2 (f2_ne Γ) (x_var 3) (x_lst a_nil)) (s_seq (s_asg (.nm 7) (dm_lists_of_3 Γ)) s_nil) s_nil) (s_seq (s_exp (x_o2p f2_app (x_var 3) (x_var 7))) s_nil)))
def dc_lists_of (Γ : Gt) : FSx := (s_seq (s_asg (.nm 3) (x_lst a_nil)) (s_seq (s_loop (.t3 (.nm 4) (.nm 5) (.nm 6)) (i_itL (x_var 2)) (dl_lists_of_1 Γ)) (s_seq (s_ret (x_var 3)) s_nil)))
theorem dc_lists_of_eq (Γ : Gt) : dc_lists_of Γ = exec Γ c_lists_of := by kernel_rfl!
def dm_history_of_1 (Γ : Gt) : FEx := (x_lcf (.nm 3) (i_itL (x_var 2)) (x_call Γ 8 (a_cons (x_o2 f2_ix (x_var 1) (x_o1 f1_neg (x_cn (.int 1)))) (a_cons (x_var 3) a_nil))) (x_var 3))
def dl_history_of_1 (Γ : Gt) : FSx := (s_seq (s_exp (x_o2p f2_app (x_var 1) (x_o2 f2_ix (dm_history_of_1 Γ) (x_cn (.int 0))))) s_nil)
def dc_history_of (Γ : Gt) : FSx := (s_seq (s_asg (.nm 1) (x_ite (x_o2 (f2_ne Γ) (x_var 0) (x_lst a_nil)) (x_lst (a_cons (x_o2 f2_ix (x_o2 f2_ix (x_var 0) (x_o1 f1_neg (x_cn (.int 1)))) (x_cn (.int 0))) a_nil)) (x_lst a_nil))) (s_seq (s_loop (.nm 2) (i_itL (x_sl (x_o1 f1_rev (x_var 0)) (o_cons (x_cn (.int 1))) o_nil)) (dl_history_of_1 Γ)) (s_seq (s_ret (x_o1 f1_rev (x_var 1))) s_nil)))
theorem dc_history_of_eq (Γ : Gt) : dc_history_of Γ = exec Γ c_history_of := by kernel_rfl!
def dm_judged_1 (Γ : Gt) : FEx := (x_lc (.nm 4) (i_itL (x_var 2)) (x_call Γ 20 (a_cons (x_var 4) (a_cons (x_o1 f1_len (x_o2 f2_ix (x_var 0) (x_var 1))) a_nil))))
def dm_judged_2 (Γ : Gt) : FEx := (x_lc (.t2 (.nm 4) (.nm 5)) (i_itZ (x_var 2) (x_sl (x_var 2) (o_cons (x_cn (.int 1))) o_nil)) (x_o2 (f2_cmp Γ .gt) (x_o2 f2_ix (x_var 4) (x_cn (.int 0))) (x_o2 f2_ix (x_var 5) (x_cn (.int 0)))))
def dc_judged (Γ : Gt) : FSx := (s_seq (s_expX (c_call Γ 3 (a_cons (x_var 0) a_nil))) (s_seq (s_expX (c_call Γ 4 (a_cons (x_o1 f1_len (x_var 0)) (a_cons (x_var 1) a_nil)))) (s_seq (s_ite (x_or (x_o1 f1_not (x_o1 (f1_isI .list) (x_var 2))) (x_o2 (f2_cmp Γ .gt) (x_o1 f1_len (x_var 2)) (x_cn (.int 5)))) (s_seq (s_rz 3) s_nil) s_nil) (s_seq (s_ite (x_o1 f1_not (x_o1 f1_all (dm_judged_1 Γ))) (s_seq (s_rz 3) s_nil) s_nil) (s_seq (s_ite (x_o1 f1_any (dm_judged_2 Γ)) (s_seq (s_rz 3) s_nil) s_nil) (s_seq (s_asg (.nm 3) (x_call Γ 21 (a_cons (x_var 0) (a_cons (x_var 1) (a_cons (x_var 2) a_nil))))) (s_seq (s_ret (x_ite (x_and (x_o2 (f2_ne Γ) (x_var 3) (x_lst a_nil)) (x_o2 (f2_eq Γ) (x_o2 f2_ix (x_var 3) (x_o1 f1_neg (x_cn (.int 1)))) (x_lst a_nil))) (x_new Γ 1 (a_cons (x_var 3) a_nil)) (x_new Γ 0 (a_cons (x_call Γ 22 (a_cons (x_var 3) a_nil)) a_nil)))) s_nil)))))))
theorem dc_judged_eq (Γ : Gt) : dc_judged Γ = exec Γ c_judged := by kernel_rfl!
def dl_leads_1 (Γ : Gt) : FSx := (s_seq (s_asg (.t2 (.nm 7) (.nm 8)) (x_call Γ 5 (a_cons (x_var 0) (a_cons (x_var 4) a_nil)))) (s_seq (s_exp (x_o2p f2_app (x_var 3) (x_tup (a_cons (x_o2 (f2_bin Γ .sub) (x_var 7) (x_var 8)) (a_cons (x_var 4) a_nil))))) s_nil))
def dc_leads (Γ : Gt) : FSx := (s_seq (s_expX (c_call Γ 3 (a_cons (x_var 0) a_nil))) (s_seq (s_expX (c_call Γ 4 (a_cons (x_o1 f1_len (x_var 0)) (a_cons (x_var 1) a_nil)))) (s_seq (s_ite (x_o1 f1_not (x_call Γ 1 (a_cons (x_var 2) (a_cons (x_cn (.int 0)) (a_cons (x_o1 f1_len (x_o2 f2_ix (x_var 0) (x_var 1))) a_nil))))) (s_seq (s_rz 4) s_nil) s_nil) (s_seq (s_asg (.nm 3) (x_lst a_nil)) (s_seq (s_loop (.nm 4) (i_itL (x_call Γ 7 (a_cons (x_var 0) (a_cons (x_var 1) (a_cons (x_var 2) a_nil))))) (dl_leads_1 Γ)) (s_seq (s_par 5 6 (x_o1 f1_minL (x_var 3)) (x_o1 f1_maxL (x_var 3))) (s_seq (s_ret (x_new Γ 2 (a_cons (x_o2 f2_ix (x_var 5) (x_cn (.int 0))) (a_cons (x_o2 f2_ix (x_var 5) (x_cn (.int 1))) (a_cons (x_o2 f2_ix (x_var 6) (x_cn (.int 0))) (a_cons (x_o2 f2_ix (x_var 6) (x_cn (.int 1))) a_nil)))))) s_nil)))))))
theorem dc_leads_eq (Γ : Gt) : dc_leads Γ = exec Γ c_leads := by kernel_rfl!
def dm__law_copy_1 (Γ : Gt) : FEx := (x_lc (.nm 1) (i_itL (x_var 0)) (x_call Γ 26 (a_cons (x_var 1) a_nil)))
def dm__law_copy_2 (Γ : Gt) : FEx := (x_lc (.nm 1) (i_itT (x_var 0)) (x_call Γ 26 (a_cons (x_var 1) a_nil)))
def dc__law_copy (Γ : Gt) : FSx := (s_seq (s_ite (x_o1 (f1_isI .list) (x_var 0)) (s_seq (s_ret (dm__law_copy_1 Γ)) s_nil) s_nil) (s_seq (s_ite (x_o1 (f1_isI .tuple) (x_var 0)) (s_seq (s_ret (x_o1 f1_tupL (dm__law_copy_2 Γ))) s_nil) s_nil) (s_seq (s_ret (x_var 0)) s_nil)))
theorem dc__law_copy_eq (Γ : Gt) : dc__law_copy Γ = exec Γ c__law_copy := by kernel_rfl!
def dl__law_into_1 (Γ : Gt) : FSx := (s_seq (s_ite (x_and (x_o1 (f1_isI .list) (x_var 3)) (x_o2 (f2_eq Γ) (x_o1 f1_len (x_o2 f2_ix (x_var 0) (x_var 2))) (x_o1 f1_len (x_var 3)))) (s_seq (s_exp (x_call Γ 27 (a_cons (x_o2 f2_ix (x_var 0) (x_var 2)) (a_cons (x_var 3) a_nil)))) s_nil) (s_seq (s_six (x_var 0) (x_var 2) (x_call Γ 26 (a_cons (x_var 3) a_nil))) s_nil)) s_nil)
def dc__law_into (Γ : Gt) : FSx := (s_seq (s_loop (.t2 (.nm 2) (.nm 3)) (i_itE (x_var 1)) (dl__law_into_1 Γ)) s_nil)
theorem dc__law_into_eq (Γ : Gt) : dc__law_into Γ = exec Γ c__law_into := by kernel_rfl!
def dl__law_spoil_1 (Γ : Gt) : FSx := (s_seq (s_exp (x_call Γ 28 (a_cons (x_var 1) a_nil))) s_nil)
def dc__law_spoil (Γ : Gt) : FSx := (s_seq (s_ite (x_or (x_o1 (f1_isI .list) (x_var 0)) (x_o1 (f1_isI .tuple) (x_var 0))) (s_seq (s_loop (.nm 1) (i_itL (x_o1 f1_toL (x_var 0))) (dl__law_spoil_1 Γ)) s_nil) s_nil) (s_seq (s_ite (x_o1 (f1_isI .list) (x_var 0)) (s_seq (s_exp (x_o2p f2_app (x_var 0) (x_cn .non))) s_nil) s_nil) s_nil))
theorem dc__law_spoil_eq (Γ : Gt) : dc__law_spoil Γ = exec Γ c__law_spoil := by kernel_rfl!
def dl__law_door_right_1 (Γ : Gt) : FSx := (s_seq (s_exp (x_o2p f2_app (x_var 5) (x_tup (a_cons (x_var 3) (a_cons (x_call Γ 26 (a_cons (x_lcall Γ 0 [(0, 33), (1, 34), (2, 35), (3, 36), (4, 37), (5, 38), (6, 39), (7, 40), (8, 41), (9, 42)] (a_cons (x_call Γ 26 (a_cons (x_var 3) a_nil)) a_nil)) a_nil)) a_nil))))) s_nil)
def dl__law_door_right_2 (Γ : Gt) : FSx := (s_seq (s_asg (.nm 8) (x_lcall Γ 0 [(0, 33), (1, 34), (2, 35), (3, 36), (4, 37), (5, 38), (6, 39), (7, 40), (8, 41), (9, 42)] (a_cons (x_var 4) a_nil))) (s_seq (s_ite (x_or (x_o2 (f2_ne Γ) (x_var 4) (x_var 3)) (x_o2 (f2_ne Γ) (x_var 8) (x_var 6))) (s_seq (s_ret (x_cn (.bl false))) s_nil) s_nil) (s_seq (s_exp (x_call Γ 28 (a_cons (x_var 8) a_nil))) s_nil)))
def dl__law_door_right_3 (Γ : Gt) : FSx := (s_seq (s_exp (x_call Γ 27 (a_cons (x_var 4) (a_cons (x_var 3) a_nil)))) (s_seq (s_loop (.nm 7) (i_itR (x_cn (.int 2))) (dl__law_door_right_2 Γ)) s_nil))
def dc__law_door_right (Γ : Gt) : FSx := (s_seq (s_par 4 5 (x_call Γ 26 (a_cons (x_var 1) a_nil)) (x_lst a_nil)) (s_seq (s_loop (.nm 3) (i_itT (x_tup (a_cons (x_var 1) (a_cons (x_var 2) a_nil)))) (dl__law_door_right_1 Γ)) (s_seq (s_loop (.t2 (.nm 3) (.nm 6)) (i_itL (x_o2 f2_cat (x_var 5) (x_var 5))) (dl__law_door_right_3 Γ)) (s_seq (s_ret (x_cn (.bl true))) s_nil))))
theorem dc__law_door_right_eq (Γ : Gt) : dc__law_door_right Γ = exec Γ c__law_door_right := by kernel_rfl!
def dc__law_fields (Γ : Gt) : FSx := (s_seq (s_ret (x_lst (a_cons (x_o1 (f1_fld Γ "least") (x_var 0)) (a_cons (x_o1 (f1_fld Γ "low") (x_var 0)) (a_cons (x_o1 (f1_fld Γ "most") (x_var 0)) (a_cons (x_o1 (f1_fld Γ "high") (x_var 0)) a_nil)))))) s_nil)
theorem dc__law_fields_eq (Γ : Gt) : dc__law_fields Γ = exec Γ c__law_fields := by kernel_rfl!
def dc__law_rows_one (Γ : Gt) : FSx := (s_seq (s_asg (.nm 0) (x_lst a_nil)) (s_seq (s_exp (x_o2p f2_app (x_var 0) (x_tup (a_cons (x_lamv 0) (a_cons (x_lst (a_cons (x_lst (a_cons (x_lst (a_cons (x_tup (a_cons (x_cn (.str "point")) (a_cons (x_cn (.int 0)) a_nil))) (a_cons (x_tup (a_cons (x_cn (.str "back")) (a_cons (x_cn (.int 1)) a_nil))) a_nil))) (a_cons (x_lst (a_cons (x_tup (a_cons (x_cn (.str "point")) (a_cons (x_cn (.int 1)) a_nil))) a_nil)) a_nil))) (a_cons (x_lst (a_cons (x_cn (.int 1)) (a_cons (x_cn (.int 1)) a_nil))) a_nil))) (a_cons (x_lst (a_cons (x_lst (a_cons (x_lst (a_cons (x_tup (a_cons (x_cn (.str "point")) (a_cons (x_cn (.int 1)) a_nil))) (a_cons (x_tup (a_cons (x_cn (.str "back")) (a_cons (x_cn (.int 1)) a_nil))) a_nil))) (a_cons (x_lst (a_cons (x_tup (a_cons (x_cn (.str "point")) (a_cons (x_cn (.int 1)) a_nil))) a_nil)) a_nil))) (a_cons (x_lst (a_cons (x_cn (.int 1)) (a_cons (x_cn (.int 1)) a_nil))) a_nil))) a_nil)))))) (s_seq (s_exp (x_o2p f2_app (x_var 0) (x_tup (a_cons (x_lamv 1) (a_cons (x_lst (a_cons (x_lst (a_cons (x_lst (a_cons (x_tup (a_cons (x_cn (.str "point")) (a_cons (x_cn (.int 0)) a_nil))) (a_cons (x_tup (a_cons (x_cn (.str "back")) (a_cons (x_cn (.int 1)) a_nil))) a_nil))) (a_cons (x_lst (a_cons (x_tup (a_cons (x_cn (.str "point")) (a_cons (x_cn (.int 1)) a_nil))) a_nil)) a_nil))) (a_cons (x_lst (a_cons (x_cn (.int 1)) (a_cons (x_cn (.int 1)) a_nil))) a_nil))) (a_cons (x_lst (a_cons (x_lst (a_cons (x_lst (a_cons (x_tup (a_cons (x_cn (.str "point")) (a_cons (x_cn (.int 0)) a_nil))) (a_cons (x_tup (a_cons (x_cn (.str "back")) (a_cons (x_cn (.int 1)) a_nil))) a_nil))) (a_cons (x_lst (a_cons (x_tup (a_cons (x_cn (.str "point")) (a_cons (x_cn (.int 1)) a_nil))) a_nil)) a_nil))) (a_cons (x_lst (a_cons (x_cn (.int 2)) (a_cons (x_cn (.int 1)) a_nil))) a_nil))) a_nil)))))) (s_seq (s_exp (x_o2p f2_app (x_var 0) (x_tup (a_cons (x_lamv 2) (a_cons (x_lst (a_cons (x_lst (a_cons (x_lst (a_cons (x_tup (a_cons (x_cn (.str "point")) (a_cons (x_cn (.int 0)) a_nil))) (a_cons (x_tup (a_cons (x_cn (.str "back")) (a_cons (x_cn (.int 1)) a_nil))) a_nil))) (a_cons (x_lst (a_cons (x_tup (a_cons (x_cn (.str "point")) (a_cons (x_cn (.int 1)) a_nil))) a_nil)) a_nil))) (a_cons (x_lst (a_cons (x_tup (a_cons (x_cn (.int 1)) (a_cons (x_cn (.int 1)) (a_cons (x_cn (.int 0)) a_nil)))) a_nil)) a_nil))) (a_cons (x_lst (a_cons (x_lst (a_cons (x_lst (a_cons (x_tup (a_cons (x_cn (.str "point")) (a_cons (x_cn (.int 0)) a_nil))) (a_cons (x_tup (a_cons (x_cn (.str "back")) (a_cons (x_cn (.int 1)) a_nil))) a_nil))) (a_cons (x_lst (a_cons (x_tup (a_cons (x_cn (.str "point")) (a_cons (x_cn (.int 1)) a_nil))) a_nil)) a_nil))) (a_cons (x_lst (a_cons (x_tup (a_cons (x_cn (.int 1)) (a_cons (x_cn (.int 5)) (a_cons (x_cn (.int 0)) a_nil)))) a_nil)) a_nil))) a_nil)))))) (s_seq (s_exp (x_o2p f2_app (x_var 0) (x_tup (a_cons (x_lamv 3) (a_cons (x_lst (a_cons (x_lst (a_cons (x_lst (a_cons (x_tup (a_cons (x_cn (.str "point")) (a_cons (x_cn (.int 0)) a_nil))) (a_cons (x_tup (a_cons (x_cn (.str "back")) (a_cons (x_cn (.int 1)) a_nil))) a_nil))) (a_cons (x_lst (a_cons (x_tup (a_cons (x_cn (.str "point")) (a_cons (x_cn (.int 1)) a_nil))) a_nil)) a_nil))) (a_cons (x_lst (a_cons (x_tup (a_cons (x_cn (.int 1)) (a_cons (x_cn (.int 1)) (a_cons (x_cn (.int 0)) a_nil)))) a_nil)) a_nil))) (a_cons (x_lst (a_cons (x_lst (a_cons (x_lst (a_cons (x_tup (a_cons (x_cn (.str "point")) (a_cons (x_cn (.int 0)) a_nil))) (a_cons (x_tup (a_cons (x_cn (.str "back")) (a_cons (x_cn (.int 1)) a_nil))) a_nil))) (a_cons (x_lst (a_cons (x_tup (a_cons (x_cn (.str "point")) (a_cons (x_cn (.int 1)) a_nil))) a_nil)) a_nil))) (a_cons (x_lst (a_cons (x_tup (a_cons (x_cn (.int 1)) (a_cons (x_cn (.int 1)) (a_cons (x_cn (.int 1)) a_nil)))) a_nil)) a_nil))) a_nil)))))) (s_seq (s_exp (x_o2p f2_app (x_var 0) (x_tup (a_cons (x_lamv 4) (a_cons (x_lst (a_cons (x_lst (a_cons (x_lst (a_cons (x_tup (a_cons (x_cn (.str "point")) (a_cons (x_cn (.int 0)) a_nil))) (a_cons (x_tup (a_cons (x_cn (.str "back")) (a_cons (x_cn (.int 1)) a_nil))) a_nil))) (a_cons (x_lst (a_cons (x_tup (a_cons (x_cn (.str "point")) (a_cons (x_cn (.int 1)) a_nil))) a_nil)) a_nil))) a_nil)) (a_cons (x_lst (a_cons (x_lst (a_cons (x_lst (a_cons (x_tup (a_cons (x_cn (.str "point")) (a_cons (x_cn (.int 1)) a_nil))) (a_cons (x_tup (a_cons (x_cn (.str "back")) (a_cons (x_cn (.int 1)) a_nil))) a_nil))) (a_cons (x_lst (a_cons (x_tup (a_cons (x_cn (.str "point")) (a_cons (x_cn (.int 1)) a_nil))) a_nil)) a_nil))) a_nil)) a_nil)))))) (s_seq (s_exp (x_o2p f2_app (x_var 0) (x_tup (a_cons (x_lamv 5) (a_cons (x_lst (a_cons (x_lst (a_cons (x_cn (.int 0)) (a_cons (x_cn (.int 0)) (a_cons (x_cn (.int 1)) a_nil)))) a_nil)) (a_cons (x_lst (a_cons (x_lst (a_cons (x_cn (.int 1)) (a_cons (x_cn (.int 1)) (a_cons (x_cn (.int 1)) a_nil)))) a_nil)) a_nil)))))) (s_seq (s_exp (x_o2p f2_app (x_var 0) (x_tup (a_cons (x_lamv 6) (a_cons (x_lst (a_cons (x_lst (a_cons (x_cn (.int 0)) a_nil)) a_nil)) (a_cons (x_lst (a_cons (x_lst (a_cons (x_cn (.int 1)) a_nil)) a_nil)) a_nil)))))) (s_seq (s_exp (x_o2p f2_app (x_var 0) (x_tup (a_cons (x_lamv 7) (a_cons (x_lst (a_cons (x_lst (a_cons (x_lst (a_cons (x_tup (a_cons (x_cn (.str "point")) (a_cons (x_cn (.int 0)) a_nil))) (a_cons (x_tup (a_cons (x_cn (.str "back")) (a_cons (x_cn (.int 1)) a_nil))) a_nil))) (a_cons (x_lst (a_cons (x_tup (a_cons (x_cn (.str "point")) (a_cons (x_cn (.int 1)) a_nil))) a_nil)) a_nil))) (a_cons (x_lst (a_cons (x_tup (a_cons (x_cn (.int 1)) (a_cons (x_cn (.int 1)) (a_cons (x_cn (.int 0)) a_nil)))) a_nil)) a_nil))) (a_cons (x_lst (a_cons (x_lst (a_cons (x_lst (a_cons (x_tup (a_cons (x_cn (.str "point")) (a_cons (x_cn (.int 0)) a_nil))) (a_cons (x_tup (a_cons (x_cn (.str "back")) (a_cons (x_cn (.int 1)) a_nil))) a_nil))) (a_cons (x_lst (a_cons (x_tup (a_cons (x_cn (.str "point")) (a_cons (x_cn (.int 1)) a_nil))) a_nil)) a_nil))) (a_cons (x_lst (a_cons (x_tup (a_cons (x_cn (.int 1)) (a_cons (x_cn (.int 1)) (a_cons (x_cn (.int 1)) a_nil)))) a_nil)) a_nil))) a_nil)))))) (s_seq (s_exp (x_o2p f2_app (x_var 0) (x_tup (a_cons (x_lamv 8) (a_cons (x_lst (a_cons (x_lst (a_cons (x_lst (a_cons (x_tup (a_cons (x_cn (.str "point")) (a_cons (x_cn (.int 0)) a_nil))) (a_cons (x_tup (a_cons (x_cn (.str "back")) (a_cons (x_cn (.int 1)) a_nil))) a_nil))) (a_cons (x_lst (a_cons (x_tup (a_cons (x_cn (.str "point")) (a_cons (x_cn (.int 1)) a_nil))) a_nil)) a_nil))) (a_cons (x_lst (a_cons (x_tup (a_cons (x_cn (.int 1)) (a_cons (x_cn (.int 5)) (a_cons (x_cn (.int 0)) a_nil)))) a_nil)) a_nil))) (a_cons (x_lst (a_cons (x_lst (a_cons (x_lst (a_cons (x_tup (a_cons (x_cn (.str "point")) (a_cons (x_cn (.int 0)) a_nil))) (a_cons (x_tup (a_cons (x_cn (.str "back")) (a_cons (x_cn (.int 1)) a_nil))) a_nil))) (a_cons (x_lst (a_cons (x_tup (a_cons (x_cn (.str "point")) (a_cons (x_cn (.int 1)) a_nil))) a_nil)) a_nil))) (a_cons (x_lst (a_cons (x_tup (a_cons (x_cn (.int 1)) (a_cons (x_cn (.int 1)) (a_cons (x_cn (.int 0)) a_nil)))) a_nil)) a_nil))) a_nil)))))) (s_seq (s_exp (x_o2p f2_app (x_var 0) (x_tup (a_cons (x_lamv 9) (a_cons (x_lst (a_cons (x_lst (a_cons (x_lst (a_cons (x_tup (a_cons (x_cn (.str "point")) (a_cons (x_cn (.int 0)) a_nil))) (a_cons (x_tup (a_cons (x_cn (.str "back")) (a_cons (x_cn (.int 1)) a_nil))) a_nil))) (a_cons (x_lst (a_cons (x_tup (a_cons (x_cn (.str "point")) (a_cons (x_cn (.int 1)) a_nil))) a_nil)) a_nil))) a_nil)) (a_cons (x_lst (a_cons (x_lst (a_cons (x_lst (a_cons (x_tup (a_cons (x_cn (.str "point")) (a_cons (x_cn (.int 1)) a_nil))) (a_cons (x_tup (a_cons (x_cn (.str "back")) (a_cons (x_cn (.int 1)) a_nil))) a_nil))) (a_cons (x_lst (a_cons (x_tup (a_cons (x_cn (.str "point")) (a_cons (x_cn (.int 1)) a_nil))) a_nil)) a_nil))) a_nil)) a_nil)))))) (s_seq (s_ret (x_var 0)) s_nil))))))))))))
theorem dc__law_rows_one_eq (Γ : Gt) : dc__law_rows_one Γ = exec Γ c__law_rows_one := by kernel_rfl!
def dl_law_1 (Γ : Gt) : FSx := (s_seq (s_ite (x_o1 f1_not (x_call Γ 29 (a_cons (x_var 3) (a_cons (x_var 4) (a_cons (x_var 5) a_nil))))) (s_seq (s_ret (x_cn (.bl false))) s_nil) s_nil) s_nil)
def dc_law (Γ : Gt) : FSx := (s_seq (s_asg (.nm 1) (x_call Γ 31 a_nil)) (s_seq (s_asg (.nm 2) (x_o2 (f2_bin Γ .mod) (x_o1 (f1_abs Γ) (x_call Γ 25 (a_cons (x_var 0) (a_cons (x_cn (.int 0)) a_nil)))) (x_o1 f1_len (x_var 1)))) (s_seq (s_loop (.t3 (.nm 3) (.nm 4) (.nm 5)) (i_itL (x_o2 f2_cat (x_sl (x_var 1) (o_cons (x_var 2)) o_nil) (x_sl (x_var 1) o_nil (o_cons (x_var 2))))) (dl_law_1 Γ)) (s_seq (s_ret (x_cn (.bl true))) s_nil))))
theorem dc_law_eq (Γ : Gt) : dc_law Γ = exec Γ c_law := by kernel_rfl!
def dm_lam0 (Γ : Gt) : FEx := (x_call Γ 19 (a_cons (x_o2 f2_ix (x_var 0) (x_cn (.int 0))) (a_cons (x_o2 f2_ix (x_var 0) (x_cn (.int 1))) a_nil)))
def dc_lam0 (Γ : Gt) : FSx := (s_seq (s_ret (dm_lam0 Γ)) s_nil)
theorem dc_lam0_eq (Γ : Gt) : dc_lam0 Γ = exec Γ c_lam0 := by kernel_rfl!
def dm_lam1 (Γ : Gt) : FEx := (x_call Γ 19 (a_cons (x_o2 f2_ix (x_var 0) (x_cn (.int 0))) (a_cons (x_o2 f2_ix (x_var 0) (x_cn (.int 1))) a_nil)))
def dc_lam1 (Γ : Gt) : FSx := (s_seq (s_ret (dm_lam1 Γ)) s_nil)
theorem dc_lam1_eq (Γ : Gt) : dc_lam1 Γ = exec Γ c_lam1 := by kernel_rfl!
def dm_lam2 (Γ : Gt) : FEx := (x_o1 (f1_isC Γ 1) (x_call Γ 23 (a_cons (x_o2 f2_ix (x_var 0) (x_cn (.int 0))) (a_cons (x_cn (.int 0)) (a_cons (x_o2 f2_ix (x_var 0) (x_cn (.int 1))) a_nil)))))
def dc_lam2 (Γ : Gt) : FSx := (s_seq (s_ret (dm_lam2 Γ)) s_nil)
theorem dc_lam2_eq (Γ : Gt) : dc_lam2 Γ = exec Γ c_lam2 := by kernel_rfl!
def dm_lam3 (Γ : Gt) : FEx := (x_o1 (f1_fld Γ "heard") (x_call Γ 23 (a_cons (x_o2 f2_ix (x_var 0) (x_cn (.int 0))) (a_cons (x_cn (.int 0)) (a_cons (x_o2 f2_ix (x_var 0) (x_cn (.int 1))) a_nil)))))
def dc_lam3 (Γ : Gt) : FSx := (s_seq (s_ret (dm_lam3 Γ)) s_nil)
theorem dc_lam3_eq (Γ : Gt) : dc_lam3 Γ = exec Γ c_lam3 := by kernel_rfl!
def dm_lam4 (Γ : Gt) : FEx := (x_call Γ 30 (a_cons (x_call Γ 24 (a_cons (x_o2 f2_ix (x_var 0) (x_cn (.int 0))) (a_cons (x_cn (.int 0)) (a_cons (x_cn (.int 1)) a_nil)))) a_nil))
def dc_lam4 (Γ : Gt) : FSx := (s_seq (s_ret (dm_lam4 Γ)) s_nil)
theorem dc_lam4_eq (Γ : Gt) : dc_lam4 Γ = exec Γ c_lam4 := by kernel_rfl!
def dm_lam5 (Γ : Gt) : FEx := (x_call Γ 11 (a_cons (x_tup (a_cons (x_cn (.int 2)) (a_cons (x_cn (.int 1)) a_nil))) (a_cons (x_o2 f2_ix (x_var 0) (x_cn (.int 0))) a_nil)))
def dc_lam5 (Γ : Gt) : FSx := (s_seq (s_ret (dm_lam5 Γ)) s_nil)
theorem dc_lam5_eq (Γ : Gt) : dc_lam5 Γ = exec Γ c_lam5 := by kernel_rfl!
def dm_lam6 (Γ : Gt) : FEx := (x_call Γ 12 (a_cons (x_tup (a_cons (x_cn (.int 2)) (a_cons (x_cn (.int 1)) a_nil))) (a_cons (x_o2 f2_ix (x_var 0) (x_cn (.int 0))) (a_cons (x_cn (.int 0)) a_nil))))
def dc_lam6 (Γ : Gt) : FSx := (s_seq (s_ret (dm_lam6 Γ)) s_nil)
theorem dc_lam6_eq (Γ : Gt) : dc_lam6 Γ = exec Γ c_lam6 := by kernel_rfl!
def dm_lam7 (Γ : Gt) : FEx := (x_meth Γ 0 (x_new Γ 0 (a_cons (x_lst (a_cons (x_lst (a_cons (x_cn (.int 1)) (a_cons (x_cn (.int 0)) a_nil))) a_nil)) a_nil)) (a_cons (x_o2 f2_ix (x_var 0) (x_cn (.int 0))) (a_cons (x_cn (.int 0)) (a_cons (x_o2 f2_ix (x_var 0) (x_cn (.int 1))) a_nil))))
def dc_lam7 (Γ : Gt) : FSx := (s_seq (s_ret (dm_lam7 Γ)) s_nil)
theorem dc_lam7_eq (Γ : Gt) : dc_lam7 Γ = exec Γ c_lam7 := by kernel_rfl!
def dm_lam8 (Γ : Gt) : FEx := (x_meth Γ 0 (x_new Γ 1 (a_cons (x_lst (a_cons (x_lst a_nil) a_nil)) a_nil)) (a_cons (x_o2 f2_ix (x_var 0) (x_cn (.int 0))) (a_cons (x_cn (.int 0)) (a_cons (x_o2 f2_ix (x_var 0) (x_cn (.int 1))) a_nil))))
def dc_lam8 (Γ : Gt) : FSx := (s_seq (s_ret (dm_lam8 Γ)) s_nil)
theorem dc_lam8_eq (Γ : Gt) : dc_lam8 Γ = exec Γ c_lam8 := by kernel_rfl!
def dm_lam9 (Γ : Gt) : FEx := (x_meth Γ 0 (x_new Γ 2 (a_cons (x_cn (.int 0)) (a_cons (x_lst (a_cons (x_cn (.int 1)) (a_cons (x_cn (.int 1)) a_nil))) (a_cons (x_cn (.int 1)) (a_cons (x_lst (a_cons (x_cn (.int 1)) (a_cons (x_cn (.int 0)) a_nil))) a_nil))))) (a_cons (x_o2 f2_ix (x_var 0) (x_cn (.int 0))) (a_cons (x_cn (.int 0)) (a_cons (x_cn (.int 1)) a_nil))))
def dc_lam9 (Γ : Gt) : FSx := (s_seq (s_ret (dm_lam9 Γ)) s_nil)
theorem dc_lam9_eq (Γ : Gt) : dc_lam9 Γ = exec Γ c_lam9 := by kernel_rfl!
def run' (pm : Pm) : Nat → Nat → List RV → Hs → Ot
  | 0, _ => fun _ _ => .no
  | n + 1, k => match k with
    | 0 => fnRun' (dc_is_whole (gtOf pm (run' pm n))) 1 1
    | 1 => fnRun' (dc_is_count (gtOf pm (run' pm n))) 3 3
    | 2 => fnRun' (dc_is_word (gtOf pm (run' pm n))) 1 1
    | 3 => fnRun' (dc_check_notes (gtOf pm (run' pm n))) 1 3
    | 4 => fnRun' (dc_check_hand (gtOf pm (run' pm n))) 2 2
    | 5 => fnRun' (dc_score_of (gtOf pm (run' pm n))) 2 7
    | 6 => fnRun' (dc_is_heard (gtOf pm (run' pm n))) 2 4
    | 7 => fnRun' (dc_all_heard (gtOf pm (run' pm n))) 3 9
    | 8 => fnRun' (dc_is_no_less (gtOf pm (run' pm n))) 2 4
    | 9 => fnRun' (dc_gone_over (gtOf pm (run' pm n))) 2 7
    | 10 => fnRun' (dc_check_game (gtOf pm (run' pm n))) 2 3
    | 11 => fnRun' (dc_games (gtOf pm (run' pm n))) 2 2
    | 12 => fnRun' (dc_game_point (gtOf pm (run' pm n))) 3 3
    | 13 => fnRun' (dc_History_init (gtOf pm (run' pm n))) 2 3
    | 14 => fnRun' (dc_History_shows (gtOf pm (run' pm n))) 4 11
    | 15 => fnRun' (dc_Never_init (gtOf pm (run' pm n))) 2 4
    | 16 => fnRun' (dc_Never_shows (gtOf pm (run' pm n))) 4 12
    | 17 => fnRun' (dc_Leads_init (gtOf pm (run' pm n))) 5 5
    | 18 => fnRun' (dc_Leads_shows (gtOf pm (run' pm n))) 4 8
    | 19 => fnRun' (dc_score (gtOf pm (run' pm n))) 2 3
    | 20 => fnRun' (dc_is_showing (gtOf pm (run' pm n))) 2 2
    | 21 => fnRun' (dc_lists_of (gtOf pm (run' pm n))) 3 10
    | 22 => fnRun' (dc_history_of (gtOf pm (run' pm n))) 1 4
    | 23 => fnRun' (dc_judged (gtOf pm (run' pm n))) 3 6
    | 24 => fnRun' (dc_leads (gtOf pm (run' pm n))) 3 9
    | 25 => pm.sem 25
    | 26 => fnRun' (dc__law_copy (gtOf pm (run' pm n))) 1 2
    | 27 => fnRun' (dc__law_into (gtOf pm (run' pm n))) 2 4
    | 28 => fnRun' (dc__law_spoil (gtOf pm (run' pm n))) 1 2
    | 29 => fnRun' (dc__law_door_right (gtOf pm (run' pm n))) 3 9
    | 30 => fnRun' (dc__law_fields (gtOf pm (run' pm n))) 1 1
    | 31 => fnRun' (dc__law_rows_one (gtOf pm (run' pm n))) 0 1
    | 33 => fnRun' (dc_lam0 (gtOf pm (run' pm n))) 1 1
    | 34 => fnRun' (dc_lam1 (gtOf pm (run' pm n))) 1 1
    | 35 => fnRun' (dc_lam2 (gtOf pm (run' pm n))) 1 1
    | 36 => fnRun' (dc_lam3 (gtOf pm (run' pm n))) 1 1
    | 37 => fnRun' (dc_lam4 (gtOf pm (run' pm n))) 1 1
    | 38 => fnRun' (dc_lam5 (gtOf pm (run' pm n))) 1 1
    | 39 => fnRun' (dc_lam6 (gtOf pm (run' pm n))) 1 1
    | 40 => fnRun' (dc_lam7 (gtOf pm (run' pm n))) 1 1
    | 41 => fnRun' (dc_lam8 (gtOf pm (run' pm n))) 1 1
    | 42 => fnRun' (dc_lam9 (gtOf pm (run' pm n))) 1 1
    | _ => fun _ _ => .no
theorem run'_eq (pm : Pm) : ∀ n, run' pm n = run pm n
  | 0 => rfl
  | n + 1 => by
    have ih := run'_eq pm n
    funext k
    match k with
    | 0 => exact (show fnRun' (dc_is_whole (gtOf pm (run' pm n))) 1 1 = fnRun (gtOf pm (run pm n)) 1 1 c_is_whole from ih ▸ fnRun_of (dc_is_whole_eq _) 1 1)
    | 1 => exact (show fnRun' (dc_is_count (gtOf pm (run' pm n))) 3 3 = fnRun (gtOf pm (run pm n)) 3 3 c_is_count from ih ▸ fnRun_of (dc_is_count_eq _) 3 3)
    | 2 => exact (show fnRun' (dc_is_word (gtOf pm (run' pm n))) 1 1 = fnRun (gtOf pm (run pm n)) 1 1 c_is_word from ih ▸ fnRun_of (dc_is_word_eq _) 1 1)
    | 3 => exact (show fnRun' (dc_check_notes (gtOf pm (run' pm n))) 1 3 = fnRun (gtOf pm (run pm n)) 1 3 c_check_notes from ih ▸ fnRun_of (dc_check_notes_eq _) 1 3)
    | 4 => exact (show fnRun' (dc_check_hand (gtOf pm (run' pm n))) 2 2 = fnRun (gtOf pm (run pm n)) 2 2 c_check_hand from ih ▸ fnRun_of (dc_check_hand_eq _) 2 2)
    | 5 => exact (show fnRun' (dc_score_of (gtOf pm (run' pm n))) 2 7 = fnRun (gtOf pm (run pm n)) 2 7 c_score_of from ih ▸ fnRun_of (dc_score_of_eq _) 2 7)
    | 6 => exact (show fnRun' (dc_is_heard (gtOf pm (run' pm n))) 2 4 = fnRun (gtOf pm (run pm n)) 2 4 c_is_heard from ih ▸ fnRun_of (dc_is_heard_eq _) 2 4)
    | 7 => exact (show fnRun' (dc_all_heard (gtOf pm (run' pm n))) 3 9 = fnRun (gtOf pm (run pm n)) 3 9 c_all_heard from ih ▸ fnRun_of (dc_all_heard_eq _) 3 9)
    | 8 => exact (show fnRun' (dc_is_no_less (gtOf pm (run' pm n))) 2 4 = fnRun (gtOf pm (run pm n)) 2 4 c_is_no_less from ih ▸ fnRun_of (dc_is_no_less_eq _) 2 4)
    | 9 => exact (show fnRun' (dc_gone_over (gtOf pm (run' pm n))) 2 7 = fnRun (gtOf pm (run pm n)) 2 7 c_gone_over from ih ▸ fnRun_of (dc_gone_over_eq _) 2 7)
    | 10 => exact (show fnRun' (dc_check_game (gtOf pm (run' pm n))) 2 3 = fnRun (gtOf pm (run pm n)) 2 3 c_check_game from ih ▸ fnRun_of (dc_check_game_eq _) 2 3)
    | 11 => exact (show fnRun' (dc_games (gtOf pm (run' pm n))) 2 2 = fnRun (gtOf pm (run pm n)) 2 2 c_games from ih ▸ fnRun_of (dc_games_eq _) 2 2)
    | 12 => exact (show fnRun' (dc_game_point (gtOf pm (run' pm n))) 3 3 = fnRun (gtOf pm (run pm n)) 3 3 c_game_point from ih ▸ fnRun_of (dc_game_point_eq _) 3 3)
    | 13 => exact (show fnRun' (dc_History_init (gtOf pm (run' pm n))) 2 3 = fnRun (gtOf pm (run pm n)) 2 3 c_History_init from ih ▸ fnRun_of (dc_History_init_eq _) 2 3)
    | 14 => exact (show fnRun' (dc_History_shows (gtOf pm (run' pm n))) 4 11 = fnRun (gtOf pm (run pm n)) 4 11 c_History_shows from ih ▸ fnRun_of (dc_History_shows_eq _) 4 11)
    | 15 => exact (show fnRun' (dc_Never_init (gtOf pm (run' pm n))) 2 4 = fnRun (gtOf pm (run pm n)) 2 4 c_Never_init from ih ▸ fnRun_of (dc_Never_init_eq _) 2 4)
    | 16 => exact (show fnRun' (dc_Never_shows (gtOf pm (run' pm n))) 4 12 = fnRun (gtOf pm (run pm n)) 4 12 c_Never_shows from ih ▸ fnRun_of (dc_Never_shows_eq _) 4 12)
    | 17 => exact (show fnRun' (dc_Leads_init (gtOf pm (run' pm n))) 5 5 = fnRun (gtOf pm (run pm n)) 5 5 c_Leads_init from ih ▸ fnRun_of (dc_Leads_init_eq _) 5 5)
    | 18 => exact (show fnRun' (dc_Leads_shows (gtOf pm (run' pm n))) 4 8 = fnRun (gtOf pm (run pm n)) 4 8 c_Leads_shows from ih ▸ fnRun_of (dc_Leads_shows_eq _) 4 8)
    | 19 => exact (show fnRun' (dc_score (gtOf pm (run' pm n))) 2 3 = fnRun (gtOf pm (run pm n)) 2 3 c_score from ih ▸ fnRun_of (dc_score_eq _) 2 3)
    | 20 => exact (show fnRun' (dc_is_showing (gtOf pm (run' pm n))) 2 2 = fnRun (gtOf pm (run pm n)) 2 2 c_is_showing from ih ▸ fnRun_of (dc_is_showing_eq _) 2 2)
    | 21 => exact (show fnRun' (dc_lists_of (gtOf pm (run' pm n))) 3 10 = fnRun (gtOf pm (run pm n)) 3 10 c_lists_of from ih ▸ fnRun_of (dc_lists_of_eq _) 3 10)
    | 22 => exact (show fnRun' (dc_history_of (gtOf pm (run' pm n))) 1 4 = fnRun (gtOf pm (run pm n)) 1 4 c_history_of from ih ▸ fnRun_of (dc_history_of_eq _) 1 4)
    | 23 => exact (show fnRun' (dc_judged (gtOf pm (run' pm n))) 3 6 = fnRun (gtOf pm (run pm n)) 3 6 c_judged from ih ▸ fnRun_of (dc_judged_eq _) 3 6)
    | 24 => exact (show fnRun' (dc_leads (gtOf pm (run' pm n))) 3 9 = fnRun (gtOf pm (run pm n)) 3 9 c_leads from ih ▸ fnRun_of (dc_leads_eq _) 3 9)
    | 25 => rfl
    | 26 => exact (show fnRun' (dc__law_copy (gtOf pm (run' pm n))) 1 2 = fnRun (gtOf pm (run pm n)) 1 2 c__law_copy from ih ▸ fnRun_of (dc__law_copy_eq _) 1 2)
    | 27 => exact (show fnRun' (dc__law_into (gtOf pm (run' pm n))) 2 4 = fnRun (gtOf pm (run pm n)) 2 4 c__law_into from ih ▸ fnRun_of (dc__law_into_eq _) 2 4)
    | 28 => exact (show fnRun' (dc__law_spoil (gtOf pm (run' pm n))) 1 2 = fnRun (gtOf pm (run pm n)) 1 2 c__law_spoil from ih ▸ fnRun_of (dc__law_spoil_eq _) 1 2)
    | 29 => exact (show fnRun' (dc__law_door_right (gtOf pm (run' pm n))) 3 9 = fnRun (gtOf pm (run pm n)) 3 9 c__law_door_right from ih ▸ fnRun_of (dc__law_door_right_eq _) 3 9)
    | 30 => exact (show fnRun' (dc__law_fields (gtOf pm (run' pm n))) 1 1 = fnRun (gtOf pm (run pm n)) 1 1 c__law_fields from ih ▸ fnRun_of (dc__law_fields_eq _) 1 1)
    | 31 => exact (show fnRun' (dc__law_rows_one (gtOf pm (run' pm n))) 0 1 = fnRun (gtOf pm (run pm n)) 0 1 c__law_rows_one from ih ▸ fnRun_of (dc__law_rows_one_eq _) 0 1)
    | 33 => exact (show fnRun' (dc_lam0 (gtOf pm (run' pm n))) 1 1 = fnRun (gtOf pm (run pm n)) 1 1 c_lam0 from ih ▸ fnRun_of (dc_lam0_eq _) 1 1)
    | 34 => exact (show fnRun' (dc_lam1 (gtOf pm (run' pm n))) 1 1 = fnRun (gtOf pm (run pm n)) 1 1 c_lam1 from ih ▸ fnRun_of (dc_lam1_eq _) 1 1)
    | 35 => exact (show fnRun' (dc_lam2 (gtOf pm (run' pm n))) 1 1 = fnRun (gtOf pm (run pm n)) 1 1 c_lam2 from ih ▸ fnRun_of (dc_lam2_eq _) 1 1)
    | 36 => exact (show fnRun' (dc_lam3 (gtOf pm (run' pm n))) 1 1 = fnRun (gtOf pm (run pm n)) 1 1 c_lam3 from ih ▸ fnRun_of (dc_lam3_eq _) 1 1)
    | 37 => exact (show fnRun' (dc_lam4 (gtOf pm (run' pm n))) 1 1 = fnRun (gtOf pm (run pm n)) 1 1 c_lam4 from ih ▸ fnRun_of (dc_lam4_eq _) 1 1)
    | 38 => exact (show fnRun' (dc_lam5 (gtOf pm (run' pm n))) 1 1 = fnRun (gtOf pm (run pm n)) 1 1 c_lam5 from ih ▸ fnRun_of (dc_lam5_eq _) 1 1)
    | 39 => exact (show fnRun' (dc_lam6 (gtOf pm (run' pm n))) 1 1 = fnRun (gtOf pm (run pm n)) 1 1 c_lam6 from ih ▸ fnRun_of (dc_lam6_eq _) 1 1)
    | 40 => exact (show fnRun' (dc_lam7 (gtOf pm (run' pm n))) 1 1 = fnRun (gtOf pm (run pm n)) 1 1 c_lam7 from ih ▸ fnRun_of (dc_lam7_eq _) 1 1)
    | 41 => exact (show fnRun' (dc_lam8 (gtOf pm (run' pm n))) 1 1 = fnRun (gtOf pm (run pm n)) 1 1 c_lam8 from ih ▸ fnRun_of (dc_lam8_eq _) 1 1)
    | 42 => exact (show fnRun' (dc_lam9 (gtOf pm (run' pm n))) 1 1 = fnRun (gtOf pm (run pm n)) 1 1 c_lam9 from ih ▸ fnRun_of (dc_lam9_eq _) 1 1)
    | 32 => rfl
    | _ + 43 => rfl
end K11

namespace K11
open PySem PySem.Spec PyProof.Rows L2 R
/-! scopes and facts, by genr.py -/
def tops (i : Nat) : Stmt := PySem.Challenge.pw_scorehands_k11_whole_handed.main.body.getD i (.Pass ⟨0, 0, 0, 0⟩)
abbrev s_is_whole : Stmt := tops 14
abbrev N_is_whole : List Str := ["thing"]
theorem sc_is_whole : FnScope N_is_whole ["thing"] (defScope s_is_whole) :=
  ⟨rfl, rfl, rfl, by decide +kernel, rfl, by decide +kernel, by decide +kernel⟩
abbrev s_is_count : Stmt := tops 15
abbrev N_is_count : List Str := ["thing", "least", "most"]
theorem sc_is_count : FnScope N_is_count ["thing", "least", "most"] (defScope s_is_count) :=
  ⟨rfl, rfl, rfl, by decide +kernel, rfl, by decide +kernel, by decide +kernel⟩
abbrev s_is_word : Stmt := tops 16
abbrev N_is_word : List Str := ["thing"]
theorem sc_is_word : FnScope N_is_word ["thing"] (defScope s_is_word) :=
  ⟨rfl, rfl, rfl, by decide +kernel, rfl, by decide +kernel, by decide +kernel⟩
abbrev s_check_notes : Stmt := tops 17
abbrev N_check_notes : List Str := ["notes", "words", "word"]
theorem sc_check_notes : FnScope N_check_notes ["notes"] (defScope s_check_notes) :=
  ⟨rfl, rfl, rfl, by decide +kernel, rfl, by decide +kernel, by decide +kernel⟩
abbrev s_check_hand : Stmt := tops 18
abbrev N_check_hand : List Str := ["many", "hand"]
theorem sc_check_hand : FnScope N_check_hand ["many", "hand"] (defScope s_check_hand) :=
  ⟨rfl, rfl, rfl, by decide +kernel, rfl, by decide +kernel, by decide +kernel⟩
abbrev s_score_of : Stmt := tops 19
abbrev N_score_of : List Str := ["notes", "heard", "sides", "words", "many", "kind", "side"]
theorem sc_score_of : FnScope N_score_of ["notes", "heard"] (defScope s_score_of) :=
  ⟨rfl, rfl, rfl, by decide +kernel, rfl, by decide +kernel, by decide +kernel⟩
abbrev s_is_heard : Stmt := tops 20
abbrev N_is_heard : List Str := ["notes", "heard", "words", "many"]
theorem sc_is_heard : FnScope N_is_heard ["notes", "heard"] (defScope s_is_heard) :=
  ⟨rfl, rfl, rfl, by decide +kernel, rfl, by decide +kernel, by decide +kernel⟩
abbrev s_all_heard : Stmt := tops 21
abbrev N_all_heard : List Str := ["notes", "hand", "said", "found", "one", "words", "longer", "some", "many"]
theorem sc_all_heard : FnScope N_all_heard ["notes", "hand", "said"] (defScope s_all_heard) :=
  ⟨rfl, rfl, rfl, by decide +kernel, rfl, by decide +kernel, by decide +kernel⟩
abbrev s_is_no_less : Stmt := tops 22
abbrev N_is_no_less : List Str := ["heard", "other", "mine", "theirs"]
theorem sc_is_no_less : FnScope N_is_no_less ["heard", "other"] (defScope s_is_no_less) :=
  ⟨rfl, rfl, rfl, by decide +kernel, rfl, by decide +kernel, by decide +kernel⟩
abbrev s_gone_over : Stmt := tops 27
abbrev N_gone_over : List Str := ["rule", "points", "side", "to", "ahead", "winners", "sides"]
theorem sc_gone_over : FnScope N_gone_over ["rule", "points"] (defScope s_gone_over) :=
  ⟨rfl, rfl, rfl, by decide +kernel, rfl, by decide +kernel, by decide +kernel⟩
abbrev s_check_game : Stmt := tops 28
abbrev N_check_game : List Str := ["rule", "points", "one"]
theorem sc_check_game : FnScope N_check_game ["rule", "points"] (defScope s_check_game) :=
  ⟨rfl, rfl, rfl, by decide +kernel, rfl, by decide +kernel, by decide +kernel⟩
abbrev s_games : Stmt := tops 29
abbrev N_games : List Str := ["rule", "points"]
theorem sc_games : FnScope N_games ["rule", "points"] (defScope s_games) :=
  ⟨rfl, rfl, rfl, by decide +kernel, rfl, by decide +kernel, by decide +kernel⟩
abbrev s_game_point : Stmt := tops 30
abbrev N_game_point : List Str := ["rule", "points", "side"]
theorem sc_game_point : FnScope N_game_point ["rule", "points", "side"] (defScope s_game_point) :=
  ⟨rfl, rfl, rfl, by decide +kernel, rfl, by decide +kernel, by decide +kernel⟩
abbrev s_History_init : Stmt := inClass (tops 33) 0
abbrev N_History_init : List Str := ["self", "heard", "some"]
theorem sc_History_init : FnScope N_History_init ["self", "heard"] (defScope s_History_init) :=
  ⟨rfl, rfl, rfl, by decide +kernel, rfl, by decide +kernel, by decide +kernel⟩
abbrev s_History_shows : Stmt := inClass (tops 33) 1
abbrev N_History_shows : List Str := ["self", "notes", "hand", "shown", "heard", "some", "said", "first", "second", "one", "other"]
theorem sc_History_shows : FnScope N_History_shows ["self", "notes", "hand", "shown"] (defScope s_History_shows) :=
  ⟨rfl, rfl, rfl, by decide +kernel, rfl, by decide +kernel, by decide +kernel⟩
abbrev s_Never_init : Stmt := inClass (tops 34) 0
abbrev N_Never_init : List Str := ["self", "lists", "one", "some"]
theorem sc_Never_init : FnScope N_Never_init ["self", "lists"] (defScope s_Never_init) :=
  ⟨rfl, rfl, rfl, by decide +kernel, rfl, by decide +kernel, by decide +kernel⟩
abbrev s_Never_shows : Stmt := inClass (tops 34) 1
abbrev N_Never_shows : List Str := ["self", "notes", "hand", "shown", "lists", "at", "some", "said", "first", "second", "due", "other"]
theorem sc_Never_shows : FnScope N_Never_shows ["self", "notes", "hand", "shown"] (defScope s_Never_shows) :=
  ⟨rfl, rfl, rfl, by decide +kernel, rfl, by decide +kernel, by decide +kernel⟩
abbrev s_Leads_init : Stmt := inClass (tops 35) 0
abbrev N_Leads_init : List Str := ["self", "least", "low", "most", "high"]
theorem sc_Leads_init : FnScope N_Leads_init ["self", "least", "low", "most", "high"] (defScope s_Leads_init) :=
  ⟨rfl, rfl, rfl, by decide +kernel, rfl, by decide +kernel, by decide +kernel⟩
abbrev s_Leads_shows : Stmt := inClass (tops 35) 1
abbrev N_Leads_shows : List Str := ["self", "notes", "hand", "said", "some", "lead", "first", "second"]
theorem sc_Leads_shows : FnScope N_Leads_shows ["self", "notes", "hand", "said"] (defScope s_Leads_shows) :=
  ⟨rfl, rfl, rfl, by decide +kernel, rfl, by decide +kernel, by decide +kernel⟩
abbrev s_score : Stmt := tops 38
abbrev N_score : List Str := ["notes", "heard", "many"]
theorem sc_score : FnScope N_score ["notes", "heard"] (defScope s_score) :=
  ⟨rfl, rfl, rfl, by decide +kernel, rfl, by decide +kernel, by decide +kernel⟩
abbrev s_is_showing : Stmt := tops 39
abbrev N_is_showing : List Str := ["thing", "most"]
theorem sc_is_showing : FnScope N_is_showing ["thing", "most"] (defScope s_is_showing) :=
  ⟨rfl, rfl, rfl, by decide +kernel, rfl, by decide +kernel, by decide +kernel⟩
abbrev s_lists_of : Stmt := tops 40
abbrev N_lists_of : List Str := ["notes", "hand", "shown", "found", "said", "first", "second", "some", "heard", "other"]
theorem sc_lists_of : FnScope N_lists_of ["notes", "hand", "shown"] (defScope s_lists_of) :=
  ⟨rfl, rfl, rfl, by decide +kernel, rfl, by decide +kernel, by decide +kernel⟩
abbrev s_history_of : Stmt := tops 41
abbrev N_history_of : List Str := ["lists", "found", "some", "heard"]
theorem sc_history_of : FnScope N_history_of ["lists"] (defScope s_history_of) :=
  ⟨rfl, rfl, rfl, by decide +kernel, rfl, by decide +kernel, by decide +kernel⟩
abbrev s_judged : Stmt := tops 42
abbrev N_judged : List Str := ["notes", "hand", "shown", "lists", "one", "other"]
theorem sc_judged : FnScope N_judged ["notes", "hand", "shown"] (defScope s_judged) :=
  ⟨rfl, rfl, rfl, by decide +kernel, rfl, by decide +kernel, by decide +kernel⟩
abbrev s_leads : Stmt := tops 43
abbrev N_leads : List Str := ["notes", "hand", "said", "some", "heard", "least", "most", "first", "second"]
theorem sc_leads : FnScope N_leads ["notes", "hand", "said"] (defScope s_leads) :=
  ⟨rfl, rfl, rfl, by decide +kernel, rfl, by decide +kernel, by decide +kernel⟩
abbrev s__law_cell_at : Stmt := tops 45
abbrev N__law_cell_at : List Str := ["_law_script", "_law_k"]
theorem sc__law_cell_at : FnScope N__law_cell_at ["_law_script", "_law_k"] (defScope s__law_cell_at) :=
  ⟨rfl, rfl, rfl, by decide +kernel, rfl, by decide +kernel, by decide +kernel⟩
abbrev s__law_copy : Stmt := tops 46
abbrev N__law_copy : List Str := ["_law_thing", "_law_one"]
theorem sc__law_copy : FnScope N__law_copy ["_law_thing"] (defScope s__law_copy) :=
  ⟨rfl, rfl, rfl, by decide +kernel, rfl, by decide +kernel, by decide +kernel⟩
abbrev s__law_into : Stmt := tops 47
abbrev N__law_into : List Str := ["_law_handed", "_law_new", "_law_at", "_law_one"]
theorem sc__law_into : FnScope N__law_into ["_law_handed", "_law_new"] (defScope s__law_into) :=
  ⟨rfl, rfl, rfl, by decide +kernel, rfl, by decide +kernel, by decide +kernel⟩
abbrev s__law_spoil : Stmt := tops 48
abbrev N__law_spoil : List Str := ["_law_found", "_law_one"]
theorem sc__law_spoil : FnScope N__law_spoil ["_law_found"] (defScope s__law_spoil) :=
  ⟨rfl, rfl, rfl, by decide +kernel, rfl, by decide +kernel, by decide +kernel⟩
abbrev s__law_door_right : Stmt := tops 49
abbrev N__law_door_right : List Str := ["_law_ask", "_law_first", "_law_second", "_law_some", "_law_handed", "_law_dues", "_law_due", "_law_again", "_law_found"]
theorem sc__law_door_right : FnScope N__law_door_right ["_law_ask", "_law_first", "_law_second"] (defScope s__law_door_right) :=
  ⟨rfl, rfl, rfl, by decide +kernel, rfl, by decide +kernel, by decide +kernel⟩
abbrev s__law_fields : Stmt := tops 50
abbrev N__law_fields : List Str := ["_law_found"]
theorem sc__law_fields : FnScope N__law_fields ["_law_found"] (defScope s__law_fields) :=
  ⟨rfl, rfl, rfl, by decide +kernel, rfl, by decide +kernel, by decide +kernel⟩
abbrev s__law_rows_one : Stmt := tops 51
abbrev N__law_rows_one : List Str := ["_law_rows"]
theorem sc__law_rows_one : FnScope N__law_rows_one [] (defScope s__law_rows_one) :=
  ⟨rfl, rfl, rfl, by decide +kernel, rfl, by decide +kernel, by decide +kernel⟩
abbrev s_law : Stmt := tops 52
abbrev N_law : List Str := ["_law_script", "_law_rows", "_law_begin", "_law_ask", "_law_first", "_law_second"]
theorem sc_law : FnScope N_law ["_law_script"] (defScope s_law) :=
  ⟨rfl, rfl, rfl, by decide +kernel, rfl, by decide +kernel, by decide +kernel⟩
def kvo (ka fa : Nat → Addr) : Nat → V := fun k => match k with | 0 => .ref (ka 0)  | _ => .ref 0
abbrev tbs (pp : Nat → Addr) : List (Addr × Str) := [(pp 0, (envOfC "_law_rows_one" (defScope s__law_rows_one) 0 0 .none).qual ++ "<lambda>")]
def lamOf (q : Str) : Stmt → LmD
  | .Expr (.Call _ (.Tuple (.Lambda p b s _ :: _) _ _ :: _) _ _) _ => ⟨q, p, b, s⟩
  | _ => ⟨q, defArgs s_law, .Name "" ⟨0, 0, 0, 0⟩, defScope s_law⟩
def lms : Nat → LmD
  | 0 => lamOf ((envOfC "_law_rows_one" (defScope s__law_rows_one) 0 0 .none).qual ++ "<lambda>") ((defBody s__law_rows_one).getD 1 (.Pass ⟨0, 0, 0, 0⟩))
  | 1 => lamOf ((envOfC "_law_rows_one" (defScope s__law_rows_one) 0 0 .none).qual ++ "<lambda>") ((defBody s__law_rows_one).getD 2 (.Pass ⟨0, 0, 0, 0⟩))
  | 2 => lamOf ((envOfC "_law_rows_one" (defScope s__law_rows_one) 0 0 .none).qual ++ "<lambda>") ((defBody s__law_rows_one).getD 3 (.Pass ⟨0, 0, 0, 0⟩))
  | 3 => lamOf ((envOfC "_law_rows_one" (defScope s__law_rows_one) 0 0 .none).qual ++ "<lambda>") ((defBody s__law_rows_one).getD 4 (.Pass ⟨0, 0, 0, 0⟩))
  | 4 => lamOf ((envOfC "_law_rows_one" (defScope s__law_rows_one) 0 0 .none).qual ++ "<lambda>") ((defBody s__law_rows_one).getD 5 (.Pass ⟨0, 0, 0, 0⟩))
  | 5 => lamOf ((envOfC "_law_rows_one" (defScope s__law_rows_one) 0 0 .none).qual ++ "<lambda>") ((defBody s__law_rows_one).getD 6 (.Pass ⟨0, 0, 0, 0⟩))
  | 6 => lamOf ((envOfC "_law_rows_one" (defScope s__law_rows_one) 0 0 .none).qual ++ "<lambda>") ((defBody s__law_rows_one).getD 7 (.Pass ⟨0, 0, 0, 0⟩))
  | 7 => lamOf ((envOfC "_law_rows_one" (defScope s__law_rows_one) 0 0 .none).qual ++ "<lambda>") ((defBody s__law_rows_one).getD 8 (.Pass ⟨0, 0, 0, 0⟩))
  | 8 => lamOf ((envOfC "_law_rows_one" (defScope s__law_rows_one) 0 0 .none).qual ++ "<lambda>") ((defBody s__law_rows_one).getD 9 (.Pass ⟨0, 0, 0, 0⟩))
  | 9 => lamOf ((envOfC "_law_rows_one" (defScope s__law_rows_one) 0 0 .none).qual ++ "<lambda>") ((defBody s__law_rows_one).getD 10 (.Pass ⟨0, 0, 0, 0⟩))
  | _ => lamOf "" (.Pass ⟨0, 0, 0, 0⟩)
abbrev cn (K : PySem.W.Frag) (w : World) (ca ka fa pp : Nat → Addr) (ρ : Nat → Int) (ns : List Int) : R.Cf := ⟨K, w, ca, kvo ka fa, tbs pp, ρ, ns, lms⟩
structure Txt (K : PySem.W.Frag) (mg : Str → Option Value) (fa : Nat → Addr) (ff : Nat → FuncData) (tk : Nat → Tok) (ca ka cc : Nat → Addr) : Prop where
  f_is_whole : G.Fn1 K mg "is_whole" s_is_whole ["thing"] (fa 0) (ff 0)
  f_is_count : G.Fn1 K mg "is_count" s_is_count ["thing", "least", "most"] (fa 1) (ff 1)
  f_is_word : G.Fn1 K mg "is_word" s_is_word ["thing"] (fa 2) (ff 2)
  f_check_notes : G.Fn1 K mg "check_notes" s_check_notes ["notes"] (fa 3) (ff 3)
  f_check_hand : G.Fn1 K mg "check_hand" s_check_hand ["many", "hand"] (fa 4) (ff 4)
  f_score_of : G.Fn1 K mg "score_of" s_score_of ["notes", "heard"] (fa 5) (ff 5)
  f_is_heard : G.Fn1 K mg "is_heard" s_is_heard ["notes", "heard"] (fa 6) (ff 6)
  f_all_heard : G.Fn1 K mg "all_heard" s_all_heard ["notes", "hand", "said"] (fa 7) (ff 7)
  f_is_no_less : G.Fn1 K mg "is_no_less" s_is_no_less ["heard", "other"] (fa 8) (ff 8)
  f_gone_over : G.Fn1 K mg "gone_over" s_gone_over ["rule", "points"] (fa 9) (ff 9)
  f_check_game : G.Fn1 K mg "check_game" s_check_game ["rule", "points"] (fa 10) (ff 10)
  f_games : G.Fn1 K mg "games" s_games ["rule", "points"] (fa 11) (ff 11)
  f_game_point : G.Fn1 K mg "game_point" s_game_point ["rule", "points", "side"] (fa 12) (ff 12)
  F_History_init : Fun K "__init__" "History.__init__" s_History_init (fa 13) (ff 13)
  b_History_init : Binds K (ff 13) ["self", "heard"] []
  mk_History : Mk K (ca 13) (fa 13)
  F_History_shows : Fun K "shows" "History.shows" s_History_shows (fa 14) (ff 14)
  b_History_shows : Binds K (ff 14) ["self", "notes", "hand", "shown"] []
  mt_History_shows : Meth K (ca 13) "shows" (fa 14)
  F_Never_init : Fun K "__init__" "Never.__init__" s_Never_init (fa 15) (ff 15)
  b_Never_init : Binds K (ff 15) ["self", "lists"] []
  mk_Never : Mk K (ca 14) (fa 15)
  F_Never_shows : Fun K "shows" "Never.shows" s_Never_shows (fa 16) (ff 16)
  b_Never_shows : Binds K (ff 16) ["self", "notes", "hand", "shown"] []
  mt_Never_shows : Meth K (ca 14) "shows" (fa 16)
  F_Leads_init : Fun K "__init__" "Leads.__init__" s_Leads_init (fa 17) (ff 17)
  b_Leads_init : Binds K (ff 17) ["self", "least", "low", "most", "high"] []
  mk_Leads : Mk K (ca 15) (fa 17)
  F_Leads_shows : Fun K "shows" "Leads.shows" s_Leads_shows (fa 18) (ff 18)
  b_Leads_shows : Binds K (ff 18) ["self", "notes", "hand", "said"] []
  mt_Leads_shows : Meth K (ca 15) "shows" (fa 18)
  f_score : G.Fn1 K mg "score" s_score ["notes", "heard"] (fa 19) (ff 19)
  f_is_showing : G.Fn1 K mg "is_showing" s_is_showing ["thing", "most"] (fa 20) (ff 20)
  f_lists_of : G.Fn1 K mg "lists_of" s_lists_of ["notes", "hand", "shown"] (fa 21) (ff 21)
  f_history_of : G.Fn1 K mg "history_of" s_history_of ["lists"] (fa 22) (ff 22)
  f_judged : G.Fn1 K mg "judged" s_judged ["notes", "hand", "shown"] (fa 23) (ff 23)
  f_leads : G.Fn1 K mg "leads" s_leads ["notes", "hand", "said"] (fa 24) (ff 24)
  f__law_cell_at : G.Fn1 K mg "_law_cell_at" s__law_cell_at ["_law_script", "_law_k"] (fa 25) (ff 25)
  f__law_copy : G.Fn1 K mg "_law_copy" s__law_copy ["_law_thing"] (fa 26) (ff 26)
  f__law_into : G.Fn1 K mg "_law_into" s__law_into ["_law_handed", "_law_new"] (fa 27) (ff 27)
  f__law_spoil : G.Fn1 K mg "_law_spoil" s__law_spoil ["_law_found"] (fa 28) (ff 28)
  f__law_door_right : G.Fn1 K mg "_law_door_right" s__law_door_right ["_law_ask", "_law_first", "_law_second"] (fa 29) (ff 29)
  f__law_fields : G.Fn1 K mg "_law_fields" s__law_fields ["_law_found"] (fa 30) (ff 30)
  f__law_rows_one : G.Fn1 K mg "_law_rows_one" s__law_rows_one [] (fa 31) (ff 31)
  fc__law_rows_one : FunC K "_law_rows_one" "_law_rows_one" s__law_rows_one (fa 31) (ff 31) (cc 0)
  g_Answer : mg "Answer" = some (.ref (ca 12))
  cl_Answer : Cls K (ca 12)
  ty_Answer : G.TyF K (ca 12)
  sb_12_12 : PySem.W.kitOne K (.ref (ca 12)) (.ref (ca 12)) = some true
  sb_12_13 : PySem.W.kitOne K (.ref (ca 12)) (.ref (ca 13)) = some false
  sb_12_14 : PySem.W.kitOne K (.ref (ca 12)) (.ref (ca 14)) = some false
  sb_12_15 : PySem.W.kitOne K (.ref (ca 12)) (.ref (ca 15)) = some false
  g_History : mg "History" = some (.ref (ca 13))
  cl_History : Cls K (ca 13)
  ty_History : G.TyF K (ca 13)
  na_History_heard : NoAttr K (ca 13) "heard"
  sb_13_12 : PySem.W.kitOne K (.ref (ca 13)) (.ref (ca 12)) = some true
  sb_13_13 : PySem.W.kitOne K (.ref (ca 13)) (.ref (ca 13)) = some true
  sb_13_14 : PySem.W.kitOne K (.ref (ca 13)) (.ref (ca 14)) = some false
  sb_13_15 : PySem.W.kitOne K (.ref (ca 13)) (.ref (ca 15)) = some false
  g_Never : mg "Never" = some (.ref (ca 14))
  cl_Never : Cls K (ca 14)
  ty_Never : G.TyF K (ca 14)
  na_Never_lists : NoAttr K (ca 14) "lists"
  sb_14_12 : PySem.W.kitOne K (.ref (ca 14)) (.ref (ca 12)) = some true
  sb_14_13 : PySem.W.kitOne K (.ref (ca 14)) (.ref (ca 13)) = some false
  sb_14_14 : PySem.W.kitOne K (.ref (ca 14)) (.ref (ca 14)) = some true
  sb_14_15 : PySem.W.kitOne K (.ref (ca 14)) (.ref (ca 15)) = some false
  g_Leads : mg "Leads" = some (.ref (ca 15))
  cl_Leads : Cls K (ca 15)
  ty_Leads : G.TyF K (ca 15)
  na_Leads_least : NoAttr K (ca 15) "least"
  na_Leads_low : NoAttr K (ca 15) "low"
  na_Leads_most : NoAttr K (ca 15) "most"
  na_Leads_high : NoAttr K (ca 15) "high"
  sb_15_12 : PySem.W.kitOne K (.ref (ca 15)) (.ref (ca 12)) = some true
  sb_15_13 : PySem.W.kitOne K (.ref (ca 15)) (.ref (ca 13)) = some false
  sb_15_14 : PySem.W.kitOne K (.ref (ca 15)) (.ref (ca 14)) = some false
  sb_15_15 : PySem.W.kitOne K (.ref (ca 15)) (.ref (ca 15)) = some true
  g_BadNotes : mg "BadNotes" = some (.ref (ca 0))
  g_BadHand : mg "BadHand" = some (.ref (ca 1))
  g_BadHeard : mg "BadHeard" = some (.ref (ca 2))
  g_BadShown : mg "BadShown" = some (.ref (ca 3))
  g_BadSaid : mg "BadSaid" = some (.ref (ca 4))
  g_BadRule : mg "BadRule" = some (.ref (ca 5))
  g_BadPoints : mg "BadPoints" = some (.ref (ca 6))
  g_BadSide : mg "BadSide" = some (.ref (ca 7))
  xe_BadNotes : PySem.W.excIn K (ca 0) excB "ValueError.__new__" = true
  xk_BadNotes : PySem.W.keepIn K (.ref (ca 0)) = true
  xs_BadNotes : PySem.W.subIn K (.ref (ca 0)) (.type "BaseException") = some true
  xt_BadNotes : PySem.W.typeIn K (.ref (ca 0)) = some (.type "type")
  xe_BadHand : PySem.W.excIn K (ca 1) excB "ValueError.__new__" = true
  xk_BadHand : PySem.W.keepIn K (.ref (ca 1)) = true
  xs_BadHand : PySem.W.subIn K (.ref (ca 1)) (.type "BaseException") = some true
  xt_BadHand : PySem.W.typeIn K (.ref (ca 1)) = some (.type "type")
  xe_BadHeard : PySem.W.excIn K (ca 2) excB "ValueError.__new__" = true
  xk_BadHeard : PySem.W.keepIn K (.ref (ca 2)) = true
  xs_BadHeard : PySem.W.subIn K (.ref (ca 2)) (.type "BaseException") = some true
  xt_BadHeard : PySem.W.typeIn K (.ref (ca 2)) = some (.type "type")
  xe_BadShown : PySem.W.excIn K (ca 3) excB "ValueError.__new__" = true
  xk_BadShown : PySem.W.keepIn K (.ref (ca 3)) = true
  xs_BadShown : PySem.W.subIn K (.ref (ca 3)) (.type "BaseException") = some true
  xt_BadShown : PySem.W.typeIn K (.ref (ca 3)) = some (.type "type")
  xe_BadSaid : PySem.W.excIn K (ca 4) excB "ValueError.__new__" = true
  xk_BadSaid : PySem.W.keepIn K (.ref (ca 4)) = true
  xs_BadSaid : PySem.W.subIn K (.ref (ca 4)) (.type "BaseException") = some true
  xt_BadSaid : PySem.W.typeIn K (.ref (ca 4)) = some (.type "type")
  xe_BadRule : PySem.W.excIn K (ca 5) excB "ValueError.__new__" = true
  xk_BadRule : PySem.W.keepIn K (.ref (ca 5)) = true
  xs_BadRule : PySem.W.subIn K (.ref (ca 5)) (.type "BaseException") = some true
  xt_BadRule : PySem.W.typeIn K (.ref (ca 5)) = some (.type "type")
  xe_BadPoints : PySem.W.excIn K (ca 6) excB "ValueError.__new__" = true
  xk_BadPoints : PySem.W.keepIn K (.ref (ca 6)) = true
  xs_BadPoints : PySem.W.subIn K (.ref (ca 6)) (.type "BaseException") = some true
  xt_BadPoints : PySem.W.typeIn K (.ref (ca 6)) = some (.type "type")
  xe_BadSide : PySem.W.excIn K (ca 7) excB "ValueError.__new__" = true
  xk_BadSide : PySem.W.keepIn K (.ref (ca 7)) = true
  xs_BadSide : PySem.W.subIn K (.ref (ca 7)) (.type "BaseException") = some true
  xt_BadSide : PySem.W.typeIn K (.ref (ca 7)) = some (.type "type")
  g_KINDS : mg "KINDS" = some (.ref (ka 0))
  k_KINDS : SqT K G.Emp (ka 0) [.str "point", .str "back"]
  z_abs : mg "abs" = none
  z_all : mg "all" = none
  z_any : mg "any" = none
  z_bool : mg "bool" = none
  z_enumerate : mg "enumerate" = none
  z_int : mg "int" = none
  z_isinstance : mg "isinstance" = none
  z_len : mg "len" = none
  z_list : mg "list" = none
  z_max : mg "max" = none
  z_min : mg "min" = none
  z_range : mg "range" = none
  z_set : mg "set" = none
  z_str : mg "str" = none
  z_tuple : mg "tuple" = none
  z_zip : mg "zip" = none
  c_MOST_AHEAD : mg "MOST_AHEAD" = some (.int 2 (tk 0))
  c_MOST_HANDS : mg "MOST_HANDS" = some (.int 3 (tk 1))
  c_MOST_POINTS : mg "MOST_POINTS" = some (.int 60 (tk 2))
  c_MOST_SHOWN : mg "MOST_SHOWN" = some (.int 5 (tk 3))
  c_MOST_TO : mg "MOST_TO" = some (.int 5 (tk 4))
  c_MOST_WORDS : mg "MOST_WORDS" = some (.int 6 (tk 5))
def relS (sc sc0 : Scope) : Scope := { sc with names := sc.names.map fun (n, k) => if (k == NameKind.free && sc0.kind == .function && sc0.names.lookup n == some .cell) then (n, NameKind.cell) else (n, k) }
theorem blkOk_in {X : Cx} {s : Shared} {H : Hp} {sc sc0 scope : Scope} {cl : List (Str × Addr)} {C : Addr} {env : Env} {fp : List Addr} {N : List Str} {own : List (Str × Nat)} (e : env.scope = sc0) (h : blkC N (relS sc sc0) scope own = true) : BlkOk N (X.blk s H sc (compEnvC sc cl C env) fp).env.scope scope own := by
  subst e
  exact blkOk_by h
theorem lamS_in {X : Cx} {s : Shared} {H : Hp} {sc sc0 scope : Scope} {cl : List (Str × Addr)} {C : Addr} {env : Env} {fp : List Addr} (e : env.scope = sc0) (h : LamX.lamSB (relS sc sc0) scope = true) : LamX.LamS (X.blk s H sc (compEnvC sc cl C env) fp).env.scope scope := by
  subst e
  exact LamX.lamS_by h
structure PmOk (C : R.Cf) (pm : Pm) : Prop where
  nn : ∀ j, 10 ≤ j → 0 ≤ C.ρ j
  md : ∀ v j z, pm.md v j = some z → ∃ i m : Int, (∀ α n H u, Vr C α n H v u → u = .int i) ∧ (∀ α n H, Vr C α n H z (.int m)) ∧ 0 < j ∧ m = i % j
  dv : ∀ v j z, pm.dv v j = some z → ∃ i m : Int, (∀ α n H u, Vr C α n H v u → u = .int i) ∧ (∀ α n H, Vr C α n H z (.int m)) ∧ ((0 < j ∧ j < 1073741824 ∧ m = i / j) ∨ (j = 0 ∧ m = if i < 0 then -i else i))
section
variable {P : Program} {w : World} {K : PySem.W.Frag} {mg : Str → Option Value} {base : Heap} {fa : Nat → Addr} {ff : Nat → FuncData} {tk : Nat → Tok} {ca ka cc pp : Nat → Addr} {ρ : Nat → Int} {ns : List Int} {pm : Pm}
theorem ks_ok (T : Txt K mg fa ff tk ca ka cc) (hp : PmOk (cn K w ca ka fa pp ρ ns) pm) {run : Nat → List RV → Hs → Ot} : KsR (cn K w ca ka fa pp ρ ns) (gtOf pm run) := by
  refine ⟨fun c => ?_, fun k d h => ?_, fun j h => hp.nn j (of_decide_eq_true h), hp.md, hp.dv, fun c r h => ?_, fun c l h => ?_, fun c r c' b h1 h2 => ?_⟩
  · show ∃ f, kvo ka fa c = .ref f
    unfold kvo
    split <;> exact ⟨_, rfl⟩
  · match k, h with
    | 0, h => cases h; intro α n H; rw [vr_tp]; exact ⟨_, _, rfl, sqt_emp T.k_KINDS, .cons (by rw [vr_str]) (.cons (by rw [vr_str]) (.nil))⟩
    | k + 1, h => simp [gtOf, kss] at h
  · simp only [gtOf, sbs] at h
    split at h
    · exact ⟨T.cl_Answer, T.ty_Answer⟩
    · exact ⟨T.cl_History, T.ty_History⟩
    · exact ⟨T.cl_Never, T.ty_Never⟩
    · exact ⟨T.cl_Leads, T.ty_Leads⟩
    · cases h
  · simp only [gtOf, fns] at h
    split at h
    · cases h; exact ⟨T.cl_Answer, fun f hf => by simp at hf⟩
    · cases h; exact ⟨T.cl_History, fun f hf => by
        simp only [List.mem_cons, List.not_mem_nil, or_false] at hf
        subst hf; exact T.na_History_heard⟩
    · cases h; exact ⟨T.cl_Never, fun f hf => by
        simp only [List.mem_cons, List.not_mem_nil, or_false] at hf
        subst hf; exact T.na_Never_lists⟩
    · cases h; exact ⟨T.cl_Leads, fun f hf => by
        simp only [List.mem_cons, List.not_mem_nil, or_false] at hf
        rcases hf with rfl | rfl | rfl | rfl
        · exact T.na_Leads_least
        · exact T.na_Leads_low
        · exact T.na_Leads_most
        · exact T.na_Leads_high⟩
    · cases h
  · simp only [gtOf, sbs] at h1
    split at h1
    · cases h1; match c', h2 with
      | 0, h2 => cases h2; exact T.sb_12_12
      | 1, h2 => cases h2; exact T.sb_12_13
      | 2, h2 => cases h2; exact T.sb_12_14
      | 3, h2 => cases h2; exact T.sb_12_15
      | n + 4, h2 => simp at h2
    · cases h1; match c', h2 with
      | 0, h2 => cases h2; exact T.sb_13_12
      | 1, h2 => cases h2; exact T.sb_13_13
      | 2, h2 => cases h2; exact T.sb_13_14
      | 3, h2 => cases h2; exact T.sb_13_15
      | n + 4, h2 => simp at h2
    · cases h1; match c', h2 with
      | 0, h2 => cases h2; exact T.sb_14_12
      | 1, h2 => cases h2; exact T.sb_14_13
      | 2, h2 => cases h2; exact T.sb_14_14
      | 3, h2 => cases h2; exact T.sb_14_15
      | n + 4, h2 => simp at h2
    · cases h1; match c', h2 with
      | 0, h2 => cases h2; exact T.sb_15_12
      | 1, h2 => cases h2; exact T.sb_15_13
      | 2, h2 => cases h2; exact T.sb_15_14
      | 3, h2 => cases h2; exact T.sb_15_15
      | n + 4, h2 => simp at h2
    · cases h1
end
end K11

namespace K11
open PySem PySem.Spec PyProof.Rows L2 R G
/-! each def's HandS term, by genr.py -/
structure Sem (P : Program) (w : World) (K : PySem.W.Frag) (mg : Str → Option Value) (base : Heap) (fa : Nat → Addr) (ff : Nat → FuncData) (ca ka cc pp : Nat → Addr) (ρ : Nat → Int) (ns : List Int) (pm : Pm) : Prop where
  ok__law_cell_at : FnOk P w K mg base CX0 1 (fa 25) (ff 25) ["_law_script", "_law_k"] (spR (cn K w ca ka fa pp ρ ns) (pm.sem 25))
  tb_0 : LamX.TabB base mg (cc 0) (pp 0)
section
variable {P : Program} {w : World} {K : PySem.W.Frag} {mg : Str → Option Value} {base : Heap} {fa : Nat → Addr} {ff : Nat → FuncData} {tk : Nat → Tok} {ca ka cc pp : Nat → Addr} {ρ : Nat → Int} {ns : List Int} {pm : Pm}
theorem ksD (K : PySem.W.Frag) (w : World) {ga : G.Ga} (h : ga.ks = [] ∧ ga.cn = [] ∧ ga.sub = []) : KsOk ⟨K, fun _ => (0, []), w, fun _ => .non⟩ ga := ⟨fun k d z => by rw [h.1] at z; simp at z, fun c ns z => by rw [h.2.1] at z; simp at z, fun c r c' b z => by rw [h.2.2] at z; simp at z⟩
theorem tbm_0 (Sm : Sem P w K mg base fa ff ca ka cc pp ρ ns pm) (q : Str) (e : q = (envOfC "_law_rows_one" (defScope s__law_rows_one) 0 0 .none).qual) : (pp 0, q ++ "<lambda>") ∈ tbs pp ∧ ∀ p ∈ tbs pp, p.1 = pp 0 → p.2 = q ++ "<lambda>" := by
  subst e
  refine ⟨by simp [tbs], fun p hp z => ?_⟩
  simp only [tbs, List.mem_cons, List.not_mem_nil, or_false] at hp
  rcases hp with rfl
  · rfl
theorem ok_is_whole (T : Txt K mg fa ff tk ca ka cc) (hp : PmOk (cn K w ca ka fa pp ρ ns) pm) (Sm : Sem P w K mg base fa ff ca ka cc pp ρ ns pm) : (n : Nat) → FnOk P w K mg base (L2.CX P w) (2 * n) (fa 0) (ff 0) ["thing"] (spR (cn K w ca ka fa pp ρ ns) (run pm n 0))
  | 0 => fn_no
  | n + 1 => fnR_c (P := P) (mg := mg) (base := base) (C := cn K w ca ka fa pp ρ ns) (k := 2 * n + 1) rfl T.f_is_whole.F sc_is_whole (ks_ok (w := w) T hp) fun cdv A outer s H E hr =>
    (pss_cons (ps_ret (pe_and (pe_callB call_isi (by rfl) T.z_isinstance (by decide +kernel) (pa_cons (pv 0) (pa_cons (pe_bltn (v := .ty "int") (by rfl) T.z_int (by decide +kernel) rfl) pa_nil))) (pe_one (pe_not (pe_callB call_isi (by rfl) T.z_isinstance (by decide +kernel) (pa_cons (pv 0) (pa_cons (pe_bltn (v := .ty "bool") (by rfl) T.z_bool (by decide +kernel) rfl) pa_nil))))))) pss_nil)
theorem ok_is_count (T : Txt K mg fa ff tk ca ka cc) (hp : PmOk (cn K w ca ka fa pp ρ ns) pm) (Sm : Sem P w K mg base fa ff ca ka cc pp ρ ns pm) : (n : Nat) → FnOk P w K mg base (L2.CX P w) (2 * n) (fa 1) (ff 1) ["thing", "least", "most"] (spR (cn K w ca ka fa pp ρ ns) (run pm n 1))
  | 0 => fn_no
  | n + 1 => fnR_c (P := P) (mg := mg) (base := base) (C := cn K w ca ka fa pp ρ ns) (k := 2 * n + 1) rfl T.f_is_count.F sc_is_count (ks_ok (w := w) T hp) fun cdv A outer s H E hr =>
    (pss_cons (ps_ret (pe_and (pe_call (ok_is_whole T hp Sm n) (hr.mono (by omega)) (by rfl) T.f_is_whole.g T.f_is_whole.F.kp T.f_is_whole.b .nil passF (pa_cons (pv 0) pa_nil)) (pe_one (pe_chain op_le op_le (pv 1) (pv 0) (pv 2))))) pss_nil)
theorem ok_is_word (T : Txt K mg fa ff tk ca ka cc) (hp : PmOk (cn K w ca ka fa pp ρ ns) pm) (Sm : Sem P w K mg base fa ff ca ka cc pp ρ ns pm) : (n : Nat) → FnOk P w K mg base (L2.CX P w) (2 * n) (fa 2) (ff 2) ["thing"] (spR (cn K w ca ka fa pp ρ ns) (run pm n 2))
  | 0 => fn_no
  | n + 1 => fnR_c (P := P) (mg := mg) (base := base) (C := cn K w ca ka fa pp ρ ns) (k := 2 * n + 1) rfl T.f_is_word.F sc_is_word (ks_ok (w := w) T hp) fun cdv A outer s H E hr =>
    (pss_cons (ps_if (PW.pt (pw_or (pt_not (pt_val (pe_callB call_isi (by rfl) T.z_isinstance (by decide +kernel) (pa_cons (pv 0) (pa_cons (pe_bltn (v := .ty "tuple") (by rfl) T.z_tuple (by decide +kernel) rfl) pa_nil))))) (pw_or (pt_neR (C := cn K w ca ka fa pp ρ ns) rfl hr.units (pe_callB call_len_seq (by rfl) T.z_len PySem.boot_len (pa_cons (pv 0) pa_nil)) pe_int (nomark _)) (pw_or1 (pt_not (pt_val (pe_callB call_isi (by rfl) T.z_isinstance (by decide +kernel) (pa_cons (pe_ix ix_seq (pv 0) pe_int (fun _ _ => rfl)) (pa_cons (pe_bltn (v := .ty "str") (by rfl) T.z_str (by decide +kernel) rfl) pa_nil))))))))) (pss_cons (ps_ret pe_bl) pss_nil) pss_nil) (pss_cons (ps_ret (pe_and (pe_cmpR op_in_seq (pe_ix ix_seq (pv 0) pe_int (fun _ _ => rfl)) (pe_glob rfl T.g_KINDS rfl) (by with_unfolding_all rfl)) (pe_one (pe_call (ok_is_count T hp Sm n) (hr.mono (by omega)) (by rfl) T.f_is_count.g T.f_is_count.F.kp T.f_is_count.b .nil passF (pa_cons (pe_ix ix_seq (pv 0) pe_int (fun _ _ => rfl)) (pa_cons pe_int (pa_cons pe_int pa_nil))))))) pss_nil))
theorem ok_check_notes (T : Txt K mg fa ff tk ca ka cc) (hp : PmOk (cn K w ca ka fa pp ρ ns) pm) (Sm : Sem P w K mg base fa ff ca ka cc pp ρ ns pm) : (n : Nat) → FnOk P w K mg base (L2.CX P w) (2 * n) (fa 3) (ff 3) ["notes"] (spR (cn K w ca ka fa pp ρ ns) (run pm n 3))
  | 0 => fn_no
  | n + 1 => fnR_c (P := P) (mg := mg) (base := base) (C := cn K w ca ka fa pp ρ ns) (k := 2 * n + 1) rfl T.f_check_notes.F sc_check_notes (ks_ok (w := w) T hp) fun cdv A outer s H E hr =>
    (pss_cons (ps_if (PW.pt (pw_or (pt_not (pt_val (pe_callB call_isi (by rfl) T.z_isinstance (by decide +kernel) (pa_cons (pv 0) (pa_cons (pe_bltn (v := .ty "list") (by rfl) T.z_list (by decide +kernel) rfl) pa_nil))))) (pw_or1 (pt_not (pt_chain op_le op_le pe_int (pe_callB call_len_seq (by rfl) T.z_len PySem.boot_len (pa_cons (pv 0) pa_nil)) (by exact pe_glob rfl T.c_MOST_HANDS ⟨_, rfl⟩)))))) (pss_cons (ps_raise rfl (takes_of rfl rfl rfl rfl) (pmk_own PySem.F.excBase_ValueError T.xe_BadNotes T.g_BadNotes T.xk_BadNotes (raises_own T.xs_BadNotes T.xt_BadNotes) (by rfl))) pss_nil) pss_nil) (pss_cons (ps_for (passes_of rfl) rfl (pi_list (pv 0)) (pg_name (i := 1) sc_check_notes.nd rfl (.inl rfl)) (pss_cons (ps_if (PW.pt (pw_or (pt_not (pt_val (pe_callB call_isi (by rfl) T.z_isinstance (by decide +kernel) (pa_cons (pv 1) (pa_cons (pe_bltn (v := .ty "list") (by rfl) T.z_list (by decide +kernel) rfl) pa_nil))))) (pw_or (pt_cmpR op_gt (pe_callB call_len_seq (by rfl) T.z_len PySem.boot_len (pa_cons (pv 1) pa_nil)) (by exact pe_glob rfl T.c_MOST_WORDS ⟨_, rfl⟩) (nomark _)) (pw_or1 (pt_not (pt_val (pe_callB (cr_all rfl) (by rfl) T.z_all (by decide +kernel) (pa_cons (pe_lc (own := [("word", 2)]) (by rfl) sc_check_notes.nd (pi_list (pv 1)) (blkOk_by (own := [("word", 2)]) (N := N_check_notes) (sc := defScope s_check_notes) (by decide +kernel)) (fun _ _ _ _ _ => (pg_name (i := 2) sc_check_notes.nd rfl (.inl rfl))) (fun _ _ _ _ _ => pts_nil) (fun _ _ _ _ _ => (pe_call (ok_is_word T hp Sm n) (hr.mono (by omega)) (by rfl) T.f_is_word.g T.f_is_word.F.kp T.f_is_word.b .nil passF (pa_cons (pv 2) pa_nil)))) pa_nil)))))))) (pss_cons (ps_raise rfl (takes_of rfl rfl rfl rfl) (pmk_own PySem.F.excBase_ValueError T.xe_BadNotes T.g_BadNotes T.xk_BadNotes (raises_own T.xs_BadNotes T.xt_BadNotes) (by rfl))) pss_nil) pss_nil) pss_nil)) pss_nil))
theorem ok_check_hand (T : Txt K mg fa ff tk ca ka cc) (hp : PmOk (cn K w ca ka fa pp ρ ns) pm) (Sm : Sem P w K mg base fa ff ca ka cc pp ρ ns pm) : (n : Nat) → FnOk P w K mg base (L2.CX P w) (2 * n) (fa 4) (ff 4) ["many", "hand"] (spR (cn K w ca ka fa pp ρ ns) (run pm n 4))
  | 0 => fn_no
  | n + 1 => fnR_c (P := P) (mg := mg) (base := base) (C := cn K w ca ka fa pp ρ ns) (k := 2 * n + 1) rfl T.f_check_hand.F sc_check_hand (ks_ok (w := w) T hp) fun cdv A outer s H E hr =>
    (pss_cons (ps_if (pt_not (pt_val (pe_call (ok_is_count T hp Sm n) (hr.mono (by omega)) (by rfl) T.f_is_count.g T.f_is_count.F.kp T.f_is_count.b .nil passF (pa_cons (pv 1) (pa_cons pe_int (pa_cons (pe_binR (C := cn K w ca ka fa pp ρ ns) (o := .sub) op_sub (pv 0) pe_int) pa_nil)))))) (pss_cons (ps_raise rfl (takes_of rfl rfl rfl rfl) (pmk_own PySem.F.excBase_ValueError T.xe_BadHand T.g_BadHand T.xk_BadHand (raises_own T.xs_BadHand T.xt_BadHand) (by rfl))) pss_nil) pss_nil) pss_nil)
theorem ok_score_of (T : Txt K mg fa ff tk ca ka cc) (hp : PmOk (cn K w ca ka fa pp ρ ns) pm) (Sm : Sem P w K mg base fa ff ca ka cc pp ρ ns pm) : (n : Nat) → FnOk P w K mg base (L2.CX P w) (2 * n) (fa 5) (ff 5) ["notes", "heard"] (spR (cn K w ca ka fa pp ρ ns) (run pm n 5))
  | 0 => fn_no
  | n + 1 => fnR_c (P := P) (mg := mg) (base := base) (C := cn K w ca ka fa pp ρ ns) (k := 2 * n + 1) rfl T.f_score_of.F sc_score_of (ks_ok (w := w) T hp) fun cdv A outer s H E hr =>
    (pss_cons (ps_set (i := 2) sc_score_of.nd rfl (.inl rfl) (pe_lst (pa_cons pe_int (pa_cons pe_int pa_nil)))) (pss_cons (ps_for (passes_of rfl) rfl (pi_zip (by rfl) T.z_zip (pa_cons (pv 0) (pa_cons (pv 1) pa_nil))) (pg_tup rfl (pgs_cons (pg_name (i := 3) sc_score_of.nd rfl (.inl rfl)) (pgs_cons (pg_name (i := 4) sc_score_of.nd rfl (.inl rfl)) pgs_nil))) (pss_cons (ps_for (passes_of rfl) rfl (pi_list (pe_slice sl_list (pv 3) po_none (po_some (pv 4)))) (pg_tup rfl (pgs_cons (pg_name (i := 5) sc_score_of.nd rfl (.inl rfl)) (pgs_cons (pg_name (i := 6) sc_score_of.nd rfl (.inl rfl)) pgs_nil))) (pss_cons (ps_augS (pv 2) (pv 6) get_list (pe_ifExp (pt_eqR (C := cn K w ca ka fa pp ρ ns) rfl hr.units (pv 5) pe_str (nomark _)) pe_int (pe_neg (C := cn K w ca ka fa pp ρ ns) pe_int)) ip_add set_list) pss_nil)) pss_nil)) (pss_cons (ps_ret (pe_tup (pa_cons (pe_ix ix_seq (pv 2) pe_int (fun _ _ => rfl)) (pa_cons (pe_ix ix_seq (pv 2) pe_int (fun _ _ => rfl)) pa_nil)))) pss_nil)))
theorem ok_is_heard (T : Txt K mg fa ff tk ca ka cc) (hp : PmOk (cn K w ca ka fa pp ρ ns) pm) (Sm : Sem P w K mg base fa ff ca ka cc pp ρ ns pm) : (n : Nat) → FnOk P w K mg base (L2.CX P w) (2 * n) (fa 6) (ff 6) ["notes", "heard"] (spR (cn K w ca ka fa pp ρ ns) (run pm n 6))
  | 0 => fn_no
  | n + 1 => fnR_c (P := P) (mg := mg) (base := base) (C := cn K w ca ka fa pp ρ ns) (k := 2 * n + 1) rfl T.f_is_heard.F sc_is_heard (ks_ok (w := w) T hp) fun cdv A outer s H E hr =>
    (pss_cons (ps_if (pt_neR (C := cn K w ca ka fa pp ρ ns) rfl hr.units (pe_callB call_len_seq (by rfl) T.z_len PySem.boot_len (pa_cons (pv 1) pa_nil)) (pe_callB call_len_seq (by rfl) T.z_len PySem.boot_len (pa_cons (pv 0) pa_nil)) (nomark _)) (pss_cons (ps_ret pe_bl) pss_nil) pss_nil) (pss_cons (ps_ret (pe_callB (cr_all rfl) (by rfl) T.z_all (by decide +kernel) (pa_cons (pe_lc (own := [("words", 2), ("many", 3)]) (by rfl) sc_is_heard.nd (pi_zip (by rfl) T.z_zip (pa_cons (pv 0) (pa_cons (pv 1) pa_nil))) (blkOk_by (own := [("words", 2), ("many", 3)]) (N := N_is_heard) (sc := defScope s_is_heard) (by decide +kernel)) (fun _ _ _ _ _ => (pg_tup rfl (pgs_cons (pg_name (i := 2) sc_is_heard.nd rfl (.inl rfl)) (pgs_cons (pg_name (i := 3) sc_is_heard.nd rfl (.inl rfl)) pgs_nil)))) (fun _ _ _ _ _ => pts_nil) (fun _ _ _ _ _ => (pe_chain op_le op_le pe_int (pv 3) (pe_callB call_len_seq (by rfl) T.z_len PySem.boot_len (pa_cons (pv 2) pa_nil))))) pa_nil))) pss_nil))
theorem ok_all_heard (T : Txt K mg fa ff tk ca ka cc) (hp : PmOk (cn K w ca ka fa pp ρ ns) pm) (Sm : Sem P w K mg base fa ff ca ka cc pp ρ ns pm) : (n : Nat) → FnOk P w K mg base (L2.CX P w) (2 * n) (fa 7) (ff 7) ["notes", "hand", "said"] (spR (cn K w ca ka fa pp ρ ns) (run pm n 7))
  | 0 => fn_no
  | n + 1 => fnR_c (P := P) (mg := mg) (base := base) (C := cn K w ca ka fa pp ρ ns) (k := 2 * n + 1) rfl T.f_all_heard.F sc_all_heard (ks_ok (w := w) T hp) fun cdv A outer s H E hr =>
    (pss_cons (ps_set (i := 3) sc_all_heard.nd rfl (.inl rfl) (pe_lst (pa_cons (pe_lst pa_nil) pa_nil))) (pss_cons (ps_for (passes_of rfl) rfl (pi_enum (by rfl) T.z_enumerate (pa_cons (pv 0) pa_nil)) (pg_tup rfl (pgs_cons (pg_name (i := 4) sc_all_heard.nd rfl (.inr rfl)) (pgs_cons (pg_name (i := 5) sc_all_heard.nd rfl (.inl rfl)) pgs_nil))) (pss_cons (ps_set (i := 6) sc_all_heard.nd rfl (.inl rfl) (pe_lst pa_nil)) (pss_cons (ps_for (passes_of rfl) rfl (pi_list (pv 3)) (pg_name (i := 7) sc_all_heard.nd rfl (.inr rfl)) (pss_cons (ps_expr (pe_bm PySem.F.plainAttrs_list PySem.F.slot_list_extend PySem.F.type_list_extend mt_extend (pv 6) (pa_cons (pe_lc (own := [("many", 8)]) (by rfl) sc_all_heard.nd (pi_range1 (by rfl) T.z_range (pa_cons (pe_binR (C := cn K w ca ka fa pp ρ ns) (o := .add) op_add (pe_callB call_len_seq (by rfl) T.z_len PySem.boot_len (pa_cons (pv 5) pa_nil)) pe_int) pa_nil)) (blkOk_by (own := [("many", 8)]) (N := N_all_heard) (sc := defScope s_all_heard) (by decide +kernel)) (fun _ _ _ _ _ => (pg_name (i := 8) sc_all_heard.nd rfl (.inl rfl))) (fun _ _ _ _ _ => (pts_one (PW.pt (pw_or (pt_neR (C := cn K w ca ka fa pp ρ ns) rfl hr.units (pv 4) (pv 1) (nomark _)) (pw_or1 (pt_eqR (C := cn K w ca ka fa pp ρ ns) rfl hr.units (pv 8) (pv 2) (nomark _))))))) (fun _ _ _ _ _ => (pe_op op_cat (pv 7) (pe_lst (pa_cons (pv 8) pa_nil))))) pa_nil))) pss_nil)) (pss_cons (ps_set (i := 3) sc_all_heard.nd rfl (.inl rfl) (pv 6)) pss_nil)))) (pss_cons (ps_ret (pv 3)) pss_nil)))
theorem ok_is_no_less (T : Txt K mg fa ff tk ca ka cc) (hp : PmOk (cn K w ca ka fa pp ρ ns) pm) (Sm : Sem P w K mg base fa ff ca ka cc pp ρ ns pm) : (n : Nat) → FnOk P w K mg base (L2.CX P w) (2 * n) (fa 8) (ff 8) ["heard", "other"] (spR (cn K w ca ka fa pp ρ ns) (run pm n 8))
  | 0 => fn_no
  | n + 1 => fnR_c (P := P) (mg := mg) (base := base) (C := cn K w ca ka fa pp ρ ns) (k := 2 * n + 1) rfl T.f_is_no_less.F sc_is_no_less (ks_ok (w := w) T hp) fun cdv A outer s H E hr =>
    (pss_cons (ps_ret (pe_callB (cr_all rfl) (by rfl) T.z_all (by decide +kernel) (pa_cons (pe_lc (own := [("mine", 2), ("theirs", 3)]) (by rfl) sc_is_no_less.nd (pi_zip (by rfl) T.z_zip (pa_cons (pv 0) (pa_cons (pv 1) pa_nil))) (blkOk_by (own := [("mine", 2), ("theirs", 3)]) (N := N_is_no_less) (sc := defScope s_is_no_less) (by decide +kernel)) (fun _ _ _ _ _ => (pg_tup rfl (pgs_cons (pg_name (i := 2) sc_is_no_less.nd rfl (.inl rfl)) (pgs_cons (pg_name (i := 3) sc_is_no_less.nd rfl (.inl rfl)) pgs_nil)))) (fun _ _ _ _ _ => pts_nil) (fun _ _ _ _ _ => (pe_cmpR op_ge (pv 2) (pv 3) (nomark _)))) pa_nil))) pss_nil)
theorem ok_gone_over (T : Txt K mg fa ff tk ca ka cc) (hp : PmOk (cn K w ca ka fa pp ρ ns) pm) (Sm : Sem P w K mg base fa ff ca ka cc pp ρ ns pm) : (n : Nat) → FnOk P w K mg base (L2.CX P w) (2 * n) (fa 9) (ff 9) ["rule", "points"] (spR (cn K w ca ka fa pp ρ ns) (run pm n 9))
  | 0 => fn_no
  | n + 1 => fnR_c (P := P) (mg := mg) (base := base) (C := cn K w ca ka fa pp ρ ns) (k := 2 * n + 1) rfl T.f_gone_over.F sc_gone_over (ks_ok (w := w) T hp) fun cdv A outer s H E hr =>
    (pss_cons (ps_asg (pv 0) (pg_tup rfl (pgs_cons (pg_name (i := 3) sc_gone_over.nd rfl (.inl rfl)) (pgs_cons (pg_name (i := 4) sc_gone_over.nd rfl (.inl rfl)) pgs_nil)))) (pss_cons (ps_par (by rfl) sc_gone_over.nd rfl rfl (by decide) rfl rfl (pa_cons (pe_lst pa_nil) (pa_cons (pe_lst (pa_cons pe_int (pa_cons pe_int pa_nil))) pa_nil)) (by rfl)) (pss_cons (ps_for (passes_of rfl) rfl (pi_list (pv 1)) (pg_name (i := 2) sc_gone_over.nd rfl (.inl rfl)) (pss_cons (ps_augS (pv 6) (pv 2) get_list pe_int ip_add set_list) (pss_cons (ps_if (PW.pt (pw_and (pt_cmpR op_ge (pe_ix ix_seq (pv 6) (pv 2) (fun _ _ => rfl)) (pv 3) (nomark _)) (pw_and1 (pt_cmpR op_ge (pe_binR (C := cn K w ca ka fa pp ρ ns) (o := .sub) op_sub (pe_ix ix_seq (pv 6) (pv 2) (fun _ _ => rfl)) (pe_ix ix_seq (pv 6) (pe_binR (C := cn K w ca ka fa pp ρ ns) (o := .sub) op_sub pe_int (pv 2)) (fun _ _ => rfl))) (pv 4) (nomark _))))) (pss_cons (ps_expr (pe_bm PySem.F.plainAttrs_list PySem.F.slot_list_append PySem.F.type_list_append mt_append (pv 5) (pa_cons (pv 2) pa_nil))) (pss_cons (ps_set (i := 6) sc_gone_over.nd rfl (.inl rfl) (pe_lst (pa_cons pe_int (pa_cons pe_int pa_nil)))) pss_nil)) pss_nil) pss_nil))) (pss_cons (ps_ret (pe_tup (pa_cons (pv 5) (pa_cons (pe_tup (pa_cons (pe_ix ix_seq (pv 6) pe_int (fun _ _ => rfl)) (pa_cons (pe_ix ix_seq (pv 6) pe_int (fun _ _ => rfl)) pa_nil))) pa_nil)))) pss_nil))))
theorem ok_check_game (T : Txt K mg fa ff tk ca ka cc) (hp : PmOk (cn K w ca ka fa pp ρ ns) pm) (Sm : Sem P w K mg base fa ff ca ka cc pp ρ ns pm) : (n : Nat) → FnOk P w K mg base (L2.CX P w) (2 * n) (fa 10) (ff 10) ["rule", "points"] (spR (cn K w ca ka fa pp ρ ns) (run pm n 10))
  | 0 => fn_no
  | n + 1 => fnR_c (P := P) (mg := mg) (base := base) (C := cn K w ca ka fa pp ρ ns) (k := 2 * n + 1) rfl T.f_check_game.F sc_check_game (ks_ok (w := w) T hp) fun cdv A outer s H E hr =>
    (pss_cons (ps_if (PW.pt (pw_or (pt_not (pt_val (pe_callB call_isi (by rfl) T.z_isinstance (by decide +kernel) (pa_cons (pv 0) (pa_cons (pe_bltn (v := .ty "tuple") (by rfl) T.z_tuple (by decide +kernel) rfl) pa_nil))))) (pw_or (pt_neR (C := cn K w ca ka fa pp ρ ns) rfl hr.units (pe_callB call_len_seq (by rfl) T.z_len PySem.boot_len (pa_cons (pv 0) pa_nil)) pe_int (nomark _)) (pw_or1 (pt_not (pt_val (pe_call (ok_is_count T hp Sm n) (hr.mono (by omega)) (by rfl) T.f_is_count.g T.f_is_count.F.kp T.f_is_count.b .nil passF (pa_cons (pe_ix ix_seq (pv 0) pe_int (fun _ _ => rfl)) (pa_cons pe_int (pa_cons (by exact pe_glob rfl T.c_MOST_TO ⟨_, rfl⟩) pa_nil)))))))))) (pss_cons (ps_raise rfl (takes_of rfl rfl rfl rfl) (pmk_own PySem.F.excBase_ValueError T.xe_BadRule T.g_BadRule T.xk_BadRule (raises_own T.xs_BadRule T.xt_BadRule) (by rfl))) pss_nil) pss_nil) (pss_cons (ps_if (pt_not (pt_val (pe_call (ok_is_count T hp Sm n) (hr.mono (by omega)) (by rfl) T.f_is_count.g T.f_is_count.F.kp T.f_is_count.b .nil passF (pa_cons (pe_ix ix_seq (pv 0) pe_int (fun _ _ => rfl)) (pa_cons pe_int (pa_cons (by exact pe_glob rfl T.c_MOST_AHEAD ⟨_, rfl⟩) pa_nil)))))) (pss_cons (ps_raise rfl (takes_of rfl rfl rfl rfl) (pmk_own PySem.F.excBase_ValueError T.xe_BadRule T.g_BadRule T.xk_BadRule (raises_own T.xs_BadRule T.xt_BadRule) (by rfl))) pss_nil) pss_nil) (pss_cons (ps_if (PW.pt (pw_or (pt_not (pt_val (pe_callB call_isi (by rfl) T.z_isinstance (by decide +kernel) (pa_cons (pv 1) (pa_cons (pe_bltn (v := .ty "list") (by rfl) T.z_list (by decide +kernel) rfl) pa_nil))))) (pw_or (pt_cmpR op_gt (pe_callB call_len_seq (by rfl) T.z_len PySem.boot_len (pa_cons (pv 1) pa_nil)) (by exact pe_glob rfl T.c_MOST_POINTS ⟨_, rfl⟩) (nomark _)) (pw_or1 (pt_not (pt_val (pe_callB (cr_all rfl) (by rfl) T.z_all (by decide +kernel) (pa_cons (pe_lc (own := [("one", 2)]) (by rfl) sc_check_game.nd (pi_list (pv 1)) (blkOk_by (own := [("one", 2)]) (N := N_check_game) (sc := defScope s_check_game) (by decide +kernel)) (fun _ _ _ _ _ => (pg_name (i := 2) sc_check_game.nd rfl (.inl rfl))) (fun _ _ _ _ _ => pts_nil) (fun _ _ _ _ _ => (pe_call (ok_is_count T hp Sm n) (hr.mono (by omega)) (by rfl) T.f_is_count.g T.f_is_count.F.kp T.f_is_count.b .nil passF (pa_cons (pv 2) (pa_cons pe_int (pa_cons pe_int pa_nil)))))) pa_nil)))))))) (pss_cons (ps_raise rfl (takes_of rfl rfl rfl rfl) (pmk_own PySem.F.excBase_ValueError T.xe_BadPoints T.g_BadPoints T.xk_BadPoints (raises_own T.xs_BadPoints T.xt_BadPoints) (by rfl))) pss_nil) pss_nil) pss_nil)))
theorem ok_games (T : Txt K mg fa ff tk ca ka cc) (hp : PmOk (cn K w ca ka fa pp ρ ns) pm) (Sm : Sem P w K mg base fa ff ca ka cc pp ρ ns pm) : (n : Nat) → FnOk P w K mg base (L2.CX P w) (2 * n) (fa 11) (ff 11) ["rule", "points"] (spR (cn K w ca ka fa pp ρ ns) (run pm n 11))
  | 0 => fn_no
  | n + 1 => fnR_c (P := P) (mg := mg) (base := base) (C := cn K w ca ka fa pp ρ ns) (k := 2 * n + 1) rfl T.f_games.F sc_games (ks_ok (w := w) T hp) fun cdv A outer s H E hr =>
    (pss_cons (ps_expr (pe_call (ok_check_game T hp Sm n) (hr.mono (by omega)) (by rfl) T.f_check_game.g T.f_check_game.F.kp T.f_check_game.b .nil (passes_call (takes_of rfl rfl rfl rfl) (fun _ _ _ _ h => h)) (pa_cons (pv 0) (pa_cons (pv 1) pa_nil)))) (pss_cons (ps_ret (pe_call (ok_gone_over T hp Sm n) (hr.mono (by omega)) (by rfl) T.f_gone_over.g T.f_gone_over.F.kp T.f_gone_over.b .nil passF (pa_cons (pv 0) (pa_cons (pv 1) pa_nil)))) pss_nil))
theorem ok_game_point (T : Txt K mg fa ff tk ca ka cc) (hp : PmOk (cn K w ca ka fa pp ρ ns) pm) (Sm : Sem P w K mg base fa ff ca ka cc pp ρ ns pm) : (n : Nat) → FnOk P w K mg base (L2.CX P w) (2 * n) (fa 12) (ff 12) ["rule", "points", "side"] (spR (cn K w ca ka fa pp ρ ns) (run pm n 12))
  | 0 => fn_no
  | n + 1 => fnR_c (P := P) (mg := mg) (base := base) (C := cn K w ca ka fa pp ρ ns) (k := 2 * n + 1) rfl T.f_game_point.F sc_game_point (ks_ok (w := w) T hp) fun cdv A outer s H E hr =>
    (pss_cons (ps_expr (pe_call (ok_check_game T hp Sm n) (hr.mono (by omega)) (by rfl) T.f_check_game.g T.f_check_game.F.kp T.f_check_game.b .nil (passes_call (takes_of rfl rfl rfl rfl) (fun _ _ _ _ h => h)) (pa_cons (pv 0) (pa_cons (pv 1) pa_nil)))) (pss_cons (ps_if (pt_not (pt_val (pe_call (ok_is_count T hp Sm n) (hr.mono (by omega)) (by rfl) T.f_is_count.g T.f_is_count.F.kp T.f_is_count.b .nil passF (pa_cons (pv 2) (pa_cons pe_int (pa_cons pe_int pa_nil)))))) (pss_cons (ps_raise rfl (takes_of rfl rfl rfl rfl) (pmk_own PySem.F.excBase_ValueError T.xe_BadSide T.g_BadSide T.xk_BadSide (raises_own T.xs_BadSide T.xt_BadSide) (by rfl))) pss_nil) pss_nil) (pss_cons (ps_ret (pe_cmpR op_gt (pe_callB call_len_seq (by rfl) T.z_len PySem.boot_len (pa_cons (pe_ix ix_seq (pe_call (ok_gone_over T hp Sm n) (hr.mono (by omega)) (by rfl) T.f_gone_over.g T.f_gone_over.F.kp T.f_gone_over.b .nil passF (pa_cons (pv 0) (pa_cons (pe_op op_cat (pv 1) (pe_lst (pa_cons (pv 2) pa_nil))) pa_nil))) pe_int (fun _ _ => rfl)) pa_nil)) (pe_callB call_len_seq (by rfl) T.z_len PySem.boot_len (pa_cons (pe_ix ix_seq (pe_call (ok_gone_over T hp Sm n) (hr.mono (by omega)) (by rfl) T.f_gone_over.g T.f_gone_over.F.kp T.f_gone_over.b .nil passF (pa_cons (pv 0) (pa_cons (pv 1) pa_nil))) pe_int (fun _ _ => rfl)) pa_nil)) (nomark _))) pss_nil)))
theorem ok_History_init (T : Txt K mg fa ff tk ca ka cc) (hp : PmOk (cn K w ca ka fa pp ρ ns) pm) (Sm : Sem P w K mg base fa ff ca ka cc pp ρ ns pm) : (n : Nat) → FnOk P w K mg base (L2.CX P w) (2 * n) (fa 13) (ff 13) ["self", "heard"] (spR (cn K w ca ka fa pp ρ ns) (run pm n 13))
  | 0 => fn_no
  | n + 1 => fnR_c (P := P) (mg := mg) (base := base) (C := cn K w ca ka fa pp ρ ns) (k := 2 * n + 1) rfl T.F_History_init sc_History_init (ks_ok (w := w) T hp) fun cdv A outer s H E hr =>
    (pss_cons (ps_fld (pv 0) (pe_lc (own := [("some", 2)]) (by rfl) sc_History_init.nd (pi_list (pv 1)) (blkOk_by (own := [("some", 2)]) (N := N_History_init) (sc := defScope s_History_init) (by decide +kernel)) (fun _ _ _ _ _ => (pg_name (i := 2) sc_History_init.nd rfl (.inl rfl))) (fun _ _ _ _ _ => pts_nil) (fun _ _ _ _ _ => (pe_callTy call_list_of (by rfl) T.z_list (by decide +kernel) (pa_cons (pv 2) pa_nil)))) rfl) pss_nil)
theorem ok_History_shows (T : Txt K mg fa ff tk ca ka cc) (hp : PmOk (cn K w ca ka fa pp ρ ns) pm) (Sm : Sem P w K mg base fa ff ca ka cc pp ρ ns pm) : (n : Nat) → FnOk P w K mg base (L2.CX P w) (2 * n) (fa 14) (ff 14) ["self", "notes", "hand", "shown"] (spR (cn K w ca ka fa pp ρ ns) (run pm n 14))
  | 0 => fn_no
  | n + 1 => fnR_c (P := P) (mg := mg) (base := base) (C := cn K w ca ka fa pp ρ ns) (k := 2 * n + 1) rfl T.F_History_shows sc_History_shows (ks_ok (w := w) T hp) fun cdv A outer s H E hr =>
    (pss_cons (ps_set (i := 4) sc_History_shows.nd rfl (.inl rfl) (pe_fld (pv 0) rfl)) (pss_cons (ps_if (PW.pt (pw_or (pt_neR (C := cn K w ca ka fa pp ρ ns) rfl hr.units (pe_callB call_len_seq (by rfl) T.z_len PySem.boot_len (pa_cons (pv 4) pa_nil)) (pe_callB call_len_seq (by rfl) T.z_len PySem.boot_len (pa_cons (pv 3) pa_nil)) (nomark _)) (pw_or1 (pt_not (pt_val (pe_callB (cr_all rfl) (by rfl) T.z_all (by decide +kernel) (pa_cons (pe_lc (own := [("some", 5)]) (by rfl) sc_History_shows.nd (pi_list (pv 4)) (blkOk_by (own := [("some", 5)]) (N := N_History_shows) (sc := defScope s_History_shows) (by decide +kernel)) (fun _ _ _ _ _ => (pg_name (i := 5) sc_History_shows.nd rfl (.inl rfl))) (fun _ _ _ _ _ => pts_nil) (fun _ _ _ _ _ => (pe_call (ok_is_heard T hp Sm n) (hr.mono (by omega)) (by rfl) T.f_is_heard.g T.f_is_heard.F.kp T.f_is_heard.b .nil passF (pa_cons (pv 1) (pa_cons (pv 5) pa_nil))))) pa_nil))))))) (pss_cons (ps_ret pe_bl) pss_nil) pss_nil) (pss_cons (ps_for (passes_of rfl) rfl (pi_zip (by rfl) T.z_zip (pa_cons (pv 4) (pa_cons (pv 3) pa_nil))) (pg_tup rfl (pgs_cons (pg_name (i := 5) sc_History_shows.nd rfl (.inl rfl)) (pgs_cons (pg_tup rfl (pgs_cons (pg_name (i := 6) sc_History_shows.nd rfl (.inl rfl)) (pgs_cons (pg_name (i := 7) sc_History_shows.nd rfl (.inl rfl)) (pgs_cons (pg_name (i := 8) sc_History_shows.nd rfl (.inl rfl)) pgs_nil)))) pgs_nil))) (pss_cons (ps_if (PW.pt (pw_or (pt_neR (C := cn K w ca ka fa pp ρ ns) rfl hr.units (pe_ix ix_seq (pv 5) (pv 2) (fun _ _ => rfl)) (pv 6) (nomark _)) (pw_or1 (pt_neR (C := cn K w ca ka fa pp ρ ns) rfl hr.units (pe_call (ok_score_of T hp Sm n) (hr.mono (by omega)) (by rfl) T.f_score_of.g T.f_score_of.F.kp T.f_score_of.b .nil passF (pa_cons (pv 1) (pa_cons (pv 5) pa_nil))) (pe_tup (pa_cons (pv 7) (pa_cons (pv 8) pa_nil))) (nomark _))))) (pss_cons (ps_ret pe_bl) pss_nil) pss_nil) pss_nil)) (pss_cons (ps_ret (pe_callB (cr_all rfl) (by rfl) T.z_all (by decide +kernel) (pa_cons (pe_lc (own := [("one", 9), ("other", 10)]) (by rfl) sc_History_shows.nd (pi_zip (by rfl) T.z_zip (pa_cons (pv 4) (pa_cons (pe_slice sl_list (pv 4) (po_some pe_int) po_none) pa_nil))) (blkOk_by (own := [("one", 9), ("other", 10)]) (N := N_History_shows) (sc := defScope s_History_shows) (by decide +kernel)) (fun _ _ _ _ _ => (pg_tup rfl (pgs_cons (pg_name (i := 9) sc_History_shows.nd rfl (.inl rfl)) (pgs_cons (pg_name (i := 10) sc_History_shows.nd rfl (.inl rfl)) pgs_nil)))) (fun _ _ _ _ _ => pts_nil) (fun _ _ _ _ _ => (pe_call (ok_is_no_less T hp Sm n) (hr.mono (by omega)) (by rfl) T.f_is_no_less.g T.f_is_no_less.F.kp T.f_is_no_less.b .nil passF (pa_cons (pv 10) (pa_cons (pv 9) pa_nil))))) pa_nil))) pss_nil))))
theorem ok_Never_init (T : Txt K mg fa ff tk ca ka cc) (hp : PmOk (cn K w ca ka fa pp ρ ns) pm) (Sm : Sem P w K mg base fa ff ca ka cc pp ρ ns pm) : (n : Nat) → FnOk P w K mg base (L2.CX P w) (2 * n) (fa 15) (ff 15) ["self", "lists"] (spR (cn K w ca ka fa pp ρ ns) (run pm n 15))
  | 0 => fn_no
  | n + 1 => fnR_c (P := P) (mg := mg) (base := base) (C := cn K w ca ka fa pp ρ ns) (k := 2 * n + 1) rfl T.F_Never_init sc_Never_init (ks_ok (w := w) T hp) fun cdv A outer s H E hr =>
    (pss_cons (ps_fld (pv 0) (pe_lc (own := [("one", 2)]) (by rfl) sc_Never_init.nd (pi_list (pv 1)) (blkOk_by (own := [("one", 2)]) (N := N_Never_init) (sc := defScope s_Never_init) (by decide +kernel)) (fun _ _ _ _ _ => (pg_name (i := 2) sc_Never_init.nd rfl (.inl rfl))) (fun _ _ _ _ _ => pts_nil) (fun _ _ _ _ _ => (pe_lc (own := [("some", 3)]) (by rfl) sc_Never_init.nd (pi_list (pv 2)) (blkOk_in (own := [("some", 3)]) (N := N_Never_init) (sc0 := defScope s_Never_init) rfl (by decide +kernel)) (fun _ _ _ _ _ => (pg_name (i := 3) sc_Never_init.nd rfl (.inl rfl))) (fun _ _ _ _ _ => pts_nil) (fun _ _ _ _ _ => (pe_callTy call_list_of (by rfl) T.z_list (by decide +kernel) (pa_cons (pv 3) pa_nil)))))) rfl) pss_nil)
theorem ok_Never_shows (T : Txt K mg fa ff tk ca ka cc) (hp : PmOk (cn K w ca ka fa pp ρ ns) pm) (Sm : Sem P w K mg base fa ff ca ka cc pp ρ ns pm) : (n : Nat) → FnOk P w K mg base (L2.CX P w) (2 * n) (fa 16) (ff 16) ["self", "notes", "hand", "shown"] (spR (cn K w ca ka fa pp ρ ns) (run pm n 16))
  | 0 => fn_no
  | n + 1 => fnR_c (P := P) (mg := mg) (base := base) (C := cn K w ca ka fa pp ρ ns) (k := 2 * n + 1) rfl T.F_Never_shows sc_Never_shows (ks_ok (w := w) T hp) fun cdv A outer s H E hr =>
    (pss_cons (ps_set (i := 4) sc_Never_shows.nd rfl (.inl rfl) (pe_fld (pv 0) rfl)) (pss_cons (ps_if (PW.pt (pw_or (pt_neR (C := cn K w ca ka fa pp ρ ns) rfl hr.units (pe_callB call_len_seq (by rfl) T.z_len PySem.boot_len (pa_cons (pv 4) pa_nil)) (pe_callB call_len_seq (by rfl) T.z_len PySem.boot_len (pa_cons (pv 3) pa_nil)) (nomark _)) (pw_or (pt_eqR (C := cn K w ca ka fa pp ρ ns) rfl hr.units (pv 4) (pe_lst pa_nil) (nomark _)) (pw_or1 (pt_neR (C := cn K w ca ka fa pp ρ ns) rfl hr.units (pe_ix ix_seq (pv 4) (pe_neg (C := cn K w ca ka fa pp ρ ns) pe_int) (fun _ _ => rfl)) (pe_lst pa_nil) (nomark _)))))) (pss_cons (ps_ret pe_bl) pss_nil) pss_nil) (pss_cons (ps_for (passes_of rfl) rfl (pi_enum (by rfl) T.z_enumerate (pa_cons (pv 3) pa_nil)) (pg_tup rfl (pgs_cons (pg_name (i := 5) sc_Never_shows.nd rfl (.inl rfl)) (pgs_cons (pg_tup rfl (pgs_cons (pg_name (i := 7) sc_Never_shows.nd rfl (.inl rfl)) (pgs_cons (pg_name (i := 8) sc_Never_shows.nd rfl (.inl rfl)) (pgs_cons (pg_name (i := 9) sc_Never_shows.nd rfl (.inl rfl)) pgs_nil)))) pgs_nil))) (pss_cons (ps_if (pt_not (pt_val (pe_callB (cr_all rfl) (by rfl) T.z_all (by decide +kernel) (pa_cons (pe_lc (own := [("some", 6)]) (by rfl) sc_Never_shows.nd (pi_list (pe_ix ix_seq (pv 4) (pv 5) (fun _ _ => rfl))) (blkOk_by (own := [("some", 6)]) (N := N_Never_shows) (sc := defScope s_Never_shows) (by decide +kernel)) (fun _ _ _ _ _ => (pg_name (i := 6) sc_Never_shows.nd rfl (.inl rfl))) (fun _ _ _ _ _ => pts_nil) (fun _ _ _ _ _ => (pe_call (ok_is_heard T hp Sm n) (hr.mono (by omega)) (by rfl) T.f_is_heard.g T.f_is_heard.F.kp T.f_is_heard.b .nil passF (pa_cons (pv 1) (pa_cons (pv 6) pa_nil))))) pa_nil)))) (pss_cons (ps_ret pe_bl) pss_nil) pss_nil) (pss_cons (ps_if (pt_cmpR op_lt (pe_lenSetT rfl (un65 hr) (by rfl) T.z_len (by rfl) T.z_set (pe_lc (own := [("some", 6)]) (by rfl) sc_Never_shows.nd (pi_list (pe_ix ix_seq (pv 4) (pv 5) (fun _ _ => rfl))) (blkOk_by (own := [("some", 6)]) (N := N_Never_shows) (sc := defScope s_Never_shows) (by decide +kernel)) (fun _ _ _ _ _ => (pg_name (i := 6) sc_Never_shows.nd rfl (.inl rfl))) (fun _ _ _ _ _ => pts_nil) (fun _ _ _ _ _ => (pe_callTy call_tuple_of (by rfl) T.z_tuple (by decide +kernel) (pa_cons (pv 6) pa_nil))))) (pe_callB call_len_seq (by rfl) T.z_len PySem.boot_len (pa_cons (pe_ix ix_seq (pv 4) (pv 5) (fun _ _ => rfl)) pa_nil)) (nomark _)) (pss_cons (ps_ret pe_bl) pss_nil) pss_nil) (pss_cons (ps_for (passes_of rfl) rfl (pi_list (pe_call (ok_all_heard T hp Sm n) (hr.mono (by omega)) (by rfl) T.f_all_heard.g T.f_all_heard.F.kp T.f_all_heard.b .nil passF (pa_cons (pv 1) (pa_cons (pv 2) (pa_cons (pv 7) pa_nil))))) (pg_name (i := 6) sc_Never_shows.nd rfl (.inr rfl)) (pss_cons (ps_set (i := 10) sc_Never_shows.nd rfl (.inl rfl) (pe_or (pe_eqR (C := cn K w ca ka fa pp ρ ns) rfl hr.units (pv 5) pe_int (nomark _)) (pe_one (pe_callB (cr_any rfl) (by rfl) T.z_any (by decide +kernel) (pa_cons (pe_lc (own := [("other", 11)]) (by rfl) sc_Never_shows.nd (pi_list (pe_ix ix_seq (pv 4) (pe_binR (C := cn K w ca ka fa pp ρ ns) (o := .sub) op_sub (pv 5) pe_int) (fun _ _ => rfl))) (blkOk_by (own := [("other", 11)]) (N := N_Never_shows) (sc := defScope s_Never_shows) (by decide +kernel)) (fun _ _ _ _ _ => (pg_name (i := 11) sc_Never_shows.nd rfl (.inl rfl))) (fun _ _ _ _ _ => pts_nil) (fun _ _ _ _ _ => (pe_call (ok_is_no_less T hp Sm n) (hr.mono (by omega)) (by rfl) T.f_is_no_less.g T.f_is_no_less.F.kp T.f_is_no_less.b .nil passF (pa_cons (pv 6) (pa_cons (pv 11) pa_nil))))) pa_nil))))) (pss_cons (ps_if (PW.pt (pw_and (pt_val (pv 10)) (pw_and (pt_eqR (C := cn K w ca ka fa pp ρ ns) rfl hr.units (pe_call (ok_score_of T hp Sm n) (hr.mono (by omega)) (by rfl) T.f_score_of.g T.f_score_of.F.kp T.f_score_of.b .nil passF (pa_cons (pv 1) (pa_cons (pv 6) pa_nil))) (pe_tup (pa_cons (pv 8) (pa_cons (pv 9) pa_nil))) (nomark _)) (pw_and1 (pt_cmpR (op_notInD (un65 hr)) (pv 6) (pe_ix ix_seq (pv 4) (pv 5) (fun _ _ => rfl)) (by with_unfolding_all rfl)))))) (pss_cons (ps_ret pe_bl) pss_nil) pss_nil) pss_nil))) pss_nil)))) (pss_cons (ps_ret pe_bl) pss_nil))))
theorem ok_Leads_init (T : Txt K mg fa ff tk ca ka cc) (hp : PmOk (cn K w ca ka fa pp ρ ns) pm) (Sm : Sem P w K mg base fa ff ca ka cc pp ρ ns pm) : (n : Nat) → FnOk P w K mg base (L2.CX P w) (2 * n) (fa 17) (ff 17) ["self", "least", "low", "most", "high"] (spR (cn K w ca ka fa pp ρ ns) (run pm n 17))
  | 0 => fn_no
  | n + 1 => fnR_c (P := P) (mg := mg) (base := base) (C := cn K w ca ka fa pp ρ ns) (k := 2 * n + 1) rfl T.F_Leads_init sc_Leads_init (ks_ok (w := w) T hp) fun cdv A outer s H E hr =>
    (pss_cons (ps_fld (pv 0) (pv 1) rfl) (pss_cons (ps_fld (pv 0) (pe_callTy call_list_of (by rfl) T.z_list (by decide +kernel) (pa_cons (pv 2) pa_nil)) rfl) (pss_cons (ps_fld (pv 0) (pv 3) rfl) (pss_cons (ps_fld (pv 0) (pe_callTy call_list_of (by rfl) T.z_list (by decide +kernel) (pa_cons (pv 4) pa_nil)) rfl) pss_nil))))
theorem ok_Leads_shows (T : Txt K mg fa ff tk ca ka cc) (hp : PmOk (cn K w ca ka fa pp ρ ns) pm) (Sm : Sem P w K mg base fa ff ca ka cc pp ρ ns pm) : (n : Nat) → FnOk P w K mg base (L2.CX P w) (2 * n) (fa 18) (ff 18) ["self", "notes", "hand", "said"] (spR (cn K w ca ka fa pp ρ ns) (run pm n 18))
  | 0 => fn_no
  | n + 1 => fnR_c (P := P) (mg := mg) (base := base) (C := cn K w ca ka fa pp ρ ns) (k := 2 * n + 1) rfl T.F_Leads_shows sc_Leads_shows (ks_ok (w := w) T hp) fun cdv A outer s H E hr =>
    (pss_cons (ps_for (passes_of rfl) rfl (pi_tup (pe_tup (pa_cons (pe_tup (pa_cons (pe_fld (pv 0) rfl) (pa_cons (pe_fld (pv 0) rfl) pa_nil))) (pa_cons (pe_tup (pa_cons (pe_fld (pv 0) rfl) (pa_cons (pe_fld (pv 0) rfl) pa_nil))) pa_nil)))) (pg_tup rfl (pgs_cons (pg_name (i := 4) sc_Leads_shows.nd rfl (.inl rfl)) (pgs_cons (pg_name (i := 5) sc_Leads_shows.nd rfl (.inl rfl)) pgs_nil))) (pss_cons (ps_if (PW.pt (pw_or (pt_not (pt_val (pe_call (ok_is_heard T hp Sm n) (hr.mono (by omega)) (by rfl) T.f_is_heard.g T.f_is_heard.F.kp T.f_is_heard.b .nil passF (pa_cons (pv 1) (pa_cons (pv 4) pa_nil))))) (pw_or1 (pt_neR (C := cn K w ca ka fa pp ρ ns) rfl hr.units (pe_ix ix_seq (pv 4) (pv 2) (fun _ _ => rfl)) (pv 3) (nomark _))))) (pss_cons (ps_ret pe_bl) pss_nil) pss_nil) (pss_cons (ps_asg (pe_call (ok_score_of T hp Sm n) (hr.mono (by omega)) (by rfl) T.f_score_of.g T.f_score_of.F.kp T.f_score_of.b .nil passF (pa_cons (pv 1) (pa_cons (pv 4) pa_nil))) (pg_tup rfl (pgs_cons (pg_name (i := 6) sc_Leads_shows.nd rfl (.inl rfl)) (pgs_cons (pg_name (i := 7) sc_Leads_shows.nd rfl (.inl rfl)) pgs_nil)))) (pss_cons (ps_if (pt_neR (C := cn K w ca ka fa pp ρ ns) rfl hr.units (pe_binR (C := cn K w ca ka fa pp ρ ns) (o := .sub) op_sub (pv 6) (pv 7)) (pv 5) (nomark _)) (pss_cons (ps_ret pe_bl) pss_nil) pss_nil) pss_nil)))) (pss_cons (ps_for (passes_of rfl) rfl (pi_list (pe_call (ok_all_heard T hp Sm n) (hr.mono (by omega)) (by rfl) T.f_all_heard.g T.f_all_heard.F.kp T.f_all_heard.b .nil passF (pa_cons (pv 1) (pa_cons (pv 2) (pa_cons (pv 3) pa_nil))))) (pg_name (i := 4) sc_Leads_shows.nd rfl (.inl rfl)) (pss_cons (ps_asg (pe_call (ok_score_of T hp Sm n) (hr.mono (by omega)) (by rfl) T.f_score_of.g T.f_score_of.F.kp T.f_score_of.b .nil passF (pa_cons (pv 1) (pa_cons (pv 4) pa_nil))) (pg_tup rfl (pgs_cons (pg_name (i := 6) sc_Leads_shows.nd rfl (.inl rfl)) (pgs_cons (pg_name (i := 7) sc_Leads_shows.nd rfl (.inl rfl)) pgs_nil)))) (pss_cons (ps_if (pt_not (pt_chain op_le op_le (pe_fld (pv 0) rfl) (pe_binR (C := cn K w ca ka fa pp ρ ns) (o := .sub) op_sub (pv 6) (pv 7)) (pe_fld (pv 0) rfl))) (pss_cons (ps_ret pe_bl) pss_nil) pss_nil) pss_nil))) (pss_cons (ps_ret pe_bl) pss_nil)))
theorem ok_score (T : Txt K mg fa ff tk ca ka cc) (hp : PmOk (cn K w ca ka fa pp ρ ns) pm) (Sm : Sem P w K mg base fa ff ca ka cc pp ρ ns pm) : (n : Nat) → FnOk P w K mg base (L2.CX P w) (2 * n) (fa 19) (ff 19) ["notes", "heard"] (spR (cn K w ca ka fa pp ρ ns) (run pm n 19))
  | 0 => fn_no
  | n + 1 => fnR_c (P := P) (mg := mg) (base := base) (C := cn K w ca ka fa pp ρ ns) (k := 2 * n + 1) rfl T.f_score.F sc_score (ks_ok (w := w) T hp) fun cdv A outer s H E hr =>
    (pss_cons (ps_expr (pe_call (ok_check_notes T hp Sm n) (hr.mono (by omega)) (by rfl) T.f_check_notes.g T.f_check_notes.F.kp T.f_check_notes.b .nil (passes_call (takes_of rfl rfl rfl rfl) (fun _ _ _ _ h => h)) (pa_cons (pv 0) pa_nil))) (pss_cons (ps_if (PW.pt (pw_or (pt_not (pt_val (pe_callB call_isi (by rfl) T.z_isinstance (by decide +kernel) (pa_cons (pv 1) (pa_cons (pe_bltn (v := .ty "list") (by rfl) T.z_list (by decide +kernel) rfl) pa_nil))))) (pw_or (pt_not (pt_val (pe_callB (cr_all rfl) (by rfl) T.z_all (by decide +kernel) (pa_cons (pe_lc (own := [("many", 2)]) (by rfl) sc_score.nd (pi_list (pv 1)) (blkOk_by (own := [("many", 2)]) (N := N_score) (sc := defScope s_score) (by decide +kernel)) (fun _ _ _ _ _ => (pg_name (i := 2) sc_score.nd rfl (.inl rfl))) (fun _ _ _ _ _ => pts_nil) (fun _ _ _ _ _ => (pe_call (ok_is_whole T hp Sm n) (hr.mono (by omega)) (by rfl) T.f_is_whole.g T.f_is_whole.F.kp T.f_is_whole.b .nil passF (pa_cons (pv 2) pa_nil)))) pa_nil)))) (pw_or1 (pt_not (pt_val (pe_call (ok_is_heard T hp Sm n) (hr.mono (by omega)) (by rfl) T.f_is_heard.g T.f_is_heard.F.kp T.f_is_heard.b .nil passF (pa_cons (pv 0) (pa_cons (pv 1) pa_nil))))))))) (pss_cons (ps_raise rfl (takes_of rfl rfl rfl rfl) (pmk_own PySem.F.excBase_ValueError T.xe_BadHeard T.g_BadHeard T.xk_BadHeard (raises_own T.xs_BadHeard T.xt_BadHeard) (by rfl))) pss_nil) pss_nil) (pss_cons (ps_ret (pe_call (ok_score_of T hp Sm n) (hr.mono (by omega)) (by rfl) T.f_score_of.g T.f_score_of.F.kp T.f_score_of.b .nil passF (pa_cons (pv 0) (pa_cons (pv 1) pa_nil)))) pss_nil)))
theorem ok_is_showing (T : Txt K mg fa ff tk ca ka cc) (hp : PmOk (cn K w ca ka fa pp ρ ns) pm) (Sm : Sem P w K mg base fa ff ca ka cc pp ρ ns pm) : (n : Nat) → FnOk P w K mg base (L2.CX P w) (2 * n) (fa 20) (ff 20) ["thing", "most"] (spR (cn K w ca ka fa pp ρ ns) (run pm n 20))
  | 0 => fn_no
  | n + 1 => fnR_c (P := P) (mg := mg) (base := base) (C := cn K w ca ka fa pp ρ ns) (k := 2 * n + 1) rfl T.f_is_showing.F sc_is_showing (ks_ok (w := w) T hp) fun cdv A outer s H E hr =>
    (pss_cons (ps_if (PW.pt (pw_or (pt_not (pt_val (pe_callB call_isi (by rfl) T.z_isinstance (by decide +kernel) (pa_cons (pv 0) (pa_cons (pe_bltn (v := .ty "tuple") (by rfl) T.z_tuple (by decide +kernel) rfl) pa_nil))))) (pw_or (pt_neR (C := cn K w ca ka fa pp ρ ns) rfl hr.units (pe_callB call_len_seq (by rfl) T.z_len PySem.boot_len (pa_cons (pv 0) pa_nil)) pe_int (nomark _)) (pw_or1 (pt_not (pt_val (pe_call (ok_is_count T hp Sm n) (hr.mono (by omega)) (by rfl) T.f_is_count.g T.f_is_count.F.kp T.f_is_count.b .nil passF (pa_cons (pe_ix ix_seq (pv 0) pe_int (fun _ _ => rfl)) (pa_cons pe_int (pa_cons (pv 1) pa_nil)))))))))) (pss_cons (ps_ret pe_bl) pss_nil) pss_nil) (pss_cons (ps_ret (pe_and (pe_call (ok_is_whole T hp Sm n) (hr.mono (by omega)) (by rfl) T.f_is_whole.g T.f_is_whole.F.kp T.f_is_whole.b .nil passF (pa_cons (pe_ix ix_seq (pv 0) pe_int (fun _ _ => rfl)) pa_nil)) (pe_one (pe_call (ok_is_whole T hp Sm n) (hr.mono (by omega)) (by rfl) T.f_is_whole.g T.f_is_whole.F.kp T.f_is_whole.b .nil passF (pa_cons (pe_ix ix_seq (pv 0) pe_int (fun _ _ => rfl)) pa_nil))))) pss_nil))
theorem ok_lists_of (T : Txt K mg fa ff tk ca ka cc) (hp : PmOk (cn K w ca ka fa pp ρ ns) pm) (Sm : Sem P w K mg base fa ff ca ka cc pp ρ ns pm) : (n : Nat) → FnOk P w K mg base (L2.CX P w) (2 * n) (fa 21) (ff 21) ["notes", "hand", "shown"] (spR (cn K w ca ka fa pp ρ ns) (run pm n 21))
  | 0 => fn_no
  | n + 1 => fnR_c (P := P) (mg := mg) (base := base) (C := cn K w ca ka fa pp ρ ns) (k := 2 * n + 1) rfl T.f_lists_of.F sc_lists_of (ks_ok (w := w) T hp) fun cdv A outer s H E hr =>
    (pss_cons (ps_set (i := 3) sc_lists_of.nd rfl (.inr rfl) (pe_lst pa_nil)) (pss_cons (ps_for (passes_of rfl) rfl (pi_list (pv 2)) (pg_tup rfl (pgs_cons (pg_name (i := 4) sc_lists_of.nd rfl (.inl rfl)) (pgs_cons (pg_name (i := 5) sc_lists_of.nd rfl (.inr rfl)) (pgs_cons (pg_name (i := 6) sc_lists_of.nd rfl (.inr rfl)) pgs_nil)))) (pss_cons (ps_setLc (i := 7) (own := [("heard", 8)]) (by rfl) sc_lists_of.nd rfl rfl (sw_true rfl rfl rfl (by decide +kernel)) (pi_list (pe_call (ok_all_heard T hp Sm n) (hr.mono (by omega)) (by rfl) T.f_all_heard.g T.f_all_heard.F.kp T.f_all_heard.b .nil passF (pa_cons (pv 0) (pa_cons (pv 1) (pa_cons (pv 4) pa_nil))))) (blkOk_by (own := [("heard", 8)]) (N := N_lists_of) (sc := defScope s_lists_of) (by decide +kernel)) (fun _ _ _ _ _ => (pg_name (i := 8) sc_lists_of.nd rfl (.inl rfl))) (fun _ _ _ _ _ => (pts_one (pt_eqR (C := cn K w ca ka fa pp ρ ns) rfl hr.units (pe_call (ok_score_of T hp Sm n) (hr.mono (by omega)) (by rfl) T.f_score_of.g T.f_score_of.F.kp T.f_score_of.b .nil passF (pa_cons (pv 0) (pa_cons (pv 8) pa_nil))) (pe_tup (pa_cons (pv 5) (pa_cons (pv 6) pa_nil))) (nomark _)))) (fun _ _ _ _ _ => (pv 8))) (pss_cons (ps_if (pt_neR (C := cn K w ca ka fa pp ρ ns) rfl hr.units (pv 3) (pe_lst pa_nil) (nomark _)) (pss_cons (ps_setLc (i := 7) (own := [("heard", 8)]) (by rfl) sc_lists_of.nd rfl rfl (sw_true rfl rfl rfl (by decide +kernel)) (pi_list (pv 7)) (blkOk_by (own := [("heard", 8)]) (N := N_lists_of) (sc := defScope s_lists_of) (by decide +kernel)) (fun _ _ _ _ _ => (pg_name (i := 8) sc_lists_of.nd rfl (.inr rfl))) (fun _ _ _ _ _ => (pts_one (pt_val (pe_callB (cr_any rfl) (by rfl) T.z_any (by decide +kernel) (pa_cons (pe_lc (own := [("other", 9)]) (by rfl) sc_lists_of.nd (pi_list (pe_ix ix_seq (pv 3) (pe_neg (C := cn K w ca ka fa pp ρ ns) pe_int) (fun _ _ => rfl))) (blkOk_in (own := [("other", 9)]) (N := N_lists_of) (sc0 := defScope s_lists_of) rfl (by decide +kernel)) (fun _ _ _ _ _ => (pg_name (i := 9) sc_lists_of.nd rfl (.inl rfl))) (fun _ _ _ _ _ => pts_nil) (fun _ _ _ _ _ => (pe_call (ok_is_no_less T hp Sm n) (hr.mono (by omega)) (by rfl) T.f_is_no_less.g T.f_is_no_less.F.kp T.f_is_no_less.b .nil passF (pa_cons (pv 8) (pa_cons (pv 9) pa_nil))))) pa_nil))))) (fun _ _ _ _ _ => (pv 8))) pss_nil) pss_nil) (pss_cons (ps_expr (pe_bm PySem.F.plainAttrs_list PySem.F.slot_list_append PySem.F.type_list_append mt_append (pv 3) (pa_cons (pv 7) pa_nil))) pss_nil)))) (pss_cons (ps_ret (pv 3)) pss_nil)))
theorem ok_history_of (T : Txt K mg fa ff tk ca ka cc) (hp : PmOk (cn K w ca ka fa pp ρ ns) pm) (Sm : Sem P w K mg base fa ff ca ka cc pp ρ ns pm) : (n : Nat) → FnOk P w K mg base (L2.CX P w) (2 * n) (fa 22) (ff 22) ["lists"] (spR (cn K w ca ka fa pp ρ ns) (run pm n 22))
  | 0 => fn_no
  | n + 1 => fnR_c (P := P) (mg := mg) (base := base) (C := cn K w ca ka fa pp ρ ns) (k := 2 * n + 1) rfl T.f_history_of.F sc_history_of (ks_ok (w := w) T hp) fun cdv A outer s H E hr =>
    (pss_cons (ps_set (i := 1) sc_history_of.nd rfl (.inr rfl) (pe_ifExp (pt_neR (C := cn K w ca ka fa pp ρ ns) rfl hr.units (pv 0) (pe_lst pa_nil) (nomark _)) (pe_lst (pa_cons (pe_ix ix_seq (pe_ix ix_seq (pv 0) (pe_neg (C := cn K w ca ka fa pp ρ ns) pe_int) (fun _ _ => rfl)) pe_int (fun _ _ => rfl)) pa_nil)) (pe_lst pa_nil))) (pss_cons (ps_for (passes_of rfl) rfl (pi_list (pe_slice sl_list (pe_revL (pv 0)) (po_some pe_int) po_none)) (pg_name (i := 2) sc_history_of.nd rfl (.inl rfl)) (pss_cons (ps_expr (pe_bm PySem.F.plainAttrs_list PySem.F.slot_list_append PySem.F.type_list_append mt_append (pv 1) (pa_cons (pe_ix ix_seq (pe_lc (own := [("heard", 3)]) (by rfl) sc_history_of.nd (pi_list (pv 2)) (blkOk_by (own := [("heard", 3)]) (N := N_history_of) (sc := defScope s_history_of) (by decide +kernel)) (fun _ _ _ _ _ => (pg_name (i := 3) sc_history_of.nd rfl (.inl rfl))) (fun _ _ _ _ _ => (pts_one (pt_val (pe_call (ok_is_no_less T hp Sm n) (hr.mono (by omega)) (by rfl) T.f_is_no_less.g T.f_is_no_less.F.kp T.f_is_no_less.b .nil passF (pa_cons (pe_ix ix_seq (pv 1) (pe_neg (C := cn K w ca ka fa pp ρ ns) pe_int) (fun _ _ => rfl)) (pa_cons (pv 3) pa_nil)))))) (fun _ _ _ _ _ => (pv 3))) pe_int (fun _ _ => rfl)) pa_nil))) pss_nil)) (pss_cons (ps_ret (pe_revL (pv 1))) pss_nil)))
theorem ok_judged (T : Txt K mg fa ff tk ca ka cc) (hp : PmOk (cn K w ca ka fa pp ρ ns) pm) (Sm : Sem P w K mg base fa ff ca ka cc pp ρ ns pm) : (n : Nat) → FnOk P w K mg base (L2.CX P w) (2 * n) (fa 23) (ff 23) ["notes", "hand", "shown"] (spR (cn K w ca ka fa pp ρ ns) (run pm n 23))
  | 0 => fn_no
  | n + 1 => fnR_c (P := P) (mg := mg) (base := base) (C := cn K w ca ka fa pp ρ ns) (k := 2 * n + 1) rfl T.f_judged.F sc_judged (ks_ok (w := w) T hp) fun cdv A outer s H E hr =>
    (pss_cons (ps_expr (pe_call (ok_check_notes T hp Sm n) (hr.mono (by omega)) (by rfl) T.f_check_notes.g T.f_check_notes.F.kp T.f_check_notes.b .nil (passes_call (takes_of rfl rfl rfl rfl) (fun _ _ _ _ h => h)) (pa_cons (pv 0) pa_nil))) (pss_cons (ps_expr (pe_call (ok_check_hand T hp Sm n) (hr.mono (by omega)) (by rfl) T.f_check_hand.g T.f_check_hand.F.kp T.f_check_hand.b .nil (passes_call (takes_of rfl rfl rfl rfl) (fun _ _ _ _ h => h)) (pa_cons (pe_callB call_len_seq (by rfl) T.z_len PySem.boot_len (pa_cons (pv 0) pa_nil)) (pa_cons (pv 1) pa_nil)))) (pss_cons (ps_if (PW.pt (pw_or (pt_not (pt_val (pe_callB call_isi (by rfl) T.z_isinstance (by decide +kernel) (pa_cons (pv 2) (pa_cons (pe_bltn (v := .ty "list") (by rfl) T.z_list (by decide +kernel) rfl) pa_nil))))) (pw_or1 (pt_cmpR op_gt (pe_callB call_len_seq (by rfl) T.z_len PySem.boot_len (pa_cons (pv 2) pa_nil)) (by exact pe_glob rfl T.c_MOST_SHOWN ⟨_, rfl⟩) (nomark _))))) (pss_cons (ps_raise rfl (takes_of rfl rfl rfl rfl) (pmk_own PySem.F.excBase_ValueError T.xe_BadShown T.g_BadShown T.xk_BadShown (raises_own T.xs_BadShown T.xt_BadShown) (by rfl))) pss_nil) pss_nil) (pss_cons (ps_if (pt_not (pt_val (pe_callB (cr_all rfl) (by rfl) T.z_all (by decide +kernel) (pa_cons (pe_lc (own := [("one", 4)]) (by rfl) sc_judged.nd (pi_list (pv 2)) (blkOk_by (own := [("one", 4)]) (N := N_judged) (sc := defScope s_judged) (by decide +kernel)) (fun _ _ _ _ _ => (pg_name (i := 4) sc_judged.nd rfl (.inl rfl))) (fun _ _ _ _ _ => pts_nil) (fun _ _ _ _ _ => (pe_call (ok_is_showing T hp Sm n) (hr.mono (by omega)) (by rfl) T.f_is_showing.g T.f_is_showing.F.kp T.f_is_showing.b .nil passF (pa_cons (pv 4) (pa_cons (pe_callB call_len_seq (by rfl) T.z_len PySem.boot_len (pa_cons (pe_ix ix_seq (pv 0) (pv 1) (fun _ _ => rfl)) pa_nil)) pa_nil))))) pa_nil)))) (pss_cons (ps_raise rfl (takes_of rfl rfl rfl rfl) (pmk_own PySem.F.excBase_ValueError T.xe_BadShown T.g_BadShown T.xk_BadShown (raises_own T.xs_BadShown T.xt_BadShown) (by rfl))) pss_nil) pss_nil) (pss_cons (ps_if (pt_val (pe_callB (cr_any rfl) (by rfl) T.z_any (by decide +kernel) (pa_cons (pe_lc (own := [("one", 4), ("other", 5)]) (by rfl) sc_judged.nd (pi_zip (by rfl) T.z_zip (pa_cons (pv 2) (pa_cons (pe_slice sl_list (pv 2) (po_some pe_int) po_none) pa_nil))) (blkOk_by (own := [("one", 4), ("other", 5)]) (N := N_judged) (sc := defScope s_judged) (by decide +kernel)) (fun _ _ _ _ _ => (pg_tup rfl (pgs_cons (pg_name (i := 4) sc_judged.nd rfl (.inl rfl)) (pgs_cons (pg_name (i := 5) sc_judged.nd rfl (.inl rfl)) pgs_nil)))) (fun _ _ _ _ _ => pts_nil) (fun _ _ _ _ _ => (pe_cmpR op_gt (pe_ix ix_seq (pv 4) pe_int (fun _ _ => rfl)) (pe_ix ix_seq (pv 5) pe_int (fun _ _ => rfl)) (nomark _)))) pa_nil))) (pss_cons (ps_raise rfl (takes_of rfl rfl rfl rfl) (pmk_own PySem.F.excBase_ValueError T.xe_BadShown T.g_BadShown T.xk_BadShown (raises_own T.xs_BadShown T.xt_BadShown) (by rfl))) pss_nil) pss_nil) (pss_cons (ps_set (i := 3) sc_judged.nd rfl (.inl rfl) (pe_call (ok_lists_of T hp Sm n) (hr.mono (by omega)) (by rfl) T.f_lists_of.g T.f_lists_of.F.kp T.f_lists_of.b .nil passF (pa_cons (pv 0) (pa_cons (pv 1) (pa_cons (pv 2) pa_nil))))) (pss_cons (ps_ret (pe_ifExp (PW.pt (pw_and (pt_neR (C := cn K w ca ka fa pp ρ ns) rfl hr.units (pv 3) (pe_lst pa_nil) (nomark _)) (pw_and1 (pt_eqR (C := cn K w ca ka fa pp ρ ns) rfl hr.units (pe_ix ix_seq (pv 3) (pe_neg (C := cn K w ca ka fa pp ρ ns) pe_int) (fun _ _ => rfl)) (pe_lst pa_nil) (nomark _))))) (pe_make T.mk_Never (ok_Never_init T hp Sm n) (hr.mono (by omega)) (by rfl) T.g_Never T.b_Never_init .nil passF (pa_cons (pv 3) pa_nil)) (pe_make T.mk_History (ok_History_init T hp Sm n) (hr.mono (by omega)) (by rfl) T.g_History T.b_History_init .nil passF (pa_cons (pe_call (ok_history_of T hp Sm n) (hr.mono (by omega)) (by rfl) T.f_history_of.g T.f_history_of.F.kp T.f_history_of.b .nil passF (pa_cons (pv 3) pa_nil)) pa_nil)))) pss_nil)))))))
theorem ok_leads (T : Txt K mg fa ff tk ca ka cc) (hp : PmOk (cn K w ca ka fa pp ρ ns) pm) (Sm : Sem P w K mg base fa ff ca ka cc pp ρ ns pm) : (n : Nat) → FnOk P w K mg base (L2.CX P w) (2 * n) (fa 24) (ff 24) ["notes", "hand", "said"] (spR (cn K w ca ka fa pp ρ ns) (run pm n 24))
  | 0 => fn_no
  | n + 1 => fnR_c (P := P) (mg := mg) (base := base) (C := cn K w ca ka fa pp ρ ns) (k := 2 * n + 1) rfl T.f_leads.F sc_leads (ks_ok (w := w) T hp) fun cdv A outer s H E hr =>
    (pss_cons (ps_expr (pe_call (ok_check_notes T hp Sm n) (hr.mono (by omega)) (by rfl) T.f_check_notes.g T.f_check_notes.F.kp T.f_check_notes.b .nil (passes_call (takes_of rfl rfl rfl rfl) (fun _ _ _ _ h => h)) (pa_cons (pv 0) pa_nil))) (pss_cons (ps_expr (pe_call (ok_check_hand T hp Sm n) (hr.mono (by omega)) (by rfl) T.f_check_hand.g T.f_check_hand.F.kp T.f_check_hand.b .nil (passes_call (takes_of rfl rfl rfl rfl) (fun _ _ _ _ h => h)) (pa_cons (pe_callB call_len_seq (by rfl) T.z_len PySem.boot_len (pa_cons (pv 0) pa_nil)) (pa_cons (pv 1) pa_nil)))) (pss_cons (ps_if (pt_not (pt_val (pe_call (ok_is_count T hp Sm n) (hr.mono (by omega)) (by rfl) T.f_is_count.g T.f_is_count.F.kp T.f_is_count.b .nil passF (pa_cons (pv 2) (pa_cons pe_int (pa_cons (pe_callB call_len_seq (by rfl) T.z_len PySem.boot_len (pa_cons (pe_ix ix_seq (pv 0) (pv 1) (fun _ _ => rfl)) pa_nil)) pa_nil)))))) (pss_cons (ps_raise rfl (takes_of rfl rfl rfl rfl) (pmk_own PySem.F.excBase_ValueError T.xe_BadSaid T.g_BadSaid T.xk_BadSaid (raises_own T.xs_BadSaid T.xt_BadSaid) (by rfl))) pss_nil) pss_nil) (pss_cons (ps_set (i := 3) sc_leads.nd rfl (.inl rfl) (pe_lst pa_nil)) (pss_cons (ps_for (passes_of rfl) rfl (pi_list (pe_call (ok_all_heard T hp Sm n) (hr.mono (by omega)) (by rfl) T.f_all_heard.g T.f_all_heard.F.kp T.f_all_heard.b .nil passF (pa_cons (pv 0) (pa_cons (pv 1) (pa_cons (pv 2) pa_nil))))) (pg_name (i := 4) sc_leads.nd rfl (.inl rfl)) (pss_cons (ps_asg (pe_call (ok_score_of T hp Sm n) (hr.mono (by omega)) (by rfl) T.f_score_of.g T.f_score_of.F.kp T.f_score_of.b .nil passF (pa_cons (pv 0) (pa_cons (pv 4) pa_nil))) (pg_tup rfl (pgs_cons (pg_name (i := 7) sc_leads.nd rfl (.inl rfl)) (pgs_cons (pg_name (i := 8) sc_leads.nd rfl (.inl rfl)) pgs_nil)))) (pss_cons (ps_expr (pe_bm PySem.F.plainAttrs_list PySem.F.slot_list_append PySem.F.type_list_append mt_append (pv 3) (pa_cons (pe_tup (pa_cons (pe_binR (C := cn K w ca ka fa pp ρ ns) (o := .sub) op_sub (pv 7) (pv 8)) (pa_cons (pv 4) pa_nil))) pa_nil))) pss_nil))) (pss_cons (ps_par (by rfl) sc_leads.nd rfl rfl (by decide) rfl rfl (pa_cons (pe_callB (cr_minDat (by rfl) (by exact hr.units)) (by rfl) T.z_min (by decide +kernel) (pa_cons (pv 3) pa_nil)) (pa_cons (pe_callB (cr_maxDat (by rfl) (by exact hr.units)) (by rfl) T.z_max (by decide +kernel) (pa_cons (pv 3) pa_nil)) pa_nil)) (by rfl)) (pss_cons (ps_ret (pe_make T.mk_Leads (ok_Leads_init T hp Sm n) (hr.mono (by omega)) (by rfl) T.g_Leads T.b_Leads_init .nil passF (pa_cons (pe_ix ix_seq (pv 5) pe_int (fun _ _ => rfl)) (pa_cons (pe_ix ix_seq (pv 5) pe_int (fun _ _ => rfl)) (pa_cons (pe_ix ix_seq (pv 6) pe_int (fun _ _ => rfl)) (pa_cons (pe_ix ix_seq (pv 6) pe_int (fun _ _ => rfl)) pa_nil)))))) pss_nil)))))))
theorem okD__law_cell_at (T : Txt K mg fa ff tk ca ka cc) : FnOk P w K mg base CX0 1 (fa 25) (ff 25) ["_law_script", "_law_k"] (spOf ⟨K, fun _ => (0, []), w, fun _ => .non⟩ fd__law_cell_at) :=
  fn_c T.f__law_cell_at.F sc__law_cell_at (ksD K w ⟨rfl, rfl, rfl⟩) fun cdv A outer s H E hr =>
    (pss_cons (ps_if (pt_cmpR op_lt (pv 1) (pe_callB call_len_seq (by rfl) T.z_len PySem.boot_len (pa_cons (pv 0) pa_nil)) (nomark _)) (pss_cons (ps_ret (pe_ix ix_seq (pv 0) (pv 1) (fun _ _ => rfl))) pss_nil) pss_nil) (pss_cons (ps_ret pe_int) pss_nil))
theorem ok__law_copy (T : Txt K mg fa ff tk ca ka cc) (hp : PmOk (cn K w ca ka fa pp ρ ns) pm) (Sm : Sem P w K mg base fa ff ca ka cc pp ρ ns pm) : (n : Nat) → FnOk P w K mg base (L2.CX P w) (2 * n) (fa 26) (ff 26) ["_law_thing"] (spR (cn K w ca ka fa pp ρ ns) (run pm n 26))
  | 0 => fn_no
  | n + 1 => fnR_c (P := P) (mg := mg) (base := base) (C := cn K w ca ka fa pp ρ ns) (k := 2 * n + 1) rfl T.f__law_copy.F sc__law_copy (ks_ok (w := w) T hp) fun cdv A outer s H E hr =>
    (pss_cons (ps_if (pt_val (pe_callB call_isi (by rfl) T.z_isinstance (by decide +kernel) (pa_cons (pv 0) (pa_cons (pe_bltn (v := .ty "list") (by rfl) T.z_list (by decide +kernel) rfl) pa_nil)))) (pss_cons (ps_ret (pe_lc (own := [("_law_one", 1)]) (by rfl) sc__law_copy.nd (pi_list (pv 0)) (blkOk_by (own := [("_law_one", 1)]) (N := N__law_copy) (sc := defScope s__law_copy) (by decide +kernel)) (fun _ _ _ _ _ => (pg_name (i := 1) sc__law_copy.nd rfl (.inl rfl))) (fun _ _ _ _ _ => pts_nil) (fun _ _ _ _ _ => (pe_call (ok__law_copy T hp Sm n) (hr.mono (by omega)) (by rfl) T.f__law_copy.g T.f__law_copy.F.kp T.f__law_copy.b .nil passF (pa_cons (pv 1) pa_nil))))) pss_nil) pss_nil) (pss_cons (ps_if (pt_val (pe_callB call_isi (by rfl) T.z_isinstance (by decide +kernel) (pa_cons (pv 0) (pa_cons (pe_bltn (v := .ty "tuple") (by rfl) T.z_tuple (by decide +kernel) rfl) pa_nil)))) (pss_cons (ps_ret (pe_callTy call_tuple_of (by rfl) T.z_tuple (by decide +kernel) (pa_cons (pe_lc (own := [("_law_one", 1)]) (by rfl) sc__law_copy.nd (pi_tup (pv 0)) (blkOk_by (own := [("_law_one", 1)]) (N := N__law_copy) (sc := defScope s__law_copy) (by decide +kernel)) (fun _ _ _ _ _ => (pg_name (i := 1) sc__law_copy.nd rfl (.inl rfl))) (fun _ _ _ _ _ => pts_nil) (fun _ _ _ _ _ => (pe_call (ok__law_copy T hp Sm n) (hr.mono (by omega)) (by rfl) T.f__law_copy.g T.f__law_copy.F.kp T.f__law_copy.b .nil passF (pa_cons (pv 1) pa_nil)))) pa_nil))) pss_nil) pss_nil) (pss_cons (ps_ret (pv 0)) pss_nil)))
theorem ok__law_into (T : Txt K mg fa ff tk ca ka cc) (hp : PmOk (cn K w ca ka fa pp ρ ns) pm) (Sm : Sem P w K mg base fa ff ca ka cc pp ρ ns pm) : (n : Nat) → FnOk P w K mg base (L2.CX P w) (2 * n) (fa 27) (ff 27) ["_law_handed", "_law_new"] (spR (cn K w ca ka fa pp ρ ns) (run pm n 27))
  | 0 => fn_no
  | n + 1 => fnR_c (P := P) (mg := mg) (base := base) (C := cn K w ca ka fa pp ρ ns) (k := 2 * n + 1) rfl T.f__law_into.F sc__law_into (ks_ok (w := w) T hp) fun cdv A outer s H E hr =>
    (pss_cons (ps_for (passes_of rfl) rfl (pi_enum (by rfl) T.z_enumerate (pa_cons (pv 1) pa_nil)) (pg_tup rfl (pgs_cons (pg_name (i := 2) sc__law_into.nd rfl (.inl rfl)) (pgs_cons (pg_name (i := 3) sc__law_into.nd rfl (.inl rfl)) pgs_nil))) (pss_cons (ps_if (PW.pt (pw_and (pt_val (pe_callB call_isi (by rfl) T.z_isinstance (by decide +kernel) (pa_cons (pv 3) (pa_cons (pe_bltn (v := .ty "list") (by rfl) T.z_list (by decide +kernel) rfl) pa_nil)))) (pw_and1 (pt_eqR (C := cn K w ca ka fa pp ρ ns) rfl hr.units (pe_callB call_len_seq (by rfl) T.z_len PySem.boot_len (pa_cons (pe_ix ix_seq (pv 0) (pv 2) (fun _ _ => rfl)) pa_nil)) (pe_callB call_len_seq (by rfl) T.z_len PySem.boot_len (pa_cons (pv 3) pa_nil)) (nomark _))))) (pss_cons (ps_expr (pe_call (ok__law_into T hp Sm n) (hr.mono (by omega)) (by rfl) T.f__law_into.g T.f__law_into.F.kp T.f__law_into.b .nil passF (pa_cons (pe_ix ix_seq (pv 0) (pv 2) (fun _ _ => rfl)) (pa_cons (pv 3) pa_nil)))) pss_nil) (pss_cons (ps_asg (pe_call (ok__law_copy T hp Sm n) (hr.mono (by omega)) (by rfl) T.f__law_copy.g T.f__law_copy.F.kp T.f__law_copy.b .nil passF (pa_cons (pv 3) pa_nil)) (pg_sub (pv 0) (pv 2) set_list)) pss_nil)) pss_nil)) pss_nil)
theorem ok__law_spoil (T : Txt K mg fa ff tk ca ka cc) (hp : PmOk (cn K w ca ka fa pp ρ ns) pm) (Sm : Sem P w K mg base fa ff ca ka cc pp ρ ns pm) : (n : Nat) → FnOk P w K mg base (L2.CX P w) (2 * n) (fa 28) (ff 28) ["_law_found"] (spR (cn K w ca ka fa pp ρ ns) (run pm n 28))
  | 0 => fn_no
  | n + 1 => fnR_c (P := P) (mg := mg) (base := base) (C := cn K w ca ka fa pp ρ ns) (k := 2 * n + 1) rfl T.f__law_spoil.F sc__law_spoil (ks_ok (w := w) T hp) fun cdv A outer s H E hr =>
    (pss_cons (ps_if (PW.pt (pw_or (pt_val (pe_callB call_isi (by rfl) T.z_isinstance (by decide +kernel) (pa_cons (pv 0) (pa_cons (pe_bltn (v := .ty "list") (by rfl) T.z_list (by decide +kernel) rfl) pa_nil)))) (pw_or1 (pt_val (pe_callB call_isi (by rfl) T.z_isinstance (by decide +kernel) (pa_cons (pv 0) (pa_cons (pe_bltn (v := .ty "tuple") (by rfl) T.z_tuple (by decide +kernel) rfl) pa_nil))))))) (pss_cons (ps_for (passes_of rfl) rfl (pi_list (pe_callTy call_list_of (by rfl) T.z_list (by decide +kernel) (pa_cons (pv 0) pa_nil))) (pg_name (i := 1) sc__law_spoil.nd rfl (.inl rfl)) (pss_cons (ps_expr (pe_call (ok__law_spoil T hp Sm n) (hr.mono (by omega)) (by rfl) T.f__law_spoil.g T.f__law_spoil.F.kp T.f__law_spoil.b .nil passF (pa_cons (pv 1) pa_nil))) pss_nil)) pss_nil) pss_nil) (pss_cons (ps_if (pt_val (pe_callB call_isi (by rfl) T.z_isinstance (by decide +kernel) (pa_cons (pv 0) (pa_cons (pe_bltn (v := .ty "list") (by rfl) T.z_list (by decide +kernel) rfl) pa_nil)))) (pss_cons (ps_expr (pe_bm PySem.F.plainAttrs_list PySem.F.slot_list_append PySem.F.type_list_append mt_append (pv 0) (pa_cons pe_non pa_nil))) pss_nil) pss_nil) pss_nil))
theorem ok__law_fields (T : Txt K mg fa ff tk ca ka cc) (hp : PmOk (cn K w ca ka fa pp ρ ns) pm) (Sm : Sem P w K mg base fa ff ca ka cc pp ρ ns pm) : (n : Nat) → FnOk P w K mg base (L2.CX P w) (2 * n) (fa 30) (ff 30) ["_law_found"] (spR (cn K w ca ka fa pp ρ ns) (run pm n 30))
  | 0 => fn_no
  | n + 1 => fnR_c (P := P) (mg := mg) (base := base) (C := cn K w ca ka fa pp ρ ns) (k := 2 * n + 1) rfl T.f__law_fields.F sc__law_fields (ks_ok (w := w) T hp) fun cdv A outer s H E hr =>
    (pss_cons (ps_ret (pe_lst (pa_cons (pe_fld (pv 0) rfl) (pa_cons (pe_fld (pv 0) rfl) (pa_cons (pe_fld (pv 0) rfl) (pa_cons (pe_fld (pv 0) rfl) pa_nil)))))) pss_nil)
theorem ok__law_rows_one (T : Txt K mg fa ff tk ca ka cc) (hp : PmOk (cn K w ca ka fa pp ρ ns) pm) (Sm : Sem P w K mg base fa ff ca ka cc pp ρ ns pm) : (n : Nat) → FnOk P w K mg base (L2.CX P w) (2 * n) (fa 31) (ff 31) [] (spR (cn K w ca ka fa pp ρ ns) (run pm n 31))
  | 0 => fn_no
  | n + 1 => fnR_cL (P := P) (mg := mg) (base := base) (C := cn K w ca ka fa pp ρ ns) (k := 2 * n + 1) rfl T.fc__law_rows_one sc__law_rows_one (ks_ok (w := w) T hp) fun A outer s H E hr =>
    (pss_cons (ps_set (i := 0) sc__law_rows_one.nd rfl (.inl rfl) (pe_lst pa_nil)) (pss_cons (ps_expr (pe_bm PySem.F.plainAttrs_list PySem.F.slot_list_append PySem.F.type_list_append mt_append (pv 0) (pa_cons (pe_tup (pa_cons (pe_lamvR (C := cn K w ca ka fa pp ρ ns) (k := 0) rfl (Sm.tb_0) rfl (tbm_0 Sm _ rfl).1 (tbm_0 Sm _ rfl).2 rfl (by decide +kernel)) (pa_cons (pe_lst (pa_cons (pe_lst (pa_cons (pe_lst (pa_cons (pe_tup (pa_cons pe_str (pa_cons pe_int pa_nil))) (pa_cons (pe_tup (pa_cons pe_str (pa_cons pe_int pa_nil))) pa_nil))) (pa_cons (pe_lst (pa_cons (pe_tup (pa_cons pe_str (pa_cons pe_int pa_nil))) pa_nil)) pa_nil))) (pa_cons (pe_lst (pa_cons pe_int (pa_cons pe_int pa_nil))) pa_nil))) (pa_cons (pe_lst (pa_cons (pe_lst (pa_cons (pe_lst (pa_cons (pe_tup (pa_cons pe_str (pa_cons pe_int pa_nil))) (pa_cons (pe_tup (pa_cons pe_str (pa_cons pe_int pa_nil))) pa_nil))) (pa_cons (pe_lst (pa_cons (pe_tup (pa_cons pe_str (pa_cons pe_int pa_nil))) pa_nil)) pa_nil))) (pa_cons (pe_lst (pa_cons pe_int (pa_cons pe_int pa_nil))) pa_nil))) pa_nil)))) pa_nil))) (pss_cons (ps_expr (pe_bm PySem.F.plainAttrs_list PySem.F.slot_list_append PySem.F.type_list_append mt_append (pv 0) (pa_cons (pe_tup (pa_cons (pe_lamvR (C := cn K w ca ka fa pp ρ ns) (k := 1) rfl (Sm.tb_0) rfl (tbm_0 Sm _ rfl).1 (tbm_0 Sm _ rfl).2 rfl (by decide +kernel)) (pa_cons (pe_lst (pa_cons (pe_lst (pa_cons (pe_lst (pa_cons (pe_tup (pa_cons pe_str (pa_cons pe_int pa_nil))) (pa_cons (pe_tup (pa_cons pe_str (pa_cons pe_int pa_nil))) pa_nil))) (pa_cons (pe_lst (pa_cons (pe_tup (pa_cons pe_str (pa_cons pe_int pa_nil))) pa_nil)) pa_nil))) (pa_cons (pe_lst (pa_cons pe_int (pa_cons pe_int pa_nil))) pa_nil))) (pa_cons (pe_lst (pa_cons (pe_lst (pa_cons (pe_lst (pa_cons (pe_tup (pa_cons pe_str (pa_cons pe_int pa_nil))) (pa_cons (pe_tup (pa_cons pe_str (pa_cons pe_int pa_nil))) pa_nil))) (pa_cons (pe_lst (pa_cons (pe_tup (pa_cons pe_str (pa_cons pe_int pa_nil))) pa_nil)) pa_nil))) (pa_cons (pe_lst (pa_cons pe_int (pa_cons pe_int pa_nil))) pa_nil))) pa_nil)))) pa_nil))) (pss_cons (ps_expr (pe_bm PySem.F.plainAttrs_list PySem.F.slot_list_append PySem.F.type_list_append mt_append (pv 0) (pa_cons (pe_tup (pa_cons (pe_lamvR (C := cn K w ca ka fa pp ρ ns) (k := 2) rfl (Sm.tb_0) rfl (tbm_0 Sm _ rfl).1 (tbm_0 Sm _ rfl).2 rfl (by decide +kernel)) (pa_cons (pe_lst (pa_cons (pe_lst (pa_cons (pe_lst (pa_cons (pe_tup (pa_cons pe_str (pa_cons pe_int pa_nil))) (pa_cons (pe_tup (pa_cons pe_str (pa_cons pe_int pa_nil))) pa_nil))) (pa_cons (pe_lst (pa_cons (pe_tup (pa_cons pe_str (pa_cons pe_int pa_nil))) pa_nil)) pa_nil))) (pa_cons (pe_lst (pa_cons (pe_tup (pa_cons pe_int (pa_cons pe_int (pa_cons pe_int pa_nil)))) pa_nil)) pa_nil))) (pa_cons (pe_lst (pa_cons (pe_lst (pa_cons (pe_lst (pa_cons (pe_tup (pa_cons pe_str (pa_cons pe_int pa_nil))) (pa_cons (pe_tup (pa_cons pe_str (pa_cons pe_int pa_nil))) pa_nil))) (pa_cons (pe_lst (pa_cons (pe_tup (pa_cons pe_str (pa_cons pe_int pa_nil))) pa_nil)) pa_nil))) (pa_cons (pe_lst (pa_cons (pe_tup (pa_cons pe_int (pa_cons pe_int (pa_cons pe_int pa_nil)))) pa_nil)) pa_nil))) pa_nil)))) pa_nil))) (pss_cons (ps_expr (pe_bm PySem.F.plainAttrs_list PySem.F.slot_list_append PySem.F.type_list_append mt_append (pv 0) (pa_cons (pe_tup (pa_cons (pe_lamvR (C := cn K w ca ka fa pp ρ ns) (k := 3) rfl (Sm.tb_0) rfl (tbm_0 Sm _ rfl).1 (tbm_0 Sm _ rfl).2 rfl (by decide +kernel)) (pa_cons (pe_lst (pa_cons (pe_lst (pa_cons (pe_lst (pa_cons (pe_tup (pa_cons pe_str (pa_cons pe_int pa_nil))) (pa_cons (pe_tup (pa_cons pe_str (pa_cons pe_int pa_nil))) pa_nil))) (pa_cons (pe_lst (pa_cons (pe_tup (pa_cons pe_str (pa_cons pe_int pa_nil))) pa_nil)) pa_nil))) (pa_cons (pe_lst (pa_cons (pe_tup (pa_cons pe_int (pa_cons pe_int (pa_cons pe_int pa_nil)))) pa_nil)) pa_nil))) (pa_cons (pe_lst (pa_cons (pe_lst (pa_cons (pe_lst (pa_cons (pe_tup (pa_cons pe_str (pa_cons pe_int pa_nil))) (pa_cons (pe_tup (pa_cons pe_str (pa_cons pe_int pa_nil))) pa_nil))) (pa_cons (pe_lst (pa_cons (pe_tup (pa_cons pe_str (pa_cons pe_int pa_nil))) pa_nil)) pa_nil))) (pa_cons (pe_lst (pa_cons (pe_tup (pa_cons pe_int (pa_cons pe_int (pa_cons pe_int pa_nil)))) pa_nil)) pa_nil))) pa_nil)))) pa_nil))) (pss_cons (ps_expr (pe_bm PySem.F.plainAttrs_list PySem.F.slot_list_append PySem.F.type_list_append mt_append (pv 0) (pa_cons (pe_tup (pa_cons (pe_lamvR (C := cn K w ca ka fa pp ρ ns) (k := 4) rfl (Sm.tb_0) rfl (tbm_0 Sm _ rfl).1 (tbm_0 Sm _ rfl).2 rfl (by decide +kernel)) (pa_cons (pe_lst (pa_cons (pe_lst (pa_cons (pe_lst (pa_cons (pe_tup (pa_cons pe_str (pa_cons pe_int pa_nil))) (pa_cons (pe_tup (pa_cons pe_str (pa_cons pe_int pa_nil))) pa_nil))) (pa_cons (pe_lst (pa_cons (pe_tup (pa_cons pe_str (pa_cons pe_int pa_nil))) pa_nil)) pa_nil))) pa_nil)) (pa_cons (pe_lst (pa_cons (pe_lst (pa_cons (pe_lst (pa_cons (pe_tup (pa_cons pe_str (pa_cons pe_int pa_nil))) (pa_cons (pe_tup (pa_cons pe_str (pa_cons pe_int pa_nil))) pa_nil))) (pa_cons (pe_lst (pa_cons (pe_tup (pa_cons pe_str (pa_cons pe_int pa_nil))) pa_nil)) pa_nil))) pa_nil)) pa_nil)))) pa_nil))) (pss_cons (ps_expr (pe_bm PySem.F.plainAttrs_list PySem.F.slot_list_append PySem.F.type_list_append mt_append (pv 0) (pa_cons (pe_tup (pa_cons (pe_lamvR (C := cn K w ca ka fa pp ρ ns) (k := 5) rfl (Sm.tb_0) rfl (tbm_0 Sm _ rfl).1 (tbm_0 Sm _ rfl).2 rfl (by decide +kernel)) (pa_cons (pe_lst (pa_cons (pe_lst (pa_cons pe_int (pa_cons pe_int (pa_cons pe_int pa_nil)))) pa_nil)) (pa_cons (pe_lst (pa_cons (pe_lst (pa_cons pe_int (pa_cons pe_int (pa_cons pe_int pa_nil)))) pa_nil)) pa_nil)))) pa_nil))) (pss_cons (ps_expr (pe_bm PySem.F.plainAttrs_list PySem.F.slot_list_append PySem.F.type_list_append mt_append (pv 0) (pa_cons (pe_tup (pa_cons (pe_lamvR (C := cn K w ca ka fa pp ρ ns) (k := 6) rfl (Sm.tb_0) rfl (tbm_0 Sm _ rfl).1 (tbm_0 Sm _ rfl).2 rfl (by decide +kernel)) (pa_cons (pe_lst (pa_cons (pe_lst (pa_cons pe_int pa_nil)) pa_nil)) (pa_cons (pe_lst (pa_cons (pe_lst (pa_cons pe_int pa_nil)) pa_nil)) pa_nil)))) pa_nil))) (pss_cons (ps_expr (pe_bm PySem.F.plainAttrs_list PySem.F.slot_list_append PySem.F.type_list_append mt_append (pv 0) (pa_cons (pe_tup (pa_cons (pe_lamvR (C := cn K w ca ka fa pp ρ ns) (k := 7) rfl (Sm.tb_0) rfl (tbm_0 Sm _ rfl).1 (tbm_0 Sm _ rfl).2 rfl (by decide +kernel)) (pa_cons (pe_lst (pa_cons (pe_lst (pa_cons (pe_lst (pa_cons (pe_tup (pa_cons pe_str (pa_cons pe_int pa_nil))) (pa_cons (pe_tup (pa_cons pe_str (pa_cons pe_int pa_nil))) pa_nil))) (pa_cons (pe_lst (pa_cons (pe_tup (pa_cons pe_str (pa_cons pe_int pa_nil))) pa_nil)) pa_nil))) (pa_cons (pe_lst (pa_cons (pe_tup (pa_cons pe_int (pa_cons pe_int (pa_cons pe_int pa_nil)))) pa_nil)) pa_nil))) (pa_cons (pe_lst (pa_cons (pe_lst (pa_cons (pe_lst (pa_cons (pe_tup (pa_cons pe_str (pa_cons pe_int pa_nil))) (pa_cons (pe_tup (pa_cons pe_str (pa_cons pe_int pa_nil))) pa_nil))) (pa_cons (pe_lst (pa_cons (pe_tup (pa_cons pe_str (pa_cons pe_int pa_nil))) pa_nil)) pa_nil))) (pa_cons (pe_lst (pa_cons (pe_tup (pa_cons pe_int (pa_cons pe_int (pa_cons pe_int pa_nil)))) pa_nil)) pa_nil))) pa_nil)))) pa_nil))) (pss_cons (ps_expr (pe_bm PySem.F.plainAttrs_list PySem.F.slot_list_append PySem.F.type_list_append mt_append (pv 0) (pa_cons (pe_tup (pa_cons (pe_lamvR (C := cn K w ca ka fa pp ρ ns) (k := 8) rfl (Sm.tb_0) rfl (tbm_0 Sm _ rfl).1 (tbm_0 Sm _ rfl).2 rfl (by decide +kernel)) (pa_cons (pe_lst (pa_cons (pe_lst (pa_cons (pe_lst (pa_cons (pe_tup (pa_cons pe_str (pa_cons pe_int pa_nil))) (pa_cons (pe_tup (pa_cons pe_str (pa_cons pe_int pa_nil))) pa_nil))) (pa_cons (pe_lst (pa_cons (pe_tup (pa_cons pe_str (pa_cons pe_int pa_nil))) pa_nil)) pa_nil))) (pa_cons (pe_lst (pa_cons (pe_tup (pa_cons pe_int (pa_cons pe_int (pa_cons pe_int pa_nil)))) pa_nil)) pa_nil))) (pa_cons (pe_lst (pa_cons (pe_lst (pa_cons (pe_lst (pa_cons (pe_tup (pa_cons pe_str (pa_cons pe_int pa_nil))) (pa_cons (pe_tup (pa_cons pe_str (pa_cons pe_int pa_nil))) pa_nil))) (pa_cons (pe_lst (pa_cons (pe_tup (pa_cons pe_str (pa_cons pe_int pa_nil))) pa_nil)) pa_nil))) (pa_cons (pe_lst (pa_cons (pe_tup (pa_cons pe_int (pa_cons pe_int (pa_cons pe_int pa_nil)))) pa_nil)) pa_nil))) pa_nil)))) pa_nil))) (pss_cons (ps_expr (pe_bm PySem.F.plainAttrs_list PySem.F.slot_list_append PySem.F.type_list_append mt_append (pv 0) (pa_cons (pe_tup (pa_cons (pe_lamvR (C := cn K w ca ka fa pp ρ ns) (k := 9) rfl (Sm.tb_0) rfl (tbm_0 Sm _ rfl).1 (tbm_0 Sm _ rfl).2 rfl (by decide +kernel)) (pa_cons (pe_lst (pa_cons (pe_lst (pa_cons (pe_lst (pa_cons (pe_tup (pa_cons pe_str (pa_cons pe_int pa_nil))) (pa_cons (pe_tup (pa_cons pe_str (pa_cons pe_int pa_nil))) pa_nil))) (pa_cons (pe_lst (pa_cons (pe_tup (pa_cons pe_str (pa_cons pe_int pa_nil))) pa_nil)) pa_nil))) pa_nil)) (pa_cons (pe_lst (pa_cons (pe_lst (pa_cons (pe_lst (pa_cons (pe_tup (pa_cons pe_str (pa_cons pe_int pa_nil))) (pa_cons (pe_tup (pa_cons pe_str (pa_cons pe_int pa_nil))) pa_nil))) (pa_cons (pe_lst (pa_cons (pe_tup (pa_cons pe_str (pa_cons pe_int pa_nil))) pa_nil)) pa_nil))) pa_nil)) pa_nil)))) pa_nil))) (pss_cons (ps_ret (pv 0)) pss_nil))))))))))))
end
end K11

namespace K11
open PySem PySem.Spec PyProof.Rows L2 R G
section
variable {P : Program} {w : World} {K : PySem.W.Frag} {mg : Str → Option Value} {base : Heap} {fa : Nat → Addr} {ff : Nat → FuncData} {tk : Nat → Tok} {ca ka cc pp : Nat → Addr} {ρ : Nat → Int} {ns : List Int} {pm : Pm}
theorem ok_lam0 (T : Txt K mg fa ff tk ca ka cc) (hp : PmOk (cn K w ca ka fa pp ρ ns) pm) (Sm : Sem P w K mg base fa ff ca ka cc pp ρ ns pm) : (n : Nat) → LOk P w K mg base (L2.CX P w) (2 * n) (lms 0) ["_law_some"] (spR (cn K w ca ka fa pp ρ ns) (run pm n 33))
  | 0 => lm_no
  | n + 1 => lmR_c (P := P) (mg := mg) (base := base) (C := cn K w ca ka fa pp ρ ns) (D := lms 0) (N := ["_law_some"]) (ps := ["_law_some"]) (Γ := gtOf pm (run pm n)) (e := m_lam0) (k := 2 * n + 1) (NdefX.nscope_by (by decide +kernel)) (fun _ _ _ us hl => match us, hl with | [_], _ => rfl) (ks_ok (w := w) T hp) fun A outer s H E f c hr =>
    (pe_call (ok_score T hp Sm n) (hr.mono (by omega)) (by rfl) T.f_score.g T.f_score.F.kp T.f_score.b .nil passF (pa_cons (pe_ix ix_seq (pv 0) pe_int (fun _ _ => rfl)) (pa_cons (pe_ix ix_seq (pv 0) pe_int (fun _ _ => rfl)) pa_nil)))
theorem ok_lam1 (T : Txt K mg fa ff tk ca ka cc) (hp : PmOk (cn K w ca ka fa pp ρ ns) pm) (Sm : Sem P w K mg base fa ff ca ka cc pp ρ ns pm) : (n : Nat) → LOk P w K mg base (L2.CX P w) (2 * n) (lms 1) ["_law_some"] (spR (cn K w ca ka fa pp ρ ns) (run pm n 34))
  | 0 => lm_no
  | n + 1 => lmR_c (P := P) (mg := mg) (base := base) (C := cn K w ca ka fa pp ρ ns) (D := lms 1) (N := ["_law_some"]) (ps := ["_law_some"]) (Γ := gtOf pm (run pm n)) (e := m_lam1) (k := 2 * n + 1) (NdefX.nscope_by (by decide +kernel)) (fun _ _ _ us hl => match us, hl with | [_], _ => rfl) (ks_ok (w := w) T hp) fun A outer s H E f c hr =>
    (pe_call (ok_score T hp Sm n) (hr.mono (by omega)) (by rfl) T.f_score.g T.f_score.F.kp T.f_score.b .nil passF (pa_cons (pe_ix ix_seq (pv 0) pe_int (fun _ _ => rfl)) (pa_cons (pe_ix ix_seq (pv 0) pe_int (fun _ _ => rfl)) pa_nil)))
theorem ok_lam2 (T : Txt K mg fa ff tk ca ka cc) (hp : PmOk (cn K w ca ka fa pp ρ ns) pm) (Sm : Sem P w K mg base fa ff ca ka cc pp ρ ns pm) : (n : Nat) → LOk P w K mg base (L2.CX P w) (2 * n) (lms 2) ["_law_some"] (spR (cn K w ca ka fa pp ρ ns) (run pm n 35))
  | 0 => lm_no
  | n + 1 => lmR_c (P := P) (mg := mg) (base := base) (C := cn K w ca ka fa pp ρ ns) (D := lms 2) (N := ["_law_some"]) (ps := ["_law_some"]) (Γ := gtOf pm (run pm n)) (e := m_lam2) (k := 2 * n + 1) (NdefX.nscope_by (by decide +kernel)) (fun _ _ _ us hl => match us, hl with | [_], _ => rfl) (ks_ok (w := w) T hp) fun A outer s H E f c hr =>
    (pe_isC (C := cn K w ca ka fa pp ρ ns) (c := 1) rfl (by rfl) T.z_isinstance (pe_call (ok_judged T hp Sm n) (hr.mono (by omega)) (by rfl) T.f_judged.g T.f_judged.F.kp T.f_judged.b .nil passF (pa_cons (pe_ix ix_seq (pv 0) pe_int (fun _ _ => rfl)) (pa_cons pe_int (pa_cons (pe_ix ix_seq (pv 0) pe_int (fun _ _ => rfl)) pa_nil)))) (by rfl) T.g_History)
theorem ok_lam3 (T : Txt K mg fa ff tk ca ka cc) (hp : PmOk (cn K w ca ka fa pp ρ ns) pm) (Sm : Sem P w K mg base fa ff ca ka cc pp ρ ns pm) : (n : Nat) → LOk P w K mg base (L2.CX P w) (2 * n) (lms 3) ["_law_some"] (spR (cn K w ca ka fa pp ρ ns) (run pm n 36))
  | 0 => lm_no
  | n + 1 => lmR_c (P := P) (mg := mg) (base := base) (C := cn K w ca ka fa pp ρ ns) (D := lms 3) (N := ["_law_some"]) (ps := ["_law_some"]) (Γ := gtOf pm (run pm n)) (e := m_lam3) (k := 2 * n + 1) (NdefX.nscope_by (by decide +kernel)) (fun _ _ _ us hl => match us, hl with | [_], _ => rfl) (ks_ok (w := w) T hp) fun A outer s H E f c hr =>
    (pe_fld (pe_call (ok_judged T hp Sm n) (hr.mono (by omega)) (by rfl) T.f_judged.g T.f_judged.F.kp T.f_judged.b .nil passF (pa_cons (pe_ix ix_seq (pv 0) pe_int (fun _ _ => rfl)) (pa_cons pe_int (pa_cons (pe_ix ix_seq (pv 0) pe_int (fun _ _ => rfl)) pa_nil)))) rfl)
theorem ok_lam4 (T : Txt K mg fa ff tk ca ka cc) (hp : PmOk (cn K w ca ka fa pp ρ ns) pm) (Sm : Sem P w K mg base fa ff ca ka cc pp ρ ns pm) : (n : Nat) → LOk P w K mg base (L2.CX P w) (2 * n) (lms 4) ["_law_some"] (spR (cn K w ca ka fa pp ρ ns) (run pm n 37))
  | 0 => lm_no
  | n + 1 => lmR_c (P := P) (mg := mg) (base := base) (C := cn K w ca ka fa pp ρ ns) (D := lms 4) (N := ["_law_some"]) (ps := ["_law_some"]) (Γ := gtOf pm (run pm n)) (e := m_lam4) (k := 2 * n + 1) (NdefX.nscope_by (by decide +kernel)) (fun _ _ _ us hl => match us, hl with | [_], _ => rfl) (ks_ok (w := w) T hp) fun A outer s H E f c hr =>
    (pe_call (ok__law_fields T hp Sm n) (hr.mono (by omega)) (by rfl) T.f__law_fields.g T.f__law_fields.F.kp T.f__law_fields.b .nil passF (pa_cons (pe_call (ok_leads T hp Sm n) (hr.mono (by omega)) (by rfl) T.f_leads.g T.f_leads.F.kp T.f_leads.b .nil passF (pa_cons (pe_ix ix_seq (pv 0) pe_int (fun _ _ => rfl)) (pa_cons pe_int (pa_cons pe_int pa_nil)))) pa_nil))
theorem ok_lam5 (T : Txt K mg fa ff tk ca ka cc) (hp : PmOk (cn K w ca ka fa pp ρ ns) pm) (Sm : Sem P w K mg base fa ff ca ka cc pp ρ ns pm) : (n : Nat) → LOk P w K mg base (L2.CX P w) (2 * n) (lms 5) ["_law_some"] (spR (cn K w ca ka fa pp ρ ns) (run pm n 38))
  | 0 => lm_no
  | n + 1 => lmR_c (P := P) (mg := mg) (base := base) (C := cn K w ca ka fa pp ρ ns) (D := lms 5) (N := ["_law_some"]) (ps := ["_law_some"]) (Γ := gtOf pm (run pm n)) (e := m_lam5) (k := 2 * n + 1) (NdefX.nscope_by (by decide +kernel)) (fun _ _ _ us hl => match us, hl with | [_], _ => rfl) (ks_ok (w := w) T hp) fun A outer s H E f c hr =>
    (pe_call (ok_games T hp Sm n) (hr.mono (by omega)) (by rfl) T.f_games.g T.f_games.F.kp T.f_games.b .nil passF (pa_cons (pe_tup (pa_cons pe_int (pa_cons pe_int pa_nil))) (pa_cons (pe_ix ix_seq (pv 0) pe_int (fun _ _ => rfl)) pa_nil)))
theorem ok_lam6 (T : Txt K mg fa ff tk ca ka cc) (hp : PmOk (cn K w ca ka fa pp ρ ns) pm) (Sm : Sem P w K mg base fa ff ca ka cc pp ρ ns pm) : (n : Nat) → LOk P w K mg base (L2.CX P w) (2 * n) (lms 6) ["_law_some"] (spR (cn K w ca ka fa pp ρ ns) (run pm n 39))
  | 0 => lm_no
  | n + 1 => lmR_c (P := P) (mg := mg) (base := base) (C := cn K w ca ka fa pp ρ ns) (D := lms 6) (N := ["_law_some"]) (ps := ["_law_some"]) (Γ := gtOf pm (run pm n)) (e := m_lam6) (k := 2 * n + 1) (NdefX.nscope_by (by decide +kernel)) (fun _ _ _ us hl => match us, hl with | [_], _ => rfl) (ks_ok (w := w) T hp) fun A outer s H E f c hr =>
    (pe_call (ok_game_point T hp Sm n) (hr.mono (by omega)) (by rfl) T.f_game_point.g T.f_game_point.F.kp T.f_game_point.b .nil passF (pa_cons (pe_tup (pa_cons pe_int (pa_cons pe_int pa_nil))) (pa_cons (pe_ix ix_seq (pv 0) pe_int (fun _ _ => rfl)) (pa_cons pe_int pa_nil))))
theorem ok_lam7 (T : Txt K mg fa ff tk ca ka cc) (hp : PmOk (cn K w ca ka fa pp ρ ns) pm) (Sm : Sem P w K mg base fa ff ca ka cc pp ρ ns pm) : (n : Nat) → LOk P w K mg base (L2.CX P w) (2 * n) (lms 7) ["_law_some"] (spR (cn K w ca ka fa pp ρ ns) (run pm n 40))
  | 0 => lm_no
  | n + 1 => lmR_c (P := P) (mg := mg) (base := base) (C := cn K w ca ka fa pp ρ ns) (D := lms 7) (N := ["_law_some"]) (ps := ["_law_some"]) (Γ := gtOf pm (run pm n)) (e := m_lam7) (k := 2 * n + 1) (NdefX.nscope_by (by decide +kernel)) (fun _ _ _ us hl => match us, hl with | [_], _ => rfl) (ks_ok (w := w) T hp) fun A outer s H E f c hr =>
    (G.pe_or (pe_meth (pe_make T.mk_History (ok_History_init T hp Sm n) (hr.mono (by omega)) (by rfl) T.g_History T.b_History_init .nil passF (pa_cons (pe_lst (pa_cons (pe_lst (pa_cons pe_int (pa_cons pe_int pa_nil))) pa_nil)) pa_nil)) T.cl_History T.mt_History_shows (ok_History_shows T hp Sm n) (hr.mono (by omega)) T.b_History_shows .nil passF (pa_cons (pe_ix ix_seq (pv 0) pe_int (fun _ _ => rfl)) (pa_cons pe_int (pa_cons (pe_ix ix_seq (pv 0) pe_int (fun _ _ => rfl)) pa_nil)))) (G.pe_or (pe_meth (pe_make T.mk_History (ok_History_init T hp Sm n) (hr.mono (by omega)) (by rfl) T.g_History T.b_History_init .nil passF (pa_cons (pe_lst (pa_cons (pe_lst (pa_cons pe_int (pa_cons pe_int pa_nil))) pa_nil)) pa_nil)) T.cl_Never T.mt_Never_shows (ok_Never_shows T hp Sm n) (hr.mono (by omega)) T.b_Never_shows .nil passF (pa_cons (pe_ix ix_seq (pv 0) pe_int (fun _ _ => rfl)) (pa_cons pe_int (pa_cons (pe_ix ix_seq (pv 0) pe_int (fun _ _ => rfl)) pa_nil)))) (G.pe_or (pe_meth (pe_make T.mk_History (ok_History_init T hp Sm n) (hr.mono (by omega)) (by rfl) T.g_History T.b_History_init .nil passF (pa_cons (pe_lst (pa_cons (pe_lst (pa_cons pe_int (pa_cons pe_int pa_nil))) pa_nil)) pa_nil)) T.cl_Leads T.mt_Leads_shows (ok_Leads_shows T hp Sm n) (hr.mono (by omega)) T.b_Leads_shows .nil passF (pa_cons (pe_ix ix_seq (pv 0) pe_int (fun _ _ => rfl)) (pa_cons pe_int (pa_cons (pe_ix ix_seq (pv 0) pe_int (fun _ _ => rfl)) pa_nil)))) pe_nope)))
theorem ok_lam8 (T : Txt K mg fa ff tk ca ka cc) (hp : PmOk (cn K w ca ka fa pp ρ ns) pm) (Sm : Sem P w K mg base fa ff ca ka cc pp ρ ns pm) : (n : Nat) → LOk P w K mg base (L2.CX P w) (2 * n) (lms 8) ["_law_some"] (spR (cn K w ca ka fa pp ρ ns) (run pm n 41))
  | 0 => lm_no
  | n + 1 => lmR_c (P := P) (mg := mg) (base := base) (C := cn K w ca ka fa pp ρ ns) (D := lms 8) (N := ["_law_some"]) (ps := ["_law_some"]) (Γ := gtOf pm (run pm n)) (e := m_lam8) (k := 2 * n + 1) (NdefX.nscope_by (by decide +kernel)) (fun _ _ _ us hl => match us, hl with | [_], _ => rfl) (ks_ok (w := w) T hp) fun A outer s H E f c hr =>
    (G.pe_or (pe_meth (pe_make T.mk_Never (ok_Never_init T hp Sm n) (hr.mono (by omega)) (by rfl) T.g_Never T.b_Never_init .nil passF (pa_cons (pe_lst (pa_cons (pe_lst pa_nil) pa_nil)) pa_nil)) T.cl_History T.mt_History_shows (ok_History_shows T hp Sm n) (hr.mono (by omega)) T.b_History_shows .nil passF (pa_cons (pe_ix ix_seq (pv 0) pe_int (fun _ _ => rfl)) (pa_cons pe_int (pa_cons (pe_ix ix_seq (pv 0) pe_int (fun _ _ => rfl)) pa_nil)))) (G.pe_or (pe_meth (pe_make T.mk_Never (ok_Never_init T hp Sm n) (hr.mono (by omega)) (by rfl) T.g_Never T.b_Never_init .nil passF (pa_cons (pe_lst (pa_cons (pe_lst pa_nil) pa_nil)) pa_nil)) T.cl_Never T.mt_Never_shows (ok_Never_shows T hp Sm n) (hr.mono (by omega)) T.b_Never_shows .nil passF (pa_cons (pe_ix ix_seq (pv 0) pe_int (fun _ _ => rfl)) (pa_cons pe_int (pa_cons (pe_ix ix_seq (pv 0) pe_int (fun _ _ => rfl)) pa_nil)))) (G.pe_or (pe_meth (pe_make T.mk_Never (ok_Never_init T hp Sm n) (hr.mono (by omega)) (by rfl) T.g_Never T.b_Never_init .nil passF (pa_cons (pe_lst (pa_cons (pe_lst pa_nil) pa_nil)) pa_nil)) T.cl_Leads T.mt_Leads_shows (ok_Leads_shows T hp Sm n) (hr.mono (by omega)) T.b_Leads_shows .nil passF (pa_cons (pe_ix ix_seq (pv 0) pe_int (fun _ _ => rfl)) (pa_cons pe_int (pa_cons (pe_ix ix_seq (pv 0) pe_int (fun _ _ => rfl)) pa_nil)))) pe_nope)))
theorem ok_lam9 (T : Txt K mg fa ff tk ca ka cc) (hp : PmOk (cn K w ca ka fa pp ρ ns) pm) (Sm : Sem P w K mg base fa ff ca ka cc pp ρ ns pm) : (n : Nat) → LOk P w K mg base (L2.CX P w) (2 * n) (lms 9) ["_law_some"] (spR (cn K w ca ka fa pp ρ ns) (run pm n 42))
  | 0 => lm_no
  | n + 1 => lmR_c (P := P) (mg := mg) (base := base) (C := cn K w ca ka fa pp ρ ns) (D := lms 9) (N := ["_law_some"]) (ps := ["_law_some"]) (Γ := gtOf pm (run pm n)) (e := m_lam9) (k := 2 * n + 1) (NdefX.nscope_by (by decide +kernel)) (fun _ _ _ us hl => match us, hl with | [_], _ => rfl) (ks_ok (w := w) T hp) fun A outer s H E f c hr =>
    (G.pe_or (pe_meth (pe_make T.mk_Leads (ok_Leads_init T hp Sm n) (hr.mono (by omega)) (by rfl) T.g_Leads T.b_Leads_init .nil passF (pa_cons pe_int (pa_cons (pe_lst (pa_cons pe_int (pa_cons pe_int pa_nil))) (pa_cons pe_int (pa_cons (pe_lst (pa_cons pe_int (pa_cons pe_int pa_nil))) pa_nil))))) T.cl_History T.mt_History_shows (ok_History_shows T hp Sm n) (hr.mono (by omega)) T.b_History_shows .nil passF (pa_cons (pe_ix ix_seq (pv 0) pe_int (fun _ _ => rfl)) (pa_cons pe_int (pa_cons pe_int pa_nil)))) (G.pe_or (pe_meth (pe_make T.mk_Leads (ok_Leads_init T hp Sm n) (hr.mono (by omega)) (by rfl) T.g_Leads T.b_Leads_init .nil passF (pa_cons pe_int (pa_cons (pe_lst (pa_cons pe_int (pa_cons pe_int pa_nil))) (pa_cons pe_int (pa_cons (pe_lst (pa_cons pe_int (pa_cons pe_int pa_nil))) pa_nil))))) T.cl_Never T.mt_Never_shows (ok_Never_shows T hp Sm n) (hr.mono (by omega)) T.b_Never_shows .nil passF (pa_cons (pe_ix ix_seq (pv 0) pe_int (fun _ _ => rfl)) (pa_cons pe_int (pa_cons pe_int pa_nil)))) (G.pe_or (pe_meth (pe_make T.mk_Leads (ok_Leads_init T hp Sm n) (hr.mono (by omega)) (by rfl) T.g_Leads T.b_Leads_init .nil passF (pa_cons pe_int (pa_cons (pe_lst (pa_cons pe_int (pa_cons pe_int pa_nil))) (pa_cons pe_int (pa_cons (pe_lst (pa_cons pe_int (pa_cons pe_int pa_nil))) pa_nil))))) T.cl_Leads T.mt_Leads_shows (ok_Leads_shows T hp Sm n) (hr.mono (by omega)) T.b_Leads_shows .nil passF (pa_cons (pe_ix ix_seq (pv 0) pe_int (fun _ _ => rfl)) (pa_cons pe_int (pa_cons pe_int pa_nil)))) pe_nope)))
theorem ok_lams (T : Txt K mg fa ff tk ca ka cc) (hp : PmOk (cn K w ca ka fa pp ρ ns) pm) (Sm : Sem P w K mg base fa ff ca ka cc pp ρ ns pm) (n : Nat) : ∀ q ∈ ([(0, 33), (1, 34), (2, 35), (3, 36), (4, 37), (5, 38), (6, 39), (7, 40), (8, 41), (9, 42)] : List (Nat × Nat)), LOk P w K mg base (L2.CX P w) (2 * n) (lms q.1) ["_law_some"] (spR (cn K w ca ka fa pp ρ ns) (run pm n q.2)) := by
  intro q hq
  simp only [List.mem_cons, List.not_mem_nil, or_false] at hq
  rcases hq with rfl | rfl | rfl | rfl | rfl | rfl | rfl | rfl | rfl | rfl
  · exact ok_lam0 T hp Sm n
  · exact ok_lam1 T hp Sm n
  · exact ok_lam2 T hp Sm n
  · exact ok_lam3 T hp Sm n
  · exact ok_lam4 T hp Sm n
  · exact ok_lam5 T hp Sm n
  · exact ok_lam6 T hp Sm n
  · exact ok_lam7 T hp Sm n
  · exact ok_lam8 T hp Sm n
  · exact ok_lam9 T hp Sm n
end
end K11

namespace K11
open PySem PySem.Spec PyProof.Rows L2 R G
section
variable {P : Program} {w : World} {K : PySem.W.Frag} {mg : Str → Option Value} {base : Heap} {fa : Nat → Addr} {ff : Nat → FuncData} {tk : Nat → Tok} {ca ka cc pp : Nat → Addr} {ρ : Nat → Int} {ns : List Int} {pm : Pm}
theorem ok__law_door_right (T : Txt K mg fa ff tk ca ka cc) (hp : PmOk (cn K w ca ka fa pp ρ ns) pm) (Sm : Sem P w K mg base fa ff ca ka cc pp ρ ns pm) : (n : Nat) → FnOk P w K mg base (L2.CX P w) (2 * n) (fa 29) (ff 29) ["_law_ask", "_law_first", "_law_second"] (spR (cn K w ca ka fa pp ρ ns) (run pm n 29))
  | 0 => fn_no
  | n + 1 => fnR_c (P := P) (mg := mg) (base := base) (C := cn K w ca ka fa pp ρ ns) (k := 2 * n + 1) rfl T.f__law_door_right.F sc__law_door_right (ks_ok (w := w) T hp) fun cdv A outer s H E hr =>
    (pss_cons (ps_par (by rfl) sc__law_door_right.nd rfl rfl (by decide) rfl rfl (pa_cons (pe_call (ok__law_copy T hp Sm n) (hr.mono (by omega)) (by rfl) T.f__law_copy.g T.f__law_copy.F.kp T.f__law_copy.b .nil passF (pa_cons (pv 1) pa_nil)) (pa_cons (pe_lst pa_nil) pa_nil)) (by rfl)) (pss_cons (ps_for (passes_of rfl) rfl (pi_tup (pe_tup (pa_cons (pv 1) (pa_cons (pv 2) pa_nil)))) (pg_name (i := 3) sc__law_door_right.nd rfl (.inl rfl)) (pss_cons (ps_expr (pe_bm PySem.F.plainAttrs_list PySem.F.slot_list_append PySem.F.type_list_append mt_append (pv 5) (pa_cons (pe_tup (pa_cons (pv 3) (pa_cons (pe_call (ok__law_copy T hp Sm n) (hr.mono (by omega)) (by rfl) T.f__law_copy.g T.f__law_copy.F.kp T.f__law_copy.b .nil passF (pa_cons (pe_lmC (C := cn K w ca ka fa pp ρ ns) (Γ := gtOf pm (run pm n)) (ps := ["_law_some"]) (k := 2 * n) (i := 0) hr (by omega) passF rfl (by first | exact .inl rfl | exact .inr (.inl rfl) | exact .inr (.inr rfl)) (pa_cons (pe_call (ok__law_copy T hp Sm n) (hr.mono (by omega)) (by rfl) T.f__law_copy.g T.f__law_copy.F.kp T.f__law_copy.b .nil passF (pa_cons (pv 3) pa_nil)) pa_nil) (hcs := ok_lams T hp Sm n)) pa_nil)) pa_nil))) pa_nil))) pss_nil)) (pss_cons (ps_for (passes_of rfl) rfl (pi_list (pe_op op_cat (pv 5) (pv 5))) (pg_tup rfl (pgs_cons (pg_name (i := 3) sc__law_door_right.nd rfl (.inl rfl)) (pgs_cons (pg_name (i := 6) sc__law_door_right.nd rfl (.inl rfl)) pgs_nil))) (pss_cons (ps_expr (pe_call (ok__law_into T hp Sm n) (hr.mono (by omega)) (by rfl) T.f__law_into.g T.f__law_into.F.kp T.f__law_into.b .nil passF (pa_cons (pv 4) (pa_cons (pv 3) pa_nil)))) (pss_cons (ps_for (passes_of rfl) rfl (pi_range1 (by rfl) T.z_range (pa_cons pe_int pa_nil)) (pg_name (i := 7) sc__law_door_right.nd rfl (.inl rfl)) (pss_cons (ps_set (i := 8) sc__law_door_right.nd rfl (.inl rfl) (pe_lmC (C := cn K w ca ka fa pp ρ ns) (Γ := gtOf pm (run pm n)) (ps := ["_law_some"]) (k := 2 * n) (i := 0) hr (by omega) passF rfl (by first | exact .inl rfl | exact .inr (.inl rfl) | exact .inr (.inr rfl)) (pa_cons (pv 4) pa_nil) (hcs := ok_lams T hp Sm n))) (pss_cons (ps_if (PW.pt (pw_or (pt_neR (C := cn K w ca ka fa pp ρ ns) rfl hr.units (pv 4) (pv 3) (nomark _)) (pw_or1 (pt_neR (C := cn K w ca ka fa pp ρ ns) rfl hr.units (pv 8) (pv 6) (nomark _))))) (pss_cons (ps_ret pe_bl) pss_nil) pss_nil) (pss_cons (ps_expr (pe_call (ok__law_spoil T hp Sm n) (hr.mono (by omega)) (by rfl) T.f__law_spoil.g T.f__law_spoil.F.kp T.f__law_spoil.b .nil passF (pa_cons (pv 8) pa_nil))) pss_nil)))) pss_nil))) (pss_cons (ps_ret pe_bl) pss_nil))))
theorem body_law (T : Txt K mg fa ff tk ca ka cc) (hp : PmOk (cn K w ca ka fa pp ρ ns) pm) (Sm : Sem P w K mg base fa ff ca ka cc pp ρ ns pm) (n : Nat) (f : Addr) (cdv : Value) (A : Around) (outer : List Env) (s : Shared) (H : Hp) (E : XK) (hr : Room (2 * (n + 1) + 1) (A.deeper (envOfC "law" (defScope s_law) s.heap.objs.size f cdv))) :
    PSs (cxOf (L2.CX P w) P w K mg base N_law "law" (defScope s_law) f cdv A outer s H E) ((defBody s_law).drop 1) (rdS (cn K w ca ka fa pp ρ ns) (gtOf pm (run pm (n + 1))) E c_law) :=
    (pss_cons (ps_set (i := 1) sc_law.nd rfl (.inl rfl) (pe_call0 (ok__law_rows_one T hp Sm (n + 1)) (hr.mono (by omega)) (by rfl) T.f__law_rows_one.g T.f__law_rows_one.F.kp T.f__law_rows_one.b .nil passF)) (pss_cons (ps_set (i := 2) sc_law.nd rfl (.inl rfl) (pe_binR (C := cn K w ca ka fa pp ρ ns) (o := .mod) op_mod (pe_callB call_abs (by rfl) T.z_abs (by decide +kernel) (pa_cons (pe_call (Sm.ok__law_cell_at) (hr.mono (by omega)) (by rfl) T.f__law_cell_at.g T.f__law_cell_at.F.kp T.f__law_cell_at.b .nil pass0 (pa_cons (pv 0) (pa_cons pe_int pa_nil))) pa_nil)) (pe_callB call_len_seq (by rfl) T.z_len PySem.boot_len (pa_cons (pv 1) pa_nil)))) (pss_cons (ps_for (passes_of rfl) rfl (pi_list (pe_op op_cat (pe_slice sl_list (pv 1) (po_some (pv 2)) po_none) (pe_slice sl_list (pv 1) po_none (po_some (pv 2))))) (pg_tup rfl (pgs_cons (pg_name (i := 3) sc_law.nd rfl (.inl rfl)) (pgs_cons (pg_name (i := 4) sc_law.nd rfl (.inl rfl)) (pgs_cons (pg_name (i := 5) sc_law.nd rfl (.inl rfl)) pgs_nil)))) (pss_cons (ps_if (pt_not (pt_val (pe_call (ok__law_door_right T hp Sm (n + 1)) (hr.mono (by omega)) (by rfl) T.f__law_door_right.g T.f__law_door_right.F.kp T.f__law_door_right.b .nil passF (pa_cons (pv 3) (pa_cons (pv 4) (pa_cons (pv 5) pa_nil)))))) (pss_cons (ps_ret pe_bl) pss_nil) pss_nil) pss_nil)) (pss_cons (ps_ret pe_bl) pss_nil))))
end
end K11

namespace K11
open PySem G L2
theorem cell_at_run (ns : List Int) (k : Nat) : fd__law_cell_at.run [.ls (ns.map D.int), .int (k : Int)] = some (.int (ns.getD k 0)) := by
  show endOf false (G.exec ga__law_cell_at c__law_cell_at (st0 2 [.ls (ns.map D.int), .int (k : Int)])) = _
  by_cases h : k < ns.length
  · have h2 : atI (ns.map D.int) (k : Int) = some (.int ns[k]) := G.atI_nat (by rw [List.getElem?_map, List.getElem?_eq_getElem h]; rfl)
    have h3 : (k : Int) < (ns.length : Int) := by omega
    simp [c__law_cell_at, G.exec, G.eval, st0, isTst, Co.f, h2, h3, endOf, h]
  · have h3 : ¬ (k : Int) < (ns.length : Int) := by omega
    simp [c__law_cell_at, G.exec, G.eval, st0, isTst, Co.f, h3, endOf, List.getElem?_eq_none (show ns.length ≤ k by omega)]
end K11

namespace K11
open PySem PySem.Spec PyProof.Rows L2 R
def sCell (args : List RV) (h : Hs) : Ot := match args with
  | [.rf n, .int k] => match h.get n with
    | some .scr => if k = 0 then .ok (.lin 0 1 0) h else .no
    | _ => .no
  | _ => .no
def md2 (r : Nat) (v : RV) (j : Int) : Option RV := match v with
  | .lin 0 1 11 => if j = 10 then some (.int r) else none
  | _ => none
def dv2 (v : RV) (j : Int) : Option RV := match v with
  | .lin 0 1 0 => if j = 0 then some (.lin 0 1 11) else none
  | _ => none
def sem2 : Nat → List RV → Hs → Ot
  | 25 => sCell
  | _ => fun _ _ => .no
def pm2 (r : Nat) : Pm := ⟨md2 r, dv2, sem2⟩
def isRt : Oc → Bool
  | .rt (.bl true) _ => true
  | _ => false
theorem isRt_of {o : Oc} (h : isRt o = true) : ∃ h', o = .rt (.bl true) h' := by
  unfold isRt at h
  split at h
  · exact ⟨_, rfl⟩
  · cases h
abbrev st0 : Sg := some (.rf 0) :: List.replicate 5 none
theorem lc0 : isRt (exec (gtOf (pm2 0) (run (pm2 0) 13)) c_law st0 h1s) = true := by rw [← run'_eq, ← dc_law_eq]; decide +kernel
theorem lc1 : isRt (exec (gtOf (pm2 1) (run (pm2 1) 13)) c_law st0 h1s) = true := by rw [← run'_eq, ← dc_law_eq]; decide +kernel
theorem lc2 : isRt (exec (gtOf (pm2 2) (run (pm2 2) 13)) c_law st0 h1s) = true := by rw [← run'_eq, ← dc_law_eq]; decide +kernel
theorem lc3 : isRt (exec (gtOf (pm2 3) (run (pm2 3) 13)) c_law st0 h1s) = true := by rw [← run'_eq, ← dc_law_eq]; decide +kernel
theorem lc4 : isRt (exec (gtOf (pm2 4) (run (pm2 4) 13)) c_law st0 h1s) = true := by rw [← run'_eq, ← dc_law_eq]; decide +kernel
theorem lc5 : isRt (exec (gtOf (pm2 5) (run (pm2 5) 13)) c_law st0 h1s) = true := by rw [← run'_eq, ← dc_law_eq]; decide +kernel
theorem lc6 : isRt (exec (gtOf (pm2 6) (run (pm2 6) 13)) c_law st0 h1s) = true := by rw [← run'_eq, ← dc_law_eq]; decide +kernel
theorem lc7 : isRt (exec (gtOf (pm2 7) (run (pm2 7) 13)) c_law st0 h1s) = true := by rw [← run'_eq, ← dc_law_eq]; decide +kernel
theorem lc8 : isRt (exec (gtOf (pm2 8) (run (pm2 8) 13)) c_law st0 h1s) = true := by rw [← run'_eq, ← dc_law_eq]; decide +kernel
theorem lc9 : isRt (exec (gtOf (pm2 9) (run (pm2 9) 13)) c_law st0 h1s) = true := by rw [← run'_eq, ← dc_law_eq]; decide +kernel
theorem law_closed : ∀ r, r < 10 → isRt (exec (gtOf (pm2 r) (run (pm2 r) 13)) c_law st0 h1s) = true
  | 0, _ => lc0
  | 1, _ => lc1
  | 2, _ => lc2
  | 3, _ => lc3
  | 4, _ => lc4
  | 5, _ => lc5
  | 6, _ => lc6
  | 7, _ => lc7
  | 8, _ => lc8
  | 9, _ => lc9
  | r + 10, h => absurd h (by omega)
end K11

namespace K11
open PySem PySem.Spec PyProof.Rows L2 R
def rho (ns : List Int) : Nat → Int
  | 0 => ns.getD 0 0
  | 11 => if ns.getD 0 0 < 0 then - ns.getD 0 0 else ns.getD 0 0
  | _ => 0
section
variable {P : Program} {w : World} {K : PySem.W.Frag} {mg : Str → Option Value} {base : Heap} {fa : Nat → Addr} {ff : Nat → FuncData} {tk : Nat → Tok} {ca ka cc pp : Nat → Addr}
theorem rho_nn (ns : List Int) (j : Nat) (h : 10 ≤ j) : 0 ≤ rho ns j := by
  unfold rho
  split
  · omega
  · split <;> omega
  · exact Int.le_refl 0
theorem pm2_ok (ns : List Int) {r : Nat} (hr : (r : Int) = rho ns 11 % 10) : PmOk (cn K w ca ka fa pp (rho ns) ns) (pm2 r) := by
  refine ⟨fun j h => rho_nn ns j h, fun v j z h => ?_, fun v j z h => ?_⟩
  · have h : md2 r v j = some z := h
    unfold md2 at h
    split at h
    · split at h
      · rename_i e
        cases h
        subst e
        refine ⟨rho ns 11, r, fun α n H u e => ?_, fun α n H => by rw [vr_int], by decide, hr⟩
        rw [vr_lin, Int.one_mul, Int.zero_add] at e
        exact e
      · cases h
    · cases h
  · have h : dv2 v j = some z := h
    unfold dv2 at h
    split at h
    · split at h
      · rename_i e
        cases h
        subst e
        refine ⟨rho ns 0, rho ns 11, fun α n H u e => ?_, fun α n H => ?_, .inr ⟨rfl, rfl⟩⟩
        · rw [vr_lin, Int.one_mul, Int.zero_add] at e
          exact e
        · rw [vr_lin, Int.one_mul, Int.zero_add]
      · cases h
    · cases h
theorem sem_cell (T : Txt K mg fa ff tk ca ka cc) {ns : List Int} : FnOk P w K mg base CX0 1 (fa 25) (ff 25) ["_law_script", "_law_k"] (spR (cn K w ca ka fa pp (rho ns) ns) sCell) := by
  refine sem_d (okD__law_cell_at (w := w) T) fun α h H args vs S r => ?_
  unfold sCell
  split
  · rename_i n k
    split
    · rename_i g
      split
      · rename_i e1
        refine .inr ?_
        rw [vrs_cons] at r
        obtain ⟨v, vs', rfl, r1, r2⟩ := r
        rw [vrs_cons] at r2
        obtain ⟨v2, vs2, rfl, r2, r3⟩ := r2
        rw [vrs_nil] at r3
        subst r3
        rw [vr_rf] at r1
        rw [vr_int] at r2
        obtain ⟨rfl, _⟩ := r1
        subst r2
        obtain ⟨o, h1, h2⟩ := S.cel n _ g
        have h2 : o = .lst (ns.map V.int) := h2
        subst h2
        refine ⟨_, [.ls (ns.map G.D.int), .int ((0 : Nat) : Int)], ns.getD 0 0, rfl, .cons (by rw [G.rp_ls]; exact ⟨_, _, rfl, h1, G.rps_ints ns⟩) (.one (by rw [G.rp_int, e1]; rfl)), rfl, cell_at_run ns 0, fun α n H => ?_⟩
        rw [vr_lin, Int.one_mul, Int.zero_add]
        rfl
      · exact .inl rfl
    · exact .inl rfl
  · exact .inl rfl
theorem ok_law (T : Txt K mg fa ff tk ca ka cc) (TB : LamX.TabB base mg (cc 0) (pp 0)) {f : Addr} {fd : FuncData} (F : Fun K "law" "law" s_law f fd) : FnOk P w K mg base (L2.CX P w) 28 f fd ["_law_script"] (spLawT K (tbs pp)) := by
  refine lawR_c (c := c_law) F sc_law (s0 := (defBody s_law).getD 0 (.Pass ⟨0, 0, 0, 0⟩)) (rest := (defBody s_law).drop 1) rfl (fun cdv A outer s H E => ps_set (i := 0) sc_law.nd rfl (.inl rfl) (pe_slice sl_list (pv 0) po_none (po_some pe_int))) fun ns hl hb => ?_
  have h0 := rho_nn ns 11 (by decide)
  have hr : (((rho ns 11 % 10).toNat : Nat) : Int) = rho ns 11 % 10 := by omega
  have hlt : (rho ns 11 % 10).toNat < 10 := by omega
  have hp : PmOk (cn K w ca ka fa pp (rho ns) ns) (pm2 (rho ns 11 % 10).toNat) := pm2_ok ns hr
  have cl := law_closed _ hlt
  generalize (rho ns 11 % 10).toNat = r at hp cl
  exact ⟨cn K w ca ka fa pp (rho ns) ns, gtOf (pm2 r) (run (pm2 r) 13), rfl, rfl, rfl, ks_ok T hp, isRt_of cl, fun cdv A outer s H E hr => body_law T hp ⟨sem_cell T, TB⟩ 12 f cdv A outer s H E hr⟩
end
end K11

namespace K11
open PySem PySem.Spec PyProof.Rows L2 R
theorem kit_own {K : PySem.W.Frag} {a b : Addr} {r : Bool} {c} (hc : PySem.W.clsIn K b = some c) (ty : PySem.W.typeIn K (.ref b) = some (.type "type")) (s : PySem.W.subIn K (.ref a) (.ref b) = some r) (z : PySem.W.subIn K (.ref a) (.ref a) = some true) : PySem.W.kitOne K (.ref a) (.ref b) = some r := by
  unfold PySem.W.kitOne
  split
  · rename_i e
    have e := eq_of_beq e
    cases e
    rw [z] at s
    exact s
  · unfold PySem.W.kitCls
    simp only [hc, ty, Option.isSome_some, Bool.true_and]
    rw [if_pos (by rfl)]
    exact s
theorem kit_bty {K : PySem.W.Frag} {a : Addr} {t : String} {r : Bool} (hm : PySem.W.kitMeta t = true) (s : PySem.W.subIn K (.ref a) (.type t) = some r) : PySem.W.kitOne K (.ref a) (.type t) = some r := by
  unfold PySem.W.kitOne
  rw [if_neg (by intro e; exact absurd (eq_of_beq e) (by simp))]
  show (if PySem.W.kitMeta t = true then PySem.W.subIn K (.ref a) (.type t) else none) = some r
  rw [if_pos hm]
  exact s
theorem all_mk {l : PySem.W.OpenLaw} {w : World} {K : PySem.W.Frag} {h : Heap} {mg : Str → Option Value} {fl : Addr} (X : K.In h) (G : h.Ns mainGlobals mg) (hfl : mg "law" = some (.ref fl)) (tE : ∀ nm ∈ (["_law_rows_one"] : List Str), TabE K mg h nm)
    {a0 : Addr} {od0 an0 : Option Addr} {sl0 : Array (Option Value)} {oc0 kV0 dc0 pm0 cd0 ct0 : Value} {a1 : Addr} {od1 an1 : Option Addr} {sl1 : Array (Option Value)} {oc1 kV1 dc1 pm1 cd1 ct1 : Value} {a2 : Addr} {od2 an2 : Option Addr} {sl2 : Array (Option Value)} {oc2 kV2 dc2 pm2 cd2 ct2 : Value} {a3 : Addr} {od3 an3 : Option Addr} {sl3 : Array (Option Value)} {oc3 kV3 dc3 pm3 cd3 ct3 : Value} {a4 : Addr} {od4 an4 : Option Addr} {sl4 : Array (Option Value)} {oc4 kV4 dc4 pm4 cd4 ct4 : Value} {a5 : Addr} {od5 an5 : Option Addr} {sl5 : Array (Option Value)} {oc5 kV5 dc5 pm5 cd5 ct5 : Value} {a6 : Addr} {od6 an6 : Option Addr} {sl6 : Array (Option Value)} {oc6 kV6 dc6 pm6 cd6 ct6 : Value} {a7 : Addr} {od7 an7 : Option Addr} {sl7 : Array (Option Value)} {oc7 kV7 dc7 pm7 cd7 ct7 : Value} {a8 : Addr} {od8 an8 : Option Addr} {sl8 : Array (Option Value)} {oc8 kV8 dc8 pm8 cd8 ct8 : Value} {a9 : Addr} {od9 an9 : Option Addr} {sl9 : Array (Option Value)} {oc9 kV9 dc9 pm9 cd9 ct9 : Value} {a10 : Addr} {od10 an10 : Option Addr} {sl10 : Array (Option Value)} {oc10 kV10 dc10 pm10 cd10 ct10 : Value} {a11 : Addr} {od11 an11 : Option Addr} {sl11 : Array (Option Value)} {oc11 kV11 dc11 pm11 cd11 ct11 : Value} {a12 : Addr} {od12 an12 : Option Addr} {sl12 : Array (Option Value)} {oc12 kV12 dc12 pm12 cd12 ct12 : Value} {a13 : Addr} {od13 an13 : Option Addr} {sl13 : Array (Option Value)} {oc13 kV13 dc13 pm13 cd13 ct13 : Value} {a14 : Addr} {od14 an14 : Option Addr} {sl14 : Array (Option Value)} {oc14 kV14 dc14 pm14 cd14 ct14 : Value} {a15 : Addr} {od15 an15 : Option Addr} {sl15 : Array (Option Value)} {oc15 kV15 dc15 pm15 cd15 ct15 : Value} {a16 : Addr} {od16 an16 : Option Addr} {sl16 : Array (Option Value)} {oc16 kV16 dc16 pm16 cd16 ct16 : Value} {a17 : Addr} {od17 an17 : Option Addr} {sl17 : Array (Option Value)} {oc17 kV17 dc17 pm17 cd17 ct17 : Value} {a18 : Addr} {od18 an18 : Option Addr} {sl18 : Array (Option Value)} {oc18 kV18 dc18 pm18 cd18 ct18 : Value} {a19 : Addr} {od19 an19 : Option Addr} {sl19 : Array (Option Value)} {oc19 kV19 dc19 pm19 cd19 ct19 : Value} {a20 : Addr} {od20 an20 : Option Addr} {sl20 : Array (Option Value)} {oc20 kV20 dc20 pm20 cd20 ct20 : Value} {a21 : Addr} {od21 an21 : Option Addr} {sl21 : Array (Option Value)} {oc21 kV21 dc21 pm21 cd21 ct21 : Value} {a22 : Addr} {od22 an22 : Option Addr} {sl22 : Array (Option Value)} {oc22 kV22 dc22 pm22 cd22 ct22 : Value} {a23 : Addr} {od23 an23 : Option Addr} {sl23 : Array (Option Value)} {oc23 kV23 dc23 pm23 cd23 ct23 : Value} {a24 : Addr} {od24 an24 : Option Addr} {sl24 : Array (Option Value)} {oc24 kV24 dc24 pm24 cd24 ct24 : Value} {a25 : Addr} {od25 an25 : Option Addr} {sl25 : Array (Option Value)} {oc25 kV25 dc25 pm25 cd25 ct25 : Value} {a26 : Addr} {od26 an26 : Option Addr} {sl26 : Array (Option Value)} {oc26 kV26 dc26 pm26 cd26 ct26 : Value} {a27 : Addr} {od27 an27 : Option Addr} {sl27 : Array (Option Value)} {oc27 kV27 dc27 pm27 cd27 ct27 : Value} {a28 : Addr} {od28 an28 : Option Addr} {sl28 : Array (Option Value)} {oc28 kV28 dc28 pm28 cd28 ct28 : Value} {a29 : Addr} {od29 an29 : Option Addr} {sl29 : Array (Option Value)} {oc29 kV29 dc29 pm29 cd29 ct29 : Value} {a30 : Addr} {od30 an30 : Option Addr} {sl30 : Array (Option Value)} {oc30 kV30 dc30 pm30 cd30 ct30 : Value} {a31 : Addr} {od31 an31 : Option Addr} {sl31 : Array (Option Value)} {oc31 kV31 dc31 pm31 ct31 : Value} {a32 : Addr} {od32 an32 : Option Addr} {sl32 : Array (Option Value)} {oc32 kV32 dc32 pm32 cd32 ct32 : Value} {k0 : Tok} {k1 : Tok} {k2 : Tok} {k3 : Tok} {k4 : Tok} {k5 : Tok} {cx12 : Addr} {cq12} {cx13 : Addr} {cq13} {cx14 : Addr} {cq14} {cx15 : Addr} {cq15} {kx0 : Addr} {kn0 : Nat} {kd0 : Option Addr} {ks0 : Array (Option Value)} {kt0_0 : Tok} {kt0_1 : Tok} {cx0 : Addr} {cx1 : Addr} {cx2 : Addr} {cx3 : Addr} {cx4 : Addr} {cx5 : Addr} {cx6 : Addr} {cx7 : Addr} {co0 po0 : Addr} {cod0 : Option Addr} {cov0 : Array Value} {cos0 : Array (Option Value)} {fl0 : Str} {ft0 : Tok} {gi0 : Int} {gt0 : Tok} {bi0 : Bool} {ti0 : Int} {tt0 : Tok}
    (gc12 : PySem.W.nsIn K mainGlobals "Answer" = some (some (.ref cx12)))
    (gc13 : PySem.W.nsIn K mainGlobals "History" = some (some (.ref cx13)))
    (gc14 : PySem.W.nsIn K mainGlobals "Never" = some (some (.ref cx14)))
    (gc15 : PySem.W.nsIn K mainGlobals "Leads" = some (some (.ref cx15)))
    (g0 : PySem.W.nsIn K mainGlobals "is_whole" = some (some (.ref a0)))
    (l0 : K.lookup a0 = some ⟨oc0, od0, .func (PySem.W.fnOf "is_whole" "is_whole" (defArgs s_is_whole) (defBody s_is_whole) (defScope s_is_whole) .none kV0 dc0 pm0 an0 cd0 ct0), sl0⟩)
    (c0 : PySem.W.codeIn K cd0 "is_whole" = true)
    (p0 : PySem.W.keepIn K (.ref a0) = true)
    (g1 : PySem.W.nsIn K mainGlobals "is_count" = some (some (.ref a1)))
    (l1 : K.lookup a1 = some ⟨oc1, od1, .func (PySem.W.fnOf "is_count" "is_count" (defArgs s_is_count) (defBody s_is_count) (defScope s_is_count) .none kV1 dc1 pm1 an1 cd1 ct1), sl1⟩)
    (c1 : PySem.W.codeIn K cd1 "is_count" = true)
    (p1 : PySem.W.keepIn K (.ref a1) = true)
    (g2 : PySem.W.nsIn K mainGlobals "is_word" = some (some (.ref a2)))
    (l2 : K.lookup a2 = some ⟨oc2, od2, .func (PySem.W.fnOf "is_word" "is_word" (defArgs s_is_word) (defBody s_is_word) (defScope s_is_word) .none kV2 dc2 pm2 an2 cd2 ct2), sl2⟩)
    (c2 : PySem.W.codeIn K cd2 "is_word" = true)
    (p2 : PySem.W.keepIn K (.ref a2) = true)
    (g3 : PySem.W.nsIn K mainGlobals "check_notes" = some (some (.ref a3)))
    (l3 : K.lookup a3 = some ⟨oc3, od3, .func (PySem.W.fnOf "check_notes" "check_notes" (defArgs s_check_notes) (defBody s_check_notes) (defScope s_check_notes) .none kV3 dc3 pm3 an3 cd3 ct3), sl3⟩)
    (c3 : PySem.W.codeIn K cd3 "check_notes" = true)
    (p3 : PySem.W.keepIn K (.ref a3) = true)
    (g4 : PySem.W.nsIn K mainGlobals "check_hand" = some (some (.ref a4)))
    (l4 : K.lookup a4 = some ⟨oc4, od4, .func (PySem.W.fnOf "check_hand" "check_hand" (defArgs s_check_hand) (defBody s_check_hand) (defScope s_check_hand) .none kV4 dc4 pm4 an4 cd4 ct4), sl4⟩)
    (c4 : PySem.W.codeIn K cd4 "check_hand" = true)
    (p4 : PySem.W.keepIn K (.ref a4) = true)
    (g5 : PySem.W.nsIn K mainGlobals "score_of" = some (some (.ref a5)))
    (l5 : K.lookup a5 = some ⟨oc5, od5, .func (PySem.W.fnOf "score_of" "score_of" (defArgs s_score_of) (defBody s_score_of) (defScope s_score_of) .none kV5 dc5 pm5 an5 cd5 ct5), sl5⟩)
    (c5 : PySem.W.codeIn K cd5 "score_of" = true)
    (p5 : PySem.W.keepIn K (.ref a5) = true)
    (g6 : PySem.W.nsIn K mainGlobals "is_heard" = some (some (.ref a6)))
    (l6 : K.lookup a6 = some ⟨oc6, od6, .func (PySem.W.fnOf "is_heard" "is_heard" (defArgs s_is_heard) (defBody s_is_heard) (defScope s_is_heard) .none kV6 dc6 pm6 an6 cd6 ct6), sl6⟩)
    (c6 : PySem.W.codeIn K cd6 "is_heard" = true)
    (p6 : PySem.W.keepIn K (.ref a6) = true)
    (g7 : PySem.W.nsIn K mainGlobals "all_heard" = some (some (.ref a7)))
    (l7 : K.lookup a7 = some ⟨oc7, od7, .func (PySem.W.fnOf "all_heard" "all_heard" (defArgs s_all_heard) (defBody s_all_heard) (defScope s_all_heard) .none kV7 dc7 pm7 an7 cd7 ct7), sl7⟩)
    (c7 : PySem.W.codeIn K cd7 "all_heard" = true)
    (p7 : PySem.W.keepIn K (.ref a7) = true)
    (g8 : PySem.W.nsIn K mainGlobals "is_no_less" = some (some (.ref a8)))
    (l8 : K.lookup a8 = some ⟨oc8, od8, .func (PySem.W.fnOf "is_no_less" "is_no_less" (defArgs s_is_no_less) (defBody s_is_no_less) (defScope s_is_no_less) .none kV8 dc8 pm8 an8 cd8 ct8), sl8⟩)
    (c8 : PySem.W.codeIn K cd8 "is_no_less" = true)
    (p8 : PySem.W.keepIn K (.ref a8) = true)
    (g9 : PySem.W.nsIn K mainGlobals "gone_over" = some (some (.ref a9)))
    (l9 : K.lookup a9 = some ⟨oc9, od9, .func (PySem.W.fnOf "gone_over" "gone_over" (defArgs s_gone_over) (defBody s_gone_over) (defScope s_gone_over) .none kV9 dc9 pm9 an9 cd9 ct9), sl9⟩)
    (c9 : PySem.W.codeIn K cd9 "gone_over" = true)
    (p9 : PySem.W.keepIn K (.ref a9) = true)
    (g10 : PySem.W.nsIn K mainGlobals "check_game" = some (some (.ref a10)))
    (l10 : K.lookup a10 = some ⟨oc10, od10, .func (PySem.W.fnOf "check_game" "check_game" (defArgs s_check_game) (defBody s_check_game) (defScope s_check_game) .none kV10 dc10 pm10 an10 cd10 ct10), sl10⟩)
    (c10 : PySem.W.codeIn K cd10 "check_game" = true)
    (p10 : PySem.W.keepIn K (.ref a10) = true)
    (g11 : PySem.W.nsIn K mainGlobals "games" = some (some (.ref a11)))
    (l11 : K.lookup a11 = some ⟨oc11, od11, .func (PySem.W.fnOf "games" "games" (defArgs s_games) (defBody s_games) (defScope s_games) .none kV11 dc11 pm11 an11 cd11 ct11), sl11⟩)
    (c11 : PySem.W.codeIn K cd11 "games" = true)
    (p11 : PySem.W.keepIn K (.ref a11) = true)
    (g12 : PySem.W.nsIn K mainGlobals "game_point" = some (some (.ref a12)))
    (l12 : K.lookup a12 = some ⟨oc12, od12, .func (PySem.W.fnOf "game_point" "game_point" (defArgs s_game_point) (defBody s_game_point) (defScope s_game_point) .none kV12 dc12 pm12 an12 cd12 ct12), sl12⟩)
    (c12 : PySem.W.codeIn K cd12 "game_point" = true)
    (p12 : PySem.W.keepIn K (.ref a12) = true)
    (g13 : PySem.W.findIn K (.ref cx13) "__init__" = some (some (.ref a13)))
    (i13 : PySem.W.isFn K (.ref a13) = true)
    (l13 : K.lookup a13 = some ⟨oc13, od13, .func (PySem.W.fnOf "__init__" "History.__init__" (defArgs s_History_init) (defBody s_History_init) (defScope s_History_init) .none kV13 dc13 pm13 an13 cd13 ct13), sl13⟩)
    (c13 : PySem.W.codeIn K cd13 "History.__init__" = true)
    (p13 : PySem.W.keepIn K (.ref a13) = true)
    (g14 : PySem.W.findIn K (.ref cx13) "shows" = some (some (.ref a14)))
    (i14 : PySem.W.isFn K (.ref a14) = true)
    (l14 : K.lookup a14 = some ⟨oc14, od14, .func (PySem.W.fnOf "shows" "History.shows" (defArgs s_History_shows) (defBody s_History_shows) (defScope s_History_shows) .none kV14 dc14 pm14 an14 cd14 ct14), sl14⟩)
    (c14 : PySem.W.codeIn K cd14 "History.shows" = true)
    (p14 : PySem.W.keepIn K (.ref a14) = true)
    (g15 : PySem.W.findIn K (.ref cx14) "__init__" = some (some (.ref a15)))
    (i15 : PySem.W.isFn K (.ref a15) = true)
    (l15 : K.lookup a15 = some ⟨oc15, od15, .func (PySem.W.fnOf "__init__" "Never.__init__" (defArgs s_Never_init) (defBody s_Never_init) (defScope s_Never_init) .none kV15 dc15 pm15 an15 cd15 ct15), sl15⟩)
    (c15 : PySem.W.codeIn K cd15 "Never.__init__" = true)
    (p15 : PySem.W.keepIn K (.ref a15) = true)
    (g16 : PySem.W.findIn K (.ref cx14) "shows" = some (some (.ref a16)))
    (i16 : PySem.W.isFn K (.ref a16) = true)
    (l16 : K.lookup a16 = some ⟨oc16, od16, .func (PySem.W.fnOf "shows" "Never.shows" (defArgs s_Never_shows) (defBody s_Never_shows) (defScope s_Never_shows) .none kV16 dc16 pm16 an16 cd16 ct16), sl16⟩)
    (c16 : PySem.W.codeIn K cd16 "Never.shows" = true)
    (p16 : PySem.W.keepIn K (.ref a16) = true)
    (g17 : PySem.W.findIn K (.ref cx15) "__init__" = some (some (.ref a17)))
    (i17 : PySem.W.isFn K (.ref a17) = true)
    (l17 : K.lookup a17 = some ⟨oc17, od17, .func (PySem.W.fnOf "__init__" "Leads.__init__" (defArgs s_Leads_init) (defBody s_Leads_init) (defScope s_Leads_init) .none kV17 dc17 pm17 an17 cd17 ct17), sl17⟩)
    (c17 : PySem.W.codeIn K cd17 "Leads.__init__" = true)
    (p17 : PySem.W.keepIn K (.ref a17) = true)
    (g18 : PySem.W.findIn K (.ref cx15) "shows" = some (some (.ref a18)))
    (i18 : PySem.W.isFn K (.ref a18) = true)
    (l18 : K.lookup a18 = some ⟨oc18, od18, .func (PySem.W.fnOf "shows" "Leads.shows" (defArgs s_Leads_shows) (defBody s_Leads_shows) (defScope s_Leads_shows) .none kV18 dc18 pm18 an18 cd18 ct18), sl18⟩)
    (c18 : PySem.W.codeIn K cd18 "Leads.shows" = true)
    (p18 : PySem.W.keepIn K (.ref a18) = true)
    (g19 : PySem.W.nsIn K mainGlobals "score" = some (some (.ref a19)))
    (l19 : K.lookup a19 = some ⟨oc19, od19, .func (PySem.W.fnOf "score" "score" (defArgs s_score) (defBody s_score) (defScope s_score) .none kV19 dc19 pm19 an19 cd19 ct19), sl19⟩)
    (c19 : PySem.W.codeIn K cd19 "score" = true)
    (p19 : PySem.W.keepIn K (.ref a19) = true)
    (g20 : PySem.W.nsIn K mainGlobals "is_showing" = some (some (.ref a20)))
    (l20 : K.lookup a20 = some ⟨oc20, od20, .func (PySem.W.fnOf "is_showing" "is_showing" (defArgs s_is_showing) (defBody s_is_showing) (defScope s_is_showing) .none kV20 dc20 pm20 an20 cd20 ct20), sl20⟩)
    (c20 : PySem.W.codeIn K cd20 "is_showing" = true)
    (p20 : PySem.W.keepIn K (.ref a20) = true)
    (g21 : PySem.W.nsIn K mainGlobals "lists_of" = some (some (.ref a21)))
    (l21 : K.lookup a21 = some ⟨oc21, od21, .func (PySem.W.fnOf "lists_of" "lists_of" (defArgs s_lists_of) (defBody s_lists_of) (defScope s_lists_of) .none kV21 dc21 pm21 an21 cd21 ct21), sl21⟩)
    (c21 : PySem.W.codeIn K cd21 "lists_of" = true)
    (p21 : PySem.W.keepIn K (.ref a21) = true)
    (g22 : PySem.W.nsIn K mainGlobals "history_of" = some (some (.ref a22)))
    (l22 : K.lookup a22 = some ⟨oc22, od22, .func (PySem.W.fnOf "history_of" "history_of" (defArgs s_history_of) (defBody s_history_of) (defScope s_history_of) .none kV22 dc22 pm22 an22 cd22 ct22), sl22⟩)
    (c22 : PySem.W.codeIn K cd22 "history_of" = true)
    (p22 : PySem.W.keepIn K (.ref a22) = true)
    (g23 : PySem.W.nsIn K mainGlobals "judged" = some (some (.ref a23)))
    (l23 : K.lookup a23 = some ⟨oc23, od23, .func (PySem.W.fnOf "judged" "judged" (defArgs s_judged) (defBody s_judged) (defScope s_judged) .none kV23 dc23 pm23 an23 cd23 ct23), sl23⟩)
    (c23 : PySem.W.codeIn K cd23 "judged" = true)
    (p23 : PySem.W.keepIn K (.ref a23) = true)
    (g24 : PySem.W.nsIn K mainGlobals "leads" = some (some (.ref a24)))
    (l24 : K.lookup a24 = some ⟨oc24, od24, .func (PySem.W.fnOf "leads" "leads" (defArgs s_leads) (defBody s_leads) (defScope s_leads) .none kV24 dc24 pm24 an24 cd24 ct24), sl24⟩)
    (c24 : PySem.W.codeIn K cd24 "leads" = true)
    (p24 : PySem.W.keepIn K (.ref a24) = true)
    (g25 : PySem.W.nsIn K mainGlobals "_law_cell_at" = some (some (.ref a25)))
    (l25 : K.lookup a25 = some ⟨oc25, od25, .func (PySem.W.fnOf "_law_cell_at" "_law_cell_at" (defArgs s__law_cell_at) (defBody s__law_cell_at) (defScope s__law_cell_at) .none kV25 dc25 pm25 an25 cd25 ct25), sl25⟩)
    (c25 : PySem.W.codeIn K cd25 "_law_cell_at" = true)
    (p25 : PySem.W.keepIn K (.ref a25) = true)
    (g26 : PySem.W.nsIn K mainGlobals "_law_copy" = some (some (.ref a26)))
    (l26 : K.lookup a26 = some ⟨oc26, od26, .func (PySem.W.fnOf "_law_copy" "_law_copy" (defArgs s__law_copy) (defBody s__law_copy) (defScope s__law_copy) .none kV26 dc26 pm26 an26 cd26 ct26), sl26⟩)
    (c26 : PySem.W.codeIn K cd26 "_law_copy" = true)
    (p26 : PySem.W.keepIn K (.ref a26) = true)
    (g27 : PySem.W.nsIn K mainGlobals "_law_into" = some (some (.ref a27)))
    (l27 : K.lookup a27 = some ⟨oc27, od27, .func (PySem.W.fnOf "_law_into" "_law_into" (defArgs s__law_into) (defBody s__law_into) (defScope s__law_into) .none kV27 dc27 pm27 an27 cd27 ct27), sl27⟩)
    (c27 : PySem.W.codeIn K cd27 "_law_into" = true)
    (p27 : PySem.W.keepIn K (.ref a27) = true)
    (g28 : PySem.W.nsIn K mainGlobals "_law_spoil" = some (some (.ref a28)))
    (l28 : K.lookup a28 = some ⟨oc28, od28, .func (PySem.W.fnOf "_law_spoil" "_law_spoil" (defArgs s__law_spoil) (defBody s__law_spoil) (defScope s__law_spoil) .none kV28 dc28 pm28 an28 cd28 ct28), sl28⟩)
    (c28 : PySem.W.codeIn K cd28 "_law_spoil" = true)
    (p28 : PySem.W.keepIn K (.ref a28) = true)
    (g29 : PySem.W.nsIn K mainGlobals "_law_door_right" = some (some (.ref a29)))
    (l29 : K.lookup a29 = some ⟨oc29, od29, .func (PySem.W.fnOf "_law_door_right" "_law_door_right" (defArgs s__law_door_right) (defBody s__law_door_right) (defScope s__law_door_right) .none kV29 dc29 pm29 an29 cd29 ct29), sl29⟩)
    (c29 : PySem.W.codeIn K cd29 "_law_door_right" = true)
    (p29 : PySem.W.keepIn K (.ref a29) = true)
    (g30 : PySem.W.nsIn K mainGlobals "_law_fields" = some (some (.ref a30)))
    (l30 : K.lookup a30 = some ⟨oc30, od30, .func (PySem.W.fnOf "_law_fields" "_law_fields" (defArgs s__law_fields) (defBody s__law_fields) (defScope s__law_fields) .none kV30 dc30 pm30 an30 cd30 ct30), sl30⟩)
    (c30 : PySem.W.codeIn K cd30 "_law_fields" = true)
    (p30 : PySem.W.keepIn K (.ref a30) = true)
    (g31 : PySem.W.nsIn K mainGlobals "_law_rows_one" = some (some (.ref a31)))
    (l31 : K.lookup a31 = some ⟨oc31, od31, .func (PySem.W.fnOf "_law_rows_one" "_law_rows_one" (defArgs s__law_rows_one) (defBody s__law_rows_one) (defScope s__law_rows_one) .none kV31 dc31 pm31 an31 (.ref co0) ct31), sl31⟩)
    (c31 : PySem.W.codeIn K (.ref co0) "_law_rows_one" = true)
    (p31 : PySem.W.keepIn K (.ref a31) = true)
    (g32 : PySem.W.nsIn K mainGlobals "law" = some (some (.ref a32)))
    (l32 : K.lookup a32 = some ⟨oc32, od32, .func (PySem.W.fnOf "law" "law" (defArgs s_law) (defBody s_law) (defScope s_law) .none kV32 dc32 pm32 an32 cd32 ct32), sl32⟩)
    (c32 : PySem.W.codeIn K cd32 "law" = true)
    (p32 : PySem.W.keepIn K (.ref a32) = true)
    (pg12 : PySem.W.plainGet K cx12 Str.empty = true)
    (hd12 : PySem.W.hasDictIn K cx12 = true)
    (po_12 : PySem.W.plainOver K cx12 = true)
    (sa12 : PySem.W.findIn K (.ref cx12) "__setattr__" = some (some (.builtin "object.__setattr__")))
    (ta12 : PySem.W.findIn K (.ref cx12) (Str.ofString "__class__") = some (some (.builtin "object.__class__")))
    (td12 : PySem.W.mroIn K cx12 (.type "object") = some true)
    (cty12 : PySem.W.typeIn K (.ref cx12) = some (.type "type"))
    (ci12 : PySem.W.clsIn K cx12 = some cq12)
    (sb12_12 : PySem.W.subIn K (.ref cx12) (.ref cx12) = some true)
    (sb12_13 : PySem.W.subIn K (.ref cx12) (.ref cx13) = some false)
    (sb12_14 : PySem.W.subIn K (.ref cx12) (.ref cx14) = some false)
    (sb12_15 : PySem.W.subIn K (.ref cx12) (.ref cx15) = some false)
    (pg13 : PySem.W.plainGet K cx13 Str.empty = true)
    (hd13 : PySem.W.hasDictIn K cx13 = true)
    (po_13 : PySem.W.plainOver K cx13 = true)
    (sa13 : PySem.W.findIn K (.ref cx13) "__setattr__" = some (some (.builtin "object.__setattr__")))
    (mk13 : PySem.W.makesIn K cx13 = true)
    (kc13 : PySem.W.keepIn K (.ref cx13) = true)
    (ta13 : PySem.W.findIn K (.ref cx13) (Str.ofString "__class__") = some (some (.builtin "object.__class__")))
    (td13 : PySem.W.mroIn K cx13 (.type "object") = some true)
    (cty13 : PySem.W.typeIn K (.ref cx13) = some (.type "type"))
    (ci13 : PySem.W.clsIn K cx13 = some cq13)
    (na13_0 : PySem.W.findIn K (.ref cx13) "heard" = some none)
    (sb13_12 : PySem.W.subIn K (.ref cx13) (.ref cx12) = some true)
    (sb13_13 : PySem.W.subIn K (.ref cx13) (.ref cx13) = some true)
    (sb13_14 : PySem.W.subIn K (.ref cx13) (.ref cx14) = some false)
    (sb13_15 : PySem.W.subIn K (.ref cx13) (.ref cx15) = some false)
    (pg14 : PySem.W.plainGet K cx14 Str.empty = true)
    (hd14 : PySem.W.hasDictIn K cx14 = true)
    (po_14 : PySem.W.plainOver K cx14 = true)
    (sa14 : PySem.W.findIn K (.ref cx14) "__setattr__" = some (some (.builtin "object.__setattr__")))
    (mk14 : PySem.W.makesIn K cx14 = true)
    (kc14 : PySem.W.keepIn K (.ref cx14) = true)
    (ta14 : PySem.W.findIn K (.ref cx14) (Str.ofString "__class__") = some (some (.builtin "object.__class__")))
    (td14 : PySem.W.mroIn K cx14 (.type "object") = some true)
    (cty14 : PySem.W.typeIn K (.ref cx14) = some (.type "type"))
    (ci14 : PySem.W.clsIn K cx14 = some cq14)
    (na14_0 : PySem.W.findIn K (.ref cx14) "lists" = some none)
    (sb14_12 : PySem.W.subIn K (.ref cx14) (.ref cx12) = some true)
    (sb14_13 : PySem.W.subIn K (.ref cx14) (.ref cx13) = some false)
    (sb14_14 : PySem.W.subIn K (.ref cx14) (.ref cx14) = some true)
    (sb14_15 : PySem.W.subIn K (.ref cx14) (.ref cx15) = some false)
    (pg15 : PySem.W.plainGet K cx15 Str.empty = true)
    (hd15 : PySem.W.hasDictIn K cx15 = true)
    (po_15 : PySem.W.plainOver K cx15 = true)
    (sa15 : PySem.W.findIn K (.ref cx15) "__setattr__" = some (some (.builtin "object.__setattr__")))
    (mk15 : PySem.W.makesIn K cx15 = true)
    (kc15 : PySem.W.keepIn K (.ref cx15) = true)
    (ta15 : PySem.W.findIn K (.ref cx15) (Str.ofString "__class__") = some (some (.builtin "object.__class__")))
    (td15 : PySem.W.mroIn K cx15 (.type "object") = some true)
    (cty15 : PySem.W.typeIn K (.ref cx15) = some (.type "type"))
    (ci15 : PySem.W.clsIn K cx15 = some cq15)
    (na15_0 : PySem.W.findIn K (.ref cx15) "least" = some none)
    (na15_1 : PySem.W.findIn K (.ref cx15) "low" = some none)
    (na15_2 : PySem.W.findIn K (.ref cx15) "most" = some none)
    (na15_3 : PySem.W.findIn K (.ref cx15) "high" = some none)
    (sb15_12 : PySem.W.subIn K (.ref cx15) (.ref cx12) = some true)
    (sb15_13 : PySem.W.subIn K (.ref cx15) (.ref cx13) = some false)
    (sb15_14 : PySem.W.subIn K (.ref cx15) (.ref cx14) = some false)
    (sb15_15 : PySem.W.subIn K (.ref cx15) (.ref cx15) = some true)
    (gc0 : PySem.W.nsIn K mainGlobals "BadNotes" = some (some (.ref cx0)))
    (gc1 : PySem.W.nsIn K mainGlobals "BadHand" = some (some (.ref cx1)))
    (gc2 : PySem.W.nsIn K mainGlobals "BadHeard" = some (some (.ref cx2)))
    (gc3 : PySem.W.nsIn K mainGlobals "BadShown" = some (some (.ref cx3)))
    (gc4 : PySem.W.nsIn K mainGlobals "BadSaid" = some (some (.ref cx4)))
    (gc5 : PySem.W.nsIn K mainGlobals "BadRule" = some (some (.ref cx5)))
    (gc6 : PySem.W.nsIn K mainGlobals "BadPoints" = some (some (.ref cx6)))
    (gc7 : PySem.W.nsIn K mainGlobals "BadSide" = some (some (.ref cx7)))
    (xe0 : PySem.W.excIn K cx0 excB "ValueError.__new__" = true)
    (xk0 : PySem.W.keepIn K (.ref cx0) = true)
    (xs0 : PySem.W.subIn K (.ref cx0) (.type "BaseException") = some true)
    (cty0 : PySem.W.typeIn K (.ref cx0) = some (.type "type"))
    (xe1 : PySem.W.excIn K cx1 excB "ValueError.__new__" = true)
    (xk1 : PySem.W.keepIn K (.ref cx1) = true)
    (xs1 : PySem.W.subIn K (.ref cx1) (.type "BaseException") = some true)
    (cty1 : PySem.W.typeIn K (.ref cx1) = some (.type "type"))
    (xe2 : PySem.W.excIn K cx2 excB "ValueError.__new__" = true)
    (xk2 : PySem.W.keepIn K (.ref cx2) = true)
    (xs2 : PySem.W.subIn K (.ref cx2) (.type "BaseException") = some true)
    (cty2 : PySem.W.typeIn K (.ref cx2) = some (.type "type"))
    (xe3 : PySem.W.excIn K cx3 excB "ValueError.__new__" = true)
    (xk3 : PySem.W.keepIn K (.ref cx3) = true)
    (xs3 : PySem.W.subIn K (.ref cx3) (.type "BaseException") = some true)
    (cty3 : PySem.W.typeIn K (.ref cx3) = some (.type "type"))
    (xe4 : PySem.W.excIn K cx4 excB "ValueError.__new__" = true)
    (xk4 : PySem.W.keepIn K (.ref cx4) = true)
    (xs4 : PySem.W.subIn K (.ref cx4) (.type "BaseException") = some true)
    (cty4 : PySem.W.typeIn K (.ref cx4) = some (.type "type"))
    (xe5 : PySem.W.excIn K cx5 excB "ValueError.__new__" = true)
    (xk5 : PySem.W.keepIn K (.ref cx5) = true)
    (xs5 : PySem.W.subIn K (.ref cx5) (.type "BaseException") = some true)
    (cty5 : PySem.W.typeIn K (.ref cx5) = some (.type "type"))
    (xe6 : PySem.W.excIn K cx6 excB "ValueError.__new__" = true)
    (xk6 : PySem.W.keepIn K (.ref cx6) = true)
    (xs6 : PySem.W.subIn K (.ref cx6) (.type "BaseException") = some true)
    (cty6 : PySem.W.typeIn K (.ref cx6) = some (.type "type"))
    (xe7 : PySem.W.excIn K cx7 excB "ValueError.__new__" = true)
    (xk7 : PySem.W.keepIn K (.ref cx7) = true)
    (xs7 : PySem.W.subIn K (.ref cx7) (.type "BaseException") = some true)
    (cty7 : PySem.W.typeIn K (.ref cx7) = some (.type "type"))
    (tb : PySem.W.specialIn K (.builtin "object.__class__") (Str.ofString "__get__") = some (some (.builtin "getset_descriptor.__get__")))
    (tc : PySem.W.takesIn K (.builtin "object.__class__") = some true)
    (gk0 : PySem.W.nsIn K mainGlobals "KINDS" = some (some (.ref kx0)))
    (lk0 : K.lookup kx0 = some ⟨.type "tuple", kd0, .seq #[.str "point" kt0_0, .str "back" kt0_1] kn0, ks0⟩)
    (z_abs : PySem.W.nsIn K mainGlobals "abs" = some none)
    (z_all : PySem.W.nsIn K mainGlobals "all" = some none)
    (z_any : PySem.W.nsIn K mainGlobals "any" = some none)
    (z_bool : PySem.W.nsIn K mainGlobals "bool" = some none)
    (z_enumerate : PySem.W.nsIn K mainGlobals "enumerate" = some none)
    (z_int : PySem.W.nsIn K mainGlobals "int" = some none)
    (z_isinstance : PySem.W.nsIn K mainGlobals "isinstance" = some none)
    (z_len : PySem.W.nsIn K mainGlobals "len" = some none)
    (z_list : PySem.W.nsIn K mainGlobals "list" = some none)
    (z_max : PySem.W.nsIn K mainGlobals "max" = some none)
    (z_min : PySem.W.nsIn K mainGlobals "min" = some none)
    (z_range : PySem.W.nsIn K mainGlobals "range" = some none)
    (z_set : PySem.W.nsIn K mainGlobals "set" = some none)
    (z_str : PySem.W.nsIn K mainGlobals "str" = some none)
    (z_tuple : PySem.W.nsIn K mainGlobals "tuple" = some none)
    (z_zip : PySem.W.nsIn K mainGlobals "zip" = some none)
    (q_MOST_AHEAD : PySem.W.nsIn K mainGlobals "MOST_AHEAD" = some (some (.int 2 k0)))
    (q_MOST_HANDS : PySem.W.nsIn K mainGlobals "MOST_HANDS" = some (some (.int 3 k1)))
    (q_MOST_POINTS : PySem.W.nsIn K mainGlobals "MOST_POINTS" = some (some (.int 60 k2)))
    (q_MOST_SHOWN : PySem.W.nsIn K mainGlobals "MOST_SHOWN" = some (some (.int 5 k3)))
    (q_MOST_TO : PySem.W.nsIn K mainGlobals "MOST_TO" = some (some (.int 5 k4)))
    (q_MOST_WORDS : PySem.W.nsIn K mainGlobals "MOST_WORDS" = some (some (.int 6 k5)))
    (lc0 : K.lookup co0 = some ⟨.type "code", cod0, .fields cov0, cos0⟩)
    (va0 : cov0[11]? = some (.ref po0))
    (vb0 : cov0.getD 18 .none = .str fl0 ft0)
    (vc0 : cov0.getD 7 .none = .int gi0 gt0)
    (vd0 : cov0.getD 9 .none = .bool bi0)
    (ve0 : cov0.getD 10 .none = .int ti0 tt0)
    (vf0 : co0 ≠ po0)
    (vg0 : K.lookup po0 = none)
    : LamX.LawAtS l w K (L2.CX l.prog w) 28 63 "_law_script" mg fl h := by
  have e := hfl.symm.trans (PySem.W.mg_of X G g32)
  cases e
  have F0 := fun_mk (st := s_is_whole) l0 c0 p0
  have b0 := F0.binds (ps := ["thing"]) fun _ _ _ _ _ _ us hl => match us, hl with | [_], _ => rfl
  have F1 := fun_mk (st := s_is_count) l1 c1 p1
  have b1 := F1.binds (ps := ["thing", "least", "most"]) fun _ _ _ _ _ _ us hl => match us, hl with | [_, _, _], _ => rfl
  have F2 := fun_mk (st := s_is_word) l2 c2 p2
  have b2 := F2.binds (ps := ["thing"]) fun _ _ _ _ _ _ us hl => match us, hl with | [_], _ => rfl
  have F3 := fun_mk (st := s_check_notes) l3 c3 p3
  have b3 := F3.binds (ps := ["notes"]) fun _ _ _ _ _ _ us hl => match us, hl with | [_], _ => rfl
  have F4 := fun_mk (st := s_check_hand) l4 c4 p4
  have b4 := F4.binds (ps := ["many", "hand"]) fun _ _ _ _ _ _ us hl => match us, hl with | [_, _], _ => rfl
  have F5 := fun_mk (st := s_score_of) l5 c5 p5
  have b5 := F5.binds (ps := ["notes", "heard"]) fun _ _ _ _ _ _ us hl => match us, hl with | [_, _], _ => rfl
  have F6 := fun_mk (st := s_is_heard) l6 c6 p6
  have b6 := F6.binds (ps := ["notes", "heard"]) fun _ _ _ _ _ _ us hl => match us, hl with | [_, _], _ => rfl
  have F7 := fun_mk (st := s_all_heard) l7 c7 p7
  have b7 := F7.binds (ps := ["notes", "hand", "said"]) fun _ _ _ _ _ _ us hl => match us, hl with | [_, _, _], _ => rfl
  have F8 := fun_mk (st := s_is_no_less) l8 c8 p8
  have b8 := F8.binds (ps := ["heard", "other"]) fun _ _ _ _ _ _ us hl => match us, hl with | [_, _], _ => rfl
  have F9 := fun_mk (st := s_gone_over) l9 c9 p9
  have b9 := F9.binds (ps := ["rule", "points"]) fun _ _ _ _ _ _ us hl => match us, hl with | [_, _], _ => rfl
  have F10 := fun_mk (st := s_check_game) l10 c10 p10
  have b10 := F10.binds (ps := ["rule", "points"]) fun _ _ _ _ _ _ us hl => match us, hl with | [_, _], _ => rfl
  have F11 := fun_mk (st := s_games) l11 c11 p11
  have b11 := F11.binds (ps := ["rule", "points"]) fun _ _ _ _ _ _ us hl => match us, hl with | [_, _], _ => rfl
  have F12 := fun_mk (st := s_game_point) l12 c12 p12
  have b12 := F12.binds (ps := ["rule", "points", "side"]) fun _ _ _ _ _ _ us hl => match us, hl with | [_, _, _], _ => rfl
  have F13 := fun_mk (st := s_History_init) l13 c13 p13
  have b13 := F13.binds (ps := ["self", "heard"]) fun _ _ _ _ _ _ us hl => match us, hl with | [_, _], _ => rfl
  have F14 := fun_mk (st := s_History_shows) l14 c14 p14
  have b14 := F14.binds (ps := ["self", "notes", "hand", "shown"]) fun _ _ _ _ _ _ us hl => match us, hl with | [_, _, _, _], _ => rfl
  have F15 := fun_mk (st := s_Never_init) l15 c15 p15
  have b15 := F15.binds (ps := ["self", "lists"]) fun _ _ _ _ _ _ us hl => match us, hl with | [_, _], _ => rfl
  have F16 := fun_mk (st := s_Never_shows) l16 c16 p16
  have b16 := F16.binds (ps := ["self", "notes", "hand", "shown"]) fun _ _ _ _ _ _ us hl => match us, hl with | [_, _, _, _], _ => rfl
  have F17 := fun_mk (st := s_Leads_init) l17 c17 p17
  have b17 := F17.binds (ps := ["self", "least", "low", "most", "high"]) fun _ _ _ _ _ _ us hl => match us, hl with | [_, _, _, _, _], _ => rfl
  have F18 := fun_mk (st := s_Leads_shows) l18 c18 p18
  have b18 := F18.binds (ps := ["self", "notes", "hand", "said"]) fun _ _ _ _ _ _ us hl => match us, hl with | [_, _, _, _], _ => rfl
  have F19 := fun_mk (st := s_score) l19 c19 p19
  have b19 := F19.binds (ps := ["notes", "heard"]) fun _ _ _ _ _ _ us hl => match us, hl with | [_, _], _ => rfl
  have F20 := fun_mk (st := s_is_showing) l20 c20 p20
  have b20 := F20.binds (ps := ["thing", "most"]) fun _ _ _ _ _ _ us hl => match us, hl with | [_, _], _ => rfl
  have F21 := fun_mk (st := s_lists_of) l21 c21 p21
  have b21 := F21.binds (ps := ["notes", "hand", "shown"]) fun _ _ _ _ _ _ us hl => match us, hl with | [_, _, _], _ => rfl
  have F22 := fun_mk (st := s_history_of) l22 c22 p22
  have b22 := F22.binds (ps := ["lists"]) fun _ _ _ _ _ _ us hl => match us, hl with | [_], _ => rfl
  have F23 := fun_mk (st := s_judged) l23 c23 p23
  have b23 := F23.binds (ps := ["notes", "hand", "shown"]) fun _ _ _ _ _ _ us hl => match us, hl with | [_, _, _], _ => rfl
  have F24 := fun_mk (st := s_leads) l24 c24 p24
  have b24 := F24.binds (ps := ["notes", "hand", "said"]) fun _ _ _ _ _ _ us hl => match us, hl with | [_, _, _], _ => rfl
  have F25 := fun_mk (st := s__law_cell_at) l25 c25 p25
  have b25 := F25.binds (ps := ["_law_script", "_law_k"]) fun _ _ _ _ _ _ us hl => match us, hl with | [_, _], _ => rfl
  have F26 := fun_mk (st := s__law_copy) l26 c26 p26
  have b26 := F26.binds (ps := ["_law_thing"]) fun _ _ _ _ _ _ us hl => match us, hl with | [_], _ => rfl
  have F27 := fun_mk (st := s__law_into) l27 c27 p27
  have b27 := F27.binds (ps := ["_law_handed", "_law_new"]) fun _ _ _ _ _ _ us hl => match us, hl with | [_, _], _ => rfl
  have F28 := fun_mk (st := s__law_spoil) l28 c28 p28
  have b28 := F28.binds (ps := ["_law_found"]) fun _ _ _ _ _ _ us hl => match us, hl with | [_], _ => rfl
  have F29 := fun_mk (st := s__law_door_right) l29 c29 p29
  have b29 := F29.binds (ps := ["_law_ask", "_law_first", "_law_second"]) fun _ _ _ _ _ _ us hl => match us, hl with | [_, _, _], _ => rfl
  have F30 := fun_mk (st := s__law_fields) l30 c30 p30
  have b30 := F30.binds (ps := ["_law_found"]) fun _ _ _ _ _ _ us hl => match us, hl with | [_], _ => rfl
  have F31 := fun_mk (st := s__law_rows_one) l31 c31 p31
  have b31 := F31.binds (ps := []) fun _ _ _ _ _ _ us hl => match us, hl with | [], _ => rfl
  have F32 := fun_mk (st := s_law) l32 c32 p32
  let fa : Nat → Addr := fun k => match k with | 0 => a0 | 1 => a1 | 2 => a2 | 3 => a3 | 4 => a4 | 5 => a5 | 6 => a6 | 7 => a7 | 8 => a8 | 9 => a9 | 10 => a10 | 11 => a11 | 12 => a12 | 13 => a13 | 14 => a14 | 15 => a15 | 16 => a16 | 17 => a17 | 18 => a18 | 19 => a19 | 20 => a20 | 21 => a21 | 22 => a22 | 23 => a23 | 24 => a24 | 25 => a25 | 26 => a26 | 27 => a27 | 28 => a28 | 29 => a29 | 30 => a30 | 31 => a31 | _ => 0
  let ff : Nat → FuncData := fun k => match k with
    | 0 => PySem.W.fnOf "is_whole" "is_whole" (defArgs s_is_whole) (defBody s_is_whole) (defScope s_is_whole) .none kV0 dc0 pm0 an0 cd0 ct0
    | 1 => PySem.W.fnOf "is_count" "is_count" (defArgs s_is_count) (defBody s_is_count) (defScope s_is_count) .none kV1 dc1 pm1 an1 cd1 ct1
    | 2 => PySem.W.fnOf "is_word" "is_word" (defArgs s_is_word) (defBody s_is_word) (defScope s_is_word) .none kV2 dc2 pm2 an2 cd2 ct2
    | 3 => PySem.W.fnOf "check_notes" "check_notes" (defArgs s_check_notes) (defBody s_check_notes) (defScope s_check_notes) .none kV3 dc3 pm3 an3 cd3 ct3
    | 4 => PySem.W.fnOf "check_hand" "check_hand" (defArgs s_check_hand) (defBody s_check_hand) (defScope s_check_hand) .none kV4 dc4 pm4 an4 cd4 ct4
    | 5 => PySem.W.fnOf "score_of" "score_of" (defArgs s_score_of) (defBody s_score_of) (defScope s_score_of) .none kV5 dc5 pm5 an5 cd5 ct5
    | 6 => PySem.W.fnOf "is_heard" "is_heard" (defArgs s_is_heard) (defBody s_is_heard) (defScope s_is_heard) .none kV6 dc6 pm6 an6 cd6 ct6
    | 7 => PySem.W.fnOf "all_heard" "all_heard" (defArgs s_all_heard) (defBody s_all_heard) (defScope s_all_heard) .none kV7 dc7 pm7 an7 cd7 ct7
    | 8 => PySem.W.fnOf "is_no_less" "is_no_less" (defArgs s_is_no_less) (defBody s_is_no_less) (defScope s_is_no_less) .none kV8 dc8 pm8 an8 cd8 ct8
    | 9 => PySem.W.fnOf "gone_over" "gone_over" (defArgs s_gone_over) (defBody s_gone_over) (defScope s_gone_over) .none kV9 dc9 pm9 an9 cd9 ct9
    | 10 => PySem.W.fnOf "check_game" "check_game" (defArgs s_check_game) (defBody s_check_game) (defScope s_check_game) .none kV10 dc10 pm10 an10 cd10 ct10
    | 11 => PySem.W.fnOf "games" "games" (defArgs s_games) (defBody s_games) (defScope s_games) .none kV11 dc11 pm11 an11 cd11 ct11
    | 12 => PySem.W.fnOf "game_point" "game_point" (defArgs s_game_point) (defBody s_game_point) (defScope s_game_point) .none kV12 dc12 pm12 an12 cd12 ct12
    | 13 => PySem.W.fnOf "__init__" "History.__init__" (defArgs s_History_init) (defBody s_History_init) (defScope s_History_init) .none kV13 dc13 pm13 an13 cd13 ct13
    | 14 => PySem.W.fnOf "shows" "History.shows" (defArgs s_History_shows) (defBody s_History_shows) (defScope s_History_shows) .none kV14 dc14 pm14 an14 cd14 ct14
    | 15 => PySem.W.fnOf "__init__" "Never.__init__" (defArgs s_Never_init) (defBody s_Never_init) (defScope s_Never_init) .none kV15 dc15 pm15 an15 cd15 ct15
    | 16 => PySem.W.fnOf "shows" "Never.shows" (defArgs s_Never_shows) (defBody s_Never_shows) (defScope s_Never_shows) .none kV16 dc16 pm16 an16 cd16 ct16
    | 17 => PySem.W.fnOf "__init__" "Leads.__init__" (defArgs s_Leads_init) (defBody s_Leads_init) (defScope s_Leads_init) .none kV17 dc17 pm17 an17 cd17 ct17
    | 18 => PySem.W.fnOf "shows" "Leads.shows" (defArgs s_Leads_shows) (defBody s_Leads_shows) (defScope s_Leads_shows) .none kV18 dc18 pm18 an18 cd18 ct18
    | 19 => PySem.W.fnOf "score" "score" (defArgs s_score) (defBody s_score) (defScope s_score) .none kV19 dc19 pm19 an19 cd19 ct19
    | 20 => PySem.W.fnOf "is_showing" "is_showing" (defArgs s_is_showing) (defBody s_is_showing) (defScope s_is_showing) .none kV20 dc20 pm20 an20 cd20 ct20
    | 21 => PySem.W.fnOf "lists_of" "lists_of" (defArgs s_lists_of) (defBody s_lists_of) (defScope s_lists_of) .none kV21 dc21 pm21 an21 cd21 ct21
    | 22 => PySem.W.fnOf "history_of" "history_of" (defArgs s_history_of) (defBody s_history_of) (defScope s_history_of) .none kV22 dc22 pm22 an22 cd22 ct22
    | 23 => PySem.W.fnOf "judged" "judged" (defArgs s_judged) (defBody s_judged) (defScope s_judged) .none kV23 dc23 pm23 an23 cd23 ct23
    | 24 => PySem.W.fnOf "leads" "leads" (defArgs s_leads) (defBody s_leads) (defScope s_leads) .none kV24 dc24 pm24 an24 cd24 ct24
    | 25 => PySem.W.fnOf "_law_cell_at" "_law_cell_at" (defArgs s__law_cell_at) (defBody s__law_cell_at) (defScope s__law_cell_at) .none kV25 dc25 pm25 an25 cd25 ct25
    | 26 => PySem.W.fnOf "_law_copy" "_law_copy" (defArgs s__law_copy) (defBody s__law_copy) (defScope s__law_copy) .none kV26 dc26 pm26 an26 cd26 ct26
    | 27 => PySem.W.fnOf "_law_into" "_law_into" (defArgs s__law_into) (defBody s__law_into) (defScope s__law_into) .none kV27 dc27 pm27 an27 cd27 ct27
    | 28 => PySem.W.fnOf "_law_spoil" "_law_spoil" (defArgs s__law_spoil) (defBody s__law_spoil) (defScope s__law_spoil) .none kV28 dc28 pm28 an28 cd28 ct28
    | 29 => PySem.W.fnOf "_law_door_right" "_law_door_right" (defArgs s__law_door_right) (defBody s__law_door_right) (defScope s__law_door_right) .none kV29 dc29 pm29 an29 cd29 ct29
    | 30 => PySem.W.fnOf "_law_fields" "_law_fields" (defArgs s__law_fields) (defBody s__law_fields) (defScope s__law_fields) .none kV30 dc30 pm30 an30 cd30 ct30
    | 31 => PySem.W.fnOf "_law_rows_one" "_law_rows_one" (defArgs s__law_rows_one) (defBody s__law_rows_one) (defScope s__law_rows_one) .none kV31 dc31 pm31 an31 (.ref co0) ct31
    | _ => PySem.W.fnOf "law" "law" (defArgs s_law) (defBody s_law) (defScope s_law) .none kV32 dc32 pm32 an32 cd32 ct32
  let tk : Nat → Tok := fun k => match k with | 0 => k0 | 1 => k1 | 2 => k2 | 3 => k3 | 4 => k4 | 5 => k5 | _ => 0
  let ca : Nat → Addr := fun k => match k with | 0 => cx0 | 1 => cx1 | 2 => cx2 | 3 => cx3 | 4 => cx4 | 5 => cx5 | 6 => cx6 | 7 => cx7 | 12 => cx12 | 13 => cx13 | 14 => cx14 | 15 => cx15 | _ => 0
  let ka : Nat → Addr := fun k => match k with | 0 => kx0 | _ => 0
  let cc : Nat → Addr := fun k => match k with | 0 => co0 | _ => 0
  let pp : Nat → Addr := fun k => match k with | 0 => po0 | _ => 0
  have T : Txt K mg fa ff tk ca ka cc := ⟨⟨F0, PySem.W.mg_of X G g0, b0⟩, ⟨F1, PySem.W.mg_of X G g1, b1⟩, ⟨F2, PySem.W.mg_of X G g2, b2⟩, ⟨F3, PySem.W.mg_of X G g3, b3⟩, ⟨F4, PySem.W.mg_of X G g4, b4⟩, ⟨F5, PySem.W.mg_of X G g5, b5⟩, ⟨F6, PySem.W.mg_of X G g6, b6⟩, ⟨F7, PySem.W.mg_of X G g7, b7⟩, ⟨F8, PySem.W.mg_of X G g8, b8⟩, ⟨F9, PySem.W.mg_of X G g9, b9⟩, ⟨F10, PySem.W.mg_of X G g10, b10⟩, ⟨F11, PySem.W.mg_of X G g11, b11⟩, ⟨F12, PySem.W.mg_of X G g12, b12⟩, F13, b13, ⟨mk13, g13, i13, kc13⟩, F14, b14, ⟨g14, i14, p14⟩, F15, b15, ⟨mk14, g15, i15, kc14⟩, F16, b16, ⟨g16, i16, p16⟩, F17, b17, ⟨mk15, g17, i17, kc15⟩, F18, b18, ⟨g18, i18, p18⟩, ⟨F19, PySem.W.mg_of X G g19, b19⟩, ⟨F20, PySem.W.mg_of X G g20, b20⟩, ⟨F21, PySem.W.mg_of X G g21, b21⟩, ⟨F22, PySem.W.mg_of X G g22, b22⟩, ⟨F23, PySem.W.mg_of X G g23, b23⟩, ⟨F24, PySem.W.mg_of X G g24, b24⟩, ⟨F25, PySem.W.mg_of X G g25, b25⟩, ⟨F26, PySem.W.mg_of X G g26, b26⟩, ⟨F27, PySem.W.mg_of X G g27, b27⟩, ⟨F28, PySem.W.mg_of X G g28, b28⟩, ⟨F29, PySem.W.mg_of X G g29, b29⟩, ⟨F30, PySem.W.mg_of X G g30, b30⟩, ⟨F31, PySem.W.mg_of X G g31, b31⟩, ⟨_, _, _, _, _, _, _, _, rfl, l31, c31⟩, PySem.W.mg_of X G gc12, ⟨pg12, hd12, po_12, sa12⟩, ⟨ta12, tb, tc, td12⟩, (kit_own ci12 cty12 sb12_12 sb12_12), (kit_own ci13 cty13 sb12_13 sb12_12), (kit_own ci14 cty14 sb12_14 sb12_12), (kit_own ci15 cty15 sb12_15 sb12_12), PySem.W.mg_of X G gc13, ⟨pg13, hd13, po_13, sa13⟩, ⟨ta13, tb, tc, td13⟩, na13_0, (kit_own ci12 cty12 sb13_12 sb13_13), (kit_own ci13 cty13 sb13_13 sb13_13), (kit_own ci14 cty14 sb13_14 sb13_13), (kit_own ci15 cty15 sb13_15 sb13_13), PySem.W.mg_of X G gc14, ⟨pg14, hd14, po_14, sa14⟩, ⟨ta14, tb, tc, td14⟩, na14_0, (kit_own ci12 cty12 sb14_12 sb14_14), (kit_own ci13 cty13 sb14_13 sb14_14), (kit_own ci14 cty14 sb14_14 sb14_14), (kit_own ci15 cty15 sb14_15 sb14_14), PySem.W.mg_of X G gc15, ⟨pg15, hd15, po_15, sa15⟩, ⟨ta15, tb, tc, td15⟩, na15_0, na15_1, na15_2, na15_3, (kit_own ci12 cty12 sb15_12 sb15_15), (kit_own ci13 cty13 sb15_13 sb15_15), (kit_own ci14 cty14 sb15_14 sb15_15), (kit_own ci15 cty15 sb15_15 sb15_15), PySem.W.mg_of X G gc0, PySem.W.mg_of X G gc1, PySem.W.mg_of X G gc2, PySem.W.mg_of X G gc3, PySem.W.mg_of X G gc4, PySem.W.mg_of X G gc5, PySem.W.mg_of X G gc6, PySem.W.mg_of X G gc7, xe0, xk0, xs0, cty0, xe1, xk1, xs1, cty1, xe2, xk2, xs2, cty2, xe3, xk3, xs3, cty3, xe4, xk4, xs4, cty4, xe5, xk5, xs5, cty5, xe6, xk6, xs6, cty6, xe7, xk7, xs7, cty7, PySem.W.mg_of X G gk0, (.inr ⟨_, _, _, lk0, rfl, rfl, (show 2 ≤ sizeLine by decide), .cons ⟨_, rfl⟩ (.cons ⟨_, rfl⟩ (.nil))⟩), PySem.W.mg_none_of X G z_abs, PySem.W.mg_none_of X G z_all, PySem.W.mg_none_of X G z_any, PySem.W.mg_none_of X G z_bool, PySem.W.mg_none_of X G z_enumerate, PySem.W.mg_none_of X G z_int, PySem.W.mg_none_of X G z_isinstance, PySem.W.mg_none_of X G z_len, PySem.W.mg_none_of X G z_list, PySem.W.mg_none_of X G z_max, PySem.W.mg_none_of X G z_min, PySem.W.mg_none_of X G z_range, PySem.W.mg_none_of X G z_set, PySem.W.mg_none_of X G z_str, PySem.W.mg_none_of X G z_tuple, PySem.W.mg_none_of X G z_zip, PySem.W.mg_of X G q_MOST_AHEAD, PySem.W.mg_of X G q_MOST_HANDS, PySem.W.mg_of X G q_MOST_POINTS, PySem.W.mg_of X G q_MOST_SHOWN, PySem.W.mg_of X G q_MOST_TO, PySem.W.mg_of X G q_MOST_WORDS⟩
  refine ⟨PySem.W.fnOf "law" "law" (defArgs s_law) (defBody s_law) (defScope s_law) .none kV32 dc32 pm32 an32 cd32 ct32, [(co0, po0)], spLawT K (tbs pp), ?_, ?_, ?_, fun s v => .of_eq rfl, ?_, fun base _ _ hTB => ok_law T (hTB (co0, po0) (by simp)) F32⟩
  · intro p hp
    simp only [List.mem_cons, List.not_mem_nil, or_false] at hp
    rcases hp with rfl
    · exact tE "_law_rows_one" (by simp) _ _ _ _ _ _ _ _ _ (PySem.W.mg_of X G g31) l31 rfl rfl lc0 va0
  · intro p hp
    simp only [List.mem_cons, List.not_mem_nil, or_false] at hp
    rcases hp with rfl
    · exact vg0
  · intro p hp
    simp only [List.mem_cons, List.not_mem_nil, or_false] at hp
    rcases hp with rfl
    · exact ⟨_, cov0, fl0, ft0, gi0, gt0, bi0, ti0, tt0, X _ _ lc0, rfl, rfl, va0, by rw [Array.getD_eq_getD_getElem?, va0]; rfl, vb0, vc0, vd0, ve0, vf0⟩
  · intro H a ns hl hb hH hS
    refine ⟨a, ns, rfl, hS, hl, hb, fun p hp => ?_, fun _ => rfl⟩
    simp only [tbs, List.mem_cons, List.not_mem_nil, or_false] at hp
    rcases hp with rfl
    · exact .nil (hH (co0, po0) (by simp))
end K11
open PySem PySem.W PyProof.Rows
set_option maxHeartbeats 0 in
theorem PySem.Challenge.cw_scorehands_k11_whole_handed_holds : PySem.Challenge.rw_scorehands_k11_whole_handed.Holds := by
  w_on; o_law; k_head; (case hw => w_witness2)
  k_fill
  refine R.walk_many (l := PySem.Challenge.rw_scorehands_k11_whole_handed) (n := 63) (k := 28) (x := "_law_script") (CX := fun w => L2.CX (PySem.Challenge.rw_scorehands_k11_whole_handed).prog w) ["_law_rows_one"] rfl (by decide) rfl ⟨rfl, by decide, by decide⟩ (by decide +kernel)
    (fun w h Y => PySem.W.km_in_of Y) ?F (fun _ _ _ _ _ h => by obtain ⟨_, _, _, _, _, _, _, _, _, _, _, _, z⟩ := h; exact z.elim)
  case F =>
    intro w mg fa h Y KX G hmg tE
    refine' K11.all_mk KX G hmg tE ?xgc12 ?xgc13 ?xgc14 ?xgc15 ?xg0 ?xl0 ?xc0 ?xp0 ?xg1 ?xl1 ?xc1 ?xp1 ?xg2 ?xl2 ?xc2 ?xp2 ?xg3 ?xl3 ?xc3 ?xp3 ?xg4 ?xl4 ?xc4 ?xp4 ?xg5 ?xl5 ?xc5 ?xp5 ?xg6 ?xl6 ?xc6 ?xp6 ?xg7 ?xl7 ?xc7 ?xp7 ?xg8 ?xl8 ?xc8 ?xp8 ?xg9 ?xl9 ?xc9 ?xp9 ?xg10 ?xl10 ?xc10 ?xp10 ?xg11 ?xl11 ?xc11 ?xp11 ?xg12 ?xl12 ?xc12 ?xp12 ?xg13 ?xi13 ?xl13 ?xc13 ?xp13 ?xg14 ?xi14 ?xl14 ?xc14 ?xp14 ?xg15 ?xi15 ?xl15 ?xc15 ?xp15 ?xg16 ?xi16 ?xl16 ?xc16 ?xp16 ?xg17 ?xi17 ?xl17 ?xc17 ?xp17 ?xg18 ?xi18 ?xl18 ?xc18 ?xp18 ?xg19 ?xl19 ?xc19 ?xp19 ?xg20 ?xl20 ?xc20 ?xp20 ?xg21 ?xl21 ?xc21 ?xp21 ?xg22 ?xl22 ?xc22 ?xp22 ?xg23 ?xl23 ?xc23 ?xp23 ?xg24 ?xl24 ?xc24 ?xp24 ?xg25 ?xl25 ?xc25 ?xp25 ?xg26 ?xl26 ?xc26 ?xp26 ?xg27 ?xl27 ?xc27 ?xp27 ?xg28 ?xl28 ?xc28 ?xp28 ?xg29 ?xl29 ?xc29 ?xp29 ?xg30 ?xl30 ?xc30 ?xp30 ?xg31 ?xl31 ?xc31 ?xp31 ?xg32 ?xl32 ?xc32 ?xp32 ?xpg12 ?xhd12 ?xpo_12 ?xsa12 ?xta12 ?xtd12 ?xcty12 ?xci12 ?xsb12_12 ?xsb12_13 ?xsb12_14 ?xsb12_15 ?xpg13 ?xhd13 ?xpo_13 ?xsa13 ?xmk13 ?xkc13 ?xta13 ?xtd13 ?xcty13 ?xci13 ?xna13_0 ?xsb13_12 ?xsb13_13 ?xsb13_14 ?xsb13_15 ?xpg14 ?xhd14 ?xpo_14 ?xsa14 ?xmk14 ?xkc14 ?xta14 ?xtd14 ?xcty14 ?xci14 ?xna14_0 ?xsb14_12 ?xsb14_13 ?xsb14_14 ?xsb14_15 ?xpg15 ?xhd15 ?xpo_15 ?xsa15 ?xmk15 ?xkc15 ?xta15 ?xtd15 ?xcty15 ?xci15 ?xna15_0 ?xna15_1 ?xna15_2 ?xna15_3 ?xsb15_12 ?xsb15_13 ?xsb15_14 ?xsb15_15 ?xgc0 ?xgc1 ?xgc2 ?xgc3 ?xgc4 ?xgc5 ?xgc6 ?xgc7 ?xxe0 ?xxk0 ?xxs0 ?xcty0 ?xxe1 ?xxk1 ?xxs1 ?xcty1 ?xxe2 ?xxk2 ?xxs2 ?xcty2 ?xxe3 ?xxk3 ?xxs3 ?xcty3 ?xxe4 ?xxk4 ?xxs4 ?xcty4 ?xxe5 ?xxk5 ?xxs5 ?xcty5 ?xxe6 ?xxk6 ?xxs6 ?xcty6 ?xxe7 ?xxk7 ?xxs7 ?xcty7 ?xtb ?xtc ?xgk0 ?xlk0 ?xz_abs ?xz_all ?xz_any ?xz_bool ?xz_enumerate ?xz_int ?xz_isinstance ?xz_len ?xz_list ?xz_max ?xz_min ?xz_range ?xz_set ?xz_str ?xz_tuple ?xz_zip ?xq_MOST_AHEAD ?xq_MOST_HANDS ?xq_MOST_POINTS ?xq_MOST_SHOWN ?xq_MOST_TO ?xq_MOST_WORDS ?xlc0 ?xva0 ?xvb0 ?xvc0 ?xvd0 ?xve0 ?xvf0 ?xvg0
    (case xgc12 => k_is); (case xgc13 => k_is); (case xgc14 => k_is); (case xgc15 => k_is); (case xg0 => k_is); (case xl0 => k_is); (case xc0 => k_is); (case xp0 => k_is)
    (case xg1 => k_is); (case xl1 => k_is); (case xc1 => k_is); (case xp1 => k_is); (case xg2 => k_is); (case xl2 => k_is); (case xc2 => k_is); (case xp2 => k_is)
    (case xg3 => k_is); (case xl3 => k_is); (case xc3 => k_is); (case xp3 => k_is); (case xg4 => k_is); (case xl4 => k_is); (case xc4 => k_is); (case xp4 => k_is)
    (case xg5 => k_is); (case xl5 => k_is); (case xc5 => k_is); (case xp5 => k_is); (case xg6 => k_is); (case xl6 => k_is); (case xc6 => k_is); (case xp6 => k_is)
    (case xg7 => k_is); (case xl7 => k_is); (case xc7 => k_is); (case xp7 => k_is); (case xg8 => k_is); (case xl8 => k_is); (case xc8 => k_is); (case xp8 => k_is)
    (case xg9 => k_is); (case xl9 => k_is); (case xc9 => k_is); (case xp9 => k_is); (case xg10 => k_is); (case xl10 => k_is); (case xc10 => k_is); (case xp10 => k_is)
    (case xg11 => k_is); (case xl11 => k_is); (case xc11 => k_is); (case xp11 => k_is); (case xg12 => k_is); (case xl12 => k_is); (case xc12 => k_is); (case xp12 => k_is)
    (case xg13 => k_is); (case xi13 => k_is); (case xl13 => k_is); (case xc13 => k_is); (case xp13 => k_is); (case xg14 => k_is); (case xi14 => k_is); (case xl14 => k_is)
    (case xc14 => k_is); (case xp14 => k_is); (case xg15 => k_is); (case xi15 => k_is); (case xl15 => k_is); (case xc15 => k_is); (case xp15 => k_is); (case xg16 => k_is)
    (case xi16 => k_is); (case xl16 => k_is); (case xc16 => k_is); (case xp16 => k_is); (case xg17 => k_is); (case xi17 => k_is); (case xl17 => k_is); (case xc17 => k_is)
    (case xp17 => k_is); (case xg18 => k_is); (case xi18 => k_is); (case xl18 => k_is); (case xc18 => k_is); (case xp18 => k_is); (case xg19 => k_is); (case xl19 => k_is)
    (case xc19 => k_is); (case xp19 => k_is); (case xg20 => k_is); (case xl20 => k_is); (case xc20 => k_is); (case xp20 => k_is); (case xg21 => k_is); (case xl21 => k_is)
    (case xc21 => k_is); (case xp21 => k_is); (case xg22 => k_is); (case xl22 => k_is); (case xc22 => k_is); (case xp22 => k_is); (case xg23 => k_is); (case xl23 => k_is)
    (case xc23 => k_is); (case xp23 => k_is); (case xg24 => k_is); (case xl24 => k_is); (case xc24 => k_is); (case xp24 => k_is); (case xg25 => k_is); (case xl25 => k_is)
    (case xc25 => k_is); (case xp25 => k_is); (case xg26 => k_is); (case xl26 => k_is); (case xc26 => k_is); (case xp26 => k_is); (case xg27 => k_is); (case xl27 => k_is)
    (case xc27 => k_is); (case xp27 => k_is); (case xg28 => k_is); (case xl28 => k_is); (case xc28 => k_is); (case xp28 => k_is); (case xg29 => k_is); (case xl29 => k_is)
    (case xc29 => k_is); (case xp29 => k_is); (case xg30 => k_is); (case xl30 => k_is); (case xc30 => k_is); (case xp30 => k_is); (case xg31 => k_is); (case xl31 => k_is)
    (case xc31 => k_is); (case xp31 => k_is); (case xg32 => k_is); (case xl32 => k_is); (case xc32 => k_is); (case xp32 => k_is); (case xpg12 => k_is); (case xhd12 => k_is)
    (case xpo_12 => k_is); (case xsa12 => k_is); (case xta12 => k_is); (case xtd12 => k_is); (case xcty12 => k_is); (case xci12 => k_is); (case xsb12_12 => k_is); (case xsb12_13 => k_is)
    (case xsb12_14 => k_is); (case xsb12_15 => k_is); (case xpg13 => k_is); (case xhd13 => k_is); (case xpo_13 => k_is); (case xsa13 => k_is); (case xmk13 => k_is); (case xkc13 => k_is)
    (case xta13 => k_is); (case xtd13 => k_is); (case xcty13 => k_is); (case xci13 => k_is); (case xna13_0 => k_is); (case xsb13_12 => k_is); (case xsb13_13 => k_is); (case xsb13_14 => k_is)
    (case xsb13_15 => k_is); (case xpg14 => k_is); (case xhd14 => k_is); (case xpo_14 => k_is); (case xsa14 => k_is); (case xmk14 => k_is); (case xkc14 => k_is); (case xta14 => k_is)
    (case xtd14 => k_is); (case xcty14 => k_is); (case xci14 => k_is); (case xna14_0 => k_is); (case xsb14_12 => k_is); (case xsb14_13 => k_is); (case xsb14_14 => k_is); (case xsb14_15 => k_is)
    (case xpg15 => k_is); (case xhd15 => k_is); (case xpo_15 => k_is); (case xsa15 => k_is); (case xmk15 => k_is); (case xkc15 => k_is); (case xta15 => k_is); (case xtd15 => k_is)
    (case xcty15 => k_is); (case xci15 => k_is); (case xna15_0 => k_is); (case xna15_1 => k_is); (case xna15_2 => k_is); (case xna15_3 => k_is); (case xsb15_12 => k_is); (case xsb15_13 => k_is)
    (case xsb15_14 => k_is); (case xsb15_15 => k_is); (case xgc0 => k_is); (case xgc1 => k_is); (case xgc2 => k_is); (case xgc3 => k_is); (case xgc4 => k_is); (case xgc5 => k_is)
    (case xgc6 => k_is); (case xgc7 => k_is); (case xxe0 => k_exc); (case xxk0 => k_is); (case xxs0 => k_is); (case xcty0 => k_is); (case xxe1 => k_exc); (case xxk1 => k_is)
    (case xxs1 => k_is); (case xcty1 => k_is); (case xxe2 => k_exc); (case xxk2 => k_is); (case xxs2 => k_is); (case xcty2 => k_is); (case xxe3 => k_exc); (case xxk3 => k_is)
    (case xxs3 => k_is); (case xcty3 => k_is); (case xxe4 => k_exc); (case xxk4 => k_is); (case xxs4 => k_is); (case xcty4 => k_is); (case xxe5 => k_exc); (case xxk5 => k_is)
    (case xxs5 => k_is); (case xcty5 => k_is); (case xxe6 => k_exc); (case xxk6 => k_is); (case xxs6 => k_is); (case xcty6 => k_is); (case xxe7 => k_exc); (case xxk7 => k_is)
    (case xxs7 => k_is); (case xcty7 => k_is); (case xtb => k_is); (case xtc => k_is); (case xgk0 => k_is); (case xlk0 => k_is); (case xz_abs => k_is); (case xz_all => k_is)
    (case xz_any => k_is); (case xz_bool => k_is); (case xz_enumerate => k_is); (case xz_int => k_is); (case xz_isinstance => k_is); (case xz_len => k_is); (case xz_list => k_is); (case xz_max => k_is)
    (case xz_min => k_is); (case xz_range => k_is); (case xz_set => k_is); (case xz_str => k_is); (case xz_tuple => k_is); (case xz_zip => k_is); (case xq_MOST_AHEAD => k_is); (case xq_MOST_HANDS => k_is)
    (case xq_MOST_POINTS => k_is); (case xq_MOST_SHOWN => k_is); (case xq_MOST_TO => k_is); (case xq_MOST_WORDS => k_is); (case xlc0 => k_is); (case xva0 => rfl); (case xvb0 => rfl); (case xvc0 => rfl)
    (case xvd0 => rfl); (case xve0 => rfl); (case xvf0 => decide); (case xvg0 => first | rfl | k_is | decide +kernel)
