import PyProof.Rows.All
import Wide.All
import OpenK.AllK
import Wide.FinOn
import HandS.ForMost
import HandS.SetFor
import HandS.Strs
import HandS.Walk
import HandS.IsInst
import HandS.Wide
import HandS.Style
import HandS.EndBits
import PySem.Challenge.RW_scorehands_k05_whole_games
set_option Elab.async false
set_option linter.all false
set_option maxRecDepth 100000
set_option maxHeartbeats 4000000
namespace G
open PySem PySem.Spec PyProof.Rows L2
/-! ### set(l) of a list of ints, told as SetR -/
abbrev emSet (w : World) : Obj :=
  ⟨.type "set", none, .set #[] 0 (.fresh 0 0 (!w.params.followText "set-order")), #[]⟩
section
variable {P : Program} {w : World} {A : Around} {E : Value → Shared → Prop} {s : Shared}
theorem set_of_list {l : Addr} {items : Array Value} (ms : List Int) {Q : Value → Shared → Prop}
    (quiet : A.handled = none) (lst : s.heap.IsList l items) (are : IntsAre items.toList ms)
    (few : ms.length + 1 < scanBound)
    (go : ∀ (h2 : Heap) (tk c : Nat), SetR w h2 s.heap.objs.size (fun j => decide (j ∈ ms)) c → c ≤ ms.length →
      (∀ b o, s.heap.get? b = some o → h2.get? b = some o) →
      Q (.ref s.heap.objs.size) { s with heap := h2, toks := tk }) :
    wpAny (model P w) A (call (.type "set") [.ref l]) Q E s := by
  have sz : items.size = ms.length := by
    have q := IntsAre.length are
    rwa [Array.length_toList] at q
  obtain ⟨c, tl, mro⟩ := F.called_set.mro
  have made := F.called_set.made; have sub := F.called_set.sub
  refine wpAny_call (codeAny_of_tree ?_)
  show wpAny _ _ (callAny (.type "set") _) _ _ _
  refine wpAny_pure ⟨Code.quiet_builtin _ (by decide +kernel),
    codeAny_builtin F.entry_type_call ?_⟩
  rw [Around.under_plain (weight_type_call_type "set" [.ref l] [])
    rfl]
  have n1 := F.called_set.notType; have n2 := F.called_set.canCreate; have n3 := F.typeCall_set_1 (.ref l)
  repeat (any_goals (first | assumption | wp_step))
  refine codeAny_mono (code_set_led1 (.ref l) (E := E)
    (Q₁ := fun obj t => obj = .ref s.heap.objs.size ∧ t = { s with heap := s.heap.push (emSet w) }) ⟨rfl, rfl⟩) fun r t hr => ?_
  cases r with
  | error e => exact hr
  | ok fl =>
    cases fl with
    | ret obj =>
      obtain ⟨rfl, rfl⟩ := hr
      have top : (s.heap.push (emSet w)).get? s.heap.objs.size = some (emSet w) := Heap.get?_push_size _ rfl
      have typ : Shared.TypeIs { s with heap := s.heap.push (emSet w) } (.ref s.heap.objs.size) "set" := ⟨_, top, rfl⟩
      have n4 := F.called_set.init.lookup; have n5 := F.called_set.init.bind (.ref s.heap.objs.size)
      repeat (any_goals (first | assumption | wp_step))
      refine codeAny_mono (codeAny_call_builtin (R := wants (fun r t2 => r = .none ∧ ∃ h2 tk c,
          t2 = { s with heap := h2, toks := tk } ∧ SetR w h2 s.heap.objs.size (fun j => decide (j ∈ ms)) c ∧ c ≤ ms.length ∧
          (∀ b o, s.heap.get? b = some o → h2.get? b = some o)) E) F.called_set.init.plain F.entry_set_init
        (check_set_init_1 typ ?_)) fun r2 t2 hr2 => ?_
      · obtain ⟨⟨lc, ld, lt, ls⟩, at0, isl, nl, seq⟩ := lst
        simp only at isl seq
        subst isl; subst seq
        have at1 : (s.heap.push (emSet w)).get? l = some ⟨.type "list", ld, .seq items nl, ls⟩ := Heap.get?_push_of_some _ at0
        have m1 := F.sub_list_set; have m2 := F.sub_list_frozenset
        have m3 : (Value.type "list" == Value.type "dict") = false := by decide
        have lst1 : (s.heap.push (emSet w)).IsList l items := ⟨_, at1, rfl, nl, rfl⟩
        unfold Builtin.«set.__init__» noKeywords
          Builtin.Frozenset.updateFrom
        generalize keep : pyIter = PI
        wp_walk
        subst keep
        refine wpAny_pyIter_list lst1 (wpAny_bind (wpAny_runValue ?_))
        have below : l < s.heap.objs.size := Heap.lt_size at0
        have quiet3 : A.in1.in1.in1.handled = none := by simp [quiet]
        have apart : l ≠ (s.heap.push (emSet w)).objs.size := by
          rw [Heap.size_push]
          exact Nat.ne_of_lt (Nat.lt_succ_of_lt below)
        have notin : s.heap.objs.size ∉ [(s.heap.push (emSet w)).objs.size, l] := by
          rw [Heap.size_push]
          intro z
          rcases List.mem_cons.mp z with z | z
          · exact absurd z (Nat.ne_of_lt (Nat.lt_succ_self _))
          · exact absurd (List.mem_singleton.mp z) (Nat.ne_of_gt below)
        have vals : ∀ (i : Nat) (v : Value), items[i]? = some v → ∃ k t, ms[i]? = some k ∧ v = .int k t := fun i v hv => by
          have lt : i < ms.length := by rw [← sz]; exact (Array.getElem?_eq_some_iff.mp hv).1
          obtain ⟨t, e⟩ := IntsAre.int_at are i v (by rw [Array.getElem?_toList]; exact hv)
          refine ⟨ms[i], t, List.getElem?_eq_getElem lt, ?_⟩
          rw [e, List.getD_eq_getElem?_getD, List.getElem?_eq_getElem lt]
          all_goals rfl
        refine set_update_ints ((Walks.list quiet3 _ l apart items).toS) s.heap.objs.size notin ms sz few vals
          (items.size - 0) 0 _ (by omega) (Nat.zero_le _) ⟨⟨_, Heap.get?_push_size _ rfl, rfl, rfl⟩, (lst1.push _)⟩
          ⟨0, Nat.le_refl 0, setR_new_at (Heap.get?_push_of_some _ top)⟩ ?_
        intro t c2 mv le st
        obtain ⟨h2, g2, d2, k2, o2⟩ := t
        obtain rfl : g2 = s.gens := mv.gens
        obtain rfl : d2 = s.drawn := mv.drawn
        obtain rfl : o2 = s.os := mv.os
        show wpAny _ _ _ _ _ _
        refine wpAny_pure ?_
        show wpAny _ _ (ret Value.none) _ _ _
        rw [sz] at le
        refine wpAny_pure ⟨rfl, h2, k2, c2, rfl, st, le, fun b o e => ?_⟩
        have lt : b < s.heap.objs.size := Heap.lt_size e
        refine mv.heap b o (fun z => ?_) (Heap.get?_push_of_some _ (Heap.get?_push_of_some _ e))
        rcases List.mem_cons.mp z with z | z
        · exact absurd z (Nat.ne_of_lt lt)
        · have z := List.mem_singleton.mp z
          rw [Heap.size_push] at z
          exact absurd z (Nat.ne_of_lt (Nat.lt_succ_of_lt lt))
      · cases r2 with
        | error e => exact hr2
        | ok f2 =>
          cases f2 with
          | ret r =>
            obtain ⟨rfl, h2, tk, c2, rfl, st, le, kp⟩ := hr2
            repeat (any_goals (first | assumption | wp_step))
            exact go _ _ _ st le kp
          | _ => exact hr2.elim
    | _ => exact hr.elim
end
/-- set(list of ints) over the layer -/
def rSetOfI (w : World) (K : PySem.W.Frag) : List V → Hp → VK → Prop := fun xs H Q => ∃ (p : Addr) (ns : List Int), xs = [.ref p] ∧ SqL K H p (ns.map V.int) ∧ ns.length < 60 ∧
  ∀ (q : Addr) (S : Int → Bool) (n : Nat), H q = none → (∀ k, S k = decide (k ∈ ns)) → n ≤ ns.length → Q (.ref q) (upd H q (SetO w q S n))
theorem cr_setL {X : Cx} (hc : X.calm = true) : CallR X (.type "set") (rSetOfI X.w X.K) := by
  intro pins s σ H xs us Q I r h
  obtain ⟨p, ns, rfl, hS, hn, q⟩ := h
  obtain ⟨u, rfl, ru⟩ := vals1 r
  cases ru
  obtain ⟨its, rv, pl, hz⟩ := I.list hS
  refine set_of_list ns (I.ok.hd hc) pl.isList (by simpa using intsAre_of rv) (Nat.lt_of_lt_of_le (show ns.length + 1 < 61 by omega) (by decide)) fun h2 tk c R le kp => ?_
  exact ⟨.ref _, _, I.laid (t' := tk) kp (Nat.le_refl _) (setO_new R), rfl, q _ _ c (I.hok.fresh (Nat.le_refl _)) (fun k => rfl) le⟩
end G

namespace G
open PySem L2

/-! ### data -/
inductive D where
  | non | bl (b : Bool) | int (i : Int) | str (x : Str) | ls (xs : List D) | tp (xs : List D) | ob (c : Nat) (fs : List D)

def D.flat : D → Bool
  | .non => true | .bl _ => true | .int _ => true | .str _ => true | _ => false

structure Cf where
  K : PySem.W.Frag
  Cl : Nat → Addr × List Str
  w : World

mutual
def Rp (C : Cf) (H : Hp) : D → V → Prop
  | .non, v => v = .non
  | .bl b, v => v = .bl b
  | .int i, v => v = .int i
  | .str x, v => v = .str x
  | .ls ds, v => ∃ a xs, v = .ref a ∧ H a = some (.lst xs) ∧ Rps C H ds xs
  | .tp ds, v => ∃ a xs, v = .ref a ∧ SqT C.K H a xs ∧ Rps C H ds xs
  | .ob c ds, v => ∃ a dx xs, v = .ref a ∧ H a = some (.ins (C.Cl c).1 dx ((C.Cl c).2.zip xs)) ∧ xs.length = (C.Cl c).2.length ∧ Rps C H ds xs
def Rps (C : Cf) (H : Hp) : List D → List V → Prop
  | [], vs => vs = []
  | d :: ds, vs => ∃ v r, vs = v :: r ∧ Rp C H d v ∧ Rps C H ds r
end

theorem sqt_mono {K : PySem.W.Frag} {H H' : Hp} {a : Addr} {xs : List V} (e : Same H H') (h : SqT K H a xs) : SqT K H' a xs := by
  rcases h with (h | ⟨o, h⟩) | h
  · exact .inl (.inl (e _ _ h))
  · exact .inl (.inr ⟨o, e _ _ h⟩)
  · exact .inr h

section
variable {C : Cf} {H H' : Hp}
mutual
theorem Rp.mono (e : Same H H') : ∀ {d : D} {v : V}, Rp C H d v → Rp C H' d v
  | .non, _, h => by simpa only [Rp] using h
  | .bl _, _, h => by simpa only [Rp] using h
  | .int _, _, h => by simpa only [Rp] using h
  | .str _, _, h => by simpa only [Rp] using h
  | .ls ds, v, h => by
    simp only [Rp] at h ⊢
    obtain ⟨a, xs, h1, h2, h3⟩ := h
    exact ⟨a, xs, h1, e _ _ h2, Rps.mono e h3⟩
  | .tp ds, v, h => by
    simp only [Rp] at h ⊢
    obtain ⟨a, xs, h1, h2, h3⟩ := h
    exact ⟨a, xs, h1, sqt_mono e h2, Rps.mono e h3⟩
  | .ob c ds, v, h => by
    simp only [Rp] at h ⊢
    obtain ⟨a, dx, xs, h1, h2, h4, h3⟩ := h
    exact ⟨a, dx, xs, h1, e _ _ h2, h4, Rps.mono e h3⟩
theorem Rps.mono (e : Same H H') : ∀ {ds : List D} {vs : List V}, Rps C H ds vs → Rps C H' ds vs
  | [], _, h => by simpa only [Rps] using h
  | d :: ds, vs, h => by
    simp only [Rps] at h ⊢
    obtain ⟨v, r, h1, h2, h3⟩ := h
    exact ⟨v, r, h1, Rp.mono e h2, Rps.mono e h3⟩
end
theorem Rps.len : ∀ {ds : List D} {vs : List V}, Rps C H ds vs → vs.length = ds.length
  | [], _, h => by
    simp only [Rps] at h
    subst h; rfl
  | d :: ds, vs, h => by
    simp only [Rps] at h
    obtain ⟨v, r, rfl, _, h3⟩ := h
    simp [Rps.len h3]
theorem Rps.get : ∀ {ds : List D} {vs : List V} {i : Nat} {d : D}, Rps C H ds vs → ds[i]? = some d → ∃ v, vs[i]? = some v ∧ Rp C H d v
  | [], _, _, _, _, e => by simp at e
  | d :: ds, vs, i, d', h, e => by
    simp only [Rps] at h
    obtain ⟨v, r, rfl, h2, h3⟩ := h
    cases i with
    | zero => simp at e; subst e; exact ⟨v, rfl, h2⟩
    | succ i =>
      obtain ⟨w, e1, e2⟩ := Rps.get (i := i) h3 (by simpa using e)
      exact ⟨w, by simpa using e1, e2⟩
theorem Rps.app : ∀ {ds es : List D} {vs ws : List V}, Rps C H ds vs → Rps C H es ws → Rps C H (ds ++ es) (vs ++ ws)
  | [], _, _, _, h, k => by
    simp only [Rps] at h
    subst h
    exact k
  | d :: ds, es, vs, ws, h, k => by
    simp only [Rps] at h
    obtain ⟨v, r, rfl, h2, h3⟩ := h
    simp only [List.cons_append, Rps]
    exact ⟨v, _, rfl, h2, Rps.app h3 k⟩
theorem Rps.drop : ∀ (n : Nat) {ds : List D} {vs : List V}, Rps C H ds vs → Rps C H (ds.drop n) (vs.drop n)
  | 0, _, _, h => h
  | n + 1, [], vs, h => by
    simp only [Rps] at h
    subst h
    simp [Rps]
  | n + 1, d :: ds, vs, h => by
    simp only [Rps] at h
    obtain ⟨v, r, rfl, h2, h3⟩ := h
    exact Rps.drop n h3
theorem Rps.take : ∀ (n : Nat) {ds : List D} {vs : List V}, Rps C H ds vs → Rps C H (ds.take n) (vs.take n)
  | 0, _, _, h => by simp [Rps]
  | n + 1, [], vs, h => by
    simp only [Rps] at h
    subst h
    simp [Rps]
  | n + 1, d :: ds, vs, h => by
    simp only [Rps] at h
    obtain ⟨v, r, rfl, h2, h3⟩ := h
    simp only [List.take_succ_cons, Rps]
    exact ⟨v, _, rfl, h2, Rps.take n h3⟩
theorem Rps.set : ∀ (j : Nat) {ds : List D} {vs : List V} {d : D} {v : V}, Rps C H ds vs → Rp C H d v → Rps C H (ds.set j d) (vs.set j v)
  | _, [], vs, _, _, h, _ => by
    simp only [Rps] at h
    subst h
    simp [Rps]
  | 0, d :: ds, vs, _, _, h, k => by
    simp only [Rps] at h
    obtain ⟨v, r, rfl, h2, h3⟩ := h
    simp only [List.set_cons_zero, Rps]
    exact ⟨_, _, rfl, k, h3⟩
  | j + 1, d :: ds, vs, _, _, h, k => by
    simp only [Rps] at h
    obtain ⟨v, r, rfl, h2, h3⟩ := h
    simp only [List.set_cons_succ, Rps]
    exact ⟨_, _, rfl, h2, Rps.set j h3 k⟩
theorem Rps.nil : Rps C H [] [] := by simp [Rps]
theorem Rps.cons {d : D} {v : V} {ds : List D} {vs : List V} (h : Rp C H d v) (k : Rps C H ds vs) : Rps C H (d :: ds) (v :: vs) := by
  simp only [Rps]
  exact ⟨_, _, rfl, h, k⟩
theorem Rps.one {d : D} {v : V} (h : Rp C H d v) : Rps C H [d] [v] := .cons h .nil
theorem Rp.flat {d : D} {v : V} (hd : d.flat = true) (h : Rp C H d v) : Rp C H' d v := by
  cases d <;> first | (simpa only [Rp] using h) | (simp [D.flat] at hd)
theorem rp_int {i : Int} {v : V} : Rp C H (.int i) v ↔ v = .int i := by simp only [Rp]
theorem rp_bl {i : Bool} {v : V} : Rp C H (.bl i) v ↔ v = .bl i := by simp only [Rp]
theorem rp_str {i : Str} {v : V} : Rp C H (.str i) v ↔ v = .str i := by simp only [Rp]
theorem rp_non {v : V} : Rp C H .non v ↔ v = .non := by simp only [Rp]
theorem rp_ls {ds : List D} {v : V} : Rp C H (.ls ds) v ↔ ∃ a xs, v = .ref a ∧ H a = some (.lst xs) ∧ Rps C H ds xs := by simp only [Rp]
theorem rp_tp {ds : List D} {v : V} : Rp C H (.tp ds) v ↔ ∃ a xs, v = .ref a ∧ SqT C.K H a xs ∧ Rps C H ds xs := by simp only [Rp]
theorem rp_ob {c : Nat} {ds : List D} {v : V} : Rp C H (.ob c ds) v ↔ ∃ a dx xs, v = .ref a ∧ H a = some (.ins (C.Cl c).1 dx ((C.Cl c).2.zip xs)) ∧ xs.length = (C.Cl c).2.length ∧ Rps C H ds xs := by simp only [Rp]
end

/-! ### equality of data -/
mutual
def D.py : D → PyData
  | .non => .none | .bl b => .bool b | .int i => .int i | .str x => .str x | .ls xs => .list (D.pys xs) | .tp xs => .tuple (D.pys xs) | .ob _ _ => .none
def D.pys : List D → List PyData
  | [] => [] | x :: r => D.py x :: D.pys r
end
mutual
def D.plain : D → Bool
  | .ls xs => D.plains xs | .tp xs => D.plains xs | .ob _ _ => false | _ => true
def D.plains : List D → Bool
  | [] => true | x :: r => D.plain x && D.plains r
end
def D.eqok (d : D) : Bool := d.plain && SeqAt.shaped d.py
def D.eqv (a b : D) : Bool := PyData.eqv a.py b.py
section
variable {C : Cf} {H : Hp}
mutual
theorem Rp.dp : ∀ {d : D} {v : V}, d.plain = true → Rp C H d v → Dp C.K H v d.py
  | .non, _, _, h => by
    rw [rp_non] at h
    subst h
    exact .non
  | .bl _, _, _, h => by
    rw [rp_bl] at h
    subst h
    exact .bl _
  | .int _, _, _, h => by
    rw [rp_int] at h
    subst h
    exact .int _
  | .str _, _, _, h => by
    rw [rp_str] at h
    subst h
    exact .str _
  | .ls ds, v, p, h => by
    rw [rp_ls] at h
    obtain ⟨a, xs, rfl, h2, h3⟩ := h
    exact .lst (SqL.of h2) (Rps.dp p h3)
  | .tp ds, v, p, h => by
    rw [rp_tp] at h
    obtain ⟨a, xs, rfl, h2, h3⟩ := h
    exact .tup h2 (Rps.dp p h3)
  | .ob c ds, v, p, h => by simp [D.plain] at p
theorem Rps.dp : ∀ {ds : List D} {vs : List V}, D.plains ds = true → Rps C H ds vs → DpAll C.K H vs (D.pys ds)
  | [], _, _, h => by
    simp only [Rps] at h
    subst h
    exact .nil
  | d :: ds, vs, p, h => by
    simp only [Rps] at h
    obtain ⟨v, r, rfl, h2, h3⟩ := h
    simp only [D.plains, Bool.and_eq_true] at p
    exact .cons (Rp.dp p.1 h2) (Rps.dp p.2 h3)
end
end

/-! ### regions -/
def Emp : Hp := fun _ => none
def Bn (H0 B : Hp) : Hp := fun p => match H0 p with | none => B p | some _ => none
def Rsd (B0 H0 H : Hp) : Hp := fun p => match B0 p, H0 p with | none, some _ => none | _, _ => H p
def Rg (B0 H0 B H : Hp) (f g : Bool) : Hp := match f, g with
  | true, true => Bn H0 B
  | true, false => B
  | false, true => Bn H0 H
  | false, false => Rsd B0 H0 H
theorem bn_mono {H0 B B' : Hp} (e : Same B B') : Same (Bn H0 B) (Bn H0 B') := fun p o h => by
  unfold Bn at h ⊢
  cases q : H0 p with
  | none => rw [q] at h; exact e _ _ h
  | some u => rw [q] at h; cases h
theorem rsd_mono {B0 H0 B B' : Hp} (e : Same B B') : Same (Rsd B0 H0 B) (Rsd B0 H0 B') := fun p o h => by
  unfold Rsd at h ⊢
  split at h
  · cases h
  · exact e _ _ h
theorem bn_sub {H0 B : Hp} : Same (Bn H0 B) B := fun p o h => by
  unfold Bn at h
  cases q : H0 p with
  | none => rw [q] at h; exact h
  | some u => rw [q] at h; cases h
theorem rsd_sub {B0 H0 H : Hp} : Same (Rsd B0 H0 H) H := fun p o h => by
  unfold Rsd at h
  split at h
  · cases h
  · exact h
theorem bn_rsd {B0 H0 H : Hp} : Same (Bn H0 H) (Rsd B0 H0 H) := fun p o h => by
  unfold Bn at h
  unfold Rsd
  cases q : H0 p with
  | none => rw [q] at h; cases B0 p <;> exact h
  | some u => rw [q] at h; cases h
theorem rg_mono {B0 H0 B B' H H' : Hp} (eb : Same B B') (eh : Same H H') : ∀ f g, Same (Rg B0 H0 B H f g) (Rg B0 H0 B' H' f g)
  | true, true => bn_mono eb
  | true, false => eb
  | false, true => bn_mono eh
  | false, false => rsd_mono eh

/-! ### states -/
inductive Sl where
  | no | sh (d : D) (g : Bool) | ow (ds : List D) (g : Bool) | rg (d : D)

structure Stt (C : Cf) (B0 H0 B H : Hp) (σ : St) (δ : List Sl) : Prop where
  ex0 : Same H0 H
  exb : Same B0 B
  sub : Same B H
  new : ∀ p o, B p = some o → B0 p = some o ∨ H0 p = none
  len : σ.length = δ.length
  shr : ∀ (i : Nat) d g, δ[i]? = some (.sh d g) → ∃ v, σ[i]? = some (some v) ∧ Rp C (Rg B0 H0 B H true g) d v
  own : ∀ (i : Nat) ds g, δ[i]? = some (.ow ds g) → ∃ p vs, σ[i]? = some (some (.ref p)) ∧ H0 p = none ∧ B p = none ∧ H p = some (.lst vs) ∧ Rps C (Rg B0 H0 B H true g) ds vs
  dis : ∀ (i j : Nat) ds g ds' g' p, δ[i]? = some (.ow ds g) → δ[j]? = some (.ow ds' g') → σ[i]? = some (some (.ref p)) → σ[j]? = some (some (.ref p)) → i = j
  rgn : ∀ (i : Nat) d, δ[i]? = some (.rg d) → ∃ v N, σ[i]? = some (some v) ∧ Same N H ∧ (∀ p o, N p = some o → H0 p = none ∧ B p = none ∧ ∀ (j : Nat) ds g, δ[j]? = some (.ow ds g) → σ[j]? ≠ some (some (.ref p))) ∧ Rp C N d v

section
variable {C : Cf} {B0 H0 B H : Hp} {σ : St} {δ : List Sl}
theorem Stt.b_rsd (S : Stt C B0 H0 B H σ δ) : Same B (Rsd B0 H0 H) := fun p o h => by
  unfold Rsd
  rcases S.new p o h with q | q
  · rw [q]; exact S.sub _ _ h
  · rw [q]; cases B0 p <;> exact S.sub _ _ h
theorem Stt.weak (S : Stt C B0 H0 B H σ δ) (f g f' g' : Bool) (hf : f' = true → f = true) (hg : g' = true → g = true) : Same (Rg B0 H0 B H f g) (Rg B0 H0 B H f' g') := by
  cases f' <;> cases g' <;> cases f <;> cases g <;> first
    | exact Same.refl _
    | exact bn_sub
    | exact S.b_rsd
    | exact bn_rsd
    | exact bn_mono S.sub
    | exact Same.trans bn_sub S.b_rsd
    | exact absurd (hf rfl) (by decide)
    | exact absurd (hg rfl) (by decide)
theorem Stt.weakL (S : Stt C B0 H0 B H σ δ) (f g f' g' : Bool) : Same (Rg B0 H0 B H f g) (Rg B0 H0 B H (f && f') (g && g')) :=
  S.weak f g _ _ (fun h => (Bool.and_eq_true_iff.mp h).1) (fun h => (Bool.and_eq_true_iff.mp h).1)
theorem Stt.weakR (S : Stt C B0 H0 B H σ δ) (f g f' g' : Bool) : Same (Rg B0 H0 B H f g) (Rg B0 H0 B H (f' && f) (g' && g)) :=
  S.weak f g _ _ (fun h => (Bool.and_eq_true_iff.mp h).2) (fun h => (Bool.and_eq_true_iff.mp h).2)
theorem Stt.toH (S : Stt C B0 H0 B H σ δ) (f g : Bool) : Same (Rg B0 H0 B H f g) H := by
  cases f <;> cases g
  · exact rsd_sub
  · exact bn_sub
  · exact S.sub
  · exact Same.trans bn_sub S.sub
/-- the heap grows, the base may -/
theorem Stt.grow {B' H' : Hp} (S : Stt C B0 H0 B H σ δ) (eb : Same B B') (eh : Same H H') (sub : Same B' H') (new : ∀ p o, B' p = some o → B p = some o ∨ H p = none) : Stt C B0 H0 B' H' σ δ := by
  have nn : ∀ p, H p = none → H0 p = none := fun p h => S.ex0.free h
  refine ⟨S.ex0.trans eh, S.exb.trans eb, sub, fun p o h => ?_, S.len, fun i d g h => ?_, fun i ds g h => ?_, S.dis, fun i d h => ?_⟩
  · rcases new p o h with q | q
    · exact S.new p o q
    · exact .inr (nn p q)
  · obtain ⟨v, e, r⟩ := S.shr i d g h
    exact ⟨v, e, r.mono (rg_mono eb eh _ _)⟩
  · obtain ⟨p, vs, e, h0, hb, hh, r⟩ := S.own i ds g h
    refine ⟨p, vs, e, h0, ?_, eh _ _ hh, r.mono (rg_mono eb eh _ _)⟩
    cases q : B' p with
    | none => rfl
    | some o =>
      rcases new p o q with z | z
      · rw [hb] at z; cases z
      · rw [hh] at z; cases z
  · obtain ⟨v, N, e, hN, hp, r⟩ := S.rgn i d h
    refine ⟨v, N, e, hN.trans eh, fun p o k => ?_, r⟩
    obtain ⟨k0, kb, ko⟩ := hp p o k
    refine ⟨k0, ?_, ko⟩
    cases q : B' p with
    | none => rfl
    | some o' =>
      rcases new p o' q with z | z
      · rw [kb] at z; cases z
      · rw [hN _ _ k] at z; cases z
theorem same_upd {H : Hp} {p : Addr} {o : HO} (h : H p = none) : Same H (upd H p o) := fun b x e => by
  rw [upd_ne (ne_of_none e h)]
  exact e
/-- a new cell, not of the base -/
theorem Stt.cell {p : Addr} {o : HO} (S : Stt C B0 H0 B H σ δ) (hp : H p = none) : Stt C B0 H0 B (upd H p o) σ δ :=
  S.grow (Same.refl _) (same_upd hp) (S.sub.trans (same_upd hp)) (fun _ _ h => .inl h)
/-- a new cell, of the base -/
theorem Stt.base {p : Addr} {o : HO} (S : Stt C B0 H0 B H σ δ) (hp : H p = none) : Stt C B0 H0 (upd B p o) (upd H p o) σ δ := by
  have hb : B p = none := S.sub.free hp
  refine S.grow (same_upd hb) (same_upd hp) (fun q x h => ?_) (fun q x h => ?_)
  · by_cases e : q = p
    · subst e; rw [upd_same] at h ⊢; exact h
    · rw [upd_ne e] at h ⊢; exact S.sub _ _ h
  · by_cases e : q = p
    · subst e; exact .inr hp
    · rw [upd_ne e] at h; exact .inl h
/-- a cell that stands in the heap comes to the base -/
theorem Stt.alloc {p : Addr} {o : HO} (S : Stt C B0 H0 B H σ δ) (hp : H p = none) (f g : Bool) : ∃ B', Same B B' ∧ Stt C B0 H0 B' (upd H p o) σ δ ∧ (Rg B0 H0 B' (upd H p o) f g) p = some o := by
  have h0 : H0 p = none := S.ex0.free hp
  cases f with
  | true =>
    refine ⟨upd B p o, same_upd (S.sub.free hp), S.base hp, ?_⟩
    cases g
    · exact upd_same
    · show (match H0 p with | none => (upd B p o) p | some _ => none) = some o
      rw [h0]; exact upd_same
  | false =>
    refine ⟨B, Same.refl _, S.cell hp, ?_⟩
    cases g
    · show (match B0 p, H0 p with | none, some _ => none | _, _ => (upd H p o) p) = some o
      rw [h0]; cases B0 p <;> exact upd_same
    · show (match H0 p with | none => (upd H p o) p | some _ => none) = some o
      rw [h0]; exact upd_same
end
end G

namespace G
open PySem L2

/-! ### growing -/
structure Gro (B H B' H' : Hp) : Prop where
  eb : Same B B'
  eh : Same H H'
  nw : ∀ p o, B' p = some o → B p = some o ∨ H p = none
theorem Gro.refl (B H : Hp) : Gro B H B H := ⟨Same.refl _, Same.refl _, fun _ _ h => .inl h⟩
theorem Gro.trans {B H B' H' B2 H2 : Hp} (a : Gro B H B' H') (b : Gro B' H' B2 H2) : Gro B H B2 H2 :=
  ⟨a.eb.trans b.eb, a.eh.trans b.eh, fun p o h => by
    rcases b.nw p o h with q | q
    · exact a.nw p o q
    · exact .inr (a.eh.free q)⟩
section
variable {C : Cf} {B0 H0 B H B' H' : Hp} {σ σ' : St} {δ δ' : List Sl}
theorem Stt.by (S : Stt C B0 H0 B H σ δ) (G : Gro B H B' H') (S' : Stt C B0 H0 B' H' σ' δ') : Stt C B0 H0 B' H' σ δ := S.grow G.eb G.eh S'.sub G.nw
theorem Gro.rg (G : Gro B H B' H') (f g : Bool) : Same (Rg B0 H0 B H f g) (Rg B0 H0 B' H' f g) := rg_mono G.eb G.eh f g
theorem Stt.alloc2 {p : Addr} {o : HO} (S : Stt C B0 H0 B H σ δ) (hp : H p = none) (f g : Bool) : ∃ B', Gro B H B' (upd H p o) ∧ Stt C B0 H0 B' (upd H p o) σ δ ∧ (Rg B0 H0 B' (upd H p o) f g) p = some o := by
  have h0 : H0 p = none := S.ex0.free hp
  cases f with
  | true =>
    refine ⟨upd B p o, ⟨same_upd (S.sub.free hp), same_upd hp, fun q x h => ?_⟩, S.base hp, ?_⟩
    · by_cases e : q = p
      · subst e; exact .inr hp
      · rw [upd_ne e] at h; exact .inl h
    cases g
    · exact upd_same
    · show (match H0 p with | none => (upd B p o) p | some _ => none) = some o
      rw [h0]; exact upd_same
  | false =>
    refine ⟨B, ⟨Same.refl _, same_upd hp, fun _ _ h => .inl h⟩, S.cell hp, ?_⟩
    cases g
    · show (match B0 p, H0 p with | none, some _ => none | _, _ => (upd H p o) p) = some o
      rw [h0]; cases B0 p <;> exact upd_same
    · show (match H0 p with | none => (upd H p o) p | some _ => none) = some o
      rw [h0]; exact upd_same
theorem rg_true (f : Bool) : ∀ {B0 H0 B H H' : Hp}, Rg B0 H0 B H true f = Rg B0 H0 B H' true f := by
  cases f <;> intros <;> rfl
theorem get_set {α : Type} {l : List α} {i j : Nat} {x y : α} (h : (l.set j x)[i]? = some y) : (i = j ∧ y = x ∧ j < l.length) ∨ (i ≠ j ∧ l[i]? = some y) := by
  rw [List.getElem?_set] at h
  by_cases e : j = i
  · rw [if_pos e] at h
    split at h
    · exact .inl ⟨e.symm, (Option.some.inj h).symm, by assumption⟩
    · cases h
  · rw [if_neg e] at h
    exact .inr ⟨fun z => e z.symm, h⟩
theorem set_get {α : Type} {l : List α} {j : Nat} {x : α} (h : j < l.length) : (l.set j x)[j]? = some x := List.getElem?_set_self h
theorem set_ne {α : Type} {l : List α} {i j : Nat} {x : α} (h : i ≠ j) : (l.set j x)[i]? = l[i]? := List.getElem?_set_ne (Ne.symm h)
/-- a slot is stored -/
theorem Stt.setSh {j : Nat} {d : D} {g : Bool} {v : V} (S : Stt C B0 H0 B H σ δ) (r : Rp C (Rg B0 H0 B H true g) d v) : Stt C B0 H0 B H (σ.set j (some v)) (δ.set j (.sh d g)) := by
  refine ⟨S.ex0, S.exb, S.sub, S.new, by simp [S.len], fun i d' g' h => ?_, fun i ds g' h => ?_, fun i k ds g1 ds' g2 p h1 h2 h3 h4 => ?_, fun i d' h => ?_⟩
  · rcases get_set h with ⟨rfl, e, hl⟩ | ⟨ne, h⟩
    · cases e
      exact ⟨v, set_get (by rw [S.len]; exact hl), r⟩
    · rw [set_ne ne]; exact S.shr i d' g' h
  · rcases get_set h with ⟨_, e, _⟩ | ⟨ne, h⟩
    · cases e
    · rw [set_ne ne]; exact S.own i ds g' h
  · rcases get_set h1 with ⟨_, e, _⟩ | ⟨n1, h1⟩
    · cases e
    · rcases get_set h2 with ⟨_, e, _⟩ | ⟨n2, h2⟩
      · cases e
      · rw [set_ne n1] at h3
        rw [set_ne n2] at h4
        exact S.dis i k _ _ _ _ p h1 h2 h3 h4
  · rcases get_set h with ⟨_, e, _⟩ | ⟨ne, h⟩
    · cases e
    · obtain ⟨v', N, e, hN, hp, r'⟩ := S.rgn i d' h
      rw [set_ne ne]
      refine ⟨v', N, e, hN, fun p o k => ⟨(hp p o k).1, (hp p o k).2.1, fun l ds g h1 => ?_⟩, r'⟩
      rcases get_set h1 with ⟨_, e, _⟩ | ⟨nl, h1⟩
      · cases e
      · rw [set_ne nl]; exact (hp p o k).2.2 l ds g h1
theorem Stt.setNo {j : Nat} {x : Option V} (S : Stt C B0 H0 B H σ δ) : Stt C B0 H0 B H (σ.set j x) (δ.set j .no) := by
  refine ⟨S.ex0, S.exb, S.sub, S.new, by simp [S.len], fun i d' g' h => ?_, fun i ds g' h => ?_, fun i k ds g1 ds' g2 p h1 h2 h3 h4 => ?_, fun i d' h => ?_⟩
  · rcases get_set h with ⟨_, e, _⟩ | ⟨ne, h⟩
    · cases e
    · rw [set_ne ne]; exact S.shr i d' g' h
  · rcases get_set h with ⟨_, e, _⟩ | ⟨ne, h⟩
    · cases e
    · rw [set_ne ne]; exact S.own i ds g' h
  · rcases get_set h1 with ⟨_, e, _⟩ | ⟨n1, h1⟩
    · cases e
    · rcases get_set h2 with ⟨_, e, _⟩ | ⟨n2, h2⟩
      · cases e
      · rw [set_ne n1] at h3
        rw [set_ne n2] at h4
        exact S.dis i k _ _ _ _ p h1 h2 h3 h4
  · rcases get_set h with ⟨_, e, _⟩ | ⟨ne, h⟩
    · cases e
    · obtain ⟨v', N, e, hN, hp, r'⟩ := S.rgn i d' h
      rw [set_ne ne]
      refine ⟨v', N, e, hN, fun p o k => ⟨(hp p o k).1, (hp p o k).2.1, fun l ds g h1 => ?_⟩, r'⟩
      rcases get_set h1 with ⟨_, e, _⟩ | ⟨nl, h1⟩
      · cases e
      · rw [set_ne nl]; exact (hp p o k).2.2 l ds g h1
theorem Stt.setOw {j : Nat} {ds : List D} {g : Bool} {p : Addr} {vs : List V} (S : Stt C B0 H0 B H σ δ) (h0 : H0 p = none) (hb : B p = none) (hp : H p = some (.lst vs)) (r : Rps C (Rg B0 H0 B H true g) ds vs)
    (no : ∀ (i : Nat) ds g, δ[i]? = some (.ow ds g) → i ≠ j → σ[i]? ≠ some (some (.ref p)))
    (nr : ∀ (i : Nat) d, δ[i]? = some (.rg d) → ∃ v N, σ[i]? = some (some v) ∧ N p = none ∧ Same N H ∧ (∀ p o, N p = some o → H0 p = none ∧ B p = none ∧ ∀ (j : Nat) ds g, δ[j]? = some (.ow ds g) → σ[j]? ≠ some (some (.ref p))) ∧ Rp C N d v) : Stt C B0 H0 B H (σ.set j (some (.ref p))) (δ.set j (.ow ds g)) := by
  refine ⟨S.ex0, S.exb, S.sub, S.new, by simp [S.len], fun i d' g' h => ?_, fun i ds' g' h => ?_, fun i k ds1 g1 ds2 g2 q h1 h2 h3 h4 => ?_, fun i d' h => ?_⟩
  · rcases get_set h with ⟨_, e, _⟩ | ⟨ne, h⟩
    · cases e
    · rw [set_ne ne]; exact S.shr i d' g' h
  · rcases get_set h with ⟨rfl, e, hl⟩ | ⟨ne, h⟩
    · cases e
      exact ⟨p, vs, set_get (by rw [S.len]; exact hl), h0, hb, hp, r⟩
    · rw [set_ne ne]; exact S.own i ds' g' h
  · rcases get_set h1 with ⟨e1, _, hl⟩ | ⟨n1, k1⟩
    · rw [e1, set_get (by rw [S.len]; exact hl)] at h3
      cases h3
      rcases get_set h2 with ⟨e2, _, _⟩ | ⟨n2, k2⟩
      · rw [e1, e2]
      · rw [set_ne n2] at h4
        exact absurd h4 (no k _ _ k2 n2)
    · rw [set_ne n1] at h3
      rcases get_set h2 with ⟨e2, _, hl⟩ | ⟨n2, k2⟩
      · rw [e2, set_get (by rw [S.len]; exact hl)] at h4
        cases h4
        exact absurd h3 (no i _ _ k1 n1)
      · rw [set_ne n2] at h4
        exact S.dis i k _ _ _ _ q k1 k2 h3 h4
  · rcases get_set h with ⟨_, e, _⟩ | ⟨ne, h⟩
    · cases e
    · obtain ⟨v', N, e, hn, hN, hq, r'⟩ := nr i d' h
      rw [set_ne ne]
      refine ⟨v', N, e, hN, fun q o k => ⟨(hq q o k).1, (hq q o k).2.1, fun l ds' g' h1 => ?_⟩, r'⟩
      rcases get_set h1 with ⟨e1, _, hl⟩ | ⟨nl, h1⟩
      · rw [e1, set_get (by rw [S.len]; exact hl)]
        intro z
        cases z
        rw [hn] at k
        cases k
      · rw [set_ne nl]; exact (hq q o k).2.2 l ds' g' h1
/-- an owned list changes in place -/
theorem Stt.upOw {j : Nat} {ds ds' : List D} {g g' : Bool} {p : Addr} {vs' : List V} (S : Stt C B0 H0 B H σ δ) (h : δ[j]? = some (.ow ds g)) (hv : σ[j]? = some (some (.ref p))) (r : Rps C (Rg B0 H0 B H true g') ds' vs') :
    Stt C B0 H0 B (upd H p (.lst vs')) σ (δ.set j (.ow ds' g')) := by
  obtain ⟨q, vs, e, h0, hb, hp, _⟩ := S.own j ds g h
  rw [hv] at e
  cases e
  refine ⟨fun q x h => ?_, S.exb, fun q x h => ?_, S.new, by simp [S.len], fun i d' g1 h1 => ?_, fun i ds1 g1 h1 => ?_, fun i k ds1 g1 ds2 g2 q h1 h2 h3 h4 => ?_, fun i d' h1 => ?_⟩
  · rw [upd_ne (ne_of_none h h0)]; exact S.ex0 _ _ h
  · rw [upd_ne (ne_of_none h hb)]; exact S.sub _ _ h
  · rcases get_set h1 with ⟨_, e, _⟩ | ⟨ne, h1⟩
    · cases e
    · obtain ⟨v, e, r⟩ := S.shr i d' g1 h1
      exact ⟨v, e, by rw [rg_true g1 (H' := H)]; exact r⟩
  · rcases get_set h1 with ⟨rfl, e, hl⟩ | ⟨ne, h1⟩
    · cases e
      exact ⟨p, vs', hv, h0, hb, upd_same, by rw [rg_true g' (H' := H)]; exact r⟩
    · obtain ⟨q, us, e, q0, qb, qh, r⟩ := S.own i ds1 g1 h1
      have np : q ≠ p := fun z => by
        subst z
        exact ne (S.dis i j _ _ _ _ q h1 h e hv)
      exact ⟨q, us, e, q0, qb, by rw [upd_ne np]; exact qh, by rw [rg_true g1 (H' := H)]; exact r⟩
  · have get : ∀ {i : Nat} {ds1 : List D} {g1 : Bool}, (δ.set j (Sl.ow ds' g'))[i]? = some (.ow ds1 g1) → ∃ ds2 g2, δ[i]? = some (.ow ds2 g2) := fun {i ds1 g1} h1 => by
      rcases get_set h1 with ⟨rfl, _, _⟩ | ⟨_, h1⟩
      · exact ⟨_, _, h⟩
      · exact ⟨_, _, h1⟩
    obtain ⟨_, _, k1⟩ := get h1
    obtain ⟨_, _, k2⟩ := get h2
    exact S.dis i k _ _ _ _ q k1 k2 h3 h4
  · rcases get_set h1 with ⟨_, e, _⟩ | ⟨ne, h1⟩
    · cases e
    · obtain ⟨v', N, e, hN, hq, r'⟩ := S.rgn i d' h1
      refine ⟨v', N, e, fun q o k => ?_, fun q o k => ⟨(hq q o k).1, (hq q o k).2.1, fun l ds1 g1 h2 => ?_⟩, r'⟩
      · have np : q ≠ p := fun z => by
          subst z
          exact (hq q o k).2.2 j _ _ h hv
        rw [upd_ne np]
        exact hN _ _ k
      · rcases get_set h2 with ⟨e1, _, _⟩ | ⟨nl, h2⟩
        · rw [e1]; exact (hq q o k).2.2 j _ _ h
        · exact (hq q o k).2.2 l _ _ h2
/-- an owned list is given to all -/
theorem Stt.freeze {j : Nat} {ds : List D} {g : Bool} (S : Stt C B0 H0 B H σ δ) (h : δ[j]? = some (.ow ds g)) : ∃ B', Same B B' ∧ Stt C B0 H0 B' H σ (δ.set j (.sh (.ls ds) g)) := by
  obtain ⟨p, vs, e, h0, hb, hp, r⟩ := S.own j ds g h
  have S1 : Stt C B0 H0 B H σ (δ.set j .no) := by
    have := S.setNo (j := j) (x := some (.ref p))
    have e2 : σ.set j (some (V.ref p)) = σ := by
      apply List.ext_getElem?
      intro i
      rw [List.getElem?_set]
      by_cases z : j = i
      · subst z
        rw [if_pos rfl, if_pos (List.getElem?_eq_some_iff.mp e).1, e]
      · rw [if_neg z]
    rw [e2] at this
    exact this
  have S2 : Stt C B0 H0 (upd B p (.lst vs)) H σ (δ.set j .no) := by
    have eb : Same B (upd B p (.lst vs)) := same_upd hb
    have no : ∀ (i : Nat) ds' g', (δ.set j Sl.no)[i]? = some (.ow ds' g') → σ[i]? ≠ some (some (.ref p)) := fun i ds' g' h1 h2 => by
      rcases get_set h1 with ⟨_, z, _⟩ | ⟨ne, h1⟩
      · cases z
      · exact ne (S.dis i j _ _ _ _ p h1 h h2 e)
    refine ⟨S1.ex0, S1.exb.trans eb, fun q x h => ?_, fun q x h => ?_, S1.len, fun i d g h => ?_, fun i ds g h => ?_, S1.dis, fun i d' h1 => ?_⟩
    · by_cases e : q = p
      · subst e; rw [upd_same] at h; rw [hp]; exact h
      · rw [upd_ne e] at h; exact S.sub _ _ h
    · by_cases e : q = p
      · subst e; exact .inr h0
      · rw [upd_ne e] at h; exact S.new _ _ h
    · obtain ⟨v, e, r⟩ := S1.shr i d g h
      exact ⟨v, e, r.mono (rg_mono eb (Same.refl _) _ _)⟩
    · obtain ⟨q, us, eq, q0, qb, qh, r⟩ := S1.own i ds g h
      refine ⟨q, us, eq, q0, ?_, qh, r.mono (rg_mono eb (Same.refl _) _ _)⟩
      have ne : q ≠ p := fun z => by
        rw [z] at eq
        exact no i ds g h eq
      rw [upd_ne ne]; exact qb
    · rcases get_set h1 with ⟨_, z, _⟩ | ⟨ne, h1'⟩
      · cases z
      · obtain ⟨v', N, e', hN, hq, r'⟩ := S.rgn i d' h1'
        refine ⟨v', N, e', hN, fun q o k => ⟨(hq q o k).1, ?_, fun l ds1 g1 h2 => ?_⟩, r'⟩
        · have np : q ≠ p := fun z => by
            subst z
            exact (hq q o k).2.2 j _ _ h e
          rw [upd_ne np]
          exact (hq q o k).2.1
        · rcases get_set h2 with ⟨_, z, _⟩ | ⟨_, h2⟩
          · cases z
          · exact (hq q o k).2.2 l _ _ h2
  have eb : Same B (upd B p (.lst vs)) := same_upd hb
  have rr : Rp C (Rg B0 H0 (upd B p (.lst vs)) H true g) (.ls ds) (.ref p) := by
    rw [rp_ls]
    refine ⟨p, vs, rfl, ?_, r.mono (rg_mono eb (Same.refl _) _ _)⟩
    cases g
    · exact upd_same
    · show (match H0 p with | none => (upd B p (.lst vs)) p | some _ => none) = _
      rw [h0]; exact upd_same
  refine ⟨upd B p (.lst vs), eb, ?_⟩
  have S3 := S2.setSh (j := j) rr
  have e2 : σ.set j (some (V.ref p)) = σ := by
    apply List.ext_getElem?
    intro i
    rw [List.getElem?_set]
    by_cases z : j = i
    · subst z
      rw [if_pos rfl, if_pos (List.getElem?_eq_some_iff.mp e).1, e]
    · rw [if_neg z]
  rw [e2, List.set_set] at S3
  exact S3
end

section
variable {C : Cf} {B0 H0 B H : Hp} {σ : St} {δ : List Sl}
theorem Stt.setRg {j : Nat} {d : D} {v : V} {N : Hp} (S : Stt C B0 H0 B H σ δ) (hN : Same N H) (hq : ∀ p o, N p = some o → H0 p = none ∧ B p = none ∧ ∀ (j : Nat) ds g, δ[j]? = some (.ow ds g) → σ[j]? ≠ some (some (.ref p))) (r : Rp C N d v) :
    Stt C B0 H0 B H (σ.set j (some v)) (δ.set j (.rg d)) := by
  refine ⟨S.ex0, S.exb, S.sub, S.new, by simp [S.len], fun i d' g' h => ?_, fun i ds g' h => ?_, fun i k ds g1 ds' g2 p h1 h2 h3 h4 => ?_, fun i d' h => ?_⟩
  · rcases get_set h with ⟨_, e, _⟩ | ⟨ne, h⟩
    · cases e
    · rw [set_ne ne]; exact S.shr i d' g' h
  · rcases get_set h with ⟨_, e, _⟩ | ⟨ne, h⟩
    · cases e
    · rw [set_ne ne]; exact S.own i ds g' h
  · rcases get_set h1 with ⟨_, e, _⟩ | ⟨n1, h1⟩
    · cases e
    · rcases get_set h2 with ⟨_, e, _⟩ | ⟨n2, h2⟩
      · cases e
      · rw [set_ne n1] at h3
        rw [set_ne n2] at h4
        exact S.dis i k _ _ _ _ p h1 h2 h3 h4
  · have lift : ∀ {N : Hp}, (∀ p o, N p = some o → H0 p = none ∧ B p = none ∧ ∀ (j : Nat) ds g, δ[j]? = some (.ow ds g) → σ[j]? ≠ some (some (.ref p))) →
        ∀ p o, N p = some o → H0 p = none ∧ B p = none ∧ ∀ (k : Nat) ds g, (δ.set j (.rg d))[k]? = some (.ow ds g) → (σ.set j (some v))[k]? ≠ some (some (.ref p)) := fun {N} hq p o k => by
      refine ⟨(hq p o k).1, (hq p o k).2.1, fun l ds g h1 => ?_⟩
      rcases get_set h1 with ⟨_, e, _⟩ | ⟨nl, h1⟩
      · cases e
      · rw [set_ne nl]; exact (hq p o k).2.2 l ds g h1
    rcases get_set h with ⟨e0, e, hl⟩ | ⟨ne, h⟩
    · cases e
      rw [e0]
      exact ⟨v, N, set_get (by rw [S.len]; exact hl), hN, lift hq, r⟩
    · obtain ⟨v', N', e, hN', hq', r'⟩ := S.rgn i d' h
      rw [set_ne ne]
      exact ⟨v', N', e, hN', lift hq', r'⟩
def noRg : Sl → Sl
  | .rg _ => .no
  | s => s
/-- a cell of a region changes: the regions are given up -/
theorem Stt.spoil {p : Addr} {o : HO} (S : Stt C B0 H0 B H σ δ) (h0 : H0 p = none) (hb : B p = none) (no : ∀ (i : Nat) ds g, δ[i]? = some (.ow ds g) → σ[i]? ≠ some (some (.ref p))) : Stt C B0 H0 B (upd H p o) σ (δ.map noRg) := by
  have back : ∀ {i : Nat} {s : Sl}, (δ.map noRg)[i]? = some s → s ≠ .no → δ[i]? = some s ∧ ∀ d, s ≠ .rg d := fun {i s} h n => by
    rw [List.getElem?_map] at h
    cases e : δ[i]? with
    | none => rw [e] at h; cases h
    | some t =>
      rw [e] at h
      simp only [Option.map_some, Option.some.injEq] at h
      cases t with
      | rg d => exact absurd h.symm n
      | no => exact absurd h.symm n
      | sh d g => subst h; exact ⟨rfl, fun d => Sl.noConfusion⟩
      | ow d g => subst h; exact ⟨rfl, fun d => Sl.noConfusion⟩
  refine ⟨fun q x h => ?_, S.exb, fun q x h => ?_, S.new, by simp [S.len], fun i d g h => ?_, fun i ds g h => ?_, fun i k ds g1 ds' g2 q h1 h2 h3 h4 => ?_, fun i d h => ?_⟩
  · rw [upd_ne (ne_of_none h h0)]; exact S.ex0 _ _ h
  · rw [upd_ne (ne_of_none h hb)]; exact S.sub _ _ h
  · obtain ⟨v, e, r⟩ := S.shr i d g (back h Sl.noConfusion).1
    exact ⟨v, e, by rw [rg_true g (H' := H)]; exact r⟩
  · have h1 := (back h Sl.noConfusion).1
    obtain ⟨q, vs, e, q0, qb, qh, r⟩ := S.own i ds g h1
    have ne : q ≠ p := fun z => by subst z; exact no i ds g h1 e
    exact ⟨q, vs, e, q0, qb, by rw [upd_ne ne]; exact qh, by rw [rg_true g (H' := H)]; exact r⟩
  · exact S.dis i k _ _ _ _ q (back h1 Sl.noConfusion).1 (back h2 Sl.noConfusion).1 h3 h4
  · exact absurd rfl ((back h Sl.noConfusion).2 d)
end
/-! ### targets -/
inductive Tg where
  | nm (j : Nat) | t2 (a b : Tg) | t3 (a b c : Tg)
def Tg.sl : Tg → List Nat
  | .nm j => [j] | .t2 a b => a.sl ++ b.sl | .t3 a b c => a.sl ++ (b.sl ++ c.sl)
def Tg.rd (K : PySem.W.Frag) : Tg → TG
  | .nm j => gName j
  | .t2 a b => gTup K 2 (gCons (a.rd K) (gCons (b.rd K) gNil))
  | .t3 a b c => gTup K 3 (gCons (a.rd K) (gCons (b.rd K) (gCons (c.rd K) gNil)))
def Tg.run (g : Bool) : Tg → D → List Sl → Option (List Sl)
  | .nm j, d, δ => some (δ.set j (.sh d g))
  | .t2 a b, .tp [x, y], δ => match a.run g x δ with
    | some δ1 => b.run g y δ1
    | none => none
  | .t3 a b c, .tp [x, y, z], δ => match a.run g x δ with
    | some δ1 => match b.run g y δ1 with
      | some δ2 => c.run g z δ2
      | none => none
    | none => none
  | _, _, _ => none
theorem wipe_set {σ : St} {x : Option V} {j : Nat} : ∀ {vs : List Nat}, j ∈ vs → wipe (σ.set j x) vs = wipe σ vs
  | v :: vs, h => by
    unfold wipe
    by_cases e : j = v
    · subst e
      by_cases k : j ∈ vs
      · rw [wipe_set k]
      · have : ∀ (us : List Nat), j ∉ us → wipe (σ.set j x) us = (wipe σ us).set j x := by
          intro us
          induction us with
          | nil => intro _; rfl
          | cons u us ih =>
            intro k
            have k1 : j ≠ u := fun z => k (by simp [z])
            have k2 : j ∉ us := fun z => k (by simp [z])
            unfold wipe
            rw [ih k2, List.set_comm _ _ k1]
        rw [this vs k, List.set_set]
    · have k : j ∈ vs := by
        rcases List.mem_cons.mp h with z | z
        · exact absurd z e
        · exact z
      rw [wipe_set k]
section
variable {C : Cf} {B0 H0 B H : Hp} {σ : St} {δ δ' : List Sl}
theorem Tg.ok (g : Bool) : ∀ (t : Tg) (d : D) {v : V} {σ : St} {δ δ' : List Sl}, Stt C B0 H0 B H σ δ → Rp C (Rg B0 H0 B H true g) d v → t.run g d δ = some δ' → ∀ {Q : St → Hp → Prop},
    (∀ σ', Stt C B0 H0 B H σ' δ' → (∀ vs, (∀ j ∈ t.sl, j ∈ vs) → wipe σ' vs = wipe σ vs) → Q σ' H) → t.rd C.K v σ H Q
  | .nm j, d, v, σ, δ, δ', S, r, e, Q, q => by
    simp only [Tg.run, Option.some.injEq] at e
    subst e
    exact q _ (S.setSh r) fun vs hv => wipe_set (hv j (by simp [Tg.sl]))
  | .t2 a b, d, v, σ, δ, δ', S, r, e, Q, q => by
    cases d with
    | tp xs =>
      rcases xs with _ | ⟨x, _ | ⟨y, _ | ⟨z, xs⟩⟩⟩
      · simp [Tg.run] at e
      · simp [Tg.run] at e
      · simp only [Tg.run] at e
        rw [rp_tp] at r
        obtain ⟨p, xs, rfl, h1, h2⟩ := r
        simp only [Rps] at h2
        obtain ⟨v1, _, rfl, r1, v2, _, rfl, r2, rfl⟩ := h2
        split at e
        · rename_i δ1 e1
          refine ⟨p, [v1, v2], rfl, sqt_mono (S.toH true g) h1, rfl, v1, [v2], rfl, ?_⟩
          refine Tg.ok g a x S r1 e1 fun σ1 S1 w1 => ?_
          refine ⟨v2, [], rfl, ?_⟩
          refine Tg.ok g b y S1 r2 e fun σ2 S2 w2 => ?_
          refine ⟨rfl, q σ2 S2 fun vs hv => ?_⟩
          rw [w2 vs fun j hj => hv j (by simp [Tg.sl, hj]), w1 vs fun j hj => hv j (by simp [Tg.sl, hj])]
        · cases e
      · simp [Tg.run] at e
    | _ => simp [Tg.run] at e
  | .t3 a b c, d, v, σ, δ, δ', S, r, e, Q, q => by
    cases d with
    | tp xs =>
      rcases xs with _ | ⟨x, _ | ⟨y, _ | ⟨z, _ | ⟨u, xs⟩⟩⟩⟩
      · simp [Tg.run] at e
      · simp [Tg.run] at e
      · simp [Tg.run] at e
      · simp only [Tg.run] at e
        rw [rp_tp] at r
        obtain ⟨p, xs, rfl, h1, h2⟩ := r
        simp only [Rps] at h2
        obtain ⟨v1, _, rfl, r1, v2, _, rfl, r2, v3, _, rfl, r3, rfl⟩ := h2
        split at e
        · rename_i δ1 e1
          split at e
          · rename_i δ2 e2
            refine ⟨p, [v1, v2, v3], rfl, sqt_mono (S.toH true g) h1, rfl, v1, [v2, v3], rfl, ?_⟩
            refine Tg.ok g a x S r1 e1 fun σ1 S1 w1 => ?_
            refine ⟨v2, [v3], rfl, ?_⟩
            refine Tg.ok g b y S1 r2 e2 fun σ2 S2 w2 => ?_
            refine ⟨v3, [], rfl, ?_⟩
            refine Tg.ok g c z S2 r3 e fun σ3 S3 w3 => ?_
            refine ⟨rfl, q σ3 S3 fun vs hv => ?_⟩
            rw [w3 vs fun j hj => hv j (by simp [Tg.sl, hj]), w2 vs fun j hj => hv j (by simp [Tg.sl, hj]), w1 vs fun j hj => hv j (by simp [Tg.sl, hj])]
          · cases e
        · cases e
      · simp [Tg.run] at e
    | _ => simp [Tg.run] at e
def wipeD (δ : List Sl) : List Nat → List Sl
  | [] => δ
  | v :: vs => (wipeD δ vs).set v .no
theorem Stt.wipe (S : Stt C B0 H0 B H σ δ) : ∀ vs : List Nat, Stt C B0 H0 B H (L2.wipe σ vs) (wipeD δ vs)
  | [] => S
  | v :: vs => by
    unfold L2.wipe wipeD
    exact (S.wipe vs).setNo
theorem wipe_wipe (σ : St) (vs : List Nat) : L2.wipe (L2.wipe σ vs) vs = L2.wipe σ vs := by
  have : ∀ (us ws : List Nat), (∀ j ∈ us, j ∈ ws) → L2.wipe (L2.wipe σ us) ws = L2.wipe σ ws := by
    intro us
    induction us with
    | nil => intro ws _; rfl
    | cons u us ih =>
      intro ws h
      show L2.wipe ((L2.wipe σ us).set u none) ws = _
      rw [wipe_set (h u (by simp)), ih ws fun j hj => h j (by simp [hj])]
  exact this vs vs fun _ h => h
end
end G

namespace G
open PySem L2

/-! ### the language -/
inductive Ty5 where
  | int | bool | str | list | tuple
def Ty5.nm : Ty5 → String
  | .int => "int" | .bool => "bool" | .str => "str" | .list => "list" | .tuple => "tuple"
def isT : Ty5 → D → Option Bool
  | _, .ob _ _ => none
  | .int, .int _ => some true
  | .int, .bl _ => some true
  | .bool, .bl _ => some true
  | .str, .str _ => some true
  | .list, .ls _ => some true
  | .tuple, .tp _ => some true
  | _, _ => some false
inductive Bo where
  | add | sub | mul | mod | fdiv | pow | shr
def mulok (i j : Int) : Bool := decide (i.natAbs < 18446744073709551616) || decide (j.natAbs < 18446744073709551616) || decide (i.natAbs.log2 + j.natAbs.log2 < 100000000)
def CMulX (i j : Int) : Prop := mulok i j = true
def Bo.run : Bo → Int → Int → Option Int
  | .add, i, j => some (i + j)
  | .sub, i, j => some (i - j)
  | .mul, i, j => if mulok i j = true then some (i * j) else none
  | .mod, i, j => if 0 < j then some (i % j) else none
  | .fdiv, i, j => if 0 < j ∧ j < 1073741824 then some (i / j) else none
  | .pow, i, j => if 0 ≤ j ∧ j ≤ 1000000 ∧ i.natAbs < 2 ^ 64 then some (i ^ j.toNat) else none
  | .shr, i, j => if 0 ≤ j then some (i / 2 ^ j.toNat) else none
def Bo.r : Bo → R2
  | .add => rI0 fun i j => .int (i + j)
  | .sub => rI0 fun i j => .int (i - j)
  | .mul => rI CMulX fun i j => .int (i * j)
  | .mod => rI (fun _ j => 0 < j) fun i j => .int (i % j)
  | .fdiv => rI CDiv fun i j => .int (i / j)
  | .pow => rI CPow fun i j => .int (i ^ j.toNat)
  | .shr => rI (fun _ j => 0 ≤ j) fun i j => .int (i / 2 ^ j.toNat)
inductive Co where
  | lt | le | gt | ge
def Co.f : Co → Int → Int → Bool
  | .lt, i, j => decide (i < j)
  | .le, i, j => decide (i ≤ j)
  | .gt, i, j => decide (j < i)
  | .ge, i, j => decide (j ≤ i)
def Co.r : Co → R2
  | .lt => rI0 fun i j => .bl (decide (i < j))
  | .le => rI0 fun i j => .bl (decide (i ≤ j))
  | .gt => rI0 fun i j => .bl (decide (j < i))
  | .ge => rI0 fun i j => .bl (decide (j ≤ i))

inductive E where
  | nil | cons (a r : E)
  | var (i : Nat) | int (n : Int) | str (x : Str) | bl (b : Bool) | non | kon (k : Nat)
  | bin (o : Bo) (a b : E) | cat (a b : E) | rep (a b : E) | neg (a : E) | not (a : E)
  | eq (a b : E) | ne (a b : E) | cmp (o : Co) (a b : E) | chn (o o' : Co) (a b c : E) | isb (a b : E) | isnb (a b : E)
  | and (a b : E) | or (a b : E) | ite (c a b : E)
  | ix (a b : E) | oix (i : Nat) (b : E) | sl (a lo hi : E)
  | tup (es : E) | lst (es : E)
  | len (a : E) | isI (t : Ty5) (a : E) | toL (a : E) | all (a : E) | any (a : E) | cnt (a b : E) | min2 (a b : E) | max2 (a b : E) | sum (a : E) | srt (a : E)
  | call (k : Nat) (es : E)
  | itL (a : E) | itT (a : E) | itR (a : E) | itR2 (a b : E) | itZ (a b : E) | itE (a : E)
  | lc (t : Tg) (it e : E) | lcf (t : Tg) (it c e : E)

/-- what may be asked as a test -/
def isTst : E → Bool
  | .not a => isTst a
  | .and a b => isTst a && isTst b
  | .or a b => isTst a && isTst b
  | .var _ => true | .bl _ => true | .eq _ _ => true | .ne _ _ => true | .cmp _ _ _ => true | .chn _ _ _ _ _ => true | .isb _ _ => true | .isnb _ _ => true | .isI _ _ => true | .all _ => true | .any _ => true | .call _ _ => true
  | _ => false
structure Fd where
  ar : Nat
  fr : Bool
  run : List D → Option D
structure Ga where
  fs : List Fd
  ks : List (V × D)
abbrev Rs := D × Bool × Bool

/-! ### values -/
def intsOf : List D → Option (List Int)
  | [] => some []
  | .int i :: r => match intsOf r with
    | some ns => some (i :: ns)
    | none => none
  | _ => none
def blsOf : List D → Option (List Bool)
  | [] => some []
  | .bl i :: r => match blsOf r with
    | some ns => some (i :: ns)
    | none => none
  | _ => none
def cutD {α : Type} (xs : List α) (lo hi : Option Int) : List α := (xs.drop (HT.sIx xs.length 0 lo)).take (HT.sIx xs.length xs.length hi - HT.sIx xs.length 0 lo)
def rngD (lo : Int) (n : Nat) : List D := (List.range n).map fun (k : Nat) => D.int (lo + (k : Int))
def zipD : List D → List D → List D
  | x :: xs, y :: ys => .tp [x, y] :: zipD xs ys
  | _, _ => []
def enumD : Nat → List D → List D
  | _, [] => []
  | n, x :: xs => .tp [.int (n : Int), x] :: enumD (n + 1) xs
def insU (x : Int) : List Int → List Int
  | [] => [x]
  | y :: r => if x < y then x :: y :: r else if x = y then y :: r else y :: insU x r
def sdd (ns : List Int) : List Int := ns.foldr insU []
def flats (ds : List D) : Bool := ds.all D.flat
def tst : Option Rs → Option Bool
  | some (.bl b, _, _) => some b
  | _ => none
def lcRun (t : Tg) (g : Bool) (cf : List Sl → Option Bool) (ef : List Sl → Option Rs) (δ : List Sl) : List D → Option (List D × Bool)
  | [] => some ([], true)
  | d :: r => match t.run g d δ with
    | none => none
    | some δ2 => match cf δ2 with
      | none => none
      | some false => lcRun t g cf ef δ r
      | some true => match ef δ2 with
        | some (y, true, gy) => match lcRun t g cf ef δ r with
          | some (ys, gs) => some (y :: ys, gy && gs)
          | none => none
        | _ => none

mutual
def eval (Γ : Ga) : E → List Sl → Option Rs
  | .var i, δ => match δ[i]? with
    | some (.sh d g) => some (d, true, g)
    | some (.ow ds g) => some (.ls ds, false, g)
    | some (.rg d) => some (d, false, true)
    | _ => none
  | .int n, _ => some (.int n, true, true)
  | .str x, _ => some (.str x, true, true)
  | .bl b, _ => some (.bl b, true, true)
  | .non, _ => some (.non, true, true)
  | .kon k, _ => match Γ.ks[k]? with
    | some (_, d) => some (d, true, true)
    | none => none
  | .bin o a b, δ => match eval Γ a δ with
    | some (.int i, _, _) => match eval Γ b δ with
      | some (.int j, _, _) => match o.run i j with
        | some z => some (.int z, true, true)
        | none => none
      | _ => none
    | _ => none
  | .cat a b, δ => match eval Γ a δ with
    | some (.ls xs, f, g) => match eval Γ b δ with
      | some (.ls ys, f', g') => if xs.length + ys.length ≤ 100000 then some (.ls (xs ++ ys), (f && f') || flats (xs ++ ys), g && g') else none
      | _ => none
    | _ => none
  | .rep a b, δ => match eval Γ a δ with
    | some (.ls xs, f, g) => match eval Γ b δ with
      | some (.int k, _, _) => if 0 ≤ k ∧ k ≤ 1000 ∧ xs.length ≤ 1000 then some (.ls (List.replicate k.toNat xs).flatten, f || flats (List.replicate k.toNat xs).flatten, g) else none
      | _ => none
    | _ => none
  | .neg a, δ => match eval Γ a δ with
    | some (.int i, _, _) => some (.int (-i), true, true)
    | _ => none
  | .not a, δ => match eval Γ a δ with
    | some (.bl b, _, _) => some (.bl (!b), true, true)
    | _ => none
  | .eq a b, δ => match eval Γ a δ with
    | some (x, _, _) => match eval Γ b δ with
      | some (y, _, _) => if (x.eqok && y.eqok) = true then some (.bl (x.eqv y), true, true) else none
      | none => none
    | none => none
  | .ne a b, δ => match eval Γ a δ with
    | some (x, _, _) => match eval Γ b δ with
      | some (y, _, _) => if (x.eqok && y.eqok) = true then some (.bl (!x.eqv y), true, true) else none
      | none => none
    | none => none
  | .cmp o a b, δ => match eval Γ a δ with
    | some (.int i, _, _) => match eval Γ b δ with
      | some (.int j, _, _) => some (.bl (o.f i j), true, true)
      | _ => none
    | _ => none
  | .chn o o' a b c, δ => match eval Γ a δ with
    | some (.int i, _, _) => match eval Γ b δ with
      | some (.int j, _, _) => if o.f i j = true then (match eval Γ c δ with
        | some (.int k, _, _) => some (.bl (o'.f j k), true, true)
        | _ => none) else some (.bl false, true, true)
      | _ => none
    | _ => none
  | .isb a b, δ => match eval Γ a δ with
    | some (.bl i, _, _) => match eval Γ b δ with
      | some (.bl j, _, _) => some (.bl (decide (i = j)), true, true)
      | _ => none
    | _ => none
  | .isnb a b, δ => match eval Γ a δ with
    | some (.bl i, _, _) => match eval Γ b δ with
      | some (.bl j, _, _) => some (.bl (!decide (i = j)), true, true)
      | _ => none
    | _ => none
  | .and a b, δ => match eval Γ a δ with
    | some (.bl true, _, _) => eval Γ b δ
    | some (.bl false, _, _) => some (.bl false, true, true)
    | _ => none
  | .or a b, δ => match eval Γ a δ with
    | some (.bl false, _, _) => eval Γ b δ
    | some (.bl true, _, _) => some (.bl true, true, true)
    | _ => none
  | .ite c a b, δ => if isTst c = true then (match eval Γ c δ with
    | some (.bl true, _, _) => eval Γ a δ
    | some (.bl false, _, _) => eval Γ b δ
    | _ => none) else none
  | .ix a b, δ => match eval Γ a δ with
    | some (.ls xs, f, g) => match eval Γ b δ with
      | some (.int i, _, _) => match atI xs i with
        | some d => some (d, f, g)
        | none => none
      | _ => none
    | some (.tp xs, f, g) => match eval Γ b δ with
      | some (.int i, _, _) => match atI xs i with
        | some d => some (d, f, g)
        | none => none
      | _ => none
    | _ => none
  | .oix i b, δ => match δ[i]? with
    | some (.ow xs g) => match eval Γ b δ with
      | some (.int i, _, _) => match atI xs i with
        | some d => some (d, true, g)
        | none => none
      | _ => none
    | _ => none
  | .sl a lo hi, δ => match eval Γ a δ with
    | some (.ls xs, f, g) => match evalO Γ lo δ with
      | some l => match evalO Γ hi δ with
        | some h => some (.ls (cutD xs l h), f || flats (cutD xs l h), g)
        | none => none
      | none => none
    | _ => none
  | .tup es, δ => match evalA Γ es δ with
    | some (ds, f, g) => if ds.length ≤ 1000 then some (.tp ds, f, g) else none
    | none => none
  | .lst es, δ => match evalA Γ es δ with
    | some (ds, f, g) => if ds.length ≤ 1000 then some (.ls ds, f, g) else none
    | none => none
  | .len a, δ => match eval Γ a δ with
    | some (.ls xs, _, _) => some (.int (xs.length : Int), true, true)
    | some (.tp xs, _, _) => some (.int (xs.length : Int), true, true)
    | _ => none
  | .isI t a, δ => match eval Γ a δ with
    | some (d, _, _) => match isT t d with
      | some b => some (.bl b, true, true)
      | none => none
    | none => none
  | .toL a, δ => match eval Γ a δ with
    | some (.ls xs, f, g) => some (.ls xs, f || flats xs, g)
    | some (.tp xs, f, g) => some (.ls xs, f || flats xs, g)
    | _ => none
  | .all a, δ => match eval Γ a δ with
    | some (.ls xs, _, _) => match blsOf xs with
      | some bs => some (.bl (bs.all id), true, true)
      | none => none
    | _ => none
  | .any a, δ => match eval Γ a δ with
    | some (.ls xs, _, _) => match blsOf xs with
      | some bs => some (.bl (bs.any id), true, true)
      | none => none
    | _ => none
  | .cnt a b, δ => match eval Γ a δ with
    | some (.ls xs, _, _) => match eval Γ b δ with
      | some (.int k, _, _) => match intsOf xs with
        | some ns => some (.int ((ns.count k : Nat) : Int), true, true)
        | none => none
      | _ => none
    | _ => none
  | .min2 a b, δ => match eval Γ a δ with
    | some (.int i, _, _) => match eval Γ b δ with
      | some (.int j, _, _) => some (.int (if j < i then j else i), true, true)
      | _ => none
    | _ => none
  | .max2 a b, δ => match eval Γ a δ with
    | some (.int i, _, _) => match eval Γ b δ with
      | some (.int j, _, _) => some (.int (if j > i then j else i), true, true)
      | _ => none
    | _ => none
  | .sum a, δ => match eval Γ a δ with
    | some (.ls xs, _, _) => match intsOf xs with
      | some ns => some (.int ns.sum, true, true)
      | none => none
    | _ => none
  | .srt a, δ => match eval Γ a δ with
    | some (.ls xs, _, _) => match intsOf xs with
      | some ns => if ns.length < 60 then some (.ls ((sdd ns).map D.int), true, true) else none
      | none => none
    | _ => none
  | .call k es, δ => match Γ.fs[k]? with
    | some F => match evalA Γ es δ with
      | some (ds, f, _) => if ds.length = F.ar then (match F.run ds with
        | some d => some (d, F.fr || f || d.flat, F.fr || d.flat)
        | none => none) else none
      | none => none
    | none => none
  | .lc t it e, δ => match evalI Γ it δ with
    | some (ds, g) => if ds.length ≤ 50000 then (match lcRun t g (fun _ => some true) (fun δ2 => eval Γ e δ2) (wipeD δ t.sl) ds with
      | some (ys, gs) => some (.ls ys, true, gs)
      | none => none) else none
    | none => none
  | .lcf t it c e, δ => match evalI Γ it δ with
    | some (ds, g) => if ds.length ≤ 50000 ∧ isTst c = true then (match lcRun t g (fun δ2 => tst (eval Γ c δ2)) (fun δ2 => eval Γ e δ2) (wipeD δ t.sl) ds with
      | some (ys, gs) => some (.ls ys, true, gs)
      | none => none) else none
    | none => none
  | _, _ => none
def evalA (Γ : Ga) : E → List Sl → Option (List D × Bool × Bool)
  | .nil, _ => some ([], true, true)
  | .cons a r, δ => match eval Γ a δ with
    | some (d, f, g) => match evalA Γ r δ with
      | some (ds, f', g') => some (d :: ds, f && f', g && g')
      | none => none
    | none => none
  | _, _ => none
def evalO (Γ : Ga) : E → List Sl → Option (Option Int)
  | .nil, _ => some none
  | .cons a .nil, δ => match eval Γ a δ with
    | some (.int i, _, _) => some (some i)
    | _ => none
  | _, _ => none
def evalI (Γ : Ga) : E → List Sl → Option (List D × Bool)
  | .itL a, δ => match eval Γ a δ with
    | some (.ls ds, true, g) => some (ds, g)
    | _ => none
  | .itT a, δ => match eval Γ a δ with
    | some (.tp ds, true, g) => some (ds, g)
    | _ => none
  | .itR a, δ => match eval Γ a δ with
    | some (.int n, _, _) => if -1000000 ≤ n ∧ n ≤ 1000000 then some (rngD 0 n.toNat, true) else none
    | _ => none
  | .itR2 a b, δ => match eval Γ a δ with
    | some (.int m, _, _) => match eval Γ b δ with
      | some (.int n, _, _) => if -1000000 ≤ m ∧ m ≤ 1000000 ∧ -1000000 ≤ n ∧ n ≤ 1000000 then some (rngD m (n - m).toNat, true) else none
      | _ => none
    | _ => none
  | .itZ a b, δ => match eval Γ a δ with
    | some (.ls xs, true, g) => match eval Γ b δ with
      | some (.ls ys, true, g') => some (zipD xs ys, g && g')
      | _ => none
    | _ => none
  | .itE a, δ => match eval Γ a δ with
    | some (.ls xs, true, g) => some (enumD 0 xs, g)
    | _ => none
  | _, _ => none
end

/-! ### readings -/
def spOf (C : Cf) (F : Fd) : Sp := fun vs H Q _ => ∃ B ds d, Same B H ∧ Rps C B ds vs ∧ ds.length = F.ar ∧ F.run ds = some d ∧ ∀ v H', Same H H' → Rp C (Rsd (if F.fr = true then Emp else B) H H') d v → Q v H'
def rLenS (K : PySem.W.Frag) : List V → Hp → VK → Prop := fun xs H Q => ∃ p ys, xs = [.ref p] ∧ (SqL K H p ys ∨ SqT K H p ys) ∧ Q (.int ys.length) H
def rListS (K : PySem.W.Frag) : List V → Hp → VK → Prop := fun xs H Q => ∃ p ys, xs = [.ref p] ∧ (SqL K H p ys ∨ SqT K H p ys) ∧ ∀ l, H l = none → Q (.ref l) (upd H l (.lst ys))
def rMax2 : List V → Hp → VK → Prop := fun xs H Q => ∃ i j, xs = [.int i, .int j] ∧ Q (.int (if j > i then j else i)) H
def rMin2 : List V → Hp → VK → Prop := fun xs H Q => ∃ i j, xs = [.int i, .int j] ∧ Q (.int (if j < i then j else i)) H
def tFalse {α : Type} : St → Hp → α → Prop := fun _ _ _ => False
mutual
def rd (C : Cf) (Γ : Ga) : E → TE
  | .var i => tVar i
  | .int n => tC (.int n)
  | .str x => tC (.str x)
  | .bl b => tC (.bl b)
  | .non => tC .non
  | .kon k => tC (match Γ.ks[k]? with | some (v, _) => v | none => .non)
  | .bin o a b => tOp o.r (rd C Γ a) (rd C Γ b)
  | .cat a b => tOp rCat (rd C Γ a) (rd C Γ b)
  | .rep a b => tOp rRep (rd C Γ a) (rd C Γ b)
  | .neg a => tUn (rU fun i => .int (-i)) (rd C Γ a)
  | .not a => tNotV (rd C Γ a)
  | .eq a b => tOp (rEqD C.K) (rd C Γ a) (rd C Γ b)
  | .ne a b => tOp (rNeD C.K) (rd C Γ a) (rd C Γ b)
  | .cmp o a b => tOp o.r (rd C Γ a) (rd C Γ b)
  | .chn o o' a b c => tChain o.r o'.r (rd C Γ a) (rd C Γ b) (rd C Γ c)
  | .isb a b => tOp rIsB (rd C Γ a) (rd C Γ b)
  | .isnb a b => tOp rNotB (rd C Γ a) (rd C Γ b)
  | .and a b => tAndV (rd C Γ a) (rd C Γ b)
  | .or a b => tOrV (rd C Γ a) (rd C Γ b)
  | .ite c a b => tIf (rdT C Γ c) (rd C Γ a) (rd C Γ b)
  | .ix a b => tOp (rIx C.K) (rd C Γ a) (rd C Γ b)
  | .oix i b => tOp (rIx C.K) (tVar i) (rd C Γ b)
  | .sl a lo hi => tSl (rSlL C.K) (rd C Γ a) (rdO C Γ lo) (rdO C Γ hi)
  | .tup es => tTup (rdA C Γ es)
  | .lst es => tLst (rdA C Γ es)
  | .len a => tCB (rLenS C.K) (tCons (rd C Γ a) tNil)
  | .isI t a => tCB (rIsi C.K) (tCons (rd C Γ a) (tCons (tC (.ty t.nm)) tNil))
  | .toL a => tCB (rListS C.K) (tCons (rd C Γ a) tNil)
  | .all a => tCB (rAll C.K) (tCons (rd C Γ a) tNil)
  | .any a => tCB (rAny C.K) (tCons (rd C Γ a) tNil)
  | .cnt a b => tBM C.K "list" (rCntI C.K) (rd C Γ a) (tCons (rd C Γ b) tNil)
  | .min2 a b => tCB rMin2 (tCons (rd C Γ a) (tCons (rd C Γ b) tNil))
  | .max2 a b => tCB rMax2 (tCons (rd C Γ a) (tCons (rd C Γ b) tNil))
  | .sum a => tCB (rSum C.K) (tCons (rd C Γ a) tNil)
  | .srt a => tCB (rSortedSet C.w) (tCons (tCB (rSetOfI C.w C.K) (tCons (rd C Γ a) tNil)) tNil)
  | .call k es => match Γ.fs[k]? with
    | some F => tCall (spOf C F) [] E0 (rdA C Γ es)
    | none => tFalse
  | .lc t it e => tLc (rdI C Γ it) (t.rd C.K) tYes (rd C Γ e) t.sl
  | .lcf t it c e => tLc (rdI C Γ it) (t.rd C.K) (rdT C Γ c) (rd C Γ e) t.sl
  | _ => tFalse
def rdA (C : Cf) (Γ : Ga) : E → TA
  | .nil => tNil
  | .cons a r => tCons (rd C Γ a) (rdA C Γ r)
  | _ => tFalse
def rdO (C : Cf) (Γ : Ga) : E → TO
  | .nil => tNoPart
  | .cons a _ => tPart (rd C Γ a)
  | _ => tFalse
def rdT (C : Cf) (Γ : Ga) : E → TT
  | .not a => tNot (rdT C Γ a)
  | .and a b => tAnd (rdT C Γ a) (rdT C Γ b)
  | .or a b => tOr (rdT C Γ a) (rdT C Γ b)
  | .var i => tB (tVar i)
  | .bl b => tB (tC (.bl b))
  | .eq a b => tB (tOp (rEqD C.K) (rd C Γ a) (rd C Γ b))
  | .ne a b => tB (tOp (rNeD C.K) (rd C Γ a) (rd C Γ b))
  | .cmp o a b => tB (tOp o.r (rd C Γ a) (rd C Γ b))
  | .chn o o' a b c => tB (tChain o.r o'.r (rd C Γ a) (rd C Γ b) (rd C Γ c))
  | .isb a b => tB (tOp rIsB (rd C Γ a) (rd C Γ b))
  | .isnb a b => tB (tOp rNotB (rd C Γ a) (rd C Γ b))
  | .isI t a => tB (tCB (rIsi C.K) (tCons (rd C Γ a) (tCons (tC (.ty t.nm)) tNil)))
  | .all a => tB (tCB (rAll C.K) (tCons (rd C Γ a) tNil))
  | .any a => tB (tCB (rAny C.K) (tCons (rd C Γ a) tNil))
  | .call k es => tB (match Γ.fs[k]? with
    | some F => tCall (spOf C F) [] E0 (rdA C Γ es)
    | none => tFalse)
  | _ => tFalse
def rdI (C : Cf) (Γ : Ga) : E → TI
  | .itL a => iList C.K (rd C Γ a)
  | .itT a => iTup C.K (rd C Γ a)
  | .itR a => iRng1 (tCons (rd C Γ a) tNil)
  | .itR2 a b => iRng2 (tCons (rd C Γ a) (tCons (rd C Γ b) tNil))
  | .itZ a b => iZip C.K (tCons (rd C Γ a) (tCons (rd C Γ b) tNil))
  | .itE a => iEnum C.K (tCons (rd C Γ a) tNil)
  | _ => tFalse
end
end G

namespace G
open PySem L2
section
variable (C : Cf) (B0 H0 : Hp)
def EvOk (te : TE) (δ : List Sl) (r : Rs) : Prop := ∀ B H σ, Stt C B0 H0 B H σ δ → ∀ Q : VK, (∀ v B' H', Gro B H B' H' → Stt C B0 H0 B' H' σ δ → Rp C (Rg B0 H0 B' H' r.2.1 r.2.2) r.1 v → Q v H') → te σ H Q
def ArOk (ta : TA) (δ : List Sl) (r : List D × Bool × Bool) : Prop := ∀ B H σ, Stt C B0 H0 B H σ δ → ∀ Q : List V → Hp → Prop, (∀ vs B' H', Gro B H B' H' → Stt C B0 H0 B' H' σ δ → Rps C (Rg B0 H0 B' H' r.2.1 r.2.2) r.1 vs → Q vs H') → ta σ H Q
def TtOk (tt : TT) (δ : List Sl) (b : Bool) : Prop := ∀ B H σ, Stt C B0 H0 B H σ δ → ∀ Q : Bool → Hp → Prop, (∀ B' H', Gro B H B' H' → Stt C B0 H0 B' H' σ δ → Q b H') → tt σ H Q
def PoOk (to : TO) (δ : List Sl) (o : Option Int) : Prop := ∀ B H σ, Stt C B0 H0 B H σ δ → ∀ Q : Option Int → Hp → Prop, (∀ B' H', Gro B H B' H' → Stt C B0 H0 B' H' σ δ → Q o H') → to σ H Q
def NwOk (te : TE) (δ : List Sl) (ds : List D) (f g : Bool) : Prop := ∀ B H σ, Stt C B0 H0 B H σ δ → ∀ Q : VK, (∀ p vs B' H', Gro B H B' H' → Stt C B0 H0 B' H' σ δ → H p = none → B' p = none → H' p = some (.lst vs) → Rps C (Rg B0 H0 B' H' f g) ds vs → Q (.ref p) H') → te σ H Q
def WkOk (J : It) (ds : List D) (g : Bool) (B1 : Hp) : Prop := ∃ (Gd : Hp → Prop) (Y : Nat → Hp → V → Hp → Prop), Walk J ds.length Gd Y ∧ (∀ B' H' σ' δ', Same B1 B' → Stt C B0 H0 B' H' σ' δ' → Gd H') ∧
  ∀ (i : Nat) H' x H2 B' σ' δ', i < ds.length → Same B1 B' → Stt C B0 H0 B' H' σ' δ' → Y i H' x H2 → ∃ d B2, ds[i]? = some d ∧ Gro B' H' B2 H2 ∧ Stt C B0 H0 B2 H2 σ' δ' ∧ Rp C (Rg B0 H0 B2 H2 true g) d x
def ItOk (wi : TI) (δ : List Sl) (r : List D × Bool) : Prop := ∀ B H σ, Stt C B0 H0 B H σ δ → ∀ R : It → Hp → Prop, (∀ J B' H', Gro B H B' H' → Stt C B0 H0 B' H' σ δ → WkOk C B0 H0 J r.1 r.2 B' → R J H') → wi σ H R
end
section
variable {C : Cf} {B0 H0 : Hp} {δ : List Sl} {ta tb tc te : TE}
theorem NwOk.ev {ds : List D} {f g : Bool} (h : NwOk C B0 H0 te δ ds f g) : EvOk C B0 H0 te δ (.ls ds, f, g) := by
  intro B H σ S Q q
  refine h B H σ S Q fun p vs B' H' G S' hp hb hh r => ?_
  have h0 : H0 p = none := S.ex0.free hp
  cases f with
  | true =>
    have nw : ∀ z o, (upd B' p (.lst vs)) z = some o → B z = some o ∨ H z = none := fun z o k => by
      by_cases e : z = p
      · subst e; exact .inr hp
      · rw [upd_ne e] at k; exact G.nw z o k
    refine q _ (upd B' p (.lst vs)) H' ⟨G.eb.trans (same_upd hb), G.eh, nw⟩ (S.grow (G.eb.trans (same_upd hb)) G.eh (fun z o k => ?_) nw) ?_
    · by_cases e : z = p
      · subst e; rw [upd_same] at k; rw [hh]; exact k
      · rw [upd_ne e] at k; exact S'.sub _ _ k
    · show Rp C (Rg B0 H0 (upd B' p (.lst vs)) H' true g) (.ls ds) (.ref p)
      rw [rp_ls]
      refine ⟨p, vs, rfl, ?_, r.mono (rg_mono (same_upd hb) (Same.refl _) _ _)⟩
      cases g
      · exact upd_same
      · show (match H0 p with | none => (upd B' p (.lst vs)) p | some _ => none) = _
        rw [h0]; exact upd_same
  | false =>
    refine q _ B' H' G S' ?_
    show Rp C (Rg B0 H0 B' H' false g) (.ls ds) (.ref p)
    rw [rp_ls]
    refine ⟨p, vs, rfl, ?_, r⟩
    cases g
    · show (match B0 p, H0 p with | none, some _ => none | _, _ => H' p) = _
      rw [h0]; cases B0 p <;> exact hh
    · show (match H0 p with | none => H' p | some _ => none) = _
      rw [h0]; exact hh
theorem rps_flat {H H' : Hp} : ∀ {ds : List D} {vs : List V}, flats ds = true → Rps C H ds vs → Rps C H' ds vs
  | [], _, _, h => by simpa only [Rps] using h
  | d :: ds, vs, e, h => by
    simp only [flats, List.all_cons, Bool.and_eq_true] at e
    simp only [Rps] at h ⊢
    obtain ⟨v, r, h1, h2, h3⟩ := h
    exact ⟨v, r, h1, h2.flat e.1, rps_flat e.2 h3⟩
theorem NwOk.up {ds : List D} {f g : Bool} (h : NwOk C B0 H0 te δ ds f g) : NwOk C B0 H0 te δ ds (f || flats ds) g := by
  cases e : flats ds with
  | false => rw [Bool.or_false]; exact h
  | true =>
    rw [Bool.or_true]
    intro B H σ S Q q
    exact h B H σ S Q fun p vs B' H' G S' hp hb hh r => q p vs B' H' G S' hp hb hh (rps_flat e r)
/-- what a rule lays at any free place is a new list -/
theorem nw_of {ds : List D} {f g : Bool} {B H : Hp} {σ : St} {vs : List V} (S : Stt C B0 H0 B H σ δ) (r : Rps C (Rg B0 H0 B H f g) ds vs) {B1 H1 : Hp} (G : Gro B1 H1 B H) {Q : VK}
    (q : ∀ p vs B' H', Gro B1 H1 B' H' → Stt C B0 H0 B' H' σ δ → H1 p = none → B' p = none → H' p = some (.lst vs) → Rps C (Rg B0 H0 B' H' f g) ds vs → Q (.ref p) H') : ∀ p, H p = none → Q (.ref p) (upd H p (.lst vs)) := fun p hp =>
  q p vs B (upd H p (.lst vs)) ⟨G.eb, G.eh.trans (same_upd hp), G.nw⟩ (S.cell hp) (G.eh.free hp) (S.sub.free hp) upd_same (r.mono (rg_mono (Same.refl _) (same_upd hp) _ _))
theorem ev_c {d : D} {v : V} (r : Rp C Emp d v) : EvOk C B0 H0 (tC v) δ (d, true, true) := fun B H σ S Q q =>
  q v B H (Gro.refl _ _) S (r.mono fun _ _ h => by cases h)
theorem ev_sh {i : Nat} {d : D} {g : Bool} (h : δ[i]? = some (.sh d g)) : EvOk C B0 H0 (tVar i) δ (d, true, g) := fun B H σ S Q q => by
  obtain ⟨v, e, r⟩ := S.shr i d g h
  exact ⟨v, e, q v B H (Gro.refl _ _) S r⟩
theorem ev_ow {i : Nat} {ds : List D} {g : Bool} (h : δ[i]? = some (.ow ds g)) : EvOk C B0 H0 (tVar i) δ (.ls ds, false, g) := fun B H σ S Q q => by
  obtain ⟨p, vs, e, h0, hb, hh, r⟩ := S.own i ds g h
  refine ⟨.ref p, e, q _ B H (Gro.refl _ _) S ?_⟩
  show Rp C (Rg B0 H0 B H false g) (.ls ds) (.ref p)
  rw [rp_ls]
  refine ⟨p, vs, rfl, ?_, r.mono (S.weak true g false g (fun h => by cases h) id)⟩
  cases g
  · show (match B0 p, H0 p with | none, some _ => none | _, _ => H p) = _
    rw [h0]; cases B0 p <;> exact hh
  · show (match H0 p with | none => H p | some _ => none) = _
    rw [h0]; exact hh
theorem ev_rg {i : Nat} {d : D} (h : δ[i]? = some (.rg d)) : EvOk C B0 H0 (tVar i) δ (d, false, true) := fun B H σ S Q q => by
  obtain ⟨v, N, e, hN, hq, r⟩ := S.rgn i d h
  refine ⟨v, e, q v B H (Gro.refl _ _) S (r.mono fun p o k => ?_)⟩
  show (match H0 p with | none => H p | some _ => none) = some o
  rw [(hq p o k).1]
  exact hN _ _ k
/-- two operands -/
theorem ev_two {r : R2} {x y : D} {f g f' g' : Bool} (ha : EvOk C B0 H0 ta δ (x, f, g)) (hb : EvOk C B0 H0 tb δ (y, f', g')) {B H : Hp} {σ : St} (S : Stt C B0 H0 B H σ δ) {Q : VK}
    (k : ∀ v u B' H', Gro B H B' H' → Stt C B0 H0 B' H' σ δ → Rp C (Rg B0 H0 B' H' f g) x v → Rp C (Rg B0 H0 B' H' f' g') y u → r v u H' Q) : tOp r ta tb σ H Q :=
  ha B H σ S _ fun v B1 H1 G1 S1 r1 => hb B1 H1 σ S1 _ fun u B2 H2 G2 S2 r2 => k v u B2 H2 (G1.trans G2) S2 (r1.mono (G2.rg _ _)) r2
/-- two operands, a flat value that is made of them without a change -/
theorem ev_flat2 {r : R2} {x y z : D} {zv : V} {f g f' g' : Bool} (ha : EvOk C B0 H0 ta δ (x, f, g)) (hb : EvOk C B0 H0 tb δ (y, f', g')) (hz : Rp C Emp z zv)
    (k : ∀ v u H (Q : VK), Rp C H x v → Rp C H y u → Q zv H → r v u H Q) : EvOk C B0 H0 (tOp r ta tb) δ (z, true, true) := fun B H σ S Q q =>
  ev_two ha hb S fun v u B' H' G' S' r1 r2 => k v u H' Q (r1.mono (S'.toH _ _)) (r2.mono (S'.toH _ _)) (q zv B' H' G' S' (hz.mono fun _ _ h => by cases h))
theorem emp_int (i : Int) : Rp C Emp (.int i) (.int i) := by rw [rp_int]
theorem emp_bl (i : Bool) : Rp C Emp (.bl i) (.bl i) := by rw [rp_bl]
theorem emp_str (i : Str) : Rp C Emp (.str i) (.str i) := by rw [rp_str]
theorem emp_non : Rp C Emp .non .non := by rw [rp_non]
theorem bo_ok {o : Bo} {i j z : Int} (h : o.run i j = some z) {H : Hp} {Q : VK} (q : Q (.int z) H) : o.r (.int i) (.int j) H Q := by
  cases o <;> simp only [Bo.run] at h
  · cases h; exact ⟨i, j, rfl, rfl, q⟩
  · cases h; exact ⟨i, j, rfl, rfl, q⟩
  · split at h
    · cases h; exact ⟨i, j, rfl, rfl, (by assumption), q⟩
    · cases h
  · split at h
    · cases h; exact ⟨i, j, rfl, rfl, (by assumption), q⟩
    · cases h
  · split at h
    · cases h; exact ⟨i, j, rfl, rfl, (by assumption), q⟩
    · cases h
  · split at h
    · cases h; exact ⟨i, j, rfl, rfl, (by assumption), q⟩
    · cases h
  · split at h
    · cases h; exact ⟨i, j, rfl, rfl, (by assumption), q⟩
    · cases h
theorem co_ok {o : Co} {i j : Int} {H : Hp} {Q : VK} (q : Q (.bl (o.f i j)) H) : o.r (.int i) (.int j) H Q := by
  cases o <;> exact ⟨i, j, rfl, rfl, q⟩
theorem ev_bin {o : Bo} {i j z : Int} {f g f' g' : Bool} (ha : EvOk C B0 H0 ta δ (.int i, f, g)) (hb : EvOk C B0 H0 tb δ (.int j, f', g')) (h : o.run i j = some z) : EvOk C B0 H0 (tOp o.r ta tb) δ (.int z, true, true) :=
  ev_flat2 ha hb (emp_int z) fun v u H Q r1 r2 q => by
    rw [rp_int] at r1 r2
    subst r1 r2
    exact bo_ok h q
theorem ev_cmp {o : Co} {i j : Int} {f g f' g' : Bool} (ha : EvOk C B0 H0 ta δ (.int i, f, g)) (hb : EvOk C B0 H0 tb δ (.int j, f', g')) : EvOk C B0 H0 (tOp o.r ta tb) δ (.bl (o.f i j), true, true) :=
  ev_flat2 ha hb (emp_bl _) fun v u H Q r1 r2 q => by
    rw [rp_int] at r1 r2
    subst r1 r2
    exact co_ok q
theorem ev_eq {x y : D} {f g f' g' : Bool} (ha : EvOk C B0 H0 ta δ (x, f, g)) (hb : EvOk C B0 H0 tb δ (y, f', g')) (h : (x.eqok && y.eqok) = true) : EvOk C B0 H0 (tOp (rEqD C.K) ta tb) δ (.bl (x.eqv y), true, true) :=
  ev_flat2 ha hb (emp_bl _) fun v u H Q r1 r2 q => by
    rw [Bool.and_eq_true] at h
    obtain ⟨h1, h2⟩ := h
    simp only [D.eqok, Bool.and_eq_true] at h1 h2
    exact ⟨x.py, y.py, r1.dp h1.1, r2.dp h2.1, h1.2, h2.2, q⟩
theorem ev_ne {x y : D} {f g f' g' : Bool} (ha : EvOk C B0 H0 ta δ (x, f, g)) (hb : EvOk C B0 H0 tb δ (y, f', g')) (h : (x.eqok && y.eqok) = true) : EvOk C B0 H0 (tOp (rNeD C.K) ta tb) δ (.bl (!x.eqv y), true, true) :=
  ev_flat2 ha hb (emp_bl _) fun v u H Q r1 r2 q => by
    rw [Bool.and_eq_true] at h
    obtain ⟨h1, h2⟩ := h
    simp only [D.eqok, Bool.and_eq_true] at h1 h2
    exact ⟨x.py, y.py, r1.dp h1.1, r2.dp h2.1, h1.2, h2.2, q⟩
theorem ev_isb {i j : Bool} {f g f' g' : Bool} (ha : EvOk C B0 H0 ta δ (.bl i, f, g)) (hb : EvOk C B0 H0 tb δ (.bl j, f', g')) : EvOk C B0 H0 (tOp rIsB ta tb) δ (.bl (decide (i = j)), true, true) :=
  ev_flat2 ha hb (emp_bl _) fun v u H Q r1 r2 q => by
    rw [rp_bl] at r1 r2
    subst r1 r2
    exact ⟨i, j, rfl, rfl, q⟩
theorem ev_isnb {i j : Bool} {f g f' g' : Bool} (ha : EvOk C B0 H0 ta δ (.bl i, f, g)) (hb : EvOk C B0 H0 tb δ (.bl j, f', g')) : EvOk C B0 H0 (tOp rNotB ta tb) δ (.bl (!decide (i = j)), true, true) :=
  ev_flat2 ha hb (emp_bl _) fun v u H Q r1 r2 q => by
    rw [rp_bl] at r1 r2
    subst r1 r2
    exact ⟨i, j, rfl, rfl, q⟩
theorem sz_of {n : Nat} (h : n ≤ 1000000) : n ≤ sizeLine := Nat.le_trans h (by decide)
theorem nw_cat {xs ys : List D} {f g f' g' : Bool} (ha : EvOk C B0 H0 ta δ (.ls xs, f, g)) (hb : EvOk C B0 H0 tb δ (.ls ys, f', g')) (h : xs.length + ys.length ≤ 100000) : NwOk C B0 H0 (tOp rCat ta tb) δ (xs ++ ys) (f && f') (g && g') := fun B H σ S Q q =>
  ev_two ha hb S fun v u B' H' G' S' r1 r2 => by
    rw [rp_ls] at r1 r2
    obtain ⟨a, vs, rfl, h1, k1⟩ := r1
    obtain ⟨b, us, rfl, h2, k2⟩ := r2
    refine ⟨a, b, vs, us, rfl, rfl, S'.toH _ _ _ _ h1, S'.toH _ _ _ _ h2, sz_of (by rw [k1.len, k2.len]; omega), nw_of S' ?_ G' q⟩
    exact (k1.mono (S'.weakL f g f' g')).app (k2.mono (S'.weakR f' g' f g))
theorem rps_rep {H : Hp} {ds : List D} {vs : List V} (r : Rps C H ds vs) : ∀ n : Nat, Rps C H (List.replicate n ds).flatten (List.replicate n vs).flatten
  | 0 => by simp [Rps]
  | n + 1 => by
    rw [List.replicate_succ, List.replicate_succ, List.flatten_cons, List.flatten_cons]
    exact r.app (rps_rep r n)
theorem nw_rep {xs : List D} {k : Int} {f g f' g' : Bool} (ha : EvOk C B0 H0 ta δ (.ls xs, f, g)) (hb : EvOk C B0 H0 tb δ (.int k, f', g')) (h : 0 ≤ k ∧ k ≤ 1000 ∧ xs.length ≤ 1000) : NwOk C B0 H0 (tOp rRep ta tb) δ (List.replicate k.toNat xs).flatten f g := fun B H σ S Q q =>
  ev_two ha hb S fun v u B' H' G' S' r1 r2 => by
    rw [rp_ls] at r1
    rw [rp_int] at r2
    subst r2
    obtain ⟨a, vs, rfl, h1, k1⟩ := r1
    refine ⟨a, k, vs, rfl, rfl, S'.toH _ _ _ _ h1, by omega, by omega, sz_of ?_, nw_of S' (rps_rep k1 _) G' q⟩
    have e1 : k.toNat ≤ 1000 := by omega
    have e2 : vs.length ≤ 1000 := by rw [k1.len]; omega
    exact Nat.le_trans (Nat.mul_le_mul e2 e1) (by decide)
theorem ev_neg {i : Int} {f g : Bool} (ha : EvOk C B0 H0 ta δ (.int i, f, g)) : EvOk C B0 H0 (tUn (rU fun i => .int (-i)) ta) δ (.int (-i), true, true) := fun B H σ S Q q =>
  ha B H σ S _ fun v B1 H1 G1 S1 r1 => by
    rw [rp_int] at r1
    subst r1
    exact ⟨i, rfl, q _ B1 H1 G1 S1 ((emp_int _).mono fun _ _ h => by cases h)⟩
theorem rp_emp {H : Hp} {d : D} {v : V} (h : Rp C Emp d v) : Rp C H d v := h.mono fun _ _ h => by cases h
theorem ev_not {b : Bool} {f g : Bool} (ha : EvOk C B0 H0 ta δ (.bl b, f, g)) : EvOk C B0 H0 (tNotV ta) δ (.bl (!b), true, true) := fun B H σ S Q q =>
  ha B H σ S _ fun v B1 H1 G1 S1 r1 => by
    rw [rp_bl] at r1
    subst r1
    exact ⟨b, rfl, q _ B1 H1 G1 S1 (rp_emp (emp_bl _))⟩
theorem ev_chn1 {o o' : Co} {i j k : Int} {f g f' g' f2 g2 : Bool} (ha : EvOk C B0 H0 ta δ (.int i, f, g)) (hb : EvOk C B0 H0 tb δ (.int j, f', g')) (hc : EvOk C B0 H0 tc δ (.int k, f2, g2)) (h : o.f i j = true) : EvOk C B0 H0 (tChain o.r o'.r ta tb tc) δ (.bl (o'.f j k), true, true) := fun B H σ S Q q =>
  ha B H σ S _ fun v B1 H1 G1 S1 r1 => hb B1 H1 σ S1 _ fun u B2 H2 G2 S2 r2 => by
    rw [rp_int] at r1 r2
    subst r1 r2
    refine co_ok ⟨true, by rw [h], ?_⟩
    rw [if_pos rfl]
    refine hc B2 H2 σ S2 _ fun w B3 H3 G3 S3 r3 => ?_
    rw [rp_int] at r3
    subst r3
    exact co_ok (q _ B3 H3 ((G1.trans G2).trans G3) S3 (rp_emp (emp_bl _)))
theorem ev_chn0 {o o' : Co} {i j : Int} {f g f' g' : Bool} (ha : EvOk C B0 H0 ta δ (.int i, f, g)) (hb : EvOk C B0 H0 tb δ (.int j, f', g')) (h : ¬ o.f i j = true) : EvOk C B0 H0 (tChain o.r o'.r ta tb tc) δ (.bl false, true, true) := fun B H σ S Q q =>
  ha B H σ S _ fun v B1 H1 G1 S1 r1 => hb B1 H1 σ S1 _ fun u B2 H2 G2 S2 r2 => by
    rw [rp_int] at r1 r2
    subst r1 r2
    refine co_ok ⟨false, by rw [Bool.eq_false_iff.mpr h], ?_⟩
    rw [if_neg Bool.false_ne_true]
    exact q _ B2 H2 (G1.trans G2) S2 (rp_emp (emp_bl _))
theorem ev_and1 {r : Rs} {f g : Bool} (ha : EvOk C B0 H0 ta δ (.bl true, f, g)) (hb : EvOk C B0 H0 tb δ r) : EvOk C B0 H0 (tAndV ta tb) δ r := fun B H σ S Q q =>
  ha B H σ S _ fun v B1 H1 G1 S1 r1 => by
    rw [rp_bl] at r1
    subst r1
    refine ⟨true, rfl, ?_⟩
    rw [if_pos rfl]
    exact hb B1 H1 σ S1 _ fun v B2 H2 G2 S2 r2 => q v B2 H2 (G1.trans G2) S2 r2
theorem ev_and0 {f g : Bool} (ha : EvOk C B0 H0 ta δ (.bl false, f, g)) : EvOk C B0 H0 (tAndV ta tb) δ (.bl false, true, true) := fun B H σ S Q q =>
  ha B H σ S _ fun v B1 H1 G1 S1 r1 => by
    rw [rp_bl] at r1
    subst r1
    refine ⟨false, rfl, ?_⟩
    rw [if_neg Bool.false_ne_true]
    exact q _ B1 H1 G1 S1 (rp_emp (emp_bl _))
theorem ev_or0 {r : Rs} {f g : Bool} (ha : EvOk C B0 H0 ta δ (.bl false, f, g)) (hb : EvOk C B0 H0 tb δ r) : EvOk C B0 H0 (tOrV ta tb) δ r := fun B H σ S Q q =>
  ha B H σ S _ fun v B1 H1 G1 S1 r1 => by
    rw [rp_bl] at r1
    subst r1
    refine ⟨false, rfl, ?_⟩
    rw [if_neg Bool.false_ne_true]
    exact hb B1 H1 σ S1 _ fun v B2 H2 G2 S2 r2 => q v B2 H2 (G1.trans G2) S2 r2
theorem ev_or1 {f g : Bool} (ha : EvOk C B0 H0 ta δ (.bl true, f, g)) : EvOk C B0 H0 (tOrV ta tb) δ (.bl true, true, true) := fun B H σ S Q q =>
  ha B H σ S _ fun v B1 H1 G1 S1 r1 => by
    rw [rp_bl] at r1
    subst r1
    refine ⟨true, rfl, ?_⟩
    rw [if_pos rfl]
    exact q _ B1 H1 G1 S1 (rp_emp (emp_bl _))
theorem ev_ite1 {r : Rs} {t : TT} (ht : TtOk C B0 H0 t δ true) (ha : EvOk C B0 H0 ta δ r) : EvOk C B0 H0 (tIf t ta tb) δ r := fun B H σ S Q q =>
  ht B H σ S _ fun B1 H1 G1 S1 => by
    rw [if_pos rfl]
    exact ha B1 H1 σ S1 _ fun v B2 H2 G2 S2 r2 => q v B2 H2 (G1.trans G2) S2 r2
theorem ev_ite0 {r : Rs} {t : TT} (ht : TtOk C B0 H0 t δ false) (hb : EvOk C B0 H0 tb δ r) : EvOk C B0 H0 (tIf t ta tb) δ r := fun B H σ S Q q =>
  ht B H σ S _ fun B1 H1 G1 S1 => by
    rw [if_neg Bool.false_ne_true]
    exact hb B1 H1 σ S1 _ fun v B2 H2 G2 S2 r2 => q v B2 H2 (G1.trans G2) S2 r2
theorem atI_rps {H : Hp} {ds : List D} {vs : List V} {i : Int} {d : D} (r : Rps C H ds vs) (h : atI ds i = some d) : ∃ v, atI vs i = some v ∧ Rp C H d v := by
  unfold atI at h ⊢
  rw [r.len]
  cases e : ixN ds.length i with
  | none => rw [e] at h; cases h
  | some j =>
    rw [e] at h
    exact r.get (i := j) h
theorem ev_ixL {xs : List D} {i : Int} {d : D} {f g f' g' : Bool} (ha : EvOk C B0 H0 ta δ (.ls xs, f, g)) (hb : EvOk C B0 H0 tb δ (.int i, f', g')) (h : atI xs i = some d) : EvOk C B0 H0 (tOp (rIx C.K) ta tb) δ (d, f, g) := fun B H σ S Q q =>
  ev_two ha hb S fun v u B' H' G' S' r1 r2 => by
    rw [rp_ls] at r1
    rw [rp_int] at r2
    subst r2
    obtain ⟨a, vs, rfl, h1, k1⟩ := r1
    obtain ⟨v, e, r⟩ := atI_rps k1 h
    exact .inl ⟨a, vs, i, v, rfl, rfl, SqL.of (S'.toH _ _ _ _ h1), e, q v B' H' G' S' r⟩
theorem ev_ixT {xs : List D} {i : Int} {d : D} {f g f' g' : Bool} (ha : EvOk C B0 H0 ta δ (.tp xs, f, g)) (hb : EvOk C B0 H0 tb δ (.int i, f', g')) (h : atI xs i = some d) : EvOk C B0 H0 (tOp (rIx C.K) ta tb) δ (d, f, g) := fun B H σ S Q q =>
  ev_two ha hb S fun v u B' H' G' S' r1 r2 => by
    rw [rp_tp] at r1
    rw [rp_int] at r2
    subst r2
    obtain ⟨a, vs, rfl, h1, k1⟩ := r1
    obtain ⟨v, e, r⟩ := atI_rps k1 h
    exact .inr (.inl ⟨a, vs, i, v, rfl, rfl, sqt_mono (S'.toH _ _) h1, e, q v B' H' G' S' r⟩)
theorem ev_oix {j : Nat} {xs : List D} {i : Int} {d : D} {g f' g' : Bool} (hj : δ[j]? = some (.ow xs g)) (hb : EvOk C B0 H0 tb δ (.int i, f', g')) (h : atI xs i = some d) : EvOk C B0 H0 (tOp (rIx C.K) (tVar j) tb) δ (d, true, g) := fun B H σ S Q q => by
  obtain ⟨p, vs, e, h0, hb0, hh, r⟩ := S.own j xs g hj
  refine ⟨.ref p, e, ?_⟩
  refine hb B H σ S _ fun u B' H' G' S' r2 => ?_
  rw [rp_int] at r2
  subst r2
  obtain ⟨v, e, r⟩ := atI_rps (r.mono (G'.rg true g)) h
  exact .inl ⟨p, vs, i, v, rfl, rfl, SqL.of (G'.eh _ _ hh), e, q v B' H' G' S' r⟩
theorem rps_cut {H : Hp} {ds : List D} {vs : List V} (r : Rps C H ds vs) (lo hi : Option Int) : Rps C H (cutD ds lo hi) (cutV vs lo hi) := by
  unfold cutD cutV
  rw [r.len]
  exact (r.drop _).take _
theorem nw_sl {xs : List D} {lo hi : Option Int} {tl th : TO} {f g : Bool} (ha : EvOk C B0 H0 ta δ (.ls xs, f, g)) (hl : PoOk C B0 H0 tl δ lo) (hh : PoOk C B0 H0 th δ hi) : NwOk C B0 H0 (tSl (rSlL C.K) ta tl th) δ (cutD xs lo hi) f g := fun B H σ S Q q =>
  ha B H σ S _ fun v B1 H1 G1 S1 r1 => hl B1 H1 σ S1 _ fun B2 H2 G2 S2 => hh B2 H2 σ S2 _ fun B3 H3 G3 S3 => by
    rw [rp_ls] at r1
    obtain ⟨a, vs, rfl, h1, k1⟩ := r1
    refine ⟨a, vs, rfl, SqL.of ((G2.eh.trans G3.eh) _ _ (S1.toH _ _ _ _ h1)), nw_of S3 (rps_cut (k1.mono ((G2.trans G3).rg f g)) lo hi) ((G1.trans G2).trans G3) q⟩
theorem ev_tup {ta : TA} {ds : List D} {f g : Bool} (ha : ArOk C B0 H0 ta δ (ds, f, g)) (h : ds.length ≤ 1000) : EvOk C B0 H0 (tTup ta) δ (.tp ds, f, g) := fun B H σ S Q q =>
  ha B H σ S _ fun vs B1 H1 G1 S1 r1 => by
    refine ⟨sz_of (by rw [r1.len]; show ds.length ≤ _; omega), fun p hp => ?_⟩
    obtain ⟨B2, G2, S2, e⟩ := S1.alloc2 (o := .tup vs) hp f g
    refine q _ B2 _ (G1.trans G2) S2 ?_
    show Rp C (Rg B0 H0 B2 _ f g) (.tp ds) (.ref p)
    rw [rp_tp]
    exact ⟨p, vs, rfl, SqT.of e, r1.mono (G2.rg f g)⟩
theorem nw_lst {ta : TA} {ds : List D} {f g : Bool} (ha : ArOk C B0 H0 ta δ (ds, f, g)) (h : ds.length ≤ 1000) : NwOk C B0 H0 (tLst ta) δ ds f g := fun B H σ S Q q =>
  ha B H σ S _ fun vs B1 H1 G1 S1 r1 => ⟨sz_of (by rw [r1.len]; show ds.length ≤ _; omega), nw_of S1 r1 G1 q⟩
theorem ev_lenL {xs : List D} {f g : Bool} (ha : EvOk C B0 H0 ta δ (.ls xs, f, g)) : EvOk C B0 H0 (tCB (rLenS C.K) (tCons ta tNil)) δ (.int (xs.length : Int), true, true) := fun B H σ S Q q =>
  ha B H σ S _ fun v B1 H1 G1 S1 r1 => by
    rw [rp_ls] at r1
    obtain ⟨a, vs, rfl, h1, k1⟩ := r1
    refine ⟨a, vs, rfl, .inl (SqL.of (S1.toH _ _ _ _ h1)), ?_⟩
    rw [k1.len]
    exact q _ B1 H1 G1 S1 (rp_emp (emp_int _))
theorem ev_lenT {xs : List D} {f g : Bool} (ha : EvOk C B0 H0 ta δ (.tp xs, f, g)) : EvOk C B0 H0 (tCB (rLenS C.K) (tCons ta tNil)) δ (.int (xs.length : Int), true, true) := fun B H σ S Q q =>
  ha B H σ S _ fun v B1 H1 G1 S1 r1 => by
    rw [rp_tp] at r1
    obtain ⟨a, vs, rfl, h1, k1⟩ := r1
    refine ⟨a, vs, rfl, .inr (sqt_mono (S1.toH _ _) h1), ?_⟩
    rw [k1.len]
    exact q _ B1 H1 G1 S1 (rp_emp (emp_int _))
theorem nw_toL {xs : List D} {f g : Bool} (ha : EvOk C B0 H0 ta δ (.ls xs, f, g)) : NwOk C B0 H0 (tCB (rListS C.K) (tCons ta tNil)) δ xs f g := fun B H σ S Q q =>
  ha B H σ S _ fun v B1 H1 G1 S1 r1 => by
    rw [rp_ls] at r1
    obtain ⟨a, vs, rfl, h1, k1⟩ := r1
    exact ⟨a, vs, rfl, .inl (SqL.of (S1.toH _ _ _ _ h1)), nw_of S1 k1 G1 q⟩
theorem nw_toLT {xs : List D} {f g : Bool} (ha : EvOk C B0 H0 ta δ (.tp xs, f, g)) : NwOk C B0 H0 (tCB (rListS C.K) (tCons ta tNil)) δ xs f g := fun B H σ S Q q =>
  ha B H σ S _ fun v B1 H1 G1 S1 r1 => by
    rw [rp_tp] at r1
    obtain ⟨a, vs, rfl, h1, k1⟩ := r1
    exact ⟨a, vs, rfl, .inr (sqt_mono (S1.toH _ _) h1), nw_of S1 k1 G1 q⟩
theorem ints_of {H : Hp} : ∀ {ds : List D} {ns : List Int} {vs : List V}, intsOf ds = some ns → Rps C H ds vs → vs = ns.map V.int
  | [], ns, vs, h, r => by
    simp only [intsOf, Option.some.injEq] at h
    subst h
    simp only [Rps] at r
    exact r
  | d :: ds, ns, vs, h, r => by
    cases d with
    | int i =>
      simp only [intsOf] at h
      split at h
      · rename_i ms e
        cases h
        simp only [Rps] at r
        obtain ⟨v, us, rfl, r1, r2⟩ := r
        rw [rp_int] at r1
        subst r1
        rw [ints_of e r2]
        rfl
      · cases h
    | _ => simp [intsOf] at h
theorem bls_of {H : Hp} : ∀ {ds : List D} {ns : List Bool} {vs : List V}, blsOf ds = some ns → Rps C H ds vs → vs = ns.map V.bl
  | [], ns, vs, h, r => by
    simp only [blsOf, Option.some.injEq] at h
    subst h
    simp only [Rps] at r
    exact r
  | d :: ds, ns, vs, h, r => by
    cases d with
    | bl i =>
      simp only [blsOf] at h
      split at h
      · rename_i ms e
        cases h
        simp only [Rps] at r
        obtain ⟨v, us, rfl, r1, r2⟩ := r
        rw [rp_bl] at r1
        subst r1
        rw [bls_of e r2]
        rfl
      · cases h
    | _ => simp [blsOf] at h
theorem rps_ints {H : Hp} : ∀ ns : List Int, Rps C H (ns.map D.int) (ns.map V.int)
  | [] => by simp [Rps]
  | n :: ns => .cons (by rw [rp_int]) (rps_ints ns)
/-- a call of a list of truths, of ints -/
theorem ev_bls {r : List V → Hp → VK → Prop} {xs : List D} {bs : List Bool} {f g : Bool} {z : D} {zv : V} (ha : EvOk C B0 H0 ta δ (.ls xs, f, g)) (h : blsOf xs = some bs) (hz : Rp C Emp z zv) (k : ∀ a H (Q : VK), SqL C.K H a (bs.map V.bl) → Q zv H → r [.ref a] H Q) :
    EvOk C B0 H0 (tCB r (tCons ta tNil)) δ (z, true, true) := fun B H σ S Q q =>
  ha B H σ S _ fun v B1 H1 G1 S1 r1 => by
    rw [rp_ls] at r1
    obtain ⟨a, vs, rfl, h1, k1⟩ := r1
    have e := bls_of h k1
    subst e
    exact k a H1 Q (SqL.of (S1.toH _ _ _ _ h1)) (q _ B1 H1 G1 S1 (rp_emp hz))
theorem ev_ints {r : List V → Hp → VK → Prop} {xs : List D} {bs : List Int} {f g : Bool} {z : D} {zv : V} (ha : EvOk C B0 H0 ta δ (.ls xs, f, g)) (h : intsOf xs = some bs) (hz : Rp C Emp z zv) (k : ∀ a H (Q : VK), SqL C.K H a (bs.map V.int) → Q zv H → r [.ref a] H Q) :
    EvOk C B0 H0 (tCB r (tCons ta tNil)) δ (z, true, true) := fun B H σ S Q q =>
  ha B H σ S _ fun v B1 H1 G1 S1 r1 => by
    rw [rp_ls] at r1
    obtain ⟨a, vs, rfl, h1, k1⟩ := r1
    have e := ints_of h k1
    subst e
    exact k a H1 Q (SqL.of (S1.toH _ _ _ _ h1)) (q _ B1 H1 G1 S1 (rp_emp hz))
theorem ev_cnt {xs : List D} {ns : List Int} {n : Int} {f g f' g' : Bool} (ha : EvOk C B0 H0 ta δ (.ls xs, f, g)) (hb : EvOk C B0 H0 tb δ (.int n, f', g')) (h : intsOf xs = some ns) : EvOk C B0 H0 (tBM C.K "list" (rCntI C.K) ta (tCons tb tNil)) δ (.int ((ns.count n : Nat) : Int), true, true) := fun B H σ S Q q =>
  ha B H σ S _ fun v B1 H1 G1 S1 r1 => by
    rw [rp_ls] at r1
    obtain ⟨a, vs, rfl, h1, k1⟩ := r1
    have e := ints_of h k1
    subst e
    have h2 := S1.toH _ _ _ _ h1
    refine ⟨.inl ⟨rfl, _, SqL.of h2⟩, ?_⟩
    refine hb B1 H1 σ S1 _ fun u B2 H2 G2 S2 r2 => ?_
    rw [rp_int] at r2
    subst r2
    exact ⟨a, ns, n, rfl, rfl, SqL.of (G2.eh _ _ h2), q _ B2 H2 (G1.trans G2) S2 (rp_emp (emp_int _))⟩
theorem ev_mm {r : List V → Hp → VK → Prop} {i j z : Int} {f g f' g' : Bool} (ha : EvOk C B0 H0 ta δ (.int i, f, g)) (hb : EvOk C B0 H0 tb δ (.int j, f', g')) (k : ∀ H (Q : VK), Q (.int z) H → r [.int i, .int j] H Q) : EvOk C B0 H0 (tCB r (tCons ta (tCons tb tNil))) δ (.int z, true, true) := fun B H σ S Q q =>
  ha B H σ S _ fun v B1 H1 G1 S1 r1 => hb B1 H1 σ S1 _ fun u B2 H2 G2 S2 r2 => by
    rw [rp_int] at r1 r2
    subst r1 r2
    exact k H2 Q (q _ B2 H2 (G1.trans G2) S2 (rp_emp (emp_int _)))
/-! isinstance -/
theorem ty_sqt {K : PySem.W.Frag} {H : Hp} {a : Addr} {xs : List V} (h : SqT K H a xs) : TyX K H (.ref a) (.type "tuple") := by
  rcases h with (h | ⟨o, h⟩) | ⟨o, its, n, h, hc, _⟩
  · exact .base (.tup h)
  · exact .fTuple h
  · exact .kTuple h hc
theorem kit_all (K : PySem.W.Frag) : ∀ t : Ty5,
    PySem.W.kitOne K (.type "NoneType") (.type t.nm) = some false ∧ PySem.W.kitOne K (.type "bool") (.type t.nm) = some (match t with | .int => true | .bool => true | _ => false) ∧
    PySem.W.kitOne K (.type "int") (.type t.nm) = some (match t with | .int => true | _ => false) ∧ PySem.W.kitOne K (.type "str") (.type t.nm) = some (match t with | .str => true | _ => false) ∧
    PySem.W.kitOne K (.type "list") (.type t.nm) = some (match t with | .list => true | _ => false) ∧ PySem.W.kitOne K (.type "tuple") (.type t.nm) = some (match t with | .tuple => true | _ => false)
  | .int => ⟨kit_ty (by decide +kernel), kit_ty (by decide +kernel), kit_ty (by decide +kernel), kit_ty (by decide +kernel), kit_ty (by decide +kernel), kit_ty (by decide +kernel)⟩
  | .bool => ⟨kit_ty (by decide +kernel), kit_ty (by decide +kernel), kit_ty (by decide +kernel), kit_ty (by decide +kernel), kit_ty (by decide +kernel), kit_ty (by decide +kernel)⟩
  | .str => ⟨kit_ty (by decide +kernel), kit_ty (by decide +kernel), kit_ty (by decide +kernel), kit_ty (by decide +kernel), kit_ty (by decide +kernel), kit_ty (by decide +kernel)⟩
  | .list => ⟨kit_ty (by decide +kernel), kit_ty (by decide +kernel), kit_ty (by decide +kernel), kit_ty (by decide +kernel), kit_ty (by decide +kernel), kit_ty (by decide +kernel)⟩
  | .tuple => ⟨kit_ty (by decide +kernel), kit_ty (by decide +kernel), kit_ty (by decide +kernel), kit_ty (by decide +kernel), kit_ty (by decide +kernel), kit_ty (by decide +kernel)⟩
theorem isT_ok {t : Ty5} {d : D} {b : Bool} {v : V} {H : Hp} (h : isT t d = some b) (r : Rp C H d v) : ∃ tv, TyX C.K H v tv ∧ PySem.W.kitOne C.K tv (.type t.nm) = some b := by
  obtain ⟨k1, k2, k3, k4, k5, k6⟩ := kit_all C.K t
  cases d with
  | non => rw [rp_non] at r; subst r; exact ⟨_, .base .non, by rw [k1, ← h]; cases t <;> rfl⟩
  | bl x => rw [rp_bl] at r; subst r; exact ⟨_, .base (.bl x), by rw [k2, ← h]; cases t <;> rfl⟩
  | int x => rw [rp_int] at r; subst r; exact ⟨_, .base (.int x), by rw [k3, ← h]; cases t <;> rfl⟩
  | str x => rw [rp_str] at r; subst r; exact ⟨_, .base (.str x), by rw [k4, ← h]; cases t <;> rfl⟩
  | ls x => rw [rp_ls] at r; obtain ⟨a, vs, rfl, h1, _⟩ := r; exact ⟨_, .base (.lst h1), by rw [k5, ← h]; cases t <;> rfl⟩
  | tp x => rw [rp_tp] at r; obtain ⟨a, vs, rfl, h1, _⟩ := r; exact ⟨_, ty_sqt h1, by rw [k6, ← h]; cases t <;> rfl⟩
  | ob c x => cases t <;> simp [isT] at h
theorem ev_isI {t : Ty5} {d : D} {b f g : Bool} (ha : EvOk C B0 H0 ta δ (d, f, g)) (h : isT t d = some b) : EvOk C B0 H0 (tCB (rIsi C.K) (tCons ta (tCons (tC (.ty t.nm)) tNil))) δ (.bl b, true, true) := fun B H σ S Q q =>
  ha B H σ S _ fun v B1 H1 G1 S1 r1 => by
    obtain ⟨tv, h1, h2⟩ := isT_ok h (r1.mono (S1.toH _ _))
    exact ⟨v, .ty t.nm, tv, .type t.nm, b, rfl, .ty _, h1, h2, q _ B1 H1 G1 S1 (rp_emp (emp_bl _))⟩
/-! sorted(set(..)) -/
theorem insU_mem (x : Int) : ∀ (l : List Int) (k : Int), k ∈ insU x l ↔ k = x ∨ k ∈ l
  | [], k => by simp [insU]
  | y :: r, k => by
    unfold insU
    split
    · simp
    · split
      · rename_i e
        subst e
        simp
      · simp only [List.mem_cons, insU_mem x r k]
        constructor
        · rintro (h | h | h)
          · exact .inr (.inl h)
          · exact .inl h
          · exact .inr (.inr h)
        · rintro (h | h | h)
          · exact .inr (.inl h)
          · exact .inl h
          · exact .inr (.inr h)
theorem insU_lt (x : Int) : ∀ {l : List Int}, l.Pairwise (· < ·) → (insU x l).Pairwise (· < ·)
  | [], _ => by simp [insU]
  | y :: r, h => by
    obtain ⟨h1, h2⟩ := List.pairwise_cons.mp h
    unfold insU
    split
    · rename_i e
      refine List.pairwise_cons.mpr ⟨fun z hz => ?_, h⟩
      rcases List.mem_cons.mp hz with rfl | hz
      · exact e
      · exact Int.lt_trans e (h1 z hz)
    · split
      · exact h
      · refine List.pairwise_cons.mpr ⟨fun z hz => ?_, insU_lt x h2⟩
        rcases (insU_mem x r z).mp hz with rfl | hz
        · omega
        · exact h1 z hz
theorem sdd_mem : ∀ (l : List Int) (k : Int), k ∈ sdd l ↔ k ∈ l
  | [], k => by simp [sdd]
  | x :: l, k => by
    show k ∈ insU x (sdd l) ↔ _
    rw [insU_mem, sdd_mem l k]
    simp
theorem sdd_lt : ∀ l : List Int, (sdd l).Pairwise (· < ·)
  | [] => List.Pairwise.nil
  | x :: l => insU_lt x (sdd_lt l)
theorem lt_same : ∀ {a b : List Int}, a.Pairwise (· < ·) → b.Pairwise (· < ·) → (∀ k, k ∈ a ↔ k ∈ b) → a = b
  | [], [], _, _, _ => rfl
  | [], y :: b, _, _, h => absurd ((h y).mpr (by simp)) (by simp)
  | x :: a, [], _, _, h => absurd ((h x).mp (by simp)) (by simp)
  | x :: a, y :: b, ha, hb, h => by
    obtain ⟨a1, a2⟩ := List.pairwise_cons.mp ha
    obtain ⟨b1, b2⟩ := List.pairwise_cons.mp hb
    have e : x = y := by
      have p := (h x).mp (by simp)
      have q := (h y).mpr (by simp)
      rcases List.mem_cons.mp p with p | p
      · exact p
      · rcases List.mem_cons.mp q with q | q
        · exact q.symm
        · have := b1 x p
          have := a1 y q
          omega
    subst e
    congr 1
    refine lt_same a2 b2 fun k => ⟨fun hk => ?_, fun hk => ?_⟩
    · rcases List.mem_cons.mp ((h k).mp (List.mem_cons_of_mem _ hk)) with e | e
      · have := a1 k hk
        omega
      · exact e
    · rcases List.mem_cons.mp ((h k).mpr (List.mem_cons_of_mem _ hk)) with e | e
      · have := b1 k hk
        omega
      · exact e
theorem nw_srt {xs : List D} {ns : List Int} {f g : Bool} (ha : EvOk C B0 H0 ta δ (.ls xs, f, g)) (h : intsOf xs = some ns) (hn : ns.length < 60) : NwOk C B0 H0 (tCB (rSortedSet C.w) (tCons (tCB (rSetOfI C.w C.K) (tCons ta tNil)) tNil)) δ ((sdd ns).map D.int) true true := fun B H σ S Q q =>
  ha B H σ S _ fun v B1 H1 G1 S1 r1 => by
    rw [rp_ls] at r1
    obtain ⟨a, vs, rfl, h1, k1⟩ := r1
    have e := ints_of h k1
    subst e
    refine ⟨a, ns, rfl, SqL.of (S1.toH _ _ _ _ h1), hn, fun s Sm n hs hS le => ?_⟩
    have S2 := S1.cell (o := SetO C.w s Sm n) hs
    refine ⟨s, Sm, n, rfl, upd_same, by omega, fun ms p lt mem _ hp => ?_⟩
    have e : ms = sdd ns := lt_same lt (sdd_lt ns) fun k => by
      rw [mem k, hS k, sdd_mem, decide_eq_true_eq]
    subst e
    exact nw_of S2 (rps_ints (sdd ns)) ⟨G1.eb, G1.eh.trans (same_upd hs), G1.nw⟩ q p hp
/-! arguments -/
theorem ar_nil : ArOk C B0 H0 tNil δ ([], true, true) := fun B H σ S Q q => q [] B H (Gro.refl _ _) S Rps.nil
theorem ar_cons {ta : TE} {tr : TA} {d : D} {ds : List D} {f g f' g' : Bool} (ha : EvOk C B0 H0 ta δ (d, f, g)) (hr : ArOk C B0 H0 tr δ (ds, f', g')) : ArOk C B0 H0 (tCons ta tr) δ (d :: ds, f && f', g && g') := fun B H σ S Q q =>
  ha B H σ S _ fun v B1 H1 G1 S1 r1 => hr B1 H1 σ S1 _ fun vs B2 H2 G2 S2 r2 =>
    q _ B2 H2 (G1.trans G2) S2 (.cons (r1.mono (Same.trans (G2.rg f g) (S2.weakL f g f' g'))) (r2.mono (S2.weakR f' g' f g)))
theorem po_none : PoOk C B0 H0 tNoPart δ none := fun B H σ S Q q => q B H (Gro.refl _ _) S
theorem po_some {i : Int} {f g : Bool} (ha : EvOk C B0 H0 ta δ (.int i, f, g)) : PoOk C B0 H0 (tPart ta) δ (some i) := fun B H σ S Q q =>
  ha B H σ S _ fun v B1 H1 G1 S1 r1 => by
    rw [rp_int] at r1
    exact ⟨i, r1, q B1 H1 G1 S1⟩
/-! tests -/
theorem tt_B {b f g : Bool} (ha : EvOk C B0 H0 ta δ (.bl b, f, g)) : TtOk C B0 H0 (tB ta) δ b := fun B H σ S Q q =>
  ha B H σ S _ fun v B1 H1 G1 S1 r1 => by
    rw [rp_bl] at r1
    exact ⟨b, r1, q B1 H1 G1 S1⟩
theorem tt_not {t : TT} {b : Bool} (h : TtOk C B0 H0 t δ b) : TtOk C B0 H0 (tNot t) δ (!b) := fun B H σ S Q q => h B H σ S _ q
theorem tt_and1 {t u : TT} {b : Bool} (h : TtOk C B0 H0 t δ true) (k : TtOk C B0 H0 u δ b) : TtOk C B0 H0 (tAnd t u) δ b := fun B H σ S Q q =>
  h B H σ S _ fun B1 H1 G1 S1 => by
    rw [if_pos rfl]
    exact k B1 H1 σ S1 _ fun B2 H2 G2 S2 => q B2 H2 (G1.trans G2) S2
theorem tt_and0 {t u : TT} (h : TtOk C B0 H0 t δ false) : TtOk C B0 H0 (tAnd t u) δ false := fun B H σ S Q q =>
  h B H σ S _ fun B1 H1 G1 S1 => by
    rw [if_neg Bool.false_ne_true]
    exact q B1 H1 G1 S1
theorem tt_or0 {t u : TT} {b : Bool} (h : TtOk C B0 H0 t δ false) (k : TtOk C B0 H0 u δ b) : TtOk C B0 H0 (tOr t u) δ b := fun B H σ S Q q =>
  h B H σ S _ fun B1 H1 G1 S1 => by
    rw [if_neg Bool.false_ne_true]
    exact k B1 H1 σ S1 _ fun B2 H2 G2 S2 => q B2 H2 (G1.trans G2) S2
theorem tt_or1 {t u : TT} (h : TtOk C B0 H0 t δ true) : TtOk C B0 H0 (tOr t u) δ true := fun B H σ S Q q =>
  h B H σ S _ fun B1 H1 G1 S1 => by
    rw [if_pos rfl]
    exact q B1 H1 G1 S1
theorem tt_yes : TtOk C B0 H0 tYes δ true := fun B H σ S Q q => q B H (Gro.refl _ _) S
/-! a call -/
theorem ev_call {F : Fd} {ta : TA} {ds : List D} {d : D} {f g : Bool} {E : XK} (ha : ArOk C B0 H0 ta δ (ds, f, g)) (hl : ds.length = F.ar) (h : F.run ds = some d) : EvOk C B0 H0 (tCall (spOf C F) [] E ta) δ (d, F.fr || f || d.flat, F.fr || d.flat) := fun B H σ S Q q =>
  ha B H σ S _ fun vs B1 H1 G1 S1 r1 => by
    rw [List.append_nil]
    refine ⟨Rg B0 H0 B1 H1 f g, ds, d, S1.toH f g, r1, hl, h, fun v H2 e r => ?_⟩
    -- the base behind the call: with all that is new
    have G2 : Gro B1 H1 (Rsd B1 H1 H2) H2 := by
      refine ⟨fun p o h => ?_, e, fun p o h => ?_⟩
      · unfold Rsd
        rw [h]
        exact e _ _ (S1.sub _ _ h)
      · unfold Rsd at h
        cases hb : B1 p with
        | some x =>
          rw [hb] at h
          have h : H2 p = some o := h
          have := e _ _ (S1.sub _ _ hb)
          rw [h] at this
          exact .inl this.symm
        | none =>
          cases hh : H1 p with
          | none => exact .inr rfl
          | some x => rw [hb, hh] at h; cases h
    have S2 : Stt C B0 H0 (Rsd B1 H1 H2) H2 σ δ := S1.grow G2.eb G2.eh rsd_sub G2.nw
    have n0 : ∀ p, H1 p = none → H0 p = none := fun p h => S1.ex0.free h
    by_cases fl : d.flat = true
    · exact q v _ H2 (G1.trans G2) S2 (r.flat fl)
    · have fl : d.flat = false := Bool.eq_false_iff.mpr fl
      dsimp only at q
      rw [fl, Bool.or_false, Bool.or_false] at q
      cases hf : F.fr with
      | true =>
        rw [hf, if_pos rfl] at r
        rw [hf] at q
        refine q v _ H2 (G1.trans G2) S2 (r.mono fun p o h => ?_)
        show (match H0 p with | none => Rsd B1 H1 H2 p | some _ => none) = some o
        unfold Rsd Emp at h
        cases hh : H1 p with
        | some x => rw [hh] at h; cases h
        | none =>
          rw [hh] at h
          rw [n0 p hh]
          show Rsd B1 H1 H2 p = some o
          unfold Rsd
          rw [hh]
          cases B1 p <;> exact h
      | false =>
        rw [hf, if_neg Bool.false_ne_true] at r
        rw [hf] at q
        cases f with
        | true =>
          refine q v _ H2 (G1.trans G2) S2 (r.mono fun p o h => ?_)
          show Rsd B1 H1 H2 p = some o
          have w : ∀ p o, Rg B0 H0 B1 H1 true g p = some o → B1 p = some o := S1.weak true g true false id (fun h => by cases h)
          unfold Rsd at h ⊢
          cases hh : H1 p with
          | none => rw [hh] at h; cases B1 p <;> cases hx : Rg B0 H0 B1 H1 true g p <;> rw [hx] at h <;> exact h
          | some x =>
            rw [hh] at h
            cases hx : Rg B0 H0 B1 H1 true g p with
            | none => rw [hx] at h; cases h
            | some y => rw [hx] at h; rw [w p y hx]; exact h
        | false =>
          refine q v _ H2 (G1.trans G2) S2 (r.mono fun p o h => ?_)
          show Rsd B0 H0 H2 p = some o
          have w : ∀ p o, Rg B0 H0 B1 H1 false g p = some o → Rsd B0 H0 H1 p = some o := S1.weak false g false false id (fun h => by cases h)
          have h2 : H2 p = some o := rsd_sub p o h
          unfold Rsd at h
          cases hh : H1 p with
          | none =>
            unfold Rsd
            rw [n0 p hh]
            cases B0 p <;> exact h2
          | some x =>
            rw [hh] at h
            cases hx : Rg B0 H0 B1 H1 false g p with
            | none => rw [hx] at h; cases h
            | some y =>
              have z := w p y hx
              unfold Rsd at z ⊢
              split at z
              · cases z
              · exact h2
end
end G

namespace G
open PySem L2
section
variable {C : Cf} {B0 H0 : Hp} {δ : List Sl} {ta tb tc te : TE}
theorem Rps.back {H : Hp} : ∀ {ds : List D} {vs : List V} {i : Nat} {v : V}, Rps C H ds vs → vs[i]? = some v → ∃ d, ds[i]? = some d ∧ Rp C H d v := fun {ds vs i v} r h => by
  have hi : i < vs.length := (List.getElem?_eq_some_iff.mp h).1
  have hd : i < ds.length := by rw [← r.len]; exact hi
  obtain ⟨w, e, q⟩ := r.get (i := i) (List.getElem?_eq_getElem hd)
  rw [h] at e
  cases e
  exact ⟨_, List.getElem?_eq_getElem hd, q⟩
theorem rg_up {B H B' H' : Hp} (e : Same B B') (g : Bool) : Same (Rg B0 H0 B H true g) (Rg B0 H0 B' H' true g) := by
  rw [rg_true g (H := H') (H' := H)]
  exact rg_mono e (Same.refl _) true g
theorem it_L {ds : List D} {g : Bool} (ha : EvOk C B0 H0 ta δ (.ls ds, true, g)) : ItOk C B0 H0 (iList C.K ta) δ (ds, g) := fun B H σ S R q =>
  ha B H σ S _ fun v B1 H1 G1 S1 r1 => by
    rw [rp_ls] at r1
    obtain ⟨a, vs, rfl, h1, k1⟩ := r1
    have hb : B1 a = some (.lst vs) := S1.weak true g true false id (fun h => by cases h) _ _ h1
    refine ⟨a, rfl, ⟨vs, SqL.of (S1.sub _ _ hb)⟩, q _ B1 H1 G1 S1 ⟨fun H => SqL C.K H a vs, YAt vs, ?_, fun B' H' σ' δ' e S' => ?_, fun i H' x H2 B' σ' δ' hi e S' y => ?_⟩⟩
    · rw [show ds.length = vs.length from k1.len.symm]
      exact walk_list
    · exact SqL.of (S'.sub _ _ (e _ _ hb))
    · obtain ⟨rfl, y⟩ := y
      obtain ⟨d, h2, r⟩ := k1.back y
      exact ⟨d, B', h2, Gro.refl _ _, S', r.mono (rg_up e g)⟩
theorem it_T {ds : List D} {g : Bool} (ha : EvOk C B0 H0 ta δ (.tp ds, true, g)) : ItOk C B0 H0 (iTup C.K ta) δ (ds, g) := fun B H σ S R q =>
  ha B H σ S _ fun v B1 H1 G1 S1 r1 => by
    rw [rp_tp] at r1
    obtain ⟨a, vs, rfl, h1, k1⟩ := r1
    have hb : SqT C.K B1 a vs := sqt_mono (S1.weak true g true false id (fun h => by cases h)) h1
    refine ⟨a, rfl, ⟨vs, sqt_mono S1.sub hb⟩, q _ B1 H1 G1 S1 ⟨fun H => SqT C.K H a vs, YAt vs, ?_, fun B' H' σ' δ' e S' => ?_, fun i H' x H2 B' σ' δ' hi e S' y => ?_⟩⟩
    · rw [show ds.length = vs.length from k1.len.symm]
      exact walk_tup
    · exact sqt_mono S'.sub (sqt_mono e hb)
    · obtain ⟨rfl, y⟩ := y
      obtain ⟨d, h2, r⟩ := k1.back y
      exact ⟨d, B', h2, Gro.refl _ _, S', r.mono (rg_up e g)⟩
theorem rngD_len (lo : Int) (n : Nat) : (rngD lo n).length = n := by simp [rngD]
theorem rngD_get {lo : Int} {n i : Nat} (h : i < n) : (rngD lo n)[i]? = some (.int (lo + (i : Int))) := by
  unfold rngD
  rw [List.getElem?_map, List.getElem?_range h]
  rfl
theorem wk_rng (lo : Int) (n : Nat) (B1 : Hp) : WkOk C B0 H0 (Itr lo n) (rngD lo n) true B1 := by
  refine ⟨fun _ => True, YFn fun i => .int (lo + i), ?_, fun _ _ _ _ _ _ => trivial, fun i H' x H2 B' σ' δ' hi e S' y => ?_⟩
  · rw [rngD_len]
    exact walk_range
  · obtain ⟨rfl, rfl⟩ := y
    rw [rngD_len] at hi
    exact ⟨_, B', rngD_get hi, Gro.refl _ _, S', by rw [rp_int]⟩
theorem it_R {n : Int} {f g : Bool} (ha : EvOk C B0 H0 ta δ (.int n, f, g)) (h : -1000000 ≤ n ∧ n ≤ 1000000) : ItOk C B0 H0 (iRng1 (tCons ta tNil)) δ (rngD 0 n.toNat, true) := fun B H σ S R q =>
  ha B H σ S _ fun v B1 H1 G1 S1 r1 => by
    rw [rp_int] at r1
    subst r1
    exact ⟨n, rfl, by omega, by omega, q _ B1 H1 G1 S1 (wk_rng 0 n.toNat B1)⟩
theorem it_R2 {m n : Int} {f g f' g' : Bool} (ha : EvOk C B0 H0 ta δ (.int m, f, g)) (hb : EvOk C B0 H0 tb δ (.int n, f', g')) (h : -1000000 ≤ m ∧ m ≤ 1000000 ∧ -1000000 ≤ n ∧ n ≤ 1000000) : ItOk C B0 H0 (iRng2 (tCons ta (tCons tb tNil))) δ (rngD m (n - m).toNat, true) := fun B H σ S R q =>
  ha B H σ S _ fun v B1 H1 G1 S1 r1 => hb B1 H1 σ S1 _ fun u B2 H2 G2 S2 r2 => by
    rw [rp_int] at r1 r2
    subst r1 r2
    exact ⟨m, n, rfl, ⟨by omega, by omega, by omega, by omega⟩, q _ B2 H2 (G1.trans G2) S2 (wk_rng m _ B2)⟩
theorem zipD_len : ∀ xs ys : List D, (zipD xs ys).length = min xs.length ys.length
  | [], _ => by simp [zipD]
  | x :: xs, [] => by simp [zipD]
  | x :: xs, y :: ys => by
    simp only [zipD, List.length_cons, zipD_len xs ys]
    omega
theorem zipD_get : ∀ {xs ys : List D} {i : Nat} {x y : D}, xs[i]? = some x → ys[i]? = some y → (zipD xs ys)[i]? = some (.tp [x, y])
  | [], _, _, _, _, h, _ => by simp at h
  | _ :: _, [], _, _, _, _, h => by simp at h
  | a :: xs, b :: ys, 0, x, y, h, k => by
    simp at h k
    subst h k
    rfl
  | a :: xs, b :: ys, i + 1, x, y, h, k => by
    simp only [zipD, List.getElem?_cons_succ] at h k ⊢
    exact zipD_get h k
theorem it_Z {xs ys : List D} {g g' : Bool} (ha : EvOk C B0 H0 ta δ (.ls xs, true, g)) (hb : EvOk C B0 H0 tb δ (.ls ys, true, g')) : ItOk C B0 H0 (iZip C.K (tCons ta (tCons tb tNil))) δ (zipD xs ys, g && g') := fun B H σ S R q =>
  ha B H σ S _ fun v B1 H1 G1 S1 r1 => hb B1 H1 σ S1 _ fun u B2 H2 G2 S2 r2 => by
    have r1 := r1.mono (G2.rg true g)
    rw [rp_ls] at r1 r2
    obtain ⟨a, vs, rfl, h1, k1⟩ := r1
    obtain ⟨b, us, rfl, h2, k2⟩ := r2
    have hb1 : B2 a = some (.lst vs) := S2.weak true g true false id (fun h => by cases h) _ _ h1
    have hb2 : B2 b = some (.lst us) := S2.weak true g' true false id (fun h => by cases h) _ _ h2
    refine ⟨a, b, vs, us, rfl, SqL.of (S2.sub _ _ hb1), SqL.of (S2.sub _ _ hb2), q _ B2 H2 (G1.trans G2) S2 ⟨_, _, walk_zip (xs := vs) (ys := us) ?_, fun B' H' σ' δ' e S' => ?_, fun i H' x H3 B' σ' δ' hi e S' y => ?_⟩⟩
    · show (zipD xs ys).length = _
      rw [zipD_len, k1.len, k2.len]
    · exact ⟨SqL.of (S'.sub _ _ (e _ _ hb1)), SqL.of (S'.sub _ _ (e _ _ hb2))⟩
    · obtain ⟨T, x1, x2, rfl, hT, rfl, y1, y2⟩ := y
      obtain ⟨d1, e1, q1⟩ := k1.back y1
      obtain ⟨d2, e2, q2⟩ := k2.back y2
      obtain ⟨B3, G3, S3, e3⟩ := S'.alloc2 (o := .tup [x1, x2]) hT true (g && g')
      refine ⟨.tp [d1, d2], B3, zipD_get e1 e2, G3, S3, ?_⟩
      rw [rp_tp]
      refine ⟨T, [x1, x2], rfl, SqT.of e3, .cons (q1.mono ?_) (.one (q2.mono ?_))⟩
      · exact Same.trans (rg_up (e.trans G3.eb) g) (S3.weakL true g true g')
      · exact Same.trans (rg_up (e.trans G3.eb) g') (S3.weakR true g' true g)
theorem enumD_len : ∀ (n : Nat) (xs : List D), (enumD n xs).length = xs.length
  | _, [] => rfl
  | n, x :: xs => by simp [enumD, enumD_len (n + 1) xs]
theorem enumD_get : ∀ {xs : List D} {n i : Nat} {x : D}, xs[i]? = some x → (enumD n xs)[i]? = some (.tp [.int ((n + i : Nat) : Int), x])
  | [], _, _, _, h => by simp at h
  | a :: xs, n, 0, x, h => by
    simp at h
    subst h
    rfl
  | a :: xs, n, i + 1, x, h => by
    simp only [enumD, List.getElem?_cons_succ] at h ⊢
    rw [enumD_get h]
    congr 5
    omega
theorem it_E {xs : List D} {g : Bool} (ha : EvOk C B0 H0 ta δ (.ls xs, true, g)) : ItOk C B0 H0 (iEnum C.K (tCons ta tNil)) δ (enumD 0 xs, g) := fun B H σ S R q =>
  ha B H σ S _ fun v B1 H1 G1 S1 r1 => by
    rw [rp_ls] at r1
    obtain ⟨a, vs, rfl, h1, k1⟩ := r1
    have hb1 : B1 a = some (.lst vs) := S1.weak true g true false id (fun h => by cases h) _ _ h1
    refine ⟨a, vs, rfl, SqL.of (S1.sub _ _ hb1), q _ B1 H1 G1 S1 ⟨fun H => SqL C.K H a vs, YPair (fun i => some (.int (i : Nat))) (fun i => vs[i]?), ?_, fun B' H' σ' δ' e S' => ?_, fun i H' x H3 B' σ' δ' hi e S' y => ?_⟩⟩
    · rw [show (enumD 0 xs, g).1.length = vs.length by rw [show (enumD 0 xs, g).1 = enumD 0 xs from rfl, enumD_len, k1.len]]
      exact walk_enum (xs := vs)
    · exact SqL.of (S'.sub _ _ (e _ _ hb1))
    · obtain ⟨T, x1, x2, rfl, hT, rfl, y1, y2⟩ := y
      cases y1
      obtain ⟨d2, e2, q2⟩ := k1.back y2
      obtain ⟨B3, G3, S3, e3⟩ := S'.alloc2 (o := .tup [.int (i : Nat), x2]) hT true g
      have e4 := enumD_get (n := 0) e2
      rw [Nat.zero_add] at e4
      refine ⟨.tp [.int ((i : Nat) : Int), d2], B3, e4, G3, S3, ?_⟩
      rw [rp_tp]
      exact ⟨T, _, rfl, SqT.of e3, .cons (by rw [rp_int]) (.one (q2.mono (rg_up (e.trans G3.eb) g)))⟩
/-! comprehensions -/
theorem nw_lc {wi : TI} {t : Tg} {tt : TT} {ds : List D} {g : Bool} {cf : List Sl → Option Bool} {ef : List Sl → Option Rs} {ys : List D} {gs : Bool}
    (hi : ItOk C B0 H0 wi δ (ds, g)) (hn : ds.length ≤ 50000) (h : lcRun t g cf ef (wipeD δ t.sl) ds = some (ys, gs)) (hc : ∀ δ2 b, cf δ2 = some b → TtOk C B0 H0 tt δ2 b) (he : ∀ δ2 r, ef δ2 = some r → EvOk C B0 H0 te δ2 r) :
    NwOk C B0 H0 (tLc wi (t.rd C.K) tt te t.sl) δ ys true gs := fun B H σ S Q q => by
  refine hi B H σ S _ fun J B1 H1 G1 S1 wk => ?_
  obtain ⟨Gd, Y, w, wg, wy⟩ := wk
  intro L hL
  have h0L : H0 L = none := S1.ex0.free hL
  refine lc_it w (fun i Hc => ∃ B' acc ys1 ys2 gs2, Gro B1 H1 B' Hc ∧ Stt C B0 H0 B' Hc σ δ ∧ B' L = none ∧ Hc L = some (.lst acc) ∧ Rps C (Rg B0 H0 B' Hc true gs) ys1 acc ∧ ys1.length ≤ i ∧
    lcRun t g cf ef (wipeD δ t.sl) (ds.drop i) = some (ys2, gs2) ∧ (gs = true → gs2 = true) ∧ ys1 ++ ys2 = ys) ?_ ?_ ?_ ?_
  · refine ⟨B1, [], [], ys, gs, ⟨Same.refl _, same_upd hL, fun _ _ h => .inl h⟩, S1.cell hL, S1.sub.free hL, upd_same, Rps.nil, Nat.le_refl _, h, id, rfl⟩
  · rintro i Hc _ ⟨B', acc, ys1, ys2, gs2, G', S', _⟩
    exact wg B' Hc σ δ G'.eb S'
  · rintro i x Hc Hd hlt ⟨B', acc, ys1, ys2, gs2, G', S', bL, cL, ra, hl, run, hg, ey⟩ y
    obtain ⟨d, B2, ed, G2, S2, rd⟩ := wy i Hc x Hd B' σ δ hlt G'.eb S' y
    have edr : ds.drop i = d :: ds.drop (i + 1) := by
      have hlt' : i < ds.length := hlt
      rw [List.getElem?_eq_getElem hlt'] at ed
      rw [List.drop_eq_getElem_cons hlt']
      cases ed
      rfl
    rw [edr] at run
    simp only [lcRun] at run
    split at run
    · cases run
    · rename_i δ2 e2
      have b2L : B2 L = none := by
        cases z : B2 L with
        | none => rfl
        | some o =>
          rcases G2.nw L o z with k | k
          · rw [bL] at k; cases k
          · rw [cL] at k; cases k
      refine Tg.ok g t d (S2.wipe t.sl) rd e2 fun σ2 S3 w2 => ⟨?_, ?_⟩
      · rw [w2 t.sl fun _ h => h, wipe_wipe]
      · cases ec : cf δ2 with
        | none => rw [ec] at run; cases run
        | some b =>
          rw [ec] at run
          refine hc δ2 b ec B2 Hd σ2 S3 _ fun B3 H3 G3 S4 => ?_
          have c3 : H3 L = some (.lst acc) := G3.eh _ _ (G2.eh _ _ cL)
          have b3L : B3 L = none := by
            cases z : B3 L with
            | none => rfl
            | some o =>
              rcases G3.nw L o z with k | k
              · rw [b2L] at k; cases k
              · rw [G2.eh _ _ cL] at k; cases k
          have S3' : Stt C B0 H0 B3 H3 σ δ := S2.by G3 S4
          cases b with
          | false =>
            rw [if_neg Bool.false_ne_true]
            exact ⟨B3, acc, ys1, ys2, gs2, (G'.trans G2).trans G3, S3', b3L, c3, ra.mono ((G2.trans G3).rg true gs), by omega, run, hg, ey⟩
          | true =>
            rw [if_pos rfl]
            dsimp only at run
            split at run
            · rename_i y gy ee
              split at run
              · rename_i ys3 gs3 er
                cases run
                refine he δ2 _ ee B3 H3 σ2 S4 _ fun v B4 H4 G4 S5 rv => ?_
                have c4 : H4 L = some (.lst acc) := G4.eh _ _ c3
                have b4L : B4 L = none := by
                  cases z : B4 L with
                  | none => rfl
                  | some o =>
                    rcases G4.nw L o z with k | k
                    · rw [b3L] at k; cases k
                    · rw [c3] at k; cases k
                have S4' : Stt C B0 H0 B4 H4 σ δ := S3'.by G4 S5
                have G5 := ((G'.trans G2).trans G3).trans G4
                refine ⟨acc, c4, ?_, B4, acc ++ [v], ys1 ++ [y], ys3, gs3, ⟨G5.eb, fun p o k => ?_, G5.nw⟩, S1.grow G5.eb (fun p o k => ?_) (fun p o k => ?_) G5.nw, b4L, upd_same, ?_, ?_, er, fun k => ?_, ?_⟩
                · have hlt' : i < ds.length := hlt
                  rw [ra.len]
                  exact Nat.lt_of_lt_of_le (show ys1.length < 100000 by omega) (by decide)
                · rw [upd_ne (ne_of_none k hL)]
                  exact G5.eh _ _ k
                · rw [upd_ne (ne_of_none k hL)]
                  exact G5.eh _ _ k
                · rw [upd_ne (ne_of_none k b4L)]
                  exact S5.sub _ _ k
                · rw [rg_true gs (H' := H4)]
                  refine (ra.mono (((G2.trans G3).trans G4).rg true gs)).app (.one (rv.mono ?_))
                  exact S5.weak true gy true gs id fun k => (Bool.and_eq_true_iff.mp (hg k)).1
                · rw [List.length_append]
                  show ys1.length + 1 ≤ i + 1
                  omega
                · exact (Bool.and_eq_true_iff.mp (hg k)).2
                · rw [List.append_assoc]
                  exact ey
              · cases run
            · cases run
  · rintro Hc ⟨B', acc, ys1, ys2, gs2, G', S', bL, cL, ra, hl, run, hg, ey⟩
    rw [show ds.drop ds.length = [] from List.drop_length] at run
    simp only [lcRun, Option.some.injEq, Prod.mk.injEq] at run
    obtain ⟨rfl, rfl⟩ := run
    rw [List.append_nil] at ey
    subst ey
    exact q L acc B' Hc (G1.trans G') S' (G1.eh.free hL) bL cL ra
end
end G

namespace G
open PySem L2
def KsOk (C : Cf) (Γ : Ga) : Prop := ∀ (k : Nat) v d, Γ.ks[k]? = some (v, d) → Rp C Emp d v
section
variable {C : Cf} {B0 H0 : Hp} {Γ : Ga}
theorem tst_tt {c : E} {δ2 : List Sl} {b : Bool} (t : isTst c = true) (ih : ∀ δ b f g, isTst c = true → eval Γ c δ = some (.bl b, f, g) → TtOk C B0 H0 (rdT C Γ c) δ b) (h : tst (eval Γ c δ2) = some b) : TtOk C B0 H0 (rdT C Γ c) δ2 b := by
  cases e : eval Γ c δ2 with
  | none => rw [e] at h; cases h
  | some r =>
    obtain ⟨d, f, g⟩ := r
    rw [e] at h
    cases d with
    | bl x =>
      simp only [tst, Option.some.injEq] at h
      subst h
      exact ih δ2 x f g t e
    | _ => simp [tst] at h
theorem eval_all (hk : KsOk C Γ) : ∀ c : E, (∀ δ r, eval Γ c δ = some r → EvOk C B0 H0 (rd C Γ c) δ r) ∧ (∀ δ r, evalA Γ c δ = some r → ArOk C B0 H0 (rdA C Γ c) δ r) ∧ (∀ δ o, evalO Γ c δ = some o → PoOk C B0 H0 (rdO C Γ c) δ o) ∧
    (∀ δ r, evalI Γ c δ = some r → ItOk C B0 H0 (rdI C Γ c) δ r) ∧ (∀ δ b f g, isTst c = true → eval Γ c δ = some (.bl b, f, g) → TtOk C B0 H0 (rdT C Γ c) δ b) := by
  intro c
  induction c with
  | var i =>
    have ev : ∀ δ r, eval Γ (.var i) δ = some r → EvOk C B0 H0 (rd C Γ (.var i)) δ r := fun δ r h => by
      simp only [eval] at h
      split at h
      · rename_i d g e; cases h; simp only [rd]; exact ev_sh e
      · rename_i ds g e; cases h; simp only [rd]; exact ev_ow e
      · rename_i d e; cases h; simp only [rd]; exact ev_rg e
      · cases h
    refine ⟨ev, fun δ r h => ?_, fun δ r h => ?_, fun δ r h => ?_, fun δ b f g t h => ?_⟩
    · simp [evalA] at h
    · simp [evalO] at h
    · simp [evalI] at h
    · have k := ev δ _ h
      simp only [rd] at k
      simp only [rdT]
      exact tt_B k
  | int n =>
    have ev : ∀ δ r, eval Γ (.int n) δ = some r → EvOk C B0 H0 (rd C Γ (.int n)) δ r := fun δ r h => by
      simp only [eval] at h; cases h; simp only [rd]; exact ev_c (emp_int _)
    refine ⟨ev, fun δ r h => ?_, fun δ r h => ?_, fun δ r h => ?_, fun δ b f g t h => ?_⟩
    · simp [evalA] at h
    · simp [evalO] at h
    · simp [evalI] at h
    · simp [isTst] at t
  | str n =>
    have ev : ∀ δ r, eval Γ (.str n) δ = some r → EvOk C B0 H0 (rd C Γ (.str n)) δ r := fun δ r h => by
      simp only [eval] at h; cases h; simp only [rd]; exact ev_c (emp_str _)
    refine ⟨ev, fun δ r h => ?_, fun δ r h => ?_, fun δ r h => ?_, fun δ b f g t h => ?_⟩
    · simp [evalA] at h
    · simp [evalO] at h
    · simp [evalI] at h
    · simp [isTst] at t
  | bl n =>
    have ev : ∀ δ r, eval Γ (.bl n) δ = some r → EvOk C B0 H0 (rd C Γ (.bl n)) δ r := fun δ r h => by
      simp only [eval] at h; cases h; simp only [rd]; exact ev_c (emp_bl _)
    refine ⟨ev, fun δ r h => ?_, fun δ r h => ?_, fun δ r h => ?_, fun δ b f g t h => ?_⟩
    · simp [evalA] at h
    · simp [evalO] at h
    · simp [evalI] at h
    · have k := ev δ _ h
      simp only [rd] at k
      simp only [rdT]
      exact tt_B k
  | non  =>
    have ev : ∀ δ r, eval Γ (.non ) δ = some r → EvOk C B0 H0 (rd C Γ (.non )) δ r := fun δ r h => by
      simp only [eval] at h; cases h; simp only [rd]; exact ev_c emp_non
    refine ⟨ev, fun δ r h => ?_, fun δ r h => ?_, fun δ r h => ?_, fun δ b f g t h => ?_⟩
    · simp [evalA] at h
    · simp [evalO] at h
    · simp [evalI] at h
    · simp [isTst] at t
  | kon k =>
    have ev : ∀ δ r, eval Γ (.kon k) δ = some r → EvOk C B0 H0 (rd C Γ (.kon k)) δ r := fun δ r h => by
      simp only [eval] at h
      split at h
      · rename_i v d e; cases h; simp only [rd, e]; exact ev_c (hk _ _ _ e)
      · cases h
    refine ⟨ev, fun δ r h => ?_, fun δ r h => ?_, fun δ r h => ?_, fun δ b f g t h => ?_⟩
    · simp [evalA] at h
    · simp [evalO] at h
    · simp [evalI] at h
    · simp [isTst] at t
  | bin o a b iha ihb =>
    have ev : ∀ δ r, eval Γ (.bin o a b) δ = some r → EvOk C B0 H0 (rd C Γ (.bin o a b)) δ r := fun δ r h => by
      simp only [eval] at h
      split at h
      · rename_i i f1 g1 e1
        split at h
        · rename_i j f2 g2 e2
          split at h
          · rename_i z e3; cases h; simp only [rd]; exact ev_bin (iha.1 δ _ e1) (ihb.1 δ _ e2) e3
          · cases h
        · cases h
      · cases h
    refine ⟨ev, fun δ r h => ?_, fun δ r h => ?_, fun δ r h => ?_, fun δ b f g t h => ?_⟩
    · simp [evalA] at h
    · simp [evalO] at h
    · simp [evalI] at h
    · simp [isTst] at t
  | cat a b iha ihb =>
    have ev : ∀ δ r, eval Γ (.cat a b) δ = some r → EvOk C B0 H0 (rd C Γ (.cat a b)) δ r := fun δ r h => by
      simp only [eval] at h
      split at h
      · rename_i i f1 g1 e1
        split at h
        · rename_i j f2 g2 e2
          split at h
          · rename_i e3; cases h; simp only [rd]; exact (nw_cat (iha.1 δ _ e1) (ihb.1 δ _ e2) e3).up.ev
          · cases h
        · cases h
      · cases h
    refine ⟨ev, fun δ r h => ?_, fun δ r h => ?_, fun δ r h => ?_, fun δ b f g t h => ?_⟩
    · simp [evalA] at h
    · simp [evalO] at h
    · simp [evalI] at h
    · simp [isTst] at t
  | rep a b iha ihb =>
    have ev : ∀ δ r, eval Γ (.rep a b) δ = some r → EvOk C B0 H0 (rd C Γ (.rep a b)) δ r := fun δ r h => by
      simp only [eval] at h
      split at h
      · rename_i i f1 g1 e1
        split at h
        · rename_i j f2 g2 e2
          split at h
          · rename_i e3; cases h; simp only [rd]; exact (nw_rep (iha.1 δ _ e1) (ihb.1 δ _ e2) e3).up.ev
          · cases h
        · cases h
      · cases h
    refine ⟨ev, fun δ r h => ?_, fun δ r h => ?_, fun δ r h => ?_, fun δ b f g t h => ?_⟩
    · simp [evalA] at h
    · simp [evalO] at h
    · simp [evalI] at h
    · simp [isTst] at t
  | neg a iha =>
    have ev : ∀ δ r, eval Γ (.neg a) δ = some r → EvOk C B0 H0 (rd C Γ (.neg a)) δ r := fun δ r h => by
      simp only [eval] at h
      split at h
      · rename_i i f1 g1 e1; cases h; simp only [rd]; exact ev_neg (iha.1 δ _ e1)
      · cases h
    refine ⟨ev, fun δ r h => ?_, fun δ r h => ?_, fun δ r h => ?_, fun δ b f g t h => ?_⟩
    · simp [evalA] at h
    · simp [evalO] at h
    · simp [evalI] at h
    · simp [isTst] at t
  | not a iha =>
    have ev : ∀ δ r, eval Γ (.not a) δ = some r → EvOk C B0 H0 (rd C Γ (.not a)) δ r := fun δ r h => by
      simp only [eval] at h
      split at h
      · rename_i i f1 g1 e1; cases h; simp only [rd]; exact ev_not (iha.1 δ _ e1)
      · cases h
    refine ⟨ev, fun δ r h => ?_, fun δ r h => ?_, fun δ r h => ?_, fun δ b f g t h => ?_⟩
    · simp [evalA] at h
    · simp [evalO] at h
    · simp [evalI] at h
    · simp only [isTst] at t
      simp only [eval] at h
      split at h
      · rename_i i f1 g1 e1; cases h; simp only [rdT]; exact tt_not (iha.2.2.2.2 δ _ _ _ t e1)
      · cases h
  | eq a b iha ihb =>
    have ev : ∀ δ r, eval Γ (.eq a b) δ = some r → EvOk C B0 H0 (rd C Γ (.eq a b)) δ r := fun δ r h => by
      simp only [eval] at h
      split at h
      · rename_i x f1 g1 e1
        split at h
        · rename_i y f2 g2 e2
          split at h
          · rename_i e3; cases h; simp only [rd]; exact ev_eq (iha.1 δ _ e1) (ihb.1 δ _ e2) e3
          · cases h
        · cases h
      · cases h
    refine ⟨ev, fun δ r h => ?_, fun δ r h => ?_, fun δ r h => ?_, fun δ b f g t h => ?_⟩
    · simp [evalA] at h
    · simp [evalO] at h
    · simp [evalI] at h
    · have k := ev δ _ h
      simp only [rd] at k
      simp only [rdT]
      exact tt_B k
  | ne a b iha ihb =>
    have ev : ∀ δ r, eval Γ (.ne a b) δ = some r → EvOk C B0 H0 (rd C Γ (.ne a b)) δ r := fun δ r h => by
      simp only [eval] at h
      split at h
      · rename_i x f1 g1 e1
        split at h
        · rename_i y f2 g2 e2
          split at h
          · rename_i e3; cases h; simp only [rd]; exact ev_ne (iha.1 δ _ e1) (ihb.1 δ _ e2) e3
          · cases h
        · cases h
      · cases h
    refine ⟨ev, fun δ r h => ?_, fun δ r h => ?_, fun δ r h => ?_, fun δ b f g t h => ?_⟩
    · simp [evalA] at h
    · simp [evalO] at h
    · simp [evalI] at h
    · have k := ev δ _ h
      simp only [rd] at k
      simp only [rdT]
      exact tt_B k
  | cmp o a b iha ihb =>
    have ev : ∀ δ r, eval Γ (.cmp o a b) δ = some r → EvOk C B0 H0 (rd C Γ (.cmp o a b)) δ r := fun δ r h => by
      simp only [eval] at h
      split at h
      · rename_i i f1 g1 e1
        split at h
        · rename_i j f2 g2 e2
          cases h; simp only [rd]; exact ev_cmp (iha.1 δ _ e1) (ihb.1 δ _ e2)
        · cases h
      · cases h
    refine ⟨ev, fun δ r h => ?_, fun δ r h => ?_, fun δ r h => ?_, fun δ b f g t h => ?_⟩
    · simp [evalA] at h
    · simp [evalO] at h
    · simp [evalI] at h
    · have k := ev δ _ h
      simp only [rd] at k
      simp only [rdT]
      exact tt_B k
  | chn o o' a b c iha ihb ihc =>
    have ev : ∀ δ r, eval Γ (.chn o o' a b c) δ = some r → EvOk C B0 H0 (rd C Γ (.chn o o' a b c)) δ r := fun δ r h => by
      simp only [eval] at h
      split at h
      · rename_i i f1 g1 e1
        split at h
        · rename_i j f2 g2 e2
          split at h
          · rename_i e3
            split at h
            · rename_i k f3 g3 e4; cases h; simp only [rd]; exact ev_chn1 (iha.1 δ _ e1) (ihb.1 δ _ e2) (ihc.1 δ _ e4) e3
            · cases h
          · rename_i e3; cases h; simp only [rd]; exact ev_chn0 (iha.1 δ _ e1) (ihb.1 δ _ e2) e3
        · cases h
      · cases h
    refine ⟨ev, fun δ r h => ?_, fun δ r h => ?_, fun δ r h => ?_, fun δ b f g t h => ?_⟩
    · simp [evalA] at h
    · simp [evalO] at h
    · simp [evalI] at h
    · have k := ev δ _ h
      simp only [rd] at k
      simp only [rdT]
      exact tt_B k
  | isb a b iha ihb =>
    have ev : ∀ δ r, eval Γ (.isb a b) δ = some r → EvOk C B0 H0 (rd C Γ (.isb a b)) δ r := fun δ r h => by
      simp only [eval] at h
      split at h
      · rename_i i f1 g1 e1
        split at h
        · rename_i j f2 g2 e2
          cases h; simp only [rd]; exact ev_isb (iha.1 δ _ e1) (ihb.1 δ _ e2)
        · cases h
      · cases h
    refine ⟨ev, fun δ r h => ?_, fun δ r h => ?_, fun δ r h => ?_, fun δ b f g t h => ?_⟩
    · simp [evalA] at h
    · simp [evalO] at h
    · simp [evalI] at h
    · have k := ev δ _ h
      simp only [rd] at k
      simp only [rdT]
      exact tt_B k
  | isnb a b iha ihb =>
    have ev : ∀ δ r, eval Γ (.isnb a b) δ = some r → EvOk C B0 H0 (rd C Γ (.isnb a b)) δ r := fun δ r h => by
      simp only [eval] at h
      split at h
      · rename_i i f1 g1 e1
        split at h
        · rename_i j f2 g2 e2
          cases h; simp only [rd]; exact ev_isnb (iha.1 δ _ e1) (ihb.1 δ _ e2)
        · cases h
      · cases h
    refine ⟨ev, fun δ r h => ?_, fun δ r h => ?_, fun δ r h => ?_, fun δ b f g t h => ?_⟩
    · simp [evalA] at h
    · simp [evalO] at h
    · simp [evalI] at h
    · have k := ev δ _ h
      simp only [rd] at k
      simp only [rdT]
      exact tt_B k
  | and a b iha ihb =>
    have ev : ∀ δ r, eval Γ (.and a b) δ = some r → EvOk C B0 H0 (rd C Γ (.and a b)) δ r := fun δ r h => by
      simp only [eval] at h
      split at h
      · rename_i f1 g1 e1; simp only [rd]; exact ev_and1 (iha.1 δ _ e1) (ihb.1 δ _ h)
      · rename_i f1 g1 e1; cases h; simp only [rd]; exact ev_and0 (iha.1 δ _ e1)
      · cases h
    refine ⟨ev, fun δ r h => ?_, fun δ r h => ?_, fun δ r h => ?_, fun δ b f g t h => ?_⟩
    · simp [evalA] at h
    · simp [evalO] at h
    · simp [evalI] at h
    · simp only [isTst, Bool.and_eq_true] at t
      simp only [eval] at h
      split at h
      · rename_i f1 g1 e1; simp only [rdT]; exact tt_and1 (iha.2.2.2.2 δ _ _ _ t.1 e1) (ihb.2.2.2.2 δ _ _ _ t.2 h)
      · rename_i f1 g1 e1; cases h; simp only [rdT]; exact tt_and0 (iha.2.2.2.2 δ _ _ _ t.1 e1)
      · cases h
  | or a b iha ihb =>
    have ev : ∀ δ r, eval Γ (.or a b) δ = some r → EvOk C B0 H0 (rd C Γ (.or a b)) δ r := fun δ r h => by
      simp only [eval] at h
      split at h
      · rename_i f1 g1 e1; simp only [rd]; exact ev_or0 (iha.1 δ _ e1) (ihb.1 δ _ h)
      · rename_i f1 g1 e1; cases h; simp only [rd]; exact ev_or1 (iha.1 δ _ e1)
      · cases h
    refine ⟨ev, fun δ r h => ?_, fun δ r h => ?_, fun δ r h => ?_, fun δ b f g t h => ?_⟩
    · simp [evalA] at h
    · simp [evalO] at h
    · simp [evalI] at h
    · simp only [isTst, Bool.and_eq_true] at t
      simp only [eval] at h
      split at h
      · rename_i f1 g1 e1; simp only [rdT]; exact tt_or0 (iha.2.2.2.2 δ _ _ _ t.1 e1) (ihb.2.2.2.2 δ _ _ _ t.2 h)
      · rename_i f1 g1 e1; cases h; simp only [rdT]; exact tt_or1 (iha.2.2.2.2 δ _ _ _ t.1 e1)
      · cases h
  | ite c a b ihc iha ihb =>
    have ev : ∀ δ r, eval Γ (.ite c a b) δ = some r → EvOk C B0 H0 (rd C Γ (.ite c a b)) δ r := fun δ r h => by
      simp only [eval] at h
      split at h
      · rename_i t
        split at h
        · rename_i f1 g1 e1; simp only [rd]; exact ev_ite1 (ihc.2.2.2.2 δ _ _ _ t e1) (iha.1 δ _ h)
        · rename_i f1 g1 e1; simp only [rd]; exact ev_ite0 (ihc.2.2.2.2 δ _ _ _ t e1) (ihb.1 δ _ h)
        · cases h
      · cases h
    refine ⟨ev, fun δ r h => ?_, fun δ r h => ?_, fun δ r h => ?_, fun δ b f g t h => ?_⟩
    · simp [evalA] at h
    · simp [evalO] at h
    · simp [evalI] at h
    · simp [isTst] at t
  | ix a b iha ihb =>
    have ev : ∀ δ r, eval Γ (.ix a b) δ = some r → EvOk C B0 H0 (rd C Γ (.ix a b)) δ r := fun δ r h => by
      simp only [eval] at h
      split at h
      · rename_i xs f1 g1 e1
        split at h
        · rename_i i f2 g2 e2
          split at h
          · rename_i d e3; cases h; simp only [rd]; exact ev_ixL (iha.1 δ _ e1) (ihb.1 δ _ e2) e3
          · cases h
        · cases h
      · rename_i xs f1 g1 e1
        split at h
        · rename_i i f2 g2 e2
          split at h
          · rename_i d e3; cases h; simp only [rd]; exact ev_ixT (iha.1 δ _ e1) (ihb.1 δ _ e2) e3
          · cases h
        · cases h
      · cases h
    refine ⟨ev, fun δ r h => ?_, fun δ r h => ?_, fun δ r h => ?_, fun δ b f g t h => ?_⟩
    · simp [evalA] at h
    · simp [evalO] at h
    · simp [evalI] at h
    · simp [isTst] at t
  | oix j b ihb =>
    have ev : ∀ δ r, eval Γ (.oix j b) δ = some r → EvOk C B0 H0 (rd C Γ (.oix j b)) δ r := fun δ r h => by
      simp only [eval] at h
      split at h
      · rename_i xs g1 e1
        split at h
        · rename_i i f2 g2 e2
          split at h
          · rename_i d e3; cases h; simp only [rd]; exact ev_oix e1 (ihb.1 δ _ e2) e3
          · cases h
        · cases h
      · cases h
    refine ⟨ev, fun δ r h => ?_, fun δ r h => ?_, fun δ r h => ?_, fun δ b f g t h => ?_⟩
    · simp [evalA] at h
    · simp [evalO] at h
    · simp [evalI] at h
    · simp [isTst] at t
  | sl a lo hi iha ihl ihh =>
    have ev : ∀ δ r, eval Γ (.sl a lo hi) δ = some r → EvOk C B0 H0 (rd C Γ (.sl a lo hi)) δ r := fun δ r h => by
      simp only [eval] at h
      split at h
      · rename_i xs f1 g1 e1
        split at h
        · rename_i l e2
          split at h
          · rename_i u e3; cases h; simp only [rd]; exact (nw_sl (iha.1 δ _ e1) (ihl.2.2.1 δ _ e2) (ihh.2.2.1 δ _ e3)).up.ev
          · cases h
        · cases h
      · cases h
    refine ⟨ev, fun δ r h => ?_, fun δ r h => ?_, fun δ r h => ?_, fun δ b f g t h => ?_⟩
    · simp [evalA] at h
    · simp [evalO] at h
    · simp [evalI] at h
    · simp [isTst] at t
  | tup es ihe =>
    have ev : ∀ δ r, eval Γ (.tup es) δ = some r → EvOk C B0 H0 (rd C Γ (.tup es)) δ r := fun δ r h => by
      simp only [eval] at h
      split at h
      · rename_i ds f1 g1 e1
        split at h
        · rename_i e2; cases h; simp only [rd]; exact ev_tup (ihe.2.1 δ _ e1) e2
        · cases h
      · cases h
    refine ⟨ev, fun δ r h => ?_, fun δ r h => ?_, fun δ r h => ?_, fun δ b f g t h => ?_⟩
    · simp [evalA] at h
    · simp [evalO] at h
    · simp [evalI] at h
    · simp [isTst] at t
  | lst es ihe =>
    have ev : ∀ δ r, eval Γ (.lst es) δ = some r → EvOk C B0 H0 (rd C Γ (.lst es)) δ r := fun δ r h => by
      simp only [eval] at h
      split at h
      · rename_i ds f1 g1 e1
        split at h
        · rename_i e2; cases h; simp only [rd]; exact (nw_lst (ihe.2.1 δ _ e1) e2).ev
        · cases h
      · cases h
    refine ⟨ev, fun δ r h => ?_, fun δ r h => ?_, fun δ r h => ?_, fun δ b f g t h => ?_⟩
    · simp [evalA] at h
    · simp [evalO] at h
    · simp [evalI] at h
    · simp [isTst] at t
  | len a iha =>
    have ev : ∀ δ r, eval Γ (.len a) δ = some r → EvOk C B0 H0 (rd C Γ (.len a)) δ r := fun δ r h => by
      simp only [eval] at h
      split at h
      · rename_i xs f1 g1 e1; cases h; simp only [rd]; exact ev_lenL (iha.1 δ _ e1)
      · rename_i xs f1 g1 e1; cases h; simp only [rd]; exact ev_lenT (iha.1 δ _ e1)
      · cases h
    refine ⟨ev, fun δ r h => ?_, fun δ r h => ?_, fun δ r h => ?_, fun δ b f g t h => ?_⟩
    · simp [evalA] at h
    · simp [evalO] at h
    · simp [evalI] at h
    · simp [isTst] at t
  | isI t a iha =>
    have ev : ∀ δ r, eval Γ (.isI t a) δ = some r → EvOk C B0 H0 (rd C Γ (.isI t a)) δ r := fun δ r h => by
      simp only [eval] at h
      split at h
      · rename_i d f1 g1 e1
        split at h
        · rename_i b e2; cases h; simp only [rd]; exact ev_isI (iha.1 δ _ e1) e2
        · cases h
      · cases h
    refine ⟨ev, fun δ r h => ?_, fun δ r h => ?_, fun δ r h => ?_, fun δ b f g t h => ?_⟩
    · simp [evalA] at h
    · simp [evalO] at h
    · simp [evalI] at h
    · have k := ev δ _ h
      simp only [rd] at k
      simp only [rdT]
      exact tt_B k
  | toL a iha =>
    have ev : ∀ δ r, eval Γ (.toL a) δ = some r → EvOk C B0 H0 (rd C Γ (.toL a)) δ r := fun δ r h => by
      simp only [eval] at h
      split at h
      · rename_i xs f1 g1 e1; cases h; simp only [rd]; exact (nw_toL (iha.1 δ _ e1)).up.ev
      · rename_i xs f1 g1 e1; cases h; simp only [rd]; exact (nw_toLT (iha.1 δ _ e1)).up.ev
      · cases h
    refine ⟨ev, fun δ r h => ?_, fun δ r h => ?_, fun δ r h => ?_, fun δ b f g t h => ?_⟩
    · simp [evalA] at h
    · simp [evalO] at h
    · simp [evalI] at h
    · simp [isTst] at t
  | all a iha =>
    have ev : ∀ δ r, eval Γ (.all a) δ = some r → EvOk C B0 H0 (rd C Γ (.all a)) δ r := fun δ r h => by
      simp only [eval] at h
      split at h
      · rename_i xs f1 g1 e1
        split at h
        · rename_i bs e2; cases h; simp only [rd]; exact ev_bls (iha.1 δ _ e1) e2 (emp_bl _) fun a H Q s q => ⟨a, bs, rfl, s, q⟩
        · cases h
      · cases h
    refine ⟨ev, fun δ r h => ?_, fun δ r h => ?_, fun δ r h => ?_, fun δ b f g t h => ?_⟩
    · simp [evalA] at h
    · simp [evalO] at h
    · simp [evalI] at h
    · have k := ev δ _ h
      simp only [rd] at k
      simp only [rdT]
      exact tt_B k
  | any a iha =>
    have ev : ∀ δ r, eval Γ (.any a) δ = some r → EvOk C B0 H0 (rd C Γ (.any a)) δ r := fun δ r h => by
      simp only [eval] at h
      split at h
      · rename_i xs f1 g1 e1
        split at h
        · rename_i bs e2; cases h; simp only [rd]; exact ev_bls (iha.1 δ _ e1) e2 (emp_bl _) fun a H Q s q => ⟨a, bs, rfl, s, q⟩
        · cases h
      · cases h
    refine ⟨ev, fun δ r h => ?_, fun δ r h => ?_, fun δ r h => ?_, fun δ b f g t h => ?_⟩
    · simp [evalA] at h
    · simp [evalO] at h
    · simp [evalI] at h
    · have k := ev δ _ h
      simp only [rd] at k
      simp only [rdT]
      exact tt_B k
  | cnt a b iha ihb =>
    have ev : ∀ δ r, eval Γ (.cnt a b) δ = some r → EvOk C B0 H0 (rd C Γ (.cnt a b)) δ r := fun δ r h => by
      simp only [eval] at h
      split at h
      · rename_i i f1 g1 e1
        split at h
        · rename_i j f2 g2 e2
          split at h
          · rename_i ns e3; cases h; simp only [rd]; exact ev_cnt (iha.1 δ _ e1) (ihb.1 δ _ e2) e3
          · cases h
        · cases h
      · cases h
    refine ⟨ev, fun δ r h => ?_, fun δ r h => ?_, fun δ r h => ?_, fun δ b f g t h => ?_⟩
    · simp [evalA] at h
    · simp [evalO] at h
    · simp [evalI] at h
    · simp [isTst] at t
  | min2 a b iha ihb =>
    have ev : ∀ δ r, eval Γ (.min2 a b) δ = some r → EvOk C B0 H0 (rd C Γ (.min2 a b)) δ r := fun δ r h => by
      simp only [eval] at h
      split at h
      · rename_i i f1 g1 e1
        split at h
        · rename_i j f2 g2 e2
          cases h; simp only [rd]; exact ev_mm (iha.1 δ _ e1) (ihb.1 δ _ e2) fun H Q q => ⟨_, _, rfl, q⟩
        · cases h
      · cases h
    refine ⟨ev, fun δ r h => ?_, fun δ r h => ?_, fun δ r h => ?_, fun δ b f g t h => ?_⟩
    · simp [evalA] at h
    · simp [evalO] at h
    · simp [evalI] at h
    · simp [isTst] at t
  | max2 a b iha ihb =>
    have ev : ∀ δ r, eval Γ (.max2 a b) δ = some r → EvOk C B0 H0 (rd C Γ (.max2 a b)) δ r := fun δ r h => by
      simp only [eval] at h
      split at h
      · rename_i i f1 g1 e1
        split at h
        · rename_i j f2 g2 e2
          cases h; simp only [rd]; exact ev_mm (iha.1 δ _ e1) (ihb.1 δ _ e2) fun H Q q => ⟨_, _, rfl, q⟩
        · cases h
      · cases h
    refine ⟨ev, fun δ r h => ?_, fun δ r h => ?_, fun δ r h => ?_, fun δ b f g t h => ?_⟩
    · simp [evalA] at h
    · simp [evalO] at h
    · simp [evalI] at h
    · simp [isTst] at t
  | sum a iha =>
    have ev : ∀ δ r, eval Γ (.sum a) δ = some r → EvOk C B0 H0 (rd C Γ (.sum a)) δ r := fun δ r h => by
      simp only [eval] at h
      split at h
      · rename_i xs f1 g1 e1
        split at h
        · rename_i bs e2; cases h; simp only [rd]; exact ev_ints (iha.1 δ _ e1) e2 (emp_int _) fun a H Q s q => ⟨a, bs, rfl, s, q⟩
        · cases h
      · cases h
    refine ⟨ev, fun δ r h => ?_, fun δ r h => ?_, fun δ r h => ?_, fun δ b f g t h => ?_⟩
    · simp [evalA] at h
    · simp [evalO] at h
    · simp [evalI] at h
    · simp [isTst] at t
  | srt a iha =>
    have ev : ∀ δ r, eval Γ (.srt a) δ = some r → EvOk C B0 H0 (rd C Γ (.srt a)) δ r := fun δ r h => by
      simp only [eval] at h
      split at h
      · rename_i xs f1 g1 e1
        split at h
        · rename_i ns e2
          split at h
          · rename_i e3; cases h; simp only [rd]; exact (nw_srt (iha.1 δ _ e1) e2 e3).ev
          · cases h
        · cases h
      · cases h
    refine ⟨ev, fun δ r h => ?_, fun δ r h => ?_, fun δ r h => ?_, fun δ b f g t h => ?_⟩
    · simp [evalA] at h
    · simp [evalO] at h
    · simp [evalI] at h
    · simp [isTst] at t
  | call k es ihe =>
    have ev : ∀ δ r, eval Γ (.call k es) δ = some r → EvOk C B0 H0 (rd C Γ (.call k es)) δ r := fun δ r h => by
      simp only [eval] at h
      split at h
      · rename_i F eF
        split at h
        · rename_i ds f1 g1 e1
          split at h
          · rename_i e2
            split at h
            · rename_i d e3; cases h; simp only [rd, eF]; exact ev_call (ihe.2.1 δ _ e1) e2 e3
            · cases h
          · cases h
        · cases h
      · cases h
    refine ⟨ev, fun δ r h => ?_, fun δ r h => ?_, fun δ r h => ?_, fun δ b f g t h => ?_⟩
    · simp [evalA] at h
    · simp [evalO] at h
    · simp [evalI] at h
    · have k := ev δ _ h
      simp only [rd] at k
      simp only [rdT]
      exact tt_B k
  | lc t it e ihi ihe =>
    have ev : ∀ δ r, eval Γ (.lc t it e) δ = some r → EvOk C B0 H0 (rd C Γ (.lc t it e)) δ r := fun δ r h => by
      simp only [eval] at h
      split at h
      · rename_i ds g e1
        split at h
        · rename_i e2
          split at h
          · rename_i ys gs e3; cases h; simp only [rd]; exact (nw_lc (ihi.2.2.2.1 δ _ e1) e2 e3 (fun δ2 b hb => by cases hb; exact tt_yes) (fun δ2 r hr => ihe.1 δ2 r hr)).ev
          · cases h
        · cases h
      · cases h
    refine ⟨ev, fun δ r h => ?_, fun δ r h => ?_, fun δ r h => ?_, fun δ b f g t h => ?_⟩
    · simp [evalA] at h
    · simp [evalO] at h
    · simp [evalI] at h
    · simp [isTst] at t
  | lcf t it c e ihi ihc ihe =>
    have ev : ∀ δ r, eval Γ (.lcf t it c e) δ = some r → EvOk C B0 H0 (rd C Γ (.lcf t it c e)) δ r := fun δ r h => by
      simp only [eval] at h
      split at h
      · rename_i ds g e1
        split at h
        · rename_i e2
          split at h
          · rename_i ys gs e3; cases h; simp only [rd]; exact (nw_lc (ihi.2.2.2.1 δ _ e1) e2.1 e3 (fun δ2 b hb => tst_tt e2.2 ihc.2.2.2.2 hb) (fun δ2 r hr => ihe.1 δ2 r hr)).ev
          · cases h
        · cases h
      · cases h
    refine ⟨ev, fun δ r h => ?_, fun δ r h => ?_, fun δ r h => ?_, fun δ b f g t h => ?_⟩
    · simp [evalA] at h
    · simp [evalO] at h
    · simp [evalI] at h
    · simp [isTst] at t
  | nil  =>
    have ev : ∀ δ r, eval Γ (.nil ) δ = some r → EvOk C B0 H0 (rd C Γ (.nil )) δ r := fun δ r h => by
      simp [eval] at h
    refine ⟨ev, fun δ r h => ?_, fun δ r h => ?_, fun δ r h => ?_, fun δ b f g t h => ?_⟩
    · simp only [evalA] at h; cases h; simp only [rdA]; exact ar_nil
    · simp only [evalO] at h; cases h; simp only [rdO]; exact po_none
    · simp [evalI] at h
    · simp [isTst] at t
  | cons a tl iha ihr =>
    have ev : ∀ δ r, eval Γ (.cons a tl) δ = some r → EvOk C B0 H0 (rd C Γ (.cons a tl)) δ r := fun δ r h => by
      simp [eval] at h
    refine ⟨ev, fun δ r h => ?_, fun δ r h => ?_, fun δ r h => ?_, fun δ b f g t h => ?_⟩
    · simp only [evalA] at h
      split at h
      · rename_i d f1 g1 e1
        split at h
        · rename_i ds f2 g2 e2; cases h; simp only [rdA]; exact ar_cons (iha.1 δ _ e1) (ihr.2.1 δ _ e2)
        · cases h
      · cases h
    · cases tl with
      | nil =>
        simp only [evalO] at h
        split at h
        · rename_i i f1 g1 e1; cases h; simp only [rdO]; exact po_some (iha.1 δ _ e1)
        · cases h
      | _ => simp [evalO] at h
    · simp [evalI] at h
    · simp [isTst] at t
  | itL a iha =>
    have ev : ∀ δ r, eval Γ (.itL a) δ = some r → EvOk C B0 H0 (rd C Γ (.itL a)) δ r := fun δ r h => by
      simp [eval] at h
    refine ⟨ev, fun δ r h => ?_, fun δ r h => ?_, fun δ r h => ?_, fun δ b f g t h => ?_⟩
    · simp [evalA] at h
    · simp [evalO] at h
    · simp only [evalI] at h
      split at h
      · rename_i ds g e1; cases h; simp only [rdI]; exact it_L (iha.1 δ _ e1)
      · cases h
    · simp [isTst] at t
  | itT a iha =>
    have ev : ∀ δ r, eval Γ (.itT a) δ = some r → EvOk C B0 H0 (rd C Γ (.itT a)) δ r := fun δ r h => by
      simp [eval] at h
    refine ⟨ev, fun δ r h => ?_, fun δ r h => ?_, fun δ r h => ?_, fun δ b f g t h => ?_⟩
    · simp [evalA] at h
    · simp [evalO] at h
    · simp only [evalI] at h
      split at h
      · rename_i ds g e1; cases h; simp only [rdI]; exact it_T (iha.1 δ _ e1)
      · cases h
    · simp [isTst] at t
  | itE a iha =>
    have ev : ∀ δ r, eval Γ (.itE a) δ = some r → EvOk C B0 H0 (rd C Γ (.itE a)) δ r := fun δ r h => by
      simp [eval] at h
    refine ⟨ev, fun δ r h => ?_, fun δ r h => ?_, fun δ r h => ?_, fun δ b f g t h => ?_⟩
    · simp [evalA] at h
    · simp [evalO] at h
    · simp only [evalI] at h
      split at h
      · rename_i ds g e1; cases h; simp only [rdI]; exact it_E (iha.1 δ _ e1)
      · cases h
    · simp [isTst] at t
  | itR a iha =>
    have ev : ∀ δ r, eval Γ (.itR a) δ = some r → EvOk C B0 H0 (rd C Γ (.itR a)) δ r := fun δ r h => by
      simp [eval] at h
    refine ⟨ev, fun δ r h => ?_, fun δ r h => ?_, fun δ r h => ?_, fun δ b f g t h => ?_⟩
    · simp [evalA] at h
    · simp [evalO] at h
    · simp only [evalI] at h
      split at h
      · rename_i n f1 g1 e1
        split at h
        · rename_i e2; cases h; simp only [rdI]; exact it_R (iha.1 δ _ e1) e2
        · cases h
      · cases h
    · simp [isTst] at t
  | itR2 a b iha ihb =>
    have ev : ∀ δ r, eval Γ (.itR2 a b) δ = some r → EvOk C B0 H0 (rd C Γ (.itR2 a b)) δ r := fun δ r h => by
      simp [eval] at h
    refine ⟨ev, fun δ r h => ?_, fun δ r h => ?_, fun δ r h => ?_, fun δ b f g t h => ?_⟩
    · simp [evalA] at h
    · simp [evalO] at h
    · simp only [evalI] at h
      split at h
      · rename_i m f1 g1 e1
        split at h
        · rename_i n f2 g2 e2
          split at h
          · rename_i e3; cases h; simp only [rdI]; exact it_R2 (iha.1 δ _ e1) (ihb.1 δ _ e2) e3
          · cases h
        · cases h
      · cases h
    · simp [isTst] at t
  | itZ a b iha ihb =>
    have ev : ∀ δ r, eval Γ (.itZ a b) δ = some r → EvOk C B0 H0 (rd C Γ (.itZ a b)) δ r := fun δ r h => by
      simp [eval] at h
    refine ⟨ev, fun δ r h => ?_, fun δ r h => ?_, fun δ r h => ?_, fun δ b f g t h => ?_⟩
    · simp [evalA] at h
    · simp [evalO] at h
    · simp only [evalI] at h
      split at h
      · rename_i xs g1 e1
        split at h
        · rename_i ys g2 e2; cases h; simp only [rdI]; exact it_Z (iha.1 δ _ e1) (ihb.1 δ _ e2)
        · cases h
      · cases h
    · simp [isTst] at t
end
end G

namespace G
open PySem L2
/-! ### new lists -/
def isNew : E → Bool
  | .cat _ _ => true | .rep _ _ => true | .sl _ _ _ => true | .lst _ => true | .toL _ => true | .srt _ => true | .lc _ _ _ => true | .lcf _ _ _ _ => true
  | _ => false
section
variable {C : Cf} {B0 H0 : Hp} {Γ : Ga}
theorem eval_new (hk : KsOk C Γ) {c : E} {δ : List Sl} {ds : List D} {f g : Bool} (n : isNew c = true) (h : eval Γ c δ = some (.ls ds, f, g)) : NwOk C B0 H0 (rd C Γ c) δ ds f g := by
  have ev := fun c => (eval_all (B0 := B0) (H0 := H0) hk c)
  cases c <;> simp only [isNew, Bool.false_eq_true] at n
  · simp only [eval] at h
    split at h
    · rename_i i f1 g1 e1
      split at h
      · rename_i j f2 g2 e2
        split at h
        · rename_i e3; cases h; simp only [rd]; exact (nw_cat ((ev _).1 δ _ e1) ((ev _).1 δ _ e2) e3).up
        · cases h
      · cases h
    · cases h
  · simp only [eval] at h
    split at h
    · rename_i i f1 g1 e1
      split at h
      · rename_i j f2 g2 e2
        split at h
        · rename_i e3; cases h; simp only [rd]; exact (nw_rep ((ev _).1 δ _ e1) ((ev _).1 δ _ e2) e3).up
        · cases h
      · cases h
    · cases h
  · simp only [eval] at h
    split at h
    · rename_i xs f1 g1 e1
      split at h
      · rename_i l e2
        split at h
        · rename_i u e3; cases h; simp only [rd]; exact (nw_sl ((ev _).1 δ _ e1) ((ev _).2.2.1 δ _ e2) ((ev _).2.2.1 δ _ e3)).up
        · cases h
      · cases h
    · cases h
  · simp only [eval] at h
    split at h
    · rename_i ds f1 g1 e1
      split at h
      · rename_i e2; cases h; simp only [rd]; exact nw_lst ((ev _).2.1 δ _ e1) e2
      · cases h
    · cases h
  · simp only [eval] at h
    split at h
    · rename_i xs f1 g1 e1; cases h; simp only [rd]; exact (nw_toL ((ev _).1 δ _ e1)).up
    · rename_i xs f1 g1 e1; cases h; simp only [rd]; exact (nw_toLT ((ev _).1 δ _ e1)).up
    · cases h
  · simp only [eval] at h
    split at h
    · rename_i xs f1 g1 e1
      split at h
      · rename_i ns e2
        split at h
        · rename_i e3; cases h; simp only [rd]; exact nw_srt ((ev _).1 δ _ e1) e2 e3
        · cases h
      · cases h
    · cases h
  · simp only [eval] at h
    split at h
    · rename_i ds g e1
      split at h
      · rename_i e2
        split at h
        · rename_i ys gs e3; cases h; simp only [rd]; exact nw_lc ((ev _).2.2.2.1 δ _ e1) e2 e3 (fun δ2 b hb => by cases hb; exact tt_yes) (fun δ2 r hr => (ev _).1 δ2 r hr)
        · cases h
      · cases h
    · cases h
  · simp only [eval] at h
    split at h
    · rename_i ds g e1
      split at h
      · rename_i e2
        split at h
        · rename_i ys gs e3; cases h; simp only [rd]; exact nw_lc ((ev _).2.2.2.1 δ _ e1) e2.1 e3 (fun δ2 b hb => tst_tt e2.2 (ev _).2.2.2.2 hb) (fun δ2 r hr => (ev _).1 δ2 r hr)
        · cases h
      · cases h
    · cases h
end

/-! ### statements -/
inductive S where
  | nil | seq (a r : S) | asg (t : Tg) (e : E) | own (i : Nat) (e : E) | par (i j : Nat) (oi oj : Bool) (a b : E)
  | app (i : Nat) (e : E) | ext (i : Nat) (e : E) | six (i : Nat) (b e : E) | aix (i : Nat) (b e : E) | aug (i : Nat) (e : E)
  | ite (c : E) (a b : S) | loop (t : Tg) (it : E) (b : S) | ret (e : E) | exp (e : E) | frz (i : Nat) (r : S) | die | rgs (i k : Nat) (es : E) | spo (i : Nat) (b e : E)
inductive Rz where
  | nx (δ : List Sl) | rt (r : Rs)
def slotOf (o : Bool) (e : E) : Rs → Option Sl
  | (d, true, g) => if o = true then (match d with
    | .ls ds => if isNew e = true then some (.ow ds g) else none
    | _ => none) else some (.sh d g)
  | _ => none
def forRun (t : Tg) (g : Bool) (ex : List Sl → Option Rz) : List D → List Sl → Option Rz
  | [], δ => some (.nx δ)
  | d :: r, δ => match t.run g d δ with
    | none => none
    | some δ1 => match ex δ1 with
      | some (.nx δ2) => forRun t g ex r δ2
      | some (.rt v) => some (.rt v)
      | none => none
def exec (Γ : Ga) : S → List Sl → Option Rz
  | .nil, δ => some (.nx δ)
  | .seq a r, δ => match exec Γ a δ with
    | some (.nx δ1) => exec Γ r δ1
    | some (.rt v) => some (.rt v)
    | none => none
  | .asg t e, δ => match eval Γ e δ with
    | some (d, true, g) => match t.run g d δ with
      | some δ1 => some (.nx δ1)
      | none => none
    | _ => none
  | .own i e, δ => match eval Γ e δ with
    | some r => match slotOf true e r with
      | some s => some (.nx (δ.set i s))
      | none => none
    | none => none
  | .par i j oi oj a b, δ => match eval Γ a δ with
    | some r => match slotOf oi a r with
      | some s => match eval Γ b δ with
        | some r' => match slotOf oj b r' with
          | some s' => some (.nx ((δ.set i s).set j s'))
          | none => none
        | none => none
      | none => none
    | none => none
  | .app i e, δ => match δ[i]? with
    | some (.ow ds g) => match eval Γ e δ with
      | some (d, true, g') => if ds.length < 100000 then some (.nx (δ.set i (.ow (ds ++ [d]) (g && (g' || d.flat))))) else none
      | _ => none
    | _ => none
  | .ext i e, δ => match δ[i]? with
    | some (.ow ds g) => match eval Γ e δ with
      | some (.ls es, true, g') => if ds.length + es.length < 100000 then some (.nx (δ.set i (.ow (ds ++ es) (g && (g' || flats es))))) else none
      | _ => none
    | _ => none
  | .six i b e, δ => match δ[i]? with
    | some (.ow ds g) => match eval Γ e δ with
      | some (d, true, g') => match eval Γ b δ with
        | some (.int k, _, _) => match ixN ds.length k with
          | some j => some (.nx (δ.set i (.ow (ds.set j d) (g && (g' || d.flat)))))
          | none => none
        | _ => none
      | _ => none
    | _ => none
  | .aix i b e, δ => match δ[i]? with
    | some (.ow ds g) => match eval Γ b δ with
      | some (.int k, _, _) => match atI ds k with
        | some (.int x) => match eval Γ e δ with
          | some (.int y, _, _) => match ixN ds.length k with
            | some j => some (.nx (δ.set i (.ow (ds.set j (.int (x + y))) g)))
            | none => none
          | _ => none
        | _ => none
      | _ => none
    | _ => none
  | .aug i e, δ => match δ[i]? with
    | some (.sh (.int x) _) => match eval Γ e δ with
      | some (.int y, _, _) => some (.nx (δ.set i (.sh (.int (x + y)) true)))
      | _ => none
    | _ => none
  | .ite c a b, δ => if isTst c = true then (match eval Γ c δ with
    | some (.bl true, _, _) => exec Γ a δ
    | some (.bl false, _, _) => exec Γ b δ
    | _ => none) else none
  | .loop t it b, δ => match evalI Γ it δ with
    | some (ds, g) => forRun t g (fun δ => exec Γ b δ) ds δ
    | none => none
  | .ret e, δ => match eval Γ e δ with
    | some r => some (.rt r)
    | none => none
  | .exp e, δ => match eval Γ e δ with
    | some _ => some (.nx δ)
    | none => none
  | .frz i r, δ => match δ[i]? with
    | some (.ow ds g) => exec Γ r (δ.set i (.sh (.ls ds) g))
    | _ => none
  | .die, _ => none
  | .rgs i k es, δ => match Γ.fs[k]? with
    | some F => match evalA Γ es δ with
      | some (ds, _, _) => if ds.length = F.ar ∧ F.fr = true then (match F.run ds with
        | some d => some (.nx (δ.set i (.rg d)))
        | none => none) else none
      | none => none
    | none => none
  | .spo i b e, δ => match δ[i]? with
    | some (.rg (.tp ds)) => match eval Γ b δ with
      | some (.int k, _, _) => match atI ds k with
        | some (.ls xs) => match eval Γ e δ with
          | some _ => if xs.length < 100000 then some (.nx (δ.map noRg)) else none
          | none => none
        | _ => none
      | _ => none
    | _ => none
def rGetL (K : PySem.W.Frag) : V → V → Hp → VK → Prop := fun o i H Q => ∃ p xs k v, o = .ref p ∧ i = .int k ∧ SqL K H p xs ∧ atI xs k = some v ∧ Q v H
def rdS (C : Cf) (Γ : Ga) : S → TS
  | .nil => tNext
  | .seq a r => tSeq (rdS C Γ a) (rdS C Γ r)
  | .asg t e => tAsg (rd C Γ e) (t.rd C.K)
  | .own i e => tAsg (rd C Γ e) (gName i)
  | .par i j _ _ a b => tPar i j (tCons (rd C Γ a) (tCons (rd C Γ b) tNil))
  | .app i e => tDrop (tBM C.K "list" rAppend (tVar i) (tCons (rd C Γ e) tNil))
  | .ext i e => tDrop (tBM C.K "list" rExtend (tVar i) (tCons (rd C Γ e) tNil))
  | .six i b e => tAsg (rd C Γ e) (gSub (tVar i) (rd C Γ b) rSetL)
  | .aix i b e => tAugS (tVar i) (rd C Γ b) (rd C Γ e) (rGetL C.K) (ipI fun i j => i + j) rSetL
  | .aug i e => tAug i (rd C Γ e) (ipI fun i j => i + j)
  | .ite c a b => tIfS (rdT C Γ c) (rdS C Γ a) (rdS C Γ b)
  | .loop t it b => tFor (rdI C Γ it) (t.rd C.K) (rdS C Γ b)
  | .ret e => tRet (rd C Γ e)
  | .exp e => tDrop (rd C Γ e)
  | .frz _ r => rdS C Γ r
  | .die => tNever
  | .rgs i k es => tAsg (match Γ.fs[k]? with
    | some F => tCall (spOf C F) [] E0 (rdA C Γ es)
    | none => tFalse) (gName i)
  | .spo i b e => tDrop (tBM C.K "list" rAppend (tOp (rIx C.K) (tVar i) (rd C Γ b)) (tCons (rd C Γ e) tNil))
section
variable (C : Cf) (B0 H0 : Hp)
def StOk (ts : TS) (δ : List Sl) (z : Rz) : Prop := ∀ B H σ, Stt C B0 H0 B H σ δ → ∀ Dn : Ends, (∀ δ', z = .nx δ' → ∀ B' H' σ', Same B B' → Stt C B0 H0 B' H' σ' δ' → Dn.nx σ' H') →
  (∀ r, z = .rt r → ∀ v B' H' σ' δ', Same B B' → Stt C B0 H0 B' H' σ' δ' → Rp C (Rg B0 H0 B' H' r.2.1 r.2.2) r.1 v → Dn.rt v H') → ts Dn σ H
end
section
variable {C : Cf} {B0 H0 : Hp} {Γ : Ga} {δ : List Sl}
/-- a value that is to be stored as s -/
def SlV (C : Cf) (B0 H0 H B' H' : Hp) (v : V) : Sl → Prop
  | .no => False
  | .rg _ => False
  | .sh d g => Rp C (Rg B0 H0 B' H' true g) d v
  | .ow ds g => ∃ p vs, v = .ref p ∧ H p = none ∧ B' p = none ∧ H' p = some (.lst vs) ∧ Rps C (Rg B0 H0 B' H' true g) ds vs
theorem slot_ok (hk : KsOk C Γ) {o : Bool} {e : E} {r : Rs} {s : Sl} (h : eval Γ e δ = some r) (hs : slotOf o e r = some s) {B H : Hp} {σ : St} (S : Stt C B0 H0 B H σ δ) {Q : VK}
    (q : ∀ v B' H', Gro B H B' H' → Stt C B0 H0 B' H' σ δ → SlV C B0 H0 H B' H' v s → Q v H') : rd C Γ e σ H Q := by
  obtain ⟨d, f, g⟩ := r
  cases f with
  | false => simp [slotOf] at hs
  | true =>
    cases o with
    | false =>
      simp only [slotOf, Bool.false_eq_true, if_false, Option.some.injEq] at hs
      subst hs
      exact (eval_all hk e).1 δ _ h B H σ S Q q
    | true =>
      simp only [slotOf, if_true] at hs
      split at hs
      · split at hs
        · rename_i ds n
          cases hs
          exact eval_new hk n h B H σ S Q fun p vs B' H' G S' h1 h2 h3 r => q _ B' H' G S' ⟨p, vs, rfl, h1, h2, h3, r⟩
        · cases hs
      · cases hs
theorem SlV.up {H B' H' B2 H2 : Hp} {v : V} {s : Sl} (h : SlV C B0 H0 H B' H' v s) (G : Gro B' H' B2 H2) : SlV C B0 H0 H B2 H2 v s := by
  cases s with
  | no => exact h
  | rg d => exact h
  | sh d g => exact Rp.mono (G.rg true g) h
  | ow ds g =>
    obtain ⟨p, vs, e, h1, h2, h3, r⟩ := h
    refine ⟨p, vs, e, h1, ?_, G.eh _ _ h3, r.mono (G.rg true g)⟩
    cases z : B2 p with
    | none => rfl
    | some o =>
      rcases G.nw p o z with k | k
      · rw [h2] at k; cases k
      · rw [h3] at k; cases k
theorem Stt.noat {B H : Hp} {σ : St} (S : Stt C B0 H0 B H σ δ) {p : Addr} (hp : H p = none) (i : Nat) (ds : List D) (g : Bool) (k : δ[i]? = some (.ow ds g)) : σ[i]? ≠ some (some (.ref p)) := fun z => by
  obtain ⟨p', vs, e, _, _, hh, _⟩ := S.own i ds g k
  rw [z] at e
  cases e
  rw [hp] at hh
  cases hh
theorem Stt.setSl {B H B' H' : Hp} {σ : St} {v : V} {s : Sl} {j : Nat} (S : Stt C B0 H0 B H σ δ) (G : Gro B H B' H') (S' : Stt C B0 H0 B' H' σ δ) (h : SlV C B0 H0 H B' H' v s) : Stt C B0 H0 B' H' (σ.set j (some v)) (δ.set j s) := by
  cases s with
  | no => exact h.elim
  | rg d => exact h.elim
  | sh d g => exact S'.setSh h
  | ow ds g =>
    obtain ⟨p, vs, rfl, h1, h2, h3, r⟩ := h
    refine S'.setOw (S.ex0.free h1) h2 h3 r (fun i ds g k _ => S.noat h1 i ds g k) fun i d k => ?_
    obtain ⟨v, N, e, hN, hq, r⟩ := S.rgn i d k
    have nN : ∀ q o, N q = some o → B' q = none := fun q o z => by
      cases w : B' q with
      | none => rfl
      | some o' =>
        rcases G.nw q o' w with y | y
        · rw [(hq q o z).2.1] at y; cases y
        · rw [hN _ _ z] at y; cases y
    refine ⟨v, N, e, ?_, hN.trans G.eh, fun q o z => ⟨(hq q o z).1, nN q o z, (hq q o z).2.2⟩, r⟩
    cases z : N p with
    | none => rfl
    | some o => rw [hN _ _ z] at h1; cases h1
theorem rp_up {B H : Hp} {f g : Bool} {d : D} {v : V} (r : Rp C (Rg B0 H0 B H f g) d v) : Rp C (Rg B0 H0 B H f (g || d.flat)) d v := by
  cases e : d.flat with
  | true => exact r.flat e
  | false => rw [Bool.or_false]; exact r
theorem rps_up {B H : Hp} {f g : Bool} {ds : List D} {vs : List V} (r : Rps C (Rg B0 H0 B H f g) ds vs) : Rps C (Rg B0 H0 B H f (g || flats ds)) ds vs := by
  cases e : flats ds with
  | true => exact rps_flat e r
  | false => rw [Bool.or_false]; exact r
theorem ixN_lt {n : Nat} {k : Int} {j : Nat} (h : ixN n k = some j) : j < n := by
  unfold ixN at h
  split at h
  · split at h
    · cases h; omega
    · cases h
  · split at h
    · cases h; omega
    · cases h
theorem st_for {t : Tg} {wi : TI} {tb : TS} {ds : List D} {g : Bool} {ex : List Sl → Option Rz} {z : Rz} (hi : ItOk C B0 H0 wi δ (ds, g)) (h : forRun t g ex ds δ = some z) (hb : ∀ δ1 z1, ex δ1 = some z1 → StOk C B0 H0 tb δ1 z1) : StOk C B0 H0 (tFor wi (t.rd C.K) tb) δ z := by
  intro B H σ S Dn qn qr
  refine hi B H σ S _ fun J B1 H1 G1 S1 wk => ?_
  obtain ⟨Gd, Y, w, wg, wy⟩ := wk
  refine for_it w (fun i σ' H' => ∃ B' δ', Same B1 B' ∧ Stt C B0 H0 B' H' σ' δ' ∧ forRun t g ex (ds.drop i) δ' = some z) ⟨B1, δ, Same.refl _, S1, h⟩ ?_ ?_ ?_
  · rintro i σ' H' _ ⟨B', δ', e, S', _⟩
    exact wg B' H' σ' δ' e S'
  · rintro i x σ' H' H2 hlt ⟨B', δ', e, S', run⟩ y
    obtain ⟨d, B2, ed, G2, S2, rx⟩ := wy i H' x H2 B' σ' δ' hlt e S' y
    have edr : ds.drop i = d :: ds.drop (i + 1) := by
      have hlt' : i < ds.length := hlt
      rw [List.getElem?_eq_getElem hlt'] at ed
      rw [List.drop_eq_getElem_cons hlt']
      cases ed
      rfl
    rw [edr] at run
    simp only [forRun] at run
    split at run
    · cases run
    · rename_i δ1 e1
      refine Tg.ok g t d S2 rx e1 fun σ2 S3 _ => ?_
      split at run
      · rename_i δ2 e2
        refine hb δ1 _ e2 B2 H2 σ2 S3 _ (fun δ3 hz B3 H3 σ3 e3 S4 => ?_) (fun r hz => by cases hz)
        cases hz
        exact ⟨B3, δ2, (e.trans G2.eb).trans e3, S4, run⟩
      · rename_i v e2
        refine hb δ1 _ e2 B2 H2 σ2 S3 _ (fun δ3 hz => by cases hz) (fun r hz v' B3 H3 σ3 δ3 e3 S4 rv => ?_)
        cases hz
        cases run
        exact qr _ rfl v' B3 H3 σ3 δ3 (G1.eb.trans ((e.trans G2.eb).trans e3)) S4 rv
      · cases run
  · rintro σ' H' ⟨B', δ', e, S', run⟩
    rw [show ds.drop ds.length = [] from List.drop_length] at run
    simp only [forRun, Option.some.injEq] at run
    exact qn δ' run.symm B' H' σ' (G1.eb.trans e) S'
theorem exec_ok (hk : KsOk C Γ) : ∀ (c : S) (δ : List Sl) (z : Rz), exec Γ c δ = some z → StOk C B0 H0 (rdS C Γ c) δ z := by
  have ev := fun c => (eval_all (B0 := B0) (H0 := H0) hk c)
  intro c
  induction c with
  | nil =>
    intro δ z h B H σ S Dn qn qr
    simp only [exec] at h
    cases h
    simp only [rdS]
    exact qn δ rfl B H σ (Same.refl _) S
  | seq a r iha ihr =>
    intro δ z h B H σ S Dn qn qr
    simp only [exec] at h
    simp only [rdS]
    split at h
    · rename_i δ1 e1
      refine iha δ _ e1 B H σ S _ (fun δ' hz B' H' σ' e S' => ?_) (fun r hz => by cases hz)
      cases hz
      exact ihr δ1 z h B' H' σ' S' Dn (fun δ2 hz B2 H2 σ2 e2 S2 => qn δ2 hz B2 H2 σ2 (e.trans e2) S2) (fun r hz v B2 H2 σ2 δ2 e2 S2 rv => qr r hz v B2 H2 σ2 δ2 (e.trans e2) S2 rv)
    · rename_i v e1
      cases h
      exact iha δ _ e1 B H σ S _ (fun δ' hz => by cases hz) (fun r hz v B' H' σ' δ' e S' rv => qr r hz v B' H' σ' δ' e S' rv)
    · cases h
  | asg t e =>
    intro δ z h B H σ S Dn qn qr
    simp only [exec] at h
    simp only [rdS]
    split at h
    · rename_i d g e1
      split at h
      · rename_i δ1 e2
        cases h
        refine (ev e).1 δ _ e1 B H σ S _ fun v B' H' G S' r => ?_
        exact Tg.ok g t d S' r e2 fun σ' S2 _ => qn δ1 rfl B' H' σ' G.eb S2
      · cases h
    · cases h
  | own i e =>
    intro δ z h B H σ S Dn qn qr
    simp only [exec] at h
    simp only [rdS]
    split at h
    · rename_i r e1
      split at h
      · rename_i s e2
        cases h
        refine slot_ok hk e1 e2 S fun v B' H' G S' r => ?_
        exact qn _ rfl B' H' _ G.eb (S.setSl G S' r)
      · cases h
    · cases h
  | par i j oi oj a b =>
    intro δ z h B H σ S Dn qn qr
    simp only [exec] at h
    simp only [rdS]
    split at h
    · rename_i r e1
      split at h
      · rename_i s e2
        split at h
        · rename_i r' e3
          split at h
          · rename_i s' e4
            cases h
            refine slot_ok hk e1 e2 S fun v B' H' G S' r => ?_
            refine slot_ok hk e3 e4 S' fun u B2 H2 G2 S2 r2 => ?_
            refine ⟨v, u, rfl, ?_⟩
            have T0 := S.setSl (j := i) G S' r
            exact qn _ rfl B2 H2 _ (G.trans G2).eb (T0.setSl G2 (T0.by G2 S2) r2)
          · cases h
        · cases h
      · cases h
    · cases h
  | app i e =>
    intro δ z h B H σ S Dn qn qr
    simp only [exec] at h
    simp only [rdS]
    split at h
    · rename_i ds g e0
      split at h
      · rename_i d g' e1
        split at h
        · rename_i hz
          cases h
          obtain ⟨p, vs, ei, h0, hb, hh, r⟩ := S.own i ds g e0
          refine ⟨.ref p, ei, .inl ⟨rfl, _, SqL.of hh⟩, ?_⟩
          refine (ev e).1 δ _ e1 B H σ S _ fun v B' H' G S' rv => ?_
          refine ⟨p, vs, v, rfl, rfl, G.eh _ _ hh, Nat.lt_of_lt_of_le (show vs.length < 100000 by rw [r.len]; exact hz) (by decide), ?_⟩
          refine qn _ rfl B' _ σ G.eb (S'.upOw e0 ei ?_)
          exact ((r.mono (G.rg true g)).mono (S'.weakL true g true _)).app (.one ((rp_up rv).mono (S'.weakR true _ true g)))
        · cases h
      · cases h
    · cases h
  | ext i e =>
    intro δ z h B H σ S Dn qn qr
    simp only [exec] at h
    simp only [rdS]
    split at h
    · rename_i ds g e0
      split at h
      · rename_i es g' e1
        split at h
        · rename_i hz
          cases h
          obtain ⟨p, vs, ei, h0, hb, hh, r⟩ := S.own i ds g e0
          refine ⟨.ref p, ei, .inl ⟨rfl, _, SqL.of hh⟩, ?_⟩
          refine (ev e).1 δ _ e1 B H σ S _ fun v B' H' G S' rv => ?_
          rw [rp_ls] at rv
          obtain ⟨b, us, rfl, hb', ru⟩ := rv
          refine ⟨p, b, vs, us, rfl, rfl, G.eh _ _ hh, S'.toH _ _ _ _ hb', sz_of (by rw [r.len, ru.len]; omega), ?_⟩
          refine qn _ rfl B' _ σ G.eb (S'.upOw e0 ei ?_)
          exact ((r.mono (G.rg true g)).mono (S'.weakL true g true _)).app ((rps_up ru).mono (S'.weakR true _ true g))
        · cases h
      · cases h
    · cases h
  | six i b e =>
    intro δ z h B H σ S Dn qn qr
    simp only [exec] at h
    simp only [rdS]
    split at h
    · rename_i ds g e0
      split at h
      · rename_i d g' e1
        split at h
        · rename_i k f2 g2 e2
          split at h
          · rename_i j e3
            cases h
            refine (ev e).1 δ _ e1 B H σ S _ fun v B' H' G S' rv => ?_
            obtain ⟨p, vs, ei, h0, hb, hh, r⟩ := S'.own i ds g e0
            refine ⟨.ref p, ei, ?_⟩
            refine (ev b).1 δ _ e2 B' H' σ S' _ fun u B2 H2 G2 S2 r2 => ?_
            rw [rp_int] at r2
            subst r2
            refine ⟨p, vs, k, j, rfl, rfl, G2.eh _ _ hh, by rw [r.len]; exact e3, ?_⟩
            refine qn _ rfl B2 _ σ (G.trans G2).eb (S2.upOw e0 ei ?_)
            exact ((r.mono (G2.rg true g)).mono (S2.weakL true g true _)).set j ((rp_up (rv.mono (G2.rg true g'))).mono (S2.weakR true _ true g))
          · cases h
        · cases h
      · cases h
    · cases h
  | aix i b e =>
    intro δ z h B H σ S Dn qn qr
    simp only [exec] at h
    simp only [rdS]
    split at h
    · rename_i ds g e0
      split at h
      · rename_i k f2 g2 e2
        split at h
        · rename_i x e3
          split at h
          · rename_i y f4 g4 e4
            split at h
            · rename_i j e5
              cases h
              obtain ⟨p, vs, ei, h0, hb, hh, r⟩ := S.own i ds g e0
              refine ⟨.ref p, ei, ?_⟩
              refine (ev b).1 δ _ e2 B H σ S _ fun u B' H' G S' r2 => ?_
              rw [rp_int] at r2
              subst r2
              obtain ⟨v, ev', rv⟩ := atI_rps r e3
              rw [rp_int] at rv
              subst rv
              refine ⟨p, vs, k, .int x, rfl, rfl, SqL.of (G.eh _ _ hh), ev', ?_⟩
              refine (ev e).1 δ _ e4 B' H' σ S' _ fun u B2 H2 G2 S2 r3 => ?_
              rw [rp_int] at r3
              subst r3
              refine ⟨x, y, rfl, rfl, p, vs, k, j, rfl, rfl, (G.eh.trans G2.eh) _ _ hh, by rw [r.len]; exact e5, ?_⟩
              refine qn _ rfl B2 _ σ (G.trans G2).eb (S2.upOw e0 ei ?_)
              exact (r.mono ((G.trans G2).rg true g)).set j (by rw [rp_int])
            · cases h
          · cases h
        · cases h
      · cases h
    · cases h
  | aug i e =>
    intro δ z h B H σ S Dn qn qr
    simp only [exec] at h
    simp only [rdS]
    split at h
    · rename_i x g e0
      split at h
      · rename_i y f4 g4 e4
        cases h
        obtain ⟨v, ei, r⟩ := S.shr i _ g e0
        rw [rp_int] at r
        subst r
        refine ⟨.int x, ei, ?_⟩
        refine (ev e).1 δ _ e4 B H σ S _ fun u B2 H2 G2 S2 r3 => ?_
        rw [rp_int] at r3
        subst r3
        exact ⟨x, y, rfl, rfl, qn _ rfl B2 H2 _ G2.eb (S2.setSh (by rw [rp_int]))⟩
      · cases h
    · cases h
  | ite c a b iha ihb =>
    intro δ z h B H σ S Dn qn qr
    simp only [exec] at h
    simp only [rdS]
    split at h
    · rename_i t
      split at h
      · rename_i f1 g1 e1
        refine (ev c).2.2.2.2 δ _ _ _ t e1 B H σ S _ fun B' H' G S' => ?_
        rw [if_pos rfl]
        exact iha δ z h B' H' σ S' Dn (fun δ2 hz B2 H2 σ2 e2 S2 => qn δ2 hz B2 H2 σ2 (G.eb.trans e2) S2) (fun r hz v B2 H2 σ2 δ2 e2 S2 rv => qr r hz v B2 H2 σ2 δ2 (G.eb.trans e2) S2 rv)
      · rename_i f1 g1 e1
        refine (ev c).2.2.2.2 δ _ _ _ t e1 B H σ S _ fun B' H' G S' => ?_
        rw [if_neg Bool.false_ne_true]
        exact ihb δ z h B' H' σ S' Dn (fun δ2 hz B2 H2 σ2 e2 S2 => qn δ2 hz B2 H2 σ2 (G.eb.trans e2) S2) (fun r hz v B2 H2 σ2 δ2 e2 S2 rv => qr r hz v B2 H2 σ2 δ2 (G.eb.trans e2) S2 rv)
      · cases h
    · cases h
  | loop t it b ihb =>
    intro δ z h
    simp only [exec] at h
    simp only [rdS]
    split at h
    · rename_i ds g e1
      exact st_for ((ev it).2.2.2.1 δ _ e1) h fun δ1 z1 h1 => ihb δ1 z1 h1
    · cases h
  | ret e =>
    intro δ z h B H σ S Dn qn qr
    simp only [exec] at h
    simp only [rdS]
    split at h
    · rename_i r e1
      cases h
      exact (ev e).1 δ _ e1 B H σ S _ fun v B' H' G S' rv => qr r rfl v B' H' σ δ G.eb S' rv
    · cases h
  | exp e =>
    intro δ z h B H σ S Dn qn qr
    simp only [exec] at h
    simp only [rdS]
    split at h
    · rename_i r e1
      cases h
      exact (ev e).1 δ _ e1 B H σ S _ fun v B' H' G S' rv => qn δ rfl B' H' σ G.eb S'
    · cases h
  | frz i r ihr =>
    intro δ z h B H σ S Dn qn qr
    simp only [exec] at h
    simp only [rdS]
    split at h
    · rename_i ds g e0
      obtain ⟨B', eb, S'⟩ := S.freeze e0
      exact ihr _ z h B' H σ S' Dn (fun δ2 hz B2 H2 σ2 e2 S2 => qn δ2 hz B2 H2 σ2 (eb.trans e2) S2) (fun r hz v B2 H2 σ2 δ2 e2 S2 rv => qr r hz v B2 H2 σ2 δ2 (eb.trans e2) S2 rv)
    · cases h
  | die =>
    intro δ z h
    simp only [exec] at h
    cases h
  | rgs i k es =>
    intro δ z h B H σ S Dn qn qr
    simp only [exec] at h
    simp only [rdS]
    split at h
    · rename_i F eF
      split at h
      · rename_i ds f1 g1 e1
        split at h
        · rename_i e2
          split at h
          · rename_i d e3
            cases h
            refine (ev es).2.1 δ _ e1 B H σ S _ fun vs B1 H1 G1 S1 r1 => ?_
            rw [List.append_nil]
            refine ⟨Rg B0 H0 B1 H1 f1 g1, ds, d, S1.toH f1 g1, r1, e2.1, e3, fun v H2 eh r => ?_⟩
            rw [e2.2, if_pos rfl] at r
            have S2 : Stt C B0 H0 B1 H2 σ δ := S1.grow (Same.refl _) eh (S1.sub.trans eh) fun _ _ h => .inl h
            refine qn _ rfl B1 H2 _ G1.eb (S2.setRg (N := Rsd Emp H1 H2) rsd_sub (fun p o h => ?_) r)
            have hp : H1 p = none := by
              unfold Rsd Emp at h
              cases z : H1 p with
              | none => rfl
              | some x => rw [z] at h; cases h
            exact ⟨S1.ex0.free hp, S1.sub.free hp, fun j ds g k => S1.noat hp j ds g k⟩
          · cases h
        · cases h
      · cases h
    · cases h
  | spo i b e =>
    intro δ z h B H σ S Dn qn qr
    simp only [exec] at h
    simp only [rdS]
    split at h
    · rename_i ds e0
      split at h
      · rename_i k f1 g1 e1
        split at h
        · rename_i xs e2
          split at h
          · rename_i r e3
            split at h
            · rename_i hz
              cases h
              obtain ⟨v, N, ei, _, _, _⟩ := S.rgn i _ e0
              refine ⟨v, ei, ?_⟩
              refine (ev b).1 δ _ e1 B H σ S _ fun u B1 H1 G1 S1 r1 => ?_
              rw [rp_int] at r1
              subst r1
              obtain ⟨v', N, ei', hN, hq, rv⟩ := S1.rgn i _ e0
              rw [ei] at ei'
              cases ei'
              rw [rp_tp] at rv
              obtain ⟨a, vs, rfl, h1, k1⟩ := rv
              obtain ⟨w, ew, rw'⟩ := atI_rps k1 e2
              rw [rp_ls] at rw'
              obtain ⟨p, ws, rfl, hw, kw⟩ := rw'
              refine .inr (.inl ⟨a, vs, k, .ref p, rfl, rfl, sqt_mono hN h1, ew, .inl ⟨rfl, _, SqL.of (hN _ _ hw)⟩, ?_⟩)
              refine (ev e).1 δ _ e3 B1 H1 σ S1 _ fun y B2 H2 G2 S2 r2 => ?_
              obtain ⟨hp0, hpb, hpo⟩ := hq p _ hw
              have hb2 : B2 p = none := by
                cases z : B2 p with
                | none => rfl
                | some o =>
                  rcases G2.nw p o z with y | y
                  · rw [hpb] at y; cases y
                  · rw [hN _ _ hw] at y; cases y
              refine ⟨p, ws, y, rfl, rfl, G2.eh _ _ (hN _ _ hw), Nat.lt_of_lt_of_le (show ws.length < 100000 by rw [kw.len]; exact hz) (by decide), ?_⟩
              exact qn _ rfl B2 _ σ (G1.trans G2).eb (S2.spoil hp0 hb2 hpo)
            · cases h
          · cases h
        · cases h
      · cases h
    · cases h
end
/-! ### a def by its compact text -/
def st0 (n : Nat) (ds : List D) : List Sl := ds.map (fun d => Sl.sh d false) ++ List.replicate (n - ds.length) .no
def endOf (fr : Bool) : Option Rz → Option D
  | some (.rt (d, _, g)) => if fr = true then (if (g || d.flat) = true then some d else none) else some d
  | some (.nx _) => some .non
  | none => none
def mkFd (Γ : Ga) (ar n : Nat) (fr : Bool) (c : S) : Fd := ⟨ar, fr, fun ds => endOf fr (exec Γ c (st0 n ds))⟩
end G

namespace G
open PySem PySem.Spec PyProof.Rows L2
/-! ### two more rules -/
theorem mulx_ok {i j : Int} (h : CMulX i j) : IntMulOk i j := by
  unfold CMulX mulok at h
  simp only [Bool.or_eq_true, decide_eq_true_eq] at h
  rcases h with (h | h) | h
  · exact CMul.ok (.inl ⟨by omega, by omega⟩)
  · exact CMul.ok (.inr ⟨by omega, by omega⟩)
  · have b : ∀ x : Int, Builtin.Int.intBits x ≤ x.natAbs.log2 + 1 := fun x => by
      unfold Builtin.Int.intBits
      split <;> omega
    have b1 := b i
    have b2 := b j
    have e : bitsLine = 134217728 := by decide
    intro z
    rw [Bool.and_eq_true] at z
    have z3 := z.2
    unfold Builtin.Int.intTooBig at z3
    have z4 := of_decide_eq_true z3
    rw [e] at z4
    omega
section
variable {X : Cx}
theorem op_mulX : OpR X (binaryOp .Mult) (Bo.r .mul) := opI fun _ _ _ _ _ _ _ hc q => PyProof.Rows.mul_int q (mulx_ok hc)
theorem get_list : PGet X (rGetL X.K) := by
  intro pins s σ H x y v u Q I rx ry h
  obtain ⟨p, xs, i, z, rfl, rfl, hq, he, q⟩ := h
  cases rx
  obtain ⟨t, rfl⟩ := ry
  obtain ⟨its, r, pl, hz⟩ := I.list hq
  obtain ⟨j, h1, h2, h3, h4, h5⟩ := atI_get he
  obtain ⟨w, ew, rw'⟩ := r.get h2
  have hl := r.length
  have hn := line63
  have fin : EP X pins σ Q w s := ⟨z, H, I, rw', q⟩
  by_cases h0 : 0 ≤ i
  · have hj : i.toNat = j := by
      rw [seqIndex_of h0 h5] at h1
      exact Option.some.inj h1
    exact wpAny_getItem_list pl.isList h0 (by omega) (by rw [hj]; simpa using ew) fin
  · have hj : (i + (its.toArray.size : Int)).toNat = j := by
      rw [seqIndex_neg (by omega) h4] at h1
      rw [List.size_toArray, ← hl]
      exact Option.some.inj h1
    exact wpAny_getItem_list_neg pl.isList (by omega) (by rw [List.size_toArray] <;> omega) (by omega) (by rw [hj]; simpa using ew) fin
end

/-! ### a def by its compact text -/
theorem stt_start {C : Cf} {B H : Hp} {N : List Str} {ds : List D} {vs : List V} (e : Same B H) (r : Rps C B ds vs) : Stt C B H B H (L2.start N vs) (st0 N.length ds) := by
  have hl := r.len
  have ge : ∀ (i : Nat) s, (st0 N.length ds)[i]? = some s → s ≠ .no → ∃ d, ds[i]? = some d ∧ s = .sh d false := fun i s h n => by
    unfold st0 at h
    by_cases hi : i < ds.length
    · rw [List.getElem?_append_left (by simpa using hi), List.getElem?_map, List.getElem?_eq_getElem hi] at h
      simp only [Option.map_some, Option.some.injEq] at h
      exact ⟨_, List.getElem?_eq_getElem hi, h.symm⟩
    · rw [List.getElem?_append_right (by simpa using hi), List.getElem?_replicate] at h
      split at h
      · exact absurd (Option.some.inj h).symm n
      · cases h
  refine ⟨Same.refl _, Same.refl _, e, fun _ _ h => .inl h, ?_, fun i d g h => ?_, fun i ds' g h => ?_, fun i j a b c d p h => ?_, fun i d h => ?_⟩
  · unfold L2.start st0
    simp only [List.length_append, List.length_map, List.length_replicate, hl]
  · obtain ⟨d', h1, h2⟩ := ge i _ h Sl.noConfusion
    cases h2
    obtain ⟨v, h3, h4⟩ := r.get h1
    refine ⟨v, ?_, h4⟩
    unfold L2.start
    have hi : i < vs.length := (List.getElem?_eq_some_iff.mp h3).1
    rw [List.getElem?_append_left (by simpa using hi), List.getElem?_map, h3]
    rfl
  · obtain ⟨d', _, h2⟩ := ge i _ h Sl.noConfusion
    cases h2
  · obtain ⟨d', _, h2⟩ := ge i _ h Sl.noConfusion
    cases h2
  · obtain ⟨d', _, h2⟩ := ge i _ h Sl.noConfusion
    cases h2
section
variable {P : Program} {w : World} {K : PySem.W.Frag} {mg : Str → Option Value} {base : Heap}
theorem fn_c {Cl : Nat → Addr × List Str} {x qual : Str} {st : Stmt} {f : Addr} {fd : FuncData} {N ps : List Str} {k : Nat} {Γ : Ga} {fr : Bool} {c : S} (F : Fun K x qual st f fd) (sc : FnScope N ps (defScope st)) (hk : KsOk ⟨K, Cl, w⟩ Γ)
    (body : ∀ (cdv : Value) (A : Around) (outer : List Env) (s : Shared) (H : Hp) (E : XK), Room k (A.deeper (envOfC qual (defScope st) s.heap.objs.size f cdv)) →
      PSs (cxOf CX0 P w K mg base N qual (defScope st) f cdv A outer s H E).nox (defBody st) (rdS ⟨K, Cl, w⟩ Γ c)) : FnOk P w K mg base CX0 (k + 1) f fd ps (spOf ⟨K, Cl, w⟩ (mkFd Γ ps.length N.length fr c)) := by
  refine F.ok sc (fun vs H Q E h => ?_) (fun cdv A outer s H vs Q E hr h => ?_)
  · obtain ⟨B, ds, d, e, r, hl, _⟩ := h
    exact r.len.trans hl
  · obtain ⟨B, ds, d, e, r, hl, run, q⟩ := h
    refine ⟨_, body cdv A outer s H E hr, ?_⟩
    have S := stt_start (N := N) e r
    have run : endOf fr (exec Γ c (st0 N.length ds)) = some d := run
    cases ex : exec Γ c (st0 N.length ds) with
    | none => rw [ex] at run; cases run
    | some z =>
      rw [ex] at run
      refine exec_ok hk c _ z ex B H _ S _ (fun δ' hz B' H' σ' eb S' => ?_) (fun rr hz v B' H' σ' δ' eb S' rv => ?_)
      · subst hz
        simp only [endOf, Option.some.injEq] at run
        subst run
        exact q _ H' S'.ex0 (by rw [rp_non])
      · subst hz
        obtain ⟨d', f', g'⟩ := rr
        simp only [endOf] at run
        have q : ∀ v H', Same H H' → Rp ⟨K, Cl, w⟩ (Rsd (if fr = true then Emp else B) H H') d v → Q v H' := q
        cases fr with
        | false =>
          simp only [Bool.false_eq_true, if_false, Option.some.injEq] at run
          subst run
          refine q v H' S'.ex0 ?_
          rw [if_neg Bool.false_ne_true]
          exact rv.mono (S'.weak f' g' false false (fun h => by cases h) (fun h => by cases h))
        | true =>
          simp only [if_true] at run
          split at run
          · rename_i hg
            cases run
            refine q v H' S'.ex0 ?_
            rw [if_pos rfl]
            rw [Bool.or_eq_true] at hg
            rcases hg with hg | hg
            · have hg : g' = true := hg
              subst hg
              refine rv.mono (Same.trans (S'.weak f' true false true (fun h => by cases h) id) fun p o h => ?_)
              have h : (match H p with | none => H' p | some _ => none) = some o := h
              unfold Rsd Emp
              cases z : H p with
              | none => rw [z] at h; exact h
              | some u => rw [z] at h; cases h
            · exact rv.flat hg
          · cases run
/-- a def whose arguments come by their places -/
structure Fn1 (K : PySem.W.Frag) (mg : Str → Option Value) (x : Str) (st : Stmt) (ps : List Str) (f : Addr) (fd : FuncData) : Prop where
  F : Fun K x x st f fd
  g : mg x = some (.ref f)
  b : Binds K fd ps []
/-! ### the law's own def: its script is cut first -/
def spLaw (K : PySem.W.Frag) : Sp := fun vs H Q _ => ∃ (a : Addr) (ns : List Int), vs = [.ref a] ∧ SqL K H a (ns.map V.int) ∧ ns.length ≤ 63 ∧ (∀ z ∈ ns, Builtin.Int.intBits z ≤ 1048576) ∧ ∀ H', Q (.bl true) H'
theorem cut63 {ns : List Int} (h : ns.length ≤ 63) : cutV (ns.map V.int) none (some 63) = ns.map V.int := by
  unfold cutV
  rw [HT.sIx_none, show HT.sIx (ns.map V.int).length (ns.map V.int).length (some 63) = min 63 (ns.map V.int).length from HT.sIx_nat _ _ 63]
  rw [List.drop_zero, Nat.sub_zero, List.take_of_length_le]
  simp only [List.length_map]
  omega
theorem law_c {Cl : Nat → Addr × List Str} {st : Stmt} {f : Addr} {fd : FuncData} {N : List Str} {x : Str} {k : Nat} {Γ : Ga} {c : S} (F : Fun K "law" "law" st f fd) (sc : FnScope N [x] (defScope st)) (hk : KsOk ⟨K, Cl, w⟩ Γ)
    (body : ∀ (cdv : Value) (A : Around) (outer : List Env) (s : Shared) (H : Hp) (E : XK), Room k (A.deeper (envOfC "law" (defScope st) s.heap.objs.size f cdv)) →
      PSs (cxOf CX0 P w K mg base N "law" (defScope st) f cdv A outer s H E).nox (defBody st) (tSeq (tAsg (tSl (rSlL K) (tVar 0) tNoPart (tPart (tC (.int 63)))) (gName 0)) (rdS ⟨K, Cl, w⟩ Γ c)))
    (run : ∀ ns : List Int, ns.length ≤ 63 → (∀ z ∈ ns, Builtin.Int.intBits z ≤ 1048576) → ∃ f g, exec Γ c (st0 N.length [.ls (ns.map D.int)]) = some (.rt (.bl true, f, g))) : FnOk P w K mg base CX0 (k + 1) f fd [x] (spLaw K) := by
  refine F.ok sc (fun vs H Q E h => ?_) (fun cdv A outer s H vs Q E hr h => ?_)
  · obtain ⟨a, ns, rfl, _⟩ := h
    rfl
  · obtain ⟨a, ns, rfl, hS, hl, hb, q⟩ := h
    refine ⟨_, body cdv A outer s H E hr, ?_⟩
    have hN : 0 < N.length := by
      have := congrArg List.length sc.pre
      simp only [List.length_take, List.length_singleton] at this
      omega
    refine ⟨.ref a, ?_, 63, rfl, a, ns.map V.int, rfl, hS, fun p hp => ?_⟩
    · unfold L2.start
      rfl
    · rw [cut63 hl]
      obtain ⟨f', g', ex⟩ := run ns hl hb
      have S : Stt ⟨K, Cl, w⟩ (upd H p (.lst (ns.map V.int))) (upd H p (.lst (ns.map V.int))) (upd H p (.lst (ns.map V.int))) (upd H p (.lst (ns.map V.int))) (L2.start N [.ref p]) (st0 N.length [.ls (ns.map D.int)]) :=
        stt_start (Same.refl _) (.one (by rw [rp_ls]; exact ⟨p, _, rfl, upd_same, rps_ints ns⟩))
      have e : (L2.start N [V.ref a]).set 0 (some (V.ref p)) = L2.start N [.ref p] := by
        unfold L2.start
        rfl
      show rdS ⟨K, Cl, w⟩ Γ c _ ((L2.start N [V.ref a]).set 0 (some (V.ref p))) _
      rw [e]
      refine exec_ok hk c _ _ ex _ _ _ S _ (fun δ' hz => by cases hz) (fun rr hz v B' H' σ' δ' eb S' rv => ?_)
      cases hz
      rw [rp_bl] at rv
      subst rv
      exact q H'
end
end G

namespace G
open PySem L2
/-! ### plain facts about data -/
theorem intsOf_map : ∀ ns : List Int, intsOf (ns.map D.int) = some ns
  | [] => rfl
  | n :: ns => by simp only [List.map_cons, intsOf, intsOf_map ns]
theorem blsOf_map : ∀ ns : List Bool, blsOf (ns.map D.bl) = some ns
  | [] => rfl
  | n :: ns => by simp only [List.map_cons, blsOf, blsOf_map ns]
theorem flats_int (ns : List Int) : flats (ns.map D.int) = true := by
  simp [flats, D.flat]
theorem cut_map {α β : Type} (f : α → β) (xs : List α) (lo hi : Option Int) : cutD (xs.map f) lo hi = (cutD xs lo hi).map f := by
  unfold cutD
  rw [List.length_map, ← List.map_drop, ← List.map_take]
theorem atI_map {α β : Type} (f : α → β) (xs : List α) (i : Int) : atI (xs.map f) i = (atI xs i).map f := by
  unfold atI
  rw [List.length_map]
  cases ixN xs.length i with
  | none => rfl
  | some j => simp
theorem cut_all {α : Type} {xs : List α} {n : Nat} (h : xs.length ≤ n) : cutD xs none (some (n : Int)) = xs := by
  unfold cutD
  rw [HT.sIx_none, HT.sIx_nat, List.drop_zero, Nat.sub_zero, List.take_of_length_le (by omega)]
theorem cut_take {α : Type} (xs : List α) (n : Nat) : cutD xs none (some (n : Int)) = xs.take n := by
  unfold cutD
  rw [HT.sIx_none, HT.sIx_nat, List.drop_zero, Nat.sub_zero]
  by_cases h : n ≤ xs.length
  · rw [Nat.min_eq_left h]
  · rw [Nat.min_eq_right (by omega), List.take_length, List.take_of_length_le (by omega)]
theorem cut_drop {α : Type} (xs : List α) (n : Nat) : cutD xs (some (n : Int)) none = xs.drop n := by
  unfold cutD
  rw [HT.sIx_none, HT.sIx_nat]
  by_cases h : n ≤ xs.length
  · rw [Nat.min_eq_left h, List.take_of_length_le (by rw [List.length_drop]; omega)]
  · rw [Nat.min_eq_right (by omega), List.drop_length, List.take_nil, List.drop_eq_nil_of_le (by omega)]
theorem cut_mid {α : Type} (xs : List α) (m n : Nat) (h : n ≤ xs.length) (h' : m ≤ n) : cutD xs (some (m : Int)) (some (n : Int)) = (xs.drop m).take (n - m) := by
  unfold cutD
  rw [HT.sIx_nat, HT.sIx_nat, Nat.min_eq_left h, Nat.min_eq_left (by omega)]
theorem cut_sub {α : Type} {xs : List α} {lo hi : Option Int} {x : α} (h : x ∈ cutD xs lo hi) : x ∈ xs := List.mem_of_mem_drop (List.mem_of_mem_take h)
theorem cut_len {α : Type} (xs : List α) (lo hi : Option Int) : (cutD xs lo hi).length ≤ xs.length := by
  unfold cutD
  rw [List.length_take, List.length_drop]
  omega
theorem atI_nat {α : Type} {xs : List α} {j : Nat} {v : α} (h : xs[j]? = some v) : atI xs (j : Int) = some v := by
  have hj : j < xs.length := (List.getElem?_eq_some_iff.mp h).1
  unfold atI ixN
  rw [if_pos (by omega), if_pos (by omega)]
  simpa using h
theorem atI_last {α : Type} {xs : List α} {v : α} : atI (xs ++ [v]) (-1) = some v := by
  unfold atI ixN
  rw [if_neg (by omega), if_pos (by simp only [List.length_append, List.length_singleton]; omega)]
  have : ((-1 : Int) + ((xs ++ [v]).length : Nat)).toNat = xs.length := by
    rw [List.length_append]
    show ((-1 : Int) + ((xs.length + 1 : Nat) : Int)).toNat = _
    omega
  rw [this]
  simp
theorem atI_0 {α : Type} (x : α) (xs : List α) : atI (x :: xs) 0 = some x := G.atI_nat (j := 0) rfl
theorem atI_1 {α : Type} (x y : α) (xs : List α) : atI (x :: y :: xs) 1 = some y := G.atI_nat (j := 1) rfl
theorem atI_2 {α : Type} (x y z : α) (xs : List α) : atI (x :: y :: z :: xs) 2 = some z := G.atI_nat (j := 2) rfl
/-! equality -/
def okn (n : Nat) (d : D) : Bool := d.plain && d.py.canLay0 && decide (d.py.depth ≤ n)
theorem eqok_okn (d : D) : d.eqok = okn 64 d := by
  unfold D.eqok okn SeqAt.shaped
  rw [Bool.and_assoc]
theorem okn_int (n : Nat) (i : Int) : okn n (.int i) = true := by simp [okn, D.plain, D.py, PyData.canLay0, PyData.depth]
theorem okn_bl (n : Nat) (i : Bool) : okn n (.bl i) = true := by simp [okn, D.plain, D.py, PyData.canLay0, PyData.depth]
theorem okn_non (n : Nat) : okn n .non = true := by simp [okn, D.plain, D.py, PyData.canLay0, PyData.depth]
theorem okn_str (n : Nat) (x : Str) : okn n (.str x) = PyData.strOk x := by simp [okn, D.plain, D.py, PyData.canLay0, PyData.depth]
theorem okn_all (n : Nat) : ∀ ds : List D, (D.plains ds && PyData.canLayAll0 (D.pys ds) && decide (PyData.depthAll (D.pys ds) ≤ n)) = ds.all (okn n)
  | [] => by simp [D.plains, D.pys, PyData.canLayAll0, PyData.depthAll]
  | d :: ds => by
    rw [List.all_cons, ← okn_all n ds]
    simp only [D.plains, D.pys, PyData.canLayAll0, PyData.depthAll, okn]
    rw [Bool.eq_iff_iff]
    simp only [Bool.and_eq_true, decide_eq_true_eq]
    constructor
    · rintro ⟨⟨⟨a, b⟩, c, d⟩, e⟩
      exact ⟨⟨⟨a, c⟩, by omega⟩, ⟨b, d⟩, by omega⟩
    · rintro ⟨⟨⟨a, c⟩, e⟩, ⟨b, d⟩, f⟩
      exact ⟨⟨⟨a, b⟩, c, d⟩, by omega⟩
theorem okn_ls (n : Nat) (ds : List D) : okn (n + 1) (.ls ds) = ds.all (okn n) := by
  rw [← okn_all]
  simp [okn, D.plain, D.py, PyData.canLay0, PyData.depth]
theorem okn_tp (n : Nat) (ds : List D) : okn (n + 1) (.tp ds) = ds.all (okn n) := by
  rw [← okn_all]
  simp [okn, D.plain, D.py, PyData.canLay0, PyData.depth]
theorem okn_ints (n : Nat) (ns : List Int) : okn (n + 1) (.ls (ns.map D.int)) = true := by
  rw [okn_ls]
  simp [okn_int]
mutual
/-- ints, texts, lists, tuples and None alone -/
def D.nb : D → Bool
  | .non => true | .int _ => true | .str _ => true | .bl _ => false | .ob _ _ => false | .ls xs => D.nbs xs | .tp xs => D.nbs xs
def D.nbs : List D → Bool
  | [] => true | x :: r => D.nb x && D.nbs r
end
mutual
theorem eqv_nb : ∀ {a b : D}, a.nb = true → b.nb = true → (a.eqv b = true ↔ a = b)
  | .non, b, _, hb => by cases b <;> simp [D.eqv, D.py, PyData.eqv, D.nb] at hb ⊢
  | .int i, b, _, hb => by cases b <;> simp [D.eqv, D.py, PyData.eqv, D.nb] at hb ⊢
  | .str i, b, _, hb => by cases b <;> simp [D.eqv, D.py, PyData.eqv, D.nb] at hb ⊢
  | .bl i, b, ha, _ => by simp [D.nb] at ha
  | .ob i _, b, ha, _ => by simp [D.nb] at ha
  | .ls xs, b, ha, hb => by
    cases b with
    | ls ys =>
      simp only [D.nb] at ha hb
      have := eqvs_nb ha hb
      simp only [D.eqv, D.py, PyData.eqv, D.ls.injEq]
      exact this
    | _ => simp [D.eqv, D.py, PyData.eqv, D.nb] at hb ⊢
  | .tp xs, b, ha, hb => by
    cases b with
    | tp ys =>
      simp only [D.nb] at ha hb
      have := eqvs_nb ha hb
      simp only [D.eqv, D.py, PyData.eqv, D.tp.injEq]
      exact this
    | _ => simp [D.eqv, D.py, PyData.eqv, D.nb] at hb ⊢
theorem eqvs_nb : ∀ {a b : List D}, D.nbs a = true → D.nbs b = true → (PyData.eqvAll (D.pys a) (D.pys b) = true ↔ a = b)
  | [], [], _, _ => by simp [D.pys, PyData.eqvAll]
  | [], y :: ys, _, _ => by simp [D.pys, PyData.eqvAll]
  | x :: xs, [], _, _ => by simp [D.pys, PyData.eqvAll]
  | x :: xs, y :: ys, ha, hb => by
    simp only [D.nbs, Bool.and_eq_true] at ha hb
    have h1 := eqv_nb ha.1 hb.1
    have h2 := eqvs_nb ha.2 hb.2
    simp only [D.pys, PyData.eqvAll, Bool.and_eq_true, List.cons.injEq]
    rw [h2]
    exact ⟨fun h => ⟨h1.mp h.1, h.2⟩, fun h => ⟨h1.mpr h.1, h.2⟩⟩
end
theorem eqv_self {d : D} (h : d.nb = true) : d.eqv d = true := (eqv_nb h h).mpr rfl
theorem nbs_all : ∀ ds : List D, D.nbs ds = ds.all D.nb
  | [] => rfl
  | d :: ds => by simp only [D.nbs, List.all_cons, nbs_all ds]
theorem nbs_ints (ns : List Int) : D.nbs (ns.map D.int) = true := by
  rw [nbs_all]
  simp [D.nb]
theorem eqv_int (a b : Int) : (D.int a).eqv (.int b) = decide (a = b) := by
  rw [Bool.eq_iff_iff, eqv_nb (by rfl) (by rfl)]
  simp
theorem eqv_bl (a b : Bool) : (D.bl a).eqv (.bl b) = decide (a = b) := by
  simp [D.eqv, D.py, PyData.eqv]
  cases a <;> cases b <;> rfl
theorem map_int_inj {a b : List Int} (h : a.map D.int = b.map D.int) : a = b := by
  have := congrArg intsOf h
  rw [intsOf_map, intsOf_map] at this
  exact Option.some.inj this
theorem eqv_ints (a b : List Int) : (D.ls (a.map D.int)).eqv (.ls (b.map D.int)) = decide (a = b) := by
  rw [Bool.eq_iff_iff, eqv_nb (by simp only [D.nb]; exact nbs_ints a) (by simp only [D.nb]; exact nbs_ints b)]
  simp only [D.ls.injEq, decide_eq_true_eq]
  exact ⟨map_int_inj, fun h => by rw [h]⟩
theorem rep_map {α β : Type} (f : α → β) (n : Nat) (xs : List α) : (List.replicate n (xs.map f)).flatten = ((List.replicate n xs).flatten).map f := by
  induction n with
  | zero => rfl
  | succ n ih => rw [List.replicate_succ, List.flatten_cons, List.replicate_succ, List.flatten_cons, List.map_append, ih]
/-! loops -/
theorem forRun_fold {α β : Type} {t : Tg} {g : Bool} {ex : List Sl → Option Rz} {f : α → D} {up : β → α → β} (st : Nat → β → List Sl → Prop) : ∀ (as : List α) (i : Nat) (b : β) (δ : List Sl), st i b δ →
    (∀ (j : Nat) a b δ, as[j]? = some a → st (i + j) b δ → ∃ δ1 δ2, t.run g (f a) δ = some δ1 ∧ ex δ1 = some (.nx δ2) ∧ st (i + j + 1) (up b a) δ2) →
    ∃ δ', forRun t g ex (as.map f) δ = some (.nx δ') ∧ st (i + as.length) (as.foldl up b) δ'
  | [], i, b, δ, h, _ => ⟨δ, rfl, h⟩
  | a :: as, i, b, δ, h, step => by
    obtain ⟨δ1, δ2, h1, h2, h3⟩ := step 0 a b δ rfl h
    obtain ⟨δ', e, h'⟩ := forRun_fold st as (i + 1) (up b a) δ2 h3 fun j a' b' δ' hj hs => by
      have := step (j + 1) a' b' δ' (by simpa using hj) (by rw [show i + (j + 1) = i + 1 + j by omega]; exact hs)
      rw [show i + (j + 1) + 1 = i + 1 + j + 1 by omega] at this
      exact this
    refine ⟨δ', ?_, ?_⟩
    · rw [List.map_cons]
      unfold forRun
      rw [h1]
      show (match ex δ1 with | some (.nx δ2) => forRun t g ex (as.map f) δ2 | some (.rt v) => some (.rt v) | none => none) = _
      rw [h2]
      exact e
    · rw [List.length_cons, List.foldl_cons, show i + (as.length + 1) = i + 1 + as.length by omega]
      exact h'
/-- a loop whose state is not told by a fold -/
theorem forRun_inv {t : Tg} {g : Bool} {ex : List Sl → Option Rz} (st : Nat → List Sl → Prop) : ∀ (ds : List D) (i : Nat) (δ : List Sl), st i δ →
    (∀ (j : Nat) d δ, ds[j]? = some d → st (i + j) δ → ∃ δ1 δ2, t.run g d δ = some δ1 ∧ ex δ1 = some (.nx δ2) ∧ st (i + j + 1) δ2) → ∃ δ', forRun t g ex ds δ = some (.nx δ') ∧ st (i + ds.length) δ' := by
  intro ds i δ h step
  have := forRun_fold (t := t) (g := g) (ex := ex) (f := id) (up := fun (_ : Unit) (_ : D) => ()) (fun i _ δ => st i δ) ds i () δ h fun j a b δ hj hs => step j a δ hj hs
  rw [List.map_id] at this
  exact this
/-- a comprehension without a test, the same value each turn by the item -/
theorem lcRun_map {α : Type} {t : Tg} {g : Bool} {ef : List Sl → Option Rs} {δ : List Sl} {f : α → D} {y : α → D} : ∀ (as : List α), (∀ a ∈ as, ∃ δ2, t.run g (f a) δ = some δ2 ∧ ∃ gy, ef δ2 = some (y a, true, gy)) →
    ∃ gs, lcRun t g (fun _ => some true) ef δ (as.map f) = some (as.map y, gs)
  | [], _ => ⟨true, rfl⟩
  | a :: as, h => by
    obtain ⟨δ2, h1, gy, h2⟩ := h a List.mem_cons_self
    obtain ⟨gs, e⟩ := lcRun_map as fun b hb => h b (List.mem_cons_of_mem _ hb)
    refine ⟨gy && gs, ?_⟩
    rw [List.map_cons, List.map_cons]
    unfold lcRun
    rw [h1]
    dsimp only
    rw [h2]
    dsimp only
    rw [e]
theorem eval_lc_of {Γ : Ga} {t : Tg} {it e : E} {δ : List Sl} {ds ys : List D} {g gs : Bool} (h : evalI Γ it δ = some (ds, g)) (hl : ds.length ≤ 50000) (r : lcRun t g (fun _ => some true) (fun δ2 => eval Γ e δ2) (wipeD δ t.sl) ds = some (ys, gs)) :
    eval Γ (.lc t it e) δ = some (.ls ys, true, gs) := by
  unfold eval
  rw [h]
  dsimp only
  rw [if_pos hl, r]
theorem eval_lcf_of {Γ : Ga} {t : Tg} {it c e : E} {δ : List Sl} {ds ys : List D} {g gs : Bool} (h : evalI Γ it δ = some (ds, g)) (hl : ds.length ≤ 50000) (ht : isTst c = true) (r : lcRun t g (fun δ2 => tst (eval Γ c δ2)) (fun δ2 => eval Γ e δ2) (wipeD δ t.sl) ds = some (ys, gs)) :
    eval Γ (.lcf t it c e) δ = some (.ls ys, true, gs) := by
  unfold eval
  rw [h]
  dsimp only
  rw [if_pos ⟨hl, ht⟩, r]
theorem all_true {α : Type} (xs : List α) : (xs.all fun _ => true) = true := by
  simp
theorem exec_loop_of {Γ : Ga} {t : Tg} {it : E} {b : S} {δ : List Sl} {ds : List D} {g : Bool} {z : Rz} (h : evalI Γ it δ = some (ds, g)) (r : forRun t g (fun δ => exec Γ b δ) ds δ = some z) : exec Γ (.loop t it b) δ = some z := by
  unfold exec
  rw [h]
  exact r
/-- a comprehension of truths -/
theorem lcRun_bls {α : Type} {t : Tg} {g : Bool} {ef : List Sl → Option Rs} {δ : List Sl} {f : α → D} {p : α → Bool} (as : List α) (h : ∀ a ∈ as, ∃ δ2, t.run g (f a) δ = some δ2 ∧ ∃ gy, ef δ2 = some (.bl (p a), true, gy)) :
    ∃ L gs, lcRun t g (fun _ => some true) ef δ (as.map f) = some (L, gs) ∧ blsOf L = some (as.map p) := by
  obtain ⟨gs, e⟩ := lcRun_map (y := fun a => D.bl (p a)) as h
  refine ⟨_, gs, e, ?_⟩
  have := blsOf_map (as.map p)
  rw [List.map_map] at this
  exact this
theorem exec_nx {Γ : Ga} {a r : S} {δ δ1 : List Sl} {z : Option Rz} (h : exec Γ a δ = some (.nx δ1)) (k : exec Γ r δ1 = z) : exec Γ (.seq a r) δ = z := by
  unfold exec
  rw [h]
  exact k
theorem exec_rt {Γ : Ga} {a r : S} {δ : List Sl} {v : Rs} (h : exec Γ a δ = some (.rt v)) : exec Γ (.seq a r) δ = some (.rt v) := by
  unfold exec
  rw [h]
/-! great ints -/
theorem log2_lt_of {n k : Nat} (h : n < 2 ^ k) (h0 : 0 < k) : n.log2 < k := by
  by_cases z : n = 0
  · subst z; simp; exact h0
  · exact (Nat.log2_lt z).mpr h
theorem log2_add (a b : Int) {m : Nat} (ha : a.natAbs.log2 ≤ m) (hb : b.natAbs.log2 ≤ m) : (a + b).natAbs.log2 ≤ m + 1 := by
  have h1 : a.natAbs < 2 ^ (m + 1) := Nat.lt_of_lt_of_le Nat.lt_log2_self (Nat.pow_le_pow_right (by decide) (by omega))
  have h2 : b.natAbs < 2 ^ (m + 1) := Nat.lt_of_lt_of_le Nat.lt_log2_self (Nat.pow_le_pow_right (by decide) (by omega))
  have h3 : (a + b).natAbs < 2 ^ (m + 2) := by
    have e : 2 ^ (m + 2) = 2 ^ (m + 1) + 2 ^ (m + 1) := by rw [Nat.pow_succ 2 (m + 1)]; omega
    have := Int.natAbs_add_le a b
    rw [e]
    omega
  have := log2_lt_of h3 (by omega)
  omega
theorem log2_small {a : Int} {m : Nat} (h : a.natAbs < 2 ^ m) (h0 : 0 < m) : a.natAbs.log2 ≤ m := Nat.le_of_lt (log2_lt_of h h0)
theorem mul_wide {a b : Int} (ha : a.natAbs.log2 ≤ 40000000) (hb : b.natAbs.log2 ≤ 40000000) : mulok a b = true := by
  unfold mulok
  rw [show decide (a.natAbs.log2 + b.natAbs.log2 < 100000000) = true from decide_eq_true (by omega), Bool.or_true]
theorem mul_right {a b : Int} (h : b.natAbs < 18446744073709551616) : mulok a b = true := by
  unfold mulok
  rw [show decide (b.natAbs < 18446744073709551616) = true from decide_eq_true h, Bool.or_true, Bool.true_or]
theorem mul_left {a b : Int} (h : a.natAbs < 18446744073709551616) : mulok a b = true := by
  unfold mulok
  rw [show decide (a.natAbs < 18446744073709551616) = true from decide_eq_true h, Bool.true_or, Bool.true_or]
theorem bits_log2 {z : Int} {n : Nat} (h : Builtin.Int.intBits z ≤ n) : z.natAbs.log2 ≤ n := by
  unfold Builtin.Int.intBits at h
  split at h
  · rename_i e
    have : z = 0 := by simpa using e
    subst this
    simp
  · omega
end G

namespace K05
open G
/-! the compact text of each def, by gen.py -/
def c_is_whole : S := (.seq (.ret (.and (.isI .int (.var 0)) (.not (.isI .bool (.var 0))))) .nil)
def ga_is_whole : Ga := ⟨[], []⟩
def fd_is_whole : Fd := mkFd ga_is_whole 1 1 false c_is_whole
def c_is_count : S := (.seq (.ret (.and (.call 0 (.cons (.var 0) .nil)) (.chn .le .le (.var 1) (.var 0) (.var 2)))) .nil)
def ga_is_count : Ga := ⟨[fd_is_whole], []⟩
def fd_is_count : Fd := mkFd ga_is_count 3 3 false c_is_count
def l_gone_over_1 : S := (.seq (.aix 6 (.var 2) (.int 1)) (.seq (.ite (.and (.cmp .ge (.oix 6 (.var 2)) (.var 3)) (.cmp .ge (.bin .sub (.oix 6 (.var 2)) (.oix 6 (.bin .sub (.int 1) (.var 2)))) (.var 4))) (.seq (.app 5 (.var 2)) (.seq (.own 6 (.lst (.cons (.int 0) (.cons (.int 0) .nil)))) .nil)) .nil) .nil))
def c_gone_over : S := (.seq (.asg (.t2 (.nm 3) (.nm 4)) (.var 0)) (.seq (.par 5 6 true true (.lst .nil) (.lst (.cons (.int 0) (.cons (.int 0) .nil)))) (.seq (.loop (.nm 2) (.itL (.var 1)) l_gone_over_1) (.seq (.ret (.tup (.cons (.var 5) (.cons (.tup (.cons (.oix 6 (.int 0)) (.cons (.oix 6 (.int 1)) .nil))) .nil)))) .nil))))
def ga_gone_over : Ga := ⟨[fd_is_whole, fd_is_count], []⟩
def fd_gone_over : Fd := mkFd ga_gone_over 2 7 true c_gone_over
def m_check_game_1 : E := (.lc (.nm 2) (.itL (.var 1)) (.call 1 (.cons (.var 2) (.cons (.int 0) (.cons (.int 1) .nil)))))
def m_check_game_2 : E := (.lc (.nm 2) (.itL (.var 1)) (.call 1 (.cons (.var 2) (.cons (.int 0) (.cons (.int 1) .nil)))))
def c_check_game : S := (.seq (.ite (.or (.not (.isI .tuple (.var 0))) (.or (.ne (.len (.var 0)) (.int 2)) (.not (.call 1 (.cons (.ix (.var 0) (.int 0)) (.cons (.int 1) (.cons (.int 5) .nil))))))) (.seq .die .nil) .nil) (.seq (.ite (.not (.call 1 (.cons (.ix (.var 0) (.int 1)) (.cons (.int 1) (.cons (.int 2) .nil))))) (.seq .die .nil) .nil) (.seq (.ite (.or (.not (.isI .list (.var 1))) (.or (.cmp .gt (.len (.var 1)) (.int 60)) (.not (.all m_check_game_1)))) (.seq .die .nil) .nil) .nil)))
def ga_check_game : Ga := ⟨[fd_is_whole, fd_is_count, fd_gone_over], []⟩
def fd_check_game : Fd := mkFd ga_check_game 2 3 false c_check_game
def c_games : S := (.seq (.exp (.call 3 (.cons (.var 0) (.cons (.var 1) .nil)))) (.seq (.ret (.call 2 (.cons (.var 0) (.cons (.var 1) .nil)))) .nil))
def ga_games : Ga := ⟨[fd_is_whole, fd_is_count, fd_gone_over, fd_check_game], []⟩
def fd_games : Fd := mkFd ga_games 2 2 true c_games
def c_game_point : S := (.seq (.exp (.call 3 (.cons (.var 0) (.cons (.var 1) .nil)))) (.seq (.ite (.not (.call 1 (.cons (.var 2) (.cons (.int 0) (.cons (.int 1) .nil))))) (.seq .die .nil) .nil) (.seq (.ret (.cmp .gt (.len (.ix (.call 2 (.cons (.var 0) (.cons (.cat (.var 1) (.lst (.cons (.var 2) .nil))) .nil))) (.int 0))) (.len (.ix (.call 2 (.cons (.var 0) (.cons (.var 1) .nil))) (.int 0))))) .nil)))
def ga_game_point : Ga := ⟨[fd_is_whole, fd_is_count, fd_gone_over, fd_check_game, fd_games], []⟩
def fd_game_point : Fd := mkFd ga_game_point 3 3 false c_game_point
def c__law_cell_at : S := (.seq (.ite (.cmp .lt (.var 1) (.len (.var 0))) (.seq (.ret (.ix (.var 0) (.var 1))) .nil) .nil) (.seq (.ret (.int 0)) .nil))
def ga__law_cell_at : Ga := ⟨[fd_is_whole, fd_is_count, fd_gone_over, fd_check_game, fd_games, fd_game_point], []⟩
def fd__law_cell_at : Fd := mkFd ga__law_cell_at 2 2 false c__law_cell_at
def c__law_draw : S := (.seq (.asg (.nm 3) (.tup (.cons (.int 1000003) (.cons (.int 1000033) (.cons (.int 1000037) (.cons (.int 1000039) (.cons (.int 1000081) (.cons (.int 1000099) (.cons (.int 1000117) (.cons (.int 1000121) (.cons (.int 1000133) (.cons (.int 1000151) (.cons (.int 1000159) (.cons (.int 1000171) (.cons (.int 1000183) (.cons (.int 1000187) (.cons (.int 1000193) (.cons (.int 1000199) .nil)))))))))))))))))) (.seq (.ret (.bin .mod (.bin .mod (.bin .add (.bin .mul (.var 0) (.int 48271)) (.bin .mul (.var 1) (.int 69621))) (.ix (.var 3) (.bin .mod (.var 1) (.int 16)))) (.var 2))) .nil))
def ga__law_draw : Ga := ⟨[fd_is_whole, fd_is_count, fd_gone_over, fd_check_game, fd_games, fd_game_point, fd__law_cell_at], []⟩
def fd__law_draw : Fd := mkFd ga__law_draw 3 4 false c__law_draw
def c__law_value : S := (.seq (.ite (.cmp .ge (.var 0) (.bin .pow (.int 10) (.int 18))) (.seq (.ret (.bin .shr (.bin .mod (.bin .sub (.var 0) (.bin .pow (.int 10) (.int 18))) (.bin .pow (.int 10) (.int 40))) (.bin .mul (.int 3) (.var 1)))) .nil) .nil) (.seq (.asg (.nm 2) (.call 7 (.cons (.bin .mul (.bin .add (.var 0) (.bin .mul (.int 977) (.var 1))) (.bin .add (.bin .add (.var 0) (.bin .mul (.int 31) (.var 1))) (.int 5))) (.cons (.bin .add (.bin .mod (.var 1) (.int 9)) (.int 1)) (.cons (.int 999983) .nil))))) (.seq (.ret (.bin .add (.bin .mul (.var 2) (.int 1000003)) (.call 7 (.cons (.bin .add (.bin .mul (.bin .add (.var 0) (.bin .mul (.int 31) (.var 1))) (.bin .add (.var 0) (.int 7))) (.bin .mul (.int 977) (.var 1))) (.cons (.bin .add (.bin .mod (.var 1) (.int 7)) (.int 2)) (.cons (.int 1000003) .nil)))))) .nil)))
def ga__law_value : Ga := ⟨[fd_is_whole, fd_is_count, fd_gone_over, fd_check_game, fd_games, fd_game_point, fd__law_cell_at, fd__law_draw], []⟩
def fd__law_value : Fd := mkFd ga__law_value 2 3 false c__law_value
def c__law_whole : S := (.seq (.ret (.and (.isI .int (.var 0)) (.not (.isI .bool (.var 0))))) .nil)
def ga__law_whole : Ga := ⟨[fd_is_whole, fd_is_count, fd_gone_over, fd_check_game, fd_games, fd_game_point, fd__law_cell_at, fd__law_draw, fd__law_value], []⟩
def fd__law_whole : Fd := mkFd ga__law_whole 1 1 false c__law_whole
def c__law_says : S := (.seq (.ret (.and (.isI .bool (.var 0)) (.eq (.var 0) (.var 1)))) .nil)
def ga__law_says : Ga := ⟨[fd_is_whole, fd_is_count, fd_gone_over, fd_check_game, fd_games, fd_game_point, fd__law_cell_at, fd__law_draw, fd__law_value, fd__law_whole], []⟩
def fd__law_says : Fd := mkFd ga__law_says 2 2 false c__law_says
def l__law_games_1 : S := (.seq (.asg (.nm 5) (.sl (.var 1) (.cons (.var 4) .nil) (.cons (.bin .add (.var 2) (.int 1)) .nil))) (.seq (.par 6 7 false false (.cnt (.var 5) (.ix (.var 1) (.var 2))) (.cnt (.var 5) (.bin .sub (.int 1) (.ix (.var 1) (.var 2))))) (.seq (.ite (.and (.cmp .ge (.var 6) (.ix (.var 0) (.int 0))) (.cmp .ge (.bin .sub (.var 6) (.var 7)) (.ix (.var 0) (.int 1)))) (.seq (.app 3 (.ix (.var 1) (.var 2))) (.seq (.asg (.nm 4) (.bin .add (.var 2) (.int 1))) .nil)) .nil) .nil)))
def c__law_games : S := (.seq (.par 3 4 true false (.lst .nil) (.int 0)) (.seq (.loop (.nm 2) (.itR (.len (.var 1))) l__law_games_1) (.seq (.ret (.tup (.cons (.var 3) (.cons (.tup (.cons (.cnt (.sl (.var 1) (.cons (.var 4) .nil) .nil) (.int 0)) (.cons (.cnt (.sl (.var 1) (.cons (.var 4) .nil) .nil) (.int 1)) .nil))) .nil)))) .nil)))
def ga__law_games : Ga := ⟨[fd_is_whole, fd_is_count, fd_gone_over, fd_check_game, fd_games, fd_game_point, fd__law_cell_at, fd__law_draw, fd__law_value, fd__law_whole, fd__law_says], []⟩
def fd__law_games : Fd := mkFd ga__law_games 2 8 true c__law_games
def m__law_right_1 : E := (.lc (.nm 7) (.itL (.cat (.ix (.var 5) (.int 0)) (.toL (.ix (.var 5) (.int 1))))) (.call 9 (.cons (.var 7) .nil)))
def m__law_right_2 : E := (.lc (.nm 7) (.itL (.cat (.ix (.var 5) (.int 0)) (.toL (.ix (.var 5) (.int 1))))) (.call 9 (.cons (.var 7) .nil)))
def l__law_right_1 : S := (.seq (.rgs 5 4 (.cons (.var 0) (.cons (.var 2) .nil))) (.seq (.ite (.or (.not (.isI .tuple (.var 5))) (.or (.ne (.var 5) (.call 11 (.cons (.var 0) (.cons (.var 1) .nil)))) (.ne (.var 2) (.var 1)))) (.seq (.ret (.bl false)) .nil) .nil) (.seq (.ite (.or (.not (.all m__law_right_1)) (.not (.isI .tuple (.ix (.var 5) (.int 1))))) (.seq (.ret (.bl false)) .nil) .nil) (.seq (.spo 5 (.int 0) (.int 0)) .nil))))
def l__law_right_2 : S := (.seq (.asg (.nm 6) (.cmp .gt (.len (.ix (.call 11 (.cons (.var 0) (.cons (.cat (.var 1) (.lst (.cons (.var 4) .nil))) .nil))) (.int 0))) (.len (.ix (.call 11 (.cons (.var 0) (.cons (.var 1) .nil))) (.int 0))))) (.seq (.ite (.not (.call 10 (.cons (.call 5 (.cons (.var 0) (.cons (.var 2) (.cons (.var 4) .nil)))) (.cons (.var 6) .nil)))) (.seq (.ret (.bl false)) .nil) .nil) .nil))
def c__law_right : S := (.seq (.own 2 (.toL (.var 1))) (.seq (.loop (.nm 3) (.itR (.int 2)) l__law_right_1) (.seq (.loop (.nm 4) (.itT (.tup (.cons (.int 0) (.cons (.int 1) .nil)))) l__law_right_2) (.seq (.app 2 (.int 0)) (.seq (.ret (.eq (.call 4 (.cons (.var 0) (.cons (.sl (.var 2) .nil (.cons (.int 60) .nil)) .nil))) (.call 11 (.cons (.var 0) (.cons (.sl (.var 2) .nil (.cons (.int 60) .nil)) .nil))))) .nil)))))
def ga__law_right : Ga := ⟨[fd_is_whole, fd_is_count, fd_gone_over, fd_check_game, fd_games, fd_game_point, fd__law_cell_at, fd__law_draw, fd__law_value, fd__law_whole, fd__law_says, fd__law_games], []⟩
def fd__law_right : Fd := mkFd ga__law_right 2 8 false c__law_right
def l_law_1 : S := (.seq (.asg (.nm 8) (.bin .fdiv (.call 8 (.cons (.var 7) (.cons (.bin .mod (.var 6) (.int 5)) .nil))) (.int 3))) (.seq (.app 5 (.ite (.or (.cmp .gt (.bin .mod (.bin .fdiv (.var 8) (.int 2)) (.int 3)) (.int 0)) (.eq (.var 5) (.lst .nil))) (.bin .mod (.var 8) (.int 2)) (.oix 5 (.neg (.int 1))))) .nil))
def l_law_2 : S := (.seq (.ite (.or (.not (.call 12 (.cons (.var 4) (.cons (.sl (.var 5) .nil (.cons (.var 2) .nil)) .nil)))) (.not (.call 12 (.cons (.tup (.cons (.ix (.var 4) (.int 0)) (.cons (.bin .sub (.int 3) (.ix (.var 4) (.int 1))) .nil))) (.cons (.sl (.var 5) .nil (.cons (.var 2) .nil)) .nil))))) (.seq (.ret (.bl false)) .nil) .nil) .nil)
def l_law_3 : S := (.seq (.ite (.not (.call 12 (.cons (.tup (.cons (.var 3) (.cons (.var 9) .nil))) (.cons (.var 10) .nil)))) (.seq (.ret (.bl false)) .nil) .nil) .nil)
def l_law_4 : S := (.seq (.loop (.nm 10) (.itT (.tup (.cons (.rep (.lst (.cons (.int 0) .nil)) (.int 12)) (.cons (.rep (.lst (.cons (.int 0) (.cons (.int 1) .nil))) (.int 30)) (.cons (.rep (.lst (.cons (.int 1) .nil)) (.int 60)) (.cons (.lst (.cons (.int 0) (.cons (.int 0) (.cons (.int 1) (.cons (.int 1) (.cons (.int 1) (.cons (.int 1) (.cons (.int 0) (.cons (.int 1) (.cons (.int 0) (.cons (.int 0) .nil))))))))))) .nil)))))) l_law_3) .nil)
def l_law_5 : S := (.seq (.loop (.nm 9) (.itT (.tup (.cons (.int 1) (.cons (.int 2) .nil)))) l_law_4) .nil)
def c_law : S := (.seq (.asg (.nm 1) (.call 8 (.cons (.call 6 (.cons (.var 0) (.cons (.int 0) .nil))) (.cons (.int 6) .nil)))) (.seq (.par 4 5 false true (.tup (.cons (.bin .add (.int 1) (.bin .mod (.var 1) (.int 5))) (.cons (.bin .add (.int 1) (.bin .mod (.bin .fdiv (.var 1) (.int 5)) (.int 2))) .nil))) (.lst .nil)) (.seq (.loop (.t2 (.nm 6) (.nm 7)) (.itE (.sl (.var 0) .nil (.cons (.int 60) .nil))) l_law_1) (.seq (.loop (.nm 2) (.itL (.srt (.lst (.cons (.int 0) (.cons (.int 1) (.cons (.bin .fdiv (.len (.var 5)) (.int 2)) (.cons (.len (.var 5)) (.cons (.bin .mod (.bin .fdiv (.var 1) (.int 10)) (.bin .add (.len (.var 5)) (.int 1))) .nil)))))))) l_law_2) (.seq (.loop (.nm 3) (.itR2 (.int 1) (.int 6)) l_law_5) (.seq (.ite (.or (.ne (.call 4 (.cons (.tup (.cons (.int 2) (.cons (.int 1) .nil))) (.cons (.lst (.cons (.int 0) (.cons (.int 0) (.cons (.int 1) (.cons (.int 0) (.cons (.int 1) .nil)))))) .nil))) (.tup (.cons (.lst (.cons (.int 0) (.cons (.int 1) .nil))) (.cons (.tup (.cons (.int 0) (.cons (.int 0) .nil))) .nil)))) (.ne (.call 4 (.cons (.tup (.cons (.int 1) (.cons (.int 2) .nil))) (.cons (.lst (.cons (.int 0) (.cons (.int 1) (.cons (.int 0) (.cons (.int 0) .nil))))) .nil))) (.tup (.cons (.lst (.cons (.int 0) .nil)) (.cons (.tup (.cons (.int 0) (.cons (.int 0) .nil))) .nil))))) (.seq (.ret (.bl false)) .nil) .nil) (.seq (.ret (.and (.isb (.call 5 (.cons (.tup (.cons (.int 3) (.cons (.int 2) .nil))) (.cons (.lst (.cons (.int 0) (.cons (.int 0) (.cons (.int 1) (.cons (.int 1) (.cons (.int 1) .nil)))))) (.cons (.int 1) .nil)))) (.bl true)) (.isb (.call 5 (.cons (.tup (.cons (.int 3) (.cons (.int 2) .nil))) (.cons (.lst (.cons (.int 0) (.cons (.int 0) (.cons (.int 1) (.cons (.int 1) .nil))))) (.cons (.int 1) .nil)))) (.bl false)))) .nil)))))))
def ga_law : Ga := ⟨[fd_is_whole, fd_is_count, fd_gone_over, fd_check_game, fd_games, fd_game_point, fd__law_cell_at, fd__law_draw, fd__law_value, fd__law_whole, fd__law_says, fd__law_games, fd__law_right], []⟩
end K05

namespace K05
open PySem L2 G
/-! each def's HandS term, by gen.py -/
def tops (i : Nat) : Stmt := PySem.Challenge.pw_scorehands_k05_whole_games.main.body.getD i (.Pass ⟨0, 0, 0, 0⟩)
abbrev s_is_whole : Stmt := tops 6
abbrev N_is_whole : List Str := ["thing"]
theorem sc_is_whole : FnScope N_is_whole ["thing"] (defScope s_is_whole) :=
  ⟨rfl, rfl, rfl, by decide +kernel, rfl, by decide +kernel, by decide +kernel⟩
abbrev s_is_count : Stmt := tops 7
abbrev N_is_count : List Str := ["thing", "least", "most"]
theorem sc_is_count : FnScope N_is_count ["thing", "least", "most"] (defScope s_is_count) :=
  ⟨rfl, rfl, rfl, by decide +kernel, rfl, by decide +kernel, by decide +kernel⟩
abbrev s_gone_over : Stmt := tops 12
abbrev N_gone_over : List Str := ["rule", "points", "side", "to", "ahead", "winners", "sides"]
theorem sc_gone_over : FnScope N_gone_over ["rule", "points"] (defScope s_gone_over) :=
  ⟨rfl, rfl, rfl, by decide +kernel, rfl, by decide +kernel, by decide +kernel⟩
abbrev s_check_game : Stmt := tops 13
abbrev N_check_game : List Str := ["rule", "points", "one"]
theorem sc_check_game : FnScope N_check_game ["rule", "points"] (defScope s_check_game) :=
  ⟨rfl, rfl, rfl, by decide +kernel, rfl, by decide +kernel, by decide +kernel⟩
abbrev s_games : Stmt := tops 14
abbrev N_games : List Str := ["rule", "points"]
theorem sc_games : FnScope N_games ["rule", "points"] (defScope s_games) :=
  ⟨rfl, rfl, rfl, by decide +kernel, rfl, by decide +kernel, by decide +kernel⟩
abbrev s_game_point : Stmt := tops 15
abbrev N_game_point : List Str := ["rule", "points", "side"]
theorem sc_game_point : FnScope N_game_point ["rule", "points", "side"] (defScope s_game_point) :=
  ⟨rfl, rfl, rfl, by decide +kernel, rfl, by decide +kernel, by decide +kernel⟩
abbrev s__law_cell_at : Stmt := tops 17
abbrev N__law_cell_at : List Str := ["_law_script", "_law_k"]
theorem sc__law_cell_at : FnScope N__law_cell_at ["_law_script", "_law_k"] (defScope s__law_cell_at) :=
  ⟨rfl, rfl, rfl, by decide +kernel, rfl, by decide +kernel, by decide +kernel⟩
abbrev s__law_draw : Stmt := tops 18
abbrev N__law_draw : List Str := ["_law_cell", "_law_k", "_law_many", "_law_primes"]
theorem sc__law_draw : FnScope N__law_draw ["_law_cell", "_law_k", "_law_many"] (defScope s__law_draw) :=
  ⟨rfl, rfl, rfl, by decide +kernel, rfl, by decide +kernel, by decide +kernel⟩
abbrev s__law_value : Stmt := tops 19
abbrev N__law_value : List Str := ["_law_cell", "_law_turn", "_law_blend"]
theorem sc__law_value : FnScope N__law_value ["_law_cell", "_law_turn"] (defScope s__law_value) :=
  ⟨rfl, rfl, rfl, by decide +kernel, rfl, by decide +kernel, by decide +kernel⟩
abbrev s__law_whole : Stmt := tops 20
abbrev N__law_whole : List Str := ["_law_number"]
theorem sc__law_whole : FnScope N__law_whole ["_law_number"] (defScope s__law_whole) :=
  ⟨rfl, rfl, rfl, by decide +kernel, rfl, by decide +kernel, by decide +kernel⟩
abbrev s__law_says : Stmt := tops 21
abbrev N__law_says : List Str := ["_law_said", "_law_due"]
theorem sc__law_says : FnScope N__law_says ["_law_said", "_law_due"] (defScope s__law_says) :=
  ⟨rfl, rfl, rfl, by decide +kernel, rfl, by decide +kernel, by decide +kernel⟩
abbrev s__law_games : Stmt := tops 22
abbrev N__law_games : List Str := ["_law_rule", "_law_points", "_law_at", "_law_winners", "_law_begin", "_law_some", "_law_mine", "_law_theirs"]
theorem sc__law_games : FnScope N__law_games ["_law_rule", "_law_points"] (defScope s__law_games) :=
  ⟨rfl, rfl, rfl, by decide +kernel, rfl, by decide +kernel, by decide +kernel⟩
abbrev s__law_right : Stmt := tops 23
abbrev N__law_right : List Str := ["_law_rule", "_law_points", "_law_handed", "_law_again", "_law_side", "_law_found", "_law_due", "_law_one"]
theorem sc__law_right : FnScope N__law_right ["_law_rule", "_law_points"] (defScope s__law_right) :=
  ⟨rfl, rfl, rfl, by decide +kernel, rfl, by decide +kernel, by decide +kernel⟩
abbrev s_law : Stmt := tops 24
abbrev N_law : List Str := ["_law_script", "_law_value_here", "_law_many", "_law_to", "_law_rule", "_law_points", "_law_at", "_law_cell", "_law_number", "_law_ahead", "_law_some"]
theorem sc_law : FnScope N_law ["_law_script"] (defScope s_law) :=
  ⟨rfl, rfl, rfl, by decide +kernel, rfl, by decide +kernel, by decide +kernel⟩
abbrev cn (K : PySem.W.Frag) (w : World) : Cf := ⟨K, fun _ => (0, []), w⟩
structure Txt (K : PySem.W.Frag) (mg : Str → Option Value) (fa : Nat → Addr) (ff : Nat → FuncData) (tk : Nat → Tok) : Prop where
  f_is_whole : Fn1 K mg "is_whole" s_is_whole ["thing"] (fa 0) (ff 0)
  f_is_count : Fn1 K mg "is_count" s_is_count ["thing", "least", "most"] (fa 1) (ff 1)
  f_gone_over : Fn1 K mg "gone_over" s_gone_over ["rule", "points"] (fa 2) (ff 2)
  f_check_game : Fn1 K mg "check_game" s_check_game ["rule", "points"] (fa 3) (ff 3)
  f_games : Fn1 K mg "games" s_games ["rule", "points"] (fa 4) (ff 4)
  f_game_point : Fn1 K mg "game_point" s_game_point ["rule", "points", "side"] (fa 5) (ff 5)
  f__law_cell_at : Fn1 K mg "_law_cell_at" s__law_cell_at ["_law_script", "_law_k"] (fa 6) (ff 6)
  f__law_draw : Fn1 K mg "_law_draw" s__law_draw ["_law_cell", "_law_k", "_law_many"] (fa 7) (ff 7)
  f__law_value : Fn1 K mg "_law_value" s__law_value ["_law_cell", "_law_turn"] (fa 8) (ff 8)
  f__law_whole : Fn1 K mg "_law_whole" s__law_whole ["_law_number"] (fa 9) (ff 9)
  f__law_says : Fn1 K mg "_law_says" s__law_says ["_law_said", "_law_due"] (fa 10) (ff 10)
  f__law_games : Fn1 K mg "_law_games" s__law_games ["_law_rule", "_law_points"] (fa 11) (ff 11)
  f__law_right : Fn1 K mg "_law_right" s__law_right ["_law_rule", "_law_points"] (fa 12) (ff 12)
  z_all : mg "all" = none
  z_bool : mg "bool" = none
  z_enumerate : mg "enumerate" = none
  z_int : mg "int" = none
  z_isinstance : mg "isinstance" = none
  z_len : mg "len" = none
  z_list : mg "list" = none
  z_range : mg "range" = none
  z_set : mg "set" = none
  z_sorted : mg "sorted" = none
  z_tuple : mg "tuple" = none
  c_MOST_AHEAD : mg "MOST_AHEAD" = some (.int 2 (tk 0))
  c_MOST_POINTS : mg "MOST_POINTS" = some (.int 60 (tk 1))
  c_MOST_TO : mg "MOST_TO" = some (.int 5 (tk 2))
section
variable {P : Program} {w : World} {K : PySem.W.Frag} {mg : Str → Option Value} {base : Heap} {fa : Nat → Addr} {ff : Nat → FuncData} {tk : Nat → Tok}
theorem ks_nil {C : Cf} {fs : List Fd} : KsOk C ⟨fs, []⟩ := fun k v d h => by simp at h
theorem ok_is_whole (T : Txt K mg fa ff tk) : FnOk P w K mg base CX0 1 (fa 0) (ff 0) ["thing"] (spOf (cn K w) fd_is_whole) :=
  fn_c T.f_is_whole.F sc_is_whole ks_nil fun cdv A outer s H E hr =>
    (pss_cons (ps_ret (pe_and (pe_callB call_isi (by rfl) T.z_isinstance (by decide +kernel) (pa_cons (pv 0) (pa_cons (pe_bltn (v := .ty "int") (by rfl) T.z_int (by decide +kernel) rfl) pa_nil))) (pe_one (pe_not (pe_callB call_isi (by rfl) T.z_isinstance (by decide +kernel) (pa_cons (pv 0) (pa_cons (pe_bltn (v := .ty "bool") (by rfl) T.z_bool (by decide +kernel) rfl) pa_nil))))))) pss_nil)
theorem ok_is_count (T : Txt K mg fa ff tk) : FnOk P w K mg base CX0 2 (fa 1) (ff 1) ["thing", "least", "most"] (spOf (cn K w) fd_is_count) :=
  fn_c T.f_is_count.F sc_is_count ks_nil fun cdv A outer s H E hr =>
    (pss_cons (ps_ret (pe_and (pe_call (ok_is_whole T) (hr.mono (by decide)) (by rfl) T.f_is_whole.g T.f_is_whole.F.kp T.f_is_whole.b .nil pass0 (pa_cons (pv 0) pa_nil)) (pe_one (pe_chain op_le op_le (pv 1) (pv 0) (pv 2))))) pss_nil)
theorem ok_gone_over (T : Txt K mg fa ff tk) : FnOk P w K mg base CX0 1 (fa 2) (ff 2) ["rule", "points"] (spOf (cn K w) fd_gone_over) :=
  fn_c T.f_gone_over.F sc_gone_over ks_nil fun cdv A outer s H E hr =>
    (pss_cons (ps_asg (pv 0) (pg_tup rfl (pgs_cons (pg_name (i := 3) sc_gone_over.nd rfl (.inl rfl)) (pgs_cons (pg_name (i := 4) sc_gone_over.nd rfl (.inl rfl)) pgs_nil)))) (pss_cons (ps_par (by rfl) sc_gone_over.nd rfl rfl (by decide) rfl rfl (pa_cons (pe_lst pa_nil) (pa_cons (pe_lst (pa_cons pe_int (pa_cons pe_int pa_nil))) pa_nil)) (by rfl)) (pss_cons (ps_for PassesOwn.never rfl (pi_list (pv 1)) (pg_name (i := 2) sc_gone_over.nd rfl (.inl rfl)) (pss_cons (ps_augS (pv 6) (pv 2) get_list pe_int ip_add set_list) (pss_cons (ps_if (PW.pt (pw_and (pt_cmpR op_ge (pe_ix ix_seq (pv 6) (pv 2) (fun _ _ => rfl)) (pv 3) (nomark _)) (pw_and1 (pt_cmpR op_ge (pe_op op_sub (pe_ix ix_seq (pv 6) (pv 2) (fun _ _ => rfl)) (pe_ix ix_seq (pv 6) (pe_op op_sub pe_int (pv 2)) (fun _ _ => rfl))) (pv 4) (nomark _))))) (pss_cons (ps_expr (pe_bm PySem.F.plainAttrs_list PySem.F.slot_list_append PySem.F.type_list_append mt_append (pv 5) (pa_cons (pv 2) pa_nil))) (pss_cons (ps_set (i := 6) sc_gone_over.nd rfl (.inl rfl) (pe_lst (pa_cons pe_int (pa_cons pe_int pa_nil)))) pss_nil)) pss_nil) pss_nil))) (pss_cons (ps_ret (pe_tup (pa_cons (pv 5) (pa_cons (pe_tup (pa_cons (pe_ix ix_seq (pv 6) pe_int (fun _ _ => rfl)) (pa_cons (pe_ix ix_seq (pv 6) pe_int (fun _ _ => rfl)) pa_nil))) pa_nil)))) pss_nil))))
theorem ok_check_game (T : Txt K mg fa ff tk) : FnOk P w K mg base CX0 3 (fa 3) (ff 3) ["rule", "points"] (spOf (cn K w) fd_check_game) :=
  fn_c T.f_check_game.F sc_check_game ks_nil fun cdv A outer s H E hr =>
    (pss_cons (ps_if (PW.pt (pw_or (pt_not (pt_val (pe_callB call_isi (by rfl) T.z_isinstance (by decide +kernel) (pa_cons (pv 0) (pa_cons (pe_bltn (v := .ty "tuple") (by rfl) T.z_tuple (by decide +kernel) rfl) pa_nil))))) (pw_or (pt_cmpR (op_neD hr.units) (pe_callB call_len_seq (by rfl) T.z_len PySem.boot_len (pa_cons (pv 0) pa_nil)) pe_int (nomark _)) (pw_or1 (pt_not (pt_val (pe_call (ok_is_count T) (hr.mono (by decide)) (by rfl) T.f_is_count.g T.f_is_count.F.kp T.f_is_count.b .nil pass0 (pa_cons (pe_ix ix_seq (pv 0) pe_int (fun _ _ => rfl)) (pa_cons pe_int (pa_cons (pe_glob rfl T.c_MOST_TO ⟨_, rfl⟩) pa_nil)))))))))) (pss_cons ps_never pss_nil) pss_nil) (pss_cons (ps_if (pt_not (pt_val (pe_call (ok_is_count T) (hr.mono (by decide)) (by rfl) T.f_is_count.g T.f_is_count.F.kp T.f_is_count.b .nil pass0 (pa_cons (pe_ix ix_seq (pv 0) pe_int (fun _ _ => rfl)) (pa_cons pe_int (pa_cons (pe_glob rfl T.c_MOST_AHEAD ⟨_, rfl⟩) pa_nil)))))) (pss_cons ps_never pss_nil) pss_nil) (pss_cons (ps_if (PW.pt (pw_or (pt_not (pt_val (pe_callB call_isi (by rfl) T.z_isinstance (by decide +kernel) (pa_cons (pv 1) (pa_cons (pe_bltn (v := .ty "list") (by rfl) T.z_list (by decide +kernel) rfl) pa_nil))))) (pw_or (pt_cmpR op_gt (pe_callB call_len_seq (by rfl) T.z_len PySem.boot_len (pa_cons (pv 1) pa_nil)) (pe_glob rfl T.c_MOST_POINTS ⟨_, rfl⟩) (nomark _)) (pw_or1 (pt_not (pt_val (pe_callB (cr_all rfl) (by rfl) T.z_all (by decide +kernel) (pa_cons (pe_lc (own := [("one", 2)]) (by rfl) sc_check_game.nd (pi_list (pv 1)) (blkOk_by (own := [("one", 2)]) (N := N_check_game) (sc := defScope s_check_game) (by decide +kernel)) (fun _ _ _ _ _ => (pg_name (i := 2) sc_check_game.nd rfl (.inl rfl))) (fun _ _ _ _ _ => pts_nil) (fun _ _ _ _ _ => (pe_call (ok_is_count T) (hr.mono (by decide)) (by rfl) T.f_is_count.g T.f_is_count.F.kp T.f_is_count.b .nil pass0 (pa_cons (pv 2) (pa_cons pe_int (pa_cons pe_int pa_nil)))))) pa_nil)))))))) (pss_cons ps_never pss_nil) pss_nil) pss_nil)))
theorem ok_games (T : Txt K mg fa ff tk) : FnOk P w K mg base CX0 4 (fa 4) (ff 4) ["rule", "points"] (spOf (cn K w) fd_games) :=
  fn_c T.f_games.F sc_games ks_nil fun cdv A outer s H E hr =>
    (pss_cons (ps_expr (pe_call (ok_check_game T) (hr.mono (by decide)) (by rfl) T.f_check_game.g T.f_check_game.F.kp T.f_check_game.b .nil pass0 (pa_cons (pv 0) (pa_cons (pv 1) pa_nil)))) (pss_cons (ps_ret (pe_call (ok_gone_over T) (hr.mono (by decide)) (by rfl) T.f_gone_over.g T.f_gone_over.F.kp T.f_gone_over.b .nil pass0 (pa_cons (pv 0) (pa_cons (pv 1) pa_nil)))) pss_nil))
theorem ok_game_point (T : Txt K mg fa ff tk) : FnOk P w K mg base CX0 4 (fa 5) (ff 5) ["rule", "points", "side"] (spOf (cn K w) fd_game_point) :=
  fn_c T.f_game_point.F sc_game_point ks_nil fun cdv A outer s H E hr =>
    (pss_cons (ps_expr (pe_call (ok_check_game T) (hr.mono (by decide)) (by rfl) T.f_check_game.g T.f_check_game.F.kp T.f_check_game.b .nil pass0 (pa_cons (pv 0) (pa_cons (pv 1) pa_nil)))) (pss_cons (ps_if (pt_not (pt_val (pe_call (ok_is_count T) (hr.mono (by decide)) (by rfl) T.f_is_count.g T.f_is_count.F.kp T.f_is_count.b .nil pass0 (pa_cons (pv 2) (pa_cons pe_int (pa_cons pe_int pa_nil)))))) (pss_cons ps_never pss_nil) pss_nil) (pss_cons (ps_ret (pe_cmpR op_gt (pe_callB call_len_seq (by rfl) T.z_len PySem.boot_len (pa_cons (pe_ix ix_seq (pe_call (ok_gone_over T) (hr.mono (by decide)) (by rfl) T.f_gone_over.g T.f_gone_over.F.kp T.f_gone_over.b .nil pass0 (pa_cons (pv 0) (pa_cons (pe_op op_cat (pv 1) (pe_lst (pa_cons (pv 2) pa_nil))) pa_nil))) pe_int (fun _ _ => rfl)) pa_nil)) (pe_callB call_len_seq (by rfl) T.z_len PySem.boot_len (pa_cons (pe_ix ix_seq (pe_call (ok_gone_over T) (hr.mono (by decide)) (by rfl) T.f_gone_over.g T.f_gone_over.F.kp T.f_gone_over.b .nil pass0 (pa_cons (pv 0) (pa_cons (pv 1) pa_nil))) pe_int (fun _ _ => rfl)) pa_nil)) (nomark _))) pss_nil)))
theorem ok__law_cell_at (T : Txt K mg fa ff tk) : FnOk P w K mg base CX0 1 (fa 6) (ff 6) ["_law_script", "_law_k"] (spOf (cn K w) fd__law_cell_at) :=
  fn_c T.f__law_cell_at.F sc__law_cell_at ks_nil fun cdv A outer s H E hr =>
    (pss_cons (ps_if (pt_cmpR op_lt (pv 1) (pe_callB call_len_seq (by rfl) T.z_len PySem.boot_len (pa_cons (pv 0) pa_nil)) (nomark _)) (pss_cons (ps_ret (pe_ix ix_seq (pv 0) (pv 1) (fun _ _ => rfl))) pss_nil) pss_nil) (pss_cons (ps_ret pe_int) pss_nil))
theorem ok__law_draw (T : Txt K mg fa ff tk) : FnOk P w K mg base CX0 1 (fa 7) (ff 7) ["_law_cell", "_law_k", "_law_many"] (spOf (cn K w) fd__law_draw) :=
  fn_c T.f__law_draw.F sc__law_draw ks_nil fun cdv A outer s H E hr =>
    (pss_cons (ps_set (i := 3) sc__law_draw.nd rfl (.inl rfl) (pe_tup (pa_cons pe_int (pa_cons pe_int (pa_cons pe_int (pa_cons pe_int (pa_cons pe_int (pa_cons pe_int (pa_cons pe_int (pa_cons pe_int (pa_cons pe_int (pa_cons pe_int (pa_cons pe_int (pa_cons pe_int (pa_cons pe_int (pa_cons pe_int (pa_cons pe_int (pa_cons pe_int pa_nil)))))))))))))))))) (pss_cons (ps_ret (pe_op op_mod (pe_op op_mod (pe_op op_add (pe_op op_mulX (pv 0) pe_int) (pe_op op_mulX (pv 1) pe_int)) (pe_ix ix_seq (pv 3) (pe_op op_mod (pv 1) pe_int) (fun _ _ => rfl))) (pv 2))) pss_nil))
theorem ok__law_value (T : Txt K mg fa ff tk) : FnOk P w K mg base CX0 2 (fa 8) (ff 8) ["_law_cell", "_law_turn"] (spOf (cn K w) fd__law_value) :=
  fn_c T.f__law_value.F sc__law_value ks_nil fun cdv A outer s H E hr =>
    (pss_cons (ps_if (pt_cmpR op_ge (pv 0) (pe_op op_pow pe_int pe_int) (nomark _)) (pss_cons (ps_ret (pe_op op_shr (pe_op op_mod (pe_op op_sub (pv 0) (pe_op op_pow pe_int pe_int)) (pe_op op_pow pe_int pe_int)) (pe_op op_mulX pe_int (pv 1)))) pss_nil) pss_nil) (pss_cons (ps_set (i := 2) sc__law_value.nd rfl (.inl rfl) (pe_call (ok__law_draw T) (hr.mono (by decide)) (by rfl) T.f__law_draw.g T.f__law_draw.F.kp T.f__law_draw.b .nil pass0 (pa_cons (pe_op op_mulX (pe_op op_add (pv 0) (pe_op op_mulX pe_int (pv 1))) (pe_op op_add (pe_op op_add (pv 0) (pe_op op_mulX pe_int (pv 1))) pe_int)) (pa_cons (pe_op op_add (pe_op op_mod (pv 1) pe_int) pe_int) (pa_cons pe_int pa_nil))))) (pss_cons (ps_ret (pe_op op_add (pe_op op_mulX (pv 2) pe_int) (pe_call (ok__law_draw T) (hr.mono (by decide)) (by rfl) T.f__law_draw.g T.f__law_draw.F.kp T.f__law_draw.b .nil pass0 (pa_cons (pe_op op_add (pe_op op_mulX (pe_op op_add (pv 0) (pe_op op_mulX pe_int (pv 1))) (pe_op op_add (pv 0) pe_int)) (pe_op op_mulX pe_int (pv 1))) (pa_cons (pe_op op_add (pe_op op_mod (pv 1) pe_int) pe_int) (pa_cons pe_int pa_nil)))))) pss_nil)))
theorem ok__law_whole (T : Txt K mg fa ff tk) : FnOk P w K mg base CX0 1 (fa 9) (ff 9) ["_law_number"] (spOf (cn K w) fd__law_whole) :=
  fn_c T.f__law_whole.F sc__law_whole ks_nil fun cdv A outer s H E hr =>
    (pss_cons (ps_ret (pe_and (pe_callB call_isi (by rfl) T.z_isinstance (by decide +kernel) (pa_cons (pv 0) (pa_cons (pe_bltn (v := .ty "int") (by rfl) T.z_int (by decide +kernel) rfl) pa_nil))) (pe_one (pe_not (pe_callB call_isi (by rfl) T.z_isinstance (by decide +kernel) (pa_cons (pv 0) (pa_cons (pe_bltn (v := .ty "bool") (by rfl) T.z_bool (by decide +kernel) rfl) pa_nil))))))) pss_nil)
theorem ok__law_says (T : Txt K mg fa ff tk) : FnOk P w K mg base CX0 1 (fa 10) (ff 10) ["_law_said", "_law_due"] (spOf (cn K w) fd__law_says) :=
  fn_c T.f__law_says.F sc__law_says ks_nil fun cdv A outer s H E hr =>
    (pss_cons (ps_ret (pe_and (pe_callB call_isi (by rfl) T.z_isinstance (by decide +kernel) (pa_cons (pv 0) (pa_cons (pe_bltn (v := .ty "bool") (by rfl) T.z_bool (by decide +kernel) rfl) pa_nil))) (pe_one (pe_cmpR (op_eqD hr.units) (pv 0) (pv 1) (nomark _))))) pss_nil)
theorem ok__law_games (T : Txt K mg fa ff tk) : FnOk P w K mg base CX0 1 (fa 11) (ff 11) ["_law_rule", "_law_points"] (spOf (cn K w) fd__law_games) :=
  fn_c T.f__law_games.F sc__law_games ks_nil fun cdv A outer s H E hr =>
    (pss_cons (ps_par (by rfl) sc__law_games.nd rfl rfl (by decide) rfl rfl (pa_cons (pe_lst pa_nil) (pa_cons pe_int pa_nil)) (by rfl)) (pss_cons (ps_for PassesOwn.never rfl (pi_range1 (by rfl) T.z_range (pa_cons (pe_callB call_len_seq (by rfl) T.z_len PySem.boot_len (pa_cons (pv 1) pa_nil)) pa_nil)) (pg_name (i := 2) sc__law_games.nd rfl (.inl rfl)) (pss_cons (ps_set (i := 5) sc__law_games.nd rfl (.inl rfl) (pe_slice sl_list (pv 1) (po_some (pv 4)) (po_some (pe_op op_add (pv 2) pe_int)))) (pss_cons (ps_par (by rfl) sc__law_games.nd rfl rfl (by decide) rfl rfl (pa_cons (pe_bm PySem.F.plainAttrs_list PySem.F.slot_list_count PySem.F.type_list_count mt_lcount (pv 5) (pa_cons (pe_ix ix_seq (pv 1) (pv 2) (fun _ _ => rfl)) pa_nil)) (pa_cons (pe_bm PySem.F.plainAttrs_list PySem.F.slot_list_count PySem.F.type_list_count mt_lcount (pv 5) (pa_cons (pe_op op_sub pe_int (pe_ix ix_seq (pv 1) (pv 2) (fun _ _ => rfl))) pa_nil)) pa_nil)) (by rfl)) (pss_cons (ps_if (PW.pt (pw_and (pt_cmpR op_ge (pv 6) (pe_ix ix_seq (pv 0) pe_int (fun _ _ => rfl)) (nomark _)) (pw_and1 (pt_cmpR op_ge (pe_op op_sub (pv 6) (pv 7)) (pe_ix ix_seq (pv 0) pe_int (fun _ _ => rfl)) (nomark _))))) (pss_cons (ps_expr (pe_bm PySem.F.plainAttrs_list PySem.F.slot_list_append PySem.F.type_list_append mt_append (pv 3) (pa_cons (pe_ix ix_seq (pv 1) (pv 2) (fun _ _ => rfl)) pa_nil))) (pss_cons (ps_set (i := 4) sc__law_games.nd rfl (.inl rfl) (pe_op op_add (pv 2) pe_int)) pss_nil)) pss_nil) pss_nil)))) (pss_cons (ps_ret (pe_tup (pa_cons (pv 3) (pa_cons (pe_tup (pa_cons (pe_bm PySem.F.plainAttrs_list PySem.F.slot_list_count PySem.F.type_list_count mt_lcount (pe_slice sl_list (pv 1) (po_some (pv 4)) po_none) (pa_cons pe_int pa_nil)) (pa_cons (pe_bm PySem.F.plainAttrs_list PySem.F.slot_list_count PySem.F.type_list_count mt_lcount (pe_slice sl_list (pv 1) (po_some (pv 4)) po_none) (pa_cons pe_int pa_nil)) pa_nil))) pa_nil)))) pss_nil)))
theorem ok__law_right (T : Txt K mg fa ff tk) : FnOk P w K mg base CX0 5 (fa 12) (ff 12) ["_law_rule", "_law_points"] (spOf (cn K w) fd__law_right) :=
  fn_c T.f__law_right.F sc__law_right ks_nil fun cdv A outer s H E hr =>
    (pss_cons (ps_set (i := 2) sc__law_right.nd rfl (.inl rfl) (pe_callTy call_list_of (by rfl) T.z_list (by decide +kernel) (pa_cons (pv 1) pa_nil))) (pss_cons (ps_for PassesOwn.never rfl (pi_range1 (by rfl) T.z_range (pa_cons pe_int pa_nil)) (pg_name (i := 3) sc__law_right.nd rfl (.inl rfl)) (pss_cons (ps_set (i := 5) sc__law_right.nd rfl (.inl rfl) (pe_call (ok_games T) (hr.mono (by decide)) (by rfl) T.f_games.g T.f_games.F.kp T.f_games.b .nil pass0 (pa_cons (pv 0) (pa_cons (pv 2) pa_nil)))) (pss_cons (ps_if (PW.pt (pw_or (pt_not (pt_val (pe_callB call_isi (by rfl) T.z_isinstance (by decide +kernel) (pa_cons (pv 5) (pa_cons (pe_bltn (v := .ty "tuple") (by rfl) T.z_tuple (by decide +kernel) rfl) pa_nil))))) (pw_or (pt_cmpR (op_neD hr.units) (pv 5) (pe_call (ok__law_games T) (hr.mono (by decide)) (by rfl) T.f__law_games.g T.f__law_games.F.kp T.f__law_games.b .nil pass0 (pa_cons (pv 0) (pa_cons (pv 1) pa_nil))) (nomark _)) (pw_or1 (pt_cmpR (op_neD hr.units) (pv 2) (pv 1) (nomark _)))))) (pss_cons (ps_ret pe_bl) pss_nil) pss_nil) (pss_cons (ps_if (PW.pt (pw_or (pt_not (pt_val (pe_callB (cr_all rfl) (by rfl) T.z_all (by decide +kernel) (pa_cons (pe_lc (own := [("_law_one", 7)]) (by rfl) sc__law_right.nd (pi_list (pe_op op_cat (pe_ix ix_seq (pv 5) pe_int (fun _ _ => rfl)) (pe_callTy call_list_of (by rfl) T.z_list (by decide +kernel) (pa_cons (pe_ix ix_seq (pv 5) pe_int (fun _ _ => rfl)) pa_nil)))) (blkOk_by (own := [("_law_one", 7)]) (N := N__law_right) (sc := defScope s__law_right) (by decide +kernel)) (fun _ _ _ _ _ => (pg_name (i := 7) sc__law_right.nd rfl (.inl rfl))) (fun _ _ _ _ _ => pts_nil) (fun _ _ _ _ _ => (pe_call (ok__law_whole T) (hr.mono (by decide)) (by rfl) T.f__law_whole.g T.f__law_whole.F.kp T.f__law_whole.b .nil pass0 (pa_cons (pv 7) pa_nil)))) pa_nil)))) (pw_or1 (pt_not (pt_val (pe_callB call_isi (by rfl) T.z_isinstance (by decide +kernel) (pa_cons (pe_ix ix_seq (pv 5) pe_int (fun _ _ => rfl)) (pa_cons (pe_bltn (v := .ty "tuple") (by rfl) T.z_tuple (by decide +kernel) rfl) pa_nil)))))))) (pss_cons (ps_ret pe_bl) pss_nil) pss_nil) (pss_cons (ps_expr (pe_bm PySem.F.plainAttrs_list PySem.F.slot_list_append PySem.F.type_list_append mt_append (pe_ix ix_seq (pv 5) pe_int (fun _ _ => rfl)) (pa_cons pe_int pa_nil))) pss_nil))))) (pss_cons (ps_for PassesOwn.never rfl (pi_tup (pe_tup (pa_cons pe_int (pa_cons pe_int pa_nil)))) (pg_name (i := 4) sc__law_right.nd rfl (.inl rfl)) (pss_cons (ps_set (i := 6) sc__law_right.nd rfl (.inl rfl) (pe_cmpR op_gt (pe_callB call_len_seq (by rfl) T.z_len PySem.boot_len (pa_cons (pe_ix ix_seq (pe_call (ok__law_games T) (hr.mono (by decide)) (by rfl) T.f__law_games.g T.f__law_games.F.kp T.f__law_games.b .nil pass0 (pa_cons (pv 0) (pa_cons (pe_op op_cat (pv 1) (pe_lst (pa_cons (pv 4) pa_nil))) pa_nil))) pe_int (fun _ _ => rfl)) pa_nil)) (pe_callB call_len_seq (by rfl) T.z_len PySem.boot_len (pa_cons (pe_ix ix_seq (pe_call (ok__law_games T) (hr.mono (by decide)) (by rfl) T.f__law_games.g T.f__law_games.F.kp T.f__law_games.b .nil pass0 (pa_cons (pv 0) (pa_cons (pv 1) pa_nil))) pe_int (fun _ _ => rfl)) pa_nil)) (nomark _))) (pss_cons (ps_if (pt_not (pt_val (pe_call (ok__law_says T) (hr.mono (by decide)) (by rfl) T.f__law_says.g T.f__law_says.F.kp T.f__law_says.b .nil pass0 (pa_cons (pe_call (ok_game_point T) (hr.mono (by decide)) (by rfl) T.f_game_point.g T.f_game_point.F.kp T.f_game_point.b .nil pass0 (pa_cons (pv 0) (pa_cons (pv 2) (pa_cons (pv 4) pa_nil)))) (pa_cons (pv 6) pa_nil))))) (pss_cons (ps_ret pe_bl) pss_nil) pss_nil) pss_nil))) (pss_cons (ps_expr (pe_bm PySem.F.plainAttrs_list PySem.F.slot_list_append PySem.F.type_list_append mt_append (pv 2) (pa_cons pe_int pa_nil))) (pss_cons (ps_ret (pe_cmpR (op_eqD hr.units) (pe_call (ok_games T) (hr.mono (by decide)) (by rfl) T.f_games.g T.f_games.F.kp T.f_games.b .nil pass0 (pa_cons (pv 0) (pa_cons (pe_slice sl_list (pv 2) po_none (po_some pe_int)) pa_nil))) (pe_call (ok__law_games T) (hr.mono (by decide)) (by rfl) T.f__law_games.g T.f__law_games.F.kp T.f__law_games.b .nil pass0 (pa_cons (pv 0) (pa_cons (pe_slice sl_list (pv 2) po_none (po_some pe_int)) pa_nil))) (nomark _))) pss_nil)))))
theorem ok_law {f : Addr} {fd : FuncData} (T : Txt K mg fa ff tk) (F : Fun K "law" "law" s_law f fd)
    (run : ∀ ns : List Int, ns.length ≤ 63 → (∀ z ∈ ns, Builtin.Int.intBits z ≤ 1048576) → ∃ f g, exec ga_law c_law (st0 11 [.ls (ns.map D.int)]) = some (.rt (.bl true, f, g))) :
    FnOk P w K mg base CX0 6 f fd ["_law_script"] (spLaw K) :=
  law_c (Cl := fun _ => (0, [])) (Γ := ga_law) (c := c_law) F sc_law ks_nil (fun cdv A outer s H E hr =>
    (pss_cons (ps_set (i := 0) sc_law.nd rfl (.inl rfl) (pe_slice sl_list (pv 0) po_none (po_some pe_int)))
    (pss_cons (ps_set (i := 1) sc_law.nd rfl (.inl rfl) (pe_call (ok__law_value T) (hr.mono (by decide)) (by rfl) T.f__law_value.g T.f__law_value.F.kp T.f__law_value.b .nil pass0 (pa_cons (pe_call (ok__law_cell_at T) (hr.mono (by decide)) (by rfl) T.f__law_cell_at.g T.f__law_cell_at.F.kp T.f__law_cell_at.b .nil pass0 (pa_cons (pv 0) (pa_cons pe_int pa_nil))) (pa_cons pe_int pa_nil)))) (pss_cons (ps_par (by rfl) sc_law.nd rfl rfl (by decide) rfl rfl (pa_cons (pe_tup (pa_cons (pe_op op_add pe_int (pe_op op_mod (pv 1) pe_int)) (pa_cons (pe_op op_add pe_int (pe_op op_mod (pe_op op_fdiv (pv 1) pe_int) pe_int)) pa_nil))) (pa_cons (pe_lst pa_nil) pa_nil)) (by rfl)) (pss_cons (ps_for PassesOwn.never rfl (pi_enum (by rfl) T.z_enumerate (pa_cons (pe_slice sl_list (pv 0) po_none (po_some pe_int)) pa_nil)) (pg_tup rfl (pgs_cons (pg_name (i := 6) sc_law.nd rfl (.inl rfl)) (pgs_cons (pg_name (i := 7) sc_law.nd rfl (.inl rfl)) pgs_nil))) (pss_cons (ps_set (i := 8) sc_law.nd rfl (.inl rfl) (pe_op op_fdiv (pe_call (ok__law_value T) (hr.mono (by decide)) (by rfl) T.f__law_value.g T.f__law_value.F.kp T.f__law_value.b .nil pass0 (pa_cons (pv 7) (pa_cons (pe_op op_mod (pv 6) pe_int) pa_nil))) pe_int)) (pss_cons (ps_expr (pe_bm PySem.F.plainAttrs_list PySem.F.slot_list_append PySem.F.type_list_append mt_append (pv 5) (pa_cons (pe_ifExp (PW.pt (pw_or (pt_cmpR op_gt (pe_op op_mod (pe_op op_fdiv (pv 8) pe_int) pe_int) pe_int (nomark _)) (pw_or1 (pt_cmpR (op_eqD hr.units) (pv 5) (pe_lst pa_nil) (nomark _))))) (pe_op op_mod (pv 8) pe_int) (pe_ix ix_seq (pv 5) (pe_un un_neg pe_int) (fun _ _ => rfl))) pa_nil))) pss_nil))) (pss_cons (ps_for PassesOwn.never rfl (pi_list (pe_callB (cr_sortedSet rfl) (by rfl) T.z_sorted (by decide +kernel) (pa_cons (pe_callTy (cr_setL rfl) (by rfl) T.z_set (by decide +kernel) (pa_cons (pe_lst (pa_cons pe_int (pa_cons pe_int (pa_cons (pe_op op_fdiv (pe_callB call_len_seq (by rfl) T.z_len PySem.boot_len (pa_cons (pv 5) pa_nil)) pe_int) (pa_cons (pe_callB call_len_seq (by rfl) T.z_len PySem.boot_len (pa_cons (pv 5) pa_nil)) (pa_cons (pe_op op_mod (pe_op op_fdiv (pv 1) pe_int) (pe_op op_add (pe_callB call_len_seq (by rfl) T.z_len PySem.boot_len (pa_cons (pv 5) pa_nil)) pe_int)) pa_nil)))))) pa_nil)) pa_nil))) (pg_name (i := 2) sc_law.nd rfl (.inl rfl)) (pss_cons (ps_if (PW.pt (pw_or (pt_not (pt_val (pe_call (ok__law_right T) (hr.mono (by decide)) (by rfl) T.f__law_right.g T.f__law_right.F.kp T.f__law_right.b .nil pass0 (pa_cons (pv 4) (pa_cons (pe_slice sl_list (pv 5) po_none (po_some (pv 2))) pa_nil))))) (pw_or1 (pt_not (pt_val (pe_call (ok__law_right T) (hr.mono (by decide)) (by rfl) T.f__law_right.g T.f__law_right.F.kp T.f__law_right.b .nil pass0 (pa_cons (pe_tup (pa_cons (pe_ix ix_seq (pv 4) pe_int (fun _ _ => rfl)) (pa_cons (pe_op op_sub pe_int (pe_ix ix_seq (pv 4) pe_int (fun _ _ => rfl))) pa_nil))) (pa_cons (pe_slice sl_list (pv 5) po_none (po_some (pv 2))) pa_nil)))))))) (pss_cons (ps_ret pe_bl) pss_nil) pss_nil) pss_nil)) (pss_cons (ps_for PassesOwn.never rfl (pi_range2 (by rfl) T.z_range (pa_cons pe_int (pa_cons pe_int pa_nil))) (pg_name (i := 3) sc_law.nd rfl (.inl rfl)) (pss_cons (ps_for PassesOwn.never rfl (pi_tup (pe_tup (pa_cons pe_int (pa_cons pe_int pa_nil)))) (pg_name (i := 9) sc_law.nd rfl (.inl rfl)) (pss_cons (ps_for PassesOwn.never rfl (pi_tup (pe_tup (pa_cons (pe_op op_rep (pe_lst (pa_cons pe_int pa_nil)) pe_int) (pa_cons (pe_op op_rep (pe_lst (pa_cons pe_int (pa_cons pe_int pa_nil))) pe_int) (pa_cons (pe_op op_rep (pe_lst (pa_cons pe_int pa_nil)) pe_int) (pa_cons (pe_lst (pa_cons pe_int (pa_cons pe_int (pa_cons pe_int (pa_cons pe_int (pa_cons pe_int (pa_cons pe_int (pa_cons pe_int (pa_cons pe_int (pa_cons pe_int (pa_cons pe_int pa_nil))))))))))) pa_nil)))))) (pg_name (i := 10) sc_law.nd rfl (.inl rfl)) (pss_cons (ps_if (pt_not (pt_val (pe_call (ok__law_right T) (hr.mono (by decide)) (by rfl) T.f__law_right.g T.f__law_right.F.kp T.f__law_right.b .nil pass0 (pa_cons (pe_tup (pa_cons (pv 3) (pa_cons (pv 9) pa_nil))) (pa_cons (pv 10) pa_nil))))) (pss_cons (ps_ret pe_bl) pss_nil) pss_nil) pss_nil)) pss_nil)) pss_nil)) (pss_cons (ps_if (PW.pt (pw_or (pt_cmpR (op_neD hr.units) (pe_call (ok_games T) (hr.mono (by decide)) (by rfl) T.f_games.g T.f_games.F.kp T.f_games.b .nil pass0 (pa_cons (pe_tup (pa_cons pe_int (pa_cons pe_int pa_nil))) (pa_cons (pe_lst (pa_cons pe_int (pa_cons pe_int (pa_cons pe_int (pa_cons pe_int (pa_cons pe_int pa_nil)))))) pa_nil))) (pe_tup (pa_cons (pe_lst (pa_cons pe_int (pa_cons pe_int pa_nil))) (pa_cons (pe_tup (pa_cons pe_int (pa_cons pe_int pa_nil))) pa_nil))) (nomark _)) (pw_or1 (pt_cmpR (op_neD hr.units) (pe_call (ok_games T) (hr.mono (by decide)) (by rfl) T.f_games.g T.f_games.F.kp T.f_games.b .nil pass0 (pa_cons (pe_tup (pa_cons pe_int (pa_cons pe_int pa_nil))) (pa_cons (pe_lst (pa_cons pe_int (pa_cons pe_int (pa_cons pe_int (pa_cons pe_int pa_nil))))) pa_nil))) (pe_tup (pa_cons (pe_lst (pa_cons pe_int pa_nil)) (pa_cons (pe_tup (pa_cons pe_int (pa_cons pe_int pa_nil))) pa_nil))) (nomark _))))) (pss_cons (ps_ret pe_bl) pss_nil) pss_nil) (pss_cons (ps_ret (pe_and (pe_cmpR op_isBl (pe_call (ok_game_point T) (hr.mono (by decide)) (by rfl) T.f_game_point.g T.f_game_point.F.kp T.f_game_point.b .nil pass0 (pa_cons (pe_tup (pa_cons pe_int (pa_cons pe_int pa_nil))) (pa_cons (pe_lst (pa_cons pe_int (pa_cons pe_int (pa_cons pe_int (pa_cons pe_int (pa_cons pe_int pa_nil)))))) (pa_cons pe_int pa_nil)))) pe_bl (nomark _)) (pe_one (pe_cmpR op_isBl (pe_call (ok_game_point T) (hr.mono (by decide)) (by rfl) T.f_game_point.g T.f_game_point.F.kp T.f_game_point.b .nil pass0 (pa_cons (pe_tup (pa_cons pe_int (pa_cons pe_int pa_nil))) (pa_cons (pe_lst (pa_cons pe_int (pa_cons pe_int (pa_cons pe_int (pa_cons pe_int pa_nil))))) (pa_cons pe_int pa_nil)))) pe_bl (nomark _))))) pss_nil))))))))) run
end
end K05

namespace K05
open PySem G L2
theorem is_whole_int (n : Int) : fd_is_whole.run [.int n] = some (.bl true) := by
  show endOf false (G.exec ga_is_whole c_is_whole (st0 1 [.int n])) = _
  simp [c_is_whole, G.exec, G.eval, st0, endOf, isT]
theorem is_count_int (n a b : Int) : fd_is_count.run [.int n, .int a, .int b] = some (.bl (decide (a ≤ n) && decide (n ≤ b))) := by
  show endOf false (G.exec ga_is_count c_is_count (st0 3 [.int n, .int a, .int b])) = _
  have e : ga_is_count.fs[0]? = some fd_is_whole := rfl
  have a1 : fd_is_whole.ar = 1 := rfl
  have a2 : fd_is_whole.fr = false := rfl
  by_cases h : a ≤ n <;> simp [c_is_count, G.exec, G.eval, evalA, st0, e, a1, a2, is_whole_int, D.flat, Co.f, h, endOf]
/-! gone_over -/
def stp (to ah : Int) (s : List Int × Int × Int) (p : Int) : List Int × Int × Int :=
  if p = 0 then (if to ≤ s.2.1 + 1 ∧ ah ≤ s.2.1 + 1 - s.2.2 then (s.1 ++ [p], 0, 0) else (s.1, s.2.1 + 1, s.2.2))
  else (if to ≤ s.2.2 + 1 ∧ ah ≤ s.2.2 + 1 - s.2.1 then (s.1 ++ [p], 0, 0) else (s.1, s.2.1, s.2.2 + 1))
def go (to ah : Int) (ps : List Int) : List Int × Int × Int := ps.foldl (stp to ah) ([], 0, 0)
def Sides (ps : List Int) : Prop := ∀ p ∈ ps, p = 0 ∨ p = 1
def enc (s : List Int × Int × Int) : D := .tp [.ls (s.1.map D.int), .tp [.int s.2.1, .int s.2.2]]
theorem go_step (to ah : Int) (ft fh g : Bool) (r0 r1 : Sl) (p : Int) (hp : p = 0 ∨ p = 1) (ws : List Int) (a b : Int) (hw : ws.length < 100000) :
    G.exec ga_gone_over l_gone_over_1 [r0, r1, .sh (.int p) g, .sh (.int to) ft, .sh (.int ah) fh, .ow (ws.map D.int) true, .ow [.int a, .int b] true] =
      some (.nx [r0, r1, .sh (.int p) g, .sh (.int to) ft, .sh (.int ah) fh, .ow ((stp to ah (ws, a, b) p).1.map D.int) true, .ow [.int (stp to ah (ws, a, b) p).2.1, .int (stp to ah (ws, a, b) p).2.2] true]) := by
  rcases hp with rfl | rfl
  · by_cases h1 : to ≤ a + 1
    · by_cases h2 : ah ≤ a + 1 - b
      · simp [l_gone_over_1, G.exec, G.eval, evalA, atI, ixN, isTst, Co.f, Bo.run, slotOf, isNew, D.flat, h1, h2, hw, stp]
      · simp [l_gone_over_1, G.exec, G.eval, evalA, atI, ixN, isTst, Co.f, Bo.run, slotOf, isNew, D.flat, h1, h2, hw, stp]
    · simp [l_gone_over_1, G.exec, G.eval, evalA, atI, ixN, isTst, Co.f, Bo.run, slotOf, isNew, D.flat, h1, hw, stp]
  · by_cases h1 : to ≤ b + 1
    · by_cases h2 : ah ≤ b + 1 - a
      · simp [l_gone_over_1, G.exec, G.eval, evalA, atI, ixN, isTst, Co.f, Bo.run, slotOf, isNew, D.flat, h1, h2, hw, stp]
      · simp [l_gone_over_1, G.exec, G.eval, evalA, atI, ixN, isTst, Co.f, Bo.run, slotOf, isNew, D.flat, h1, h2, hw, stp]
    · simp [l_gone_over_1, G.exec, G.eval, evalA, atI, ixN, isTst, Co.f, Bo.run, slotOf, isNew, D.flat, h1, hw, stp]
theorem stp_len (to ah : Int) (s : List Int × Int × Int) (p : Int) : (stp to ah s p).1.length ≤ s.1.length + 1 := by
  unfold stp
  split <;> split <;> simp
theorem gone_over_run (to ah : Int) (ps : List Int) (hs : Sides ps) (hl : ps.length < 1000) : fd_gone_over.run [.tp [.int to, .int ah], .ls (ps.map D.int)] = some (enc (go to ah ps)) := by
  show endOf true (G.exec ga_gone_over c_gone_over (st0 7 [.tp [.int to, .int ah], .ls (ps.map D.int)])) = _
  obtain ⟨δ', e, x, rfl, _⟩ := forRun_fold (t := .nm 2) (g := false) (ex := fun δ => G.exec ga_gone_over l_gone_over_1 δ) (f := D.int) (up := stp to ah)
    (fun i (s : List Int × Int × Int) δ => ∃ x, δ = [.sh (.tp [.int to, .int ah]) false, .sh (.ls (ps.map D.int)) false, x, .sh (.int to) false, .sh (.int ah) false, .ow (s.1.map D.int) true, .ow [.int s.2.1, .int s.2.2] true] ∧ s.1.length ≤ i)
    ps 0 ([], 0, 0) _ ⟨.no, rfl, Nat.le_refl _⟩ (by
      rintro j a ⟨ws, x, y⟩ δ hj ⟨u, rfl, hw⟩
      have hj' : j < ps.length := (List.getElem?_eq_some_iff.mp hj).1
      refine ⟨_, _, rfl, go_step to ah false false false _ _ a (hs a (List.mem_of_getElem? hj)) ws x y (by dsimp only at hw; omega), _, rfl, ?_⟩
      have := stp_len to ah (ws, x, y) a
      dsimp only at this hw
      omega)
  simp only [List.map_nil] at e
  simp [c_gone_over, G.exec, G.eval, evalA, evalI, st0, Tg.run, slotOf, isNew, e]
  simp [atI, ixN, endOf, enc, go]
end K05

namespace K05
open PySem G L2
structure Rule (to ah : Int) : Prop where
  t1 : 1 ≤ to
  t5 : to ≤ 5
  a1 : 1 ≤ ah
  a2 : ah ≤ 2
theorem chk_list (ps : List Int) (hs : Sides ps) (hl : ps.length ≤ 60) (r : Sl) (x : Sl) : ∃ g, G.eval ga_check_game m_check_game_1 [r, .sh (.ls (ps.map D.int)) false, x] = some (.ls (ps.map fun _ => D.bl true), true, g) := by
  have e : ga_check_game.fs[1]? = some fd_is_count := rfl
  have a1 : fd_is_count.ar = 3 := rfl
  have a2 : fd_is_count.fr = false := rfl
  obtain ⟨gs, h⟩ := lcRun_map (t := .nm 2) (g := false) (ef := fun δ2 => G.eval ga_check_game (.call 1 (.cons (.var 2) (.cons (.int 0) (.cons (.int 1) .nil)))) δ2) (δ := wipeD [r, .sh (.ls (ps.map D.int)) false, x] (Tg.nm 2).sl) (f := D.int) (y := fun _ => D.bl true) ps
    (fun a ha => ⟨_, rfl, true, by
      have h2 : (0 ≤ a ∧ a ≤ 1) := by rcases hs a ha with rfl | rfl <;> decide
      simp [G.eval, evalA, wipeD, Tg.sl, e, a1, a2, is_count_int, D.flat, h2.1, h2.2]⟩)
  exact ⟨gs, eval_lc_of (by simp [evalI, G.eval]) (by simp; omega) h⟩
theorem check_run (to ah : Int) (hr : Rule to ah) (ps : List Int) (hs : Sides ps) (hl : ps.length ≤ 60) : fd_check_game.run [.tp [.int to, .int ah], .ls (ps.map D.int)] = some .non := by
  show endOf false (G.exec ga_check_game c_check_game (st0 3 [.tp [.int to, .int ah], .ls (ps.map D.int)])) = _
  have e : ga_check_game.fs[1]? = some fd_is_count := rfl
  have a1 : fd_is_count.ar = 3 := rfl
  have a2 : fd_is_count.fr = false := rfl
  obtain ⟨g, h⟩ := chk_list ps hs hl (.sh (.tp [.int to, .int ah]) false) .no
  have h3 : blsOf (ps.map fun _ => D.bl true) = some (ps.map fun _ => true) := by
    have := blsOf_map (ps.map fun _ => true)
    rw [List.map_map] at this
    exact this
  have h4 : ¬ (60 < (ps.length : Int)) := by omega
  simp [c_check_game, G.exec, G.eval, evalA, st0, isTst, isT, e, a1, a2, is_count_int, D.flat, atI, ixN, eqv_int, eqok_okn, okn_int, hr.t1, hr.t5, hr.a1, hr.a2, Co.f, h4, h, h3, all_true, endOf]
theorem games_run (to ah : Int) (hr : Rule to ah) (ps : List Int) (hs : Sides ps) (hl : ps.length ≤ 60) : fd_games.run [.tp [.int to, .int ah], .ls (ps.map D.int)] = some (enc (go to ah ps)) := by
  show endOf true (G.exec ga_games c_games (st0 2 [.tp [.int to, .int ah], .ls (ps.map D.int)])) = _
  have e : ga_games.fs[3]? = some fd_check_game := rfl
  have e2 : ga_games.fs[2]? = some fd_gone_over := rfl
  have a1 : fd_check_game.ar = 2 := rfl
  have a2 : fd_check_game.fr = false := rfl
  have a3 : fd_gone_over.ar = 2 := rfl
  have a4 : fd_gone_over.fr = true := rfl
  simp [c_games, G.exec, G.eval, evalA, st0, e, e2, a1, a2, a3, a4, check_run to ah hr ps hs hl, gone_over_run to ah ps hs (by omega), endOf]
theorem sides_app {ps : List Int} {p : Int} (hs : Sides ps) (hp : p = 0 ∨ p = 1) : Sides (ps ++ [p]) := fun q hq => by
  rcases List.mem_append.mp hq with h | h
  · exact hs q h
  · rw [List.mem_singleton.mp h]; exact hp
theorem game_point_run (to ah : Int) (hr : Rule to ah) (ps : List Int) (hs : Sides ps) (hl : ps.length ≤ 60) (p : Int) (hp : p = 0 ∨ p = 1) : fd_game_point.run [.tp [.int to, .int ah], .ls (ps.map D.int), .int p] =
    some (.bl (decide ((go to ah ps).1.length < (go to ah (ps ++ [p])).1.length))) := by
  show endOf false (G.exec ga_game_point c_game_point (st0 3 [.tp [.int to, .int ah], .ls (ps.map D.int), .int p])) = _
  have e : ga_game_point.fs[3]? = some fd_check_game := rfl
  have e2 : ga_game_point.fs[2]? = some fd_gone_over := rfl
  have e3 : ga_game_point.fs[1]? = some fd_is_count := rfl
  have a1 : fd_check_game.ar = 2 := rfl
  have a2 : fd_check_game.fr = false := rfl
  have a3 : fd_gone_over.ar = 2 := rfl
  have a4 : fd_gone_over.fr = true := rfl
  have a5 : fd_is_count.ar = 3 := rfl
  have a6 : fd_is_count.fr = false := rfl
  have h2 : (0 ≤ p ∧ p ≤ 1) := by rcases hp with rfl | rfl <;> decide
  have h3 := gone_over_run to ah (ps ++ [p]) (sides_app hs hp) (by simp; omega)
  simp only [List.map_append, List.map_cons, List.map_nil] at h3
  have h4 : ps.length + 1 ≤ 100000 := by omega
  simp [c_game_point, G.exec, G.eval, evalA, st0, isTst, e, e2, e3, a1, a2, a3, a4, a5, a6, check_run to ah hr ps hs hl, gone_over_run to ah ps hs (by omega), is_count_int, D.flat, h2.1, h2.2, h3, h4, enc, atI, ixN, Co.f, endOf]
theorem cell_at_run (ns : List Int) (k : Nat) : fd__law_cell_at.run [.ls (ns.map D.int), .int (k : Int)] = some (.int (ns.getD k 0)) := by
  show endOf false (G.exec ga__law_cell_at c__law_cell_at (st0 2 [.ls (ns.map D.int), .int (k : Int)])) = _
  by_cases h : k < ns.length
  · have h2 : atI (ns.map D.int) (k : Int) = some (.int ns[k]) := G.atI_nat (by rw [List.getElem?_map, List.getElem?_eq_getElem h]; rfl)
    have h3 : (k : Int) < (ns.length : Int) := by omega
    simp [c__law_cell_at, G.exec, G.eval, st0, isTst, Co.f, h2, h3, endOf, h]
  · have h3 : ¬ (k : Int) < (ns.length : Int) := by omega
    simp [c__law_cell_at, G.exec, G.eval, st0, isTst, Co.f, h3, endOf, List.getElem?_eq_none (show ns.length ≤ k by omega)]
theorem whole_int (n : Int) : fd__law_whole.run [.int n] = some (.bl true) := by
  show endOf false (G.exec ga__law_whole c__law_whole (st0 1 [.int n])) = _
  simp [c__law_whole, G.exec, G.eval, st0, endOf, isT]
theorem says_run (a b : Bool) : fd__law_says.run [.bl a, .bl b] = some (.bl (decide (a = b))) := by
  show endOf false (G.exec ga__law_says c__law_says (st0 2 [.bl a, .bl b])) = _
  simp [c__law_says, G.exec, G.eval, st0, endOf, isT, eqv_bl, eqok_okn, okn_bl]
end K05

namespace K05
open PySem G L2
theorem draw_run (c k m : Int) (hk : 0 ≤ k) (hk2 : k ≤ 1000) (hm : 0 < m) : ∃ v, fd__law_draw.run [.int c, .int k, .int m] = some (.int v) ∧ 0 ≤ v ∧ v < m := by
  have h16 : k % 16 = 0 ∨ k % 16 = 1 ∨ k % 16 = 2 ∨ k % 16 = 3 ∨ k % 16 = 4 ∨ k % 16 = 5 ∨ k % 16 = 6 ∨ k % 16 = 7 ∨ k % 16 = 8 ∨ k % 16 = 9 ∨ k % 16 = 10 ∨ k % 16 = 11 ∨ k % 16 = 12 ∨ k % 16 = 13 ∨ k % 16 = 14 ∨ k % 16 = 15 := by omega
  have m1 : mulok c 48271 = true := mul_right (by decide)
  have m2 : mulok k 69621 = true := mul_right (by decide)
  have fin : ∀ z : Int, 0 ≤ z % m ∧ z % m < m := fun z => ⟨Int.emod_nonneg z (by omega), Int.emod_lt_of_pos z hm⟩
  have key : ∃ z, fd__law_draw.run [.int c, .int k, .int m] = some (.int (z % m)) := by
    show ∃ z, endOf false (G.exec ga__law_draw c__law_draw (st0 4 [.int c, .int k, .int m])) = _
    rcases h16 with h | h | h | h | h | h | h | h | h | h | h | h | h | h | h | h <;>
      exact ⟨_, by simp [c__law_draw, G.exec, G.eval, evalA, st0, Tg.run, Bo.run, m1, m2, h, atI, ixN, hm, endOf]; rfl⟩
  obtain ⟨z, e⟩ := key
  exact ⟨_, e, fin z⟩
theorem value_run (c t : Int) (hc : c.natAbs.log2 ≤ 1048580) (h0 : 0 ≤ t) (h9 : t ≤ 9) : ∃ v, fd__law_value.run [.int c, .int t] = some (.int v) ∧ 0 ≤ v := by
  have e : ga__law_value.fs[7]? = some fd__law_draw := rfl
  have a1 : fd__law_draw.ar = 3 := rfl
  have a2 : fd__law_draw.fr = false := rfl
  have m3 : mulok 3 t = true := mul_left (by decide)
  have m4 : mulok 977 t = true := mul_left (by decide)
  have m5 : mulok 31 t = true := mul_left (by decide)
  by_cases hg : 10 ^ 18 ≤ c
  · refine ⟨(c - 10 ^ 18) % 10 ^ 40 / 2 ^ (3 * t).toNat, ?_, ?_⟩
    · show endOf false (G.exec ga__law_value c__law_value (st0 3 [.int c, .int t])) = _
      have hg' : (1000000000000000000 : Int) ≤ c := hg
      have hn : 0 ≤ 3 * t := by omega
      simp [c__law_value, G.exec, G.eval, evalA, st0, isTst, Bo.run, Co.f, hg', m3, hn, endOf]
    · refine Int.ediv_nonneg (Int.emod_nonneg _ (by decide)) ?_
      exact Int.le_of_lt (Int.pow_pos (by decide))
  · have s1 : (977 * t).natAbs.log2 ≤ 1048580 := Nat.le_trans (log2_small (m := 20) (by omega) (by decide)) (by decide)
    have s2 : (31 * t).natAbs.log2 ≤ 1048580 := Nat.le_trans (log2_small (m := 20) (by omega) (by decide)) (by decide)
    have s3 : (c + 977 * t).natAbs.log2 ≤ 1048581 := log2_add _ _ hc s1
    have s4 : (c + 31 * t).natAbs.log2 ≤ 1048581 := log2_add _ _ hc s2
    have s5 : (c + 31 * t + 5).natAbs.log2 ≤ 1048582 := log2_add _ _ s4 (by decide)
    have s6 : (c + 7).natAbs.log2 ≤ 1048581 := log2_add _ _ hc (by decide)
    have m6 : mulok (c + 977 * t) (c + 31 * t + 5) = true := mul_wide (by omega) (by omega)
    have m7 : mulok (c + 31 * t) (c + 7) = true := mul_wide (by omega) (by omega)
    obtain ⟨x, hx, x0, x1⟩ := draw_run ((c + 977 * t) * (c + 31 * t + 5)) (t % 9 + 1) 999983 (by omega) (by omega) (by decide)
    obtain ⟨y, hy, y0, y1⟩ := draw_run ((c + 31 * t) * (c + 7) + 977 * t) (t % 7 + 2) 1000003 (by omega) (by omega) (by decide)
    have m8 : mulok x 1000003 = true := mul_right (by decide)
    have hg' : ¬ (1000000000000000000 : Int) ≤ c := hg
    refine ⟨x * 1000003 + y, ?_, by omega⟩
    show endOf false (G.exec ga__law_value c__law_value (st0 3 [.int c, .int t])) = _
    simp [c__law_value, G.exec, G.eval, evalA, st0, isTst, Bo.run, Co.f, hg', m3, m4, m5, m6, m7, m8, e, a1, a2, hx, hy, D.flat, Tg.run, endOf]
end K05

namespace K05
open PySem G L2
theorem go_snoc (to ah : Int) (ps : List Int) (p : Int) : go to ah (ps ++ [p]) = stp to ah (go to ah ps) p := by
  unfold go
  rw [List.foldl_append]
  rfl
theorem go_len (to ah : Int) (ps : List Int) : (go to ah ps).1.length ≤ ps.length := by
  have : ∀ (qs : List Int) (s : List Int × Int × Int), (qs.foldl (stp to ah) s).1.length ≤ s.1.length + qs.length := by
    intro qs
    induction qs with
    | nil => intro s; simp
    | cons q qs ih =>
      intro s
      have h1 := ih (stp to ah s q)
      have h2 := stp_len to ah s q
      simp only [List.foldl_cons, List.length_cons]
      omega
  have := this ps ([], 0, 0)
  simpa [go] using this
/-- what stands between two turns of the law's own counting -/
def Lg (to ah : Int) (ps : List Int) (i : Nat) (δ : List Sl) : Prop :=
  ∃ (bg : Nat) (x2 x5 x6 x7 : Sl), bg ≤ i ∧ i ≤ ps.length ∧ (go to ah (ps.take i)).2.1 = (((ps.take i).drop bg).count 0 : Nat) ∧ (go to ah (ps.take i)).2.2 = (((ps.take i).drop bg).count 1 : Nat) ∧
    δ = [.sh (.tp [.int to, .int ah]) false, .sh (.ls (ps.map D.int)) false, x2, .ow ((go to ah (ps.take i)).1.map D.int) true, .sh (.int (bg : Int)) true, x5, x6, x7]
theorem lg_step (to ah : Int) (ps : List Int) (hs : Sides ps) (hl : ps.length ≤ 1000) (j : Nat) (hj : j < ps.length) (bg : Nat) (x5 x6 x7 : Sl) (hb : bg ≤ j)
    (h0 : (go to ah (ps.take j)).2.1 = (((ps.take j).drop bg).count 0 : Nat)) (h1 : (go to ah (ps.take j)).2.2 = (((ps.take j).drop bg).count 1 : Nat)) :
    ∃ δ', G.exec ga__law_games l__law_games_1 [.sh (.tp [.int to, .int ah]) false, .sh (.ls (ps.map D.int)) false, .sh (.int (j : Int)) true, .ow ((go to ah (ps.take j)).1.map D.int) true, .sh (.int (bg : Int)) true, x5, x6, x7] = some (.nx δ') ∧ Lg to ah ps (j + 1) δ' := by
  have hp := hs ps[j] (List.getElem_mem hj)
  have et : ps.take (j + 1) = ps.take j ++ [ps[j]] := by rw [List.take_add_one, List.getElem?_eq_getElem hj]; rfl
  have eg : go to ah (ps.take (j + 1)) = stp to ah (go to ah (ps.take j)) ps[j] := by rw [et, go_snoc]
  have ed : (ps.take (j + 1)).drop bg = (ps.take j).drop bg ++ [ps[j]] := by
    rw [et, List.drop_append_of_le_length (by rw [List.length_take]; omega)]
  have ec : cutD (ps.map D.int) (some (bg : Int)) (some ((j : Int) + 1)) = ((ps.take j).drop bg ++ [ps[j]]).map D.int := by
    rw [show ((j : Int) + 1) = ((j + 1 : Nat) : Int) by omega, cut_map, cut_mid ps bg (j + 1) (by omega) (by omega), ← ed, List.drop_take]
  have ei : atI (ps.map D.int) (j : Int) = some (.int ps[j]) := G.atI_nat (by rw [List.getElem?_map, List.getElem?_eq_getElem hj]; rfl)
  have eo : intsOf ((((ps.take j).drop bg ++ [ps[j]]).map D.int)) = some ((ps.take j).drop bg ++ [ps[j]]) := intsOf_map _
  have hgl := go_len to ah (ps.take j)
  have hwl : (go to ah (ps.take j)).1.length < 100000 := by rw [List.length_take] at hgl; omega
  rcases e : go to ah (ps.take j) with ⟨ws, a, b⟩
  rw [e] at h0 h1 eg hwl
  dsimp only at h0 h1 hwl
  generalize hseg : (ps.take j).drop bg = seg at *
  generalize hq : ps[j] = q at *
  have hfl : flats ((seg ++ [q]).map D.int) = true := flats_int _
  rw [List.map_append] at ec eo hfl
  simp only [List.map_cons, List.map_nil] at ec eo hfl
  rcases hp with rfl | rfl
  · have c0 : (seg ++ [0]).count 0 = seg.count 0 + 1 := by simp
    have c1 : (seg ++ [0]).count 1 = seg.count 1 := by simp
    by_cases k1 : to ≤ a + 1
    · by_cases k2 : ah ≤ a + 1 - b
      · refine ⟨[.sh (.tp [.int to, .int ah]) false, .sh (.ls (ps.map D.int)) false, .sh (.int (j : Int)) true, .ow ((ws ++ [0]).map D.int) true, .sh (.int ((j + 1 : Nat) : Int)) true, (.sh (.ls ((seg ++ [0]).map D.int)) false), (.sh (.int (a + 1)) true), (.sh (.int b) true)],
          by simp [l__law_games_1, G.exec, G.eval, evalA, evalO, Bo.run, Tg.run, ec, ei, eo, c0, c1, slotOf, isTst, Co.f, atI_0, atI_1, hwl, D.flat, ← h0, ← h1, k1, k2], j + 1, (.sh (.int (j : Int)) true), (.sh (.ls ((seg ++ [0]).map D.int)) false), (.sh (.int (a + 1)) true), (.sh (.int b) true), Nat.le_refl _, hj, ?_, ?_, by rw [eg]; simp [stp, k1, k2]⟩
        · rw [eg, List.drop_eq_nil_of_le (by rw [List.length_take]; omega)]
          simp [stp, k1, k2]
        · rw [eg, List.drop_eq_nil_of_le (by rw [List.length_take]; omega)]
          simp [stp, k1, k2]
      · refine ⟨[.sh (.tp [.int to, .int ah]) false, .sh (.ls (ps.map D.int)) false, .sh (.int (j : Int)) true, .ow (ws.map D.int) true, .sh (.int (bg : Int)) true, (.sh (.ls ((seg ++ [0]).map D.int)) false), (.sh (.int (a + 1)) true), (.sh (.int b) true)],
          by simp [l__law_games_1, G.exec, G.eval, evalA, evalO, Bo.run, Tg.run, ec, ei, eo, c0, c1, slotOf, isTst, Co.f, atI_0, atI_1, hwl, D.flat, ← h0, ← h1, k1, k2], bg, (.sh (.int (j : Int)) true), (.sh (.ls ((seg ++ [0]).map D.int)) false), (.sh (.int (a + 1)) true), (.sh (.int b) true), by omega, hj, ?_, ?_, by rw [eg]; simp [stp, k1, k2]⟩
        · rw [eg, ed, c0]
          simp [stp, k1, k2, ← h0, ← h1]
        · rw [eg, ed, c1]
          simp [stp, k1, k2, ← h0, ← h1]
    · refine ⟨[.sh (.tp [.int to, .int ah]) false, .sh (.ls (ps.map D.int)) false, .sh (.int (j : Int)) true, .ow (ws.map D.int) true, .sh (.int (bg : Int)) true, (.sh (.ls ((seg ++ [0]).map D.int)) false), (.sh (.int (a + 1)) true), (.sh (.int b) true)],
          by simp [l__law_games_1, G.exec, G.eval, evalA, evalO, Bo.run, Tg.run, ec, ei, eo, c0, c1, slotOf, isTst, Co.f, atI_0, atI_1, hwl, D.flat, ← h0, ← h1, k1], bg, (.sh (.int (j : Int)) true), (.sh (.ls ((seg ++ [0]).map D.int)) false), (.sh (.int (a + 1)) true), (.sh (.int b) true), by omega, hj, ?_, ?_, by rw [eg]; simp [stp, k1]⟩
      · rw [eg, ed, c0]
        simp [stp, k1, ← h0, ← h1]
      · rw [eg, ed, c1]
        simp [stp, k1, ← h0, ← h1]
  · have c0 : (seg ++ [1]).count 1 = seg.count 1 + 1 := by simp
    have c1 : (seg ++ [1]).count 0 = seg.count 0 := by simp
    by_cases k1 : to ≤ b + 1
    · by_cases k2 : ah ≤ b + 1 - a
      · refine ⟨[.sh (.tp [.int to, .int ah]) false, .sh (.ls (ps.map D.int)) false, .sh (.int (j : Int)) true, .ow ((ws ++ [1]).map D.int) true, .sh (.int ((j + 1 : Nat) : Int)) true, (.sh (.ls ((seg ++ [1]).map D.int)) false), (.sh (.int (b + 1)) true), (.sh (.int a) true)],
          by simp [l__law_games_1, G.exec, G.eval, evalA, evalO, Bo.run, Tg.run, ec, ei, eo, c0, c1, slotOf, isTst, Co.f, atI_0, atI_1, hwl, D.flat, ← h0, ← h1, k1, k2], j + 1, (.sh (.int (j : Int)) true), (.sh (.ls ((seg ++ [1]).map D.int)) false), (.sh (.int (b + 1)) true), (.sh (.int a) true), Nat.le_refl _, hj, ?_, ?_, by rw [eg]; simp [stp, k1, k2]⟩
        · rw [eg, List.drop_eq_nil_of_le (by rw [List.length_take]; omega)]
          simp [stp, k1, k2]
        · rw [eg, List.drop_eq_nil_of_le (by rw [List.length_take]; omega)]
          simp [stp, k1, k2]
      · refine ⟨[.sh (.tp [.int to, .int ah]) false, .sh (.ls (ps.map D.int)) false, .sh (.int (j : Int)) true, .ow (ws.map D.int) true, .sh (.int (bg : Int)) true, (.sh (.ls ((seg ++ [1]).map D.int)) false), (.sh (.int (b + 1)) true), (.sh (.int a) true)],
          by simp [l__law_games_1, G.exec, G.eval, evalA, evalO, Bo.run, Tg.run, ec, ei, eo, c0, c1, slotOf, isTst, Co.f, atI_0, atI_1, hwl, D.flat, ← h0, ← h1, k1, k2], bg, (.sh (.int (j : Int)) true), (.sh (.ls ((seg ++ [1]).map D.int)) false), (.sh (.int (b + 1)) true), (.sh (.int a) true), by omega, hj, ?_, ?_, by rw [eg]; simp [stp, k1, k2]⟩
        · rw [eg, ed, c1]
          simp [stp, k1, k2, ← h0, ← h1]
        · rw [eg, ed, c0]
          simp [stp, k1, k2, ← h0, ← h1]
    · refine ⟨[.sh (.tp [.int to, .int ah]) false, .sh (.ls (ps.map D.int)) false, .sh (.int (j : Int)) true, .ow (ws.map D.int) true, .sh (.int (bg : Int)) true, (.sh (.ls ((seg ++ [1]).map D.int)) false), (.sh (.int (b + 1)) true), (.sh (.int a) true)],
          by simp [l__law_games_1, G.exec, G.eval, evalA, evalO, Bo.run, Tg.run, ec, ei, eo, c0, c1, slotOf, isTst, Co.f, atI_0, atI_1, hwl, D.flat, ← h0, ← h1, k1], bg, (.sh (.int (j : Int)) true), (.sh (.ls ((seg ++ [1]).map D.int)) false), (.sh (.int (b + 1)) true), (.sh (.int a) true), by omega, hj, ?_, ?_, by rw [eg]; simp [stp, k1]⟩
      · rw [eg, ed, c1]
        simp [stp, k1, ← h0, ← h1]
      · rw [eg, ed, c0]
        simp [stp, k1, ← h0, ← h1]
theorem law_games_run (to ah : Int) (ps : List Int) (hs : Sides ps) (hl : ps.length ≤ 1000) : fd__law_games.run [.tp [.int to, .int ah], .ls (ps.map D.int)] = some (enc (go to ah ps)) := by
  show endOf true (G.exec ga__law_games c__law_games (st0 8 [.tp [.int to, .int ah], .ls (ps.map D.int)])) = _
  obtain ⟨δ', e, bg, x2, x5, x6, x7, hb, _, h0, h1, rfl⟩ := forRun_inv (t := .nm 2) (g := true) (ex := fun δ => G.exec ga__law_games l__law_games_1 δ) (Lg to ah ps) (rngD 0 ps.length) 0
    [.sh (.tp [.int to, .int ah]) false, .sh (.ls (ps.map D.int)) false, .no, .ow [] true, .sh (.int 0) true, .no, .no, .no] ⟨0, .no, .no, .no, .no, Nat.le_refl _, Nat.zero_le _, by simp [go], by simp [go], by simp [go]⟩ (by
      rintro j d δ hj ⟨bg, x2, x5, x6, x7, hb, hi, h0, h1, rfl⟩
      have hj' : j < ps.length := by
        have := (List.getElem?_eq_some_iff.mp hj).1
        rw [rngD_len] at this
        exact this
      rw [rngD_get hj'] at hj
      cases hj
      rw [Nat.zero_add] at hb h0 h1 ⊢
      obtain ⟨δ2, e2, h2⟩ := lg_step to ah ps hs hl j hj' bg x5 x6 x7 hb h0 h1
      refine ⟨_, δ2, rfl, ?_, h2⟩
      rw [← e2]
      simp)
  rw [rngD_len, Nat.zero_add, List.take_length] at h0 h1 e
  rw [rngD_len, Nat.zero_add] at hb
  have hd : (ps.length : Int) ≤ 1000000 := by omega
  have hd2 : (-1000000 : Int) ≤ (ps.length : Int) := by omega
  have ec : cutD (ps.map D.int) (some (bg : Int)) none = (ps.drop bg).map D.int := by rw [cut_map, cut_drop]
  have eo : intsOf ((ps.drop bg).map D.int) = some (ps.drop bg) := intsOf_map _
  simp only [List.map_drop] at ec eo
  simp [c__law_games, G.exec, G.eval, evalA, evalI, evalO, st0, slotOf, isNew, hd, hd2, e, ec, eo, ← h0, ← h1, endOf, enc]
end K05

namespace K05
open PySem G L2
theorem enc_nb (s : List Int × Int × Int) : (enc s).nb = true := by
  simp [enc, D.nb, D.nbs, nbs_ints]
theorem enc_ok (s : List Int × Int × Int) : okn 64 (enc s) = true := by
  unfold enc
  rw [okn_tp]
  simp [okn_ints, okn_tp, okn_int]
abbrev R2 (to ah : Int) : Sl := .sh (.tp [.int to, .int ah]) false
theorem right_all (s : List Int × Int × Int) (hw : s.1.length ≤ 1000) (x0 x1 x2 x3 x4 x6 x7 : Sl) : ∃ L bs g, G.eval ga__law_right m__law_right_1 [x0, x1, x2, x3, x4, .rg (enc s), x6, x7] = some (.ls L, true, g) ∧ blsOf L = some bs ∧ bs.all id = true := by
  have e : ga__law_right.fs[9]? = some fd__law_whole := rfl
  have a1 : fd__law_whole.ar = 1 := rfl
  have a2 : fd__law_whole.fr = false := rfl
  obtain ⟨L, gs, h, hb⟩ := lcRun_bls (t := .nm 7) (g := true) (ef := fun δ2 => G.eval ga__law_right (.call 9 (.cons (.var 7) .nil)) δ2) (δ := wipeD [x0, x1, x2, x3, x4, .rg (enc s), x6, x7] (Tg.nm 7).sl) (f := D.int) (p := fun _ => true) (s.1 ++ [s.2.1, s.2.2])
    (fun a ha => ⟨_, rfl, true, by simp [G.eval, evalA, wipeD, Tg.sl, e, a1, a2, whole_int, D.flat]⟩)
  refine ⟨L, _, gs, eval_lc_of (ds := (s.1 ++ [s.2.1, s.2.2]).map D.int) (g := true) ?_ (by simp; omega) h, hb, by simp⟩
  have hf : flats ((s.1 ++ [s.2.1, s.2.2]).map D.int) = true := flats_int _
  simp only [List.map_append, List.map_cons, List.map_nil] at hf
  have hl : s.1.length + 2 ≤ 100000 := by omega
  simp [evalI, G.eval, enc, atI_0, atI_1, hf, hl]
theorem right1 (to ah : Int) (hr : Rule to ah) (ps : List Int) (hs : Sides ps) (hl : ps.length ≤ 60) (x3 : D) (g3 : Bool) (x5 : Sl) :
    G.exec ga__law_right l__law_right_1 [R2 to ah, .sh (.ls (ps.map D.int)) false, .ow (ps.map D.int) false, .sh x3 g3, .no, x5, .no, .no] =
      some (.nx [R2 to ah, .sh (.ls (ps.map D.int)) false, .ow (ps.map D.int) false, .sh x3 g3, .no, .no, .no, .no]) := by
  have e4 : ga__law_right.fs[4]? = some fd_games := rfl
  have e11 : ga__law_right.fs[11]? = some fd__law_games := rfl
  have a1 : fd_games.ar = 2 := rfl
  have a2 : fd_games.fr = true := rfl
  have a3 : fd__law_games.ar = 2 := rfl
  have a4 : fd__law_games.fr = true := rfl
  have gl := go_len to ah ps
  obtain ⟨L, bs, g, h, h3, ga⟩ := right_all (go to ah ps) (by omega) (R2 to ah) (.sh (.ls (ps.map D.int)) false) (.ow (ps.map D.int) false) (.sh x3 g3) .no .no .no
  have ok := enc_ok (go to ah ps)
  have ev := eqv_self (enc_nb (go to ah ps))
  have evp : (D.ls (ps.map D.int)).eqv (.ls (ps.map D.int)) = true := by rw [eqv_ints]; simp
  have okp : okn 64 (.ls (ps.map D.int)) = true := okn_ints 63 ps
  have isT1 : isT .tuple (enc (go to ah ps)) = some true := rfl
  have hix : enc (go to ah ps) = .tp [.ls ((go to ah ps).1.map D.int), .tp [.int (go to ah ps).2.1, .int (go to ah ps).2.2]] := rfl
  have gl2 : (go to ah ps).1.length < 100000 := by omega
  generalize hE : enc (go to ah ps) = Ev at *
  simp only [l__law_right_1, G.exec, G.eval, evalA, e4, a1, a2, List.getElem?_cons_succ, List.getElem?_cons_zero, List.length_cons, List.length_nil, games_run to ah hr ps hs hl, hE]
  simp [G.exec, G.eval, evalA, isTst, isT1, e11, a3, a4, law_games_run to ah ps hs (by omega), hE, eqok_okn, ok, ev, evp, okp, h, h3, ga]
  rw [hix]
  simp [atI_0, atI_1, isT, gl2, noRg]
theorem right2 (to ah : Int) (hr : Rule to ah) (ps : List Int) (hs : Sides ps) (hl : ps.length ≤ 60) (x3 x6 : Sl) (p : Int) (hp : p = 0 ∨ p = 1) :
    ∃ x6', G.exec ga__law_right l__law_right_2 [R2 to ah, .sh (.ls (ps.map D.int)) false, .ow (ps.map D.int) false, x3, .sh (.int p) true, .no, x6, .no] =
      some (.nx [R2 to ah, .sh (.ls (ps.map D.int)) false, .ow (ps.map D.int) false, x3, .sh (.int p) true, .no, x6', .no]) := by
  have e5 : ga__law_right.fs[5]? = some fd_game_point := rfl
  have e10 : ga__law_right.fs[10]? = some fd__law_says := rfl
  have e11 : ga__law_right.fs[11]? = some fd__law_games := rfl
  have a1 : fd_game_point.ar = 3 := rfl
  have a2 : fd_game_point.fr = false := rfl
  have a3 : fd__law_games.ar = 2 := rfl
  have a4 : fd__law_games.fr = true := rfl
  have a5 : fd__law_says.ar = 2 := rfl
  have a6 : fd__law_says.fr = false := rfl
  have h3 := law_games_run to ah (ps ++ [p]) (sides_app hs hp) (by simp; omega)
  simp only [List.map_append, List.map_cons, List.map_nil] at h3
  have h4 : ps.length + 1 ≤ 100000 := by omega
  exact ⟨_, by simp [l__law_right_2, G.exec, G.eval, evalA, isTst, e5, e10, e11, a1, a2, a3, a4, a5, a6, law_games_run to ah ps hs (by omega), h3, h4, enc, atI_0, Co.f, game_point_run to ah hr ps hs hl p hp, says_run, D.flat, Tg.run]; rfl⟩
theorem right_run (to ah : Int) (hr : Rule to ah) (ps : List Int) (hs : Sides ps) (hl : ps.length ≤ 60) : fd__law_right.run [.tp [.int to, .int ah], .ls (ps.map D.int)] = some (.bl true) := by
  show endOf false (G.exec ga__law_right c__law_right (st0 8 [.tp [.int to, .int ah], .ls (ps.map D.int)])) = _
  have e4 : ga__law_right.fs[4]? = some fd_games := rfl
  have e11 : ga__law_right.fs[11]? = some fd__law_games := rfl
  have a1 : fd_games.ar = 2 := rfl
  have a2 : fd_games.fr = true := rfl
  have a3 : fd__law_games.ar = 2 := rfl
  have a4 : fd__law_games.fr = true := rfl
  have l1 : forRun (.nm 3) true (fun δ => G.exec ga__law_right l__law_right_1 δ) (rngD 0 2) [R2 to ah, .sh (.ls (ps.map D.int)) false, .ow (ps.map D.int) false, .no, .no, .no, .no, .no] =
      some (.nx [R2 to ah, .sh (.ls (ps.map D.int)) false, .ow (ps.map D.int) false, .sh (.int 1) true, .no, .no, .no, .no]) := by
    show forRun (.nm 3) true (fun δ => G.exec ga__law_right l__law_right_1 δ) [.int (0 + (0 : Nat)), .int (0 + (1 : Nat))] _ = _
    simp only [forRun, Tg.run, List.set_cons_succ, List.set_cons_zero, right1 to ah hr ps hs hl]
    rfl
  obtain ⟨y, l2⟩ : ∃ y, forRun (.nm 4) true (fun δ => G.exec ga__law_right l__law_right_2 δ) [.int 0, .int 1] [R2 to ah, .sh (.ls (ps.map D.int)) false, .ow (ps.map D.int) false, .sh (.int 1) true, .no, .no, .no, .no] =
      some (.nx [R2 to ah, .sh (.ls (ps.map D.int)) false, .ow (ps.map D.int) false, .sh (.int 1) true, .sh (.int 1) true, .no, y, .no]) := by
    obtain ⟨y1, h1⟩ := right2 to ah hr ps hs hl (.sh (.int 1) true) .no 0 (.inl rfl)
    obtain ⟨y2, h2⟩ := right2 to ah hr ps hs hl (.sh (.int 1) true) y1 1 (.inr rfl)
    refine ⟨y2, ?_⟩
    simp only [forRun, Tg.run, List.set_cons_succ, List.set_cons_zero, h1, h2]
  have hf := flats_int ps
  have hlt : ps.length < 100000 := by omega
  have hs2 : Sides (cutD (ps ++ [0]) none (some 60)) := fun q hq => sides_app hs (.inl rfl) q (cut_sub hq)
  have hl2 : (cutD (ps ++ [0]) none (some 60)).length ≤ 60 := by
    rw [show (some (60 : Int)) = some ((60 : Nat) : Int) from rfl, cut_take, List.length_take]
    omega
  have hc : cutD (ps.map D.int ++ [.int 0]) none (some 60) = (cutD (ps ++ [0]) none (some 60)).map D.int := by
    rw [← cut_map, List.map_append]
    rfl
  have g1 := games_run to ah hr _ hs2 hl2
  have g2 := law_games_run to ah _ hs2 (by omega)
  generalize cutD (ps ++ [0]) none (some 60) = qs at *
  have ok := enc_ok (go to ah qs)
  have ev := eqv_self (enc_nb (go to ah qs))
  simp [c__law_right, G.exec, G.eval, evalA, evalI, evalO, st0, slotOf, isNew, hf, l1, l2, hlt, hc, e4, e11, a1, a2, a3, a4, g1, g2, eqok_okn, ok, ev, endOf]
end K05

namespace K05
open PySem G L2
/-- the state of the law: its script, the drawn number, the rule, the points -/
def Lw (ns : List Int) (v : Int) (to ah : Int) (ps : List Int) (x2 x3 x6 x7 x8 x9 x10 : Sl) : List Sl :=
  [.sh (.ls (ns.map D.int)) false, .sh (.int v) true, x2, x3, .sh (.tp [.int to, .int ah]) true, .ow (ps.map D.int) true, x6, x7, x8, x9, x10]
theorem last_of {ps : List Int} (h : ps ≠ []) : ∃ q, q ∈ ps ∧ atI (ps.map D.int) (-1) = some (.int q) := by
  refine ⟨ps.getLast h, List.getLast_mem h, ?_⟩
  have e : ps.map D.int = ps.dropLast.map D.int ++ [.int (ps.getLast h)] := by
    rw [← List.map_singleton, ← List.map_append, List.dropLast_concat_getLast h]
  rw [e, G.atI_last]
theorem law1 (ns : List Int) (v to ah : Int) (ps : List Int) (hs : Sides ps) (hl : ps.length < 1000) (x2 x3 x8 x9 x10 : Sl) (c : Int) (hc : c.natAbs.log2 ≤ 1048580) (j : Nat) :
    ∃ q x8', (q = 0 ∨ q = 1) ∧ G.exec ga_law l_law_1 (Lw ns v to ah ps x2 x3 (.sh (.int (j : Int)) false) (.sh (.int c) false) x8 x9 x10) = some (.nx (Lw ns v to ah (ps ++ [q]) x2 x3 (.sh (.int (j : Int)) false) (.sh (.int c) false) x8' x9 x10)) := by
  have e8 : ga_law.fs[8]? = some fd__law_value := rfl
  have a1 : fd__law_value.ar = 2 := rfl
  have a2 : fd__law_value.fr = false := rfl
  obtain ⟨u, hu, u0⟩ := value_run c ((j : Int) % 5) hc (by omega) (by omega)
  have hl' : ps.length < 100000 := by omega
  have m2 : u / 3 % 2 = 0 ∨ u / 3 % 2 = 1 := by omega
  by_cases k : 0 < u / 3 / 2 % 3
  · exact ⟨u / 3 % 2, _, m2, by simp [Lw, l_law_1, G.exec, G.eval, evalA, e8, a1, a2, hu, Bo.run, D.flat, Tg.run, isTst, Co.f, k, hl']; rfl⟩
  · by_cases hp : ps = []
    · subst hp
      have ev : (D.ls []).eqv (.ls []) = true := eqv_self rfl
      have ok : okn 64 (.ls []) = true := okn_ints 63 []
      exact ⟨u / 3 % 2, _, m2, by simp [Lw, l_law_1, G.exec, G.eval, evalA, e8, a1, a2, hu, Bo.run, D.flat, Tg.run, isTst, Co.f, k, eqok_okn, ev, ok]; rfl⟩
    · obtain ⟨q, hq, hat⟩ := last_of hp
      have ev : (D.ls (ps.map D.int)).eqv (.ls []) = false := by
        have := eqv_ints ps []
        rw [decide_eq_false hp] at this
        exact this
      have ok : okn 64 (.ls []) = true := okn_ints 63 []
      have ok2 : okn 64 (.ls (ps.map D.int)) = true := okn_ints 63 ps
      exact ⟨q, _, hs q hq, by simp [Lw, l_law_1, G.exec, G.eval, evalA, e8, a1, a2, hu, Bo.run, D.flat, Tg.run, isTst, Co.f, k, eqok_okn, ev, ok, ok2, hat, hl']; rfl⟩
theorem law2 (ns : List Int) (v to ah : Int) (hr : Rule to ah) (ps : List Int) (hs : Sides ps) (hl : ps.length ≤ 60) (x3 x6 x7 x8 x9 x10 : Sl) (m : Int) (g : Bool) :
    G.exec ga_law l_law_2 (Lw ns v to ah ps (.sh (.int m) g) x3 x6 x7 x8 x9 x10) = some (.nx (Lw ns v to ah ps (.sh (.int m) g) x3 x6 x7 x8 x9 x10)) := by
  have e12 : ga_law.fs[12]? = some fd__law_right := rfl
  have a1 : fd__law_right.ar = 2 := rfl
  have a2 : fd__law_right.fr = false := rfl
  have hc : cutD (ps.map D.int) none (some m) = (cutD ps none (some m)).map D.int := cut_map _ _ _ _
  have hs2 : Sides (cutD ps none (some m)) := fun q hq => hs q (cut_sub hq)
  have hl2 := cut_len ps none (some m)
  have hr2 : Rule to (3 - ah) := ⟨hr.t1, hr.t5, by have := hr.a2; omega, by have := hr.a1; omega⟩
  have r1 := right_run to ah hr _ hs2 (by omega)
  have r2 := right_run to (3 - ah) hr2 _ hs2 (by omega)
  simp [Lw, l_law_2, G.exec, G.eval, evalA, evalO, isTst, e12, a1, a2, hc, r1, r2, D.flat, atI_0, atI_1, Bo.run]
theorem law3 (ns : List Int) (v to ah : Int) (ps : List Int) (x2 x6 x7 x8 : Sl) (to' ah' : Int) (hr : Rule to' ah') (qs : List Int) (hs : Sides qs) (hl : qs.length ≤ 60) (g3 g9 g10 : Bool) :
    G.exec ga_law l_law_3 (Lw ns v to ah ps x2 (.sh (.int to') g3) x6 x7 x8 (.sh (.int ah') g9) (.sh (.ls (qs.map D.int)) g10)) = some (.nx (Lw ns v to ah ps x2 (.sh (.int to') g3) x6 x7 x8 (.sh (.int ah') g9) (.sh (.ls (qs.map D.int)) g10))) := by
  have e12 : ga_law.fs[12]? = some fd__law_right := rfl
  have a1 : fd__law_right.ar = 2 := rfl
  have a2 : fd__law_right.fr = false := rfl
  have r1 := right_run to' ah' hr _ hs hl
  simp [Lw, l_law_3, G.exec, G.eval, evalA, isTst, e12, a1, a2, r1, D.flat]
def L1 : List Int := List.replicate 12 0
def L2' : List Int := (List.replicate 30 [0, 1]).flatten
def L3 : List Int := List.replicate 60 1
def L4 : List Int := [0, 0, 1, 1, 1, 1, 0, 1, 0, 0]
theorem sd1 : Sides L1 := by unfold Sides; decide
theorem sd2 : Sides L2' := by unfold Sides; decide
theorem sd3 : Sides L3 := by unfold Sides; decide
theorem sd4 : Sides L4 := by unfold Sides; decide
theorem law4 (ns : List Int) (v to ah : Int) (ps : List Int) (x2 x6 x7 x8 x10 : Sl) (to' ah' : Int) (hr : Rule to' ah') (g3 g9 : Bool) :
    ∃ x10', G.exec ga_law l_law_4 (Lw ns v to ah ps x2 (.sh (.int to') g3) x6 x7 x8 (.sh (.int ah') g9) x10) = some (.nx (Lw ns v to ah ps x2 (.sh (.int to') g3) x6 x7 x8 (.sh (.int ah') g9) x10')) := by
  have hi : ∃ g, evalI ga_law (.itT (.tup (.cons (.rep (.lst (.cons (.int 0) .nil)) (.int 12)) (.cons (.rep (.lst (.cons (.int 0) (.cons (.int 1) .nil))) (.int 30)) (.cons (.rep (.lst (.cons (.int 1) .nil)) (.int 60)) (.cons (.lst (.cons (.int 0) (.cons (.int 0) (.cons (.int 1) (.cons (.int 1) (.cons (.int 1) (.cons (.int 1) (.cons (.int 0) (.cons (.int 1) (.cons (.int 0) (.cons (.int 0) .nil))))))))))) .nil))))))
      (Lw ns v to ah ps x2 (.sh (.int to') g3) x6 x7 x8 (.sh (.int ah') g9) x10) = some ([.ls (L1.map D.int), .ls (L2'.map D.int), .ls (L3.map D.int), .ls (L4.map D.int)], g) := ⟨_, by
        simp [evalI, G.eval, evalA, L1, L2', L3, L4]; rfl⟩
  obtain ⟨g, hi⟩ := hi
  have f1 := law3 ns v to ah ps x2 x6 x7 x8 to' ah' hr L1 sd1 (by decide) g3 g9 g
  have f2 := law3 ns v to ah ps x2 x6 x7 x8 to' ah' hr L2' sd2 (by decide) g3 g9 g
  have f3 := law3 ns v to ah ps x2 x6 x7 x8 to' ah' hr L3 sd3 (by decide) g3 g9 g
  have f4 := law3 ns v to ah ps x2 x6 x7 x8 to' ah' hr L4 sd4 (by decide) g3 g9 g
  refine ⟨.sh (.ls (L4.map D.int)) g, ?_⟩
  unfold l_law_4
  unfold G.exec
  have := exec_loop_of (t := .nm 10) (b := l_law_3) hi (z := .nx (Lw ns v to ah ps x2 (.sh (.int to') g3) x6 x7 x8 (.sh (.int ah') g9) (.sh (.ls (L4.map D.int)) g))) (by
    generalize L1.map D.int = m1 at *
    generalize L2'.map D.int = m2 at *
    generalize L3.map D.int = m3 at *
    generalize L4.map D.int = m4 at *
    simp only [forRun, Tg.run, Lw, List.set_cons_succ, List.set_cons_zero] at f1 f2 f3 f4 ⊢
    simp only [f1, f2, f3, f4, List.set_cons_succ, List.set_cons_zero])
  rw [this]
  rfl
theorem law5 (ns : List Int) (v to ah : Int) (ps : List Int) (x2 x6 x7 x8 x9 x10 : Sl) (to' : Int) (h1 : 1 ≤ to') (h5 : to' ≤ 5) (g3 : Bool) :
    ∃ x9' x10', G.exec ga_law l_law_5 (Lw ns v to ah ps x2 (.sh (.int to') g3) x6 x7 x8 x9 x10) = some (.nx (Lw ns v to ah ps x2 (.sh (.int to') g3) x6 x7 x8 x9' x10')) := by
  have hi : evalI ga_law (.itT (.tup (.cons (.int 1) (.cons (.int 2) .nil)))) (Lw ns v to ah ps x2 (.sh (.int to') g3) x6 x7 x8 x9 x10) = some ([.int 1, .int 2], true) := by
    simp [evalI, G.eval, evalA]
  obtain ⟨y1, f1⟩ := law4 ns v to ah ps x2 x6 x7 x8 x10 to' 1 ⟨h1, h5, by decide, by decide⟩ g3 true
  obtain ⟨y2, f2⟩ := law4 ns v to ah ps x2 x6 x7 x8 y1 to' 2 ⟨h1, h5, by decide, by decide⟩ g3 true
  refine ⟨.sh (.int 2) true, y2, ?_⟩
  unfold l_law_5
  unfold G.exec
  have := exec_loop_of (t := .nm 9) (b := l_law_4) hi (z := .nx (Lw ns v to ah ps x2 (.sh (.int to') g3) x6 x7 x8 (.sh (.int 2) true) y2)) (by
    simp only [forRun, Tg.run, Lw, List.set_cons_succ, List.set_cons_zero] at f1 f2 ⊢
    simp only [f1, f2, List.set_cons_succ, List.set_cons_zero])
  rw [this]
  rfl
theorem enum_map (ns : List Int) (j : Nat) (d : D) (h : (enumD 0 (ns.map D.int))[j]? = some d) : ∃ c, ns[j]? = some c ∧ d = .tp [.int (j : Int), .int c] := by
  have hj : j < ns.length := by
    have := (List.getElem?_eq_some_iff.mp h).1
    rw [enumD_len, List.length_map] at this
    exact this
  have e := enumD_get (n := 0) (show (ns.map D.int)[j]? = some (.int ns[j]) by rw [List.getElem?_map, List.getElem?_eq_getElem hj]; rfl)
  rw [h] at e
  cases e
  exact ⟨ns[j], List.getElem?_eq_getElem hj, by rw [Nat.zero_add]⟩
theorem go_a : go 2 1 [0, 0, 1, 0, 1] = ([0, 1], 0, 0) := by decide
theorem go_b : go 1 2 [0, 1, 0, 0] = ([0], 0, 0) := by decide
theorem law_run : ∀ ns : List Int, ns.length ≤ 63 → (∀ z ∈ ns, Builtin.Int.intBits z ≤ 1048576) → ∃ f g, G.exec ga_law c_law (st0 11 [.ls (ns.map D.int)]) = some (.rt (.bl true, f, g)) := by
  intro ns hl hb
  have hbits : ∀ z ∈ ns, z.natAbs.log2 ≤ 1048580 := fun z hz => Nat.le_trans (bits_log2 (hb z hz)) (by decide)
  have e4 : ga_law.fs[4]? = some fd_games := rfl
  have e5 : ga_law.fs[5]? = some fd_game_point := rfl
  have e6 : ga_law.fs[6]? = some fd__law_cell_at := rfl
  have e8 : ga_law.fs[8]? = some fd__law_value := rfl
  have a1 : fd__law_value.ar = 2 := rfl
  have a2 : fd__law_value.fr = false := rfl
  have a3 : fd__law_cell_at.ar = 2 := rfl
  have a4 : fd__law_cell_at.fr = false := rfl
  have a5 : fd_games.ar = 2 := rfl
  have a6 : fd_games.fr = true := rfl
  have a7 : fd_game_point.ar = 3 := rfl
  have a8 : fd_game_point.fr = false := rfl
  have c0 : fd__law_cell_at.run [.ls (ns.map D.int), .int 0] = some (.int (ns.getD 0 0)) := cell_at_run ns 0
  have hc0 : (ns.getD 0 0).natAbs.log2 ≤ 1048580 := by
    cases ns with
    | nil => decide
    | cons n r => exact hbits n (by simp)
  generalize ns.getD 0 0 = c00 at c0 hc0
  obtain ⟨v, hv, v0⟩ := value_run c00 6 hc0 (by decide) (by decide)
  have hr : Rule (1 + v % 5) (1 + v / 5 % 2) := ⟨by omega, by omega, by omega, by omega⟩
  -- the points
  have ec : cutD (ns.map D.int) none (some 60) = (ns.take 60).map D.int := by
    rw [show (some (60 : Int)) = some ((60 : Nat) : Int) from rfl, cut_take, List.map_take]
  obtain ⟨δ1, r1, ps, x6, x7, x8, hs, hpl, rfl⟩ := forRun_inv (t := .t2 (.nm 6) (.nm 7)) (g := false) (ex := fun δ => G.exec ga_law l_law_1 δ)
    (fun i δ => ∃ ps x6 x7 x8, Sides ps ∧ ps.length = i ∧ δ = Lw ns v (1 + v % 5) (1 + v / 5 % 2) ps .no .no x6 x7 x8 .no .no)
    (enumD 0 ((ns.take 60).map D.int)) 0 (Lw ns v (1 + v % 5) (1 + v / 5 % 2) [] .no .no .no .no .no .no .no) ⟨[], .no, .no, .no, fun _ h => by simp at h, rfl, rfl⟩ (by
      rintro j d δ hj ⟨ps, x6, x7, x8, hs, hpl, rfl⟩
      obtain ⟨c, hc, rfl⟩ := enum_map (ns.take 60) j d hj
      have hjl : j < 60 := by
        have := (List.getElem?_eq_some_iff.mp hc).1
        rw [List.length_take] at this
        omega
      have hcm : c ∈ ns := List.mem_of_mem_take (List.mem_of_getElem? hc)
      obtain ⟨q, x8', hq, e⟩ := law1 ns v (1 + v % 5) (1 + v / 5 % 2) ps hs (by omega) .no .no x8 .no .no c (hbits c hcm) j
      refine ⟨Lw ns v (1 + v % 5) (1 + v / 5 % 2) ps .no .no (.sh (.int (j : Int)) false) (.sh (.int c) false) x8 .no .no, _, rfl, e, ps ++ [q], _, _, _, sides_app hs hq, ?_, rfl⟩
      rw [List.length_append, hpl]
      rfl)
  have hpl60 : ps.length ≤ 60 := by
    rw [hpl, enumD_len, List.length_map, List.length_take]
    omega
  -- beginnings of them
  generalize hms : sdd [0, 1, (ps.length : Int) / 2, (ps.length : Int), v / 10 % ((ps.length : Int) + 1)] = ms
  obtain ⟨δ2, r2, x2, rfl⟩ := forRun_fold (t := .nm 2) (g := true) (ex := fun δ => G.exec ga_law l_law_2 δ) (f := D.int) (up := fun (_ : Unit) (_ : Int) => ())
    (fun _ _ δ => ∃ x2, δ = Lw ns v (1 + v % 5) (1 + v / 5 % 2) ps x2 .no x6 x7 x8 .no .no) ms 0 () (Lw ns v (1 + v % 5) (1 + v / 5 % 2) ps .no .no x6 x7 x8 .no .no) ⟨.no, rfl⟩ (by
      rintro j a _ δ hj ⟨x2, rfl⟩
      exact ⟨Lw ns v (1 + v % 5) (1 + v / 5 % 2) ps (.sh (.int a) true) .no x6 x7 x8 .no .no, _, rfl, law2 ns v _ _ hr ps hs hpl60 .no x6 x7 x8 .no .no a true, _, rfl⟩)
  -- runs
  obtain ⟨δ3, r3, x3, x9, x10, rfl⟩ := forRun_inv (t := .nm 3) (g := true) (ex := fun δ => G.exec ga_law l_law_5 δ)
    (fun _ δ => ∃ x3 x9 x10, δ = Lw ns v (1 + v % 5) (1 + v / 5 % 2) ps x2 x3 x6 x7 x8 x9 x10) (rngD 1 5) 0 (Lw ns v (1 + v % 5) (1 + v / 5 % 2) ps x2 .no x6 x7 x8 .no .no) ⟨.no, .no, .no, rfl⟩ (by
      rintro j d δ hj ⟨x3, x9, x10, rfl⟩
      have hj' : j < 5 := by
        have := (List.getElem?_eq_some_iff.mp hj).1
        rw [rngD_len] at this
        exact this
      rw [rngD_get hj'] at hj
      cases hj
      obtain ⟨y9, y10, e⟩ := law5 ns v (1 + v % 5) (1 + v / 5 % 2) ps x2 x6 x7 x8 x9 x10 (1 + (j : Int)) (by omega) (by omega) true
      exact ⟨Lw ns v (1 + v % 5) (1 + v / 5 % 2) ps x2 (.sh (.int (1 + (j : Int))) true) x6 x7 x8 x9 x10, _, rfl, e, _, _, _, rfl⟩)
  have hm : intsOf [.int 0, .int 1, .int ((ps.length : Int) / 2), .int (ps.length : Int), .int (v / 10 % ((ps.length : Int) + 1))] = some [0, 1, (ps.length : Int) / 2, (ps.length : Int), v / 10 % ((ps.length : Int) + 1)] := intsOf_map [0, 1, (ps.length : Int) / 2, (ps.length : Int), v / 10 % ((ps.length : Int) + 1)]
  have hp1 : (0 : Int) < (ps.length : Int) + 1 := by omega
  -- the written games
  have g1 := games_run 2 1 ⟨by decide, by decide, by decide, by decide⟩ [0, 0, 1, 0, 1] (by unfold Sides; decide) (by decide)
  have g2 := games_run 1 2 ⟨by decide, by decide, by decide, by decide⟩ [0, 1, 0, 0] (by unfold Sides; decide) (by decide)
  rw [go_a] at g1
  rw [go_b] at g2
  have p1 := game_point_run 3 2 ⟨by decide, by decide, by decide, by decide⟩ [0, 0, 1, 1, 1] (by unfold Sides; decide) (by decide) 1 (.inr rfl)
  have p2 := game_point_run 3 2 ⟨by decide, by decide, by decide, by decide⟩ [0, 0, 1, 1] (by unfold Sides; decide) (by decide) 1 (.inr rfl)
  rw [show decide ((go 3 2 [0, 0, 1, 1, 1]).1.length < (go 3 2 ([0, 0, 1, 1, 1] ++ [1])).1.length) = true by decide] at p1
  rw [show decide ((go 3 2 [0, 0, 1, 1]).1.length < (go 3 2 ([0, 0, 1, 1] ++ [1])).1.length) = false by decide] at p2
  have k1 := enc_ok ([0, 1], 0, 0)
  have k2 := enc_ok ([0], 0, 0)
  have v1 := eqv_self (enc_nb ([0, 1], 0, 0))
  have v2 := eqv_self (enc_nb ([0], 0, 0))
  simp only [enc, List.map_cons, List.map_nil] at g1 g2 p1 p2 k1 k2 v1 v2
  refine ⟨true, true, ?_⟩
  unfold c_law
  refine exec_nx (δ1 := [.sh (.ls (ns.map D.int)) false, .sh (.int v) true, .no, .no, .no, .no, .no, .no, .no, .no, .no]) ?_ ?_
  · simp [G.exec, G.eval, evalA, st0, e6, e8, a1, a2, a3, a4, c0, hv, D.flat, Tg.run]
  refine exec_nx (δ1 := Lw ns v (1 + v % 5) (1 + v / 5 % 2) [] .no .no .no .no .no .no .no) ?_ ?_
  · simp [G.exec, G.eval, evalA, Bo.run, slotOf, isNew, Lw]
  refine exec_nx (exec_loop_of (g := false) ?_ r1) ?_
  · simp only [List.map_take] at ec ⊢
    simp [evalI, G.eval, evalO, Lw, ec]
  refine exec_nx (exec_loop_of (g := true) (ds := ms.map D.int) ?_ r2) ?_
  · simp [evalI, G.eval, evalA, Bo.run, Lw, hm, hms, hp1]
  refine exec_nx (exec_loop_of (g := true) (ds := rngD 1 5) ?_ r3) ?_
  · simp [evalI, G.eval]
  refine exec_nx (δ1 := Lw ns v (1 + v % 5) (1 + v / 5 % 2) ps x2 x3 x6 x7 x8 x9 x10) ?_ ?_
  · simp [G.exec, G.eval, evalA, isTst, e4, a5, a6, g1, g2, k1, k2, v1, v2, eqok_okn]
  refine exec_rt ?_
  simp [G.exec, G.eval, evalA, e5, a7, a8, p1, p2, D.flat]
end K05

namespace K05
open PySem L2 G
theorem all_mk {l : PySem.W.OpenLaw} {w : World} {K : PySem.W.Frag} {h : Heap} {mg : Str → Option Value} {fl : Addr} (X : K.In h) (G : h.Ns mainGlobals mg) (hfl : mg "law" = some (.ref fl))
    {a0 : Addr} {od0 an0 : Option Addr} {sl0 : Array (Option Value)} {oc0 kV0 dc0 pm0 cd0 ct0 : Value} {a1 : Addr} {od1 an1 : Option Addr} {sl1 : Array (Option Value)} {oc1 kV1 dc1 pm1 cd1 ct1 : Value} {a2 : Addr} {od2 an2 : Option Addr} {sl2 : Array (Option Value)} {oc2 kV2 dc2 pm2 cd2 ct2 : Value} {a3 : Addr} {od3 an3 : Option Addr} {sl3 : Array (Option Value)} {oc3 kV3 dc3 pm3 cd3 ct3 : Value} {a4 : Addr} {od4 an4 : Option Addr} {sl4 : Array (Option Value)} {oc4 kV4 dc4 pm4 cd4 ct4 : Value} {a5 : Addr} {od5 an5 : Option Addr} {sl5 : Array (Option Value)} {oc5 kV5 dc5 pm5 cd5 ct5 : Value} {a6 : Addr} {od6 an6 : Option Addr} {sl6 : Array (Option Value)} {oc6 kV6 dc6 pm6 cd6 ct6 : Value} {a7 : Addr} {od7 an7 : Option Addr} {sl7 : Array (Option Value)} {oc7 kV7 dc7 pm7 cd7 ct7 : Value} {a8 : Addr} {od8 an8 : Option Addr} {sl8 : Array (Option Value)} {oc8 kV8 dc8 pm8 cd8 ct8 : Value} {a9 : Addr} {od9 an9 : Option Addr} {sl9 : Array (Option Value)} {oc9 kV9 dc9 pm9 cd9 ct9 : Value} {a10 : Addr} {od10 an10 : Option Addr} {sl10 : Array (Option Value)} {oc10 kV10 dc10 pm10 cd10 ct10 : Value} {a11 : Addr} {od11 an11 : Option Addr} {sl11 : Array (Option Value)} {oc11 kV11 dc11 pm11 cd11 ct11 : Value} {a12 : Addr} {od12 an12 : Option Addr} {sl12 : Array (Option Value)} {oc12 kV12 dc12 pm12 cd12 ct12 : Value} {a13 : Addr} {od13 an13 : Option Addr} {sl13 : Array (Option Value)} {oc13 kV13 dc13 pm13 cd13 ct13 : Value}
    {k0 : Tok} {k1 : Tok} {k2 : Tok}
    (g0 : PySem.W.nsIn K mainGlobals "is_whole" = some (some (.ref a0))) (l0 : K.lookup a0 = some ⟨oc0, od0, .func (PySem.W.fnOf "is_whole" "is_whole" (defArgs s_is_whole) (defBody s_is_whole) (defScope s_is_whole) .none kV0 dc0 pm0 an0 cd0 ct0), sl0⟩) (c0 : PySem.W.codeIn K cd0 "is_whole" = true) (p0 : PySem.W.keepIn K (.ref a0) = true)
    (g1 : PySem.W.nsIn K mainGlobals "is_count" = some (some (.ref a1))) (l1 : K.lookup a1 = some ⟨oc1, od1, .func (PySem.W.fnOf "is_count" "is_count" (defArgs s_is_count) (defBody s_is_count) (defScope s_is_count) .none kV1 dc1 pm1 an1 cd1 ct1), sl1⟩) (c1 : PySem.W.codeIn K cd1 "is_count" = true) (p1 : PySem.W.keepIn K (.ref a1) = true)
    (g2 : PySem.W.nsIn K mainGlobals "gone_over" = some (some (.ref a2))) (l2 : K.lookup a2 = some ⟨oc2, od2, .func (PySem.W.fnOf "gone_over" "gone_over" (defArgs s_gone_over) (defBody s_gone_over) (defScope s_gone_over) .none kV2 dc2 pm2 an2 cd2 ct2), sl2⟩) (c2 : PySem.W.codeIn K cd2 "gone_over" = true) (p2 : PySem.W.keepIn K (.ref a2) = true)
    (g3 : PySem.W.nsIn K mainGlobals "check_game" = some (some (.ref a3))) (l3 : K.lookup a3 = some ⟨oc3, od3, .func (PySem.W.fnOf "check_game" "check_game" (defArgs s_check_game) (defBody s_check_game) (defScope s_check_game) .none kV3 dc3 pm3 an3 cd3 ct3), sl3⟩) (c3 : PySem.W.codeIn K cd3 "check_game" = true) (p3 : PySem.W.keepIn K (.ref a3) = true)
    (g4 : PySem.W.nsIn K mainGlobals "games" = some (some (.ref a4))) (l4 : K.lookup a4 = some ⟨oc4, od4, .func (PySem.W.fnOf "games" "games" (defArgs s_games) (defBody s_games) (defScope s_games) .none kV4 dc4 pm4 an4 cd4 ct4), sl4⟩) (c4 : PySem.W.codeIn K cd4 "games" = true) (p4 : PySem.W.keepIn K (.ref a4) = true)
    (g5 : PySem.W.nsIn K mainGlobals "game_point" = some (some (.ref a5))) (l5 : K.lookup a5 = some ⟨oc5, od5, .func (PySem.W.fnOf "game_point" "game_point" (defArgs s_game_point) (defBody s_game_point) (defScope s_game_point) .none kV5 dc5 pm5 an5 cd5 ct5), sl5⟩) (c5 : PySem.W.codeIn K cd5 "game_point" = true) (p5 : PySem.W.keepIn K (.ref a5) = true)
    (g6 : PySem.W.nsIn K mainGlobals "_law_cell_at" = some (some (.ref a6))) (l6 : K.lookup a6 = some ⟨oc6, od6, .func (PySem.W.fnOf "_law_cell_at" "_law_cell_at" (defArgs s__law_cell_at) (defBody s__law_cell_at) (defScope s__law_cell_at) .none kV6 dc6 pm6 an6 cd6 ct6), sl6⟩) (c6 : PySem.W.codeIn K cd6 "_law_cell_at" = true) (p6 : PySem.W.keepIn K (.ref a6) = true)
    (g7 : PySem.W.nsIn K mainGlobals "_law_draw" = some (some (.ref a7))) (l7 : K.lookup a7 = some ⟨oc7, od7, .func (PySem.W.fnOf "_law_draw" "_law_draw" (defArgs s__law_draw) (defBody s__law_draw) (defScope s__law_draw) .none kV7 dc7 pm7 an7 cd7 ct7), sl7⟩) (c7 : PySem.W.codeIn K cd7 "_law_draw" = true) (p7 : PySem.W.keepIn K (.ref a7) = true)
    (g8 : PySem.W.nsIn K mainGlobals "_law_value" = some (some (.ref a8))) (l8 : K.lookup a8 = some ⟨oc8, od8, .func (PySem.W.fnOf "_law_value" "_law_value" (defArgs s__law_value) (defBody s__law_value) (defScope s__law_value) .none kV8 dc8 pm8 an8 cd8 ct8), sl8⟩) (c8 : PySem.W.codeIn K cd8 "_law_value" = true) (p8 : PySem.W.keepIn K (.ref a8) = true)
    (g9 : PySem.W.nsIn K mainGlobals "_law_whole" = some (some (.ref a9))) (l9 : K.lookup a9 = some ⟨oc9, od9, .func (PySem.W.fnOf "_law_whole" "_law_whole" (defArgs s__law_whole) (defBody s__law_whole) (defScope s__law_whole) .none kV9 dc9 pm9 an9 cd9 ct9), sl9⟩) (c9 : PySem.W.codeIn K cd9 "_law_whole" = true) (p9 : PySem.W.keepIn K (.ref a9) = true)
    (g10 : PySem.W.nsIn K mainGlobals "_law_says" = some (some (.ref a10))) (l10 : K.lookup a10 = some ⟨oc10, od10, .func (PySem.W.fnOf "_law_says" "_law_says" (defArgs s__law_says) (defBody s__law_says) (defScope s__law_says) .none kV10 dc10 pm10 an10 cd10 ct10), sl10⟩) (c10 : PySem.W.codeIn K cd10 "_law_says" = true) (p10 : PySem.W.keepIn K (.ref a10) = true)
    (g11 : PySem.W.nsIn K mainGlobals "_law_games" = some (some (.ref a11))) (l11 : K.lookup a11 = some ⟨oc11, od11, .func (PySem.W.fnOf "_law_games" "_law_games" (defArgs s__law_games) (defBody s__law_games) (defScope s__law_games) .none kV11 dc11 pm11 an11 cd11 ct11), sl11⟩) (c11 : PySem.W.codeIn K cd11 "_law_games" = true) (p11 : PySem.W.keepIn K (.ref a11) = true)
    (g12 : PySem.W.nsIn K mainGlobals "_law_right" = some (some (.ref a12))) (l12 : K.lookup a12 = some ⟨oc12, od12, .func (PySem.W.fnOf "_law_right" "_law_right" (defArgs s__law_right) (defBody s__law_right) (defScope s__law_right) .none kV12 dc12 pm12 an12 cd12 ct12), sl12⟩) (c12 : PySem.W.codeIn K cd12 "_law_right" = true) (p12 : PySem.W.keepIn K (.ref a12) = true)
    (g13 : PySem.W.nsIn K mainGlobals "law" = some (some (.ref a13))) (l13 : K.lookup a13 = some ⟨oc13, od13, .func (PySem.W.fnOf "law" "law" (defArgs s_law) (defBody s_law) (defScope s_law) .none kV13 dc13 pm13 an13 cd13 ct13), sl13⟩) (c13 : PySem.W.codeIn K cd13 "law" = true) (p13 : PySem.W.keepIn K (.ref a13) = true)
    (z_all : PySem.W.nsIn K mainGlobals "all" = some none)
    (z_bool : PySem.W.nsIn K mainGlobals "bool" = some none)
    (z_enumerate : PySem.W.nsIn K mainGlobals "enumerate" = some none)
    (z_int : PySem.W.nsIn K mainGlobals "int" = some none)
    (z_isinstance : PySem.W.nsIn K mainGlobals "isinstance" = some none)
    (z_len : PySem.W.nsIn K mainGlobals "len" = some none)
    (z_list : PySem.W.nsIn K mainGlobals "list" = some none)
    (z_range : PySem.W.nsIn K mainGlobals "range" = some none)
    (z_set : PySem.W.nsIn K mainGlobals "set" = some none)
    (z_sorted : PySem.W.nsIn K mainGlobals "sorted" = some none)
    (z_tuple : PySem.W.nsIn K mainGlobals "tuple" = some none)
    (q_MOST_AHEAD : PySem.W.nsIn K mainGlobals "MOST_AHEAD" = some (some (.int 2 k0)))
    (q_MOST_POINTS : PySem.W.nsIn K mainGlobals "MOST_POINTS" = some (some (.int 60 k1)))
    (q_MOST_TO : PySem.W.nsIn K mainGlobals "MOST_TO" = some (some (.int 5 k2)))
    : ∃ fd : FuncData, (∀ (s : Shared) (v : Value), BindsTo s fd ⟨[v], []⟩ [("_law_script", v)]) ∧ ∀ base : Heap, K.In base → base.Ns mainGlobals mg → FnOk l.prog w K mg base CX0 6 fl fd ["_law_script"] (spLaw K) := by
  have e := hfl.symm.trans (PySem.W.mg_of X G g13)
  cases e
  have F0 := fun_mk (st := s_is_whole) l0 c0 p0
  have b0 := F0.binds (ps := ["thing"]) fun _ _ _ _ _ _ us hl => match us, hl with | [_], _ => rfl
  have F1 := fun_mk (st := s_is_count) l1 c1 p1
  have b1 := F1.binds (ps := ["thing", "least", "most"]) fun _ _ _ _ _ _ us hl => match us, hl with | [_, _, _], _ => rfl
  have F2 := fun_mk (st := s_gone_over) l2 c2 p2
  have b2 := F2.binds (ps := ["rule", "points"]) fun _ _ _ _ _ _ us hl => match us, hl with | [_, _], _ => rfl
  have F3 := fun_mk (st := s_check_game) l3 c3 p3
  have b3 := F3.binds (ps := ["rule", "points"]) fun _ _ _ _ _ _ us hl => match us, hl with | [_, _], _ => rfl
  have F4 := fun_mk (st := s_games) l4 c4 p4
  have b4 := F4.binds (ps := ["rule", "points"]) fun _ _ _ _ _ _ us hl => match us, hl with | [_, _], _ => rfl
  have F5 := fun_mk (st := s_game_point) l5 c5 p5
  have b5 := F5.binds (ps := ["rule", "points", "side"]) fun _ _ _ _ _ _ us hl => match us, hl with | [_, _, _], _ => rfl
  have F6 := fun_mk (st := s__law_cell_at) l6 c6 p6
  have b6 := F6.binds (ps := ["_law_script", "_law_k"]) fun _ _ _ _ _ _ us hl => match us, hl with | [_, _], _ => rfl
  have F7 := fun_mk (st := s__law_draw) l7 c7 p7
  have b7 := F7.binds (ps := ["_law_cell", "_law_k", "_law_many"]) fun _ _ _ _ _ _ us hl => match us, hl with | [_, _, _], _ => rfl
  have F8 := fun_mk (st := s__law_value) l8 c8 p8
  have b8 := F8.binds (ps := ["_law_cell", "_law_turn"]) fun _ _ _ _ _ _ us hl => match us, hl with | [_, _], _ => rfl
  have F9 := fun_mk (st := s__law_whole) l9 c9 p9
  have b9 := F9.binds (ps := ["_law_number"]) fun _ _ _ _ _ _ us hl => match us, hl with | [_], _ => rfl
  have F10 := fun_mk (st := s__law_says) l10 c10 p10
  have b10 := F10.binds (ps := ["_law_said", "_law_due"]) fun _ _ _ _ _ _ us hl => match us, hl with | [_, _], _ => rfl
  have F11 := fun_mk (st := s__law_games) l11 c11 p11
  have b11 := F11.binds (ps := ["_law_rule", "_law_points"]) fun _ _ _ _ _ _ us hl => match us, hl with | [_, _], _ => rfl
  have F12 := fun_mk (st := s__law_right) l12 c12 p12
  have b12 := F12.binds (ps := ["_law_rule", "_law_points"]) fun _ _ _ _ _ _ us hl => match us, hl with | [_, _], _ => rfl
  have F13 := fun_mk (st := s_law) l13 c13 p13
  let fa : Nat → Addr := fun k => match k with | 0 => a0 | 1 => a1 | 2 => a2 | 3 => a3 | 4 => a4 | 5 => a5 | 6 => a6 | 7 => a7 | 8 => a8 | 9 => a9 | 10 => a10 | 11 => a11 | 12 => a12 | _ => 0
  let ff : Nat → FuncData := fun k => match k with
    | 0 => PySem.W.fnOf "is_whole" "is_whole" (defArgs s_is_whole) (defBody s_is_whole) (defScope s_is_whole) .none kV0 dc0 pm0 an0 cd0 ct0
    | 1 => PySem.W.fnOf "is_count" "is_count" (defArgs s_is_count) (defBody s_is_count) (defScope s_is_count) .none kV1 dc1 pm1 an1 cd1 ct1
    | 2 => PySem.W.fnOf "gone_over" "gone_over" (defArgs s_gone_over) (defBody s_gone_over) (defScope s_gone_over) .none kV2 dc2 pm2 an2 cd2 ct2
    | 3 => PySem.W.fnOf "check_game" "check_game" (defArgs s_check_game) (defBody s_check_game) (defScope s_check_game) .none kV3 dc3 pm3 an3 cd3 ct3
    | 4 => PySem.W.fnOf "games" "games" (defArgs s_games) (defBody s_games) (defScope s_games) .none kV4 dc4 pm4 an4 cd4 ct4
    | 5 => PySem.W.fnOf "game_point" "game_point" (defArgs s_game_point) (defBody s_game_point) (defScope s_game_point) .none kV5 dc5 pm5 an5 cd5 ct5
    | 6 => PySem.W.fnOf "_law_cell_at" "_law_cell_at" (defArgs s__law_cell_at) (defBody s__law_cell_at) (defScope s__law_cell_at) .none kV6 dc6 pm6 an6 cd6 ct6
    | 7 => PySem.W.fnOf "_law_draw" "_law_draw" (defArgs s__law_draw) (defBody s__law_draw) (defScope s__law_draw) .none kV7 dc7 pm7 an7 cd7 ct7
    | 8 => PySem.W.fnOf "_law_value" "_law_value" (defArgs s__law_value) (defBody s__law_value) (defScope s__law_value) .none kV8 dc8 pm8 an8 cd8 ct8
    | 9 => PySem.W.fnOf "_law_whole" "_law_whole" (defArgs s__law_whole) (defBody s__law_whole) (defScope s__law_whole) .none kV9 dc9 pm9 an9 cd9 ct9
    | 10 => PySem.W.fnOf "_law_says" "_law_says" (defArgs s__law_says) (defBody s__law_says) (defScope s__law_says) .none kV10 dc10 pm10 an10 cd10 ct10
    | 11 => PySem.W.fnOf "_law_games" "_law_games" (defArgs s__law_games) (defBody s__law_games) (defScope s__law_games) .none kV11 dc11 pm11 an11 cd11 ct11
    | 12 => PySem.W.fnOf "_law_right" "_law_right" (defArgs s__law_right) (defBody s__law_right) (defScope s__law_right) .none kV12 dc12 pm12 an12 cd12 ct12
    | _ => PySem.W.fnOf "law" "law" (defArgs s_law) (defBody s_law) (defScope s_law) .none kV13 dc13 pm13 an13 cd13 ct13
  let tk : Nat → Tok := fun k => match k with | 0 => k0 | 1 => k1 | 2 => k2 | _ => 0
  have T : Txt K mg fa ff tk := ⟨⟨F0, PySem.W.mg_of X G g0, b0⟩, ⟨F1, PySem.W.mg_of X G g1, b1⟩, ⟨F2, PySem.W.mg_of X G g2, b2⟩, ⟨F3, PySem.W.mg_of X G g3, b3⟩, ⟨F4, PySem.W.mg_of X G g4, b4⟩, ⟨F5, PySem.W.mg_of X G g5, b5⟩, ⟨F6, PySem.W.mg_of X G g6, b6⟩, ⟨F7, PySem.W.mg_of X G g7, b7⟩, ⟨F8, PySem.W.mg_of X G g8, b8⟩, ⟨F9, PySem.W.mg_of X G g9, b9⟩, ⟨F10, PySem.W.mg_of X G g10, b10⟩, ⟨F11, PySem.W.mg_of X G g11, b11⟩, ⟨F12, PySem.W.mg_of X G g12, b12⟩, PySem.W.mg_none_of X G z_all, PySem.W.mg_none_of X G z_bool, PySem.W.mg_none_of X G z_enumerate, PySem.W.mg_none_of X G z_int, PySem.W.mg_none_of X G z_isinstance, PySem.W.mg_none_of X G z_len, PySem.W.mg_none_of X G z_list, PySem.W.mg_none_of X G z_range, PySem.W.mg_none_of X G z_set, PySem.W.mg_none_of X G z_sorted, PySem.W.mg_none_of X G z_tuple, PySem.W.mg_of X G q_MOST_AHEAD, PySem.W.mg_of X G q_MOST_POINTS, PySem.W.mg_of X G q_MOST_TO⟩
  exact ⟨PySem.W.fnOf "law" "law" (defArgs s_law) (defBody s_law) (defScope s_law) .none kV13 dc13 pm13 an13 cd13 ct13, fun s v => .of_eq rfl, fun base _ _ => ok_law T F13 law_run⟩
end K05
open PySem PySem.W PyProof.Rows
set_option maxHeartbeats 0 in
theorem PySem.Challenge.cw_scorehands_k05_whole_games_holds : PySem.Challenge.rw_scorehands_k05_whole_games.Holds := by
  w_on; o_law; k_head; (case hw => w_witness2)
  k_fill
  refine L2.walk_ofB (l := PySem.Challenge.rw_scorehands_k05_whole_games) (n := 63) (k := 6) (x := "_law_script") (CX := fun _ => L2.CX0) (sp := fun w => G.spLaw _) rfl (by decide) rfl ⟨rfl, by decide, by decide⟩
    (fun w h Y => PySem.W.kIn_of Y) ?F (fun _ _ a ns hl hb _ hS => ⟨a, ns, rfl, hS, hl, hb, fun _ => rfl⟩) (fun _ _ _ _ _ h => h)
  case F =>
    intro w mg fa h KX G hmg
    refine' K05.all_mk KX G hmg ?xg0 ?xl0 ?xc0 ?xp0 ?xg1 ?xl1 ?xc1 ?xp1 ?xg2 ?xl2 ?xc2 ?xp2 ?xg3 ?xl3 ?xc3 ?xp3 ?xg4 ?xl4 ?xc4 ?xp4 ?xg5 ?xl5 ?xc5 ?xp5 ?xg6 ?xl6 ?xc6 ?xp6 ?xg7 ?xl7 ?xc7 ?xp7 ?xg8 ?xl8 ?xc8 ?xp8 ?xg9 ?xl9 ?xc9 ?xp9 ?xg10 ?xl10 ?xc10 ?xp10 ?xg11 ?xl11 ?xc11 ?xp11 ?xg12 ?xl12 ?xc12 ?xp12 ?xg13 ?xl13 ?xc13 ?xp13 ?xz_all ?xz_bool ?xz_enumerate ?xz_int ?xz_isinstance ?xz_len ?xz_list ?xz_range ?xz_set ?xz_sorted ?xz_tuple ?xq_MOST_AHEAD ?xq_MOST_POINTS ?xq_MOST_TO
    (case xg0 => k_is); (case xl0 => k_is); (case xc0 => k_is); (case xp0 => k_is); (case xg1 => k_is); (case xl1 => k_is); (case xc1 => k_is); (case xp1 => k_is)
    (case xg2 => k_is); (case xl2 => k_is); (case xc2 => k_is); (case xp2 => k_is); (case xg3 => k_is); (case xl3 => k_is); (case xc3 => k_is); (case xp3 => k_is)
    (case xg4 => k_is); (case xl4 => k_is); (case xc4 => k_is); (case xp4 => k_is); (case xg5 => k_is); (case xl5 => k_is); (case xc5 => k_is); (case xp5 => k_is)
    (case xg6 => k_is); (case xl6 => k_is); (case xc6 => k_is); (case xp6 => k_is); (case xg7 => k_is); (case xl7 => k_is); (case xc7 => k_is); (case xp7 => k_is)
    (case xg8 => k_is); (case xl8 => k_is); (case xc8 => k_is); (case xp8 => k_is); (case xg9 => k_is); (case xl9 => k_is); (case xc9 => k_is); (case xp9 => k_is)
    (case xg10 => k_is); (case xl10 => k_is); (case xc10 => k_is); (case xp10 => k_is); (case xg11 => k_is); (case xl11 => k_is); (case xc11 => k_is); (case xp11 => k_is)
    (case xg12 => k_is); (case xl12 => k_is); (case xc12 => k_is); (case xp12 => k_is); (case xg13 => k_is); (case xl13 => k_is); (case xc13 => k_is); (case xp13 => k_is)
    (case xz_all => k_is); (case xz_bool => k_is); (case xz_enumerate => k_is); (case xz_int => k_is); (case xz_isinstance => k_is); (case xz_len => k_is); (case xz_list => k_is); (case xz_range => k_is)
    (case xz_set => k_is); (case xz_sorted => k_is); (case xz_tuple => k_is); (case xq_MOST_AHEAD => k_is); (case xq_MOST_POINTS => k_is); (case xq_MOST_TO => k_is)
