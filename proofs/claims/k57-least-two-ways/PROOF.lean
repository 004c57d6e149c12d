import PyProof.Rows.All
import Wide.All
import OpenK.AllK
import Wide.FinOn
import HandS.ForMost
import HandS.Strs
import HandS.SetFor
import HandS.Defaults
import HandS.Exc
import HandS.IsInst
import HandS.Conv
import HandS.Wide
import HandS.SortRule
import HandS.SortInts
import HandS.Evl
import HandS.Walk
import HandS.Codes
import HandS.Head0
import HandS.Head1
import HandS.Head2
import HandS.HeadEnd
import HandS.HeadHook1
import HandS.HeadHook2
import HandS.EndBits
import HandS.SortKw
import KE.SortKeyHeap
import KE.DataMinMax
import KE.KDictDisplayH
import KE.KTupSum
import KE.SortData
import PySem.Challenge.RW_foreworth_k57_whole_least_two_ways
set_option Elab.async false
set_option linter.all false
set_option maxRecDepth 100000
set_option maxHeartbeats 4000000
/-! set(xs) of a list of whole numbers, over the layer. -/
namespace Fw
open PySem PySem.Spec PyProof.Rows L2
section
variable {P : Program} {w : World} {A : Around} {E : Value → Shared → Prop} {s : Shared}
/-- the empty set as it is made -/
abbrev eSet (w : World) : Obj := { cls := .type "set", dict := none, data := .set #[] 0 (.fresh 0 0 (!w.params.followText "set-order")) }
theorem set_ints {l : Addr} {its : Array Value} (ns : List Int) {Q : Value → Shared → Prop} (hh : A.handled = none) (hl : s.heap.IsList l its) (hi : IntsAre its.toList ns) (hb : ns.length + 1 < scanBound)
    (h : ∀ (h2 : Heap) (tk c : Nat), SetR w h2 s.heap.objs.size (fun j => decide (j ∈ ns)) c → c ≤ ns.length → (∀ b o, s.heap.get? b = some o → h2.get? b = some o) → Q (.ref s.heap.objs.size) { s with heap := h2, toks := tk }) :
    wpAny (model P w) A (call (.type "set") [.ref l]) Q E s := by
  have hsz : its.size = ns.length := by
    have q := IntsAre.length hi
    rwa [Array.length_toList] at q
  obtain ⟨c, tl, hmro⟩ := F.called_set.mro
  have hmade := F.called_set.made
  have hsub := F.called_set.sub
  refine wpAny_call (codeAny_of_tree ?_)
  show wpAny _ _ (callAny (.type "set") _) _ _ _
  refine wpAny_pure ⟨Code.quiet_builtin _ (by decide +kernel), codeAny_builtin F.entry_type_call ?_⟩
  rw [Around.under_plain (weight_type_call_type "set" [.ref l] []) rfl]
  have h1 := F.called_set.notType
  have h2 := F.called_set.canCreate
  have hct := F.typeCall_set_1 (.ref l)
  repeat (any_goals (first | assumption | wp_step))
  refine codeAny_mono (code_set_led1 (.ref l) (E := E) (Q₁ := fun v t => v = .ref s.heap.objs.size ∧ t = { s with heap := s.heap.push (eSet w) }) ⟨rfl, rfl⟩) fun r t hr => ?_
  cases r with
  | error e => exact hr
  | ok fl =>
    cases fl with
    | ret v =>
      obtain ⟨rfl, rfl⟩ := hr
      have hS : (s.heap.push (eSet w)).get? s.heap.objs.size = some (eSet w) := Heap.get?_push_size _ rfl
      have hT : Shared.TypeIs { s with heap := s.heap.push (eSet w) } (.ref s.heap.objs.size) "set" := ⟨_, hS, rfl⟩
      have hli := F.called_set.init.lookup
      have hbi := F.called_set.init.bind (.ref s.heap.objs.size)
      repeat (any_goals (first | assumption | wp_step))
      refine codeAny_mono (codeAny_call_builtin (R := wants (fun r t => r = .none ∧ ∃ h2 tk c, t = { s with heap := h2, toks := tk } ∧ SetR w h2 s.heap.objs.size (fun j => decide (j ∈ ns)) c ∧ c ≤ ns.length ∧
          (∀ b o, s.heap.get? b = some o → h2.get? b = some o)) E) F.called_set.init.plain F.entry_set_init (check_set_init_1 hT ?_)) fun r t hr => ?_
      · obtain ⟨⟨oc, od, dt, sl⟩, e1, e2, n, e3⟩ := hl
        simp only at e2 e3
        subst e2; subst e3
        have f1 : (s.heap.push (eSet w)).get? l = some { cls := .type "list", dict := od, data := .seq its n, slots := sl } := Heap.get?_push_of_some _ e1
        have g1 := F.sub_list_set
        have g2 := F.sub_list_frozenset
        have g3 : (Value.type "list" == Value.type "dict") = false := by decide
        have lst : (s.heap.push (eSet w)).IsList l its := ⟨_, f1, rfl, n, rfl⟩
        unfold Builtin.«set.__init__» noKeywords Builtin.Frozenset.updateFrom
        generalize hPI : pyIter = PI
        wp_walk
        subst hPI
        refine wpAny_pyIter_list lst ?_
        refine wpAny_bind (wpAny_runValue ?_)
        have lt : l < s.heap.objs.size := Heap.lt_size e1
        have hh3 : A.in1.in1.in1.handled = none := by simp [hh]
        have sz1 : (s.heap.push (eSet w)).objs.size = s.heap.objs.size + 1 := Heap.size_push ..
        have ne1 : l ≠ (s.heap.push (eSet w)).objs.size := by
          rw [sz1]
          exact Nat.ne_of_lt (Nat.lt_succ_of_lt lt)
        have nin : s.heap.objs.size ∉ [(s.heap.push (eSet w)).objs.size, l] := by
          simp only [List.mem_cons, List.not_mem_nil, or_false, not_or]
          refine ⟨?_, Nat.ne_of_gt lt⟩
          rw [sz1]
          exact Nat.ne_of_lt (Nat.lt_succ_self _)
        have hval : ∀ (i : Nat) (v : Value), its[i]? = some v → ∃ k t, ns[i]? = some k ∧ v = .int k t := fun i v hv => by
          have lti : i < ns.length := by rw [← hsz]; exact (Array.getElem?_eq_some_iff.mp hv).1
          obtain ⟨t, e⟩ := PyProof.Rows.IntsAre.int_at hi i v (by rw [Array.getElem?_toList]; exact hv)
          refine ⟨ns[i], t, List.getElem?_eq_getElem lti, ?_⟩
          rw [e, List.getD_eq_getElem?_getD, List.getElem?_eq_getElem lti] <;> rfl
        refine set_update_ints ((Walks.list hh3 _ l ne1 its).toS) s.heap.objs.size nin ns hsz hb hval (its.size - 0) 0 _ (by omega) (Nat.zero_le _)
          ⟨⟨_, Heap.get?_push_size _ rfl, rfl, rfl⟩, (lst.push _)⟩ ?s0 ?sR
        case s0 => exact ⟨0, Nat.le_refl 0, setR_new_at (Heap.get?_push_of_some _ hS)⟩
        case sR =>
          intro t c2 mv le R2
          obtain ⟨h2, gs, dr, tk, os⟩ := t
          obtain rfl : gs = s.gens := mv.gens
          obtain rfl : dr = s.drawn := mv.drawn
          obtain rfl : os = s.os := mv.os
          show wpAny _ _ _ _ _ _
          refine wpAny_pure ?_
          show wpAny _ _ (ret Value.none) _ _ _
          refine wpAny_pure ⟨rfl, h2, tk, c2, rfl, R2, by rw [← hsz]; exact le, fun b o e => ?_⟩
          have b0 : b < s.heap.objs.size := Heap.lt_size e
          refine mv.heap b o ?_ (Heap.get?_push_of_some _ (Heap.get?_push_of_some _ e))
          simp only [List.mem_cons, List.not_mem_nil, or_false, not_or]
          refine ⟨Nat.ne_of_lt b0, ?_⟩
          rw [sz1]
          exact Nat.ne_of_lt (Nat.lt_succ_of_lt b0)
      · cases r with
        | error e => exact hr
        | ok f2 =>
          cases f2 with
          | ret r =>
            obtain ⟨rfl, h2, tk, c2, rfl, a, b, d⟩ := hr
            repeat (any_goals (first | assumption | wp_step))
            exact h _ _ _ a b d
          | _ => exact hr.elim
    | _ => exact hr.elim
end
/-- set(xs), xs a list of fewer than 4000 whole numbers -/
def rSetL (K : PySem.W.Frag) (w : World) : List V → Hp → VK → Prop := fun xs H Q => ∃ (l : Addr) (ns : List Int), xs = [V.ref l] ∧ SqL K H l (ns.map V.int) ∧ ns.length + 1 < scanBound ∧
  ∀ (a : Addr) (c : Nat), H a = none → c ≤ ns.length → Q (.ref a) (upd H a (SetO w a (fun j => decide (j ∈ ns)) c))
theorem cr_setL {X : Cx} (hc : X.calm = true) : CallR X (.type "set") (rSetL X.K X.w) := by
  intro pins s σ H xs us Q I r h
  obtain ⟨l, ns, rfl, hS, hb, q⟩ := h
  rw [Vals.ref1 r]
  obtain ⟨its, rv, pl, hz⟩ := I.list hS
  refine set_ints (P := X.prog) (w := X.w) ns (I.ok.hd hc) pl.isList (by simpa using ints_of_vals rv) hb fun h2 tk c R le k => ?_
  exact ⟨.ref s.heap.objs.size, upd H s.heap.objs.size (SetO X.w s.heap.objs.size (fun j => decide (j ∈ ns)) c), I.laid (t' := tk) k (Nat.le_refl _) (setO_new R), rfl, q _ c (I.hok.fresh (Nat.le_refl _)) le⟩
end Fw

/-! Least layings: the mathematics, without any program. -/
namespace Lay
/-! ### sums -/
def cost (w : Int → Int) (T : List Int) : Int := (T.map w).sum
theorem cost_nil (w : Int → Int) : cost w [] = 0 := rfl
theorem cost_cons (w : Int → Int) (t : Int) (T : List Int) : cost w (t :: T) = w t + cost w T := by
  unfold cost; rw [List.map_cons, List.sum_cons]
theorem cost_nonneg {w : Int → Int} (hw : ∀ c, 0 ≤ w c) : ∀ T : List Int, 0 ≤ cost w T
  | [] => by rw [cost_nil]; omega
  | t :: T => by have h1 := hw t; have h2 := cost_nonneg hw T; rw [cost_cons]; omega
theorem cost_erase {w : Int → Int} {x : Int} : ∀ {T : List Int}, x ∈ T → cost w T = w x + cost w (T.erase x)
  | [], h => by cases h
  | t :: T, h => by
    by_cases e : t = x
    · subst e
      rw [List.erase_cons_head, cost_cons]
    · have hx : x ∈ T := by
        rcases List.mem_cons.mp h with q | q
        · exact absurd q.symm e
        · exact q
      have ih := cost_erase (w := w) hx
      rw [List.erase_cons_tail (by simpa using e), cost_cons, cost_cons, ih]
      omega
theorem cost_sub {w : Int → Int} (hw : ∀ c, 0 ≤ w c) : ∀ {l T : List Int}, l.Nodup → (∀ x ∈ l, x ∈ T) → cost w l ≤ cost w T
  | [], T, _, _ => by rw [cost_nil]; exact cost_nonneg hw T
  | x :: l, T, hn, hs => by
    have hx : x ∈ T := hs x (List.mem_cons_self ..)
    have hn2 := List.nodup_cons.mp hn
    have ih := cost_sub hw (l := l) (T := T.erase x) hn2.2 (fun y hy => (List.mem_erase_of_ne (fun e => hn2.1 (by rw [← e]; exact hy))).mpr (hs y (List.mem_cons_of_mem _ hy)))
    rw [cost_cons, cost_erase hx]
    omega
theorem cost_map {w : Int → Int} {f : Int → Int} (h : ∀ c, w (f c) = w c) (T : List Int) : cost w (T.map f) = cost w T := by
  unfold cost
  rw [List.map_map]
  exact congrArg List.sum (List.map_congr_left fun c _ => h c)
theorem cost_append (w : Int → Int) (S T : List Int) : cost w (S ++ T) = cost w S + cost w T := by
  unfold cost; rw [List.map_append, List.sum_append]
theorem emod_le_self {a k : Int} (ha : 0 ≤ a) (hk : 0 ≤ k) : a % k ≤ a := by
  have h1 := Int.mul_ediv_add_emod a k
  have h2 := Int.mul_nonneg hk (Int.ediv_nonneg ha hk)
  omega
/-! ### lines, coordinates -/
/-- the positions of a stay -/
def line (k : Int) (d : Int) : Nat → List Int
  | 0 => []
  | l + 1 => d % k :: line k (d + 1) l
theorem line_eq (k d : Int) : ∀ l, line k d l = (List.range l).map fun j : Nat => (d + j) % k
  | 0 => rfl
  | l + 1 => by
    rw [List.range_succ_eq_map, List.map_cons, List.map_map]
    show d % k :: line k (d + 1) l = _
    rw [line_eq k (d + 1) l]
    have e0 : d + ((0 : Nat) : Int) = d := by omega
    rw [e0]
    refine congrArg _ (List.map_congr_left fun j _ => ?_)
    show (d + 1 + (j : Int)) % k = (d + ((j + 1 : Nat) : Int)) % k
    congr 1
    omega
def at_ (k b : Int) (c : Int) : Bool := decide (c % k = b % k)
def coords (k : Int) : List Int → List Int
  | [] => []
  | b :: S => (match (coords k S).find? (at_ k (b + 1)) with | some c => c - 1 | none => b) :: coords k S
def co1 (k b : Int) (cs : List Int) : Int := match cs.find? (at_ k (b + 1)) with | some c => c - 1 | none => b
theorem coords_cons (k b : Int) (S : List Int) : coords k (b :: S) = co1 k b (coords k S) :: coords k S := rfl
theorem co1_mod (k b : Int) (cs : List Int) : co1 k b cs % k = b % k := by
  unfold co1
  split
  · rename_i c h
    have h2 : at_ k (b + 1) c = true := List.find?_some h
    have h3 : c % k = (b + 1) % k := of_decide_eq_true h2
    have h4 : (c - 1) % k = (b + 1 - 1) % k := (Int.emod_sub_cancel_right 1).mpr h3
    rw [h4, Int.add_sub_cancel]
  · rfl
theorem coords_mod (k : Int) : ∀ S : List Int, (coords k S).map (· % k) = S.map (· % k)
  | [] => rfl
  | b :: S => by
    rw [coords_cons, List.map_cons, List.map_cons, coords_mod k S]
    show co1 k b (coords k S) % k :: _ = _
    rw [co1_mod]
theorem coords_cost {k : Int} {w : Int → Int} (hw : ∀ c, w (c % k) = w c) (S : List Int) : cost w (coords k S) = cost w S := by
  have e := congrArg (cost w) (coords_mod k S)
  rw [cost_map (f := (· % k)) hw, cost_map (f := (· % k)) hw] at e
  exact e
theorem at_self {k b c : Int} (h : c % k = b % k) : at_ k b c = true := decide_eq_true h
theorem coords_line {k : Int} : ∀ (S : List Int) (d : Int) (l : Nat), (∀ b ∈ S, b % k = b) → (line k d (l + 1)).Sublist S →
    ∃ x, (coords k S).find? (at_ k d) = some x ∧ ∀ j : Nat, j < l + 1 → x + j ∈ coords k S
  | [], d, l, _, h => by
    have h2 := h.length_le
    simp [line] at h2
  | b :: S, d, l, hb, h => by
    have hb2 : ∀ c ∈ S, c % k = c := fun c hc => hb c (List.mem_cons_of_mem _ hc)
    have hbb : b % k = b := hb b (List.mem_cons_self ..)
    rw [coords_cons]
    by_cases e : b = d % k
    · have ebd : b % k = d % k := by rw [e, Int.emod_emod]
      have hat : at_ k d (co1 k b (coords k S)) = true := at_self (by rw [co1_mod, ebd])
      refine ⟨co1 k b (coords k S), by rw [List.find?_cons, hat], fun j hj => ?_⟩
      cases j with
      | zero =>
        have e0 : co1 k b (coords k S) + ((0 : Nat) : Int) = co1 k b (coords k S) := by omega
        rw [e0]
        exact List.mem_cons_self ..
      | succ j =>
        obtain ⟨l, rfl⟩ : ∃ m, l = m + 1 := ⟨l - 1, by omega⟩
        have hs : (line k (d + 1) (l + 1)).Sublist S := by
          have h3 : (d % k :: line k (d + 1) (l + 1)).Sublist (b :: S) := h
          rw [← e] at h3
          exact h3.of_cons_cons
        obtain ⟨x, hx, hm⟩ := coords_line S (d + 1) l hb2 hs
        have e1 : at_ k (b + 1) = at_ k (d + 1) := by
          funext c
          unfold at_
          have e2 : (b + 1) % k = (d + 1) % k := by rw [Int.add_emod, ebd, ← Int.add_emod]
          rw [e2]
        have e3 : co1 k b (coords k S) = x - 1 := by
          unfold co1
          rw [e1, hx]
        refine List.mem_cons_of_mem _ ?_
        have h4 := hm j (by omega)
        rw [e3]
        have e5 : x - 1 + ((j + 1 : Nat) : Int) = x + (j : Int) := by omega
        rw [e5]
        exact h4
    · have hs : (line k d (l + 1)).Sublist S := by
        have h3 : (d % k :: line k (d + 1) l).Sublist (b :: S) := h
        cases h3 with
        | cons _ q => exact q
        | cons_cons _ q => exact absurd rfl e
      obtain ⟨x, hx, hm⟩ := coords_line S d l hb2 hs
      have hat : at_ k d (co1 k b (coords k S)) = false := by
        refine decide_eq_false ?_
        rw [co1_mod, hbb]
        exact e
      exact ⟨x, by rw [List.find?_cons, hat]; exact hx, fun j hj => List.mem_cons_of_mem _ (hm j hj)⟩
/-! ### moving the upper part -/
abbrev Pl := List (Int × Nat)
def Cov (pl : Pl) (T : List Int) : Prop := ∀ q ∈ pl, ∀ j : Nat, j < q.2 → q.1 + j ∈ T
theorem below (T : List Int) (a : Int) : ∃ B, B < a ∧ ∀ t ∈ T, B < t := by
  induction T with
  | nil => exact ⟨a - 1, by omega, fun t ht => by cases ht⟩
  | cons t T ih =>
    obtain ⟨B, h1, h2⟩ := ih
    refine ⟨min B (t - 1), by omega, fun u hu => ?_⟩
    rcases List.mem_cons.mp hu with e | e
    · subst e; omega
    · have := h2 u e; omega
theorem gap_at {T : List Int} {B : Int} (hB : ∀ t ∈ T, B < t) : ∀ (n : Nat) (M : Int), M - B ≤ n → B < M → ∃ g, g < M ∧ g ∉ T ∧ ∀ x, g < x → x < M → x ∈ T
  | 0, M, h1, h2 => by omega
  | n + 1, M, h1, h2 => by
    by_cases h : M - 1 ∈ T
    · have h3 := hB _ h
      obtain ⟨g, g1, g2, g3⟩ := gap_at hB n (M - 1) (by omega) h3
      refine ⟨g, by omega, g2, fun x x1 x2 => ?_⟩
      by_cases e : x = M - 1
      · rw [e]; exact h
      · exact g3 x x1 (by omega)
    · exact ⟨M - 1, by omega, h, fun x x1 x2 => by omega⟩
theorem max_of : ∀ pl : Pl, pl ≠ [] → ∃ q ∈ pl, ∀ r ∈ pl, r.1 ≤ q.1
  | [], h => absurd rfl h
  | [q], _ => ⟨q, List.mem_cons_self .., fun r hr => by
    rw [List.mem_singleton.mp hr]
    exact Int.le_refl _⟩
  | q :: r :: pl, _ => by
    obtain ⟨m, hm, h⟩ := max_of (r :: pl) (List.cons_ne_nil _ _)
    by_cases e : m.1 ≤ q.1
    · refine ⟨q, List.mem_cons_self .., fun z hz => ?_⟩
      rcases List.mem_cons.mp hz with e2 | e2
      · rw [e2]; exact Int.le_refl _
      · exact Int.le_trans (h z e2) e
    · refine ⟨m, List.mem_cons_of_mem _ hm, fun z hz => ?_⟩
      rcases List.mem_cons.mp hz with e2 | e2
      · rw [e2]; omega
      · exact h z e2
theorem min_over (g : Int) : ∀ pl : Pl, (∃ q ∈ pl, g < q.1) → ∃ q ∈ pl, g < q.1 ∧ ∀ r ∈ pl, g < r.1 → q.1 ≤ r.1
  | [], ⟨q, hq, _⟩ => by cases hq
  | q :: pl, h => by
    by_cases hpl : ∃ r ∈ pl, g < r.1
    · obtain ⟨m, hm, hg, hmin⟩ := min_over g pl hpl
      by_cases e : g < q.1 ∧ q.1 ≤ m.1
      · refine ⟨q, List.mem_cons_self .., e.1, fun r hr hr2 => ?_⟩
        rcases List.mem_cons.mp hr with e2 | e2
        · rw [e2]; exact Int.le_refl _
        · exact Int.le_trans e.2 (hmin r e2 hr2)
      · refine ⟨m, List.mem_cons_of_mem _ hm, hg, fun r hr hr2 => ?_⟩
        rcases List.mem_cons.mp hr with e2 | e2
        · subst e2
          by_cases e3 : r.1 ≤ m.1
          · exact absurd ⟨hr2, e3⟩ e
          · omega
        · exact hmin r e2 hr2
    · obtain ⟨r, hr, hr2⟩ := h
      rcases List.mem_cons.mp hr with e2 | e2
      · subst e2
        refine ⟨r, List.mem_cons_self .., hr2, fun z hz hz2 => ?_⟩
        rcases List.mem_cons.mp hz with e3 | e3
        · rw [e3]; exact Int.le_refl _
        · exact absurd ⟨z, e3, hz2⟩ hpl
      · exact absurd ⟨r, e2, hr2⟩ hpl
/-- how far the starts lie above a -/
def span (a : Int) : Pl → Nat
  | [] => 0
  | q :: pl => (q.1 - a).toNat + span a pl
def down (g k : Int) (q : Int × Nat) : Int × Nat := if g < q.1 then (q.1 - k, q.2) else q
theorem span_down {a g k : Int} (hk : 0 < k) : ∀ pl : Pl, span a (pl.map (down g k)) ≤ span a pl
  | [] => Nat.le_refl _
  | q :: pl => by
    have ih := span_down (a := a) (g := g) hk pl
    show ((down g k q).1 - a).toNat + span a (pl.map (down g k)) ≤ (q.1 - a).toNat + span a pl
    unfold down
    by_cases e : g < q.1
    · rw [if_pos e]
      show (q.1 - k - a).toNat + _ ≤ _
      unfold down at ih
      omega
    · rw [if_neg e]
      unfold down at ih
      omega
theorem span_down_lt {a g k : Int} (hk : 0 < k) : ∀ pl : Pl, (∃ q ∈ pl, g < q.1 ∧ a < q.1) → span a (pl.map (down g k)) < span a pl
  | [], ⟨q, hq, _⟩ => by cases hq
  | q :: pl, h => by
    have hle := span_down (a := a) (g := g) hk pl
    show ((down g k q).1 - a).toNat + span a (pl.map (down g k)) < (q.1 - a).toNat + span a pl
    obtain ⟨r, hr, h1, h2⟩ := h
    by_cases hq : g < q.1 ∧ a < q.1
    · have e : down g k q = (q.1 - k, q.2) := if_pos hq.1
      rw [e]
      show (q.1 - k - a).toNat + _ < _
      have := hq.2
      omega
    · have hr2 : r ∈ pl := by
        rcases List.mem_cons.mp hr with e2 | e2
        · subst e2; exact absurd ⟨h1, h2⟩ hq
        · exact e2
      have ih := span_down_lt (a := a) (g := g) hk pl ⟨r, hr2, h1, h2⟩
      have h3 : ((down g k q).1 - a).toNat ≤ (q.1 - a).toNat := by
        unfold down
        by_cases e : g < q.1
        · rw [if_pos e]
          show (q.1 - k - a).toNat ≤ _
          omega
        · rw [if_neg e]
          exact Nat.le_refl _
      omega
theorem cov_low {pl : Pl} {T : List Int} {g : Int} (hc : Cov pl T) (hg : g ∉ T) {q : Int × Nat} (hq : q ∈ pl) (h : q.1 ≤ g) {j : Nat} (hj : j < q.2) : q.1 + j ≤ g := by
  by_cases e : q.1 + j ≤ g
  · exact e
  · exfalso
    have h2 := hc q hq (g - q.1).toNat (by omega)
    have e2 : q.1 + ((g - q.1).toNat : Int) = g := by omega
    rw [e2] at h2
    exact hg h2
theorem together {k : Int} (hk : 0 < k) {w : Int → Int} (hw : ∀ c, w (c + k) = w c) (a : Int) : ∀ (n : Nat) (pl : Pl) (T : List Int), span a pl ≤ n → pl ≠ [] → (∀ q ∈ pl, a ≤ q.1) → Cov pl T →
    ∃ (z : Int) (T2 : List Int), (∃ q ∈ pl, q.1 % k = z % k) ∧ cost w T2 = cost w T ∧ ∀ q ∈ pl, ∀ j : Nat, j < q.2 → z + (q.1 - z) % k + j ∈ T2 := by
  intro n
  induction n with
  | zero => exact fun pl T h hne ha hc => core hk hw a 0 (fun pl2 T2 h2 => absurd h2 (Nat.not_lt_zero _)) pl T h hne ha hc
  | succ n ih => exact fun pl T h hne ha hc => core hk hw a (n + 1) (fun pl2 T2 h2 => ih pl2 T2 (Nat.le_of_lt_succ h2)) pl T h hne ha hc
where
  core {k : Int} (hk : 0 < k) {w : Int → Int} (hw : ∀ c, w (c + k) = w c) (a : Int) (n : Nat)
      (ih : ∀ (pl : Pl) (T : List Int), span a pl < n → pl ≠ [] → (∀ q ∈ pl, a ≤ q.1) → Cov pl T →
        ∃ (z : Int) (T2 : List Int), (∃ q ∈ pl, q.1 % k = z % k) ∧ cost w T2 = cost w T ∧ ∀ q ∈ pl, ∀ j : Nat, j < q.2 → z + (q.1 - z) % k + j ∈ T2)
      (pl : Pl) (T : List Int) (h : span a pl ≤ n) (hne : pl ≠ []) (ha : ∀ q ∈ pl, a ≤ q.1) (hc : Cov pl T) :
      ∃ (z : Int) (T2 : List Int), (∃ q ∈ pl, q.1 % k = z % k) ∧ cost w T2 = cost w T ∧ ∀ q ∈ pl, ∀ j : Nat, j < q.2 → z + (q.1 - z) % k + j ∈ T2 := by
    obtain ⟨m, hm, hmax⟩ := max_of pl hne
    obtain ⟨B, hB1, hB2⟩ := below T m.1
    obtain ⟨g, g1, g2, g3⟩ := gap_at hB2 (m.1 - B).toNat m.1 (by omega) hB1
    obtain ⟨r, hr, hr1, hr2⟩ := min_over g pl ⟨m, hm, g1⟩
    by_cases hlow : ∀ q ∈ pl, q.1 ≤ g → r.1 - k ≤ q.1
    · refine ⟨r.1, T.map (fun t => if t ≤ g then t + k else t), ⟨r, hr, rfl⟩, ?_, fun q hq j hj => ?_⟩
      · refine cost_map (fun c => ?_) T
        by_cases e : c ≤ g
        · rw [if_pos e, hw]
        · rw [if_neg e]
      · by_cases e : q.1 ≤ g
        · have h1 := hlow q hq e
          have h2 := cov_low hc g2 hq e hj
          have e2 : (q.1 - r.1) % k = q.1 - r.1 + k := by
            have e3 : (q.1 - r.1 + k) % k = (q.1 - r.1) % k := by rw [Int.add_emod_right]
            rw [← e3]
            exact Int.emod_eq_of_lt (by omega) (by omega)
          rw [e2]
          refine List.mem_map.mpr ⟨q.1 + j, hc q hq j hj, ?_⟩
          rw [if_pos h2]
          omega
        · have h1 := hr2 q hq (by omega)
          have h2 : (q.1 - r.1) % k ≤ q.1 - r.1 := emod_le_self (by omega) (by omega)
          have h3 : 0 ≤ (q.1 - r.1) % k := Int.emod_nonneg _ (by omega)
          have hin : r.1 + (q.1 - r.1) % k + j ∈ T := by
            by_cases e3 : r.1 + (q.1 - r.1) % k + j < m.1
            · exact g3 _ (by omega) e3
            · have h4 := hmax q hq
              have h5 := hc q hq (r.1 + (q.1 - r.1) % k + j - q.1).toNat (by omega)
              have e4 : q.1 + ((r.1 + (q.1 - r.1) % k + j - q.1).toNat : Int) = r.1 + (q.1 - r.1) % k + j := by omega
              rw [e4] at h5
              exact h5
          refine List.mem_map.mpr ⟨_, hin, ?_⟩
          rw [if_neg (by omega)]
    · have hlow2 : ∃ q ∈ pl, q.1 ≤ g ∧ q.1 < r.1 - k := by
        refine Classical.byContradiction fun hn => hlow fun q hq h1 => ?_
        refine Classical.byContradiction fun h2 => hn ⟨q, hq, h1, by omega⟩
      obtain ⟨y, hy, hy1, hy2⟩ := hlow2
      have hya := ha y hy
      have hc2 : Cov (pl.map (down g k)) (T.map (fun t => if g < t then t - k else t)) := by
        intro q2 hq2 j hj
        obtain ⟨q, hq, rfl⟩ := List.mem_map.mp hq2
        unfold down at hj ⊢
        by_cases e : g < q.1
        · rw [if_pos e] at hj ⊢
          refine List.mem_map.mpr ⟨q.1 + j, hc q hq j hj, ?_⟩
          rw [if_pos (by omega)]
          show q.1 + j - k = q.1 - k + j
          omega
        · rw [if_neg e] at hj ⊢
          have h2 := cov_low hc g2 hq (by omega) hj
          refine List.mem_map.mpr ⟨q.1 + j, hc q hq j hj, ?_⟩
          rw [if_neg (by omega)]
      have ha2 : ∀ q ∈ pl.map (down g k), a ≤ q.1 := by
        intro q2 hq2
        obtain ⟨q, hq, rfl⟩ := List.mem_map.mp hq2
        have := ha q hq
        unfold down
        by_cases e : g < q.1
        · rw [if_pos e]
          show a ≤ q.1 - k
          have := hr2 q hq e
          omega
        · rw [if_neg e]
          exact this
      have hlt := span_down_lt (a := a) (g := g) hk pl ⟨r, hr, hr1, by omega⟩
      obtain ⟨z, T2, ⟨q0, hq0, hz⟩, hcost, hcov⟩ := ih (pl.map (down g k)) _ (by omega) (fun e => hne (List.map_eq_nil_iff.mp e)) ha2 hc2
      have hmod : ∀ q : Int × Nat, (down g k q).1 % k = q.1 % k := fun q => by
        unfold down
        by_cases e : g < q.1
        · rw [if_pos e]
          show (q.1 - k) % k = _
          exact Int.sub_emod_right q.1 k
        · rw [if_neg e]
      have hmod2 : ∀ q : Int × Nat, ((down g k q).1 - z) % k = (q.1 - z) % k := fun q => (Int.emod_sub_cancel_right z).mpr (hmod q)
      have hlen : ∀ q : Int × Nat, (down g k q).2 = q.2 := fun q => by
        unfold down
        by_cases e : g < q.1
        · rw [if_pos e]
        · rw [if_neg e]
      obtain ⟨q1, hq1, rfl⟩ := List.mem_map.mp hq0
      refine ⟨z, T2, ⟨q1, hq1, by rw [← hmod]; exact hz⟩, ?_, fun q hq j hj => ?_⟩
      · rw [hcost]
        refine cost_map (fun c => ?_) T
        by_cases e : g < c
        · rw [if_pos e]
          have := hw (c - k)
          rw [Int.sub_add_cancel] at this
          exact this.symm
        · rw [if_neg e]
      · have := hcov (down g k q) (List.mem_map_of_mem hq) j (by rw [hlen]; exact hj)
        rw [hmod2] at this
        exact this
end Lay

namespace Lay
/-! ### the price of the union from a door -/
def covd (k : Int) (st : Pl) (d : Int) (y : Nat) : Bool := st.any fun s => decide ((s.1 - d) % k ≤ (y : Int) ∧ (y : Int) < (s.1 - d) % k + s.2)
def ulist (k : Int) (st : Pl) (d : Int) (B : Nat) : List Int := ((List.range B).filter (covd k st d)).map fun y : Nat => d + y
def usum (w : Int → Int) (k : Int) (st : Pl) (d : Int) (B : Nat) : Int := cost w (ulist k st d B)
def Has (rests : List (List Int)) (S : List Int) : Prop := ∀ r ∈ rests, r.Sublist S
theorem ulist_nodup (k : Int) (st : Pl) (d : Int) (B : Nat) : (ulist k st d B).Nodup := by
  unfold ulist
  refine List.Pairwise.map _ (R := fun a b : Nat => a ≠ b) (fun a b h e => h ?_) ((List.nodup_range).filter _)
  omega
theorem mod_shift {k a b c : Int} (h : a % k = b % k) : (c + (a - b)) % k = c % k := by
  have h1 : (a - b) % k = (b - b) % k := (Int.emod_sub_cancel_right b).mpr h
  rw [Int.sub_self] at h1
  rw [Int.add_emod, h1, Int.zero_emod, Int.add_zero, Int.emod_emod]
theorem union_low {k : Int} (hk : 0 < k) {w : Int → Int} (hw0 : ∀ c, 0 ≤ w c) (hw : ∀ c, w (c % k) = w c) {st : Pl} (hne : st ≠ []) (hl : ∀ s ∈ st, 0 < s.2) {S : List Int} (hS : ∀ b ∈ S, b % k = b)
    (h : ∀ s ∈ st, (line k s.1 s.2).Sublist S) (B : Nat) : ∃ s ∈ st, usum w k st s.1 B ≤ cost w S := by
  have hper : ∀ c, w (c + k) = w c := fun c => by rw [← hw (c + k), Int.add_emod_right, hw]
  let f : Int × Nat → Int × Nat := fun s => (((coords k S).find? (at_ k s.1)).getD 0, s.2)
  have hf : ∀ s ∈ st, (f s).1 % k = s.1 % k ∧ ∀ j : Nat, j < s.2 → (f s).1 + j ∈ coords k S := by
    intro s hs
    obtain ⟨d, l⟩ := s
    have h1 := h _ hs
    have h2 := hl _ hs
    obtain ⟨m, rfl⟩ : ∃ m, l = m + 1 := ⟨l - 1, by have : 0 < l := h2; omega⟩
    obtain ⟨x, hx, hm⟩ := coords_line S d m hS h1
    have e : (f (d, m + 1)).1 = x := by
      show ((coords k S).find? (at_ k d)).getD 0 = x
      rw [hx]
      rfl
    rw [e]
    have hx2 : at_ k d x = true := List.find?_some hx
    exact ⟨of_decide_eq_true hx2, hm⟩
  obtain ⟨a, ha1, ha2⟩ := below ((st.map f).map (·.1)) 0
  obtain ⟨z, T2, ⟨q0, hq0, hz⟩, hcost, hcov⟩ := together hk hper a (span a (st.map f)) (st.map f) (coords k S) (Nat.le_refl _) (fun e => hne (List.map_eq_nil_iff.mp e))
    (fun q hq => Int.le_of_lt (ha2 q.1 (List.mem_map_of_mem hq))) (fun q hq j hj => by
      obtain ⟨s, hs, rfl⟩ := List.mem_map.mp hq
      exact (hf s hs).2 j hj)
  obtain ⟨s0, hs0, rfl⟩ := List.mem_map.mp hq0
  have hzs : s0.1 % k = z % k := by rw [← (hf s0 hs0).1]; exact hz
  refine ⟨s0, hs0, ?_⟩
  have e3 : cost w (T2.map (fun c => c + (s0.1 - z))) = cost w S := by
    rw [cost_map (fun c => ?_), hcost, coords_cost hw]
    rw [← hw (c + (s0.1 - z)), mod_shift hzs, hw]
  rw [← e3]
  refine cost_sub hw0 (ulist_nodup k st s0.1 B) fun x hx => ?_
  obtain ⟨y, hy, rfl⟩ := List.mem_map.mp hx
  have hy2 := (List.mem_filter.mp hy).2
  obtain ⟨s, hs, hs2⟩ := List.any_eq_true.mp hy2
  have hs3 := of_decide_eq_true hs2
  have e4 : ((f s).1 - z) % k = (s.1 - s0.1) % k := by
    rw [Int.sub_emod, (hf s hs).1, ← hzs, ← Int.sub_emod]
  have h5 := hcov (f s) (List.mem_map_of_mem hs) ((y : Int) - (s.1 - s0.1) % k).toNat (by
    show ((y : Int) - (s.1 - s0.1) % k).toNat < s.2
    omega)
  rw [e4] at h5
  refine List.mem_map.mpr ⟨_, h5, ?_⟩
  omega
theorem range_mid (o l B : Nat) (h : o + l ≤ B) : (List.range' o l).Sublist (List.range B) := by
  rw [List.range_eq_range']
  have e : List.range' 0 B = List.range' 0 o ++ (List.range' o l ++ List.range' (o + l) (B - (o + l))) := by
    have e1 : List.range' o l ++ List.range' (o + l) (B - (o + l)) = List.range' o (l + (B - (o + l))) := by
      have := List.range'_append (s := o) (m := l) (n := B - (o + l)) (step := 1)
      rw [Nat.one_mul] at this
      exact this
    have e2 : List.range' 0 o ++ List.range' o (l + (B - (o + l))) = List.range' 0 (o + (l + (B - (o + l)))) := by
      have := List.range'_append (s := 0) (m := o) (n := l + (B - (o + l))) (step := 1)
      rw [Nat.one_mul, Nat.zero_add] at this
      exact this
    rw [e1, e2]
    congr 1
    omega
  rw [e]
  exact (List.sublist_append_left _ _).trans (List.sublist_append_right _ _)
theorem union_has {k : Int} (hk : 0 < k) (st : Pl) (d : Int) (B : Nat) {s : Int × Nat} (hs : s ∈ st) (hB : (s.1 - d) % k + s.2 ≤ (B : Int)) : (line k s.1 s.2).Sublist ((ulist k st d B).map (· % k)) := by
  have h0 : 0 ≤ (s.1 - d) % k := Int.emod_nonneg _ (by omega)
  obtain ⟨o, ho⟩ : ∃ o : Nat, (s.1 - d) % k = o := ⟨((s.1 - d) % k).toNat, by omega⟩
  have e1 : line k s.1 s.2 = (List.range' o s.2).map fun y : Nat => (d + y) % k := by
    rw [line_eq, List.range'_eq_map_range, List.map_map]
    refine List.map_congr_left fun j _ => ?_
    show (s.1 + (j : Int)) % k = (d + ((o + j : Nat) : Int)) % k
    have e2 : d + ((o + j : Nat) : Int) = d + j + (s.1 - d) % k := by omega
    rw [e2, Int.add_emod (d + j), Int.emod_emod, ← Int.add_emod]
    congr 1
    omega
  rw [e1]
  unfold ulist
  rw [List.map_map]
  refine List.Sublist.map _ ?_
  have e3 : (List.range' o s.2).filter (covd k st d) = List.range' o s.2 := by
    refine List.filter_eq_self.mpr fun y hy => ?_
    have hy2 := List.mem_range'_1.mp hy
    refine List.any_eq_true.mpr ⟨s, hs, decide_eq_true ?_⟩
    omega
  rw [← e3]
  exact (range_mid o s.2 B (by omega)).filter _
/-! ### the least price of a list that contains all rows -/
def Least (w : Int → Int) (rests : List (List Int)) (v : Int) : Prop := (∃ S, Has rests S ∧ cost w S = v) ∧ ∀ S, Has rests S → v ≤ cost w S
theorem Least.eq {w : Int → Int} {rests : List (List Int)} {u v : Int} (a : Least w rests u) (b : Least w rests v) : u = v := by
  obtain ⟨⟨S, h1, h2⟩, h3⟩ := a
  obtain ⟨⟨T, h4, h5⟩, h6⟩ := b
  have := h3 T h4
  have := h6 S h1
  omega
def adv (b : Int) : List Int → List Int
  | [] => []
  | x :: r => if x = b then r else x :: r
theorem adv_cons (b x : Int) (r : List Int) : adv b (x :: r) = if x = b then r else x :: r := rfl
theorem least_end {w : Int → Int} (hw : ∀ c, 0 ≤ w c) {rests : List (List Int)} (h : ∀ r ∈ rests, r = []) : Least w rests 0 :=
  ⟨⟨[], fun r hr => by rw [h r hr]; exact List.Sublist.refl _, cost_nil w⟩, fun S _ => cost_nonneg hw S⟩
theorem adv_has {b : Int} {rests : List (List Int)} {S : List Int} (h : Has rests (b :: S)) : Has (rests.map (adv b)) S := by
  intro r hr
  obtain ⟨q, hq, rfl⟩ := List.mem_map.mp hr
  have h1 := h q hq
  cases q with
  | nil => exact List.nil_sublist _
  | cons x q =>
    rw [adv_cons]
    by_cases e : x = b
    · rw [if_pos e]
      rw [e] at h1
      exact h1.of_cons_cons
    · rw [if_neg e]
      cases h1 with
      | cons _ z => exact z
      | cons_cons _ z => exact absurd rfl e
theorem has_adv {b : Int} {rests : List (List Int)} {S : List Int} (h : Has (rests.map (adv b)) S) : Has rests (b :: S) := by
  intro q hq
  have h1 := h (adv b q) (List.mem_map_of_mem hq)
  cases q with
  | nil => exact List.nil_sublist _
  | cons x q =>
    rw [adv_cons] at h1
    by_cases e : x = b
    · rw [if_pos e] at h1
      rw [e]
      exact h1.cons_cons b
    · rw [if_neg e] at h1
      exact h1.cons b
theorem least_step {w : Int → Int} (hw : ∀ c, 0 ≤ w c) {rests : List (List Int)} {v : Int}
    (h1 : ∃ r ∈ rests, ∃ b q u, r = b :: q ∧ Least w (rests.map (adv b)) u ∧ v = w b + u)
    (h2 : ∀ r ∈ rests, ∀ b q, r = b :: q → ∃ u, Least w (rests.map (adv b)) u ∧ v ≤ w b + u) : Least w rests v := by
  obtain ⟨r0, hr0, b0, q0, u0, e0, L0, ev⟩ := h1
  constructor
  · obtain ⟨S, hS, hc⟩ := L0.1
    exact ⟨b0 :: S, has_adv hS, by rw [cost_cons, hc, ev]⟩
  · intro S
    induction S with
    | nil =>
      intro h
      have := (h r0 hr0).length_le
      rw [e0] at this
      simp at this
    | cons c S ih =>
      intro h
      by_cases hc : ∃ r ∈ rests, ∃ q, r = c :: q
      · obtain ⟨r, hr, q, e⟩ := hc
        obtain ⟨u, Lu, hu⟩ := h2 r hr c q e
        have := Lu.2 S (adv_has h)
        rw [cost_cons]
        omega
      · have hS : Has rests S := fun r hr => by
          have h3 := h r hr
          cases r with
          | nil => exact List.nil_sublist _
          | cons x q =>
            cases h3 with
            | cons _ z => exact z
            | cons_cons _ z => exact absurd ⟨_, hr, _, rfl⟩ hc
        have := ih hS
        have := hw c
        rw [cost_cons]
        omega
theorem line_mod (k : Int) : ∀ (l : Nat) (d : Int), (line k d l).map (· % k) = line k d l
  | 0, _ => rfl
  | l + 1, d => by
    show (d % k) % k :: (line k (d + 1) l).map (· % k) = _
    rw [line_mod k l, Int.emod_emod]
    rfl
/-- the least price of a list that contains all stays is the least price of a union from one of their doors -/
theorem laying_least {k : Int} (hk : 0 < k) {w : Int → Int} (hw0 : ∀ c, 0 ≤ w c) (hw : ∀ c, w (c % k) = w c) {st : Pl} (hne : st ≠ []) (hl : ∀ s ∈ st, 0 < s.2) {v : Int} (L : Least w (st.map fun s => line k s.1 s.2) v)
    (B : Nat) (hB : ∀ s ∈ st, k + s.2 ≤ (B : Int)) : (∃ s ∈ st, usum w k st s.1 B ≤ v) ∧ ∀ s ∈ st, v ≤ usum w k st s.1 B := by
  constructor
  · obtain ⟨S, hS, hc⟩ := L.1
    have hS2 : ∀ s ∈ st, (line k s.1 s.2).Sublist (S.map (· % k)) := fun s hs => by
      have h1 := (hS _ (List.mem_map_of_mem hs)).map (· % k)
      rw [line_mod] at h1
      exact h1
    obtain ⟨s, hs, h⟩ := union_low hk hw0 hw hne hl (S := S.map (· % k)) (fun b hb => by
      obtain ⟨c, _, rfl⟩ := List.mem_map.mp hb
      exact Int.emod_emod _ _) hS2 B
    refine ⟨s, hs, ?_⟩
    rw [cost_map hw, hc] at h
    exact h
  · intro s hs
    have h := L.2 ((ulist k st s.1 B).map (· % k)) (fun r hr => by
      obtain ⟨q, hq, rfl⟩ := List.mem_map.mp hr
      refine union_has hk st s.1 B hq ?_
      have h1 := hB q hq
      have h2 := Int.emod_lt_of_pos (q.1 - s.1) hk
      omega)
    rw [cost_map hw] at h
    exact h
end Lay

namespace Lay
/-! ### sums over stretches of whole numbers -/
def seg (w : Int → Int) (a b : Int) : Int := ((List.range (b - a).toNat).map fun i : Nat => w (a + i)).sum
theorem seg_nil (w : Int → Int) {a b : Int} (h : b ≤ a) : seg w a b = 0 := by
  unfold seg
  have e : (b - a).toNat = 0 := by omega
  rw [e]
  rfl
theorem seg_snoc (w : Int → Int) {a b : Int} (h : a ≤ b) : seg w a (b + 1) = seg w a b + w b := by
  unfold seg
  have e : (b + 1 - a).toNat = (b - a).toNat + 1 := by omega
  rw [e, List.range_succ, List.map_append, List.sum_append]
  have e2 : a + ((b - a).toNat : Int) = b := by omega
  simp only [List.map_cons, List.map_nil, List.sum_cons, List.sum_nil, e2, Int.add_zero]
theorem seg_split (w : Int → Int) {a b : Int} (h1 : a ≤ b) : ∀ (n : Nat), seg w a (b + n) = seg w a b + seg w b (b + n)
  | 0 => by
    have e : b + ((0 : Nat) : Int) = b := by omega
    rw [e, seg_nil w (Int.le_refl b)]
    omega
  | n + 1 => by
    have e : b + ((n + 1 : Nat) : Int) = b + n + 1 := by omega
    rw [e, seg_snoc w (by omega), seg_snoc w (by omega), seg_split w h1 n]
    omega
theorem seg_add (w : Int → Int) {a b c : Int} (h1 : a ≤ b) (h2 : b ≤ c) : seg w a c = seg w a b + seg w b c := by
  have h := seg_split w h1 (c - b).toNat
  have e : b + ((c - b).toNat : Int) = c := by omega
  rw [e] at h
  exact h
theorem seg_congr {w u : Int → Int} {a b : Int} (h : ∀ c, a ≤ c → c < b → w c = u c) : seg w a b = seg u a b := by
  unfold seg
  refine congrArg List.sum (List.map_congr_left fun i hi => ?_)
  have := List.mem_range.mp hi
  exact h _ (by omega) (by omega)
theorem seg_zero {w : Int → Int} {a b : Int} (h : ∀ c, a ≤ c → c < b → w c = 0) : seg w a b = 0 := by
  rw [seg_congr (u := fun _ => 0) h]
  unfold seg
  induction (b - a).toNat with
  | zero => rfl
  | succ n ih => rw [List.range_succ, List.map_append, List.sum_append, ih]; rfl
theorem seg_shift (w : Int → Int) (d a b : Int) : seg w (d + a) (d + b) = seg (fun y => w (d + y)) a b := by
  unfold seg
  have e : (d + b - (d + a)).toNat = (b - a).toNat := by omega
  rw [e]
  refine congrArg List.sum (List.map_congr_left fun i _ => ?_)
  show w (d + a + i) = w (d + (a + i))
  congr 1
  omega
/-- one round -/
theorem seg_round {w : Int → Int} {k : Int} (hk : 0 ≤ k) (hw : ∀ c, w (c + k) = w c) (a : Int) : seg w a (a + k) = seg w 0 k := by
  have step : ∀ c, seg w (c + 1) (c + 1 + k) = seg w c (c + k) := fun c => by
    have h1 := seg_snoc w (a := c) (b := c + k) (by omega)
    have h2 := seg_add w (a := c) (b := c + 1) (c := c + k + 1) (by omega) (by omega)
    have h3 := seg_snoc w (a := c) (b := c) (by omega)
    have h4 := seg_nil w (Int.le_refl c)
    have h5 := hw c
    have e : c + k + 1 = c + 1 + k := by omega
    rw [e] at h1 h2
    omega
  have up : ∀ n : Nat, seg w (n : Int) ((n : Int) + k) = seg w 0 k := fun n => by
    induction n with
    | zero =>
      have e : ((0 : Nat) : Int) + k = k := by omega
      rw [e]
      rfl
    | succ n ih =>
      have e : ((n + 1 : Nat) : Int) = (n : Int) + 1 := by omega
      rw [e, step, ih]
  have dn : ∀ n : Nat, seg w (-(n : Int)) (-(n : Int) + k) = seg w 0 k := fun n => by
    induction n with
    | zero =>
      have e : -((0 : Nat) : Int) + k = k := by omega
      rw [e]
      rfl
    | succ n ih =>
      have h := step (-((n + 1 : Nat) : Int))
      have e : -((n + 1 : Nat) : Int) + 1 = -(n : Int) := by omega
      rw [e] at h
      rw [← h, ih]
  by_cases h : 0 ≤ a
  · have := up a.toNat
    have e : (a.toNat : Int) = a := by omega
    rw [e] at this
    exact this
  · have := dn (-a).toNat
    have e : -((-a).toNat : Int) = a := by omega
    rw [e] at this
    exact this
theorem seg_rounds {w : Int → Int} {k : Int} (hk : 0 ≤ k) (hw : ∀ c, w (c + k) = w c) (a : Int) : ∀ q : Nat, seg w a (a + q * k) = q * seg w 0 k
  | 0 => by
    have e : a + ((0 : Nat) : Int) * k = a := by simp
    rw [e, seg_nil w (Int.le_refl a)]
    simp
  | q + 1 => by
    have e : a + ((q + 1 : Nat) : Int) * k = a + q * k + k := by
      rw [Int.natCast_succ, Int.add_mul]
      omega
    have h0 : 0 ≤ (q : Int) * k := Int.mul_nonneg (by omega) hk
    rw [e, seg_add w (a := a) (b := a + q * k) (by omega) (by omega), seg_rounds hk hw a q, seg_round hk hw, Int.natCast_succ, Int.add_mul]
    omega
/-- whole rounds at once, then the rest -/
theorem seg_piece {w : Int → Int} {k : Int} (hk : 0 < k) (hw : ∀ c, w (c + k) = w c) {a b : Int} (h : a ≤ b) : (b - a) / k * seg w 0 k + seg w (a + (b - a) / k * k) b = seg w a b := by
  have h0 : 0 ≤ (b - a) / k := Int.ediv_nonneg (by omega) (by omega)
  obtain ⟨q, hq⟩ : ∃ q : Nat, (b - a) / k = q := ⟨((b - a) / k).toNat, by omega⟩
  have h1 : 0 ≤ (q : Int) * k := Int.mul_nonneg (by omega) (by omega)
  have h2 : (q : Int) * k ≤ b - a := by
    rw [← hq]
    exact Int.ediv_mul_le _ (by omega)
  rw [hq, ← seg_rounds (by omega) hw a q, ← seg_add w (by omega) (by omega)]
/-! ### the union, stretch by stretch -/
abbrev Sp2 := List (Int × Int)
def uni (w : Int → Int) : Int → Sp2 → Int
  | _, [] => 0
  | r, q :: ss => seg w (max q.1 r) q.2 + uni w (max r q.2) ss
def inS (ss : Sp2) (y : Int) : Bool := ss.any fun q => decide (q.1 ≤ y ∧ y < q.2)
theorem inS_cons (q : Int × Int) (ss : Sp2) (y : Int) : inS (q :: ss) y = (decide (q.1 ≤ y ∧ y < q.2) || inS ss y) := rfl
theorem uni_eq (w : Int → Int) (B : Int) : ∀ (ss : Sp2) (r : Int), ss.Pairwise (fun a b => a.1 ≤ b.1) → (∀ q ∈ ss, q.2 ≤ B) → r ≤ B → uni w r ss = seg (fun y => if inS ss y = true then w y else 0) r B
  | [], r, _, _, _ => by
    exact (seg_zero fun c _ _ => rfl).symm
  | q :: ss, r, hp, hB, hr => by
    have hp2 := List.pairwise_cons.mp hp
    have hqB := hB q (List.mem_cons_self ..)
    have ih := uni_eq w B ss (max r q.2) hp2.2 (fun z hz => hB z (List.mem_cons_of_mem _ hz)) (by omega)
    show seg w (max q.1 r) q.2 + uni w (max r q.2) ss = _
    rw [ih, seg_add (fun y => if inS (q :: ss) y = true then w y else 0) (a := r) (b := max r q.2) (c := B) (by omega) (by omega)]
    have e2 : seg (fun y => if inS (q :: ss) y = true then w y else 0) (max r q.2) B = seg (fun y => if inS ss y = true then w y else 0) (max r q.2) B := seg_congr fun c h1 _ => by
      have e3 : inS (q :: ss) c = inS ss c := by
        rw [inS_cons, decide_eq_false (by omega), Bool.false_or]
      simp only [e3]
    rw [e2]
    have e4 : seg (fun y => if inS (q :: ss) y = true then w y else 0) r (max r q.2) = seg w (max q.1 r) q.2 := by
      by_cases h1 : q.2 ≤ r
      · rw [seg_nil _ (by omega), seg_nil _ (by omega)]
      · by_cases h2 : q.2 ≤ q.1
        · rw [seg_nil w (by omega)]
          refine seg_zero fun c c1 c2 => if_neg fun hc => ?_
          rw [inS_cons, decide_eq_false (by omega), Bool.false_or] at hc
          obtain ⟨z, hz, hz2⟩ := List.any_eq_true.mp hc
          have h3 := of_decide_eq_true hz2
          have h4 := hp2.1 z hz
          omega
        · have hm : max r q.2 = q.2 := by omega
          rw [hm, seg_add _ (a := r) (b := max q.1 r) (c := q.2) (by omega) (by omega)]
          have e5 : seg (fun y => if inS (q :: ss) y = true then w y else 0) r (max q.1 r) = 0 := seg_zero fun c c1 c2 => if_neg fun hc => by
            rw [inS_cons, decide_eq_false (by omega), Bool.false_or] at hc
            obtain ⟨z, hz, hz2⟩ := List.any_eq_true.mp hc
            have h3 := of_decide_eq_true hz2
            have h4 := hp2.1 z hz
            omega
          have e6 : seg (fun y => if inS (q :: ss) y = true then w y else 0) (max q.1 r) q.2 = seg w (max q.1 r) q.2 := seg_congr fun c c1 c2 => if_pos (by
            rw [inS_cons, decide_eq_true (by omega), Bool.true_or])
          rw [e5, e6]
          omega
    rw [e4]
/-- the union's price as a sum over a stretch -/
theorem usum_seg (w : Int → Int) (k : Int) (st : Pl) (d : Int) : ∀ B : Nat, usum w k st d B = seg (fun y => if covd k st d y.toNat = true then w (d + y) else 0) 0 B
  | 0 => rfl
  | B + 1 => by
    have ih := usum_seg w k st d B
    have e : ((B + 1 : Nat) : Int) = (B : Int) + 1 := by omega
    rw [e, seg_snoc _ (by omega), ← ih]
    have e2 : ((B : Int)).toNat = B := by omega
    rw [e2]
    unfold usum ulist
    rw [List.range_succ, List.filter_append, List.map_append, cost_append]
    by_cases h : covd k st d B = true
    · rw [if_pos h, List.filter_cons_of_pos h]
      simp [cost]
    · rw [if_neg h, List.filter_cons_of_neg h]
      simp [cost]
/-- what the law reckons: stretches from 0 on -/
theorem uni_law {w : Int → Int} {k : Int} (hk : 0 < k) {st : Pl} {d : Int} {ss : Sp2} (hp : ss.Pairwise (fun a b => a.1 ≤ b.1)) (hm : ∀ o b, (o, b) ∈ ss ↔ ∃ s ∈ st, o = (s.1 - d) % k ∧ b = o + s.2) {B : Nat} (hB : ∀ s ∈ st, k + s.2 ≤ (B : Int)) :
    uni (fun y => w (d + y)) 0 ss = usum w k st d B := by
  have hB2 : ∀ q ∈ ss, q.2 ≤ (B : Int) := fun q hq => by
    obtain ⟨s, hs, h1, h2⟩ := (hm q.1 q.2).mp hq
    have h3 := hB s hs
    have h4 := Int.emod_lt_of_pos (s.1 - d) hk
    omega
  rw [uni_eq _ B ss 0 hp hB2 (by omega), usum_seg]
  refine seg_congr fun c h1 h2 => ?_
  have e : inS ss c = covd k st d c.toNat := by
    have ec : (c.toNat : Int) = c := by omega
    cases h : covd k st d c.toNat with
    | true =>
      obtain ⟨s, hs, hs2⟩ := List.any_eq_true.mp h
      have h3 := of_decide_eq_true hs2
      exact List.any_eq_true.mpr ⟨((s.1 - d) % k, (s.1 - d) % k + s.2), (hm _ _).mpr ⟨s, hs, rfl, rfl⟩, decide_eq_true (by show (s.1 - d) % k ≤ c ∧ c < (s.1 - d) % k + s.2; omega)⟩
    | false =>
      refine Bool.eq_false_iff.mpr fun h3 => ?_
      obtain ⟨q, hq, hq2⟩ := List.any_eq_true.mp h3
      have h4 := of_decide_eq_true hq2
      obtain ⟨s, hs, h5, h6⟩ := (hm q.1 q.2).mp hq
      have h7 : covd k st d c.toNat = true := List.any_eq_true.mpr ⟨s, hs, decide_eq_true (by omega)⟩
      rw [h] at h7
      cases h7
  rw [e]
/-! ### the program's pieces -/
def pstep (f : Sp2) (q : Int × Int) : Sp2 := match f.getLast? with
  | some z => if q.1 ≤ z.2 then f.dropLast ++ [(z.1, max q.2 z.2)] else f ++ [q]
  | none => [q]
def ptot (w : Int → Int) (f : Sp2) : Int := (f.map fun z => seg w z.1 z.2).sum
theorem ptot_snoc (w : Int → Int) (f : Sp2) (z : Int × Int) : ptot w (f ++ [z]) = ptot w f + seg w z.1 z.2 := by
  unfold ptot
  rw [List.map_append, List.sum_append]
  simp
theorem pieces_tot (w : Int → Int) : ∀ (ss : Sp2) (f : Sp2) (r : Int), ss.Pairwise (fun a b => a.1 ≤ b.1) → (∀ q ∈ ss, q.1 ≤ q.2) →
    ((f = [] ∧ ∀ q ∈ ss, r ≤ q.1) ∨ ∃ g z, f = g ++ [z] ∧ z.1 ≤ z.2 ∧ z.2 = r ∧ ∀ q ∈ ss, z.1 ≤ q.1) → ptot w (ss.foldl pstep f) = ptot w f + uni w r ss
  | [], f, r, _, _, _ => by
    show ptot w f = ptot w f + 0
    omega
  | q :: ss, f, r, hp, hle, hf => by
    have hp2 := List.pairwise_cons.mp hp
    have hq := hle q (List.mem_cons_self ..)
    have hle2 : ∀ z ∈ ss, z.1 ≤ z.2 := fun z hz => hle z (List.mem_cons_of_mem _ hz)
    show ptot w (ss.foldl pstep (pstep f q)) = ptot w f + (seg w (max q.1 r) q.2 + uni w (max r q.2) ss)
    rcases hf with ⟨rfl, h0⟩ | ⟨g, z, rfl, hz, hr, h0⟩
    · have h1 := h0 q (List.mem_cons_self ..)
      have e : pstep [] q = [] ++ [q] := rfl
      have hm : max r q.2 = q.2 := by omega
      have hm2 : max q.1 r = q.1 := by omega
      rw [e, pieces_tot w ss ([] ++ [q]) q.2 hp2.2 hle2 (.inr ⟨[], q, rfl, hq, rfl, hp2.1⟩), ptot_snoc, hm, hm2]
      omega
    · have h1 := h0 q (List.mem_cons_self ..)
      subst hr
      have e : pstep (g ++ [z]) q = if q.1 ≤ z.2 then g ++ [(z.1, max q.2 z.2)] else g ++ [z] ++ [q] := by
        unfold pstep
        rw [List.getLast?_concat, List.dropLast_concat]
      rw [e]
      by_cases h2 : q.1 ≤ z.2
      · rw [if_pos h2, pieces_tot w ss (g ++ [(z.1, max q.2 z.2)]) (max q.2 z.2) hp2.2 hle2 (.inr ⟨g, _, rfl, by show z.1 ≤ max q.2 z.2; omega, rfl, fun y hy => h0 y (List.mem_cons_of_mem _ hy)⟩), ptot_snoc, ptot_snoc]
        have h3 := seg_add w (a := z.1) (b := z.2) (c := max q.2 z.2) hz (by omega)
        have h4 : seg w z.2 (max q.2 z.2) = seg w (max q.1 z.2) q.2 := by
          have e5 : max q.1 z.2 = z.2 := by omega
          rw [e5]
          by_cases h6 : q.2 ≤ z.2
          · rw [seg_nil w (by omega), seg_nil w h6]
          · have e6 : max q.2 z.2 = q.2 := by omega
            rw [e6]
        have e7 : max q.2 z.2 = max z.2 q.2 := by omega
        show ptot w g + seg w z.1 (max q.2 z.2) + uni w (max q.2 z.2) ss = _
        rw [h3, h4, e7]
        omega
      · rw [if_neg h2, pieces_tot w ss (g ++ [z] ++ [q]) q.2 hp2.2 hle2 (.inr ⟨g ++ [z], q, rfl, hq, rfl, hp2.1⟩), ptot_snoc]
        have e5 : max q.1 z.2 = q.1 := by omega
        have e6 : max z.2 q.2 = q.2 := by omega
        rw [e5, e6]
        omega
/-- what the program reckons: stretches from the door on -/
theorem uni_prog {w : Int → Int} {k : Int} (hk : 0 < k) {st : Pl} {d : Int} {ss : Sp2} (hp : ss.Pairwise (fun a b => a.1 ≤ b.1)) (hm : ∀ o b, (o, b) ∈ ss ↔ ∃ s ∈ st, o = d + (s.1 - d) % k ∧ b = o + s.2) {B : Nat} (hB : ∀ s ∈ st, k + s.2 ≤ (B : Int)) :
    ptot w (ss.foldl pstep []) = usum w k st d B := by
  have h0 : ∀ q ∈ ss, d ≤ q.1 ∧ q.1 ≤ q.2 ∧ q.2 ≤ d + B := fun q hq => by
    obtain ⟨s, hs, h1, h2⟩ := (hm q.1 q.2).mp hq
    have h3 := hB s hs
    have h4 := Int.emod_lt_of_pos (s.1 - d) hk
    have h5 := Int.emod_nonneg (s.1 - d) (show k ≠ 0 by omega)
    omega
  rw [pieces_tot w ss [] d hp (fun q hq => (h0 q hq).2.1) (.inl ⟨rfl, fun q hq => (h0 q hq).1⟩)]
  rw [uni_eq w (d + B) ss d hp (fun q hq => (h0 q hq).2.2) (by omega), usum_seg]
  have e0 : seg (fun y => if inS ss y = true then w y else 0) d (d + B) = seg (fun y => if inS ss y = true then w y else 0) (d + 0) (d + B) := by rw [Int.add_zero]
  rw [e0, seg_shift]
  show (0 : Int) + _ = _
  rw [Int.zero_add]
  refine seg_congr fun c h1 h2 => ?_
  have e : inS ss (d + c) = covd k st d c.toNat := by
    have ec : (c.toNat : Int) = c := by omega
    cases h : covd k st d c.toNat with
    | true =>
      obtain ⟨s, hs, hs2⟩ := List.any_eq_true.mp h
      have h3 := of_decide_eq_true hs2
      exact List.any_eq_true.mpr ⟨(d + (s.1 - d) % k, d + (s.1 - d) % k + s.2), (hm _ _).mpr ⟨s, hs, rfl, rfl⟩, decide_eq_true (by show d + (s.1 - d) % k ≤ d + c ∧ d + c < d + (s.1 - d) % k + s.2; omega)⟩
    | false =>
      refine Bool.eq_false_iff.mpr fun h3 => ?_
      obtain ⟨q, hq, hq2⟩ := List.any_eq_true.mp h3
      have h4 := of_decide_eq_true hq2
      obtain ⟨s, hs, h5, h6⟩ := (hm q.1 q.2).mp hq
      have h7 : covd k st d c.toNat = true := List.any_eq_true.mpr ⟨s, hs, decide_eq_true (by omega)⟩
      rw [h] at h7
      cases h7
  rw [e]
end Lay

namespace Lay
/-! ### fronts as numbers -/
abbrev Ls := List (List Int)
def prodL : Ls → Nat
  | [] => 1
  | l :: ls => (l.length + 1) * prodL ls
def frontL : Ls → Nat → List Nat
  | [], _ => []
  | l :: ls, c => c % (l.length + 1) :: frontL ls (c / (l.length + 1))
def restsL : Ls → Nat → Ls
  | [], _ => []
  | l :: ls, c => l.drop (c % (l.length + 1)) :: restsL ls (c / (l.length + 1))
def due (l : List Int) (f : Nat) (b : Int) : Bool := decide (l[f]? = some b)
def bumpL (b : Int) : Ls → Nat → Nat → Nat
  | [], _, _ => 0
  | l :: ls, c, s => (if due l (c % (l.length + 1)) b = true then s else 0) + bumpL b ls (c / (l.length + 1)) (s * (l.length + 1))
theorem prodL_pos : ∀ ls : Ls, 0 < prodL ls
  | [] => Nat.one_pos
  | l :: ls => Nat.mul_pos (Nat.succ_pos _) (prodL_pos ls)
theorem frontL_length : ∀ (ls : Ls) (c : Nat), (frontL ls c).length = ls.length
  | [], _ => rfl
  | l :: ls, c => by
    show (frontL ls _).length + 1 = ls.length + 1
    rw [frontL_length ls]
theorem bumpL_scale (b : Int) : ∀ (ls : Ls) (c s : Nat), bumpL b ls c s = s * bumpL b ls c 1
  | [], _, _ => rfl
  | l :: ls, c, s => by
    unfold bumpL
    rw [bumpL_scale b ls (c / (l.length + 1)) (s * (l.length + 1)), bumpL_scale b ls (c / (l.length + 1)) (1 * (l.length + 1)), Nat.one_mul, Nat.mul_assoc]
    generalize (l.length + 1) * bumpL b ls (c / (l.length + 1)) 1 = R
    rw [Nat.mul_add]
    congr 1
    by_cases h : due l (c % (l.length + 1)) b = true
    · rw [if_pos h, if_pos h, Nat.mul_one]
    · rw [if_neg h, if_neg h, Nat.mul_zero]
theorem drop_adv (l : List Int) (f : Nat) (b : Int) : adv b (l.drop f) = l.drop (f + if due l f b = true then 1 else 0) := by
  by_cases h : f < l.length
  · rw [List.drop_eq_getElem_cons h, adv_cons]
    by_cases e : l[f] = b
    · have hd : due l f b = true := decide_eq_true (by rw [List.getElem?_eq_getElem h, e])
      rw [if_pos e, if_pos hd]
    · have hd : ¬ due l f b = true := fun q => e (by
        have q2 : l[f]? = some b := of_decide_eq_true q
        rw [List.getElem?_eq_getElem h] at q2
        exact Option.some.inj q2)
      rw [if_neg e, if_neg hd, ← List.drop_eq_getElem_cons h]
      rfl
  · have hd : ¬ due l f b = true := fun q => by
      have q2 : l[f]? = some b := of_decide_eq_true q
      rw [List.getElem?_eq_none (by omega)] at q2
      cases q2
    rw [if_neg hd, Nat.add_zero, List.drop_eq_nil_of_le (by omega)]
    rfl
theorem due_lt {l : List Int} {f : Nat} {b : Int} (h : due l f b = true) : f < l.length := by
  have q2 : l[f]? = some b := of_decide_eq_true h
  exact (List.getElem?_eq_some_iff.mp q2).1
theorem bump_digit (l : List Int) (c R : Nat) (b : Int) : (c + ((if due l (c % (l.length + 1)) b = true then 1 else 0) + (l.length + 1) * R)) % (l.length + 1) = c % (l.length + 1) + (if due l (c % (l.length + 1)) b = true then 1 else 0) ∧
    (c + ((if due l (c % (l.length + 1)) b = true then 1 else 0) + (l.length + 1) * R)) / (l.length + 1) = c / (l.length + 1) + R := by
  have hz : 0 < l.length + 1 := Nat.succ_pos _
  have hlt := Nat.mod_lt c hz
  have hdm := Nat.div_add_mod c (l.length + 1)
  have hb : c % (l.length + 1) + (if due l (c % (l.length + 1)) b = true then 1 else 0) < l.length + 1 := by
    by_cases h : due l (c % (l.length + 1)) b = true
    · rw [if_pos h]
      have := due_lt h
      omega
    · rw [if_neg h]
      omega
  generalize hi : (if due l (c % (l.length + 1)) b = true then 1 else 0 : Nat) = i at hb ⊢
  generalize hq : c % (l.length + 1) = m at *
  generalize hp : c / (l.length + 1) = q at *
  have e : c + (i + (l.length + 1) * R) = (m + i) + (l.length + 1) * (q + R) := by
    rw [← hdm, Nat.mul_add]
    omega
  rw [e, Nat.add_mul_mod_self_left, Nat.mod_eq_of_lt hb, Nat.add_mul_div_left _ _ hz, Nat.div_eq_of_lt hb]
  exact ⟨rfl, by omega⟩
theorem rests_bump (b : Int) : ∀ (ls : Ls) (c : Nat), restsL ls (c + bumpL b ls c 1) = (restsL ls c).map (adv b)
  | [], _ => rfl
  | l :: ls, c => by
    show l.drop ((c + bumpL b (l :: ls) c 1) % (l.length + 1)) :: restsL ls ((c + bumpL b (l :: ls) c 1) / (l.length + 1)) = adv b (l.drop (c % (l.length + 1))) :: (restsL ls (c / (l.length + 1))).map (adv b)
    have e : bumpL b (l :: ls) c 1 = (if due l (c % (l.length + 1)) b = true then 1 else 0) + (l.length + 1) * bumpL b ls (c / (l.length + 1)) 1 := by
      show _ + bumpL b ls (c / (l.length + 1)) (1 * (l.length + 1)) = _
      rw [bumpL_scale b ls _ (1 * (l.length + 1)), Nat.one_mul]
    obtain ⟨h1, h2⟩ := bump_digit l c (bumpL b ls (c / (l.length + 1)) 1) b
    rw [e, h1, h2, rests_bump b ls, drop_adv]
theorem bump_lt (b : Int) : ∀ (ls : Ls) (c : Nat), c < prodL ls → c + bumpL b ls c 1 < prodL ls
  | [], c, h => h
  | l :: ls, c, h => by
    have hz : 0 < l.length + 1 := Nat.succ_pos _
    have e : bumpL b (l :: ls) c 1 = (if due l (c % (l.length + 1)) b = true then 1 else 0) + (l.length + 1) * bumpL b ls (c / (l.length + 1)) 1 := by
      show _ + bumpL b ls (c / (l.length + 1)) (1 * (l.length + 1)) = _
      rw [bumpL_scale b ls _ (1 * (l.length + 1)), Nat.one_mul]
    obtain ⟨h1, h2⟩ := bump_digit l c (bumpL b ls (c / (l.length + 1)) 1) b
    rw [← e] at h2
    have h3 : c / (l.length + 1) < prodL ls := Nat.div_lt_of_lt_mul h
    have h4 := bump_lt b ls _ h3
    rw [← h2] at h4
    have h5 := (Nat.div_lt_iff_lt_mul hz).mp h4
    show c + bumpL b (l :: ls) c 1 < (l.length + 1) * prodL ls
    rw [Nat.mul_comm]
    exact h5
/-- a row's digit -/
theorem front_get : ∀ (ls : Ls) (c j : Nat) (l : List Int), ls[j]? = some l → ∃ f, (frontL ls c)[j]? = some f ∧ f ≤ l.length ∧ (restsL ls c)[j]? = some (l.drop f)
  | [], _, _, _, h => by simp at h
  | l :: ls, c, 0, m, h => by
    obtain rfl : l = m := Option.some.inj h
    exact ⟨_, rfl, Nat.le_of_lt_succ (Nat.mod_lt c (Nat.succ_pos _)), rfl⟩
  | l :: ls, c, j + 1, m, h => front_get ls (c / (l.length + 1)) j m h
theorem rests_length : ∀ (ls : Ls) (c : Nat), (restsL ls c).length = ls.length
  | [], _ => rfl
  | l :: ls, c => by
    show (restsL ls _).length + 1 = ls.length + 1
    rw [rests_length ls]
theorem rests_last : ∀ (ls : Ls), ∀ r ∈ restsL ls (prodL ls - 1), r = []
  | [], r, h => by cases h
  | l :: ls, r, h => by
    have hp := prodL_pos ls
    have hz : 0 < l.length + 1 := Nat.succ_pos _
    obtain ⟨m, hm⟩ : ∃ m, prodL ls = m + 1 := ⟨prodL ls - 1, by omega⟩
    have e : prodL (l :: ls) - 1 = l.length + (l.length + 1) * m := by
      show (l.length + 1) * prodL ls - 1 = _
      rw [hm, Nat.mul_add]
      omega
    have h1 : (l.length + (l.length + 1) * m) % (l.length + 1) = l.length := by
      rw [Nat.add_mul_mod_self_left, Nat.mod_eq_of_lt (Nat.lt_succ_self _)]
    have h2 : (l.length + (l.length + 1) * m) / (l.length + 1) = m := by
      rw [Nat.add_mul_div_left _ _ hz, Nat.div_eq_of_lt (Nat.lt_succ_self _), Nat.zero_add]
    rw [e] at h
    have h3 : r ∈ l.drop ((l.length + (l.length + 1) * m) % (l.length + 1)) :: restsL ls ((l.length + (l.length + 1) * m) / (l.length + 1)) := h
    rw [h1, h2] at h3
    rcases List.mem_cons.mp h3 with e2 | e2
    · rw [e2, List.drop_length]
    · have e3 : m = prodL ls - 1 := by omega
      rw [e3] at e2
      exact rests_last ls r e2
theorem rests_due : ∀ (ls : Ls) (c : Nat), c + 1 < prodL ls → ∃ r ∈ restsL ls c, r ≠ []
  | [], c, h => by
    have h2 : c + 1 < 1 := h
    omega
  | l :: ls, c, h => by
    have hz : 0 < l.length + 1 := Nat.succ_pos _
    by_cases h1 : c % (l.length + 1) < l.length
    · refine ⟨l.drop (c % (l.length + 1)), List.mem_cons_self .., fun e => ?_⟩
      have := List.drop_eq_nil_iff.mp e
      omega
    · have hlt := Nat.mod_lt c hz
      have hdm := Nat.div_add_mod c (l.length + 1)
      have h2 : c % (l.length + 1) = l.length := by omega
      have h3 : c / (l.length + 1) + 1 < prodL ls := by
        have h4 : (l.length + 1) * (c / (l.length + 1) + 1) < (l.length + 1) * prodL ls := by
          have h5 : c + 1 < (l.length + 1) * prodL ls := h
          rw [Nat.mul_add]
          omega
        exact Nat.lt_of_mul_lt_mul_left h4
      obtain ⟨r, hr, hne⟩ := rests_due ls _ h3
      exact ⟨r, List.mem_cons_of_mem _ hr, hne⟩
theorem rests_zero : ∀ ls : Ls, restsL ls 0 = ls
  | [] => rfl
  | l :: ls => by
    show l.drop (0 % (l.length + 1)) :: restsL ls (0 / (l.length + 1)) = l :: ls
    rw [Nat.zero_mod, Nat.zero_div, rests_zero ls]
    rfl
theorem front_le : ∀ (ls : Ls) (c : Nat), ∀ (j f : Nat) (l : List Int), (frontL ls c)[j]? = some f → ls[j]? = some l → f ≤ l.length := fun ls c j f l h1 h2 => by
  obtain ⟨g, h3, h4, _⟩ := front_get ls c j l h2
  rw [h1] at h3
  rw [Option.some.inj h3]
  exact h4
end Lay

/-! Short words over the layer: a def's promise together with its binding. -/
namespace Fw
open PySem PySem.Spec PyProof.Rows L2
/-- the def at f keeps sp; dvs: its defaults' values -/
structure Good (P : Program) (w : World) (K : PySem.W.Frag) (mg : Str → Option Value) (base : Heap) (k : Nat) (f : Addr) (ps : List Str) (dvs : List V) (sp : Sp) : Prop where
  ex : ∃ fd ds, FnOk P w K mg base CX0 k f fd ps sp ∧ Binds K fd ps ds ∧ Vals dvs ds
  kp : PySem.W.keepIn K (.ref f) = true
section
variable {P : Program} {w : World} {K : PySem.W.Frag} {mg : Str → Option Value} {base : Heap} {k : Nat} {f : Addr} {N ps : List Str} {sp : Sp} {x q : Str} {pa : Arguments} {bd : List Stmt} {sc : Scope}
theorem good_of (hF : ∃ fd, FunD K x q pa bd sc [] [] f fd) (S : FnScope N ps sc) (len : ∀ vs H Q E, sp vs H Q E → vs.length = ps.length)
    (hb : ∀ (kV doc pm : Value) (an : Option Addr) (cdv ct : Value) (us : List Value), us.length = ps.length → bindArgs (PySem.W.fnOf x q pa bd sc .none kV doc pm an cdv ct) ⟨us, []⟩ = pure (ps.zip us))
    (hbody : ∀ (cdv : Value) (A : Around) (outer : List Env) (s : Shared) (H : Hp) (vs : List V) (Q : VK) (E : XK), Room k (A.deeper (envOfC q sc s.heap.objs.size f cdv)) → sp vs H Q E →
      ∃ t, PSs (cxOf CX0 P w K mg base N q sc f cdv A outer s H E).nox bd t ∧ t { nx := fun _ H2 => Q .non H2, rt := Q } (start N vs) H) : Good P w K mg base (k + 1) f ps [] sp := by
  obtain ⟨fd, F⟩ := hF
  refine ⟨⟨fd, [], F.ok S len fun cdv A outer s H vs Q E hr h => ?_, F.bindsN hb, .nil⟩, F.kp⟩
  obtain ⟨t, h1, h2⟩ := hbody cdv A outer s H vs Q E hr h
  exact ⟨t, h1.nox, h2⟩
/-- the same with keyword-only defaults -/
theorem good_kw {kws : List (Str × V)} {n : Nat} (hF : ∃ fd, FunD K x q pa bd sc [] kws f fd) (S : FnScope N ps sc) (len : ∀ vs H Q E, sp vs H Q E → vs.length = ps.length) (hk : kws ≠ []) (hn : n + kws.length = ps.length)
    (hb : ∀ (D : Addr) (doc pm : Value) (an : Option Addr) (cdv ct : Value) (us ks : List Value), us.length = n → ks.length = kws.length →
      KwChain D ((kws.map (·.1)).zip ks) (bindArgs (PySem.W.fnOf x q pa bd sc .none (.ref D) doc pm an cdv ct) ⟨us, []⟩) (ps.zip (us ++ ks)))
    (hbody : ∀ (cdv : Value) (A : Around) (outer : List Env) (s : Shared) (H : Hp) (vs : List V) (Q : VK) (E : XK), Room k (A.deeper (envOfC q sc s.heap.objs.size f cdv)) → sp vs H Q E →
      ∃ t, PSs (cxOf CX0 P w K mg base N q sc f cdv A outer s H E).nox bd t ∧ t { nx := fun _ H2 => Q .non H2, rt := Q } (start N vs) H) : Good P w K mg base (k + 1) f ps (kws.map (·.2)) sp := by
  obtain ⟨fd, F⟩ := hF
  obtain ⟨ds, hd, hB⟩ := F.binds0 n hk hn hb
  refine ⟨⟨fd, ds, F.ok S len fun cdv A outer s H vs Q E hr h => ?_, hB, hd⟩, F.kp⟩
  obtain ⟨t, h1, h2⟩ := hbody cdv A outer s H vs Q E hr h
  exact ⟨t, h1.nox, h2⟩
end
section
variable {X : Cx} {k : Nat} {f C : Addr} {ps : List Str} {dvs : List V} {sp : Sp} {x m : Str} {p pos apos : Pos} {e o : Expr} {es : List Expr} {t : TA} {ta : TE}
theorem pe_cg (G : Good X.prog X.w X.K X.mg X.base k f ps dvs sp) (hr : Room k X.A) (hg : Gl X x) (hm : X.mg x = some (.ref f)) (ha : PA X (e :: es) t) (hdb : (x == ("__debug__" : Str)) = false := by decide)
    (he : starEach (e :: es) X.env = (false, eval e X.env) :: starEach es X.env := by rfl) (hpl : (backTo pos (starEach es X.env)).any (·.1) = false := by rfl) : PE X (.Call (.Name x p) (e :: es) [] pos) (tCall sp dvs E0 t) := by
  obtain ⟨fd, ds, F, b, d⟩ := G.ex
  exact pe_call F hr hg hm G.kp b d pass0 ha hdb he hpl
theorem pe_mkg (M : Mk X.K C f) (G : Good X.prog X.w X.K X.mg X.base k f ps dvs sp) (hr : Room (k + 1) X.A) (hg : Gl X x) (hm : X.mg x = some (.ref C)) (ha : PA X (e :: es) t) (hdb : (x == ("__debug__" : Str)) = false := by decide)
    (he : starEach (e :: es) X.env = (false, eval e X.env) :: starEach es X.env := by rfl) (hpl : (backTo pos (starEach es X.env)).any (·.1) = false := by rfl) : PE X (.Call (.Name x p) (e :: es) [] pos) (tMake C sp dvs E0 t) := by
  obtain ⟨fd, ds, F, b, d⟩ := G.ex
  exact pe_make M F hr hg hm b d pass0 ha hdb he hpl
theorem pe_mtg0 {pl : Sem Bool} (ho : PE X o ta) (c : Cls X.K C) (hm : Meth X.K C m f) (G : Good X.prog X.w X.K X.mg X.base k f ps dvs sp) (hr : Room k X.A)
    (ht : eval (.Call (.Attribute o m apos) [] [] pos) X.env = (do
      let ov ← eval o X.env
      standAt apos.atName
      let (g, first) ← holding [ov] (getMethod ov m pl)
      callWith pos g first (backTo pos (starEach [] X.env)) (backToKw pos (keywordEach [] X.env))) := by rfl) : PE X (.Call (.Attribute o m apos) [] [] pos) (tMeth C m sp dvs E0 ta tNil) := by
  obtain ⟨fd, ds, F, b, d⟩ := G.ex
  exact pe_meth0 ho c hm F hr b d pass0 ht
theorem pe_mtg {pl : Sem Bool} (ho : PE X o ta) (c : Cls X.K C) (hm : Meth X.K C m f) (G : Good X.prog X.w X.K X.mg X.base k f ps dvs sp) (hr : Room k X.A) (ha : PA X (e :: es) t)
    (hst : starEach (e :: es) X.env = (false, eval e X.env) :: starEach es X.env := by rfl) (hpl : (backTo pos (starEach es X.env)).any (·.1) = false := by rfl)
    (ht : eval (.Call (.Attribute o m apos) (e :: es) [] pos) X.env = (do
      let ov ← eval o X.env
      standAt apos.atName
      let (g, first) ← holding [ov] (getMethod ov m pl)
      callWith pos g first (backTo pos (starEach (e :: es) X.env)) (backToKw pos (keywordEach [] X.env))) := by rfl) : PE X (.Call (.Attribute o m apos) (e :: es) [] pos) (tMeth C m sp dvs E0 ta t) := by
  obtain ⟨fd, ds, F, b, d⟩ := G.ex
  exact pe_meth ho c hm F hr b d pass0 ha hst hpl ht
end
/-! ### rules with the written part named (within comprehensions) -/
section
variable {X : Cx} {K : PySem.W.Frag}
theorem ix_listE (h : X.K = K) : IxR X (rIxL K) := by subst h; exact ix_list
theorem ix_tupE (h : X.K = K) : IxR X (rIxT K) := by subst h; exact ix_tup
abbrev rLenQ (K : PySem.W.Frag) : List V → Hp → VK → Prop := fun xs H Q => ∃ p ys, xs = [.ref p] ∧ (SqL K H p ys ∨ SqT K H p ys) ∧ Q (.int ys.length) H
theorem call_lenE (h : X.K = K) : CallR X (.builtin "len") (rLenQ K) := by subst h; exact call_len_seq
theorem pe_fldE {e : Expr} {ta : TE} {f : Str} {pos : Pos} (h : X.K = K) (he : PE X e ta) (hb : attributeBase e f X.env (eval e X.env) = eval e X.env) : PE X (.Attribute e f pos) (tFld K ta f) := by
  subst h
  exact pe_fld he hb
theorem pi_listE {tg l : Expr} {tl : TE} (h : X.K = K) (hl : PI X tg l (iList X.K tl)) : PI X tg l (iList K tl) := by
  subst h
  exact hl
end
/-! ### tests whose outcome is known -/
theorem ifF {c A B : Prop} [Decidable c] (h : ¬ c) (b : B) : if decide c = true then A else B := by
  rw [decide_eq_false h]
  exact iteF b
theorem ifT {c A B : Prop} [Decidable c] (h : c) (a : A) : if decide c = true then A else B := by
  rw [decide_eq_true h]
  exact iteT a
theorem ifNF {c A B : Prop} [Decidable c] (h : c) (b : B) : if (!decide c) = true then A else B := by
  rw [decide_eq_true h]
  exact iteF b
theorem ifNT {c A B : Prop} [Decidable c] (h : ¬ c) (a : A) : if (!decide c) = true then A else B := by
  rw [decide_eq_false h]
  exact iteT a
theorem if2 {c A B : Prop} [Decidable c] (h1 : c → A) (h2 : ¬ c → B) : if decide c = true then A else B := by
  by_cases h : c
  · exact ifT h (h1 h)
  · exact ifF h (h2 h)
theorem tnil_go {σ : L2.St} {H : Hp} {R : List V → Hp → Prop} (h : R [] H) : tNil σ H R := h
theorem int_ne {i j : Int} (h : i ≠ j) : ¬ V.int i = V.int j := fun e => h (V.int.inj e)
theorem map_get {ns : List Int} {i : Nat} {x : V} (h : (ns.map V.int)[i]? = some x) : ∃ n, ns[i]? = some n ∧ x = .int n := by
  rw [List.getElem?_map] at h
  cases e : ns[i]? with
  | none =>
    rw [e] at h
    cases h
  | some n =>
    rw [e] at h
    exact ⟨n, rfl, (Option.some.inj h).symm⟩
theorem get_map {ns : List Int} {i : Nat} {n : Int} (h : ns[i]? = some n) : (ns.map V.int)[i]? = some (.int n) := by
  rw [List.getElem?_map, h]
  rfl
/-! ### heaps -/
theorem same_new {H : Hp} {p : Addr} {o : HO} (h : H p = none) : Same H (upd H p o) := fun b u e => by
  rw [upd_ne (ne_of_none e h)]
  exact e
theorem same_mut {H H2 : Hp} {p : Addr} {o : HO} (s : Same H H2) (h : H p = none) : Same H (upd H2 p o) := fun b u e => by
  rw [upd_ne (ne_of_none e h)]
  exact s b u e
theorem same_t {K : PySem.W.Frag} {H H2 : Hp} {a : Addr} {xs : List V} (s : Same H H2) (h : SqT K H a xs) : SqT K H2 a xs := by
  rcases h with (h | ⟨o, h⟩) | h
  · exact .inl (.inl (s _ _ h))
  · exact .inl (.inr ⟨o, s _ _ h⟩)
  · exact .inr h
/-! ### the end: a law over a head by facts, the script's bits told -/
theorem walk_bits {l : PySem.W.OpenLaw} {n k : Nat} {q : Program} {loose : List Str} {XP : (Str → Option Value) → Heap → Prop} {YP : World → Heap → Prop} {d : DefRec} {x : Str}
    (hn : l.most = some n) (hn2 : n ≤ sizeLine) (hdf : d.params.defaults = []) (hr : Room k callerA)
    (F : ∀ (w : World) (mg : Str → Option Value) (fa : Addr) (h : Heap), YP w h → h.Ns mainGlobals mg → mg d.name = some (.ref fa) →
      ∃ (K : PySem.W.Frag) (fd : FuncData) (sp : Sp), K.In h ∧ (∀ (s : Shared) (u : Value), BindsTo s fd ⟨[u], []⟩ [(x, u)]) ∧
        (∀ (H : Hp) (a : Addr) (ns : List Int), ns.length ≤ n → (∀ z ∈ ns, Builtin.Int.intBits z ≤ 1048576) → SqL K H a (ns.map V.int) → sp [.ref a] H (fun v _ => v = .bl true) fun _ _ _ => False) ∧
        ∀ base : Heap, K.In base → base.Ns mainGlobals mg → FnOk l.prog w K mg base CX0 k fa fd [x] sp) :
    PySem.W.WalkO q loose XP YP l.row.toRowW d [] (fun f vs => PySem.call f vs) := by
  refine Att.attach_callB hn hdf fun w s0 s1 mg mb fa o pm cd doc a vs ns G Y ho hd hcd hmg hobj hints hlen hbits hg => ?_
  obtain ⟨K, fd, sp, KX, hb, hsp, hF⟩ := F w mg fa _ Y G.T.g hmg
  exact law_call KX G.T.g G.T.b G.T.builtins G.T.nolimit hg hobj hints (Nat.le_trans hlen hn2) hr hF hb (fun H _ hS => hsp H a ns hlen hbits hS) fun _ _ _ z => z
end Fw

/-! Lists of pairs and of lists, as the heap holds them; sorting of pairs. -/
namespace Fw
open PySem PySem.Spec PyProof.Rows L2 Lay
/-- a list of pairs of whole numbers: the tuples' addresses and what they hold -/
abbrev Zs := List (Addr × Int × Int)
def TL (H : Hp) (zs : Zs) : Prop := ∀ z ∈ zs, H z.1 = some (.tup [.int z.2.1, .int z.2.2])
abbrev refT (zs : Zs) : List V := zs.map fun z => V.ref z.1
/-- a list of lists of whole numbers -/
abbrev Ws := List (Addr × List Int)
def LL (K : PySem.W.Frag) (H : Hp) (zs : Ws) : Prop := ∀ z ∈ zs, SqL K H z.1 (z.2.map V.int)
abbrev refL (zs : Ws) : List V := zs.map fun z => V.ref z.1
theorem TL.same {H H2 : Hp} {zs : Zs} (h : TL H zs) (s : Same H H2) : TL H2 zs := fun z hz => s _ _ (h z hz)
theorem LL.same {K : PySem.W.Frag} {H H2 : Hp} {zs : Ws} (h : LL K H zs) (s : Same H H2) : LL K H2 zs := fun z hz => s.seq (h z hz)
abbrev ilst (ns : List Int) : HO := .lst (ns.map V.int)
abbrev itup (ns : List Int) : HO := .tup (ns.map V.int)
/-- the price of a number on the line -/
def pw (pr : List Int) (c : Int) : Int := pr.getD (c % (pr.length : Int)).toNat 0
/-- the stays as the mathematics has them -/
def stOf (ss : Sp2) : Pl := ss.map fun s => (s.1, s.2.toNat)
def U (pr : List Int) (ss : Sp2) (d : Int) : Int := usum (pw pr) pr.length (stOf ss) d 3000
def sumsL (pr : List Int) : List Int := (List.range (pr.length + 1)).map fun i => (pr.take i).sum

theorem TL.nil {H : Hp} : TL H [] := fun z hz => by cases hz
theorem LL.nil {K : PySem.W.Frag} {H : Hp} : LL K H [] := fun z hz => by cases hz
theorem TL.push {H : Hp} {ys : Zs} {l t : Addr} {xs : List V} {o : HO} {a b : Int} (h : TL H ys) (hl : H l = some (.lst xs)) (nt : H t = none) : TL (upd (upd H t (.tup [.int a, .int b])) l o) (ys ++ [(t, a, b)]) := by
  have nlt : t ≠ l := (ne_of_none hl nt).symm
  intro z hz
  rcases List.mem_append.mp hz with hz | hz
  · have h1 := h z hz
    rw [upd_ne (ne_of h1 hl (fun e => by cases e)), upd_ne (ne_of_none h1 nt)]
    exact h1
  · rw [List.mem_singleton.mp hz]
    show upd (upd H t _) l o t = _
    rw [upd_ne nlt, upd_same]
theorem refT_snoc (ys : Zs) (t : Addr) (a b : Int) : refT ys ++ [V.ref t] = refT (ys ++ [(t, a, b)]) := by
  unfold refT
  rw [List.map_append]
  rfl
theorem refT_get {zs : Zs} {i : Nat} {x : V} (h : (refT zs)[i]? = some x) : ∃ z, zs[i]? = some z ∧ z ∈ zs ∧ x = .ref z.1 := by
  unfold refT at h
  rw [List.getElem?_map] at h
  cases e : zs[i]? with
  | none =>
    rw [e] at h
    cases h
  | some z =>
    rw [e] at h
    exact ⟨z, rfl, List.mem_of_getElem? e, (Option.some.inj h).symm⟩
theorem refL_get {zs : Ws} {i : Nat} {x : V} (h : (refL zs)[i]? = some x) : ∃ z, zs[i]? = some z ∧ z ∈ zs ∧ x = .ref z.1 := by
  unfold refL at h
  rw [List.getElem?_map] at h
  cases e : zs[i]? with
  | none =>
    rw [e] at h
    cases h
  | some z =>
    rw [e] at h
    exact ⟨z, rfl, List.mem_of_getElem? e, (Option.some.inj h).symm⟩
theorem prodL_snoc (ls : Ls) (l : List Int) : prodL (ls ++ [l]) = prodL ls * (l.length + 1) := by
  induction ls with
  | nil =>
    show (l.length + 1) * 1 = 1 * (l.length + 1)
    omega
  | cons x ls ih =>
    show (x.length + 1) * prodL (ls ++ [l]) = (x.length + 1) * prodL ls * (l.length + 1)
    rw [ih, Nat.mul_assoc]
theorem pw_at {pr : List Int} (h : 0 < pr.length) (c : Int) : atI (pr.map V.int) (c % (pr.length : Int)) = some (.int (pw pr c)) := by
  have h1 := Int.emod_nonneg c (show (pr.length : Int) ≠ 0 by omega)
  have h2 := Int.emod_lt_of_pos c (show (0 : Int) < (pr.length : Int) by omega)
  have e : c % (pr.length : Int) = ((c % (pr.length : Int)).toNat : Int) := by omega
  have hlt : (c % (pr.length : Int)).toNat < pr.length := by omega
  have g : (pr.map V.int)[(c % (pr.length : Int)).toNat]? = some (.int (pw pr c)) := by
    rw [List.getElem?_map, List.getElem?_eq_getElem hlt]
    unfold pw
    rw [List.getD_eq_getElem?_getD, List.getElem?_eq_getElem hlt]
    rfl
  rw [e]
  exact atI_nat g
theorem pw_mod (pr : List Int) (c : Int) : pw pr (c % (pr.length : Int)) = pw pr c := by
  unfold pw
  rw [Int.emod_emod]
theorem pw_per (pr : List Int) (c : Int) : pw pr (c + (pr.length : Int)) = pw pr c := by
  unfold pw
  rw [Int.add_emod_right]
theorem pw_nonneg {pr : List Int} (h : ∀ x ∈ pr, 1 ≤ x) (c : Int) : 0 ≤ pw pr c := by
  unfold pw
  rw [List.getD_eq_getElem?_getD]
  cases e : pr[(c % (pr.length : Int)).toNat]? with
  | none => exact Int.le_refl _
  | some x =>
    have := h x (List.mem_of_getElem? e)
    show 0 ≤ x
    omega
theorem stOf_mem {ss : Sp2} (h : ∀ s ∈ ss, 1 ≤ s.2) {P : Int → Int → Prop} : (∃ s ∈ stOf ss, P s.1 s.2) ↔ ∃ s ∈ ss, P s.1 s.2 := by
  constructor
  · rintro ⟨s, hs, hp⟩
    obtain ⟨t, ht, rfl⟩ := List.mem_map.mp hs
    have h1 := h t ht
    have e : ((t.2.toNat : Nat) : Int) = t.2 := by omega
    refine ⟨t, ht, ?_⟩
    have hp2 : P t.1 ((t.2.toNat : Nat) : Int) := hp
    rw [e] at hp2
    exact hp2
  · rintro ⟨t, ht, hp⟩
    have h1 := h t ht
    have e : ((t.2.toNat : Nat) : Int) = t.2 := by omega
    refine ⟨(t.1, t.2.toNat), List.mem_map_of_mem (f := fun s : Int × Int => (s.1, s.2.toNat)) ht, ?_⟩
    show P t.1 ((t.2.toNat : Nat) : Int)
    rw [e]
    exact hp
theorem yes_then {σ : L2.St} {H : Hp} {t e : Hp → Prop} (h : t H) : tYes σ H (fun b H3 => if b = true then t H3 else e H3) := by
  show (if true = true then t H else e H)
  rw [if_pos rfl]
  exact h
theorem max_if (i j : Int) : (if j > i then j else i) = max i j := by
  split <;> omega
theorem mem_le_prod : ∀ {ls : Ls} {l : List Int}, l ∈ ls → l.length + 1 ≤ prodL ls
  | x :: ls, l, h => by
    have hp := prodL_pos ls
    show l.length + 1 ≤ (x.length + 1) * prodL ls
    rcases List.mem_cons.mp h with e | e
    · rw [e]
      exact Nat.le_mul_of_pos_right _ hp
    · have h1 := mem_le_prod e
      exact Nat.le_trans h1 (Nat.le_mul_of_pos_left _ (Nat.succ_pos _))
theorem ixN_nat {n c : Nat} (h : c < n) : ixN n (c : Int) = some c := by
  unfold ixN
  rw [if_pos (by omega), if_pos (by omega)]
  rfl
theorem pw_sym {pr : List Int} {s : Int} (h0 : 0 ≤ s) (h1 : s < (pr.length : Int)) : atI (pr.map V.int) s = some (.int (pw pr s)) := by
  have h := pw_at (pr := pr) (by omega) s
  rw [Int.emod_eq_of_lt h0 h1] at h
  exact h
/-- the front's places from the j-th on are those of the rest -/
def Ahead (ls : Ls) (c j r : Nat) : Prop := ∀ m, (frontL (ls.drop j) r)[m]? = (frontL ls c)[j + m]?
theorem Ahead.zero (ls : Ls) (c : Nat) : Ahead ls c 0 c := fun m => by rw [List.drop_zero, Nat.zero_add]
theorem Ahead.step {ls : Ls} {c j r : Nat} {l : List Int} (h : Ahead ls c j r) (hl : ls[j]? = some l) : (frontL ls c)[j]? = some (r % (l.length + 1)) ∧ Ahead ls c (j + 1) (r / (l.length + 1)) := by
  have e : ls.drop j = l :: ls.drop (j + 1) := by
    have hlt := (List.getElem?_eq_some_iff.mp hl).1
    rw [List.drop_eq_getElem_cons hlt, (List.getElem?_eq_some_iff.mp hl).2]
  unfold Ahead at h
  rw [e] at h
  refine ⟨(h 0).symm, fun m => ?_⟩
  have h1 := h (m + 1)
  rw [Nat.add_assoc, Nat.add_comm 1 m]
  exact h1
theorem bump_pos {b : Int} {q : List Int} : ∀ (ls : Ls) (c s k : Nat), 0 < s → (restsL ls c)[k]? = some (b :: q) → 0 < bumpL b ls c s
  | [], _, _, _, _, h => by simp [restsL] at h
  | l :: ls, c, s, 0, hs, h => by
    have e : l.drop (c % (l.length + 1)) = b :: q := Option.some.inj h
    have hd : due l (c % (l.length + 1)) b = true := decide_eq_true (by
      have h2 := congrArg (fun z => z[0]?) e
      simpa using h2)
    show 0 < (if due l (c % (l.length + 1)) b = true then s else 0) + _
    rw [if_pos hd]
    omega
  | l :: ls, c, s, k + 1, hs, h => by
    have h1 := bump_pos ls (c / (l.length + 1)) (s * (l.length + 1)) k (Nat.mul_pos hs (Nat.succ_pos _)) h
    show 0 < _ + bumpL b ls (c / (l.length + 1)) (s * (l.length + 1))
    omega
theorem drop_at {ls : Ls} {j : Nat} {l : List Int} (h : ls[j]? = some l) : ls.drop j = l :: ls.drop (j + 1) := by
  have hlt := (List.getElem?_eq_some_iff.mp h).1
  rw [List.drop_eq_getElem_cons hlt, (List.getElem?_eq_some_iff.mp h).2]
theorem atI0 {xs : List V} {k : Nat} {v : V} (h : xs[k]? = some v) : atI xs (0 + (k : Int)) = some v := by
  rw [Int.zero_add]
  exact atI_nat h
def nmap (fs : List Nat) : List Int := fs.map fun f : Nat => (f : Int)
theorem nmap_get {fs : List Nat} {k f : Nat} (h : fs[k]? = some f) : ((nmap fs).map V.int)[k]? = some (.int (f : Int)) := by
  unfold nmap
  rw [List.getElem?_map, List.getElem?_map, h]
  rfl
theorem putF_new (f : Str) (v : V) : ∀ fs : List (Str × V), fs.lookup f = none → putF f v fs = fs ++ [(f, v)]
  | [], _ => rfl
  | (g, x) :: r, h => by
    rw [List.lookup_cons] at h
    cases e : (f == g) with
    | true =>
      rw [e] at h
      cases h
    | false =>
      rw [e] at h
      have ne : ¬ g = f := fun z => by
        rw [z, beq_self_eq_true] at e
        cases e
      show (if g = f then (g, v) :: r else (g, x) :: putF f v r) = _
      rw [if_neg ne, putF_new f v r h]
      rfl
/-- all but the object at r is as it was -/
def But (r : Addr) (H H2 : Hp) : Prop := ∀ c o, c ≠ r → H c = some o → H2 c = some o
theorem But.refl {r : Addr} {H : Hp} : But r H H := fun _ _ _ h => h
theorem But.new {r p : Addr} {H H2 : Hp} {o : HO} (h : But r H H2) (np : H2 p = none) : But r H (upd H2 p o) := fun c u n e => same_new np _ _ (h c u n e)
theorem But.own {r : Addr} {H H2 : Hp} {o : HO} (h : But r H H2) : But r H (upd H2 r o) := fun c u n e => by
  rw [upd_ne n]
  exact h c u n e
theorem But.then {r : Addr} {H H2 H3 : Hp} (h : But r H H2) (s : Same H2 H3) : But r H H3 := fun c u n e => s _ _ (h c u n e)
theorem But.seq {K : PySem.W.Frag} {r a C dx : Addr} {H H2 : Hp} {fs : List (Str × V)} {xs : List V} (h : But r H H2) (hr : H r = some (.ins C dx fs)) (hS : SqL K H a xs) : SqL K H2 a xs := by
  rcases hS with (e | ⟨o, e⟩) | e
  · exact .inl (.inl (h a _ (ne_of e hr (fun z => by cases z)) e))
  · exact .inl (.inr ⟨o, h a _ (ne_of e hr (fun z => by cases z)) e⟩)
  · exact .inr e
theorem TL.keep {H : Hp} {zs : Zs} {l : Addr} {xs : List V} {o : HO} (h : TL H zs) (hl : H l = some (.lst xs)) : TL (upd H l o) zs := fun z hz => by
  rw [upd_ne (ne_of (h z hz) hl (fun e => by cases e))]
  exact h z hz
theorem atIe {xs : List V} {i : Int} {k : Nat} {v : V} (h : xs[k]? = some v) (e : i = (k : Int)) : atI xs i = some v := by
  rw [e]
  exact atI_nat h
theorem at_mod {ds : List Int} (h : ds ≠ []) (x : Int) : ∃ d ∈ ds, atI (ds.map V.int) (x % ((ds.map V.int).length : Int)) = some (.int d) := by
  have hl : 0 < ds.length := List.length_pos_iff.mpr h
  rw [List.length_map]
  have h1 := Int.emod_nonneg x (show (ds.length : Int) ≠ 0 by omega)
  have h2 := Int.emod_lt_of_pos x (show (0 : Int) < (ds.length : Int) by omega)
  have hlt : (x % (ds.length : Int)).toNat < ds.length := by omega
  exact ⟨_, List.getElem_mem hlt, atIe (get_map (List.getElem?_eq_getElem hlt)) (by omega)⟩
theorem pstep_snoc (g : Sp2) (z q : Int × Int) : pstep (g ++ [z]) q = if q.1 ≤ z.2 then g ++ [(z.1, max q.2 z.2)] else g ++ [z] ++ [q] := by
  unfold pstep
  rw [List.getLast?_concat, List.dropLast_concat]
theorem perm_back {α β : Type} {f : α → β} {ys xs : List β} (p : ys.Perm xs) : ∀ l : List α, xs = l.map f → ∃ m : List α, m.Perm l ∧ ys = m.map f := by
  induction p with
  | nil => intro l h; exact ⟨l, List.Perm.refl _, h⟩
  | cons x p ih =>
    intro l h
    cases l with
    | nil => cases h
    | cons a l =>
      rw [List.map_cons] at h
      injection h with h1 h2
      obtain ⟨m, hm, e⟩ := ih l h2
      exact ⟨a :: m, hm.cons a, by rw [List.map_cons, ← e, h1]⟩
  | swap x y l0 =>
    intro l h
    cases l with
    | nil => cases h
    | cons a l =>
      cases l with
      | nil => cases h
      | cons b l =>
        rw [List.map_cons, List.map_cons] at h
        injection h with h1 h2
        injection h2 with h2 h3
        exact ⟨b :: a :: l, List.Perm.swap _ _ _, by rw [List.map_cons, List.map_cons, ← h1, ← h2, ← h3]⟩
  | trans _ _ ih1 ih2 =>
    intro l h
    obtain ⟨m, hm, e⟩ := ih2 l h
    obtain ⟨n, hn, e2⟩ := ih1 m e
    exact ⟨n, hn.trans hm, e2⟩
/-- the pair that a value stands for -/
def kOf (H : Hp) (v : V) : Int × Int := match v with
  | .ref t => (match H t with
    | some (.tup [.int a, .int b]) => (a, b)
    | _ => (0, 0))
  | _ => (0, 0)
theorem kOf_ref {H : Hp} {t : Addr} {a b : Int} (h : H t = some (.tup [.int a, .int b])) : kOf H (.ref t) = (a, b) := by
  show (match H t with
    | some (.tup [.int a, .int b]) => (a, b)
    | _ => (0, 0)) = (a, b)
  rw [h]
theorem TL.key {H : Hp} {zs : Zs} (h : TL H zs) {z : Addr × Int × Int} (hz : z ∈ zs) : kOf H (.ref z.1) = z.2 := by
  rw [kOf_ref (h z hz)]
theorem sorted_tl {K : PySem.W.Frag} {H : Hp} {a : Addr} {zs : Zs} {Q : VK} (hS : SqL K H a (refT zs)) (hT : TL H zs)
    (h : ∀ (ys : Zs) (p : Addr), ys.Perm zs → (ys.map (·.2)).Pairwise (fun a b => a.1 < b.1 ∨ a.1 = b.1 ∧ a.2 ≤ b.2) → H p = none → Q (.ref p) (upd H p (.lst (refT ys)))) : rSortedPO K [.ref a] H Q := by
  refine ⟨a, refT zs, kOf H, rfl, hS, fun x hx => ?_, fun ys p srt stb np => ?_⟩
  · obtain ⟨z, hz, rfl⟩ := List.mem_map.mp hx
    refine ⟨z.1, rfl, ?_⟩
    rw [hT.key hz]
    exact hT z hz
  · obtain ⟨m, hm, rfl⟩ := perm_back stb.perm zs rfl
    refine h m p hm ?_ np
    have hT2 : TL H m := fun z hz => hT z (hm.mem_iff.mp hz)
    have s2 := List.pairwise_map.mp srt
    refine List.pairwise_map.mpr ((List.Pairwise.and_mem.mp s2).imp ?_)
    rintro x y ⟨hx, hy, e⟩
    have e2 : ¬ SrtO.lexB (kOf H (.ref y.1)) (kOf H (.ref x.1)) = true := by
      have e3 : SrtO.lexB (kOf H (.ref y.1)) (kOf H (.ref x.1)) = false := e
      rw [e3]
      exact Bool.false_ne_true
    rw [hT2.key hx, hT2.key hy, SrtO.lexB_iff] at e2
    omega
end Fw

namespace Fw
open PySem PySem.Spec PyProof.Rows L2
/-- the law's def, its function object named ahead -/
theorem law_of {P : Program} {w : World} {K : PySem.W.Frag} {mg : Str → Option Value} {base : Heap} {k : Nat} {f : Addr} {N ps : List Str} {sp : Sp} {x q : Str} {pa : Arguments} {bd : List Stmt} {sc : Scope} {fd : FuncData}
    (F : FunD K x q pa bd sc [] [] f fd) (S : FnScope N ps sc) (len : ∀ vs H Q E, sp vs H Q E → vs.length = ps.length)
    (hbody : ∀ (cdv : Value) (A : Around) (outer : List Env) (s : Shared) (H : Hp) (vs : List V) (Q : VK) (E : XK), Room k (A.deeper (envOfC q sc s.heap.objs.size f cdv)) → sp vs H Q E →
      ∃ t, PSs (cxOf CX0 P w K mg base N q sc f cdv A outer s H E).nox bd t ∧ t { nx := fun _ H2 => Q .non H2, rt := Q } (start N vs) H) : FnOk P w K mg base CX0 (k + 1) f fd ps sp := by
  refine F.ok S len fun cdv A outer s H vs Q E hr h => ?_
  obtain ⟨t, h1, h2⟩ := hbody cdv A outer s H vs Q E hr h
  exact ⟨t, h1.nox, h2⟩
end Fw

/-! Three rules that fronts need: a display with one tuple as key, sorted by key=sum from above, min with default=. -/
namespace Fw
open PySem PySem.Spec PyProof.Rows L2
section
variable {X : Cx} {pos p p2 p3 kp1 kp2 : Pos} {k v e : Expr} {tk tv te : TE}
/-- {k: v} with a tuple for a key -/
def tDisp1T (tk tv : TE) : TE := fun σ H Q => ∀ d, H d = none → tk σ (upd H d (.dT [])) fun x H1 => tv σ H1 fun y H2 => H2 d = some (.dT []) ∧
  ∃ b ks, x = .ref b ∧ H2 b = some (.tup (ks.map kV)) ∧ Q (.ref d) (upd H2 d (.dT [(ks, y)]))
theorem pe_disp1T (hu : X.A.units + 1 < cLine) (hk : PE X k tk) (hv : PE X v tv) : PE X (.Dict [some k] [v] pos) (tDisp1T tk tv) := by
  refine ⟨fun pins s σ H Q I q => ?_⟩
  have hn := I.hok.fresh (Nat.le_refl s.heap.objs.size)
  have I1 := I.laid (a := s.heap.objs.size) (o := .dT []) (h' := s.heap.push { cls := .type "dict", data := .dict #[] }) (t' := s.toks) (fun _ _ q => Heap.get?_push_of_some _ q) (Nat.le_refl _) (dt_empty s.heap I.big)
  rw [arm_eval_Dict, zip_pairTrees [some k] [v] X.env pos rfl rfl, dictDisplay_pairs (pairTrees [some k] [v] X.env pos) (by intro h; cases h) (by show 1 < 17; decide)]
  refine wpAny_bind (wpAny_standAt (wpAny_bind (wpAny_subDictH (knd := tupleKind (mixKind X.prog X.w)) (show X.A.units < cLine by omega) (by show 1 ≤ 15; decide) ?_)))
  refine pairTrees_cons_walk (thn (hk.run pins _ σ _ _ I1 (q _ hn)) fun u s1 ⟨x, H1, I2, rx, q1⟩ => thn (hv.run pins s1 σ H1 _ I2 q1) fun u2 s2 ⟨y, H2, I3, ry, e, b, ks, ex, eb, q2⟩ => ?_)
  refine pairTrees_nil_walk ?_
  subst ex
  obtain rfl : u = Value.ref b := rx
  obtain ⟨z, hd, xs, rel, dd⟩ := dt_of I3.hok e
  cases rel
  refine ⟨[(ks, b, u2)], ⟨rfl, rfl, key_of I3.hok eb, True.intro⟩, dd, fun h' tk2 dd' hs => wpAny_pure ⟨.ref s.heap.objs.size, _, ?_, rfl, q2⟩⟩
  obtain ⟨o, es, ep, hq, h2, h3, h4, _, h5⟩ := dd'
  have ne : b ≠ s.heap.objs.size := ne_of eb e (fun z => nomatch z)
  refine d_write I3 (by rw [e]; exact True.intro) hs ⟨o, hq⟩ ⟨by show 1 ≤ sizeLine; decide, hd, _, .cons ⟨rfl, ?_, ry⟩ .nil, o, es, ep, hq, h2, h3, h4, h5⟩
  show upd H2 _ _ b = _
  rw [upd_ne ne]
  exact eb
end
section
variable {P : Program} {w : World} {A : Around} {E : Value → Shared → Prop} {s : Shared}
theorem sum_tup {t : Addr} {vs : List Value} {ns : List Int} {Q : Value → Shared → Prop} (hh : A.handled = none) (hl : s.heap.IsTuple t vs.toArray) (hi : IntsAre vs ns)
    (h : ∀ h' tk t', (∀ b o, s.heap.get? b = some o → h'.get? b = some o) → Q (.int ns.sum t') { s with heap := h', toks := tk }) : wpAny (model P w) A (call (.builtin "sum") [.ref t]) Q E s := by
  obtain ⟨xs, hx⟩ := hi.allInts.items
  have hn : numsOf vs.toArray.toList = ns := by rw [show vs.toArray.toList = vs from rfl, hi.numsOf]
  rw [hx] at hl hn
  rw [nums_intItems] at hn
  refine PySem.W.ktm_sumG hh hl fun h' tk t' hk => ?_
  have := h h' tk t' hk
  rw [preSum_eq, List.take_of_length_le (by simp), hn]
  exact this
end
section
variable {X : Cx} {pos p p2 p3 kp1 kp2 : Pos} {j : Nat} {e : Expr} {t : TA}
/-- sorted(xs, key=sum, reverse=True), xs a list of tuples of whole numbers -/
def rSortSum (K : PySem.W.Frag) : List V → Hp → VK → Prop := fun vs H Q => ∃ (a : Addr) (fs : List (Addr × List Int)), vs = [.ref a] ∧ SqL K H a (fs.map fun f => V.ref f.1) ∧ (∀ f ∈ fs, H f.1 = some (.tup (f.2.map V.int))) ∧
  ∀ (gs : List (Addr × List Int)) (p : Addr), gs.Perm fs → gs.Pairwise (fun f g => g.2.sum ≤ f.2.sum) → H p = none → Q (.ref p) (upd H p (.lst (gs.map fun f => V.ref f.1)))
def tSortSum (K : PySem.W.Frag) (t : TA) : TE := fun σ H Q => t σ H fun vs H1 => rSortSum K vs H1 Q
theorem refs_eq : ∀ (fs : List (Addr × List Int)) (us : List Value), Vals (fs.map fun f => V.ref f.1) us → us = fs.map fun f => Value.ref f.1
  | [], _, r => by
    cases r
    rfl
  | f :: fs, _, r => by
    cases r with
    | cons h t =>
      rw [refs_eq fs _ t]
      cases h
      rfl
theorem vals_refs : ∀ (fs : List (Addr × List Int)), Vals (fs.map fun f => V.ref f.1) (fs.map fun f => Value.ref f.1)
  | [] => .nil
  | f :: fs => .cons rfl (vals_refs fs)
theorem each_refs {R : Value → (Addr × List Int) → Prop} : ∀ (fs : List (Addr × List Int)), (∀ f ∈ fs, R (.ref f.1) f) → PySem.W.EachIs R (fs.map fun f => Value.ref f.1) fs
  | [], _ => .nil
  | f :: fs, h => .cons (h f (List.mem_cons_self ..)) (each_refs fs fun g hg => h g (List.mem_cons_of_mem _ hg))
theorem each_eq {R : Value → (Addr × List Int) → Prop} (hR : ∀ v f, R v f → v = .ref f.1) {out : List Value} {gs : List (Addr × List Int)} (h : PySem.W.EachIs R out gs) : out = gs.map fun f => Value.ref f.1 := by
  induction h with
  | nil => rfl
  | cons h t ih =>
    rw [List.map_cons, ← ih, hR _ _ h]
theorem pe_sortSum (hc : X.calm = true) (hu : X.A.units + 64 < cLine) (hg : Gl X "sorted") (hm : X.mg "sorted" = none) (hg2 : Gl X "sum") (hm2 : X.mg "sum" = none) (ha : PA X [e] t)
    (hst : backTo pos (starEach [e] X.env) = (false, eval e X.env) :: backTo pos (starEach [] X.env) := by rfl) (hpl : (backTo pos (starEach [e] X.env)).any (·.1) = false := by rfl) :
    PE X (.Call (.Name "sorted" p) [e] [⟨some "key", .Name "sum" p2, kp1⟩, ⟨some "reverse", .Constant (.bool true) j p3, kp2⟩] pos) (tSortSum X.K t) := by
  refine ⟨fun pins s σ H Q I h => ?_⟩
  have hv1 : bootBuiltins ("sorted" : Str) = some (.builtin "sorted") := by decide +kernel
  have hv2 : bootBuiltins ("sum" : Str) = some (.builtin "sum") := by decide +kernel
  refine wpAny_Call_Name_kw (ld_blt I hg hm hv1 ?_)
  refine PyProof.Rows.callWith_kw (thn (ha.run pos pins s σ H _ I h) fun us s1 ⟨vs, H1, I1, r1, q1⟩ => ?_) hst hpl rfl rfl
  show wpAny _ _ (evalAll ((do let v ← eval (.Name "sum" p2) X.env; standAt pos; pure v) :: (do let v ← eval (.Constant (.bool true) j p3) X.env; standAt pos; pure v) :: [])) _ _ s1
  refine wpAny_evalAll_cons (wpAny_bind (ld_blt I1 hg2 hm2 hv2 (wpAny_bind (wpAny_standAt (wpAny_pure ?_)))))
  refine wpAny_evalAll_cons (wpAny_bind (Constant_bool (wpAny_bind (wpAny_standAt (wpAny_pure ?_)))))
  refine wpAny_evalAll_nil ?_
  obtain ⟨a, fs, rfl, hS, hF, q⟩ := q1
  obtain rfl := Vals.ref1 r1
  obtain ⟨its, rv, hl, hz⟩ := I1.list hS
  obtain rfl := refs_eq fs its rv
  rw [List.length_map] at hz
  show wpAny _ _ (call (.builtin "sorted") [.ref a] [(Str.ofString "key", .builtin "sum"), (Str.ofString "reverse", .bool true)]) _ _ s1
  have hA : X.A.in1.in1.handled = none := (I1.ok.hd hc)
  refine PySem.W.sorted_key_data (β := Addr × List Int) (R := fun v f => v = .ref f.1 ∧ f ∈ fs) (b := true) (fun f => .int f.2.sum) hl.isList (each_refs fs fun f hf => ⟨rfl, hf⟩) ?al ?so hz ?hu (PyProof.Rows.ksk_s2 _ _ _) (fun _ => PyProof.Rows.ksk_l2 _ _ _) (fun x => PyProof.Rows.ksk_t5 "sum" x true) ?turn ?out
  case al =>
    intro d hd d2 hd2
    obtain ⟨f, _, rfl⟩ := List.mem_map.mp hd
    obtain ⟨g, _, rfl⟩ := List.mem_map.mp hd2
    rfl
  case so =>
    refine .inr fun d hd => (?_ : d ≠ PyData.none ∧ ∀ xs, d ≠ PyData.tuple xs)
    obtain ⟨f, _, rfl⟩ := List.mem_map.mp hd
    exact ⟨fun e => PyData.noConfusion e, fun xs e => PyData.noConfusion e⟩
  case hu =>
    intro f _
    show X.A.units + 2 + 0 < cLine
    omega
  case turn =>
    rintro v f ⟨rfl, hf⟩ hf2 h tk kp
    obtain ⟨_, its, rt, ht⟩ := (show ObjOk X.prog X.w H1 s1.heap f.1 (.tup (f.2.map V.int)) from I1.hok _ _ (hF f hf))
    refine sum_tup (s := { s1 with heap := h, toks := tk }) (vs := its) (ns := f.2) hA (IsTup.keeps ht kp) (ints_of_vals rt) fun h' tk2 t' k2 => ⟨h', tk2, rfl, k2, .int _ _⟩
  case out =>
    intro out c h' tk kp fr ho hlen hE
    obtain rfl := each_eq (fun v f h => h.1) hE
    refine ⟨.ref (s1.heap.objs.size + 1), upd H1 (s1.heap.objs.size + 1) (.lst ((fs.mergeSort (PySem.W.dataLe true fun f => .int f.2.sum)).map fun f => V.ref f.1)), I1.laid (t' := tk) kp (Nat.le_succ _) ⟨?_, _, c, vals_refs _, ho⟩, rfl, ?_⟩
    · rw [List.length_map, (List.mergeSort_perm fs _).length_eq]
      exact hz
    · refine q _ _ (List.mergeSort_perm fs _) ?_ (I1.hok.fresh (Nat.le_succ _))
      rw [PySem.W.dataGe_int]
      have := List.pairwise_mergeSort (le := fun (a b : Addr × List Int) => decide (b.2.sum ≤ a.2.sum)) (fun a b c h1 h2 => by
        have := of_decide_eq_true h1
        have := of_decide_eq_true h2
        exact decide_eq_true (by omega)) (fun a b => by
        by_cases h : b.2.sum ≤ a.2.sum
        · rw [decide_eq_true h]
          rfl
        · rw [decide_eq_true (show a.2.sum ≤ b.2.sum by omega), Bool.or_true]) fs
      exact this.imp fun h => of_decide_eq_true h
end
/-! min(xs, default=d) of whole numbers -/
theorem reads_all {h : Heap} : ∀ {ns : List Int} {us : List Value}, Vals (ns.map V.int) us → ReadsAll h us (ns.map PyData.int) []
  | [], _, r => by
    cases r
    exact .nil
  | n :: ns, _, r => by
    cases r with
    | cons h t =>
      obtain ⟨t', rfl⟩ := h
      exact ReadsAll.cons (as := []) (bs := []) (.int n t') (reads_all t)
theorem fold_min : ∀ (ns : List Int) (n : Int), ns.foldl min n ∈ n :: ns ∧ ∀ y ∈ n :: ns, ns.foldl min n ≤ y
  | [], n => ⟨List.mem_cons_self .., fun y hy => by
    rw [List.mem_singleton.mp hy]
    exact Int.le_refl _⟩
  | k :: ns, n => by
    obtain ⟨h1, h2⟩ := fold_min ns (min n k)
    have hm : min n k = n ∨ min n k = k := by omega
    have hle := h2 _ (List.mem_cons_self ..)
    refine ⟨?_, fun y hy => ?_⟩
    · show ns.foldl min (min n k) ∈ _
      rcases List.mem_cons.mp h1 with e | e
      · rw [e]
        rcases hm with e2 | e2
        · rw [e2]
          exact List.mem_cons_self ..
        · rw [e2]
          exact List.mem_cons_of_mem _ (List.mem_cons_self ..)
      · exact List.mem_cons_of_mem _ (List.mem_cons_of_mem _ e)
    · show ns.foldl min (min n k) ≤ y
      rcases List.mem_cons.mp hy with e | hy
      · omega
      · rcases List.mem_cons.mp hy with e | hy
        · omega
        · exact h2 y (List.mem_cons_of_mem _ hy)
def rMinD (K : PySem.W.Frag) : List V → List V → Hp → VK → Prop := fun vs zs H Q => ∃ (a : Addr) (ns : List Int) (d : Int), vs = [V.ref a] ∧ zs = [V.int d] ∧ SqL K H a (ns.map V.int) ∧ (ns = [] → Q (.int d) H) ∧ ∀ m ∈ ns, (∀ y ∈ ns, m ≤ y) → Q (.int m) H
theorem cr_minD {X : Cx} (hc : X.calm = true) (hu : X.A.units + 1 < cLine) : CallRK X (.builtin "min") [Str.ofString "default"] (rMinD X.K) := by
  intro pins s σ H vs zs us ws Q I r rz h
  obtain ⟨a, ns, d, rfl, rfl, hS, q0, q⟩ := h
  obtain rfl := Vals.ref1 r
  obtain ⟨w1, rfl, t1, rfl⟩ := vals1 rz
  obtain ⟨its, rv, hl, hz⟩ := I.list hS
  have dep : ∀ ns : List Int, PySem.PyData.depthAll (ns.map PyData.int) = 0 := fun ns => by
    induction ns with
    | nil => rfl
    | cons n ns ih =>
      show max (PyData.depth (.int n)) (PyData.depthAll (ns.map PyData.int)) = 0
      rw [ih]
      rfl
  show wpAny _ _ (call (.builtin "min") [.ref a] [(Str.ofString "default", .int d t1)]) _ _ s
  refine PySem.W.min_list_default (I.ok.hd hc) hl.isList (reads_all rv) ⟨?_, ?_⟩ ?_ (fun e h' tk k => ?_) (fun y ys i v h' tk bs e hv hr k => ?_)
  · intro x hx y hy
    obtain ⟨n, _, rfl⟩ := List.mem_map.mp hx
    obtain ⟨m, _, rfl⟩ := List.mem_map.mp hy
    rfl
  · intro x hx
    obtain ⟨n, _, rfl⟩ := List.mem_map.mp hx
    exact fun e => PyData.noConfusion e
  · rw [dep]
    omega
  · exact ⟨.int d, H, I.kept k, ⟨_, rfl⟩, q0 (List.map_eq_nil_iff.mp e)⟩
  · cases ns with
    | nil => cases e
    | cons n ns =>
      rw [List.map_cons] at e
      injection e with e1 e2
      subst e1 e2
      rw [PySem.W.minD_ints] at hr
      cases hr
      exact ⟨.int _, H, I.kept k, ⟨_, rfl⟩, q _ (fold_min ns n).1 (fold_min ns n).2⟩
theorem call_tuple_ofE {X : Cx} {K : PySem.W.Frag} (h : X.K = K) : CallR X (.type "tuple") (fun xs H Q => ∃ p ys, xs = [.ref p] ∧ ((SqL K H p ys ∧ ∀ l, H l = none → Q (.ref l) (upd H l (.tup ys))) ∨ (SqT K H p ys ∧ Q (.ref p) H))) := by
  subst h
  exact call_tuple_of
theorem call_list_ofE {X : Cx} {K : PySem.W.Frag} (h : X.K = K) : CallR X (.type "list") (fun xs H Q => ∃ p ys, xs = [.ref p] ∧ (SqL K H p ys ∨ SqT K H p ys) ∧ ∀ l, H l = none → Q (.ref l) (upd H l (.lst ys))) := by
  subst h
  exact call_list_of
end Fw

/-! Fronts of rows: where each row stands, what a step does, the least price from a front. -/
namespace Lay
abbrev Ft := List Nat
def rst : Ls → Ft → Ls
  | l :: ls, k :: f => l.drop k :: rst ls f
  | _, _ => []
def fstep (b : Int) : Ls → Ft → Ft
  | l :: ls, k :: f => (k + if due l k b = true then 1 else 0) :: fstep b ls f
  | _, _ => []
def FOk : Ls → Ft → Prop
  | [], [] => True
  | l :: ls, k :: f => k ≤ l.length ∧ FOk ls f
  | _, _ => False
/-- b is the next symbol of a row -/
def Sym : Ls → Ft → Int → Prop
  | l :: ls, k :: f, b => l[k]? = some b ∨ Sym ls f b
  | _, _, _ => False
def f0 (ls : Ls) : Ft := ls.map fun _ => 0
theorem FOk.len : ∀ {ls : Ls} {f : Ft}, FOk ls f → f.length = ls.length
  | [], [], _ => rfl
  | _ :: _, _ :: _, h => by rw [List.length_cons, List.length_cons, FOk.len h.2]
  | [], _ :: _, h => h.elim
  | _ :: _, [], h => h.elim
theorem FOk.zero : ∀ ls : Ls, FOk ls (f0 ls)
  | [] => trivial
  | l :: ls => ⟨Nat.zero_le _, FOk.zero ls⟩
theorem rst_zero : ∀ ls : Ls, rst ls (f0 ls) = ls
  | [] => rfl
  | l :: ls => by
    show l.drop 0 :: rst ls (f0 ls) = _
    rw [rst_zero ls]
    rfl
theorem rst_step (b : Int) : ∀ (ls : Ls) (f : Ft), rst ls (fstep b ls f) = (rst ls f).map (adv b)
  | l :: ls, k :: f => by
    show l.drop (k + if due l k b = true then 1 else 0) :: rst ls (fstep b ls f) = adv b (l.drop k) :: (rst ls f).map (adv b)
    rw [rst_step b ls f, drop_adv]
  | [], _ => rfl
  | _ :: _, [] => rfl
theorem FOk.step (b : Int) : ∀ {ls : Ls} {f : Ft}, FOk ls f → FOk ls (fstep b ls f)
  | [], [], _ => trivial
  | l :: ls, k :: f, h => by
    refine ⟨?_, FOk.step b h.2⟩
    have h1 := h.1
    split
    · rename_i e
      have := due_lt e
      omega
    · omega
  | [], _ :: _, h => h.elim
  | _ :: _, [], h => h.elim
theorem sum_step (b : Int) : ∀ {ls : Ls} {f : Ft}, FOk ls f → f.sum ≤ (fstep b ls f).sum ∧ (Sym ls f b → f.sum < (fstep b ls f).sum)
  | [], [], _ => ⟨Nat.le_refl _, fun h => h.elim⟩
  | l :: ls, k :: f, h => by
    obtain ⟨h1, h2⟩ := sum_step b h.2
    show (k :: f).sum ≤ ((k + if due l k b = true then 1 else 0) :: fstep b ls f).sum ∧ (_ → (k :: f).sum < ((k + if due l k b = true then 1 else 0) :: fstep b ls f).sum)
    rw [List.sum_cons, List.sum_cons]
    refine ⟨by split <;> omega, fun s => ?_⟩
    rcases s with s | s
    · rw [if_pos (show due l k b = true from decide_eq_true s)]
      omega
    · have := h2 s
      split <;> omega
  | [], _ :: _, h => h.elim
  | _ :: _, [], h => h.elim
theorem sum_le : ∀ {ls : Ls} {f : Ft}, FOk ls f → f.sum ≤ (ls.map List.length).sum
  | [], [], _ => Nat.le_refl _
  | l :: ls, k :: f, h => by
    have := sum_le h.2
    have := h.1
    rw [List.map_cons, List.sum_cons, List.sum_cons]
    omega
  | [], _ :: _, h => h.elim
  | _ :: _, [], h => h.elim
theorem sym_rest : ∀ {ls : Ls} {f : Ft} {b : Int}, Sym ls f b ↔ ∃ r ∈ rst ls f, ∃ q, r = b :: q
  | l :: ls, k :: f, b => by
    constructor
    · rintro (h | h)
      · have hlt := (List.getElem?_eq_some_iff.mp h).1
        refine ⟨l.drop k, List.mem_cons_self .., l.drop (k + 1), ?_⟩
        rw [List.drop_eq_getElem_cons hlt, (List.getElem?_eq_some_iff.mp h).2]
      · obtain ⟨r, hr, q, e⟩ := sym_rest.mp h
        exact ⟨r, List.mem_cons_of_mem _ hr, q, e⟩
    · rintro ⟨r, hr, q, e⟩
      rcases List.mem_cons.mp hr with h | h
      · left
        have h2 : (l.drop k)[0]? = some b := by rw [← h, e]; rfl
        rw [List.getElem?_drop] at h2
        simpa using h2
      · exact .inr (sym_rest.mpr ⟨r, h, q, e⟩)
  | [], _, b => ⟨fun h => h.elim, fun ⟨r, hr, _⟩ => nomatch hr⟩
  | _ :: _, [], b => ⟨fun h => h.elim, fun ⟨r, hr, _⟩ => nomatch hr⟩
theorem least_of {w : Int → Int} (hw : ∀ c, 0 ≤ w c) {ls : Ls} {f : Ft} {u : Int → Int} (L : ∀ b, Sym ls f b → Least w (rst ls (fstep b ls f)) (u b)) {v : Int}
    (h0 : (∀ b, ¬ Sym ls f b) → v = 0) (h1 : (∃ b, Sym ls f b) → ∃ b, Sym ls f b ∧ v = w b + u b) (h2 : ∀ b, Sym ls f b → v ≤ w b + u b) : Least w (rst ls f) v := by
  by_cases h : ∃ b, Sym ls f b
  · obtain ⟨b, hb, e⟩ := h1 h
    refine least_step hw ?_ ?_
    · obtain ⟨r, hr, q, e2⟩ := sym_rest.mp hb
      have := L b hb
      rw [rst_step] at this
      exact ⟨r, hr, b, q, u b, e2, this, e⟩
    · intro r hr b2 q e2
      have hs := sym_rest.mpr ⟨r, hr, q, e2⟩
      have := L b2 hs
      rw [rst_step] at this
      exact ⟨u b2, this, h2 b2 hs⟩
  · rw [h0 fun b hb => h ⟨b, hb⟩]
    refine least_end hw fun r hr => ?_
    cases r with
    | nil => rfl
    | cons b q => exact absurd ⟨b, sym_rest.mpr ⟨_, hr, q, rfl⟩⟩ h
/-- a code below the product, different for different fronts -/
def code : Ls → Ft → Nat
  | l :: ls, k :: f => k + (l.length + 1) * code ls f
  | _, _ => 0
theorem code_lt : ∀ {ls : Ls} {f : Ft}, FOk ls f → code ls f < prodL ls
  | [], [], _ => Nat.one_pos
  | l :: ls, k :: f, h => by
    have h1 := code_lt h.2
    have h2 := h.1
    show k + (l.length + 1) * code ls f < (l.length + 1) * prodL ls
    have h3 : (l.length + 1) * (code ls f + 1) ≤ (l.length + 1) * prodL ls := Nat.mul_le_mul_left _ h1
    rw [Nat.mul_add] at h3
    omega
  | [], _ :: _, h => h.elim
  | _ :: _, [], h => h.elim
theorem code_inj : ∀ {ls : Ls} {f g : Ft}, FOk ls f → FOk ls g → code ls f = code ls g → f = g
  | [], [], [], _, _, _ => rfl
  | l :: ls, k :: f, m :: g, hf, hg, e => by
    have e2 : k + (l.length + 1) * code ls f = m + (l.length + 1) * code ls g := e
    have h1 := hf.1
    have h2 := hg.1
    have a : (k + (l.length + 1) * code ls f) % (l.length + 1) = k := by
      rw [Nat.add_mul_mod_self_left, Nat.mod_eq_of_lt (by omega)]
    have b : (m + (l.length + 1) * code ls g) % (l.length + 1) = m := by
      rw [Nat.add_mul_mod_self_left, Nat.mod_eq_of_lt (by omega)]
    have km : k = m := by rw [← a, e2, b]
    subst km
    have e3 : (l.length + 1) * code ls f = (l.length + 1) * code ls g := by omega
    have e4 := Nat.eq_of_mul_eq_mul_left (Nat.succ_pos _) e3
    rw [code_inj hf.2 hg.2 e4]
  | [], _ :: _, _, h, _, _ => h.elim
  | [], [], _ :: _, _, h, _ => h.elim
  | _ :: _, [], _, h, _, _ => h.elim
  | _ :: _, _ :: _, [], _, h, _ => h.elim
theorem nodup_lt : ∀ (n : Nat) (l : List Nat), l.Nodup → (∀ x ∈ l, x < n) → l.length ≤ n
  | 0, l, _, h => by
    cases l with
    | nil => exact Nat.le_refl _
    | cons x l => exact absurd (h x (List.mem_cons_self ..)) (Nat.not_lt_zero _)
  | n + 1, l, nd, h => by
    have h1 := nodup_lt n (l.erase n) (nd.erase n) fun x hx => by
      have h2 := h x (List.mem_of_mem_erase hx)
      have h3 : x ≠ n := fun e => by
        rw [e] at hx
        exact (nd.not_mem_erase) hx
      omega
    have h4 := List.length_erase_le (a := n) (l := l)
    have h5 : l.length ≤ (l.erase n).length + 1 := by
      rw [List.length_erase]
      split <;> omega
    omega
theorem few_fronts {ls : Ls} {fs : List Ft} (nd : fs.Nodup) (ok : ∀ f ∈ fs, FOk ls f) : fs.length ≤ prodL ls := by
  have h1 : (fs.map (code ls)).Nodup := by
    refine List.pairwise_map.mpr ((List.Pairwise.and_mem.mp nd).imp ?_)
    rintro f g ⟨hf, hg, ne⟩ e
    exact ne (code_inj (ok f hf) (ok g hg) e)
  have h2 := nodup_lt (prodL ls) _ h1 fun x hx => by
    obtain ⟨f, hf, rfl⟩ := List.mem_map.mp hx
    exact code_lt (ok f hf)
  rw [List.length_map] at h2
  exact h2
end Lay

/-! Fronts by place; keys of dicts. -/
namespace Lay
theorem step_len (b : Int) : ∀ {ls : Ls} {f : Ft}, FOk ls f → (fstep b ls f).length = ls.length := fun h => (h.step b).len
theorem step_get (b : Int) : ∀ {ls : Ls} {f : Ft} {j : Nat} {l : List Int} {k : Nat}, ls[j]? = some l → f[j]? = some k → (fstep b ls f)[j]? = some (k + if due l k b = true then 1 else 0)
  | l0 :: ls, k0 :: f, 0, l, k, h1, h2 => by
    obtain rfl := Option.some.inj h1
    obtain rfl := Option.some.inj h2
    rfl
  | l0 :: ls, k0 :: f, j + 1, l, k, h1, h2 => step_get b (ls := ls) (f := f) (j := j) h1 h2
  | [], _, _, _, _, h1, _ => by simp at h1
  | _ :: _, [], _, _, _, _, h2 => by simp at h2
theorem sym_get : ∀ {ls : Ls} {f : Ft} {b : Int}, Sym ls f b ↔ ∃ (j : Nat) (l : List Int) (k : Nat), ls[j]? = some l ∧ f[j]? = some k ∧ l[k]? = some b
  | l0 :: ls, k0 :: f, b => by
    constructor
    · rintro (h | h)
      · exact ⟨0, l0, k0, rfl, rfl, h⟩
      · obtain ⟨j, l, k, h1, h2, h3⟩ := sym_get.mp h
        exact ⟨j + 1, l, k, h1, h2, h3⟩
    · rintro ⟨j, l, k, h1, h2, h3⟩
      cases j with
      | zero =>
        obtain rfl := Option.some.inj h1
        obtain rfl := Option.some.inj h2
        exact .inl h3
      | succ j => exact .inr (sym_get.mpr ⟨j, l, k, h1, h2, h3⟩)
  | [], f, b => ⟨fun h => h.elim, fun ⟨j, l, k, h1, _⟩ => by simp at h1⟩
  | _ :: _, [], b => ⟨fun h => h.elim, fun ⟨j, l, k, _, h2, _⟩ => by simp at h2⟩
theorem FOk.at : ∀ {ls : Ls} {f : Ft} {j : Nat} {l : List Int}, FOk ls f → ls[j]? = some l → ∃ k, f[j]? = some k ∧ k ≤ l.length
  | l0 :: ls, k0 :: f, 0, l, h, h1 => by
    obtain rfl := Option.some.inj h1
    exact ⟨k0, rfl, h.1⟩
  | l0 :: ls, k0 :: f, j + 1, l, h, h1 => FOk.at (ls := ls) (f := f) (j := j) h.2 h1
  | [], _, _, _, _, h1 => by simp at h1
  | _ :: _, [], _, _, h, _ => h.elim
/-- the step of b, done in the first i rows -/
def pfs (b : Int) (ls : Ls) (f : Ft) (i : Nat) : Ft := (fstep b ls f).take i ++ f.drop i
def SymB (ls : Ls) (f : Ft) (i : Nat) (b : Int) : Prop := ∃ (j : Nat) (l : List Int) (k : Nat), j < i ∧ ls[j]? = some l ∧ f[j]? = some k ∧ l[k]? = some b
theorem pfs_len {b : Int} {ls : Ls} {f : Ft} (h : FOk ls f) (i : Nat) : (pfs b ls f i).length = ls.length := by
  have h1 := h.len
  have h2 := step_len b h
  unfold pfs
  rw [List.length_append, List.length_take, List.length_drop]
  omega
theorem pfs_get {b : Int} {ls : Ls} {f : Ft} (h : FOk ls f) (i j : Nat) : (pfs b ls f i)[j]? = if j < i then (fstep b ls f)[j]? else f[j]? := by
  have h1 := h.len
  have h2 := step_len b h
  unfold pfs
  by_cases hj : j < i
  · rw [if_pos hj]
    by_cases h3 : j < (fstep b ls f).length
    · rw [List.getElem?_append_left (by rw [List.length_take]; omega), List.getElem?_take, if_pos hj]
    · rw [List.getElem?_eq_none (by rw [List.length_append, List.length_take, List.length_drop]; omega), List.getElem?_eq_none (by omega)]
  · rw [if_neg hj]
    by_cases h3 : j < f.length
    · rw [List.getElem?_append_right (by rw [List.length_take]; omega), List.length_take, List.getElem?_drop]
      congr 1
      omega
    · rw [List.getElem?_eq_none (by rw [List.length_append, List.length_take, List.length_drop]; omega), List.getElem?_eq_none (by omega)]
theorem pfs_fresh {b : Int} {ls : Ls} {f : Ft} (h : FOk ls f) {i : Nat} (hn : ¬ SymB ls f i b) : pfs b ls f i = f := by
  refine List.ext_getElem? fun j => ?_
  rw [pfs_get h]
  split
  · rename_i hj
    by_cases hl : j < ls.length
    · obtain ⟨k, hk, _⟩ := h.at (List.getElem?_eq_getElem hl)
      rw [step_get b (List.getElem?_eq_getElem hl) hk, if_neg, hk]
      · rfl
      · exact fun e => hn ⟨j, _, k, hj, List.getElem?_eq_getElem hl, hk, of_decide_eq_true e⟩
    · have h1 := h.len
      have h2 := step_len b h
      rw [List.getElem?_eq_none (by omega), List.getElem?_eq_none (by omega)]
  · rfl
theorem pfs_due {b : Int} {ls : Ls} {f : Ft} (h : FOk ls f) {i k : Nat} {l : List Int} (hl : ls[i]? = some l) (hk : f[i]? = some k) (e : l[k]? = some b) : (pfs b ls f i).set i (k + 1) = pfs b ls f (i + 1) := by
  have hi := (List.getElem?_eq_some_iff.mp hl).1
  refine List.ext_getElem? fun j => ?_
  rw [List.getElem?_set, pfs_get h, pfs_get h, pfs_len h]
  by_cases hj : i = j
  · subst hj
    rw [if_pos rfl, if_pos hi, if_pos (Nat.lt_succ_self _), step_get b hl hk, if_pos (show due l k b = true from decide_eq_true e)]
  · rw [if_neg hj]
    by_cases h2 : j < i
    · rw [if_pos h2, if_pos (by omega)]
    · rw [if_neg h2, if_neg (by omega)]
theorem pfs_other {b : Int} {ls : Ls} {f : Ft} (h : FOk ls f) {i k : Nat} {l : List Int} (hl : ls[i]? = some l) (hk : f[i]? = some k) (e : ¬ l[k]? = some b) : pfs b ls f i = pfs b ls f (i + 1) := by
  refine List.ext_getElem? fun j => ?_
  rw [pfs_get h, pfs_get h]
  by_cases hj : j = i
  · subst hj
    rw [if_neg (Nat.lt_irrefl _), if_pos (Nat.lt_succ_self _), step_get b hl hk, if_neg (show ¬ due l k b = true from fun z => e (of_decide_eq_true z)), hk]
    rfl
  · by_cases h2 : j < i
    · rw [if_pos h2, if_pos (by omega)]
    · rw [if_neg h2, if_neg (by omega)]
theorem pfs_end {b : Int} {ls : Ls} {f : Ft} (h : FOk ls f) : pfs b ls f ls.length = fstep b ls f := by
  refine List.ext_getElem? fun j => ?_
  rw [pfs_get h]
  have h1 := h.len
  have h2 := step_len b h
  by_cases hj : j < ls.length
  · rw [if_pos hj]
  · rw [if_neg hj, List.getElem?_eq_none (by omega), List.getElem?_eq_none (by omega)]
theorem symB_end {b : Int} {ls : Ls} {f : Ft} : SymB ls f ls.length b ↔ Sym ls f b := by
  rw [sym_get]
  constructor
  · rintro ⟨j, l, k, _, h⟩
    exact ⟨j, l, k, h⟩
  · rintro ⟨j, l, k, h⟩
    exact ⟨j, l, k, (List.getElem?_eq_some_iff.mp h.1).1, h⟩
theorem symB_succ {b : Int} {ls : Ls} {f : Ft} {i k : Nat} {l : List Int} (hl : ls[i]? = some l) (hk : f[i]? = some k) : SymB ls f (i + 1) b ↔ SymB ls f i b ∨ l[k]? = some b := by
  constructor
  · rintro ⟨j, m, n, hj, h1, h2, h3⟩
    by_cases e : j = i
    · subst e
      rw [hl] at h1
      rw [hk] at h2
      obtain rfl := Option.some.inj h1
      obtain rfl := Option.some.inj h2
      exact .inr h3
    · exact .inl ⟨j, m, n, by omega, h1, h2, h3⟩
  · rintro (⟨j, m, n, hj, h⟩ | h)
    · exact ⟨j, m, n, by omega, h⟩
    · exact ⟨i, l, k, Nat.lt_succ_self _, hl, hk, h⟩
end Lay
namespace Fw
open PySem PySem.Spec PyProof.Rows L2 Lay
/-- a front as a dict's key -/
def fkey (f : Ft) : List L2.Key := (nmap f).map Sum.inl
theorem fkey_kV (f : Ft) : (fkey f).map kV = (nmap f).map V.int := by
  unfold fkey
  rw [List.map_map]
  rfl
theorem nmap_inj {f g : Ft} (h : nmap f = nmap g) : f = g := by
  unfold nmap at h
  induction f generalizing g with
  | nil =>
    cases g with
    | nil => rfl
    | cons k g => cases h
  | cons k f ih =>
    cases g with
    | nil => cases h
    | cons m g =>
      rw [List.map_cons, List.map_cons] at h
      injection h with h1 h2
      rw [ih h2, Int.ofNat.inj h1]
theorem fkey_inj {f g : Ft} (h : fkey f = fkey g) : f = g := by
  refine nmap_inj ?_
  have h2 := congrArg (List.map (fun k : L2.Key => (match k with | .inl i => i | .inr _ => 0))) h
  unfold fkey at h2
  rw [List.map_map, List.map_map] at h2
  exact (List.map_id (nmap f)).symm.trans (h2.trans (List.map_id (nmap g)))
/-- pairs of a symbol and a front -/
abbrev Ps := List (Addr × Int × Addr)
abbrev refP (ps : Ps) : List V := ps.map fun q => V.ref q.1
def PsOk (H : Hp) (ls : Ls) (f : Ft) (ps : Ps) : Prop := (∀ q ∈ ps, H q.1 = some (.tup [.int q.2.1, .ref q.2.2]) ∧ H q.2.2 = some (itup (nmap (fstep q.2.1 ls f)))) ∧ ∀ b, b ∈ ps.map (·.2.1) ↔ Sym ls f b
abbrev Fs := List (Addr × Ft)
abbrev refF (fs : Fs) : List V := fs.map fun q => V.ref q.1
def FsOk (H : Hp) (ls : Ls) (fs : Fs) : Prop := (∀ q ∈ fs, H q.1 = some (itup (nmap q.2)) ∧ FOk ls q.2) ∧ (fs.map (·.2)).Nodup
/-- heights of fronts, in a dict -/
def Hts (w : Int → Int) (ls : Ls) (kvs : List (List L2.Key × V)) (f : Ft) : Prop := ∃ v, valV kvs (fkey f) = some (.int v) ∧ Least w (rst ls f) v
def SyOk (n : Nat) (ls : Ls) : Prop := ∀ l ∈ ls, ∀ s ∈ l, 0 ≤ s ∧ s < (n : Int)
/-- symbols and the lists of their moved fronts, as a dict -/
abbrev Ms := List (Int × Addr)
def kvM (ms : Ms) : List (L2.Key × V) := ms.map fun q => (Sum.inl q.1, V.ref q.2)
theorem kvM_none : ∀ {ms : Ms} {b : Int}, ¬ b ∈ ms.map (·.1) → valV (kvM ms) (Sum.inl b) = none
  | [], _, _ => rfl
  | q :: ms, b, h => by
    rw [List.map_cons, List.mem_cons, not_or] at h
    show valV ((Sum.inl q.1, V.ref q.2) :: kvM ms) (Sum.inl b) = none
    rw [valV_neg (fun e => h.1 (Sum.inl.inj e).symm)]
    exact kvM_none h.2
theorem kvM_some : ∀ {ms : Ms} {q : Int × Addr}, (ms.map (·.1)).Nodup → q ∈ ms → valV (kvM ms) (Sum.inl q.1) = some (.ref q.2)
  | m :: ms, q, nd, h => by
    rw [List.map_cons, List.nodup_cons] at nd
    show valV ((Sum.inl m.1, V.ref m.2) :: kvM ms) (Sum.inl q.1) = _
    rcases List.mem_cons.mp h with e | h
    · subst e
      exact valV_pos rfl
    · have hne : m.1 ≠ q.1 := fun e => nd.1 (by rw [e]; exact List.mem_map_of_mem (f := fun z : Int × Addr => z.1) h)
      rw [valV_neg (fun e => hne (Sum.inl.inj e))]
      exact kvM_some nd.2 h
theorem kvM_keys (ms : Ms) : (kvM ms).map (·.1) = (ms.map (·.1)).map Sum.inl := by
  unfold kvM
  rw [List.map_map, List.map_map]
  rfl
theorem nmap_set (f : Ft) (i k : Nat) : ((nmap f).map V.int).set i (.int (k : Int)) = (nmap (f.set i k)).map V.int := by
  unfold nmap
  rw [List.map_set, List.map_set]
theorem prodL_take : ∀ (ls : Ls) (i : Nat), prodL (ls.take i) ≤ prodL ls
  | [], i => by rw [List.take_nil]; exact Nat.le_refl _
  | l :: ls, 0 => prodL_pos (l :: ls)
  | l :: ls, i + 1 => Nat.mul_le_mul_left _ (prodL_take ls i)
/-- known fronts, as a dict -/
def kvF (fs : Fs) : List (List L2.Key × V) := fs.map fun q => (fkey q.2, V.bl true)
theorem kvF_none : ∀ {fs : Fs} {f : Ft}, ¬ f ∈ fs.map (·.2) → valV (kvF fs) (fkey f) = none
  | [], _, _ => rfl
  | q :: fs, f, h => by
    rw [List.map_cons, List.mem_cons, not_or] at h
    show valV ((fkey q.2, V.bl true) :: kvF fs) (fkey f) = none
    rw [valV_neg (fun e => h.1 (fkey_inj e).symm)]
    exact kvF_none h.2
theorem kvF_some : ∀ {fs : Fs} {f : Ft}, f ∈ fs.map (·.2) → valV (kvF fs) (fkey f) = some (.bl true)
  | [], _, h => nomatch h
  | q :: fs, f, h => by
    show valV ((fkey q.2, V.bl true) :: kvF fs) (fkey f) = _
    by_cases e : q.2 = f
    · exact valV_pos (by rw [← e])
    · rw [valV_neg (fun z => e (fkey_inj z))]
      rcases List.mem_cons.mp h with h | h
      · exact absurd h.symm e
      · exact kvF_some h
def But2 (l d : Addr) (H H2 : Hp) : Prop := ∀ c o, c ≠ l → c ≠ d → H c = some o → H2 c = some o
theorem tup_key {H : Hp} {t : Addr} {f : Ft} (h : H t = some (itup (nmap f))) : H t = some (.tup ((fkey f).map kV)) := by
  rw [fkey_kV]
  exact h
theorem pw_pos {pr : List Int} (h0 : 0 < pr.length) (h : ∀ x ∈ pr, 1 ≤ x) (c : Int) : 1 ≤ pw pr c := by
  have h1 := Int.emod_nonneg c (show (pr.length : Int) ≠ 0 by omega)
  have h2 := Int.emod_lt_of_pos c (show (0 : Int) < (pr.length : Int) by omega)
  have hlt : (c % (pr.length : Int)).toNat < pr.length := by omega
  unfold pw
  rw [List.getD_eq_getElem?_getD, List.getElem?_eq_getElem hlt]
  exact h _ (List.getElem_mem hlt)
theorem cost_long {w : Int → Int} (hw : ∀ c, 1 ≤ w c) : ∀ T : List Int, (T.length : Int) ≤ cost w T
  | [] => Int.le_refl _
  | t :: T => by
    have h1 := cost_long hw T
    have h2 := hw t
    rw [cost_cons, List.length_cons]
    omega
/-- a front from which something is left to pay has a step that the height follows -/
theorem least_follow {w : Int → Int} (hw : ∀ c, 0 ≤ w c) {ls : Ls} {f : Ft} {u : Int → Int} (L : ∀ b, Sym ls f b → Least w (rst ls (fstep b ls f)) (u b)) {v : Int} (hL : Least w (rst ls f) v) (hv : 0 < v)
    {bs : List Int} (hbs : ∀ b, b ∈ bs ↔ Sym ls f b) : ∃ b, Sym ls f b ∧ v = w b + u b := by
  cases bs with
  | nil =>
    have h1 : Least w (rst ls f) 0 := least_of hw L (fun _ => rfl) (fun ⟨b, hb⟩ => nomatch (hbs b).mpr hb) (fun b hb => nomatch (hbs b).mpr hb)
    have := h1.eq hL
    omega
  | cons b0 bs =>
    have h1 : ∀ cs : List Int, ∃ m ∈ b0 :: cs, ∀ b ∈ b0 :: cs, w m + u m ≤ w b + u b := fun cs => by
      induction cs with
      | nil => exact ⟨b0, List.mem_cons_self .., fun b hb => by rw [List.mem_singleton.mp hb]; exact Int.le_refl _⟩
      | cons c cs ih =>
        obtain ⟨m, hm, hle⟩ := ih
        by_cases e : w m + u m ≤ w c + u c
        · refine ⟨m, ?_, fun b hb => ?_⟩
          · rcases List.mem_cons.mp hm with h | h
            · rw [h]
              exact List.mem_cons_self ..
            · exact List.mem_cons_of_mem _ (List.mem_cons_of_mem _ h)
          · rcases List.mem_cons.mp hb with h | h
            · exact hle b (by rw [h]; exact List.mem_cons_self ..)
            · rcases List.mem_cons.mp h with h | h
              · rw [h]
                exact e
              · exact hle b (List.mem_cons_of_mem _ h)
        · refine ⟨c, List.mem_cons_of_mem _ (List.mem_cons_self ..), fun b hb => ?_⟩
          rcases List.mem_cons.mp hb with h | h
          · have := hle b (by rw [h]; exact List.mem_cons_self ..)
            omega
          · rcases List.mem_cons.mp h with h | h
            · rw [h]
              exact Int.le_refl _
            · have := hle b (List.mem_cons_of_mem _ h)
              omega
    obtain ⟨m, hm, hle⟩ := h1 bs
    have hs := (hbs m).mp hm
    have h2 : Least w (rst ls f) (w m + u m) := least_of hw L (fun hn => absurd hs (hn m)) (fun _ => ⟨m, hs, rfl⟩) (fun b hb => hle b ((hbs b).mpr hb))
    exact ⟨m, hs, hL.eq h2⟩
theorem rows_sum : ∀ {zs : Ws}, (∀ z ∈ zs, z.2.length ≤ 1000) → ((zs.map (·.2)).map List.length).sum ≤ 1000 * zs.length
  | [], _ => Nat.le_refl _
  | z :: zs, h => by
    have h1 := rows_sum (zs := zs) fun x hx => h x (List.mem_cons_of_mem _ hx)
    have h2 := h z (List.mem_cons_self ..)
    rw [List.map_cons, List.map_cons, List.sum_cons, List.length_cons]
    omega
end Fw

/-! Lists of lists of whole numbers, compared place by place. -/
namespace Fw
open PySem PySem.Spec PyProof.Rows L2 Lay
def dI (ns : List Int) : PyData := .list (ns.map PyData.int)
def dL (ls : Ls) : PyData := .list (ls.map dI)
theorem lay_ints : ∀ ns : List Int, PyData.canLayAll0 (ns.map PyData.int) = true
  | [] => rfl
  | n :: ns => by
    show (PyData.canLay0 (.int n) && PyData.canLayAll0 (ns.map PyData.int)) = true
    rw [lay_ints ns]
    rfl
theorem lay_rows : ∀ ls : Ls, PyData.canLayAll0 (ls.map dI) = true
  | [] => rfl
  | l :: ls => by
    show (PyData.canLayAll0 (l.map PyData.int) && PyData.canLayAll0 (ls.map dI)) = true
    rw [lay_rows ls, lay_ints l]
    rfl
theorem dep_ints : ∀ ns : List Int, PyData.depthAll (ns.map PyData.int) = 0
  | [] => rfl
  | n :: ns => by
    show max (PyData.depth (.int n)) (PyData.depthAll (ns.map PyData.int)) = 0
    rw [dep_ints ns]
    rfl
theorem dep_rows : ∀ ls : Ls, PyData.depthAll (ls.map dI) ≤ 1
  | [] => Nat.zero_le _
  | l :: ls => by
    show max (PyData.depthAll (l.map PyData.int) + 1) (PyData.depthAll (ls.map dI)) ≤ 1
    have := dep_rows ls
    rw [dep_ints l]
    omega
theorem dI_shaped (ns : List Int) : SeqAt.shaped (dI ns) = true := by
  show (PyData.canLayAll0 (ns.map PyData.int) && decide (PyData.depthAll (ns.map PyData.int) + 1 ≤ 64)) = true
  rw [lay_ints, dep_ints]
  rfl
theorem dL_shaped (ls : Ls) : SeqAt.shaped (dL ls) = true := by
  show (PyData.canLayAll0 (ls.map dI) && decide (PyData.depthAll (ls.map dI) + 1 ≤ 64)) = true
  have := dep_rows ls
  rw [lay_rows, decide_eq_true (by omega)]
  rfl
theorem dI_eqv (ns : List Int) : PyData.eqv (dI ns) (dI ns) = true := SeqAt.eqv_refl _ (SeqAt.canLay_of_shaped (dI_shaped ns))
theorem dL_eqv (ls : Ls) : PyData.eqv (dL ls) (dL ls) = true := SeqAt.eqv_refl _ (SeqAt.canLay_of_shaped (dL_shaped ls))
theorem dp_ints {K : PySem.W.Frag} {H : Hp} : ∀ ns : List Int, DpAll K H (ns.map V.int) (ns.map PyData.int)
  | [] => .nil
  | n :: ns => .cons (.int n) (dp_ints ns)
theorem dp_row {K : PySem.W.Frag} {H : Hp} {a : Addr} {ns : List Int} (h : SqL K H a (ns.map V.int)) : Dp K H (.ref a) (dI ns) := .lst h (dp_ints ns)
theorem dp_rows {K : PySem.W.Frag} {H : Hp} : ∀ {zs : Ws}, LL K H zs → DpAll K H (refL zs) ((zs.map (·.2)).map dI)
  | [], _ => .nil
  | z :: zs, h => .cons (dp_row (h z (List.mem_cons_self ..))) (dp_rows fun x hx => h x (List.mem_cons_of_mem _ hx))
theorem dp_list {K : PySem.W.Frag} {H : Hp} {a : Addr} {zs : Ws} (hs : SqL K H a (refL zs)) (h : LL K H zs) : Dp K H (.ref a) (dL (zs.map (·.2))) := .lst hs (dp_rows h)
end Fw

namespace K57
open PySem PySem.Spec PyProof.Rows L2 Fw
def top (i : Nat) : Stmt := PySem.Challenge.pw_foreworth_k57_whole_least_two_ways.main.body.getD i (.Pass ⟨0, 0, 0, 0⟩)
abbrev s_check_fronts : Stmt := top 8
abbrev s_zeros : Stmt := top 9
abbrev s_steps : Stmt := top 10
abbrev s_reachable : Stmt := top 11
abbrev s_height : Stmt := top 12
abbrev s_front_heights : Stmt := top 13
abbrev s_least_row : Stmt := top 14
abbrev s_distinct : Stmt := top 16
abbrev s_Ring_init : Stmt := inClass (top 18) 0
abbrev s_Ring_whole : Stmt := inClass (top 18) 1
abbrev s_check_ring : Stmt := top 19
abbrev s_sums_of : Stmt := top 20
abbrev s_check_stays : Stmt := top 22
abbrev s_laid : Stmt := top 23
abbrev s_pieces : Stmt := top 24
abbrev s_piece_price : Stmt := top 25
abbrev s_laid_price : Stmt := top 26
abbrev s_least_laying : Stmt := top 27
abbrev s_l_cell : Stmt := top 29
abbrev s_l_digits : Stmt := top 30
abbrev s_l_seed : Stmt := top 31
abbrev s_l_union : Stmt := top 32
abbrev s_l_least_ring : Stmt := top 33
abbrev s_l_prefix : Stmt := top 34
abbrev s_l_is_int : Stmt := top 35
abbrev s_l_ints : Stmt := top 36
abbrev s_l_whole : Stmt := top 37
abbrev s_l_few_runs : Stmt := top 38
abbrev s_l_prices : Stmt := top 39
abbrev s_l_gates : Stmt := top 40
abbrev s_l_drawn : Stmt := top 41
abbrev s_law : Stmt := top 42
def d_check_fronts : He.DefD := ⟨("check_fronts", none), "check_fronts", "check_fronts", defArgs s_check_fronts, defBody s_check_fronts, defScope s_check_fronts, [], []⟩
def d_zeros : He.DefD := ⟨("zeros", none), "zeros", "zeros", defArgs s_zeros, defBody s_zeros, defScope s_zeros, [], []⟩
def d_steps : He.DefD := ⟨("steps", none), "steps", "steps", defArgs s_steps, defBody s_steps, defScope s_steps, [], []⟩
def d_reachable : He.DefD := ⟨("reachable", none), "reachable", "reachable", defArgs s_reachable, defBody s_reachable, defScope s_reachable, [], []⟩
def d_height : He.DefD := ⟨("height", none), "height", "height", defArgs s_height, defBody s_height, defScope s_height, [], []⟩
def d_front_heights : He.DefD := ⟨("front_heights", none), "front_heights", "front_heights", defArgs s_front_heights, defBody s_front_heights, defScope s_front_heights, [], []⟩
def d_least_row : He.DefD := ⟨("least_row", none), "least_row", "least_row", defArgs s_least_row, defBody s_least_row, defScope s_least_row, [], []⟩
def d_distinct : He.DefD := ⟨("distinct", none), "distinct", "distinct", defArgs s_distinct, defBody s_distinct, defScope s_distinct, [], []⟩
def d_Ring_init : He.DefD := ⟨("Ring", some "__init__"), "__init__", "Ring.__init__", defArgs s_Ring_init, defBody s_Ring_init, defScope s_Ring_init, [], [("nodes", .non)]⟩
def d_Ring_whole : He.DefD := ⟨("Ring", some "whole"), "whole", "Ring.whole", defArgs s_Ring_whole, defBody s_Ring_whole, defScope s_Ring_whole, [], []⟩
def d_check_ring : He.DefD := ⟨("check_ring", none), "check_ring", "check_ring", defArgs s_check_ring, defBody s_check_ring, defScope s_check_ring, [], []⟩
def d_sums_of : He.DefD := ⟨("sums_of", none), "sums_of", "sums_of", defArgs s_sums_of, defBody s_sums_of, defScope s_sums_of, [], []⟩
def d_check_stays : He.DefD := ⟨("check_stays", none), "check_stays", "check_stays", defArgs s_check_stays, defBody s_check_stays, defScope s_check_stays, [], []⟩
def d_laid : He.DefD := ⟨("laid", none), "laid", "laid", defArgs s_laid, defBody s_laid, defScope s_laid, [], []⟩
def d_pieces : He.DefD := ⟨("pieces", none), "pieces", "pieces", defArgs s_pieces, defBody s_pieces, defScope s_pieces, [], []⟩
def d_piece_price : He.DefD := ⟨("piece_price", none), "piece_price", "piece_price", defArgs s_piece_price, defBody s_piece_price, defScope s_piece_price, [], []⟩
def d_laid_price : He.DefD := ⟨("laid_price", none), "laid_price", "laid_price", defArgs s_laid_price, defBody s_laid_price, defScope s_laid_price, [], []⟩
def d_least_laying : He.DefD := ⟨("least_laying", none), "least_laying", "least_laying", defArgs s_least_laying, defBody s_least_laying, defScope s_least_laying, [], []⟩
def d_l_cell : He.DefD := ⟨("_law_cell", none), "_law_cell", "_law_cell", defArgs s_l_cell, defBody s_l_cell, defScope s_l_cell, [], []⟩
def d_l_digits : He.DefD := ⟨("_law_digits", none), "_law_digits", "_law_digits", defArgs s_l_digits, defBody s_l_digits, defScope s_l_digits, [], []⟩
def d_l_seed : He.DefD := ⟨("_law_seed", none), "_law_seed", "_law_seed", defArgs s_l_seed, defBody s_l_seed, defScope s_l_seed, [], []⟩
def d_l_union : He.DefD := ⟨("_law_union", none), "_law_union", "_law_union", defArgs s_l_union, defBody s_l_union, defScope s_l_union, [], []⟩
def d_l_least_ring : He.DefD := ⟨("_law_least_ring", none), "_law_least_ring", "_law_least_ring", defArgs s_l_least_ring, defBody s_l_least_ring, defScope s_l_least_ring, [], []⟩
def d_l_prefix : He.DefD := ⟨("_law_prefix", none), "_law_prefix", "_law_prefix", defArgs s_l_prefix, defBody s_l_prefix, defScope s_l_prefix, [], []⟩
def d_l_is_int : He.DefD := ⟨("_law_is_int", none), "_law_is_int", "_law_is_int", defArgs s_l_is_int, defBody s_l_is_int, defScope s_l_is_int, [], []⟩
def d_l_ints : He.DefD := ⟨("_law_ints", none), "_law_ints", "_law_ints", defArgs s_l_ints, defBody s_l_ints, defScope s_l_ints, [], []⟩
def d_l_whole : He.DefD := ⟨("_law_whole", none), "_law_whole", "_law_whole", defArgs s_l_whole, defBody s_l_whole, defScope s_l_whole, [], []⟩
def d_l_few_runs : He.DefD := ⟨("_law_few_runs", none), "_law_few_runs", "_law_few_runs", defArgs s_l_few_runs, defBody s_l_few_runs, defScope s_l_few_runs, [], []⟩
def d_l_prices : He.DefD := ⟨("_law_prices", none), "_law_prices", "_law_prices", defArgs s_l_prices, defBody s_l_prices, defScope s_l_prices, [], []⟩
def d_l_gates : He.DefD := ⟨("_law_gates", none), "_law_gates", "_law_gates", defArgs s_l_gates, defBody s_l_gates, defScope s_l_gates, [], []⟩
def d_l_drawn : He.DefD := ⟨("_law_drawn", none), "_law_drawn", "_law_drawn", defArgs s_l_drawn, defBody s_l_drawn, defScope s_l_drawn, [], []⟩
def d_law : He.DefD := ⟨("law", none), "law", "law", defArgs s_law, defBody s_law, defScope s_law, [], []⟩
def fn : List He.DefD := [d_check_fronts, d_zeros, d_steps, d_reachable, d_height, d_front_heights, d_least_row, d_distinct, d_Ring_init, d_Ring_whole, d_check_ring, d_sums_of, d_check_stays, d_laid, d_pieces, d_piece_price, d_laid_price, d_least_laying, d_l_cell, d_l_digits, d_l_seed, d_l_union, d_l_least_ring, d_l_prefix, d_l_is_int, d_l_ints, d_l_whole, d_l_few_runs, d_l_prices, d_l_gates, d_l_drawn, d_law]
def fa : List He.Fa := [.glo "check_fronts", .glo "zeros", .glo "steps", .glo "reachable", .glo "height", .glo "front_heights", .glo "least_row", .glo "distinct", .glo "check_ring", .glo "sums_of", .glo "check_stays", .glo "laid", .glo "pieces", .glo "piece_price", .glo "laid_price", .glo "least_laying", .glo "_law_cell", .glo "_law_digits", .glo "_law_seed", .glo "_law_union", .glo "_law_least_ring", .glo "_law_prefix", .glo "_law_is_int", .glo "_law_ints", .glo "_law_whole", .glo "_law_few_runs", .glo "_law_prices", .glo "_law_gates", .glo "_law_drawn", .glo "law", .glo "ForeworthError", .glo "BadRing", .glo "BadStay", .glo "TooLarge", .glo "Ring", .free "len", .free "abs", .free "range", .free "int", .free "sorted", .free "set", .free "enumerate", .free "max", .free "sum", .free "min", .free "tuple", .free "isinstance", .free "bool", .free "list", .free "dict", .free "super", .free "ValueError", .int "MOST_FRONTS" (5000), .cls "Ring", .mkr "Ring", .noat "Ring" "size", .noat "Ring" "prices", .noat "Ring" "doors", .noat "Ring" "nodes", .noat "Ring" "_sums", .meth "Ring" "whole"]
def loose : List Str := (["_wall", "ForeworthError", "BadRing", "BadStay", "TooLarge", "MOST_FRONTS", "check_fronts", "zeros", "steps", "reachable", "height", "front_heights"] : List Str) ++ (["least_row", "distinct", "Ring", "check_ring", "sums_of", "check_stays", "laid", "pieces", "piece_price", "laid_price", "least_laying", "_law_cell"] : List Str) ++ (["_law_digits", "_law_seed", "_law_union", "_law_least_ring", "_law_prefix", "_law_is_int", "_law_ints", "_law_whole", "_law_few_runs", "_law_prices", "_law_gates", "_law_drawn"] : List Str)

abbrev R : PySem.W.OpenRow := PySem.W.OpenLaw.row PySem.Challenge.rw_foreworth_k57_whole_least_two_ways
abbrev hk : PySem.W.Hook := He.hookD 5 fa fn
def ob (s : PySem.W.SharedT) : He.AlD := He.obsDG 5 fa fn (HandSHeadRun.getT s)
theorem ob_eq (s : PySem.W.SharedT) : ob s = hk.obs s.abs := He.obsDG_eq (HandSHeadRun.getT_eq s)
theorem run (w : World) : HandSHeadRun.RunEq R (PySem.W.view R.prog [42]) hk ob 4000 loose w := by
  intro os
  kernel_rfl
theorem sc_check_fronts : FnScope ["rows", "total", "row"] ["rows"] (defScope s_check_fronts) := ⟨rfl, rfl, rfl, by decide +kernel, rfl, by decide +kernel, by decide +kernel⟩
theorem sc_zeros : FnScope ["rows", "row"] ["rows"] (defScope s_zeros) := ⟨rfl, rfl, rfl, by decide +kernel, rfl, by decide +kernel, by decide +kernel⟩
theorem sc_steps : FnScope ["rows", "front", "moved", "k", "row", "symbol"] ["rows", "front"] (defScope s_steps) := ⟨rfl, rfl, rfl, by decide +kernel, rfl, by decide +kernel, by decide +kernel⟩
theorem sc_distinct : FnScope ["row"] ["row"] (defScope s_distinct) := ⟨rfl, rfl, rfl, by decide +kernel, rfl, by decide +kernel, by decide +kernel⟩
theorem sc_Ring_whole : FnScope ["self"] ["self"] (defScope s_Ring_whole) := ⟨rfl, rfl, rfl, by decide +kernel, rfl, by decide +kernel, by decide +kernel⟩
theorem sc_check_ring : FnScope ["prices", "doors", "nodes", "before", "door"] ["prices", "doors", "nodes"] (defScope s_check_ring) := ⟨rfl, rfl, rfl, by decide +kernel, rfl, by decide +kernel, by decide +kernel⟩
theorem sc_sums_of : FnScope ["prices", "sums", "price"] ["prices"] (defScope s_sums_of) := ⟨rfl, rfl, rfl, by decide +kernel, rfl, by decide +kernel, by decide +kernel⟩
theorem sc_check_stays : FnScope ["ring", "stays", "place", "stay"] ["ring", "stays"] (defScope s_check_stays) := ⟨rfl, rfl, rfl, by decide +kernel, rfl, by decide +kernel, by decide +kernel⟩
theorem sc_laid : FnScope ["ring", "stays", "start", "spans", "door", "length", "first"] ["ring", "stays", "start"] (defScope s_laid) := ⟨rfl, rfl, rfl, by decide +kernel, rfl, by decide +kernel, by decide +kernel⟩
theorem sc_l_cell : FnScope ["_law_script", "_law_k"] ["_law_script", "_law_k"] (defScope s_l_cell) := ⟨rfl, rfl, rfl, by decide +kernel, rfl, by decide +kernel, by decide +kernel⟩
theorem sc_l_digits : FnScope ["_law_cell_here", "_law_count", "_law_size", "_law_row", "_law_rest", "_law_k", "_law_mixed"] ["_law_cell_here", "_law_count", "_law_size"] (defScope s_l_digits) := ⟨rfl, rfl, rfl, by decide +kernel, rfl, by decide +kernel, by decide +kernel⟩
theorem sc_l_union : FnScope ["_law_prices_here", "_law_stays", "_law_start", "_law_size", "_law_spans", "_law_total", "_law_reached", "_law_span", "_law_y", "_law_stay"] ["_law_prices_here", "_law_stays", "_law_start"] (defScope s_l_union) := ⟨rfl, rfl, rfl, by decide +kernel, rfl, by decide +kernel, by decide +kernel⟩
theorem sc_l_prefix : FnScope ["_law_run", "_law_schedule", "_law_done", "_law_node"] ["_law_run", "_law_schedule"] (defScope s_l_prefix) := ⟨rfl, rfl, rfl, by decide +kernel, rfl, by decide +kernel, by decide +kernel⟩
theorem sc_l_is_int : FnScope ["_law_value"] ["_law_value"] (defScope s_l_is_int) := ⟨rfl, rfl, rfl, by decide +kernel, rfl, by decide +kernel, by decide +kernel⟩
theorem sc_l_few_runs : FnScope ["_law_runs", "_law_most", "_law_kept", "_law_total", "_law_run"] ["_law_runs", "_law_most"] (defScope s_l_few_runs) := ⟨rfl, rfl, rfl, by decide +kernel, rfl, by decide +kernel, by decide +kernel⟩
theorem sc_reachable : FnScope ["rows", "found", "known", "place", "symbol", "behind"] ["rows"] (defScope s_reachable) := ⟨rfl, rfl, rfl, by decide +kernel, rfl, by decide +kernel, by decide +kernel⟩
theorem sc_height : FnScope ["prices", "rows", "front", "heights", "costs", "symbol", "behind"] ["prices", "rows", "front", "heights"] (defScope s_height) := ⟨rfl, rfl, rfl, by decide +kernel, rfl, by decide +kernel, by decide +kernel⟩
theorem sc_Ring_init : FnScope ["self", "prices", "doors", "nodes"] ["self", "prices", "doors", "nodes"] (defScope s_Ring_init) := ⟨rfl, rfl, rfl, by decide +kernel, rfl, by decide +kernel, by decide +kernel⟩
theorem sc_pieces : FnScope ["ring", "stays", "start", "found", "first", "behind"] ["ring", "stays", "start"] (defScope s_pieces) := ⟨rfl, rfl, rfl, by decide +kernel, rfl, by decide +kernel, by decide +kernel⟩
theorem sc_piece_price : FnScope ["ring", "first", "behind", "rounds", "total", "number"] ["ring", "first", "behind"] (defScope s_piece_price) := ⟨rfl, rfl, rfl, by decide +kernel, rfl, by decide +kernel, by decide +kernel⟩
theorem sc_l_seed : FnScope ["_law_script", "_law_k"] ["_law_script", "_law_k"] (defScope s_l_seed) := ⟨rfl, rfl, rfl, by decide +kernel, rfl, by decide +kernel, by decide +kernel⟩
theorem sc_l_least_ring : FnScope ["_law_prices_here", "_law_stays", "_law_stay"] ["_law_prices_here", "_law_stays"] (defScope s_l_least_ring) := ⟨rfl, rfl, rfl, by decide +kernel, rfl, by decide +kernel, by decide +kernel⟩
theorem sc_l_ints : FnScope ["_law_row", "_law_value"] ["_law_row"] (defScope s_l_ints) := ⟨rfl, rfl, rfl, by decide +kernel, rfl, by decide +kernel, by decide +kernel⟩
theorem sc_l_whole : FnScope ["_law_runs", "_law_schedule", "_law_run"] ["_law_runs", "_law_schedule"] (defScope s_l_whole) := ⟨rfl, rfl, rfl, by decide +kernel, rfl, by decide +kernel, by decide +kernel⟩
theorem sc_l_prices : FnScope ["_law_cell_here", "_law_count", "_law_choice", "_law_row", "_law_digit"] ["_law_cell_here", "_law_count", "_law_choice"] (defScope s_l_prices) := ⟨rfl, rfl, rfl, by decide +kernel, rfl, by decide +kernel, by decide +kernel⟩
theorem sc_l_gates : FnScope ["_law_cell_here", "_law_size", "_law_row", "_law_gates_here", "_law_place"] ["_law_cell_here", "_law_size"] (defScope s_l_gates) := ⟨rfl, rfl, rfl, by decide +kernel, rfl, by decide +kernel, by decide +kernel⟩
theorem sc_l_drawn : FnScope ["_law_cell_here", "_law_gates_here", "_law_count", "_law_most", "_law_row", "_law_stays", "_law_k"] ["_law_cell_here", "_law_gates_here", "_law_count", "_law_most"] (defScope s_l_drawn) := ⟨rfl, rfl, rfl, by decide +kernel, rfl, by decide +kernel, by decide +kernel⟩
theorem sc_front_heights : FnScope ["prices", "rows", "heights", "front"] ["prices", "rows"] (defScope s_front_heights) := ⟨rfl, rfl, rfl, by decide +kernel, rfl, by decide +kernel, by decide +kernel⟩
theorem sc_laid_price : FnScope ["ring", "stays", "start", "first", "behind"] ["ring", "stays", "start"] (defScope s_laid_price) := ⟨rfl, rfl, rfl, by decide +kernel, rfl, by decide +kernel, by decide +kernel⟩
theorem sc_least_row : FnScope ["prices", "rows", "heights", "front", "taken", "pairs", "good", "pair"] ["prices", "rows"] (defScope s_least_row) := ⟨rfl, rfl, rfl, by decide +kernel, rfl, by decide +kernel, by decide +kernel⟩
theorem sc_least_laying : FnScope ["ring", "stays", "best", "door", "price", "stay"] ["ring", "stays"] (defScope s_least_laying) := ⟨rfl, rfl, rfl, by decide +kernel, rfl, by decide +kernel, by decide +kernel⟩
theorem sc_law : FnScope ["_law_script", "_law_row", "_law_size", "_law_prices_here", "_law_gates_here", "_law_count", "_law_room", "_law_longest", "_law_drawn_here", "_law_lines", "_law_stays", "_law_due", "_law_laying", "_law_handed", "_law_costs", "_law_heights", "_law_zero", "_law_told", "_law_stay", "_law_line", "_law_k", "_law_place"] ["_law_script"] (defScope s_law) := ⟨rfl, rfl, rfl, by decide +kernel, rfl, by decide +kernel, by decide +kernel⟩
structure Txt (K : PySem.W.Frag) (mg : Str → Option Value) : Prop where
  g_check_fronts : mg "check_fronts" = some (.ref (He.ga K "check_fronts"))
  g_zeros : mg "zeros" = some (.ref (He.ga K "zeros"))
  g_steps : mg "steps" = some (.ref (He.ga K "steps"))
  g_reachable : mg "reachable" = some (.ref (He.ga K "reachable"))
  g_height : mg "height" = some (.ref (He.ga K "height"))
  g_front_heights : mg "front_heights" = some (.ref (He.ga K "front_heights"))
  g_least_row : mg "least_row" = some (.ref (He.ga K "least_row"))
  g_distinct : mg "distinct" = some (.ref (He.ga K "distinct"))
  g_check_ring : mg "check_ring" = some (.ref (He.ga K "check_ring"))
  g_sums_of : mg "sums_of" = some (.ref (He.ga K "sums_of"))
  g_check_stays : mg "check_stays" = some (.ref (He.ga K "check_stays"))
  g_laid : mg "laid" = some (.ref (He.ga K "laid"))
  g_pieces : mg "pieces" = some (.ref (He.ga K "pieces"))
  g_piece_price : mg "piece_price" = some (.ref (He.ga K "piece_price"))
  g_laid_price : mg "laid_price" = some (.ref (He.ga K "laid_price"))
  g_least_laying : mg "least_laying" = some (.ref (He.ga K "least_laying"))
  g_l_cell : mg "_law_cell" = some (.ref (He.ga K "_law_cell"))
  g_l_digits : mg "_law_digits" = some (.ref (He.ga K "_law_digits"))
  g_l_seed : mg "_law_seed" = some (.ref (He.ga K "_law_seed"))
  g_l_union : mg "_law_union" = some (.ref (He.ga K "_law_union"))
  g_l_least_ring : mg "_law_least_ring" = some (.ref (He.ga K "_law_least_ring"))
  g_l_prefix : mg "_law_prefix" = some (.ref (He.ga K "_law_prefix"))
  g_l_is_int : mg "_law_is_int" = some (.ref (He.ga K "_law_is_int"))
  g_l_ints : mg "_law_ints" = some (.ref (He.ga K "_law_ints"))
  g_l_whole : mg "_law_whole" = some (.ref (He.ga K "_law_whole"))
  g_l_few_runs : mg "_law_few_runs" = some (.ref (He.ga K "_law_few_runs"))
  g_l_prices : mg "_law_prices" = some (.ref (He.ga K "_law_prices"))
  g_l_gates : mg "_law_gates" = some (.ref (He.ga K "_law_gates"))
  g_l_drawn : mg "_law_drawn" = some (.ref (He.ga K "_law_drawn"))
  g_law : mg "law" = some (.ref (He.ga K "law"))
  g_ForeworthError : mg "ForeworthError" = some (.ref (He.ga K "ForeworthError"))
  g_BadRing : mg "BadRing" = some (.ref (He.ga K "BadRing"))
  g_BadStay : mg "BadStay" = some (.ref (He.ga K "BadStay"))
  g_TooLarge : mg "TooLarge" = some (.ref (He.ga K "TooLarge"))
  g_Ring : mg "Ring" = some (.ref (He.ga K "Ring"))
  z_len : mg "len" = none
  z_abs : mg "abs" = none
  z_range : mg "range" = none
  z_int : mg "int" = none
  z_sorted : mg "sorted" = none
  z_set : mg "set" = none
  z_enumerate : mg "enumerate" = none
  z_max : mg "max" = none
  z_sum : mg "sum" = none
  z_min : mg "min" = none
  z_tuple : mg "tuple" = none
  z_isinstance : mg "isinstance" = none
  z_bool : mg "bool" = none
  z_list : mg "list" = none
  z_dict : mg "dict" = none
  z_super : mg "super" = none
  z_ValueError : mg "ValueError" = none
  k_MOST_FRONTS : ∃ t, mg "MOST_FRONTS" = some (.int (5000) t)
  cl_Ring : Cls K (He.ga K "Ring")
  mk_Ring : Mk K (He.ga K "Ring") (He.ma K (He.ga K "Ring") "__init__")
  na_Ring_size : NoAttr K (He.ga K "Ring") "size"
  na_Ring_prices : NoAttr K (He.ga K "Ring") "prices"
  na_Ring_doors : NoAttr K (He.ga K "Ring") "doors"
  na_Ring_nodes : NoAttr K (He.ga K "Ring") "nodes"
  na_Ring_sums : NoAttr K (He.ga K "Ring") "_sums"
  me_Ring_whole : Meth K (He.ga K "Ring") "whole" (He.ma K (He.ga K "Ring") "whole")
  f_check_fronts : ∃ fd, FunD K "check_fronts" "check_fronts" (defArgs s_check_fronts) (defBody s_check_fronts) (defScope s_check_fronts) [] [] (He.ga K "check_fronts") fd
  f_zeros : ∃ fd, FunD K "zeros" "zeros" (defArgs s_zeros) (defBody s_zeros) (defScope s_zeros) [] [] (He.ga K "zeros") fd
  f_steps : ∃ fd, FunD K "steps" "steps" (defArgs s_steps) (defBody s_steps) (defScope s_steps) [] [] (He.ga K "steps") fd
  f_reachable : ∃ fd, FunD K "reachable" "reachable" (defArgs s_reachable) (defBody s_reachable) (defScope s_reachable) [] [] (He.ga K "reachable") fd
  f_height : ∃ fd, FunD K "height" "height" (defArgs s_height) (defBody s_height) (defScope s_height) [] [] (He.ga K "height") fd
  f_front_heights : ∃ fd, FunD K "front_heights" "front_heights" (defArgs s_front_heights) (defBody s_front_heights) (defScope s_front_heights) [] [] (He.ga K "front_heights") fd
  f_least_row : ∃ fd, FunD K "least_row" "least_row" (defArgs s_least_row) (defBody s_least_row) (defScope s_least_row) [] [] (He.ga K "least_row") fd
  f_distinct : ∃ fd, FunD K "distinct" "distinct" (defArgs s_distinct) (defBody s_distinct) (defScope s_distinct) [] [] (He.ga K "distinct") fd
  f_Ring_init : ∃ fd, FunD K "__init__" "Ring.__init__" (defArgs s_Ring_init) (defBody s_Ring_init) (defScope s_Ring_init) [] [("nodes", .non)] (He.ma K (He.ga K "Ring") "__init__") fd
  f_Ring_whole : ∃ fd, FunD K "whole" "Ring.whole" (defArgs s_Ring_whole) (defBody s_Ring_whole) (defScope s_Ring_whole) [] [] (He.ma K (He.ga K "Ring") "whole") fd
  f_check_ring : ∃ fd, FunD K "check_ring" "check_ring" (defArgs s_check_ring) (defBody s_check_ring) (defScope s_check_ring) [] [] (He.ga K "check_ring") fd
  f_sums_of : ∃ fd, FunD K "sums_of" "sums_of" (defArgs s_sums_of) (defBody s_sums_of) (defScope s_sums_of) [] [] (He.ga K "sums_of") fd
  f_check_stays : ∃ fd, FunD K "check_stays" "check_stays" (defArgs s_check_stays) (defBody s_check_stays) (defScope s_check_stays) [] [] (He.ga K "check_stays") fd
  f_laid : ∃ fd, FunD K "laid" "laid" (defArgs s_laid) (defBody s_laid) (defScope s_laid) [] [] (He.ga K "laid") fd
  f_pieces : ∃ fd, FunD K "pieces" "pieces" (defArgs s_pieces) (defBody s_pieces) (defScope s_pieces) [] [] (He.ga K "pieces") fd
  f_piece_price : ∃ fd, FunD K "piece_price" "piece_price" (defArgs s_piece_price) (defBody s_piece_price) (defScope s_piece_price) [] [] (He.ga K "piece_price") fd
  f_laid_price : ∃ fd, FunD K "laid_price" "laid_price" (defArgs s_laid_price) (defBody s_laid_price) (defScope s_laid_price) [] [] (He.ga K "laid_price") fd
  f_least_laying : ∃ fd, FunD K "least_laying" "least_laying" (defArgs s_least_laying) (defBody s_least_laying) (defScope s_least_laying) [] [] (He.ga K "least_laying") fd
  f_l_cell : ∃ fd, FunD K "_law_cell" "_law_cell" (defArgs s_l_cell) (defBody s_l_cell) (defScope s_l_cell) [] [] (He.ga K "_law_cell") fd
  f_l_digits : ∃ fd, FunD K "_law_digits" "_law_digits" (defArgs s_l_digits) (defBody s_l_digits) (defScope s_l_digits) [] [] (He.ga K "_law_digits") fd
  f_l_seed : ∃ fd, FunD K "_law_seed" "_law_seed" (defArgs s_l_seed) (defBody s_l_seed) (defScope s_l_seed) [] [] (He.ga K "_law_seed") fd
  f_l_union : ∃ fd, FunD K "_law_union" "_law_union" (defArgs s_l_union) (defBody s_l_union) (defScope s_l_union) [] [] (He.ga K "_law_union") fd
  f_l_least_ring : ∃ fd, FunD K "_law_least_ring" "_law_least_ring" (defArgs s_l_least_ring) (defBody s_l_least_ring) (defScope s_l_least_ring) [] [] (He.ga K "_law_least_ring") fd
  f_l_prefix : ∃ fd, FunD K "_law_prefix" "_law_prefix" (defArgs s_l_prefix) (defBody s_l_prefix) (defScope s_l_prefix) [] [] (He.ga K "_law_prefix") fd
  f_l_is_int : ∃ fd, FunD K "_law_is_int" "_law_is_int" (defArgs s_l_is_int) (defBody s_l_is_int) (defScope s_l_is_int) [] [] (He.ga K "_law_is_int") fd
  f_l_ints : ∃ fd, FunD K "_law_ints" "_law_ints" (defArgs s_l_ints) (defBody s_l_ints) (defScope s_l_ints) [] [] (He.ga K "_law_ints") fd
  f_l_whole : ∃ fd, FunD K "_law_whole" "_law_whole" (defArgs s_l_whole) (defBody s_l_whole) (defScope s_l_whole) [] [] (He.ga K "_law_whole") fd
  f_l_few_runs : ∃ fd, FunD K "_law_few_runs" "_law_few_runs" (defArgs s_l_few_runs) (defBody s_l_few_runs) (defScope s_l_few_runs) [] [] (He.ga K "_law_few_runs") fd
  f_l_prices : ∃ fd, FunD K "_law_prices" "_law_prices" (defArgs s_l_prices) (defBody s_l_prices) (defScope s_l_prices) [] [] (He.ga K "_law_prices") fd
  f_l_gates : ∃ fd, FunD K "_law_gates" "_law_gates" (defArgs s_l_gates) (defBody s_l_gates) (defScope s_l_gates) [] [] (He.ga K "_law_gates") fd
  f_l_drawn : ∃ fd, FunD K "_law_drawn" "_law_drawn" (defArgs s_l_drawn) (defBody s_l_drawn) (defScope s_l_drawn) [] [] (He.ga K "_law_drawn") fd
  f_law : ∃ fd, FunD K "law" "law" (defArgs s_law) (defBody s_law) (defScope s_law) [] [] (He.ga K "law") fd
theorem txt_of {K : PySem.W.Frag} {mg : Str → Option Value} {h : Heap} (X : K.In h) (G : h.Ns mainGlobals mg) (c : He.SaysD fa fn K) : Txt K mg where
  g_check_fronts := He.glo_ok X G (c.fact 0 (f := .glo "check_fronts") rfl)
  g_zeros := He.glo_ok X G (c.fact 1 (f := .glo "zeros") rfl)
  g_steps := He.glo_ok X G (c.fact 2 (f := .glo "steps") rfl)
  g_reachable := He.glo_ok X G (c.fact 3 (f := .glo "reachable") rfl)
  g_height := He.glo_ok X G (c.fact 4 (f := .glo "height") rfl)
  g_front_heights := He.glo_ok X G (c.fact 5 (f := .glo "front_heights") rfl)
  g_least_row := He.glo_ok X G (c.fact 6 (f := .glo "least_row") rfl)
  g_distinct := He.glo_ok X G (c.fact 7 (f := .glo "distinct") rfl)
  g_check_ring := He.glo_ok X G (c.fact 8 (f := .glo "check_ring") rfl)
  g_sums_of := He.glo_ok X G (c.fact 9 (f := .glo "sums_of") rfl)
  g_check_stays := He.glo_ok X G (c.fact 10 (f := .glo "check_stays") rfl)
  g_laid := He.glo_ok X G (c.fact 11 (f := .glo "laid") rfl)
  g_pieces := He.glo_ok X G (c.fact 12 (f := .glo "pieces") rfl)
  g_piece_price := He.glo_ok X G (c.fact 13 (f := .glo "piece_price") rfl)
  g_laid_price := He.glo_ok X G (c.fact 14 (f := .glo "laid_price") rfl)
  g_least_laying := He.glo_ok X G (c.fact 15 (f := .glo "least_laying") rfl)
  g_l_cell := He.glo_ok X G (c.fact 16 (f := .glo "_law_cell") rfl)
  g_l_digits := He.glo_ok X G (c.fact 17 (f := .glo "_law_digits") rfl)
  g_l_seed := He.glo_ok X G (c.fact 18 (f := .glo "_law_seed") rfl)
  g_l_union := He.glo_ok X G (c.fact 19 (f := .glo "_law_union") rfl)
  g_l_least_ring := He.glo_ok X G (c.fact 20 (f := .glo "_law_least_ring") rfl)
  g_l_prefix := He.glo_ok X G (c.fact 21 (f := .glo "_law_prefix") rfl)
  g_l_is_int := He.glo_ok X G (c.fact 22 (f := .glo "_law_is_int") rfl)
  g_l_ints := He.glo_ok X G (c.fact 23 (f := .glo "_law_ints") rfl)
  g_l_whole := He.glo_ok X G (c.fact 24 (f := .glo "_law_whole") rfl)
  g_l_few_runs := He.glo_ok X G (c.fact 25 (f := .glo "_law_few_runs") rfl)
  g_l_prices := He.glo_ok X G (c.fact 26 (f := .glo "_law_prices") rfl)
  g_l_gates := He.glo_ok X G (c.fact 27 (f := .glo "_law_gates") rfl)
  g_l_drawn := He.glo_ok X G (c.fact 28 (f := .glo "_law_drawn") rfl)
  g_law := He.glo_ok X G (c.fact 29 (f := .glo "law") rfl)
  g_ForeworthError := He.glo_ok X G (c.fact 30 (f := .glo "ForeworthError") rfl)
  g_BadRing := He.glo_ok X G (c.fact 31 (f := .glo "BadRing") rfl)
  g_BadStay := He.glo_ok X G (c.fact 32 (f := .glo "BadStay") rfl)
  g_TooLarge := He.glo_ok X G (c.fact 33 (f := .glo "TooLarge") rfl)
  g_Ring := He.glo_ok X G (c.fact 34 (f := .glo "Ring") rfl)
  z_len := He.free_ok X G (c.fact 35 (f := .free "len") rfl)
  z_abs := He.free_ok X G (c.fact 36 (f := .free "abs") rfl)
  z_range := He.free_ok X G (c.fact 37 (f := .free "range") rfl)
  z_int := He.free_ok X G (c.fact 38 (f := .free "int") rfl)
  z_sorted := He.free_ok X G (c.fact 39 (f := .free "sorted") rfl)
  z_set := He.free_ok X G (c.fact 40 (f := .free "set") rfl)
  z_enumerate := He.free_ok X G (c.fact 41 (f := .free "enumerate") rfl)
  z_max := He.free_ok X G (c.fact 42 (f := .free "max") rfl)
  z_sum := He.free_ok X G (c.fact 43 (f := .free "sum") rfl)
  z_min := He.free_ok X G (c.fact 44 (f := .free "min") rfl)
  z_tuple := He.free_ok X G (c.fact 45 (f := .free "tuple") rfl)
  z_isinstance := He.free_ok X G (c.fact 46 (f := .free "isinstance") rfl)
  z_bool := He.free_ok X G (c.fact 47 (f := .free "bool") rfl)
  z_list := He.free_ok X G (c.fact 48 (f := .free "list") rfl)
  z_dict := He.free_ok X G (c.fact 49 (f := .free "dict") rfl)
  z_super := He.free_ok X G (c.fact 50 (f := .free "super") rfl)
  z_ValueError := He.free_ok X G (c.fact 51 (f := .free "ValueError") rfl)
  k_MOST_FRONTS := He.int_ok X G (c.fact 52 (f := .int "MOST_FRONTS" (5000)) rfl)
  cl_Ring := He.cls_ok (c.fact 53 (f := .cls "Ring") rfl)
  mk_Ring := He.mkr_ok (c.fact 54 (f := .mkr "Ring") rfl)
  na_Ring_size := He.noat_ok (c.fact 55 (f := .noat "Ring" "size") rfl)
  na_Ring_prices := He.noat_ok (c.fact 56 (f := .noat "Ring" "prices") rfl)
  na_Ring_doors := He.noat_ok (c.fact 57 (f := .noat "Ring" "doors") rfl)
  na_Ring_nodes := He.noat_ok (c.fact 58 (f := .noat "Ring" "nodes") rfl)
  na_Ring_sums := He.noat_ok (c.fact 59 (f := .noat "Ring" "_sums") rfl)
  me_Ring_whole := He.meth_ok (c.fact 60 (f := .meth "Ring" "whole") rfl)
  f_check_fronts := c.def_ 0 (d := d_check_fronts) rfl
  f_zeros := c.def_ 1 (d := d_zeros) rfl
  f_steps := c.def_ 2 (d := d_steps) rfl
  f_reachable := c.def_ 3 (d := d_reachable) rfl
  f_height := c.def_ 4 (d := d_height) rfl
  f_front_heights := c.def_ 5 (d := d_front_heights) rfl
  f_least_row := c.def_ 6 (d := d_least_row) rfl
  f_distinct := c.def_ 7 (d := d_distinct) rfl
  f_Ring_init := c.def_ 8 (d := d_Ring_init) rfl
  f_Ring_whole := c.def_ 9 (d := d_Ring_whole) rfl
  f_check_ring := c.def_ 10 (d := d_check_ring) rfl
  f_sums_of := c.def_ 11 (d := d_sums_of) rfl
  f_check_stays := c.def_ 12 (d := d_check_stays) rfl
  f_laid := c.def_ 13 (d := d_laid) rfl
  f_pieces := c.def_ 14 (d := d_pieces) rfl
  f_piece_price := c.def_ 15 (d := d_piece_price) rfl
  f_laid_price := c.def_ 16 (d := d_laid_price) rfl
  f_least_laying := c.def_ 17 (d := d_least_laying) rfl
  f_l_cell := c.def_ 18 (d := d_l_cell) rfl
  f_l_digits := c.def_ 19 (d := d_l_digits) rfl
  f_l_seed := c.def_ 20 (d := d_l_seed) rfl
  f_l_union := c.def_ 21 (d := d_l_union) rfl
  f_l_least_ring := c.def_ 22 (d := d_l_least_ring) rfl
  f_l_prefix := c.def_ 23 (d := d_l_prefix) rfl
  f_l_is_int := c.def_ 24 (d := d_l_is_int) rfl
  f_l_ints := c.def_ 25 (d := d_l_ints) rfl
  f_l_whole := c.def_ 26 (d := d_l_whole) rfl
  f_l_few_runs := c.def_ 27 (d := d_l_few_runs) rfl
  f_l_prices := c.def_ 28 (d := d_l_prices) rfl
  f_l_gates := c.def_ 29 (d := d_l_gates) rfl
  f_l_drawn := c.def_ 30 (d := d_l_drawn) rfl
  f_law := c.def_ 31 (d := d_law) rfl

end K57

/-! The promises of the defs. -/
namespace K57
open PySem PySem.Spec PyProof.Rows L2 Fw Lay
/-- a ring of prices with doors stands at r -/
def RingAt (K : PySem.W.Frag) (H : Hp) (r : Addr) (pr ds : List Int) : Prop := ∃ dx pa da na sa, H r = some (.ins (He.ga K "Ring") dx [("size", .int pr.length), ("prices", .ref pa), ("doors", .ref da), ("nodes", .ref na), ("_sums", .ref sa)]) ∧
  H pa = some (itup pr) ∧ H da = some (itup ds) ∧ H sa = some (itup (sumsL pr))
theorem RingAt.same {K : PySem.W.Frag} {H H2 : Hp} {r : Addr} {pr ds : List Int} (h : RingAt K H r pr ds) (s : Same H H2) : RingAt K H2 r pr ds := by
  obtain ⟨dx, pa, da, na, sa, h1, h2, h3, h4⟩ := h
  exact ⟨dx, pa, da, na, sa, s _ _ h1, s _ _ h2, s _ _ h3, s _ _ h4⟩
/-- stays in the ring -/
def StOk (ds : List Int) (ss : Sp2) : Prop := ss.length < 64 ∧ ∀ s ∈ ss, s.1 ∈ ds ∧ 1 ≤ s.2 ∧ s.2 ≤ 1000
def PrOk (pr : List Int) : Prop := 0 < pr.length ∧ pr.length ≤ 1000 ∧ ∀ x ∈ pr, 1 ≤ x
def DsOk (n : Nat) (ds : List Int) : Prop := ds ≠ [] ∧ ds.Pairwise (· < ·) ∧ ∀ d ∈ ds, 0 ≤ d ∧ d < (n : Int)
/-- the spans from a door, in order -/
def Spans (k : Int) (ss : Sp2) (d : Int) (sp : Sp2) : Prop := sp.Pairwise (fun a b => a.1 ≤ b.1) ∧ ∀ o b, (o, b) ∈ sp ↔ ∃ s ∈ ss, o = d + (s.1 - d) % k ∧ b = o + s.2

def sp_l_cell (K : PySem.W.Frag) : Sp := fun vs H Q _ => ∃ (a : Addr) (ns : List Int) (k : Nat), vs = [.ref a, .int k] ∧ SqL K H a (ns.map V.int) ∧ ∀ c : Int, 0 ≤ c → Q (.int c) H
def sp_l_digits (K : PySem.W.Frag) : Sp := fun vs H Q _ => ∃ (c m : Int) (n : Nat), vs = [.int c, .int n, .int m] ∧ 0 ≤ c ∧ n ≤ 100000 ∧ 0 < m ∧ m < 1073741824 ∧
  ∀ (H2 : Hp) (p : Addr) (ds : List Int), Same H H2 → H p = none → H2 p = some (ilst ds) → ds.length = n → (∀ d ∈ ds, 0 ≤ d ∧ d < m) → Q (.ref p) H2
def sp_l_seed (K : PySem.W.Frag) : Sp := fun vs H Q _ => ∃ (a : Addr) (ns : List Int) (k : Nat), vs = [.ref a, .int k] ∧ SqL K H a (ns.map V.int) ∧ k ≤ 1000 ∧ ∀ (c : Int) (H2 : Hp), 0 ≤ c → Same H H2 → Q (.int c) H2
def sp_l_prices (K : PySem.W.Frag) : Sp := fun vs H Q _ => ∃ (c ch : Int) (n : Nat), vs = [.int c, .int n, .int ch] ∧ 0 ≤ c ∧ n ≤ 1000 ∧
  ∀ (H2 : Hp) (p : Addr) (pr : List Int), Same H H2 → H p = none → H2 p = some (ilst pr) → pr.length = n → (∀ x ∈ pr, 1 ≤ x) → Q (.ref p) H2
def sp_l_gates (K : PySem.W.Frag) : Sp := fun vs H Q _ => ∃ (c : Int) (n : Nat), vs = [.int c, .int n] ∧ 0 ≤ c ∧ 0 < n ∧ n ≤ 1000 ∧
  ∀ (H2 : Hp) (p : Addr) (ds : List Int), Same H H2 → H p = none → H2 p = some (ilst ds) → DsOk n ds → Q (.ref p) H2
def sp_l_drawn (K : PySem.W.Frag) : Sp := fun vs H Q _ => ∃ (c : Int) (a : Addr) (ds : List Int) (n m : Nat), vs = [.int c, .ref a, .int n, .int m] ∧ 0 ≤ c ∧ SqL K H a (ds.map V.int) ∧ ds ≠ [] ∧ ds.length ≤ 1000 ∧ n ≤ 1000 ∧ 0 < m ∧ m ≤ 1000 ∧
  ∀ (H2 : Hp) (p : Addr) (zs : Zs), Same H H2 → H p = none → H2 p = some (.lst (refT zs)) → TL H2 zs → zs.length = n → (∀ z ∈ zs, z.2.1 ∈ ds ∧ 1 ≤ z.2.2 ∧ z.2.2 ≤ (m : Int)) → Q (.ref p) H2
def sp_l_few_runs (K : PySem.W.Frag) : Sp := fun vs H Q _ => ∃ (a : Addr) (zs : Ws) (m : Nat), vs = [.ref a, .int m] ∧ SqL K H a (refL zs) ∧ LL K H zs ∧ zs.length ≤ 1000 ∧ 0 < m ∧ m ≤ 1000 ∧
  ∀ (H2 : Hp) (p : Addr) (ks : Ws), Same H H2 → H p = none → H2 p = some (.lst (refL ks)) → ks.Sublist zs → prodL (ks.map (·.2)) ≤ m → (∀ z, zs[0]? = some z → z.2.length + 1 ≤ m → ks ≠ []) → Q (.ref p) H2
def sp_l_union (K : PySem.W.Frag) : Sp := fun vs H Q _ => ∃ (a b : Addr) (pr : List Int) (zs : Zs) (d : Int), vs = [.ref a, .ref b, .int d] ∧ SqL K H a (pr.map V.int) ∧ PrOk pr ∧ SqL K H b (refT zs) ∧ TL H zs ∧ zs.length ≤ 1000 ∧ (∀ z ∈ zs, 1 ≤ z.2.2 ∧ z.2.2 ≤ 1000) ∧ 0 ≤ d ∧ d ≤ 1000 ∧
  ∀ H2 : Hp, Same H H2 → Q (.int (U pr (zs.map (·.2)) d)) H2
def sp_l_common (K : PySem.W.Frag) : Sp := fun vs H Q _ => ∃ (a b : Addr) (pr : List Int) (zs : Ws), vs = [.ref a, .ref b] ∧ SqL K H a (pr.map V.int) ∧ PrOk pr ∧ SqL K H b (refL zs) ∧ LL K H zs ∧ zs.length ≤ 1000 ∧ (∀ z ∈ zs, ∀ s ∈ z.2, 0 ≤ s ∧ s < (pr.length : Int)) ∧ prodL (zs.map (·.2)) ≤ 100000 ∧
  ∀ (H2 : Hp) (v : Int), Same H H2 → Least (pw pr) (zs.map (·.2)) v → Q (.int v) H2
def sp_l_is_int (K : PySem.W.Frag) : Sp := fun vs H Q _ => ∃ i : Int, vs = [.int i] ∧ Q (.bl true) H
def sp_check_ring (K : PySem.W.Frag) : Sp := fun vs H Q _ => ∃ (a b : Addr) (pr ds : List Int), vs = [.ref a, .ref b, .non] ∧ SqL K H a (pr.map V.int) ∧ SqL K H b (ds.map V.int) ∧ PrOk pr ∧ DsOk pr.length ds ∧ Q .non H
def sp_sums_of (K : PySem.W.Frag) : Sp := fun vs H Q _ => ∃ (a : Addr) (pr : List Int), vs = [.ref a] ∧ SqL K H a (pr.map V.int) ∧ pr.length ≤ 1000 ∧
  ∀ (H2 : Hp) (p : Addr), Same H H2 → H p = none → H2 p = some (itup (sumsL pr)) → Q (.ref p) H2
def sp_Ring_init (K : PySem.W.Frag) : Sp := fun vs H Q _ => ∃ (r dx a b : Addr) (pr ds : List Int), vs = [.ref r, .ref a, .ref b, .non] ∧ H r = some (.ins (He.ga K "Ring") dx []) ∧ SqL K H a (pr.map V.int) ∧ SqL K H b (ds.map V.int) ∧ PrOk pr ∧ DsOk pr.length ds ∧
  ∀ H2 : Hp, (∀ c o, c ≠ r → H c = some o → H2 c = some o) → RingAt K H2 r pr ds → Q .non H2
def sp_Ring_whole (K : PySem.W.Frag) : Sp := fun vs H Q _ => ∃ (r : Addr) (pr ds : List Int), vs = [.ref r] ∧ RingAt K H r pr ds ∧ Q (.int pr.sum) H
def sp_check_stays (K : PySem.W.Frag) : Sp := fun vs H Q _ => ∃ (r b : Addr) (pr ds : List Int) (zs : Zs), vs = [.ref r, .ref b] ∧ RingAt K H r pr ds ∧ SqL K H b (refT zs) ∧ TL H zs ∧ StOk ds (zs.map (·.2)) ∧ ∀ H2 : Hp, Same H H2 → Q .non H2
def sp_laid (K : PySem.W.Frag) : Sp := fun vs H Q _ => ∃ (r b : Addr) (pr ds : List Int) (zs : Zs) (d : Int), vs = [.ref r, .ref b, .int d] ∧ RingAt K H r pr ds ∧ PrOk pr ∧ SqL K H b (refT zs) ∧ TL H zs ∧ zs.length ≤ 1000 ∧
  ∀ (H2 : Hp) (p : Addr) (ys : Zs), Same H H2 → H p = none → H2 p = some (.lst (refT ys)) → TL H2 ys → ys.length = zs.length → Spans pr.length (zs.map (·.2)) d (ys.map (·.2)) → Q (.ref p) H2
def sp_pieces (K : PySem.W.Frag) : Sp := fun vs H Q _ => ∃ (r b : Addr) (pr ds : List Int) (zs : Zs) (d : Int), vs = [.ref r, .ref b, .int d] ∧ RingAt K H r pr ds ∧ PrOk pr ∧ SqL K H b (refT zs) ∧ TL H zs ∧ zs.length ≤ 1000 ∧
  ∀ (H2 : Hp) (p : Addr) (ys : Zs) (ss : Sp2), Same H H2 → H p = none → H2 p = some (.lst (refT ys)) → TL H2 ys → ys.length ≤ 1000 → Spans pr.length (zs.map (·.2)) d ss → ys.map (·.2) = ss.foldl pstep [] → Q (.ref p) H2
def sp_piece_price (K : PySem.W.Frag) : Sp := fun vs H Q _ => ∃ (r : Addr) (pr ds : List Int) (a b : Int), vs = [.ref r, .int a, .int b] ∧ RingAt K H r pr ds ∧ PrOk pr ∧ 0 ≤ a ∧ a ≤ b ∧ b ≤ 100000 ∧ Q (.int (seg (pw pr) a b)) H
def sp_laid_price (K : PySem.W.Frag) : Sp := fun vs H Q _ => ∃ (r b : Addr) (pr ds : List Int) (zs : Zs) (d : Int), vs = [.ref r, .ref b, .int d] ∧ RingAt K H r pr ds ∧ PrOk pr ∧ SqL K H b (refT zs) ∧ TL H zs ∧ zs.length ≤ 1000 ∧ (∀ z ∈ zs, 1 ≤ z.2.2 ∧ z.2.2 ≤ 1000) ∧ 0 ≤ d ∧ d ≤ 1000 ∧
  ∀ H2 : Hp, Same H H2 → Q (.int (U pr (zs.map (·.2)) d)) H2
def sp_distinct (K : PySem.W.Frag) : Sp := fun vs H Q _ => ∃ (a : Addr) (ns : List Int), vs = [.ref a] ∧ SqL K H a (ns.map V.int) ∧ ns.length < 64 ∧
  ∀ (H2 : Hp) (p : Addr) (ds : List Int), Same H H2 → H p = none → H2 p = some (ilst ds) → ds.Pairwise (· < ·) → (∀ x, x ∈ ds ↔ x ∈ ns) → Q (.ref p) H2
def sp_least_laying (K : PySem.W.Frag) : Sp := fun vs H Q _ => ∃ (r b : Addr) (pr ds : List Int) (zs : Zs), vs = [.ref r, .ref b] ∧ RingAt K H r pr ds ∧ PrOk pr ∧ DsOk pr.length ds ∧ SqL K H b (refT zs) ∧ TL H zs ∧ StOk ds (zs.map (·.2)) ∧
  ∀ (H2 : Hp) (p : Addr), Same H H2 → H p = none → ((zs = [] ∧ H2 p = some (.tup [.int 0, .non])) ∨ ∃ v d : Int, H2 p = some (.tup [.int v, .int d]) ∧ (∃ z ∈ zs, d = z.2.1) ∧ v = U pr (zs.map (·.2)) d ∧ (∀ z ∈ zs, v ≤ U pr (zs.map (·.2)) z.2.1)) → Q (.ref p) H2
def sp_law (K : PySem.W.Frag) : Sp := fun vs H Q _ => ∃ (a : Addr) (ns : List Int), vs = [.ref a] ∧ SqL K H a (ns.map V.int) ∧ ns.length ≤ 63 ∧ ∀ H2 : Hp, Q (.bl true) H2
end K57

namespace K57
open PySem PySem.Spec PyProof.Rows L2 Fw Lay
section
variable {P : Program} {w : World} {K : PySem.W.Frag} {mg : Str → Option Value} {base : Heap}
theorem ok_l_cell (T : Txt K mg) : Good P w K mg base 1 (He.ga K "_law_cell") ["_law_script", "_law_k"] [] (sp_l_cell K) := by
  refine good_of T.f_l_cell sc_l_cell (fun vs H Q E h => ?_) (fun _ _ _ _ _ _ us hl => match us, hl with | [_, _], _ => rfl) (fun cdv A outer s H vs Q E hr h => ?_)
  · obtain ⟨_, _, _, rfl, _⟩ := h
    rfl
  refine ⟨_, (pss_cons (ps_if (pt_cmpR op_lt (pv 1) (pe_callB call_len_seq (by rfl) T.z_len (by decide +kernel) (pa_cons (pv 0) pa_nil)) (nomark _))
    (pss_one (ps_ret (pe_callB call_abs (by rfl) T.z_abs (by decide +kernel) (pa_cons (pe_ix ix_list (pv 0) (pv 1) (fun _ _ => rfl)) pa_nil))))
    pss_nil)
  (pss_one (ps_ret pe_int))), ?_⟩
  obtain ⟨a, ns, k, rfl, hS, q⟩ := h
  refine ⟨_, rfl, .ref a, rfl, a, _, rfl, .inl hS, _, _, rfl, rfl, _, rfl, ite2 (fun e => ?_) (fun e => ?_)⟩
  · have lt : k < ns.length := by
      have e2 := of_decide_eq_true e
      rw [List.length_map] at e2
      omega
    have g : (ns.map V.int)[k]? = some (.int ns[k]) := by
      rw [List.getElem?_map, List.getElem?_eq_getElem lt]
      rfl
    refine ⟨.ref a, rfl, _, rfl, a, _, _, _, rfl, rfl, hS, atI_nat g, _, rfl, ?_⟩
    refine q _ ?_
    split <;> omega
  · exact q 0 (Int.le_refl 0)
theorem ok_l_is_int (T : Txt K mg) : Good P w K mg base 1 (He.ga K "_law_is_int") ["_law_value"] [] (sp_l_is_int K) := by
  refine good_of T.f_l_is_int sc_l_is_int (fun vs H Q E h => ?_) (fun _ _ _ _ _ _ us hl => match us, hl with | [_], _ => rfl) (fun cdv A outer s H vs Q E hr h => ?_)
  · obtain ⟨_, rfl, _⟩ := h
    rfl
  refine ⟨_, (pss_one (ps_ret (pe_and (pe_callB call_isi (by rfl) T.z_isinstance (by decide +kernel) (pa_cons (pv 0) (pa_cons (pe_bltn (v := .ty "int") (u := .type "int") (by rfl) T.z_int (by decide +kernel) rfl) pa_nil))) (pe_one (pe_not (pe_callB call_isi (by rfl) T.z_isinstance (by decide +kernel) (pa_cons (pv 0) (pa_cons (pe_bltn (v := .ty "bool") (u := .type "bool") (by rfl) T.z_bool (by decide +kernel) rfl) pa_nil)))))))), ?_⟩
  obtain ⟨i, rfl, q⟩ := h
  refine ⟨_, rfl, .int i, .ty "int", _, _, true, rfl, .ty _, .base (.int _), kit_ty (by decide +kernel), true, rfl, iteT ?_⟩
  exact ⟨_, rfl, .int i, .ty "bool", _, _, false, rfl, .ty _, .base (.int _), kit_ty (by decide +kernel), false, rfl, q⟩
theorem ok_distinct (T : Txt K mg) : Good P w K mg base 1 (He.ga K "distinct") ["row"] [] (sp_distinct K) := by
  refine good_of T.f_distinct sc_distinct (fun vs H Q E h => ?_) (fun _ _ _ _ _ _ us hl => match us, hl with | [_], _ => rfl) (fun cdv A outer s H vs Q E hr h => ?_)
  · obtain ⟨_, _, rfl, _⟩ := h
    rfl
  refine ⟨_, (pss_one (ps_ret (pe_callB (cr_sortedSet rfl) (by rfl) T.z_sorted (by decide +kernel) (pa_cons (pe_callTy (cr_setL rfl) (by rfl) T.z_set (by decide +kernel) (pa_cons (pv 0) pa_nil)) pa_nil)))), ?_⟩
  obtain ⟨a, ns, rfl, hS, hl, q⟩ := h
  refine ⟨.ref a, rfl, a, ns, rfl, hS, ?_, fun b c nb hc => ?_⟩
  · have : scanBound = 4096 := rfl
    omega
  refine ⟨b, _, c, rfl, upd_same, by omega, fun ds p pw mem _ np => ?_⟩
  refine q _ p ds ?_ ?_ upd_same pw fun x => ?_
  · exact (same_new nb).trans (same_new np)
  · exact (same_new nb).free np
  · rw [mem]
    exact decide_eq_true_iff
theorem ok_Ring_whole (T : Txt K mg) : Good P w K mg base 1 (He.ma K (He.ga K "Ring") "whole") ["self"] [] (sp_Ring_whole K) := by
  refine good_of T.f_Ring_whole sc_Ring_whole (fun vs H Q E h => ?_) (fun _ _ _ _ _ _ us hl => match us, hl with | [_], _ => rfl) (fun cdv A outer s H vs Q E hr h => ?_)
  · obtain ⟨_, _, _, rfl, _⟩ := h
    rfl
  refine ⟨_, (pss_one (ps_ret (pe_ix ix_tup (pe_fld (pv 0) rfl) (pe_fld (pv 0) rfl) (fun _ _ => rfl)))), ?_⟩
  obtain ⟨r, pr, ds, rfl, hR, q⟩ := h
  obtain ⟨dx, pa, da, na, sa, h1, h2, h3, h4⟩ := hR
  have g : ((sumsL pr).map V.int)[pr.length]? = some (.int pr.sum) := by
    unfold sumsL
    rw [List.getElem?_map, List.getElem?_map, List.getElem?_range (Nat.lt_succ_self _)]
    show some (V.int (pr.take pr.length).sum) = _
    rw [List.take_length]
  refine ⟨_, rfl, r, _, dx, _, _, rfl, h1, T.cl_Ring, T.na_Ring_sums, rfl, ?_⟩
  refine ⟨_, rfl, r, _, dx, _, _, rfl, h1, T.cl_Ring, T.na_Ring_size, rfl, ?_⟩
  exact ⟨sa, _, _, _, rfl, rfl, SqT.of h4, atI_nat g, q⟩
theorem ok_check_ring (T : Txt K mg) : Good P w K mg base 1 (He.ga K "check_ring") ["prices", "doors", "nodes"] [] (sp_check_ring K) := by
  refine good_of T.f_check_ring sc_check_ring (fun vs H Q E h => ?_) (fun _ _ _ _ _ _ us hl => match us, hl with | [_, _, _], _ => rfl) (fun cdv A outer s H vs Q E hr h => ?_)
  · obtain ⟨_, _, _, _, rfl, _⟩ := h
    rfl
  refine ⟨_, (pss_cons (ps_if (pw_or (pt_cmpR op_eq (pe_callB call_len_seq (by rfl) T.z_len (by decide +kernel) (pa_cons (pv 0) pa_nil)) pe_int (nomark _)) (pw_or (pt_cmpR op_lt (pe_callB (cr_min rfl) (by rfl) T.z_min (by decide +kernel) (pa_cons (pv 0) pa_nil)) pe_int (nomark _)) (pw_or1 (pt_cmpR op_eq (pe_callB call_len_seq (by rfl) T.z_len (by decide +kernel) (pa_cons (pv 1) pa_nil)) pe_int (nomark _))))).pt
    (pss_one ps_never)
    pss_nil)
  (pss_cons (ps_set (i := 3) sc_check_ring.nd rfl (Or.inl rfl) (pe_un un_neg pe_int))
  (pss_cons (ps_for PassesOwn.never rfl (pi_list (pv 1)) (pg_name (i := 4) sc_check_ring.nd rfl (Or.inl rfl))
    (pss_cons (ps_if (pt_not (pt_chain op_lt op_lt (pv 3) (pv 4) (pe_callB call_len_seq (by rfl) T.z_len (by decide +kernel) (pa_cons (pv 0) pa_nil))))
    (pss_one ps_never)
    pss_nil)
  (pss_one (ps_set (i := 3) sc_check_ring.nd rfl (Or.inl rfl) (pv 4)))))
  (pss_one (ps_if (pw_and (pt_cmpR op_notN (pv 2) pe_non (nomark _)) (pw_and1 (pt_cmpR op_ne (pe_callB call_len_seq (by rfl) T.z_len (by decide +kernel) (pa_cons (pv 2) pa_nil)) (pe_callB call_len_seq (by rfl) T.z_len (by decide +kernel) (pa_cons (pv 0) pa_nil)) (nomark _)))).pt
    (pss_one ps_never)
    pss_nil))))), ?_⟩
  obtain ⟨a, b, pr, ds, rfl, hA, hB, ⟨p0, p1, p2⟩, ⟨d0, d1, d2⟩, q⟩ := h
  refine ⟨.ref a, rfl, a, _, rfl, .inl hA, rfl, _, rfl, ifF (int_ne (by rw [List.length_map]; omega)) ?_⟩
  refine ⟨.ref a, rfl, a, pr, rfl, hA, p0, fun m hm hle => ⟨_, _, rfl, rfl, _, rfl, ifF (by have := p2 m hm; omega) ?_⟩⟩
  have d0l : ds.length ≠ 0 := fun e => d0 (List.length_eq_zero_iff.mp e)
  refine ⟨.ref b, rfl, b, _, rfl, .inl hB, rfl, _, rfl, ifF (int_ne (by rw [List.length_map]; omega)) ?_⟩
  refine ⟨1, rfl, .ref b, rfl, b, rfl, ⟨_, hB⟩, for_list (K := K) (a := b) (xs := ds.map V.int) (fun i σ H2 => H2 = H ∧ ∃ (bf : Int) (y : Option V), σ = [some (.ref a), some (.ref b), some .non, some (.int bf), y] ∧ ∀ d, ds[i]? = some d → bf < d)
    ⟨rfl, -1, none, rfl, fun d hd => ?_⟩ (fun i σ H2 _ hp => by rw [hp.1]; exact hB) ?_ ?_⟩
  · have := d2 d (List.mem_of_getElem? hd)
    omega
  · rintro i x σ H2 hi ⟨rfl, bf, y, rfl, hb⟩
    obtain ⟨d, hd, rfl⟩ := map_get hi
    have h1 := hb d hd
    have h2 := d2 d (List.mem_of_getElem? hd)
    refine ⟨_, rfl, _, rfl, _, _, rfl, rfl, true, congrArg V.bl (decide_eq_true h1), iteT ?_⟩
    refine ⟨.ref a, rfl, a, _, rfl, .inl hA, _, _, rfl, rfl, true, congrArg V.bl (decide_eq_true (by rw [List.length_map]; exact h2.2)), iteF ?_⟩
    refine ⟨_, rfl, rfl, d, some (.int d), rfl, fun e he => ?_⟩
    have hlt := List.pairwise_iff_getElem.mp d1 i (i + 1) (List.getElem?_eq_some_iff.mp hd).1 (List.getElem?_eq_some_iff.mp he).1 (Nat.lt_succ_self _)
    rw [(List.getElem?_eq_some_iff.mp hd).2, (List.getElem?_eq_some_iff.mp he).2] at hlt
    exact hlt
  · rintro σ H2 ⟨rfl, bf, y, rfl, _⟩
    exact ⟨_, rfl, rfl, _, rfl, iteF (iteF q)⟩
theorem ok_sums_of (T : Txt K mg) : Good P w K mg base 1 (He.ga K "sums_of") ["prices"] [] (sp_sums_of K) := by
  refine good_of T.f_sums_of sc_sums_of (fun vs H Q E h => ?_) (fun _ _ _ _ _ _ us hl => match us, hl with | [_], _ => rfl) (fun cdv A outer s H vs Q E hr h => ?_)
  · obtain ⟨_, _, rfl, _⟩ := h
    rfl
  refine ⟨_, (pss_cons (ps_set (i := 1) sc_sums_of.nd rfl (Or.inl rfl) (pe_lst (pa_cons pe_int pa_nil)))
  (pss_cons (ps_for PassesOwn.never rfl (pi_list (pv 0)) (pg_name (i := 2) sc_sums_of.nd rfl (Or.inl rfl))
    (pss_one (ps_expr (pe_bm PySem.F.plainAttrs_list PySem.F.slot_list_append PySem.F.type_list_append mt_append (pv 1) (pa_cons (pe_op op_add (pe_ix ix_list (pv 1) (pe_un un_neg pe_int) (fun _ _ => rfl)) (pv 2)) pa_nil)))))
  (pss_one (ps_ret (pe_callTy call_tuple_of (by rfl) T.z_tuple (by decide +kernel) (pa_cons (pv 1) pa_nil)))))), ?_⟩
  obtain ⟨a, pr, rfl, hS, hl, q⟩ := h
  refine ⟨by show 1 ≤ sizeLine; decide, fun l nl => ?_⟩
  have nal : ∀ b o, H b = some o → b ≠ l := fun b o e => ne_of_none e nl
  refine ⟨.ref a, rfl, a, rfl, ⟨_, (same_new nl).seq hS⟩, for_list (K := K) (a := a) (xs := pr.map V.int) (fun i σ H2 => Same H H2 ∧ H2 l = some (ilst ((List.range (i + 1)).map fun j => (pr.take j).sum)) ∧ ∃ y, σ = [some (.ref a), some (.ref l), y])
    ⟨same_new nl, upd_same, none, rfl⟩ (fun i σ H2 _ hp => hp.1.seq hS) ?_ ?_⟩
  · rintro i x σ H2 hi ⟨sm, hL, y, rfl⟩
    obtain ⟨d, hd, rfl⟩ := map_get hi
    have e1 : ((List.range (i + 1)).map fun j => (pr.take j).sum).map V.int = (((List.range i).map fun j => (pr.take j).sum).map V.int) ++ [V.int (pr.take i).sum] := by
      rw [List.range_succ, List.map_append, List.map_append]
      rfl
    have g : atI (((List.range (i + 1)).map fun j => (pr.take j).sum).map V.int) (-1) = some (.int (pr.take i).sum) := by
      rw [e1]
      exact atI_last _ _
    have hil : i < pr.length := (List.getElem?_eq_some_iff.mp hd).1
    refine ⟨.ref l, rfl, .inl ⟨rfl, _, SqL.of hL⟩, .ref l, rfl, 1, rfl, l, _, _, _, rfl, rfl, SqL.of hL, g, _, rfl, _, _, rfl, rfl, l, _, _, rfl, rfl, hL, ?_, ?_⟩
    · rw [List.length_map, List.length_map, List.length_range]
      exact small1000 (by omega)
    · refine ⟨same_mut sm nl, ?_, _, rfl⟩
      rw [upd_same]
      congr 2
      rw [List.range_succ (n := i + 1), List.map_append, List.map_append]
      congr 1
      show [V.int ((pr.take i).sum + d)] = [V.int (pr.take (i + 1)).sum]
      rw [sum_take hd]
  · rintro σ H2 ⟨sm, hL, y, rfl⟩
    rw [List.length_map] at hL
    exact ⟨.ref l, rfl, l, _, rfl, .inl ⟨SqL.of hL, fun p np => q _ p (sm.trans (same_new np)) (sm.free np) upd_same⟩⟩
end
end K57

namespace K57
open PySem PySem.Spec PyProof.Rows L2 Fw Lay
section
variable {P : Program} {w : World} {K : PySem.W.Frag} {mg : Str → Option Value} {base : Heap}
theorem ok_laid (T : Txt K mg) : Good P w K mg base 1 (He.ga K "laid") ["ring", "stays", "start"] [] (sp_laid K) := by
  refine good_of T.f_laid sc_laid (fun vs H Q E h => ?_) (fun _ _ _ _ _ _ us hl => match us, hl with | [_, _, _], _ => rfl) (fun cdv A outer s H vs Q E hr h => ?_)
  · obtain ⟨_, _, _, _, _, _, rfl, _⟩ := h
    rfl
  refine ⟨_, (pss_cons (ps_set (i := 3) sc_laid.nd rfl (Or.inl rfl) (pe_lst pa_nil))
  (pss_cons (ps_for PassesOwn.never rfl (pi_list (pv 1)) (pg_tup rfl (pgs_cons (pg_name (i := 4) sc_laid.nd rfl (Or.inl rfl)) (pgs_cons (pg_name (i := 5) sc_laid.nd rfl (Or.inl rfl)) pgs_nil)))
    (pss_cons (ps_set (i := 6) sc_laid.nd rfl (Or.inl rfl) (pe_op op_add (pv 2) (pe_op op_mod (pe_op op_sub (pv 4) (pv 2)) (pe_fld (pv 0) rfl))))
  (pss_one (ps_expr (pe_bm PySem.F.plainAttrs_list PySem.F.slot_list_append PySem.F.type_list_append mt_append (pv 3) (pa_cons (pe_tup (pa_cons (pv 6) (pa_cons (pe_op op_add (pv 6) (pv 5)) pa_nil))) pa_nil))))))
  (pss_one (ps_ret (pe_callB cr_sortedPO (by rfl) T.z_sorted (by decide +kernel) (pa_cons (pv 3) pa_nil)))))), ?_⟩
  obtain ⟨r, b, pr, ds, zs, d, rfl, hR, ⟨p0, p1, p2⟩, hS, hT, hl, q⟩ := h
  refine ⟨Nat.zero_le _, fun l nl => ?_⟩
  refine ⟨.ref b, rfl, b, rfl, ⟨_, (same_new nl).seq hS⟩, for_list (K := K) (a := b) (xs := refT zs) (fun i σ H2 => Same H H2 ∧ (∃ ys : Zs, H2 l = some (.lst (refT ys)) ∧ TL H2 ys ∧ ys.map (·.2) = (zs.take i).map fun z => (d + (z.2.1 - d) % pr.length, d + (z.2.1 - d) % pr.length + z.2.2)) ∧ ∃ y1 y2 y3, σ = [some (.ref r), some (.ref b), some (.int d), some (.ref l), y1, y2, y3])
    ⟨same_new nl, ⟨[], upd_same, TL.nil, rfl⟩, none, none, none, rfl⟩ (fun i σ H2 _ hp => hp.1.seq hS) ?_ ?_⟩
  · rintro i x σ H2 hi ⟨sm, ⟨ys, hL, hY, em⟩, y1, y2, y3, rfl⟩
    obtain ⟨z, hz, hzm, rfl⟩ := refT_get hi
    obtain ⟨dx, pa, da, na, sa, h1, h2, h3, h4⟩ := hR.same sm
    have hilt : i < zs.length := (List.getElem?_eq_some_iff.mp hz).1
    have hylen : ys.length ≤ i := by
      have e := congrArg List.length em
      rw [List.length_map, List.length_map, List.length_take] at e
      omega
    refine ⟨z.1, _, rfl, SqT.of (hT.same sm z hzm), rfl, _, _, rfl, _, _, rfl, rfl, ?_⟩
    refine ⟨_, rfl, _, rfl, _, rfl, _, _, rfl, rfl, _, rfl, r, _, dx, _, _, rfl, h1, T.cl_Ring, T.na_Ring_size, rfl, _, _, rfl, rfl, (by omega), _, _, rfl, rfl, ?_⟩
    refine ⟨.ref l, rfl, .inl ⟨rfl, _, SqL.of hL⟩, _, rfl, _, rfl, _, rfl, _, _, rfl, rfl, (by show 2 ≤ sizeLine; decide), fun t nt => ?_⟩
    refine ⟨l, _, _, rfl, rfl, (by rw [upd_ne (ne_of_none hL nt)]; exact hL), small1000 (by unfold refT; rw [List.length_map]; omega), ?_⟩
    refine ⟨same_mut (sm.trans (same_new nt)) nl, ⟨ys ++ [(t, _, _)], ?_, hY.push hL nt, ?_⟩, _, _, _, rfl⟩
    · rw [upd_same, refT_snoc]
    · rw [List.map_append, em, List.take_add_one, hz, List.map_append]
      rfl
  · rintro σ H2 ⟨sm, ⟨ys, hL, hY, em⟩, y1, y2, y3, rfl⟩
    have em2 : ys.map (·.2) = zs.map fun z => (d + (z.2.1 - d) % pr.length, d + (z.2.1 - d) % pr.length + z.2.2) := by
      rw [em, List.take_of_length_le (by unfold refT; rw [List.length_map]; exact Nat.le_refl _)]
    refine ⟨.ref l, rfl, sorted_tl (SqL.of hL) hY fun ws p pm srt np => ?_⟩
    refine q _ p ws (sm.trans (same_new np)) (sm.free np) upd_same (fun z hz => same_new np _ _ (hY z (pm.mem_iff.mp hz))) ?_ ⟨srt.imp (fun h => by omega), fun o e => ?_⟩
    · have e := congrArg List.length em2
      rw [List.length_map, List.length_map] at e
      rw [pm.length_eq, e]
    · rw [(pm.map (·.2)).mem_iff, em2, List.mem_map]
      constructor
      · rintro ⟨z, hz, e2⟩
        injection e2 with e3 e4
        exact ⟨z.2, List.mem_map_of_mem hz, e3.symm, by rw [← e3]; exact e4.symm⟩
      · rintro ⟨s, hs, e3, e4⟩
        obtain ⟨z, hz, rfl⟩ := List.mem_map.mp hs
        exact ⟨z, hz, by rw [e4, e3]⟩
end
end K57

namespace K57
open PySem PySem.Spec PyProof.Rows L2 Fw Lay
section
variable {P : Program} {w : World} {K : PySem.W.Frag} {mg : Str → Option Value} {base : Heap}
theorem ok_l_digits (T : Txt K mg) : Good P w K mg base 1 (He.ga K "_law_digits") ["_law_cell_here", "_law_count", "_law_size"] [] (sp_l_digits K) := by
  refine good_of T.f_l_digits sc_l_digits (fun vs H Q E h => ?_) (fun _ _ _ _ _ _ us hl => match us, hl with | [_, _, _], _ => rfl) (fun cdv A outer s H vs Q E hr h => ?_)
  · obtain ⟨_, _, _, rfl, _⟩ := h
    rfl
  refine ⟨_, (pss_cons (ps_set (i := 3) sc_l_digits.nd rfl (Or.inl rfl) (pe_lst pa_nil))
  (pss_cons (ps_set (i := 4) sc_l_digits.nd rfl (Or.inl rfl) (pv 0))
  (pss_cons (ps_for PassesOwn.never rfl (pi_range1 (by rfl) T.z_range (pa_cons (pv 1) pa_nil)) (pg_name (i := 5) sc_l_digits.nd rfl (Or.inl rfl))
    (pss_one (ps_if (pw_and (pt_cmpR op_ge (pv 0) (pe_op op_pow pe_int pe_int) (nomark _)) (pw_and1 (pt_cmpR op_gt (pv 4) pe_int (nomark _)))).pt
    (pss_cons (ps_expr (pe_bm PySem.F.plainAttrs_list PySem.F.slot_list_append PySem.F.type_list_append mt_append (pv 3) (pa_cons (pe_op op_mod (pe_callTy call_int1 (by rfl) T.z_int (by decide +kernel) (pa_cons (pv 4) pa_nil)) (pv 2)) pa_nil)))
  (pss_one (ps_set (i := 4) sc_l_digits.nd rfl (Or.inl rfl) (pe_op op_fdivW (pv 4) (pv 2)))))
    (pss_cons (ps_set (i := 6) sc_l_digits.nd rfl (Or.inl rfl) (pe_op op_mod (pe_callTy call_int1 (by rfl) T.z_int (by decide +kernel) (pa_cons (pe_op op_add (pe_op op_add (pv 0) (pe_op op_mul pe_int (pv 5))) pe_int) pa_nil)) pe_int))
  (pss_cons (ps_set (i := 6) sc_l_digits.nd rfl (Or.inl rfl) (pe_op op_mod (pe_callTy call_int1 (by rfl) T.z_int (by decide +kernel) (pa_cons (pe_op op_mul (pv 6) (pe_op op_add (pv 6) pe_int)) pa_nil)) pe_int))
  (pss_cons (ps_set (i := 6) sc_l_digits.nd rfl (Or.inl rfl) (pe_op op_mod (pe_callTy call_int1 (by rfl) T.z_int (by decide +kernel) (pa_cons (pe_op op_add (pe_op op_mul (pv 6) (pe_op op_add (pv 6) pe_int)) (pe_op op_mul pe_int (pv 5))) pa_nil)) pe_int))
  (pss_one (ps_expr (pe_bm PySem.F.plainAttrs_list PySem.F.slot_list_append PySem.F.type_list_append mt_append (pv 3) (pa_cons (pe_op op_mod (pe_callTy call_int1 (by rfl) T.z_int (by decide +kernel) (pa_cons (pe_op op_fdiv (pv 6) pe_int) pa_nil)) (pv 2)) pa_nil))))))))))
  (pss_one (ps_ret (pv 3)))))), ?_⟩
  obtain ⟨c, m, n, rfl, c0, n1, m0, m1, q⟩ := h
  refine ⟨Nat.zero_le _, fun l nl => ⟨_, rfl, ?_⟩⟩
  refine ⟨_, rfl, (n : Int), rfl, by omega, by omega, for_range (n := n) (fun i σ H2 => Same H H2 ∧ (∃ ds, H2 l = some (ilst ds) ∧ ds.length = i ∧ ∀ d ∈ ds, 0 ≤ d ∧ d < m) ∧ ∃ (rest : Int) (y1 y2 : Option V), σ = [some (.int c), some (.int n), some (.int m), some (.ref l), some (.int rest), y1, y2])
    ⟨same_new nl, ⟨[], upd_same, rfl, fun d hd => (nomatch hd)⟩, c, none, none, rfl⟩ ?_ ?_⟩
  · rintro i σ H2 hi ⟨sm, ⟨ds, hL, len, bd⟩, rest, y1, y2, rfl⟩
    have push : ∀ (v : Int), 0 ≤ v → v < m → Same H (upd H2 l (.lst (ds.map V.int ++ [.int v]))) ∧ (∃ es, upd H2 l (.lst (ds.map V.int ++ [.int v])) l = some (ilst es) ∧ es.length = i + 1 ∧ ∀ d ∈ es, 0 ≤ d ∧ d < m) := fun v v0 v1 => by
      refine ⟨same_mut sm nl, ds ++ [v], ?_, ?_, fun d hd => ?_⟩
      · rw [upd_same]
        unfold ilst
        rw [List.map_append]
        rfl
      · rw [List.length_append, len]
        rfl
      · rcases List.mem_append.mp hd with hd | hd
        · exact bd d hd
        · rw [List.mem_singleton.mp hd]
          exact ⟨v0, v1⟩
    have room : (ds.map V.int).length < sizeLine := by
      rw [List.length_map, sizeLine_eq]
      omega
    have md : ∀ v : Int, 0 ≤ v % m ∧ v % m < m := fun v => ⟨Int.emod_nonneg _ (by omega), Int.emod_lt_of_pos _ m0⟩
    refine ⟨_, rfl, _, _, rfl, rfl, ⟨by decide, by decide, by decide⟩, _, _, rfl, rfl, _, rfl, if2 (fun e1 => ⟨_, rfl, _, _, rfl, rfl, _, rfl, if2 (fun e2 => ?A) (fun _ => ?B)⟩) (fun _ => iteF ?B2)⟩
    case A =>
      refine ⟨.ref l, rfl, .inl ⟨rfl, _, SqL.of hL⟩, _, rfl, .inl ⟨_, rfl, _, rfl, _, _, rfl, rfl, m0, l, _, _, rfl, rfl, hL, room, ?_⟩⟩
      refine ⟨_, rfl, _, rfl, _, _, rfl, rfl, wide_div (b := 30) m0 (by omega) (by decide) (by decide), ?_⟩
      obtain ⟨s1, s2⟩ := push (rest % m) (md _).1 (md _).2
      exact ⟨s1, s2, _, _, _, rfl⟩
    all_goals
      refine ⟨_, rfl, _, rfl, _, _, rfl, rfl, .inl ⟨by decide, by decide⟩, _, _, rfl, rfl, _, _, rfl, rfl, .inl ⟨_, rfl, _, _, rfl, rfl, (by show (0 : Int) < 2147483647; decide), ?_⟩⟩
      refine ⟨_, rfl, _, rfl, _, _, rfl, rfl, _, _, rfl, rfl, .inl ⟨by omega, by omega⟩, .inl ⟨_, rfl, _, _, rfl, rfl, (by show (0 : Int) < 2147483629; decide), ?_⟩⟩
      refine ⟨_, rfl, _, rfl, _, _, rfl, rfl, _, _, rfl, rfl, .inl ⟨by omega, by omega⟩, _, rfl, _, _, rfl, rfl, .inl ⟨by decide, by decide⟩, _, _, rfl, rfl, .inl ⟨_, rfl, _, _, rfl, rfl, (by show (0 : Int) < 2147483647; decide), ?_⟩⟩
      refine ⟨.ref l, rfl, .inl ⟨rfl, _, SqL.of hL⟩, _, rfl, _, _, rfl, rfl, ⟨by decide, by decide⟩, .inl ⟨_, rfl, _, rfl, _, _, rfl, rfl, m0, l, _, _, rfl, rfl, hL, room, ?_⟩⟩
      obtain ⟨s1, s2⟩ := push _ (md _).1 (md _).2
      exact ⟨s1, s2, _, _, _, rfl⟩
  · rintro σ H2 ⟨sm, ⟨ds, hL, len, bd⟩, rest, y1, y2, rfl⟩
    exact ⟨.ref l, rfl, q H2 l ds sm nl hL len bd⟩
theorem ok_l_few_runs (T : Txt K mg) : Good P w K mg base 1 (He.ga K "_law_few_runs") ["_law_runs", "_law_most"] [] (sp_l_few_runs K) := by
  refine good_of T.f_l_few_runs sc_l_few_runs (fun vs H Q E h => ?_) (fun _ _ _ _ _ _ us hl => match us, hl with | [_, _], _ => rfl) (fun cdv A outer s H vs Q E hr h => ?_)
  · obtain ⟨_, _, _, rfl, _⟩ := h
    rfl
  refine ⟨_, (pss_cons (ps_set (i := 2) sc_l_few_runs.nd rfl (Or.inl rfl) (pe_lst pa_nil))
  (pss_cons (ps_set (i := 3) sc_l_few_runs.nd rfl (Or.inl rfl) pe_int)
  (pss_cons (ps_for PassesOwn.never rfl (pi_list (pv 0)) (pg_name (i := 4) sc_l_few_runs.nd rfl (Or.inl rfl))
    (pss_one (ps_if (pt_cmpR op_le (pe_op op_mul (pv 3) (pe_op op_add (pe_callB call_len_seq (by rfl) T.z_len (by decide +kernel) (pa_cons (pv 4) pa_nil)) pe_int)) (pv 1) (nomark _))
    (pss_cons (ps_expr (pe_bm PySem.F.plainAttrs_list PySem.F.slot_list_append PySem.F.type_list_append mt_append (pv 2) (pa_cons (pv 4) pa_nil)))
  (pss_one (ps_set (i := 3) sc_l_few_runs.nd rfl (Or.inl rfl) (pe_op op_mul (pv 3) (pe_op op_add (pe_callB call_len_seq (by rfl) T.z_len (by decide +kernel) (pa_cons (pv 4) pa_nil)) pe_int)))))
    pss_nil)))
  (pss_one (ps_ret (pv 2)))))), ?_⟩
  obtain ⟨a, zs, m, rfl, hS, hL, hl, m0, m1, q⟩ := h
  refine ⟨Nat.zero_le _, fun l nl => ?_⟩
  refine ⟨.ref a, rfl, a, rfl, ⟨_, (same_new nl).seq hS⟩, for_list (K := K) (a := a) (xs := refL zs) (fun i σ H2 => Same H H2 ∧ (∃ ks : Ws, H2 l = some (.lst (refL ks)) ∧ ks.Sublist (zs.take i) ∧ prodL (ks.map (·.2)) ≤ m ∧ (∀ z, zs[0]? = some z → z.2.length + 1 ≤ m → 0 < i → ks ≠ []) ∧ ∃ y, σ = [some (.ref a), some (.int m), some (.ref l), some (.int (prodL (ks.map (·.2)) : Nat)), y]))
    ⟨same_new nl, [], upd_same, List.Sublist.refl _, m0, fun z _ _ h => absurd h (Nat.lt_irrefl 0), none, rfl⟩ (fun i σ H2 _ hp => hp.1.seq hS) ?_ ?_⟩
  · rintro i x σ H2 hi ⟨sm, ks, hK, sub, le, ne, y, rfl⟩
    obtain ⟨z, hz, hzm, rfl⟩ := refL_get hi
    have hil : i < zs.length := (List.getElem?_eq_some_iff.mp hz).1
    have hzL := (hL.same sm) z hzm
    have kl : ks.length ≤ i := by
      have := sub.length_le
      rw [List.length_take] at this
      omega
    have e0 : ((prodL (ks.map (·.2)) : Nat) : Int) * (((z.2.map V.int).length : Int) + 1) = ((prodL ((ks ++ [z]).map (·.2)) : Nat) : Int) := by
      rw [List.map_append, List.length_map]
      show _ = ((prodL (ks.map (·.2) ++ [z.2]) : Nat) : Int)
      rw [prodL_snoc]
      rfl
    refine ⟨_, rfl, .ref z.1, rfl, z.1, _, rfl, .inl hzL, _, _, rfl, rfl, _, _, rfl, rfl, .inl ⟨by omega, by omega⟩, _, rfl, _, _, rfl, rfl, _, rfl, if2 (fun e1 => ?_) (fun e1 => ?_)⟩
    · rw [e0] at e1
      refine ⟨.ref l, rfl, .inl ⟨rfl, _, SqL.of hK⟩, _, rfl, l, _, _, rfl, rfl, hK, small1000 (by unfold refL; rw [List.length_map]; omega), ?_⟩
      · have hz2 : SqL K (upd H2 l (.lst (refL ks ++ [V.ref z.1]))) z.1 (z.2.map V.int) := (same_mut sm nl).seq (hL z hzm)
        refine ⟨_, rfl, .ref z.1, rfl, z.1, _, rfl, .inl hz2, _, _, rfl, rfl, _, _, rfl, rfl, .inl ⟨by omega, by omega⟩, ?_⟩
        refine ⟨same_mut sm nl, ks ++ [z], ?_, ?_, by omega, fun _ _ _ _ => by simp, some (.ref z.1), ?_⟩
        · rw [upd_same]
          unfold refL
          rw [List.map_append]
          rfl
        · rw [List.take_add_one, hz]
          exact sub.append (List.Sublist.refl _)
        · rw [← e0]
          rfl
    · refine ⟨sm, ks, hK, ?_, le, fun w hw h1 _ => ?_, _, rfl⟩
      · rw [List.take_add_one]
        exact sub.trans (List.sublist_append_left _ _)
      · by_cases h0 : 0 < i
        · exact ne w hw h1 h0
        · exfalso
          have hi0 : i = 0 := by omega
          subst hi0
          rw [hz] at hw
          have hzw := Option.some.inj hw
          have hk0 : ks = [] := List.length_eq_zero_iff.mp (by omega)
          subst hk0
          rw [e0] at e1
          subst hzw
          apply e1
          show ((prodL [z.2] : Nat) : Int) ≤ m
          have e5 : prodL [z.2] = (z.2.length + 1) * 1 := rfl
          rw [e5]
          omega
  · rintro σ H2 ⟨sm, ks, hK, sub, le, ne, y, rfl⟩
    have e1 : (refL zs).length = zs.length := List.length_map ..
    rw [e1] at sub ne
    refine ⟨.ref l, rfl, q H2 l ks sm nl hK (sub.trans (List.take_sublist _ _)) le fun z hz h1 => ne z hz h1 ?_⟩
    exact (List.getElem?_eq_some_iff.mp hz).1
end
end K57

namespace K57
open PySem PySem.Spec PyProof.Rows L2 Fw Lay
section
variable {P : Program} {w : World} {K : PySem.W.Frag} {mg : Str → Option Value} {base : Heap}
theorem ok_l_union (T : Txt K mg) : Good P w K mg base 1 (He.ga K "_law_union") ["_law_prices_here", "_law_stays", "_law_start"] [] (sp_l_union K) := by
  refine good_of T.f_l_union sc_l_union (fun vs H Q E h => ?_) (fun _ _ _ _ _ _ us hl => match us, hl with | [_, _, _], _ => rfl) (fun cdv A outer s H vs Q E hr h => ?_)
  · obtain ⟨_, _, _, _, _, rfl, _⟩ := h
    rfl
  refine ⟨_, (pss_cons (ps_set (i := 3) sc_l_union.nd rfl (Or.inr rfl) (pe_callB call_len_seq (by rfl) T.z_len (by decide +kernel) (pa_cons (pv 0) pa_nil)))
  (pss_cons (ps_set (i := 4) sc_l_union.nd rfl (Or.inl rfl) (pe_callB cr_sortedPO (by rfl) T.z_sorted (by decide +kernel) (pa_cons (pe_lc (own := [("_law_stay", 9)]) (g := (gName 9)) (tt := tYes) rfl sc_l_union.nd (pi_list (pv 1)) (blkOk_by (own := [("_law_stay", 9)]) (N := ["_law_prices_here", "_law_stays", "_law_start", "_law_size", "_law_spans", "_law_total", "_law_reached", "_law_span", "_law_y", "_law_stay"]) (sc := defScope s_l_union) (by decide +kernel)) (fun _ _ _ _ _ => (pg_name (i := 9) sc_l_union.nd rfl (Or.inl rfl))) (fun _ _ _ _ _ => pts_nil) (fun _ _ _ _ _ => (pe_tup (pa_cons (pe_op op_mod (pe_callTy call_int1 (by rfl) T.z_int (by decide +kernel) (pa_cons (pe_op op_sub (pe_ix (ix_tupE (K := K) rfl) (pv 9) pe_int (fun _ _ => rfl)) (pv 2)) pa_nil)) (pv 3)) (pa_cons (pe_ix (ix_tupE (K := K) rfl) (pv 9) pe_int (fun _ _ => rfl)) pa_nil))))) pa_nil)))
  (pss_cons (ps_set (i := 5) sc_l_union.nd rfl (Or.inl rfl) pe_int)
  (pss_cons (ps_set (i := 6) sc_l_union.nd rfl (Or.inl rfl) pe_int)
  (pss_cons (ps_for PassesOwn.never rfl (pi_list (pv 4)) (pg_name (i := 7) sc_l_union.nd rfl (Or.inl rfl))
    (pss_cons (ps_for PassesOwn.never rfl (pi_range2 (by rfl) T.z_range (pa_cons (pe_callB (call_max2 rfl) (by rfl) T.z_max (by decide +kernel) (pa_cons (pe_ix ix_tup (pv 7) pe_int (fun _ _ => rfl)) (pa_cons (pv 6) pa_nil))) (pa_cons (pe_op op_add (pe_ix ix_tup (pv 7) pe_int (fun _ _ => rfl)) (pe_ix ix_tup (pv 7) pe_int (fun _ _ => rfl))) pa_nil))) (pg_name (i := 8) sc_l_union.nd rfl (Or.inl rfl))
    (pss_one (ps_set (i := 5) sc_l_union.nd rfl (Or.inl rfl) (pe_op op_add (pv 5) (pe_ix ix_list (pv 0) (pe_op op_mod (pe_callTy call_int1 (by rfl) T.z_int (by decide +kernel) (pa_cons (pe_op op_add (pv 2) (pv 8)) pa_nil)) (pv 3)) (fun _ _ => rfl))))))
  (pss_one (ps_set (i := 6) sc_l_union.nd rfl (Or.inl rfl) (pe_callB (call_max2 rfl) (by rfl) T.z_max (by decide +kernel) (pa_cons (pv 6) (pa_cons (pe_op op_add (pe_ix ix_tup (pv 7) pe_int (fun _ _ => rfl)) (pe_ix ix_tup (pv 7) pe_int (fun _ _ => rfl))) pa_nil)))))))
  (pss_one (ps_ret (pv 5)))))))), ?_⟩
  obtain ⟨a, b, pr, zs, d, rfl, hA, ⟨p0, p1, p2⟩, hS, hT, hl, hz1, d0, d1, q⟩ := h
  refine ⟨.ref a, rfl, a, _, rfl, .inl hA, ?_⟩
  refine ⟨.ref b, rfl, b, rfl, ⟨_, hS⟩, fun D hD => lc_list (K := K) (a := b) (xs := refT zs) (fun i H2 => Same H H2 ∧ ∃ ys : Zs, H2 D = some (.lst (refT ys)) ∧ TL H2 ys ∧ ys.map (·.2) = (zs.take i).map fun z => ((z.2.1 - d) % pr.length, z.2.2))
    ⟨same_new hD, [], upd_same, TL.nil, rfl⟩ (fun i H2 _ hp => hp.1.seq hS) ?_ ?_⟩
  · rintro i x H2 hi ⟨sm, ys, hL, hY, em⟩
    obtain ⟨z, hz, hzm, rfl⟩ := refT_get hi
    have hzT := SqT.of (K := K) (hT.same sm z hzm)
    have hilt : i < zs.length := (List.getElem?_eq_some_iff.mp hz).1
    have hylen : ys.length ≤ i := by
      have e := congrArg List.length em
      rw [List.length_map, List.length_map, List.length_take] at e
      omega
    refine ⟨rfl, yes_then ?_⟩
    refine ⟨_, rfl, z.1, _, _, _, rfl, rfl, hzT, rfl, _, rfl, _, _, rfl, rfl, .inl ⟨_, rfl, _, rfl, _, _, rfl, rfl, ?_, ?_⟩⟩
    · rw [List.length_map]
      show (0 : Int) < (pr.length : Int)
      omega
    refine ⟨_, rfl, z.1, _, _, _, rfl, rfl, hzT, rfl, (by show 2 ≤ sizeLine; decide), fun t nt => ⟨_, (by rw [upd_ne (ne_of_none hL nt)]; exact hL), small1000 (by unfold refT; rw [List.length_map]; omega), ?_⟩⟩
    refine ⟨same_mut (sm.trans (same_new nt)) hD, ys ++ [(t, _, _)], ?_, hY.push hL nt, ?_⟩
    · rw [upd_same, refT_snoc]
    · rw [List.map_append, em, List.take_add_one, hz, List.map_append, List.length_map]
      rfl
  · rintro H2 ⟨sm, ys, hL, hY, em⟩
    have em2 : ys.map (·.2) = zs.map fun z => ((z.2.1 - d) % pr.length, z.2.2) := by
      rw [em, List.take_of_length_le (by unfold refT; rw [List.length_map]; exact Nat.le_refl _)]
    refine tnil_go ?_
    refine sorted_tl (SqL.of hL) hY fun ws p pm srt np => ?_
    have sm2 := sm.trans (same_new (o := .lst (refT ws)) np)
    have hW : TL (upd H2 p (.lst (refT ws))) ws := fun z hz => same_new np _ _ (hY z (pm.mem_iff.mp hz))
    have hP : SqL K (upd H2 p (.lst (refT ws))) p (refT ws) := SqL.of upd_same
    generalize upd H2 p (.lst (refT ws)) = Hs at sm2 hW hP ⊢
    have hA2 := sm2.seq hA
    have hlen : ws.length ≤ 1000 := by
      have e := congrArg List.length em2
      rw [List.length_map, List.length_map] at e
      rw [pm.length_eq]
      omega
    have hmem : ∀ z ∈ ws, 0 ≤ z.2.1 ∧ z.2.1 < (pr.length : Int) ∧ 1 ≤ z.2.2 ∧ z.2.2 ≤ 1000 := fun z hz => by
      have h1 : z.2 ∈ ys.map (·.2) := List.mem_map_of_mem (pm.mem_iff.mp hz)
      rw [em2] at h1
      obtain ⟨y, hy, e⟩ := List.mem_map.mp h1
      have h2 := hz1 y hy
      have h3 := Int.emod_nonneg (y.2.1 - d) (show (pr.length : Int) ≠ 0 by omega)
      have h4 := Int.emod_lt_of_pos (y.2.1 - d) (show (0 : Int) < (pr.length : Int) by omega)
      rw [← e]
      exact ⟨h3, h4, h2.1, h2.2⟩
    have wmod : ∀ c, atI (pr.map V.int) ((d + c) % ((pr.map V.int).length : Int)) = some (.int (pw pr (d + c))) := fun c => by
      rw [List.length_map]
      exact pw_at p0 _
    -- total = 0, reached = 0, the loops
    refine ⟨.ref p, rfl, p, rfl, ⟨_, hP⟩, for_list (K := K) (a := p) (xs := refT ws) (fun i σ H3 => H3 = Hs ∧ ∃ (tot rch : Int) (y1 y2 y3 : Option V), σ = [some (.ref a), some (.ref b), some (.int d), some (.int ((pr.map V.int).length : Int)), some (.ref p), some (.int tot), some (.int rch), y1, y2, y3] ∧ 0 ≤ rch ∧ rch ≤ 2000 ∧
        tot + uni (fun y => pw pr (d + y)) rch ((ws.map fun z => (z.2.1, z.2.1 + z.2.2)).drop i) = uni (fun y => pw pr (d + y)) 0 (ws.map fun z => (z.2.1, z.2.1 + z.2.2)))
      ⟨rfl, 0, 0, none, none, none, rfl, Int.le_refl _, by omega, by rw [List.drop_zero]; omega⟩ (fun i σ H3 _ hp => by rw [hp.1]; exact hP) ?_ ?_⟩
    · rintro i x σ H3 hi ⟨rfl, tot, rch, y1, y2, y3, rfl, r0, r1, eu⟩
      obtain ⟨z, hz, hzm, rfl⟩ := refT_get hi
      have hzT := SqT.of (K := K) (hW z hzm)
      obtain ⟨m0, m1, m2, m3⟩ := hmem z hzm
      have ed : (ws.map fun z => (z.2.1, z.2.1 + z.2.2)).drop i = (z.2.1, z.2.1 + z.2.2) :: (ws.map fun z => (z.2.1, z.2.1 + z.2.2)).drop (i + 1) := by
        have hlt : i < (ws.map fun z => (z.2.1, z.2.1 + z.2.2)).length := by
          rw [List.length_map]
          exact (List.getElem?_eq_some_iff.mp hz).1
        rw [List.drop_eq_getElem_cons hlt, List.getElem_map, (List.getElem?_eq_some_iff.mp hz).2]
      rw [ed] at eu
      have eu2 : tot + (seg (fun y => pw pr (d + y)) (max z.2.1 rch) (z.2.1 + z.2.2) + uni (fun y => pw pr (d + y)) (max rch (z.2.1 + z.2.2)) ((ws.map fun z => (z.2.1, z.2.1 + z.2.2)).drop (i + 1))) = uni (fun y => pw pr (d + y)) 0 (ws.map fun z => (z.2.1, z.2.1 + z.2.2)) := eu
      refine ⟨_, rfl, z.1, _, _, _, rfl, rfl, hzT, rfl, _, rfl, _, _, rfl, ?_⟩
      rw [max_if]
      refine ⟨_, rfl, z.1, _, _, _, rfl, rfl, hzT, rfl, _, rfl, z.1, _, _, _, rfl, rfl, hzT, rfl, _, _, rfl, rfl, _, _, rfl, ⟨by omega, by omega, by omega, by omega⟩, ?_⟩
      refine for_range (lo := max z.2.1 rch) (n := (z.2.1 + z.2.2 - max z.2.1 rch).toNat) (fun m σ H4 => H4 = H3 ∧ ∃ y2 : Option V, σ = [some (.ref a), some (.ref b), some (.int d), some (.int ((pr.map V.int).length : Int)), some (.ref p), some (.int (tot + seg (fun y => pw pr (d + y)) (max z.2.1 rch) (max z.2.1 rch + m))), some (.int rch), some (.ref z.1), y2, y3])
        ⟨rfl, y2, ?_⟩ ?_ ?_
      · have e0 : max z.2.1 rch + ((0 : Nat) : Int) = max z.2.1 rch := by omega
        rw [e0, seg_nil _ (Int.le_refl _), Int.add_zero]
        rfl
      · rintro m σ H4 hm ⟨rfl, y2, rfl⟩
        refine ⟨_, rfl, .ref a, rfl, _, rfl, _, rfl, _, _, rfl, rfl, .inl ⟨_, rfl, _, rfl, _, _, rfl, rfl, ?_, a, _, _, _, rfl, rfl, hA2, wmod _, _, _, rfl, rfl, rfl, ?_⟩⟩
        · rw [List.length_map]
          show (0 : Int) < (pr.length : Int)
          omega
        · refine ⟨some (.int (max z.2.1 rch + m)), ?_⟩
          have e1 : max z.2.1 rch + ((m + 1 : Nat) : Int) = max z.2.1 rch + m + 1 := by omega
          rw [e1, seg_snoc _ (by omega), ← Int.add_assoc tot]
          rfl
      · rintro σ H4 ⟨rfl, y2, rfl⟩
        refine ⟨_, rfl, _, rfl, z.1, _, _, _, rfl, rfl, hzT, rfl, _, rfl, z.1, _, _, _, rfl, rfl, hzT, rfl, _, _, rfl, rfl, _, _, rfl, ?_⟩
        rw [max_if]
        refine ⟨rfl, _, _, _, _, _, rfl, by omega, by omega, ?_⟩
        by_cases hle : max z.2.1 rch ≤ z.2.1 + z.2.2
        · have e2 : max z.2.1 rch + (((z.2.1 + z.2.2 - max z.2.1 rch).toNat : Nat) : Int) = z.2.1 + z.2.2 := by omega
          rw [e2]
          omega
        · have e2 : max z.2.1 rch + (((z.2.1 + z.2.2 - max z.2.1 rch).toNat : Nat) : Int) = max z.2.1 rch := by omega
          rw [seg_nil _ (by omega)] at eu2
          rw [e2, seg_nil _ (Int.le_refl _)]
          omega
    · rintro σ H3 ⟨rfl, tot, rch, y1, y2, y3, rfl, r0, r1, eu⟩
      rw [List.drop_eq_nil_of_le (by unfold refT; rw [List.length_map, List.length_map]; exact Nat.le_refl _)] at eu
      have eU : U pr (zs.map (·.2)) d = tot := by
        have e3 : tot = uni (fun y => pw pr (d + y)) 0 (ws.map fun z => (z.2.1, z.2.1 + z.2.2)) := by
          rw [← eu]
          exact (Int.add_zero tot).symm
        rw [e3]
        unfold U
        have hpos : ∀ s ∈ zs.map (·.2), 1 ≤ s.2 := fun s hs => by
          obtain ⟨z, hz, rfl⟩ := List.mem_map.mp hs
          exact (hz1 z hz).1
        refine (uni_law (by omega) (List.pairwise_map.mpr ((List.pairwise_map.mp srt).imp fun h => by show _ ≤ _; omega)) (fun o e => ?_) (fun s hs => ?_)).symm
        · rw [stOf_mem (P := fun u v => o = (u - d) % (pr.length : Int) ∧ e = o + v) hpos]
          constructor
          · intro hm
            obtain ⟨z, hz, e4⟩ := List.mem_map.mp hm
            injection e4 with e5 e6
            have h1 : z.2 ∈ ys.map (·.2) := List.mem_map_of_mem (pm.mem_iff.mp hz)
            rw [em2] at h1
            obtain ⟨y, hy, e7⟩ := List.mem_map.mp h1
            refine ⟨y.2, List.mem_map_of_mem hy, ?_, ?_⟩
            · rw [← e5, ← e7]
            · rw [← e6, ← e5, ← e7]
          · rintro ⟨s, hs, e5, e6⟩
            obtain ⟨y, hy, rfl⟩ := List.mem_map.mp hs
            have h1 : ((y.2.1 - d) % (pr.length : Int), y.2.2) ∈ ys.map (·.2) := by
              rw [em2]
              exact List.mem_map_of_mem (f := fun z : Addr × Int × Int => ((z.2.1 - d) % (pr.length : Int), z.2.2)) hy
            obtain ⟨z, hz, e7⟩ := List.mem_map.mp h1
            refine List.mem_map.mpr ⟨z, pm.mem_iff.mpr hz, ?_⟩
            rw [e7, e6, e5]
        · obtain ⟨t, ht, rfl⟩ := List.mem_map.mp hs
          obtain ⟨z, hz, rfl⟩ := List.mem_map.mp ht
          have := hz1 z hz
          show (pr.length : Int) + ((z.2.2.toNat : Nat) : Int) ≤ ((3000 : Nat) : Int)
          omega
      rw [← eU]
      exact ⟨_, rfl, q H3 sm2⟩
end
end K57

namespace K57
open PySem PySem.Spec PyProof.Rows L2 Fw Lay
section
variable {P : Program} {w : World} {K : PySem.W.Frag} {mg : Str → Option Value} {base : Heap}
theorem ok_check_stays (T : Txt K mg) : Good P w K mg base 1 (He.ga K "check_stays") ["ring", "stays"] [] (sp_check_stays K) := by
  refine good_of T.f_check_stays sc_check_stays (fun vs H Q E h => ?_) (fun _ _ _ _ _ _ us hl => match us, hl with | [_, _], _ => rfl) (fun cdv A outer s H vs Q E hr h => ?_)
  · obtain ⟨_, _, _, _, _, rfl, _⟩ := h
    rfl
  refine ⟨_, (pss_one (ps_for PassesOwn.never rfl (pi_enum (by rfl) T.z_enumerate (pa_cons (pv 1) pa_nil)) (pg_tup rfl (pgs_cons (pg_name (i := 2) sc_check_stays.nd rfl (Or.inl rfl)) (pgs_cons (pg_name (i := 3) sc_check_stays.nd rfl (Or.inl rfl)) pgs_nil)))
    (pss_one (ps_if (pw_or (pt_cmpR op_notIn_seq (pe_ix ix_tup (pv 3) pe_int (fun _ _ => rfl)) (pe_fld (pv 0) rfl) (by rfl)) (pw_or1 (pt_cmpR op_lt (pe_ix ix_tup (pv 3) pe_int (fun _ _ => rfl)) pe_int (nomark _)))).pt
    (pss_one ps_never)
    pss_nil)))), ?_⟩
  obtain ⟨r, b, pr, ds, zs, rfl, hR, hS, hT, hO, q⟩ := h
  refine ⟨.ref b, rfl, b, _, rfl, hS, for_it (walk_enum (K := K) (a := b) (xs := refT zs)) (fun i σ H2 => Same H H2 ∧ ∃ y1 y2, σ = [some (.ref r), some (.ref b), y1, y2]) ⟨Same.refl H, none, none, rfl⟩ (fun i σ H2 _ hp => hp.1.seq hS) ?_ ?_⟩
  · rintro i x σ H2 H3 hi ⟨sm, y1, y2, rfl⟩ ⟨t, x1, x2, rfl, nt, rfl, e1, e2⟩
    obtain ⟨z, hz, hzm, rfl⟩ := refT_get e2
    obtain rfl : V.int (i : Nat) = x1 := Option.some.inj e1
    have s3 := sm.trans (same_new (o := .tup [.int (i : Nat), .ref z.1]) nt)
    have hzT := SqT.of (K := K) (hT.same s3 z hzm)
    obtain ⟨dx, pa, da, na, sa, h1, h2, h3, h4⟩ := hR.same s3
    have ho := hO.2 z.2 (List.mem_map_of_mem hzm)
    refine ⟨t, _, rfl, SqT.of upd_same, rfl, _, _, rfl, _, _, rfl, rfl, ?_⟩
    refine ⟨_, rfl, z.1, _, _, _, rfl, rfl, hzT, rfl, _, rfl, r, _, dx, _, _, rfl, h1, T.cl_Ring, T.na_Ring_doors, rfl, da, _, rfl, .inr (SqT.of h3), rfl, ?_, ?_⟩
    · rw [List.all_map]
      exact List.all_eq_true.mpr fun d _ => rfl
    have hin : inV (.int z.2.1) (ds.map V.int) = true := by
      unfold inV
      rw [List.any_map]
      exact List.any_eq_true.mpr ⟨z.2.1, ho.1, decide_eq_true rfl⟩
    refine ⟨_, rfl, ?_⟩
    show (if (!inV (.int z.2.1) (ds.map V.int)) = true then _ else _)
    rw [hin]
    refine iteF ?_
    refine ⟨_, rfl, z.1, _, _, _, rfl, rfl, hzT, rfl, _, _, rfl, rfl, _, rfl, ifF (by omega) ⟨s3, _, _, rfl⟩⟩
  · rintro σ H2 ⟨sm, y1, y2, rfl⟩
    exact q H2 sm
theorem ok_l_seed (T : Txt K mg) : Good P w K mg base 2 (He.ga K "_law_seed") ["_law_script", "_law_k"] [] (sp_l_seed K) := by
  refine good_of T.f_l_seed sc_l_seed (fun vs H Q E h => ?_) (fun _ _ _ _ _ _ us hl => match us, hl with | [_, _], _ => rfl) (fun cdv A outer s H vs Q E hr h => ?_)
  · obtain ⟨_, _, _, rfl, _⟩ := h
    rfl
  refine ⟨_, (pss_cons (ps_if (pt_cmpR op_lt (pv 1) (pe_callB call_len_seq (by rfl) T.z_len (by decide +kernel) (pa_cons (pv 0) pa_nil)) (nomark _))
    (pss_one (ps_ret (pe_callB call_abs (by rfl) T.z_abs (by decide +kernel) (pa_cons (pe_ix ix_list (pv 0) (pv 1) (fun _ _ => rfl)) pa_nil))))
    pss_nil)
  (pss_one (ps_ret (pe_ix ix_list (pe_cg (ok_l_digits T) (hr.mono (j := 1) (by decide)) (by rfl) T.g_l_digits (pa_cons (pe_op op_add (pe_op op_add (pe_cg (ok_l_cell T) (hr.mono (j := 1) (by decide)) (by rfl) T.g_l_cell (pa_cons (pv 0) (pa_cons pe_int pa_nil))) (pe_op op_mul pe_int (pv 1))) pe_int) (pa_cons pe_int (pa_cons (pe_op op_pow pe_int pe_int) pa_nil)))) pe_int (fun _ _ => rfl))))), ?_⟩
  obtain ⟨a, ns, k, rfl, hS, hk, q⟩ := h
  refine ⟨_, rfl, .ref a, rfl, a, _, rfl, .inl hS, _, _, rfl, rfl, _, rfl, if2 (fun e => ?_) (fun e => ?_)⟩
  · have lt : k < ns.length := by
      rw [List.length_map] at e
      omega
    refine ⟨.ref a, rfl, _, rfl, a, _, _, _, rfl, rfl, hS, atI_nat (get_map (List.getElem?_eq_getElem lt)), _, rfl, ?_⟩
    refine q _ H ?_ (Same.refl H)
    split <;> omega
  · refine ⟨.ref a, rfl, a, ns, 0, rfl, hS, fun c hc => ?_⟩
    refine ⟨_, rfl, _, _, rfl, rfl, .inl ⟨by decide, by decide⟩, _, _, rfl, rfl, _, _, rfl, rfl, _, _, rfl, rfl, ⟨by decide, by decide, by decide⟩, _, _, 1, rfl, by omega, by decide, by decide, by decide, fun H2 p ds sm np hp len bd => ?_⟩
    obtain ⟨d, rfl⟩ := List.length_eq_one_iff.mp len
    exact ⟨p, _, 0, _, rfl, rfl, SqL.of hp, rfl, q d H2 (bd d (List.mem_singleton.mpr rfl)).1 sm⟩
theorem ok_piece_price (T : Txt K mg) : Good P w K mg base 2 (He.ga K "piece_price") ["ring", "first", "behind"] [] (sp_piece_price K) := by
  refine good_of T.f_piece_price sc_piece_price (fun vs H Q E h => ?_) (fun _ _ _ _ _ _ us hl => match us, hl with | [_, _, _], _ => rfl) (fun cdv A outer s H vs Q E hr h => ?_)
  · obtain ⟨_, _, _, _, _, rfl, _⟩ := h
    rfl
  refine ⟨_, (pss_cons (ps_set (i := 3) sc_piece_price.nd rfl (Or.inl rfl) (pe_op op_fdiv (pe_op op_sub (pv 2) (pv 1)) (pe_fld (pv 0) rfl)))
  (pss_cons (ps_set (i := 4) sc_piece_price.nd rfl (Or.inl rfl) (pe_op op_mul (pv 3) (pe_mtg0 (pv 0) T.cl_Ring T.me_Ring_whole (ok_Ring_whole T) (hr.mono (j := 1) (by decide)))))
  (pss_cons (ps_for PassesOwn.never rfl (pi_range2 (by rfl) T.z_range (pa_cons (pe_op op_add (pv 1) (pe_op op_mul (pv 3) (pe_fld (pv 0) rfl))) (pa_cons (pv 2) pa_nil))) (pg_name (i := 5) sc_piece_price.nd rfl (Or.inl rfl))
    (pss_one (ps_aug (i := 4) sc_piece_price.nd rfl (Or.inl rfl) (pe_ix ix_tup (pe_fld (pv 0) rfl) (pe_op op_mod (pv 5) (pe_fld (pv 0) rfl)) (fun _ _ => rfl)) ip_add)))
  (pss_one (ps_ret (pv 4)))))), ?_⟩
  obtain ⟨r, pr, ds, a, b, rfl, hR, ⟨p0, p1, p2⟩, a0, ab, b1, q⟩ := h
  obtain ⟨dx, pa, da, na, sa, h1, h2, h3, h4⟩ := id hR
  have hk : (0 : Int) < (pr.length : Int) := by omega
  have hper := pw_per pr
  have hd0 : 0 ≤ (b - a) / (pr.length : Int) := Int.ediv_nonneg (by omega) (by omega)
  have hd1 : (b - a) / (pr.length : Int) ≤ b - a := Int.ediv_le_self _ (by omega)
  have hm0 : (b - a) / (pr.length : Int) * pr.length ≤ b - a := Int.ediv_mul_le _ (by omega)
  have hm1 : 0 ≤ (b - a) / (pr.length : Int) * pr.length := Int.mul_nonneg hd0 (by omega)
  have hwhole : seg (pw pr) 0 (pr.length : Int) = pr.sum := by
    unfold seg
    have e0 : ((pr.length : Int) - 0).toNat = pr.length := by omega
    rw [e0]
    congr 1
    refine List.ext_getElem (by rw [List.length_map, List.length_range]) fun n n1 n2 => ?_
    rw [List.getElem_map, List.getElem_range]
    unfold pw
    rw [Int.zero_add, Int.emod_eq_of_lt (by omega) (by omega), List.getD_eq_getElem?_getD, Int.toNat_natCast, List.getElem?_eq_getElem n2]
    rfl
  refine ⟨_, rfl, _, rfl, _, _, rfl, rfl, _, rfl, r, _, dx, _, _, rfl, h1, T.cl_Ring, T.na_Ring_size, rfl, _, _, rfl, rfl, ⟨by omega, by omega⟩, ?_⟩
  refine ⟨_, rfl, _, rfl, r, dx, _, rfl, h1, rfl, r, pr, ds, rfl, hR, _, _, rfl, rfl, .inl ⟨by omega, by omega⟩, ?_⟩
  refine ⟨_, rfl, _, rfl, _, rfl, r, _, dx, _, _, rfl, h1, T.cl_Ring, T.na_Ring_size, rfl, _, _, rfl, rfl, .inl ⟨by omega, by omega⟩, _, _, rfl, rfl, _, rfl, _, _, rfl, ⟨by omega, by omega, by omega, by omega⟩, ?_⟩
  refine for_range (lo := a + (b - a) / (pr.length : Int) * pr.length) (n := (b - (a + (b - a) / (pr.length : Int) * pr.length)).toNat) (fun m σ H2 => H2 = H ∧ ∃ y : Option V, σ = [some (.ref r), some (.int a), some (.int b), some (.int ((b - a) / (pr.length : Int))), some (.int ((b - a) / (pr.length : Int) * pr.sum + seg (pw pr) (a + (b - a) / (pr.length : Int) * pr.length) (a + (b - a) / (pr.length : Int) * pr.length + m))), y])
    ⟨rfl, none, ?_⟩ ?_ ?_
  · have e0 : a + (b - a) / (pr.length : Int) * pr.length + ((0 : Nat) : Int) = a + (b - a) / (pr.length : Int) * pr.length := by omega
    rw [e0, seg_nil _ (Int.le_refl _), Int.add_zero]
    rfl
  · rintro m σ H2 hm ⟨rfl, y, rfl⟩
    have wmod : ∀ c, atI (pr.map V.int) (c % (pr.length : Int)) = some (.int (pw pr c)) := fun c => pw_at p0 c
    refine ⟨_, rfl, _, rfl, r, _, dx, _, _, rfl, h1, T.cl_Ring, T.na_Ring_prices, rfl, _, rfl, _, rfl, r, _, dx, _, _, rfl, h1, T.cl_Ring, T.na_Ring_size, rfl, _, _, rfl, rfl, hk, pa, _, _, _, rfl, rfl, SqT.of h2, wmod _, _, _, rfl, rfl, rfl, some (.int (a + (b - a) / (pr.length : Int) * pr.length + m)), ?_⟩
    · have e1 : a + (b - a) / (pr.length : Int) * pr.length + ((m + 1 : Nat) : Int) = a + (b - a) / (pr.length : Int) * pr.length + m + 1 := by omega
      rw [e1, seg_snoc _ (by omega), ← Int.add_assoc ((b - a) / (pr.length : Int) * pr.sum)]
      rfl
  · rintro σ H2 ⟨rfl, y, rfl⟩
    have e2 : a + (b - a) / (pr.length : Int) * pr.length + (((b - (a + (b - a) / (pr.length : Int) * pr.length)).toNat : Nat) : Int) = b := by omega
    have e3 := seg_piece hk hper ab
    rw [hwhole] at e3
    rw [e2, e3]
    exact ⟨_, rfl, q⟩
end
end K57

namespace K57
open PySem PySem.Spec PyProof.Rows L2 Fw Lay
section
variable {P : Program} {w : World} {K : PySem.W.Frag} {mg : Str → Option Value} {base : Heap}
theorem ok_l_prices (T : Txt K mg) : Good P w K mg base 2 (He.ga K "_law_prices") ["_law_cell_here", "_law_count", "_law_choice"] [] (sp_l_prices K) := by
  refine good_of T.f_l_prices sc_l_prices (fun vs H Q E h => ?_) (fun _ _ _ _ _ _ us hl => match us, hl with | [_, _, _], _ => rfl) (fun cdv A outer s H vs Q E hr h => ?_)
  · obtain ⟨_, _, _, rfl, _⟩ := h
    rfl
  refine ⟨_, (pss_cons (ps_set (i := 3) sc_l_prices.nd rfl (Or.inl rfl) (pe_cg (ok_l_digits T) (hr.mono (j := 1) (by decide)) (by rfl) T.g_l_digits (pa_cons (pv 0) (pa_cons (pv 1) (pa_cons (pe_op op_pow pe_int pe_int) pa_nil)))))
  (pss_cons (ps_if (pt_cmpR op_eq (pv 2) pe_int (nomark _))
    (pss_one (ps_ret (pe_op op_rep (pe_lst (pa_cons pe_int pa_nil)) (pv 1))))
    pss_nil)
  (pss_cons (ps_if (pt_cmpR op_eq (pv 2) pe_int (nomark _))
    (pss_one (ps_ret (pe_lc (own := [("_law_digit", 4)]) (g := (gName 4)) (tt := tYes) rfl sc_l_prices.nd (pi_list (pv 3)) (blkOk_by (own := [("_law_digit", 4)]) (N := ["_law_cell_here", "_law_count", "_law_choice", "_law_row", "_law_digit"]) (sc := defScope s_l_prices) (by decide +kernel)) (fun _ _ _ _ _ => (pg_name (i := 4) sc_l_prices.nd rfl (Or.inl rfl))) (fun _ _ _ _ _ => pts_nil) (fun _ _ _ _ _ => (pe_op op_add pe_int (pe_op op_mod (pe_callTy call_int1 (by rfl) T.z_int (by decide +kernel) (pa_cons (pv 4) pa_nil)) pe_int))))))
    pss_nil)
  (pss_cons (ps_if (pt_cmpR op_eq (pv 2) pe_int (nomark _))
    (pss_one (ps_ret (pe_lc (own := [("_law_digit", 4)]) (g := (gName 4)) (tt := tYes) rfl sc_l_prices.nd (pi_list (pv 3)) (blkOk_by (own := [("_law_digit", 4)]) (N := ["_law_cell_here", "_law_count", "_law_choice", "_law_row", "_law_digit"]) (sc := defScope s_l_prices) (by decide +kernel)) (fun _ _ _ _ _ => (pg_name (i := 4) sc_l_prices.nd rfl (Or.inl rfl))) (fun _ _ _ _ _ => pts_nil) (fun _ _ _ _ _ => (pe_op op_add pe_int (pe_op op_mod (pe_callTy call_int1 (by rfl) T.z_int (by decide +kernel) (pa_cons (pv 4) pa_nil)) pe_int))))))
    pss_nil)
  (pss_one (ps_ret (pe_lc (own := [("_law_digit", 4)]) (g := (gName 4)) (tt := tYes) rfl sc_l_prices.nd (pi_list (pv 3)) (blkOk_by (own := [("_law_digit", 4)]) (N := ["_law_cell_here", "_law_count", "_law_choice", "_law_row", "_law_digit"]) (sc := defScope s_l_prices) (by decide +kernel)) (fun _ _ _ _ _ => (pg_name (i := 4) sc_l_prices.nd rfl (Or.inl rfl))) (fun _ _ _ _ _ => pts_nil) (fun _ _ _ _ _ => (pe_op op_add pe_int (pv 4)))))))))), ?_⟩
  obtain ⟨c, ch, n, rfl, c0, n1, q⟩ := h
  refine ⟨_, rfl, _, rfl, _, _, rfl, rfl, ⟨by decide, by decide, by decide⟩, c, _, n, rfl, c0, by omega, by decide, by decide, fun H2 p ds sm np hp len bd => ?_⟩
  refine ⟨_, rfl, rfl, _, rfl, if2 (fun e1 => ?_) (fun e1 => ?_)⟩
  · refine ⟨by show 1 ≤ sizeLine; decide, fun o no => ?_⟩
    refine ⟨_, rfl, o, _, _, rfl, rfl, upd_same, by omega, by omega, ?_, fun be nbe => ?_⟩
    · rw [sizeLine_eq]
      show 1 * ((n : Nat) : Int).toNat ≤ 16777216
      omega
    refine q _ be (List.replicate n 1) ((sm.trans (same_new no)).trans (same_new nbe)) ((sm.trans (same_new no)).free nbe) ?_ (List.length_replicate ..) (fun x hx => ?_)
    · rw [upd_same, List.flatten_replicate_singleton]
      unfold ilst
      rw [List.map_replicate]
      rfl
    · rw [List.eq_of_mem_replicate hx]
      exact Int.le_refl _
  have go : ∀ (f : Int → Int), (∀ d ∈ ds, 1 ≤ f d) → ∀ (D : Addr) (H3 : Hp), H2 D = none → Same H2 H3 → H3 D = some (ilst (ds.map f)) → Q (.ref D) H3 := fun f hf D H3 nD s3 hD => by
    refine q H3 D (ds.map f) (sm.trans s3) (sm.free nD) hD (by rw [List.length_map, len]) fun x hx => ?_
    obtain ⟨d, hd, rfl⟩ := List.mem_map.mp hx
    exact hf d hd
  have hS : ∀ {H3 : Hp}, Same H2 H3 → SqL K H3 p (ds.map V.int) := fun s => SqL.of (s _ _ hp)
  have push : ∀ (f : Int → Int) (D : Addr) (i : Nat) (d : Int) (H3 : Hp), H2 D = none → Same H2 H3 → H3 D = some (ilst ((ds.take i).map f)) → ds[i]? = some d →
      ((ds.take i).map f |>.map V.int).length < sizeLine ∧ Same H2 (upd H3 D (.lst (((ds.take i).map f).map V.int ++ [.int (f d)]))) ∧ upd H3 D (.lst (((ds.take i).map f).map V.int ++ [.int (f d)])) D = some (ilst ((ds.take (i + 1)).map f)) := fun f D i d H3 nD s3 hD hd => by
    refine ⟨small1000 (by rw [List.length_map, List.length_map, List.length_take]; omega), same_mut s3 nD, ?_⟩
    rw [upd_same, List.take_add_one, hd, List.map_append]
    unfold ilst
    rw [List.map_append]
    rfl
  have tk : ds.take ((ds.map V.int).length) = ds := List.take_of_length_le (by rw [List.length_map]; exact Nat.le_refl _)
  refine ⟨_, rfl, rfl, _, rfl, if2 (fun e2 => ?_) (fun e2 => ?_)⟩
  · refine ⟨.ref p, rfl, p, rfl, ⟨_, hS (Same.refl _)⟩, fun D hD => lc_list (K := K) (a := p) (xs := ds.map V.int) (fun i H3 => Same H2 H3 ∧ H3 D = some (ilst ((ds.take i).map fun d => 1 + d % 3))) ⟨same_new hD, upd_same⟩ (fun i H3 _ hp => hS hp.1) ?_ ?_⟩
    · rintro i x H3 hi ⟨s3, h3⟩
      obtain ⟨d, hd, rfl⟩ := map_get hi
      obtain ⟨r1, r2, r3⟩ := push (fun d => 1 + d % 3) D i d H3 hD s3 h3 hd
      exact ⟨rfl, yes_then ⟨_, rfl, .inl ⟨_, rfl, _, _, rfl, rfl, (by show (0 : Int) < 3; decide), _, _, rfl, rfl, _, h3, r1, r2, r3⟩⟩⟩
    · rintro H3 ⟨s3, h3⟩
      rw [tk] at h3
      exact go _ (fun d _ => by omega) D H3 hD s3 h3
  refine ⟨_, rfl, rfl, _, rfl, if2 (fun e3 => ?_) (fun e3 => ?_)⟩
  · refine ⟨.ref p, rfl, p, rfl, ⟨_, hS (Same.refl _)⟩, fun D hD => lc_list (K := K) (a := p) (xs := ds.map V.int) (fun i H3 => Same H2 H3 ∧ H3 D = some (ilst ((ds.take i).map fun d => 1 + d % 9))) ⟨same_new hD, upd_same⟩ (fun i H3 _ hp => hS hp.1) ?_ ?_⟩
    · rintro i x H3 hi ⟨s3, h3⟩
      obtain ⟨d, hd, rfl⟩ := map_get hi
      obtain ⟨r1, r2, r3⟩ := push (fun d => 1 + d % 9) D i d H3 hD s3 h3 hd
      exact ⟨rfl, yes_then ⟨_, rfl, .inl ⟨_, rfl, _, _, rfl, rfl, (by show (0 : Int) < 9; decide), _, _, rfl, rfl, _, h3, r1, r2, r3⟩⟩⟩
    · rintro H3 ⟨s3, h3⟩
      rw [tk] at h3
      exact go _ (fun d _ => by omega) D H3 hD s3 h3
  · refine ⟨.ref p, rfl, p, rfl, ⟨_, hS (Same.refl _)⟩, fun D hD => lc_list (K := K) (a := p) (xs := ds.map V.int) (fun i H3 => Same H2 H3 ∧ H3 D = some (ilst ((ds.take i).map fun d => 1 + d))) ⟨same_new hD, upd_same⟩ (fun i H3 _ hp => hS hp.1) ?_ ?_⟩
    · rintro i x H3 hi ⟨s3, h3⟩
      obtain ⟨d, hd, rfl⟩ := map_get hi
      obtain ⟨r1, r2, r3⟩ := push (fun d => 1 + d) D i d H3 hD s3 h3 hd
      exact ⟨rfl, yes_then ⟨_, rfl, _, _, rfl, rfl, _, h3, r1, r2, r3⟩⟩
    · rintro H3 ⟨s3, h3⟩
      rw [tk] at h3
      exact go _ (fun d hd => by have := bd d hd; omega) D H3 hD s3 h3
theorem ok_l_gates (T : Txt K mg) : Good P w K mg base 2 (He.ga K "_law_gates") ["_law_cell_here", "_law_size"] [] (sp_l_gates K) := by
  refine good_of T.f_l_gates sc_l_gates (fun vs H Q E h => ?_) (fun _ _ _ _ _ _ us hl => match us, hl with | [_, _], _ => rfl) (fun cdv A outer s H vs Q E hr h => ?_)
  · obtain ⟨_, _, rfl, _⟩ := h
    rfl
  refine ⟨_, (pss_cons (ps_set (i := 2) sc_l_gates.nd rfl (Or.inr rfl) (pe_cg (ok_l_digits T) (hr.mono (j := 1) (by decide)) (by rfl) T.g_l_digits (pa_cons (pv 0) (pa_cons (pe_op op_add (pv 1) pe_int) (pa_cons pe_int pa_nil)))))
  (pss_cons (ps_if (pt_cmpR op_eq (pe_op op_mod (pe_callTy call_int1 (by rfl) T.z_int (by decide +kernel) (pa_cons (pe_op op_fdiv (pe_ix ix_list (pv 2) pe_int (fun _ _ => rfl)) pe_int) pa_nil)) pe_int) pe_int (nomark _))
    (pss_one (ps_ret (pe_listRg rfl (by rfl) T.z_list (prg_1 (by rfl) T.z_range (pv 1)))))
    pss_nil)
  (pss_cons (ps_setLc (i := 3) (own := [("_law_place", 4)]) (g := (gName 4)) rfl sc_l_gates.nd rfl rfl (sw_true rfl rfl rfl (by decide +kernel)) (pi_range1 (by rfl) T.z_range (pa_cons (pv 1) pa_nil)) (blkOk_by (own := [("_law_place", 4)]) (N := ["_law_cell_here", "_law_size", "_law_row", "_law_gates_here", "_law_place"]) (sc := defScope s_l_gates) (by decide +kernel)) (fun _ _ _ _ _ => (pg_name (i := 4) sc_l_gates.nd rfl (Or.inl rfl))) (fun _ _ _ _ _ => (pts_one (pt_cmpR op_eq (pe_op op_mod (pe_callTy call_int1 (by rfl) T.z_int (by decide +kernel) (pa_cons (pe_ix (ix_listE (K := K) rfl) (pv 2) (pe_op op_add pe_int (pv 4)) (fun _ _ => rfl)) pa_nil)) pe_int) pe_int (nomark _)))) (fun _ _ _ _ _ => (pv 4)))
  (pss_cons (ps_if (pt_cmpR op_eq (pe_callB call_len_seq (by rfl) T.z_len (by decide +kernel) (pa_cons (pv 3) pa_nil)) pe_int (nomark _))
    (pss_one (ps_ret (pe_lst (pa_cons (pe_op op_mod (pe_callTy call_int1 (by rfl) T.z_int (by decide +kernel) (pa_cons (pe_ix ix_list (pv 2) pe_int (fun _ _ => rfl)) pa_nil)) (pv 1)) pa_nil))))
    pss_nil)
  (pss_one (ps_ret (pv 3))))))), ?_⟩
  obtain ⟨c, n, rfl, c0, n0, n1, q⟩ := h
  refine ⟨_, rfl, _, rfl, _, _, rfl, rfl, c, _, n + 1, rfl, c0, by omega, by decide, by decide, fun H2 p ds sm np hp len bd => ?_⟩
  have g0 : ∀ j : Nat, j < n + 1 → ∃ d, (ds.map V.int)[j]? = some (.int d) := fun j hj => ⟨_, get_map (List.getElem?_eq_getElem (by omega : j < ds.length))⟩
  obtain ⟨d0, hd0⟩ := g0 0 (by omega)
  have hS : ∀ {H3 : Hp}, Same H2 H3 → SqL K H3 p (ds.map V.int) := fun s => SqL.of (s _ _ hp)
  refine ⟨.ref p, rfl, p, _, 0, _, rfl, rfl, SqL.of hp, atI_nat (j := 0) hd0, _, _, rfl, rfl, ⟨by decide, by decide⟩, .inl ⟨_, rfl, _, _, rfl, rfl, (by show (0 : Int) < 2; decide), rfl, _, rfl, if2 (fun e => ?_) (fun e => ?_)⟩⟩
  · refine ⟨_, rfl, n, rfl, RgOk.of_le (by omega) (by omega) (by omega) (by omega), fun o no => ?_⟩
    refine q _ o ((List.range n).map fun i : Nat => (i : Int)) (sm.trans (same_new no)) (sm.free no) ?_ ⟨?_, ?_, ?_⟩
    · rw [upd_same]
      unfold ilst rgV
      rw [List.map_map]
      have e1 : ((n : Int) - 0).toNat = n := by omega
      rw [e1]
      congr 2
      refine List.map_congr_left fun i _ => ?_
      show V.int (0 + (i : Int)) = V.int (i : Int)
      rw [Int.zero_add]
    · intro e1
      have e2 := List.map_eq_nil_iff.mp e1
      have e3 := congrArg List.length e2
      rw [List.length_range] at e3
      simp at e3
      omega
    · refine List.pairwise_map.mpr (List.pairwise_lt_range.imp fun h => ?_)
      omega
    · intro d hd
      obtain ⟨i, hi, rfl⟩ := List.mem_map.mp hd
      have := List.mem_range.mp hi
      omega
  refine ⟨_, rfl, (n : Int), rfl, by omega, by omega, fun D hD => lc_range (n := n) (fun i H3 => Same H2 H3 ∧ ∃ es : List Int, H3 D = some (ilst es) ∧ es.Pairwise (· < ·) ∧ es.length ≤ i ∧ ∀ e ∈ es, 0 ≤ e ∧ e < (i : Int)) ⟨same_new hD, [], upd_same, List.Pairwise.nil, Nat.le_refl _, fun e he => (nomatch he)⟩ ?_ ?_⟩
  · rintro i H3 hi ⟨s3, es, h3, pw, el, bd3⟩
    obtain ⟨d, hd⟩ := g0 (1 + i) (by omega)
    have ei : 1 + (0 + (i : Int)) = ((1 + i : Nat) : Int) := by omega
    refine ⟨rfl, .ref p, rfl, _, rfl, _, _, rfl, rfl, p, _, _, _, rfl, rfl, hS s3, by rw [ei]; exact atI_nat hd, .inl ⟨_, rfl, _, _, rfl, rfl, (by show (0 : Int) < 2; decide), rfl, _, rfl, if2 (fun e => ?_) (fun e => ?_)⟩⟩
    · refine ⟨_, rfl, _, h3, small1000 (by rw [List.length_map]; omega), same_mut s3 hD, es ++ [0 + (i : Int)], ?_, ?_, ?_, ?_⟩
      · rw [upd_same]
        unfold ilst
        rw [List.map_append]
        rfl
      · refine List.pairwise_append.mpr ⟨pw, List.pairwise_singleton _ _, fun x hx y hy => ?_⟩
        rw [List.mem_singleton.mp hy]
        have := bd3 x hx
        omega
      · rw [List.length_append]
        show es.length + 1 ≤ i + 1
        omega
      · intro x hx
        rcases List.mem_append.mp hx with hx | hx
        · have := bd3 x hx
          omega
        · rw [List.mem_singleton.mp hx]
          omega
    · exact ⟨s3, es, h3, pw, by omega, fun x hx => by have := bd3 x hx; omega⟩
  · rintro H3 ⟨s3, es, h3, pw, el, bd3⟩
    refine ⟨.ref D, rfl, D, _, rfl, .inl (SqL.of h3), rfl, _, rfl, if2 (fun e => ?_) (fun e => ?_)⟩
    · have hn : (0 : Int) < n := by omega
      refine ⟨.ref p, rfl, p, _, 0, _, rfl, rfl, hS s3, atI_nat (j := 0) hd0, .inl ⟨_, rfl, _, rfl, _, _, rfl, rfl, hn, by show 1 ≤ sizeLine; decide, fun o no => ?_⟩⟩
      refine q _ o [d0 % n] ((sm.trans s3).trans (same_new no)) ((sm.trans s3).free no) upd_same ⟨List.cons_ne_nil _ _, List.pairwise_singleton _ _, fun d hd => ?_⟩
      rw [List.mem_singleton.mp hd]
      exact ⟨Int.emod_nonneg _ (by omega), Int.emod_lt_of_pos _ hn⟩
    · refine ⟨.ref D, rfl, q H3 D es (sm.trans s3) (sm.free hD) h3 ⟨fun e0 => ?_, pw, bd3⟩⟩
      subst e0
      exact e rfl
end
end K57

namespace K57
open PySem PySem.Spec PyProof.Rows L2 Fw Lay
section
variable {P : Program} {w : World} {K : PySem.W.Frag} {mg : Str → Option Value} {base : Heap}
theorem ok_l_drawn (T : Txt K mg) : Good P w K mg base 2 (He.ga K "_law_drawn") ["_law_cell_here", "_law_gates_here", "_law_count", "_law_most"] [] (sp_l_drawn K) := by
  refine good_of T.f_l_drawn sc_l_drawn (fun vs H Q E h => ?_) (fun _ _ _ _ _ _ us hl => match us, hl with | [_, _, _, _], _ => rfl) (fun cdv A outer s H vs Q E hr h => ?_)
  · obtain ⟨_, _, _, _, _, rfl, _⟩ := h
    rfl
  refine ⟨_, (pss_cons (ps_set (i := 4) sc_l_drawn.nd rfl (Or.inl rfl) (pe_cg (ok_l_digits T) (hr.mono (j := 1) (by decide)) (by rfl) T.g_l_digits (pa_cons (pv 0) (pa_cons (pe_op op_mul pe_int (pv 2)) (pa_cons pe_int pa_nil)))))
  (pss_cons (ps_set (i := 5) sc_l_drawn.nd rfl (Or.inl rfl) (pe_lst pa_nil))
  (pss_cons (ps_for PassesOwn.never rfl (pi_range1 (by rfl) T.z_range (pa_cons (pv 2) pa_nil)) (pg_name (i := 6) sc_l_drawn.nd rfl (Or.inl rfl))
    (pss_one (ps_if (pw_and (pt_cmpR op_gt (pv 6) pe_int (nomark _)) (pw_and1 (pt_cmpR op_eq (pe_op op_mod (pe_callTy call_int1 (by rfl) T.z_int (by decide +kernel) (pa_cons (pe_ix ix_list (pv 4) (pe_op op_mul pe_int (pv 6)) (fun _ _ => rfl)) pa_nil)) pe_int) pe_int (nomark _)))).pt
    (pss_one (ps_expr (pe_bm PySem.F.plainAttrs_list PySem.F.slot_list_append PySem.F.type_list_append mt_append (pv 5) (pa_cons (pe_ix ix_list (pv 5) (pe_op op_mod (pe_callTy call_int1 (by rfl) T.z_int (by decide +kernel) (pa_cons (pe_ix ix_list (pv 4) (pe_op op_add (pe_op op_mul pe_int (pv 6)) pe_int) (fun _ _ => rfl)) pa_nil)) (pv 6)) (fun _ _ => rfl)) pa_nil))))
    (pss_one (ps_expr (pe_bm PySem.F.plainAttrs_list PySem.F.slot_list_append PySem.F.type_list_append mt_append (pv 5) (pa_cons (pe_tup (pa_cons (pe_ix ix_list (pv 1) (pe_op op_mod (pe_callTy call_int1 (by rfl) T.z_int (by decide +kernel) (pa_cons (pe_ix ix_list (pv 4) (pe_op op_add (pe_op op_mul pe_int (pv 6)) pe_int) (fun _ _ => rfl)) pa_nil)) (pe_callB call_len_seq (by rfl) T.z_len (by decide +kernel) (pa_cons (pv 1) pa_nil))) (fun _ _ => rfl)) (pa_cons (pe_op op_add pe_int (pe_op op_mod (pe_callTy call_int1 (by rfl) T.z_int (by decide +kernel) (pa_cons (pe_ix ix_list (pv 4) (pe_op op_add (pe_op op_mul pe_int (pv 6)) pe_int) (fun _ _ => rfl)) pa_nil)) (pv 3))) pa_nil))) pa_nil)))))))
  (pss_one (ps_ret (pv 5)))))), ?_⟩
  obtain ⟨c, a, gs, n, m, rfl, c0, hA, g0, g1, n1, m0, m1, q⟩ := h
  refine ⟨_, rfl, _, rfl, _, _, rfl, rfl, .inl ⟨by decide, by decide⟩, c, _, 3 * n, rfl, c0, by omega, by decide, by decide, fun H2 p ds sm np hp len bd => ?_⟩
  have gd : ∀ j : Nat, j < 3 * n → ∃ d, (ds.map V.int)[j]? = some (.int d) := fun j hj => ⟨_, get_map (List.getElem?_eq_getElem (by omega : j < ds.length))⟩
  have hR : ∀ {H3 : Hp}, Same H2 H3 → SqL K H3 p (ds.map V.int) := fun s => SqL.of (s _ _ hp)
  have hG : ∀ {H3 : Hp}, Same H2 H3 → SqL K H3 a (gs.map V.int) := fun s => (sm.trans s).seq hA
  have gl : (0 : Int) < ((gs.map V.int).length : Int) := by
    rw [List.length_map]
    have := List.length_pos_iff.mpr g0
    omega
  refine ⟨Nat.zero_le _, fun l nl => ?_⟩
  refine ⟨_, rfl, (n : Int), rfl, by omega, by omega, for_range (n := n) (fun i σ H3 => Same H2 H3 ∧ (∃ zs : Zs, H3 l = some (.lst (refT zs)) ∧ TL H3 zs ∧ zs.length = i ∧ ∀ z ∈ zs, z.2.1 ∈ gs ∧ 1 ≤ z.2.2 ∧ z.2.2 ≤ (m : Int)) ∧ ∃ y : Option V, σ = [some (.int c), some (.ref a), some (.int n), some (.int m), some (.ref p), some (.ref l), y])
    ⟨same_new nl, ⟨[], upd_same, TL.nil, rfl, fun z hz => (nomatch hz)⟩, none, rfl⟩ ?_ ?_⟩
  · rintro i σ H3 hi ⟨s3, ⟨zs, hL, hT, hzl, hz⟩, y, rfl⟩
    obtain ⟨d0, hd0⟩ := gd (3 * i) (by omega)
    obtain ⟨d1, hd1⟩ := gd (3 * i + 1) (by omega)
    obtain ⟨d2, hd2⟩ := gd (3 * i + 2) (by omega)
    have room : (refT zs).length < sizeLine := small1000 (by unfold refT; rw [List.length_map]; omega)
    refine ⟨_, rfl, _, _, rfl, rfl, _, rfl, if2 (fun e1 => ⟨.ref p, rfl, _, rfl, _, _, rfl, rfl, .inl ⟨by decide, by decide⟩, p, _, _, _, rfl, rfl, hR s3, atIe hd0 (by omega), .inl ⟨_, rfl, _, _, rfl, rfl, (by show (0 : Int) < 4; decide), rfl, _, rfl, if2 (fun e2 => ?A) (fun _ => ?B)⟩⟩) (fun _ => iteF ?B2)⟩
    case A =>
      have hi0 : (0 : Int) < 0 + (i : Int) := e1
      have hm0 := Int.emod_nonneg d1 (show (0 + (i : Int)) ≠ 0 by omega)
      have hm1 := Int.emod_lt_of_pos d1 hi0
      have hj : (d1 % (0 + (i : Int))).toNat < zs.length := by omega
      have hzg : (refT zs)[(d1 % (0 + (i : Int))).toNat]? = some (.ref zs[(d1 % (0 + (i : Int))).toNat].1) := by
        unfold refT
        rw [List.getElem?_map, List.getElem?_eq_getElem hj]
        rfl
      refine ⟨.ref l, rfl, .inl ⟨rfl, _, SqL.of hL⟩, .ref l, rfl, .ref p, rfl, _, rfl, _, _, rfl, rfl, .inl ⟨by decide, by decide⟩, _, _, rfl, rfl, p, _, _, _, rfl, rfl, hR s3, atIe hd1 (by omega), .inl ⟨_, rfl, _, rfl, _, _, rfl, rfl, hi0, l, _, _, _, rfl, rfl, SqL.of hL, atIe hzg (by omega), ?_⟩⟩
      refine ⟨l, _, _, rfl, rfl, hL, room, ?_⟩
      refine ⟨same_mut s3 nl, ⟨zs ++ [zs[(d1 % (0 + (i : Int))).toNat]], ?_, ?_, ?_, ?_⟩, _, rfl⟩
      · rw [upd_same]
        unfold refT
        rw [List.map_append]
        rfl
      · intro z hz2
        rcases List.mem_append.mp hz2 with h | h
        · exact hT.keep hL z h
        · rw [List.mem_singleton.mp h]
          exact hT.keep hL _ (List.getElem_mem hj)
      · rw [List.length_append, hzl]
        rfl
      · intro z hz2
        rcases List.mem_append.mp hz2 with h | h
        · exact hz z h
        · rw [List.mem_singleton.mp h]
          exact hz _ (List.getElem_mem hj)
    all_goals
      obtain ⟨g, hg, hga⟩ := at_mod g0 d1
      refine ⟨.ref l, rfl, .inl ⟨rfl, _, SqL.of hL⟩, .ref a, rfl, .ref p, rfl, _, rfl, _, _, rfl, rfl, .inl ⟨by decide, by decide⟩, _, _, rfl, rfl, p, _, _, _, rfl, rfl, hR s3, atIe hd1 (by omega), .inl ⟨_, rfl, .ref a, rfl, a, _, rfl, .inl (hG s3), _, _, rfl, rfl, gl, a, _, _, _, rfl, rfl, hG s3, hga, ?_⟩⟩
      refine ⟨.ref p, rfl, _, rfl, _, _, rfl, rfl, .inl ⟨by decide, by decide⟩, _, _, rfl, rfl, p, _, _, _, rfl, rfl, hR s3, atIe hd2 (by omega), .inl ⟨_, rfl, _, rfl, _, _, rfl, rfl, (by omega), _, _, rfl, rfl, (by show 2 ≤ sizeLine; decide), fun t nt => ?_⟩⟩
      refine ⟨l, _, _, rfl, rfl, (by rw [upd_ne (ne_of_none hL nt)]; exact hL), room, ?_⟩
      refine ⟨same_mut (s3.trans (same_new nt)) nl, ⟨zs ++ [(t, _, _)], ?_, hT.push hL nt, by rw [List.length_append, hzl]; rfl, fun z hz2 => ?_⟩, _, rfl⟩
      · rw [upd_same, refT_snoc]
      · rcases List.mem_append.mp hz2 with h | h
        · exact hz z h
        · rw [List.mem_singleton.mp h]
          have h1 := Int.emod_nonneg d2 (show (m : Int) ≠ 0 by omega)
          have h2 := Int.emod_lt_of_pos d2 (show (0 : Int) < (m : Int) by omega)
          refine ⟨hg, ?_, ?_⟩
          · show 1 ≤ 1 + d2 % (m : Int)
            omega
          · show 1 + d2 % (m : Int) ≤ (m : Int)
            omega
  · rintro σ H3 ⟨s3, ⟨zs, hL, hT, hzl, hz⟩, y, rfl⟩
    exact ⟨.ref l, rfl, q H3 l zs (sm.trans s3) (sm.free nl) hL hT hzl hz⟩
end
end K57

namespace K57
open PySem PySem.Spec PyProof.Rows L2 Fw Lay
section
variable {P : Program} {w : World} {K : PySem.W.Frag} {mg : Str → Option Value} {base : Heap}
theorem ok_Ring_init (T : Txt K mg) : Good P w K mg base 2 (He.ma K (He.ga K "Ring") "__init__") ["self", "prices", "doors", "nodes"] [.non] (sp_Ring_init K) := by
  refine good_kw (kws := [("nodes", .non)]) (n := 3) T.f_Ring_init sc_Ring_init (fun vs H Q E h => ?_) (List.cons_ne_nil _ _) rfl (fun D doc pm an cdv ct us ks h1 h2 => match us, ks, h1, h2 with | [_, _, _], [_], _, _ => ⟨_, _, _, _, _, _, rfl, rfl, rfl⟩) (fun cdv A outer s H vs Q E hr h => ?_)
  · obtain ⟨_, _, _, _, _, _, rfl, _⟩ := h
    rfl
  refine ⟨_, (pss_cons (ps_expr (pe_cg (ok_check_ring T) (hr.mono (j := 1) (by decide)) (by rfl) T.g_check_ring (pa_cons (pv 1) (pa_cons (pv 2) (pa_cons (pv 3) pa_nil)))))
  (pss_cons (ps_fld (pv 0) (pe_callB call_len_seq (by rfl) T.z_len (by decide +kernel) (pa_cons (pv 1) pa_nil)) rfl)
  (pss_cons (ps_fld (pv 0) (pe_callTy call_tuple_of (by rfl) T.z_tuple (by decide +kernel) (pa_cons (pv 1) pa_nil)) rfl)
  (pss_cons (ps_fld (pv 0) (pe_callTy call_tuple_of (by rfl) T.z_tuple (by decide +kernel) (pa_cons (pv 2) pa_nil)) rfl)
  (pss_cons (ps_if (pt_cmpR op_isN (pv 3) pe_non (nomark _))
    (pss_one (ps_fld (pv 0) (pe_tupRg rfl (by rfl) T.z_tuple (prg_1 (by rfl) T.z_range (pe_callB call_len_seq (by rfl) T.z_len (by decide +kernel) (pa_cons (pv 1) pa_nil)))) rfl))
    (pss_one (ps_fld (pv 0) (pe_callTy call_tuple_of (by rfl) T.z_tuple (by decide +kernel) (pa_cons (pv 3) pa_nil)) rfl)))
  (pss_one (ps_fld (pv 0) (pe_cg (ok_sums_of T) (hr.mono (j := 1) (by decide)) (by rfl) T.g_sums_of (pa_cons (pv 1) pa_nil)) rfl))))))), ?_⟩
  obtain ⟨r, dx, a, b, pr, ds, rfl, hr0, hA, hB, hP, hD, q⟩ := h
  have hl : pr.length ≤ 1000 := hP.2.1
  refine ⟨.ref a, rfl, .ref b, rfl, _, rfl, a, b, pr, ds, rfl, hA, hB, hP, hD, ?_⟩
  -- size
  refine ⟨.ref a, rfl, a, _, rfl, .inl hA, _, rfl, r, _, dx, _, rfl, hr0, T.cl_Ring, T.na_Ring_size, by decide, ?_⟩
  have b1 : But r H (upd H r (.ins (He.ga K "Ring") dx (putF "size" (.int ((pr.map V.int).length : Int)) []))) := But.refl.own
  have f1 : upd H r (.ins (He.ga K "Ring") dx (putF "size" (.int ((pr.map V.int).length : Int)) [])) r = some (.ins (He.ga K "Ring") dx [("size", .int (pr.length : Int))]) := by
    rw [upd_same, putF_new _ _ _ rfl, List.length_map]
    rfl
  generalize upd H r (.ins (He.ga K "Ring") dx (putF "size" (.int ((pr.map V.int).length : Int)) [])) = H1 at b1 f1 ⊢
  -- prices
  refine ⟨.ref a, rfl, a, _, rfl, .inl ⟨b1.seq hr0 hA, fun t nt => ?_⟩⟩
  have rt : r ≠ t := ne_of_none f1 nt
  refine ⟨_, rfl, r, _, dx, _, rfl, (by rw [upd_ne rt]; exact f1), T.cl_Ring, T.na_Ring_prices, (by show 1 < 1000; decide), ?_⟩
  have b2 : But r H (upd (upd H1 t (.tup (pr.map V.int))) r (.ins (He.ga K "Ring") dx (putF "prices" (.ref t) [("size", .int (pr.length : Int))]))) := (b1.new nt).own
  have f2 : upd (upd H1 t (.tup (pr.map V.int))) r (.ins (He.ga K "Ring") dx (putF "prices" (.ref t) [("size", .int (pr.length : Int))])) r = some (.ins (He.ga K "Ring") dx [("size", .int (pr.length : Int)), ("prices", .ref t)]) := by
    rw [upd_same, putF_new _ _ _ rfl]
    rfl
  have p2 : upd (upd H1 t (.tup (pr.map V.int))) r (.ins (He.ga K "Ring") dx (putF "prices" (.ref t) [("size", .int (pr.length : Int))])) t = some (itup pr) := by
    rw [upd_ne rt.symm, upd_same]
  generalize upd (upd H1 t (.tup (pr.map V.int))) r (.ins (He.ga K "Ring") dx (putF "prices" (.ref t) [("size", .int (pr.length : Int))])) = H2 at b2 f2 p2 ⊢
  -- doors
  refine ⟨.ref b, rfl, b, _, rfl, .inl ⟨b2.seq hr0 hB, fun u nu => ?_⟩⟩
  have ru : r ≠ u := ne_of_none f2 nu
  refine ⟨_, rfl, r, _, dx, _, rfl, (by rw [upd_ne ru]; exact f2), T.cl_Ring, T.na_Ring_doors, (by show 2 < 1000; decide), ?_⟩
  have b3 : But r H (upd (upd H2 u (.tup (ds.map V.int))) r (.ins (He.ga K "Ring") dx (putF "doors" (.ref u) [("size", .int (pr.length : Int)), ("prices", .ref t)]))) := (b2.new nu).own
  have f3 : upd (upd H2 u (.tup (ds.map V.int))) r (.ins (He.ga K "Ring") dx (putF "doors" (.ref u) [("size", .int (pr.length : Int)), ("prices", .ref t)])) r = some (.ins (He.ga K "Ring") dx [("size", .int (pr.length : Int)), ("prices", .ref t), ("doors", .ref u)]) := by
    rw [upd_same, putF_new _ _ _ rfl]
    rfl
  have p3 : upd (upd H2 u (.tup (ds.map V.int))) r (.ins (He.ga K "Ring") dx (putF "doors" (.ref u) [("size", .int (pr.length : Int)), ("prices", .ref t)])) t = some (itup pr) := by
    rw [upd_ne rt.symm, upd_ne (ne_of_none p2 nu)]
    exact p2
  have d3 : upd (upd H2 u (.tup (ds.map V.int))) r (.ins (He.ga K "Ring") dx (putF "doors" (.ref u) [("size", .int (pr.length : Int)), ("prices", .ref t)])) u = some (itup ds) := by
    rw [upd_ne ru.symm, upd_same]
  generalize upd (upd H2 u (.tup (ds.map V.int))) r (.ins (He.ga K "Ring") dx (putF "doors" (.ref u) [("size", .int (pr.length : Int)), ("prices", .ref t)])) = H3 at b3 f3 p3 d3 ⊢
  -- nodes
  refine ⟨_, rfl, rfl, _, rfl, iteT ?_⟩
  refine ⟨.ref a, rfl, a, _, rfl, .inl (b3.seq hr0 hA), _, rfl, RgOk.of_le (by omega) (by rw [List.length_map]; omega) (by omega) (by omega), fun v nv => ?_⟩
  have rv : r ≠ v := ne_of_none f3 nv
  refine ⟨_, rfl, r, _, dx, _, rfl, (by rw [upd_ne rv]; exact f3), T.cl_Ring, T.na_Ring_nodes, (by show 3 < 1000; decide), ?_⟩
  have b4 : But r H (upd (upd H3 v (.tup (rgV 0 ((pr.map V.int).length : Int)))) r (.ins (He.ga K "Ring") dx (putF "nodes" (.ref v) [("size", .int (pr.length : Int)), ("prices", .ref t), ("doors", .ref u)]))) := (b3.new nv).own
  have f4 : upd (upd H3 v (.tup (rgV 0 ((pr.map V.int).length : Int)))) r (.ins (He.ga K "Ring") dx (putF "nodes" (.ref v) [("size", .int (pr.length : Int)), ("prices", .ref t), ("doors", .ref u)])) r = some (.ins (He.ga K "Ring") dx [("size", .int (pr.length : Int)), ("prices", .ref t), ("doors", .ref u), ("nodes", .ref v)]) := by
    rw [upd_same, putF_new _ _ _ rfl]
    rfl
  have p4 : upd (upd H3 v (.tup (rgV 0 ((pr.map V.int).length : Int)))) r (.ins (He.ga K "Ring") dx (putF "nodes" (.ref v) [("size", .int (pr.length : Int)), ("prices", .ref t), ("doors", .ref u)])) t = some (itup pr) := by
    rw [upd_ne rt.symm, upd_ne (ne_of_none p3 nv)]
    exact p3
  have d4 : upd (upd H3 v (.tup (rgV 0 ((pr.map V.int).length : Int)))) r (.ins (He.ga K "Ring") dx (putF "nodes" (.ref v) [("size", .int (pr.length : Int)), ("prices", .ref t), ("doors", .ref u)])) u = some (itup ds) := by
    rw [upd_ne ru.symm, upd_ne (ne_of_none d3 nv)]
    exact d3
  generalize upd (upd H3 v (.tup (rgV 0 ((pr.map V.int).length : Int)))) r (.ins (He.ga K "Ring") dx (putF "nodes" (.ref v) [("size", .int (pr.length : Int)), ("prices", .ref t), ("doors", .ref u)])) = H4 at b4 f4 p4 d4 ⊢
  -- sums
  refine ⟨.ref a, rfl, a, pr, rfl, b4.seq hr0 hA, hl, fun H5 w2 s5 nw hw => ?_⟩
  have rw2 : r ≠ w2 := ne_of_none f4 nw
  refine ⟨_, rfl, r, _, dx, _, rfl, s5 _ _ f4, T.cl_Ring, T.na_Ring_sums, (by show 4 < 1000; decide), ?_⟩
  refine q _ (b4.then s5).own ⟨dx, t, u, v, w2, ?_, ?_, ?_, ?_⟩
  · rw [upd_same, putF_new _ _ _ rfl]
    rfl
  · rw [upd_ne rt.symm]
    exact s5 _ _ p4
  · rw [upd_ne ru.symm]
    exact s5 _ _ d4
  · rw [upd_ne rw2.symm]
    exact hw
theorem ok_pieces (T : Txt K mg) : Good P w K mg base 2 (He.ga K "pieces") ["ring", "stays", "start"] [] (sp_pieces K) := by
  refine good_of T.f_pieces sc_pieces (fun vs H Q E h => ?_) (fun _ _ _ _ _ _ us hl => match us, hl with | [_, _, _], _ => rfl) (fun cdv A outer s H vs Q E hr h => ?_)
  · obtain ⟨_, _, _, _, _, _, rfl, _⟩ := h
    rfl
  refine ⟨_, (pss_cons (ps_set (i := 3) sc_pieces.nd rfl (Or.inl rfl) (pe_lst pa_nil))
  (pss_cons (ps_for PassesOwn.never rfl (pi_list (pe_cg (ok_laid T) (hr.mono (j := 1) (by decide)) (by rfl) T.g_laid (pa_cons (pv 0) (pa_cons (pv 1) (pa_cons (pv 2) pa_nil))))) (pg_tup rfl (pgs_cons (pg_name (i := 4) sc_pieces.nd rfl (Or.inl rfl)) (pgs_cons (pg_name (i := 5) sc_pieces.nd rfl (Or.inl rfl)) pgs_nil)))
    (pss_one (ps_if (pw_and (pt_truth (pv 3) (by intro _; rfl)) (pw_and1 (pt_cmpR op_le (pv 4) (pe_ix ix_tup (pe_ix ix_list (pv 3) (pe_un un_neg pe_int) (fun _ _ => rfl)) pe_int (fun _ _ => rfl)) (nomark _)))).pt
    (pss_one (ps_asg (pe_tup (pa_cons (pe_ix ix_tup (pe_ix ix_list (pv 3) (pe_un un_neg pe_int) (fun _ _ => rfl)) pe_int (fun _ _ => rfl)) (pa_cons (pe_callB (call_max2 rfl) (by rfl) T.z_max (by decide +kernel) (pa_cons (pv 5) (pa_cons (pe_ix ix_tup (pe_ix ix_list (pv 3) (pe_un un_neg pe_int) (fun _ _ => rfl)) pe_int (fun _ _ => rfl)) pa_nil))) pa_nil))) (pg_sub (pv 3) (pe_un un_neg pe_int) set_list)))
    (pss_one (ps_expr (pe_bm PySem.F.plainAttrs_list PySem.F.slot_list_append PySem.F.type_list_append mt_append (pv 3) (pa_cons (pe_tup (pa_cons (pv 4) (pa_cons (pv 5) pa_nil))) pa_nil)))))))
  (pss_one (ps_ret (pv 3))))), ?_⟩
  obtain ⟨r, b, pr, ds, zs, d, rfl, hR, hP, hS, hT, hl, q⟩ := h
  refine ⟨Nat.zero_le _, fun l nl => ?_⟩
  have s1 : Same H (upd H l (.lst [])) := same_new nl
  refine ⟨.ref r, rfl, .ref b, rfl, _, rfl, r, b, pr, ds, zs, d, rfl, hR.same s1, hP, s1.seq hS, hT.same s1, hl, fun H2 p ys s2 np hp hY hyl hSp => ?_⟩
  have hl2 : H2 l = some (.lst []) := s2 _ _ upd_same
  have npl : p ≠ l := fun e => by
    rw [e, upd_same] at np
    cases np
  refine ⟨p, rfl, ⟨_, SqL.of hp⟩, for_list (K := K) (a := p) (xs := refT ys) (fun i σ H3 => Same H H3 ∧ H3 p = some (.lst (refT ys)) ∧ TL H3 ys ∧ (∃ fs : Zs, H3 l = some (.lst (refT fs)) ∧ TL H3 fs ∧ fs.length ≤ i ∧ fs.map (·.2) = ((ys.map (·.2)).take i).foldl pstep []) ∧ ∃ y1 y2 : Option V, σ = [some (.ref r), some (.ref b), some (.int d), some (.ref l), y1, y2])
    ⟨s1.trans s2, hp, hY, ⟨[], hl2, TL.nil, Nat.le_refl _, rfl⟩, none, none, rfl⟩ (fun i σ H3 _ hp => SqL.of hp.2.1) ?_ ?_⟩
  · rintro i x σ H3 hi ⟨s3, hp3, hY3, ⟨fs, hL, hF, hfl, hfold⟩, y1, y2, rfl⟩
    obtain ⟨z, hz, hzm, rfl⟩ := refT_get hi
    have hilt := (List.getElem?_eq_some_iff.mp hz).1
    have hzT := SqT.of (K := K) (hY3 z hzm)
    have room : (refT fs).length < sizeLine := small1000 (by unfold refT; rw [List.length_map]; omega)
    have hnext : ((ys.map (·.2)).take (i + 1)).foldl pstep [] = pstep (fs.map (·.2)) z.2 := by
      have e1 : (ys.map (·.2))[i]? = some z.2 := by
        rw [List.getElem?_map, hz]
        rfl
      rw [List.take_add_one, e1, List.foldl_append, ← hfold]
      rfl
    refine ⟨z.1, _, rfl, hzT, rfl, _, _, rfl, _, _, rfl, rfl, ?_⟩
    have app : ∀ (t : Addr), H3 t = none → pstep (fs.map (·.2)) z.2 = fs.map (·.2) ++ [z.2] → Same H (upd (upd H3 t (.tup [.int z.2.1, .int z.2.2])) l (.lst (refT fs ++ [.ref t]))) ∧
        upd (upd H3 t (.tup [.int z.2.1, .int z.2.2])) l (.lst (refT fs ++ [.ref t])) p = some (.lst (refT ys)) ∧ TL (upd (upd H3 t (.tup [.int z.2.1, .int z.2.2])) l (.lst (refT fs ++ [.ref t]))) ys ∧
        ∃ gs : Zs, upd (upd H3 t (.tup [.int z.2.1, .int z.2.2])) l (.lst (refT fs ++ [.ref t])) l = some (.lst (refT gs)) ∧ TL (upd (upd H3 t (.tup [.int z.2.1, .int z.2.2])) l (.lst (refT fs ++ [.ref t]))) gs ∧ gs.length ≤ i + 1 ∧ gs.map (·.2) = ((ys.map (·.2)).take (i + 1)).foldl pstep [] := fun t nt e => by
      refine ⟨same_mut (s3.trans (same_new nt)) nl, ?_, ?_, fs ++ [(t, z.2.1, z.2.2)], ?_, hF.push hL nt, ?_, ?_⟩
      · rw [upd_ne npl, upd_ne (ne_of_none hp3 nt)]
        exact hp3
      · exact (hY3.same (same_new nt)).keep (by rw [upd_ne (ne_of_none hL nt)]; exact hL)
      · rw [upd_same, ← refT_snoc]
      · rw [List.length_append]
        show fs.length + 1 ≤ i + 1
        omega
      · rw [hnext, e, List.map_append]
        rfl
    rcases List.eq_nil_or_concat fs with e0 | ⟨g, y, e0⟩
    · subst e0
      refine ⟨_, rfl, false, .inl ⟨_, SqL.of hL, rfl⟩, iteF ?_⟩
      show (if false = true then _ else _)
      refine iteF ?_
      refine ⟨.ref l, rfl, .inl ⟨rfl, _, SqL.of hL⟩, _, rfl, _, rfl, (by show 2 ≤ sizeLine; decide), fun t nt => ?_⟩
      refine ⟨l, _, _, rfl, rfl, (by rw [upd_ne (ne_of_none hL nt)]; exact hL), room, ?_⟩
      obtain ⟨a1, a2, a3, a4⟩ := app t nt rfl
      exact ⟨a1, a2, a3, a4, _, _, rfl⟩
    · rw [List.concat_eq_append] at e0
      subst e0
      have eg : refT (g ++ [y]) = refT g ++ [.ref y.1] := by
        unfold refT
        rw [List.map_append]
        rfl
      have ga : atI (refT (g ++ [y])) (-1) = some (.ref y.1) := by
        rw [eg]
        exact atI_last _ _
      have hyT := SqT.of (K := K) (hF y (List.mem_append_right _ (List.mem_singleton.mpr rfl)))
      have em : (g ++ [y]).map (·.2) = g.map (·.2) ++ [y.2] := by
        rw [List.map_append]
        rfl
      refine ⟨_, rfl, true, .inl ⟨_, SqL.of hL, by rw [eg]; simp⟩, iteT ?_⟩
      refine ⟨_, rfl, .ref l, rfl, 1, rfl, l, _, _, _, rfl, rfl, SqL.of hL, ga, y.1, _, _, _, rfl, rfl, hyT, rfl, _, _, rfl, rfl, _, rfl, if2 (fun e1 => ?_) (fun e1 => ?_)⟩
      · refine ⟨.ref l, rfl, 1, rfl, l, _, _, _, rfl, rfl, SqL.of hL, ga, y.1, _, _, _, rfl, rfl, hyT, rfl, _, rfl, .ref l, rfl, 1, rfl, l, _, _, _, rfl, rfl, SqL.of hL, ga, y.1, _, _, _, rfl, rfl, hyT, rfl, _, _, rfl, (by show 2 ≤ sizeLine; decide), fun t nt => ?_⟩
        rw [max_if]
        have hjx : ixN (refT (g ++ [y])).length (-1) = some g.length := by
          unfold ixN
          rw [eg, List.length_append, if_neg (by omega), if_pos (by show -((((refT g).length + 1 : Nat) : Int)) ≤ -1; omega)]
          unfold refT
          rw [List.length_map]
          show some ((-1 : Int) + ((g.length + 1 : Nat) : Int)).toNat = some g.length
          congr 1
          omega
        refine ⟨.ref l, rfl, 1, rfl, l, _, _, _, rfl, rfl, (by rw [upd_ne (ne_of_none hL nt)]; exact hL), hjx, ?_⟩
        have nlt : t ≠ l := (ne_of_none hL nt).symm
        refine ⟨same_mut (s3.trans (same_new nt)) nl, ?_, ?_, ⟨g ++ [(t, y.2.1, max z.2.2 y.2.2)], ?_, ?_, ?_, ?_⟩, _, _, rfl⟩
        · rw [upd_ne npl, upd_ne (ne_of_none hp3 nt)]
          exact hp3
        · exact (hY3.same (same_new nt)).keep (by rw [upd_ne (ne_of_none hL nt)]; exact hL)
        · rw [upd_same, eg]
          have e3 : g.length = (refT g).length := by
            unfold refT
            rw [List.length_map]
          rw [e3, List.set_append_right _ _ (Nat.le_refl _), Nat.sub_self]
          unfold refT
          rw [List.map_append]
          rfl
        · intro v hv
          rcases List.mem_append.mp hv with h | h
          · have h1 := hF v (List.mem_append_left _ h)
            rw [upd_ne (ne_of h1 hL (fun e => by cases e)), upd_ne (ne_of_none h1 nt)]
            exact h1
          · rw [List.mem_singleton.mp h]
            show upd (upd H3 t _) l _ t = _
            rw [upd_ne nlt, upd_same]
        · rw [List.length_append] at hfl ⊢
          exact Nat.le_succ_of_le hfl
        · rw [hnext, em, pstep_snoc, if_pos e1, List.map_append]
          rfl
      · refine ⟨.ref l, rfl, .inl ⟨rfl, _, SqL.of hL⟩, _, rfl, _, rfl, (by show 2 ≤ sizeLine; decide), fun t nt => ?_⟩
        refine ⟨l, _, _, rfl, rfl, (by rw [upd_ne (ne_of_none hL nt)]; exact hL), room, ?_⟩
        obtain ⟨a1, a2, a3, a4⟩ := app t nt (by rw [em, pstep_snoc, if_neg e1])
        exact ⟨a1, a2, a3, a4, _, _, rfl⟩
  · rintro σ H3 ⟨s3, hp3, hY3, ⟨fs, hL, hF, hfl, hfold⟩, y1, y2, rfl⟩
    have hyl2 : (refT ys).length = ys.length := by
      unfold refT
      rw [List.length_map]
    rw [hyl2] at hfl hfold
    rw [List.take_of_length_le (by rw [List.length_map]; exact Nat.le_refl _)] at hfold
    exact ⟨.ref l, rfl, q H3 l fs _ s3 nl hL hF (by omega) hSp hfold⟩
end
end K57

namespace K57
open PySem PySem.Spec PyProof.Rows L2 Fw Lay
section
variable {P : Program} {w : World} {K : PySem.W.Frag} {mg : Str → Option Value} {base : Heap}
theorem pieces_ok {M : Int} : ∀ (ss f : Sp2), (∀ q ∈ ss, 0 ≤ q.1 ∧ q.1 ≤ q.2 ∧ q.2 ≤ M) → (∀ q ∈ f, 0 ≤ q.1 ∧ q.1 ≤ q.2 ∧ q.2 ≤ M) → ∀ q ∈ ss.foldl pstep f, 0 ≤ q.1 ∧ q.1 ≤ q.2 ∧ q.2 ≤ M
  | [], f, _, hf => hf
  | s :: ss, f, hs, hf => by
    have h1 := hs s (List.mem_cons_self ..)
    refine pieces_ok ss (pstep f s) (fun q hq => hs q (List.mem_cons_of_mem _ hq)) ?_
    rcases List.eq_nil_or_concat f with e0 | ⟨g, y, e0⟩
    · subst e0
      intro q hq
      rw [List.mem_singleton.mp (show q ∈ [s] from hq)]
      exact h1
    · rw [List.concat_eq_append] at e0
      subst e0
      have h2 := hf y (List.mem_append_right _ (List.mem_singleton.mpr rfl))
      rw [pstep_snoc]
      intro q hq
      by_cases e : s.1 ≤ y.2
      · rw [if_pos e] at hq
        rcases List.mem_append.mp hq with h | h
        · exact hf q (List.mem_append_left _ h)
        · rw [List.mem_singleton.mp h]
          show 0 ≤ y.1 ∧ y.1 ≤ max s.2 y.2 ∧ max s.2 y.2 ≤ M
          omega
      · rw [if_neg e] at hq
        rcases List.mem_append.mp hq with h | h
        · exact hf q h
        · rw [List.mem_singleton.mp h]
          exact h1
theorem ok_laid_price (T : Txt K mg) : Good P w K mg base 3 (He.ga K "laid_price") ["ring", "stays", "start"] [] (sp_laid_price K) := by
  refine good_of T.f_laid_price sc_laid_price (fun vs H Q E h => ?_) (fun _ _ _ _ _ _ us hl => match us, hl with | [_, _, _], _ => rfl) (fun cdv A outer s H vs Q E hr h => ?_)
  · obtain ⟨_, _, _, _, _, _, rfl, _⟩ := h
    rfl
  refine ⟨_, (pss_one (ps_ret (pe_callB (cr_sum rfl) (by rfl) T.z_sum (by decide +kernel) (pa_cons (pe_lc (own := [("first", 3), ("behind", 4)]) (g := (gTup K 2 (gCons (gName 3) (gCons (gName 4) gNil)))) (tt := tYes) rfl sc_laid_price.nd (pi_list (pe_cg (ok_pieces T) (hr.mono (j := 2) (by decide)) (by rfl) T.g_pieces (pa_cons (pv 0) (pa_cons (pv 1) (pa_cons (pv 2) pa_nil))))) (blkOk_by (own := [("first", 3), ("behind", 4)]) (N := ["ring", "stays", "start", "first", "behind"]) (sc := defScope s_laid_price) (by decide +kernel)) (fun _ _ _ _ _ => (pg_tup rfl (pgs_cons (pg_name (i := 3) sc_laid_price.nd rfl (Or.inl rfl)) (pgs_cons (pg_name (i := 4) sc_laid_price.nd rfl (Or.inl rfl)) pgs_nil)))) (fun _ _ _ _ _ => pts_nil) (fun _ _ _ _ _ => (pe_cg (ok_piece_price T) (hr.mono (j := 2) (by decide)) (by rfl) T.g_piece_price (pa_cons (pv 0) (pa_cons (pv 3) (pa_cons (pv 4) pa_nil)))))) pa_nil)))), ?_⟩
  obtain ⟨r, b, pr, ds, zs, d, rfl, hR, hP, hS, hT, hl, hz1, d0, d1, q⟩ := h
  obtain ⟨p0, p1, p2⟩ := id hP
  refine ⟨.ref r, rfl, .ref b, rfl, _, rfl, r, b, pr, ds, zs, d, rfl, hR, hP, hS, hT, hl, fun H2 p ys ss s2 np hp hY hyl hSp hfold => ?_⟩
  have hpos : ∀ s ∈ zs.map (·.2), 1 ≤ s.2 := fun s hs => by
    obtain ⟨z, hz, rfl⟩ := List.mem_map.mp hs
    exact (hz1 z hz).1
  have hss : ∀ s ∈ ss, 0 ≤ s.1 ∧ s.1 ≤ s.2 ∧ s.2 ≤ 3000 := fun s hs => by
    obtain ⟨t, ht, e1, e2⟩ := (hSp.2 s.1 s.2).mp hs
    obtain ⟨z, hz, rfl⟩ := List.mem_map.mp ht
    have h1 := hz1 z hz
    have h2 := Int.emod_nonneg (z.2.1 - d) (show (pr.length : Int) ≠ 0 by omega)
    have h3 := Int.emod_lt_of_pos (z.2.1 - d) (show (0 : Int) < (pr.length : Int) by omega)
    omega
  have hys : ∀ z ∈ ys, 0 ≤ z.2.1 ∧ z.2.1 ≤ z.2.2 ∧ z.2.2 ≤ 3000 := fun z hz => by
    have h1 : z.2 ∈ ss.foldl pstep [] := by
      rw [← hfold]
      exact List.mem_map_of_mem hz
    exact pieces_ok ss [] hss (fun q hq => (nomatch hq)) z.2 h1
  refine ⟨p, rfl, ⟨_, SqL.of hp⟩, fun D hD => lc_list (K := K) (a := p) (xs := refT ys) (fun i H3 => Same H2 H3 ∧ H3 D = some (ilst ((ys.take i).map fun z => seg (pw pr) z.2.1 z.2.2))) ⟨same_new hD, upd_same⟩ (fun i H3 _ h3 => SqL.of (h3.1 _ _ hp)) ?_ ?_⟩
  · rintro i x H3 hi ⟨s3, h3⟩
    obtain ⟨z, hz, hzm, rfl⟩ := refT_get hi
    have hilt := (List.getElem?_eq_some_iff.mp hz).1
    obtain ⟨b1, b2, b3⟩ := hys z hzm
    refine ⟨z.1, _, rfl, SqT.of (s3 _ _ (hY z hzm)), rfl, _, _, rfl, _, _, rfl, rfl, rfl, yes_then ?_⟩
    refine ⟨.ref r, rfl, _, rfl, _, rfl, r, pr, ds, _, _, rfl, hR.same (s2.trans s3), hP, b1, b2, by omega, _, h3, small1000 (by rw [List.length_map, List.length_map, List.length_take]; omega), same_mut s3 hD, ?_⟩
    rw [upd_same, List.take_add_one, hz, List.map_append]
    unfold ilst
    rw [List.map_append]
    rfl
  · rintro H3 ⟨s3, h3⟩
    have e1 : (ys.take (refT ys).length) = ys := List.take_of_length_le (by unfold refT; rw [List.length_map]; exact Nat.le_refl _)
    rw [e1] at h3
    refine tnil_go ?_
    refine ⟨D, _, rfl, SqL.of h3, ?_⟩
    have e2 : (ys.map fun z => seg (pw pr) z.2.1 z.2.2).sum = U pr (zs.map (·.2)) d := by
      have e3 : (ys.map fun z => seg (pw pr) z.2.1 z.2.2).sum = ptot (pw pr) (ss.foldl pstep []) := by
        rw [← hfold]
        unfold ptot
        rw [List.map_map]
        rfl
      rw [e3]
      unfold U
      refine uni_prog (by omega) hSp.1 (fun o e => ?_) (fun s hs => ?_)
      · rw [stOf_mem (P := fun u v => o = d + (u - d) % (pr.length : Int) ∧ e = o + v) hpos]
        exact hSp.2 o e
      · obtain ⟨t, ht, rfl⟩ := List.mem_map.mp hs
        obtain ⟨z, hz, rfl⟩ := List.mem_map.mp ht
        have := hz1 z hz
        show (pr.length : Int) + ((z.2.2.toNat : Nat) : Int) ≤ ((3000 : Nat) : Int)
        omega
    rw [e2]
    exact q H3 (s2.trans s3)
end
end K57

namespace K57
open PySem PySem.Spec PyProof.Rows L2 Fw Lay
section
variable {P : Program} {w : World} {K : PySem.W.Frag} {mg : Str → Option Value} {base : Heap}
theorem ok_least_laying (T : Txt K mg) : Good P w K mg base 4 (He.ga K "least_laying") ["ring", "stays"] [] (sp_least_laying K) := by
  refine good_of T.f_least_laying sc_least_laying (fun vs H Q E h => ?_) (fun _ _ _ _ _ _ us hl => match us, hl with | [_, _], _ => rfl) (fun cdv A outer s H vs Q E hr h => ?_)
  · obtain ⟨_, _, _, _, _, rfl, _⟩ := h
    rfl
  refine ⟨_, (pss_cons (ps_expr (pe_cg (ok_check_stays T) (hr.mono (j := 1) (by decide)) (by rfl) T.g_check_stays (pa_cons (pv 0) (pa_cons (pv 1) pa_nil))))
  (pss_cons (ps_set (i := 2) sc_least_laying.nd rfl (Or.inl rfl) (pe_tup (pa_cons pe_int (pa_cons pe_non pa_nil))))
  (pss_cons (ps_for PassesOwn.never rfl (pi_list (pe_cg (ok_distinct T) (hr.mono (j := 1) (by decide)) (by rfl) T.g_distinct (pa_cons (pe_lc (own := [("stay", 5)]) (g := (gName 5)) (tt := tYes) rfl sc_least_laying.nd (pi_list (pv 1)) (blkOk_by (own := [("stay", 5)]) (N := ["ring", "stays", "best", "door", "price", "stay"]) (sc := defScope s_least_laying) (by decide +kernel)) (fun _ _ _ _ _ => (pg_name (i := 5) sc_least_laying.nd rfl (Or.inl rfl))) (fun _ _ _ _ _ => pts_nil) (fun _ _ _ _ _ => (pe_ix (ix_tupE (K := K) rfl) (pv 5) pe_int (fun _ _ => rfl)))) pa_nil))) (pg_name (i := 3) sc_least_laying.nd rfl (Or.inl rfl))
    (pss_cons (ps_set (i := 4) sc_least_laying.nd rfl (Or.inl rfl) (pe_cg (ok_laid_price T) (hr.mono (j := 3) (by decide)) (by rfl) T.g_laid_price (pa_cons (pv 0) (pa_cons (pv 1) (pa_cons (pv 3) pa_nil)))))
  (pss_one (ps_if (pw_or (pt_cmpR op_isN (pe_ix ix_tup (pv 2) pe_int (fun _ _ => rfl)) pe_non (nomark _)) (pw_or1 (pt_cmpR op_lt (pv 4) (pe_ix ix_tup (pv 2) pe_int (fun _ _ => rfl)) (nomark _)))).pt
    (pss_one (ps_set (i := 2) sc_least_laying.nd rfl (Or.inl rfl) (pe_tup (pa_cons (pv 4) (pa_cons (pv 3) pa_nil)))))
    pss_nil))))
  (pss_one (ps_ret (pv 2)))))), ?_⟩
  obtain ⟨r, b, pr, ds, zs, rfl, hR, hP, hD, hS, hT, hO, q⟩ := h
  obtain ⟨p0, p1, p2⟩ := id hP
  have hzl : zs.length < 64 := by
    have := hO.1
    rw [List.length_map] at this
    exact this
  have hzo : ∀ z ∈ zs, z.2.1 ∈ ds ∧ 1 ≤ z.2.2 ∧ z.2.2 ≤ 1000 := fun z hz => hO.2 z.2 (List.mem_map_of_mem hz)
  have hdr : ∀ z ∈ zs, 0 ≤ z.2.1 ∧ z.2.1 ≤ 1000 := fun z hz => by
    have h1 := hD.2.2 z.2.1 (hzo z hz).1
    omega
  refine ⟨.ref r, rfl, .ref b, rfl, r, b, pr, ds, zs, rfl, hR, hS, hT, hO, fun H1 s1 => ?_⟩
  refine ⟨(by show 2 ≤ sizeLine; decide), fun t0 nt0 => ?_⟩
  have s2 := s1.trans (same_new (o := .tup [.int 0, .non]) nt0)
  have ht0 : upd H1 t0 (.tup [.int 0, .non]) t0 = some (.tup [.int 0, .non]) := upd_same
  generalize upd H1 t0 (.tup [.int 0, .non]) = Hb at s2 ht0 ⊢
  refine ⟨.ref b, rfl, b, rfl, ⟨_, s2.seq hS⟩, fun D hDn => lc_list (K := K) (a := b) (xs := refT zs) (fun i H3 => Same Hb H3 ∧ H3 D = some (ilst ((zs.take i).map fun z => z.2.1))) ⟨same_new hDn, upd_same⟩ (fun i H3 _ h3 => (s2.trans h3.1).seq hS) ?_ ?_⟩
  · rintro i x H3 hi ⟨s3, h3⟩
    obtain ⟨z, hz, hzm, rfl⟩ := refT_get hi
    have hilt := (List.getElem?_eq_some_iff.mp hz).1
    refine ⟨rfl, yes_then ?_⟩
    refine ⟨_, rfl, z.1, _, _, _, rfl, rfl, SqT.of (hT.same (s2.trans s3) z hzm), rfl, _, h3, small1000 (by rw [List.length_map, List.length_map, List.length_take]; omega), same_mut s3 hDn, ?_⟩
    rw [upd_same, List.take_add_one, hz, List.map_append]
    unfold ilst
    rw [List.map_append]
    rfl
  rintro H3 ⟨s3, h3⟩
  have e1 : zs.take (refT zs).length = zs := List.take_of_length_le (by unfold refT; rw [List.length_map]; exact Nat.le_refl _)
  rw [e1] at h3
  refine tnil_go ?_
  refine ⟨D, _, rfl, SqL.of h3, by rw [List.length_map]; exact hzl, fun H4 p es s4 np hp pw mem => ?_⟩
  have s04 := (s2.trans s3).trans s4
  have hes : ∀ e ∈ es, ∃ z ∈ zs, e = z.2.1 := fun e he => by
    obtain ⟨z, hz, e2⟩ := List.mem_map.mp ((mem e).mp he)
    exact ⟨z, hz, e2.symm⟩
  refine ⟨p, rfl, ⟨_, SqL.of hp⟩, for_list (K := K) (a := p) (xs := es.map V.int) (fun i σ H5 => Same H4 H5 ∧ ∃ (t : Addr) (y1 y2 y3 : Option V), σ = [some (.ref r), some (.ref b), some (.ref t), y1, y2, y3] ∧
      ((i = 0 ∧ H t = none ∧ H5 t = some (.tup [.int 0, .non])) ∨ (0 < i ∧ H t = none ∧ ∃ v d, H5 t = some (.tup [.int v, .int d]) ∧ d ∈ es ∧ v = U pr (zs.map (·.2)) d ∧ ∀ e ∈ es.take i, v ≤ U pr (zs.map (·.2)) e)))
    ⟨Same.refl _, t0, none, none, none, rfl, .inl ⟨rfl, s1.free nt0, s4 _ _ (s3 _ _ ht0)⟩⟩ (fun i σ H5 _ h5 => SqL.of (h5.1 _ _ hp)) ?_ ?_⟩
  · rintro i x σ H5 hi ⟨s5, t, y1, y2, y3, rfl, hbest⟩
    obtain ⟨d, hd, rfl⟩ := map_get hi
    obtain ⟨z, hz, rfl⟩ := hes d (List.mem_of_getElem? hd)
    have s05 := s04.trans s5
    have hdd := hdr z hz
    refine ⟨.ref r, rfl, .ref b, rfl, _, rfl, r, b, pr, ds, zs, _, rfl, hR.same s05, hP, s05.seq hS, hT.same s05, by omega, fun z hz => (hzo z hz).2, hdd.1, hdd.2, fun H6 s6 => ?_⟩
    have hnew : ∀ (u : Addr), H6 u = none → (∀ e ∈ es.take i, U pr (zs.map (·.2)) z.2.1 ≤ U pr (zs.map (·.2)) e) → Same H4 (upd H6 u (.tup [.int (U pr (zs.map (·.2)) z.2.1), .int z.2.1])) ∧ H u = none ∧ ∃ v d, upd H6 u (.tup [.int (U pr (zs.map (·.2)) z.2.1), .int z.2.1]) u = some (.tup [.int v, .int d]) ∧ d ∈ es ∧ v = U pr (zs.map (·.2)) d ∧ ∀ e ∈ es.take (i + 1), v ≤ U pr (zs.map (·.2)) e := fun u nu hle => by
      refine ⟨(s5.trans s6).trans (same_new nu), (s05.trans s6).free nu, _, _, upd_same, List.mem_of_getElem? hd, rfl, fun e he => ?_⟩
      rw [List.take_add_one, hd] at he
      rcases List.mem_append.mp he with h | h
      · exact hle e h
      · rw [List.mem_singleton.mp h]
        exact Int.le_refl _
    rcases hbest with ⟨rfl, hft, hb⟩ | ⟨hi0, hfr, v, d, hb, hdm, hv, hle⟩
    · refine ⟨_, rfl, t, _, _, _, rfl, rfl, SqT.of (s6 _ _ hb), rfl, rfl, _, rfl, ifT rfl ?_⟩
      refine ⟨_, rfl, _, rfl, (by show 2 ≤ sizeLine; decide), fun u nu => ?_⟩
      obtain ⟨a1, a2, a3⟩ := hnew u nu (fun e he => (nomatch he))
      exact ⟨a1, u, _, _, _, rfl, .inr ⟨Nat.succ_pos _, a2, a3⟩⟩
    · refine ⟨_, rfl, t, _, _, _, rfl, rfl, SqT.of (s6 _ _ hb), rfl, rfl, _, rfl, ifF (fun e => by cases e) ?_⟩
      refine ⟨_, rfl, _, rfl, t, _, _, _, rfl, rfl, SqT.of (s6 _ _ hb), rfl, _, _, rfl, rfl, _, rfl, if2 (fun e1 => ?_) (fun e1 => ?_)⟩
      · refine ⟨_, rfl, _, rfl, (by show 2 ≤ sizeLine; decide), fun u nu => ?_⟩
        obtain ⟨a1, a2, a3⟩ := hnew u nu (fun e he => by have := hle e he; omega)
        exact ⟨a1, u, _, _, _, rfl, .inr ⟨Nat.succ_pos _, a2, a3⟩⟩
      · refine ⟨s5.trans s6, t, _, _, _, rfl, .inr ⟨Nat.succ_pos _, hfr, v, d, s6 _ _ hb, hdm, hv, fun e he => ?_⟩⟩
        rw [List.take_add_one, hd] at he
        rcases List.mem_append.mp he with h | h
        · exact hle e h
        · rw [List.mem_singleton.mp h]
          omega
  · rintro σ H5 ⟨s5, t, y1, y2, y3, rfl, hbest⟩
    rw [List.length_map] at hbest
    rcases hbest with ⟨h0, hft, hb⟩ | ⟨_, hfr, v, d, hb, hdm, hv, hle⟩
    · refine ⟨.ref t, rfl, q H5 t (s04.trans s5) hft (.inl ⟨?_, hb⟩)⟩
      cases zs with
      | nil => rfl
      | cons z zs =>
        have h1 := (mem z.2.1).mpr (List.mem_map_of_mem (f := fun z : Addr × Int × Int => z.2.1) (List.mem_cons_self ..))
        rw [List.length_eq_zero_iff.mp h0] at h1
        cases h1
    · rw [List.take_length] at hle
      exact ⟨.ref t, rfl, q H5 t (s04.trans s5) hfr (.inr ⟨v, d, hb, hes d hdm, hv, fun z hz => hle _ ((mem z.2.1).mpr (List.mem_map_of_mem (f := fun z : Addr × Int × Int => z.2.1) hz))⟩)⟩
end
end K57

/-! The promises of the defs about fronts. -/
namespace K57
open PySem PySem.Spec PyProof.Rows L2 Fw Lay
def Rows (K : PySem.W.Frag) (H : Hp) (a : Addr) (zs : Ws) : Prop := SqL K H a (refL zs) ∧ LL K H zs ∧ zs.length ≤ 63 ∧ ∀ z ∈ zs, z.2.length ≤ 1000
theorem Rows.same {K : PySem.W.Frag} {H H2 : Hp} {a : Addr} {zs : Ws} (h : Rows K H a zs) (s : Same H H2) : Rows K H2 a zs := ⟨s.seq h.1, h.2.1.same s, h.2.2⟩
def sp_check_fronts (K : PySem.W.Frag) : Sp := fun vs H Q _ => ∃ (a : Addr) (zs : Ws), vs = [.ref a] ∧ Rows K H a zs ∧ prodL (zs.map (·.2)) ≤ 5000 ∧ Q .non H
def sp_zeros (K : PySem.W.Frag) : Sp := fun vs H Q _ => ∃ (a : Addr) (zs : Ws), vs = [.ref a] ∧ Rows K H a zs ∧
  ∀ (H2 : Hp) (p : Addr), Same H H2 → H p = none → H2 p = some (itup (nmap (f0 (zs.map (·.2))))) → Q (.ref p) H2
def sp_steps (K : PySem.W.Frag) : Sp := fun vs H Q _ => ∃ (a t : Addr) (zs : Ws) (f : Ft), vs = [.ref a, .ref t] ∧ Rows K H a zs ∧ H t = some (itup (nmap f)) ∧ FOk (zs.map (·.2)) f ∧
  ∀ (H2 : Hp) (p : Addr) (ps : Ps), Same H H2 → H p = none → H2 p = some (.lst (refP ps)) → PsOk H2 (zs.map (·.2)) f ps → ps.length ≤ 63 → Q (.ref p) H2
def sp_reachable (K : PySem.W.Frag) : Sp := fun vs H Q _ => ∃ (a : Addr) (zs : Ws), vs = [.ref a] ∧ Rows K H a zs ∧ prodL (zs.map (·.2)) ≤ 5000 ∧
  ∀ (H2 : Hp) (p : Addr) (fs : Fs), Same H H2 → H p = none → H2 p = some (.lst (refF fs)) → FsOk H2 (zs.map (·.2)) fs → f0 (zs.map (·.2)) ∈ fs.map (·.2) → (∀ f ∈ fs.map (·.2), ∀ b, Sym (zs.map (·.2)) f b → fstep b (zs.map (·.2)) f ∈ fs.map (·.2)) → Q (.ref p) H2
def sp_height (K : PySem.W.Frag) : Sp := fun vs H Q _ => ∃ (c a t d : Addr) (pr : List Int) (zs : Ws) (f : Ft) (kvs : List (List L2.Key × V)), vs = [.ref c, .ref a, .ref t, .ref d] ∧ SqL K H c (pr.map V.int) ∧ PrOk pr ∧ Rows K H a zs ∧ SyOk pr.length (zs.map (·.2)) ∧
  H t = some (itup (nmap f)) ∧ FOk (zs.map (·.2)) f ∧ H d = some (.dT kvs) ∧ (∀ b, Sym (zs.map (·.2)) f b → Hts (pw pr) (zs.map (·.2)) kvs (fstep b (zs.map (·.2)) f)) ∧
  ∀ (H2 : Hp) (v : Int), Same H H2 → Least (pw pr) (rst (zs.map (·.2)) f) v → Q (.int v) H2
def sp_front_heights (K : PySem.W.Frag) : Sp := fun vs H Q _ => ∃ (c a : Addr) (pr : List Int) (zs : Ws), vs = [.ref c, .ref a] ∧ SqL K H c (pr.map V.int) ∧ PrOk pr ∧ Rows K H a zs ∧ SyOk pr.length (zs.map (·.2)) ∧ prodL (zs.map (·.2)) ≤ 5000 ∧
  ∀ (H2 : Hp) (p : Addr) (kvs : List (List L2.Key × V)) (R : List Ft), Same H H2 → H p = none → H2 p = some (.dT kvs) → f0 (zs.map (·.2)) ∈ R → (∀ f ∈ R, FOk (zs.map (·.2)) f ∧ (∀ b, Sym (zs.map (·.2)) f b → fstep b (zs.map (·.2)) f ∈ R) ∧ Hts (pw pr) (zs.map (·.2)) kvs f) → Q (.ref p) H2
def sp_least_row (K : PySem.W.Frag) : Sp := fun vs H Q _ => ∃ (c a : Addr) (pr : List Int) (zs : Ws), vs = [.ref c, .ref a] ∧ SqL K H c (pr.map V.int) ∧ PrOk pr ∧ Rows K H a zs ∧ SyOk pr.length (zs.map (·.2)) ∧ prodL (zs.map (·.2)) ≤ 5000 ∧
  ∀ (H2 : Hp) (p q : Addr) (v : Int) (S : List Int), Same H H2 → H p = none → H q = none → H2 p = some (.tup [.int v, .ref q]) → H2 q = some (ilst S) → Least (pw pr) (zs.map (·.2)) v → Has (zs.map (·.2)) S → cost (pw pr) S = v → (∀ s ∈ S, 0 ≤ s ∧ s < (pr.length : Int)) → S.length ≤ 63000 → Q (.ref p) H2
def sp_l_least_ring (K : PySem.W.Frag) : Sp := fun vs H Q _ => ∃ (a b : Addr) (pr : List Int) (zs : Zs), vs = [.ref a, .ref b] ∧ SqL K H a (pr.map V.int) ∧ PrOk pr ∧ SqL K H b (refT zs) ∧ TL H zs ∧ zs.length ≤ 1000 ∧ (∀ z ∈ zs, 1 ≤ z.2.2 ∧ z.2.2 ≤ 1000 ∧ 0 ≤ z.2.1 ∧ z.2.1 ≤ 1000) ∧
  ∀ (H2 : Hp) (v : Int), Same H H2 → (zs = [] → v = 0) → (zs ≠ [] → (∃ z ∈ zs, v = U pr (zs.map (·.2)) z.2.1) ∧ ∀ z ∈ zs, v ≤ U pr (zs.map (·.2)) z.2.1) → Q (.int v) H2
def sp_l_prefix (K : PySem.W.Frag) : Sp := fun vs H Q _ => ∃ (a b : Addr) (r S : List Int), vs = [.ref a, .ref b] ∧ SqL K H a (r.map V.int) ∧ SqL K H b (S.map V.int) ∧ r.Sublist S ∧ Q (.int r.length) H
def sp_l_ints (K : PySem.W.Frag) : Sp := fun vs H Q _ => ∃ (a : Addr) (S : List Int), vs = [.ref a] ∧ H a = some (ilst S) ∧ Q (.bl true) H
def sp_l_whole (K : PySem.W.Frag) : Sp := fun vs H Q _ => ∃ (a b : Addr) (zs : Ws) (S : List Int), vs = [.ref a, .ref b] ∧ SqL K H a (refL zs) ∧ LL K H zs ∧ SqL K H b (S.map V.int) ∧ Has (zs.map (·.2)) S ∧ Q (.bl true) H
end K57

namespace K57
open PySem PySem.Spec PyProof.Rows L2 Fw Lay
section
variable {P : Program} {w : World} {K : PySem.W.Frag} {mg : Str → Option Value} {base : Heap}
theorem ok_check_fronts (T : Txt K mg) : Good P w K mg base 1 (He.ga K "check_fronts") ["rows"] [] (sp_check_fronts K) := by
  refine good_of T.f_check_fronts sc_check_fronts (fun vs H Q E h => ?_) (fun _ _ _ _ _ _ us hl => match us, hl with | [_], _ => rfl) (fun cdv A outer s H vs Q E hr h => ?_)
  · obtain ⟨_, _, rfl, _⟩ := h
    rfl
  refine ⟨_, (pss_cons (ps_set (i := 1) sc_check_fronts.nd rfl (Or.inl rfl) pe_int)
  (pss_cons (ps_for PassesOwn.never rfl (pi_list (pv 0)) (pg_name (i := 2) sc_check_fronts.nd rfl (Or.inl rfl))
    (pss_one (ps_set (i := 1) sc_check_fronts.nd rfl (Or.inl rfl) (pe_op op_mul (pv 1) (pe_op op_add (pe_callB call_len_seq (by rfl) T.z_len (by decide +kernel) (pa_cons (pv 2) pa_nil)) pe_int)))))
  (pss_one (ps_if (pt_cmpR op_gt (pv 1) (pe_glob (v := .int 5000) rfl T.k_MOST_FRONTS.choose_spec ⟨_, rfl⟩) (nomark _))
    (pss_one ps_never)
    pss_nil)))), ?_⟩
  obtain ⟨a, zs, rfl, ⟨hS, hL, hn, hl⟩, hp, q⟩ := h
  refine ⟨.ref a, rfl, a, rfl, ⟨_, hS⟩, for_list (K := K) (a := a) (xs := refL zs) (fun i σ H2 => H2 = H ∧ ∃ y, σ = [some (.ref a), some (.int (prodL ((zs.map (·.2)).take i) : Nat)), y]) ⟨rfl, none, rfl⟩ (fun i σ H2 _ h => by rw [h.1]; exact hS) ?_ ?_⟩
  · rintro i x σ H2 hi ⟨rfl, y, rfl⟩
    obtain ⟨z, hz, hzm, rfl⟩ := refL_get hi
    have hb := prodL_take (zs.map (·.2)) i
    refine ⟨_, rfl, _, rfl, z.1, _, rfl, .inl (hL z hzm), _, _, rfl, rfl, _, _, rfl, rfl, .inl ⟨by omega, by omega⟩, rfl, some (.ref z.1), ?_⟩
    have hz2 : (zs.map (·.2))[i]? = some z.2 := by rw [List.getElem?_map, hz]; rfl
    rw [List.take_add_one, hz2]
    show _ = [some (V.ref a), some (V.int (prodL ((zs.map (·.2)).take i ++ [z.2]) : Nat)), some (V.ref z.1)]
    rw [prodL_snoc, List.length_map, Int.natCast_mul, Int.natCast_add]
    rfl
  · rintro σ H2 ⟨rfl, y, rfl⟩
    have e : (zs.map (·.2)).take (refL zs).length = zs.map (·.2) := List.take_of_length_le (by unfold refL; rw [List.length_map, List.length_map]; exact Nat.le_refl _)
    rw [e]
    exact ⟨_, rfl, _, _, rfl, rfl, _, rfl, ifF (by omega) q⟩
theorem ok_zeros (T : Txt K mg) : Good P w K mg base 1 (He.ga K "zeros") ["rows"] [] (sp_zeros K) := by
  refine good_of T.f_zeros sc_zeros (fun vs H Q E h => ?_) (fun _ _ _ _ _ _ us hl => match us, hl with | [_], _ => rfl) (fun cdv A outer s H vs Q E hr h => ?_)
  · obtain ⟨_, _, rfl, _⟩ := h
    rfl
  refine ⟨_, (pss_one (ps_ret (pe_callTy call_tuple_of (by rfl) T.z_tuple (by decide +kernel) (pa_cons (pe_lc (own := [("row", 1)]) (g := (gName 1)) (tt := tYes) rfl sc_zeros.nd (pi_list (pv 0)) (blkOk_by (own := [("row", 1)]) (N := ["rows", "row"]) (sc := defScope s_zeros) (by decide +kernel)) (fun _ _ _ _ _ => (pg_name (i := 1) sc_zeros.nd rfl (Or.inl rfl))) (fun _ _ _ _ _ => pts_nil) (fun _ _ _ _ _ => pe_int)) pa_nil)))), ?_⟩
  obtain ⟨a, zs, rfl, ⟨hS, hL, hn, hl⟩, q⟩ := h
  refine ⟨.ref a, rfl, a, rfl, ⟨_, hS⟩, fun D hD => lc_list (K := K) (a := a) (xs := refL zs) (fun i H3 => Same H H3 ∧ H3 D = some (ilst (nmap (f0 ((zs.map (·.2)).take i))))) ⟨same_new hD, upd_same⟩ (fun i H3 _ h3 => h3.1.seq hS) ?_ ?_⟩
  · rintro i x H3 hi ⟨s3, h3⟩
    obtain ⟨z, hz, hzm, rfl⟩ := refL_get hi
    have hilt := (List.getElem?_eq_some_iff.mp hz).1
    refine ⟨rfl, yes_then ?_⟩
    refine ⟨_, h3, small1000 (by unfold nmap f0; rw [List.length_map, List.length_map, List.length_map, List.length_take]; omega), same_mut s3 hD, ?_⟩
    have hz2 : (zs.map (·.2))[i]? = some z.2 := by rw [List.getElem?_map, hz]; rfl
    rw [upd_same, List.take_add_one, hz2]
    unfold ilst nmap f0
    rw [List.map_append, List.map_append, List.map_append]
    rfl
  · rintro H3 ⟨s3, h3⟩
    have e : (zs.map (·.2)).take (refL zs).length = zs.map (·.2) := List.take_of_length_le (by unfold refL; rw [List.length_map, List.length_map]; exact Nat.le_refl _)
    rw [e] at h3
    refine tnil_go ?_
    exact ⟨D, _, rfl, .inl ⟨SqL.of h3, fun p np => q _ p (s3.trans (same_new np)) (s3.free np) upd_same⟩⟩
end
end K57

namespace K57
open PySem PySem.Spec PyProof.Rows L2 Fw Lay
section
variable {P : Program} {w : World} {K : PySem.W.Frag} {mg : Str → Option Value} {base : Heap}
theorem pair_ne {ms : Ms} (nd : (ms.map (·.2)).Nodup) {r q : Int × Addr} (hr : r ∈ ms) (hq : q ∈ ms) (ne : r ≠ q) : r.2 ≠ q.2 := by
  induction ms with
  | nil => cases hr
  | cons m ms ih =>
    rw [List.map_cons, List.nodup_cons] at nd
    rcases List.mem_cons.mp hr with h1 | h1 <;> rcases List.mem_cons.mp hq with h2 | h2
    · exact absurd (h1.trans h2.symm) ne
    · exact fun e => nd.1 (by rw [← h1, e]; exact List.mem_map_of_mem (f := fun z : Int × Addr => z.2) h2)
    · exact fun e => nd.1 (by rw [← h2, ← e]; exact List.mem_map_of_mem (f := fun z : Int × Addr => z.2) h1)
    · exact ih nd.2 h1 h2
theorem pair_eq {ms : Ms} (nd : (ms.map (·.1)).Nodup) {r q : Int × Addr} (hr : r ∈ ms) (hq : q ∈ ms) (e : r.1 = q.1) : r = q := by
  induction ms with
  | nil => cases hr
  | cons m ms ih =>
    rw [List.map_cons, List.nodup_cons] at nd
    rcases List.mem_cons.mp hr with h1 | h1 <;> rcases List.mem_cons.mp hq with h2 | h2
    · exact h1.trans h2.symm
    · exact absurd (by rw [← h1, e]; exact List.mem_map_of_mem (f := fun z : Int × Addr => z.1) h2) nd.1
    · exact absurd (by rw [← h2, ← e]; exact List.mem_map_of_mem (f := fun z : Int × Addr => z.1) h1) nd.1
    · exact ih nd.2 h1 h2
theorem ok_steps (T : Txt K mg) : Good P w K mg base 1 (He.ga K "steps") ["rows", "front"] [] (sp_steps K) := by
  refine good_of T.f_steps sc_steps (fun vs H Q E h => ?_) (fun _ _ _ _ _ _ us hl => match us, hl with | [_, _], _ => rfl) (fun cdv A outer s H vs Q E hr h => ?_)
  · obtain ⟨_, _, _, _, rfl, _⟩ := h
    rfl
  refine ⟨_, (pss_cons (ps_set (i := 2) sc_steps.nd rfl (Or.inr rfl) pe_dnewK)
  (pss_cons (ps_for PassesOwn.never rfl (pi_enum (by rfl) T.z_enumerate (pa_cons (pv 0) pa_nil)) (pg_tup rfl (pgs_cons (pg_name (i := 3) sc_steps.nd rfl (Or.inl rfl)) (pgs_cons (pg_name (i := 4) sc_steps.nd rfl (Or.inl rfl)) pgs_nil)))
    (pss_one (ps_if (pt_cmpR op_lt (pe_ix ix_tup (pv 1) (pv 3) (fun _ _ => rfl)) (pe_callB call_len_seq (by rfl) T.z_len (by decide +kernel) (pa_cons (pv 4) pa_nil)) (nomark _))
    (pss_cons (ps_set (i := 5) sc_steps.nd rfl (Or.inl rfl) (pe_ix ix_list (pv 4) (pe_ix ix_tup (pv 1) (pv 3) (fun _ _ => rfl)) (fun _ _ => rfl)))
  (C8.pss_cut (ps_if (pt_cmp (pc_dnotin (hu_of hr) (pv 5) (pv 2)))
    (pss_one (ps_dput (hu_of hr) (pv 2) (pv 5) (pe_callTy call_list_of (by rfl) T.z_list (by decide +kernel) (pa_cons (pv 1) pa_nil)) rfl))
    pss_nil)
  (pss_one (ps_asg (pe_op op_add (pe_ix ix_tup (pv 1) (pv 3) (fun _ _ => rfl)) pe_int) (pg_sub (pe_dget (hu_of hr) (pv 2) (pv 5) (fun _ _ => rfl)) (pv 3) set_list)))))
    pss_nil)))
  (pss_one (ps_ret (pe_lc (own := [("symbol", 5)]) (g := (gName 5)) (tt := tYes) rfl sc_steps.nd (pi_list (pe_callB (call_sortedDI rfl) (by rfl) T.z_sorted (by decide +kernel) (pa_cons (pv 2) pa_nil))) (blkOk_by (own := [("symbol", 5)]) (N := ["rows", "front", "moved", "k", "row", "symbol"]) (sc := defScope s_steps) (by decide +kernel)) (fun _ _ _ _ _ => (pg_name (i := 5) sc_steps.nd rfl (Or.inl rfl))) (fun _ _ _ _ _ => pts_nil) (fun _ _ _ _ _ => (pe_tup (pa_cons (pv 5) (pa_cons (pe_callTy (call_tuple_ofE (K := K) rfl) (by rfl) T.z_tuple (by decide +kernel) (pa_cons (pe_dget (hu_of hr) (pv 2) (pv 5) (fun _ _ => rfl)) pa_nil)) pa_nil))))))))), ?_⟩
  obtain ⟨a, ft, zs, f, rfl, ⟨hS, hL, hn, hl⟩, hf, hok, q⟩ := h
  have hfl := hok.len
  rw [List.length_map] at hfl
  refine fun m nm => ?_
  refine ⟨.ref a, rfl, a, _, rfl, (same_new nm).seq hS, for_it (walk_enum (K := K) (a := a) (xs := refL zs)) (fun i σ H2 => Same H H2 ∧ ∃ ms : Ms, H2 m = some (.dK (kvM ms)) ∧ (ms.map (·.1)).Nodup ∧ (ms.map (·.2)).Nodup ∧
      (∀ q ∈ ms, H q.2 = none ∧ H2 q.2 = some (ilst (nmap (pfs q.1 (zs.map (·.2)) f i)))) ∧ (∀ b, b ∈ ms.map (·.1) ↔ SymB (zs.map (·.2)) f i b) ∧ ms.length ≤ i ∧ ∃ y1 y2 y3, σ = [some (.ref a), some (.ref ft), some (.ref m), y1, y2, y3])
    ⟨same_new nm, [], upd_same, List.nodup_nil, List.nodup_nil, fun q hq => (nomatch hq), fun b => ⟨fun h => (nomatch h), fun ⟨j, _, _, h, _⟩ => absurd h (Nat.not_lt_zero _)⟩, Nat.le_refl _, none, none, none, rfl⟩ (fun i σ H2 _ h => h.1.seq hS) ?_ ?_⟩
  · rintro i x σ H2 H3 hi ⟨s2, ms, hm, nd1, nd2, hms, hsy, hml, y1, y2, y3, rfl⟩ ⟨t, x1, x2, rfl, nt, rfl, e1, e2⟩
    obtain ⟨z, hz, hzm, rfl⟩ := refL_get e2
    obtain rfl : V.int (i : Nat) = x1 := Option.some.inj e1
    have hilt := (List.getElem?_eq_some_iff.mp hz).1
    have hz2 : (zs.map (·.2))[i]? = some z.2 := by rw [List.getElem?_map, hz]; rfl
    obtain ⟨k, hk, hkl⟩ := hok.at hz2
    have s23 : Same H2 (upd H2 t (.tup [.int (i : Nat), .ref z.1])) := same_new nt
    have s3 := s2.trans s23
    have hm3 := s23 _ _ hm
    have hms3 : ∀ q ∈ ms, H q.2 = none ∧ upd H2 t (.tup [.int (i : Nat), .ref z.1]) q.2 = some (ilst (nmap (pfs q.1 (zs.map (·.2)) f i))) := fun q hq => ⟨(hms q hq).1, s23 _ _ (hms q hq).2⟩
    have hTt : SqT K (upd H2 t (.tup [.int (i : Nat), .ref z.1])) t [.int (i : Nat), .ref z.1] := SqT.of upd_same
    generalize upd H2 t (.tup [.int (i : Nat), .ref z.1]) = H3 at s3 s23 hm3 hms3 hTt ⊢
    have hF : ∀ {H : Hp}, Same H3 H → SqT K H ft ((nmap f).map V.int) := fun s => SqT.of (s _ _ (s3 _ _ hf))
    have hW : ∀ {H : Hp}, Same H3 H → SqL K H z.1 (z.2.map V.int) := fun s => s.seq (s3.seq (hL z hzm))
    refine ⟨t, _, rfl, hTt, rfl, _, _, rfl, _, _, rfl, rfl, ?_⟩
    refine ⟨_, rfl, _, rfl, ft, _, _, _, rfl, rfl, hF (Same.refl _), atI_nat (nmap_get hk), _, rfl, z.1, _, rfl, .inl (hW (Same.refl _)), _, _, rfl, rfl, _, rfl, if2 (fun e => ?_) (fun e => ?_)⟩
    · rw [List.length_map] at e
      have hkl2 : k < z.2.length := by omega
      obtain ⟨b, hb⟩ : ∃ b, z.2[k]? = some b := ⟨_, List.getElem?_eq_getElem hkl2⟩
      refine ⟨_, rfl, _, rfl, _, rfl, ft, _, _, _, rfl, rfl, hF (Same.refl _), atI_nat (nmap_get hk), z.1, _, _, _, rfl, rfl, hW (Same.refl _), atI_nat (get_map hb), ?_⟩
      refine ⟨fun σ H4 => Same H H4 ∧ ∃ ms : Ms, H4 m = some (.dK (kvM ms)) ∧ (ms.map (·.1)).Nodup ∧ (ms.map (·.2)).Nodup ∧
        (∀ q ∈ ms, H q.2 = none ∧ H4 q.2 = some (ilst (nmap (pfs q.1 (zs.map (·.2)) f i)))) ∧ (∀ b, b ∈ ms.map (·.1) ↔ SymB (zs.map (·.2)) f (i + 1) b) ∧ ms.length ≤ i + 1 ∧ σ = [some (.ref a), some (.ref ft), some (.ref m), some (.int (i : Nat)), some (.ref z.1), some (.int b)], ?_, ?_⟩
      · refine ⟨_, rfl, _, rfl, m, _, rfl, DGet.k (k := Sum.inl b) hm3, _, rfl, ?_⟩
        have hsu : ∀ b', SymB (zs.map (·.2)) f (i + 1) b' ↔ b' ∈ ms.map (·.1) ∨ b' = b := fun b' => by
          rw [symB_succ hz2 hk, hsy, hb]
          exact or_congr Iff.rfl ⟨fun e => (Option.some.inj e).symm, fun e => by rw [e]⟩
        by_cases hbm : b ∈ ms.map (·.1)
        · obtain ⟨q, hq, e2⟩ := List.mem_map.mp hbm
          rw [← e2, kvM_some nd1 hq]
          refine iteF ⟨s3, ms, hm3, nd1, nd2, hms3, fun b' => ?_, by omega, by rw [e2]; rfl⟩
          rw [hsu]
          exact ⟨.inl, fun h => h.elim id fun e3 => by rw [e3]; exact hbm⟩
        · rw [kvM_none hbm]
          refine iteT ?_
          refine ⟨_, rfl, ft, _, rfl, .inr (hF (Same.refl _)), fun l nl => ⟨_, rfl, _, rfl, m, _, rfl, DPut.k (k := Sum.inl b) (same_new nl _ _ hm3) (small1000 (by unfold kvM; rw [List.length_map]; omega)), ?_⟩⟩
          have hlm : m ≠ l := ne_of_none hm3 nl
          refine ⟨same_mut (s3.trans (same_new nl)) nm, ms ++ [(b, l)], ?_, ?_, ?_, ?_, fun b' => ?_, ?_, rfl⟩
          · rw [upd_same, putK_new _ (kvM_none hbm)]
            unfold kvM
            rw [List.map_append]
            rfl
          · rw [List.map_append]
            exact List.nodup_append.mpr ⟨nd1, List.pairwise_singleton _ _, fun x hx y hy e3 => hbm (by have e4 := List.mem_singleton.mp (show y ∈ [b] from hy); rw [← e4, ← e3]; exact hx)⟩
          · rw [List.map_append]
            refine List.nodup_append.mpr ⟨nd2, List.pairwise_singleton _ _, fun x hx y hy e3 => ?_⟩
            obtain ⟨q, hq, rfl⟩ := List.mem_map.mp hx
            have h1 := (hms3 q hq).2
            rw [e3, List.mem_singleton.mp (show y ∈ [l] from hy), nl] at h1
            cases h1
          · intro q hq
            rcases List.mem_append.mp hq with hq | hq
            · refine ⟨(hms3 q hq).1, ?_⟩
              rw [upd_ne (ne_of (hms3 q hq).2 hm3 (fun e => nomatch e)), upd_ne (ne_of_none (hms3 q hq).2 nl)]
              exact (hms3 q hq).2
            · rw [List.mem_singleton.mp hq]
              refine ⟨s3.free nl, ?_⟩
              show upd (upd H3 l _) m _ l = _
              rw [upd_ne hlm.symm, upd_same, pfs_fresh hok (fun h => hbm ((hsy b).mpr h))]
          · rw [hsu, List.map_append, List.mem_append]
            exact or_congr Iff.rfl List.mem_singleton
          · rw [List.length_append]
            show ms.length + 1 ≤ i + 1
            omega
      · rintro σ H4 ⟨s4, ms4, hm4, nd1, nd2, hms4, hsy4, hml4, rfl⟩
        have hbm : b ∈ ms4.map (·.1) := (hsy4 b).mpr ((symB_succ hz2 hk).mpr (.inr hb))
        obtain ⟨q, hq, rfl⟩ := List.mem_map.mp hbm
        have hq4 := (hms4 q hq).2
        refine ⟨_, rfl, _, rfl, ft, _, _, _, rfl, rfl, SqT.of (s4 _ _ hf), atI_nat (nmap_get hk), _, _, rfl, rfl, _, rfl, _, rfl, m, .ref q.2, rfl, ?_, _, rfl, q.2, _, _, i, rfl, rfl, hq4, ixN_nat ?_, ?_⟩
        · have h1 := DGet.k (k := Sum.inl q.1) hm4
          rw [kvM_some nd1 hq] at h1
          exact h1
        · unfold nmap
          rw [List.length_map, List.length_map, pfs_len hok, List.length_map]
          exact hilt
        have eqs : ((nmap (pfs q.1 (zs.map (·.2)) f i)).map V.int).set i (.int ((k : Int) + 1)) = (nmap (pfs q.1 (zs.map (·.2)) f (i + 1))).map V.int := by
          have h1 : ((k : Int) + 1) = ((k + 1 : Nat) : Int) := by omega
          rw [h1, nmap_set, pfs_due hok hz2 hk hb]
        dsimp only
        rw [eqs]
        have hqm : m ≠ q.2 := ne_of hm4 hq4 (fun e => nomatch e)
        refine ⟨same_mut s4 (hms4 q hq).1, ms4, ?_, nd1, nd2, fun r hr => ⟨(hms4 r hr).1, ?_⟩, hsy4, hml4, _, _, _, rfl⟩
        · rw [upd_ne hqm]
          exact hm4
        · by_cases e3 : r.2 = q.2
          · rw [e3, upd_same]
            have e4 : r.1 = q.1 := by
              have h1 := List.pairwise_map.mp nd2
              by_cases e5 : r = q
              · rw [e5]
              · exact absurd e3 (pair_ne nd2 hr hq e5)
            rw [e4]
          · rw [upd_ne e3, ← pfs_other hok hz2 hk (fun e4 => e3 ?_)]
            · exact (hms4 r hr).2
            · rw [hb] at e4
              have e5 := Option.some.inj e4
              exact congrArg Prod.snd (pair_eq nd1 hr hq e5.symm)
    · rw [List.length_map] at e
      have hno : ∀ b, ¬ z.2[k]? = some b := fun b h => by
        have := (List.getElem?_eq_some_iff.mp h).1
        omega
      refine ⟨s3, ms, hm3, nd1, nd2, fun r hr => ⟨(hms3 r hr).1, ?_⟩, fun b' => ?_, by omega, _, _, _, rfl⟩
      · rw [← pfs_other hok hz2 hk (hno r.1)]
        exact (hms3 r hr).2
      · rw [symB_succ hz2 hk, hsy]
        exact ⟨.inl, fun h => h.elim id fun h => absurd h (hno b')⟩
  · rintro σ H2 ⟨s2, ms, hm, nd1, nd2, hms, hsy, hml, y1, y2, y3, rfl⟩
    have elen : (refL zs).length = (zs.map (·.2)).length := by unfold refL; rw [List.length_map, List.length_map]
    have hzl : (refL zs).length = zs.length := by unfold refL; rw [List.length_map]
    rw [elen] at hms hsy
    replace hms : ∀ q ∈ ms, H q.2 = none ∧ H2 q.2 = some (ilst (nmap (fstep q.1 (zs.map (·.2)) f))) := fun q hq => by
      rw [← pfs_end hok]
      exact hms q hq
    refine ⟨_, rfl, m, kvM ms, ms.map (·.1), rfl, .inl hm, kvM_keys ms, by rw [List.length_map]; omega, fun ys p pm srt np => ?_⟩
    have s23 : Same H2 (upd H2 p (.lst (ys.map V.int))) := same_new np
    have hp : upd H2 p (.lst (ys.map V.int)) p = some (ilst ys) := upd_same
    generalize upd H2 p (.lst (ys.map V.int)) = H3 at s23 hp ⊢
    have s3 := s2.trans s23
    have hys : ys.length ≤ 63 := by
      rw [pm.length_eq, List.length_map]
      omega
    refine ⟨p, rfl, ⟨_, SqL.of hp⟩, fun D hD => lc_list (K := K) (a := p) (xs := ys.map V.int) (fun i H4 => Same H3 H4 ∧ ∃ ps : Ps, H4 D = some (.lst (refP ps)) ∧
      (∀ q ∈ ps, H4 q.1 = some (.tup [.int q.2.1, .ref q.2.2]) ∧ H4 q.2.2 = some (itup (nmap (fstep q.2.1 (zs.map (·.2)) f)))) ∧ ps.map (·.2.1) = ys.take i) ⟨same_new hD, [], upd_same, fun q hq => (nomatch hq), rfl⟩ (fun i H4 _ h => SqL.of (h.1 _ _ hp)) ?_ ?_⟩
    · rintro i x H4 hi ⟨s4, ps, h4, hps, em⟩
      obtain ⟨b, hb, rfl⟩ := map_get hi
      have hbm : b ∈ ms.map (·.1) := pm.mem_iff.mp (List.mem_of_getElem? hb)
      obtain ⟨q, hq, rfl⟩ := List.mem_map.mp hbm
      have hq4 := s4 _ _ (s23 _ _ (hms q hq).2)
      have hilt := (List.getElem?_eq_some_iff.mp hb).1
      have hpl : ps.length ≤ i := by
        have e := congrArg List.length em
        rw [List.length_map, List.length_take] at e
        omega
      refine ⟨rfl, yes_then ?_⟩
      refine ⟨_, rfl, _, rfl, _, rfl, m, .ref q.2, rfl, ?_, q.2, _, rfl, .inl ⟨SqL.of hq4, fun t nt => ⟨(by show 2 ≤ sizeLine; decide), fun u nu => ⟨_, same_new nu _ _ (same_new nt _ _ h4), small1000 (by unfold refP; rw [List.length_map]; omega), ?_⟩⟩⟩⟩
      · have h1 := DGet.k (k := Sum.inl q.1) (s4 _ _ (s23 _ _ hm))
        rw [kvM_some nd1 hq] at h1
        exact h1
      have ht : upd (upd (upd H4 t (.tup ((nmap (fstep q.1 (zs.map (·.2)) f)).map V.int))) u (.tup [.int q.1, .ref t])) D (.lst (refP ps ++ [.ref u])) t = some (itup (nmap (fstep q.1 (zs.map (·.2)) f))) := by
        rw [upd_ne (ne_of_none h4 nt).symm, upd_ne (ne_of_none upd_same nu), upd_same]
      refine ⟨same_mut ((s4.trans (same_new nt)).trans (same_new nu)) hD, ps ++ [(u, q.1, t)], ?_, fun r hr => ?_, ?_⟩
      · rw [upd_same]
        unfold refP
        rw [List.map_append]
        rfl
      · rcases List.mem_append.mp hr with hr | hr
        · have h1 := same_new (o := .tup [.int q.1, .ref t]) nu _ _ (same_new (o := .tup ((nmap (fstep q.1 (zs.map (·.2)) f)).map V.int)) nt _ _ (hps r hr).1)
          have h2 := same_new (o := .tup [.int q.1, .ref t]) nu _ _ (same_new (o := .tup ((nmap (fstep q.1 (zs.map (·.2)) f)).map V.int)) nt _ _ (hps r hr).2)
          have h3 := same_new (o := .tup [.int q.1, .ref t]) nu _ _ (same_new (o := .tup ((nmap (fstep q.1 (zs.map (·.2)) f)).map V.int)) nt _ _ h4)
          rw [upd_ne (ne_of h1 h3 (fun e => nomatch e)), upd_ne (ne_of h2 h3 (fun e => nomatch e))]
          exact ⟨h1, h2⟩
        · rw [List.mem_singleton.mp hr]
          refine ⟨?_, ht⟩
          have h3 := same_new (o := .tup ((nmap (fstep q.1 (zs.map (·.2)) f)).map V.int)) nt _ _ h4
          show upd (upd (upd H4 t _) u _) D _ u = _
          rw [upd_ne (ne_of_none h3 nu).symm, upd_same]
      · rw [List.map_append, em, List.take_add_one, hb]
        rfl
    · rintro H4 ⟨s4, ps, h4, hps, em⟩
      rw [List.length_map, List.take_length] at em
      refine q H4 D ps (s3.trans s4) (s3.free hD) h4 ⟨hps, fun b => ?_⟩ ?_
      · rw [em, pm.mem_iff, hsy, symB_end]
      · have e := congrArg List.length em
        rw [List.length_map] at e
        omega
end
end K57

namespace K57
open PySem PySem.Spec PyProof.Rows L2 Fw Lay
section
variable {P : Program} {w : World} {K : PySem.W.Frag} {mg : Str → Option Value} {base : Heap}
theorem ok_reachable (T : Txt K mg) : Good P w K mg base 2 (He.ga K "reachable") ["rows"] [] (sp_reachable K) := by
  refine good_of T.f_reachable sc_reachable (fun vs H Q E h => ?_) (fun _ _ _ _ _ _ us hl => match us, hl with | [_], _ => rfl) (fun cdv A outer s H vs Q E hr h => ?_)
  · obtain ⟨_, _, rfl, _⟩ := h
    rfl
  refine ⟨_, (pss_cons (ps_set (i := 1) sc_reachable.nd rfl (Or.inl rfl) (pe_lst (pa_cons (pe_cg (ok_zeros T) (hr.mono (j := 1) (by decide)) (by rfl) T.g_zeros (pa_cons (pv 0) pa_nil)) pa_nil)))
  (pss_cons (ps_set (i := 2) sc_reachable.nd rfl (Or.inl rfl) (pe_disp1T (hu_of hr) (pe_ix ix_list (pv 1) pe_int (fun _ _ => rfl)) pe_bl))
  (pss_cons (ps_set (i := 3) sc_reachable.nd rfl (Or.inl rfl) pe_int)
  (pss_cons (ps_while PassesOwn.never (pt_cmpR op_lt (pv 3) (pe_callB call_len_seq (by rfl) T.z_len (by decide +kernel) (pa_cons (pv 1) pa_nil)) (nomark _))
    (pss_cons (ps_for PassesOwn.never rfl (pi_list (pe_cg (ok_steps T) (hr.mono (j := 1) (by decide)) (by rfl) T.g_steps (pa_cons (pv 0) (pa_cons (pe_ix ix_list (pv 1) (pv 3) (fun _ _ => rfl)) pa_nil)))) (pg_tup rfl (pgs_cons (pg_name (i := 4) sc_reachable.nd rfl (Or.inl rfl)) (pgs_cons (pg_name (i := 5) sc_reachable.nd rfl (Or.inl rfl)) pgs_nil)))
    (pss_one (ps_if (pt_cmp (pc_dnotin (hu_of hr) (pv 5) (pv 2)))
    (pss_cons (ps_dput (hu_of hr) (pv 2) (pv 5) pe_bl rfl)
  (pss_one (ps_expr (pe_bm PySem.F.plainAttrs_list PySem.F.slot_list_append PySem.F.type_list_append mt_append (pv 1) (pa_cons (pv 5) pa_nil)))))
    pss_nil)))
  (pss_one (ps_aug (i := 3) sc_reachable.nd rfl (Or.inl rfl) pe_int ip_add))))
  (pss_one (ps_ret (pv 1))))))), ?_⟩
  obtain ⟨a, zs, rfl, hRw, hP, q⟩ := h
  refine ⟨_, rfl, a, zs, rfl, hRw, fun H1 t s1 nt ht => ⟨(by show 1 ≤ sizeLine; decide), fun l nl => ?_⟩⟩
  have nlH : H l = none := s1.free nl
  have s2 := s1.trans (same_new (o := .lst [.ref t]) nl)
  have hl2 : upd H1 l (.lst [.ref t]) l = some (.lst [.ref t]) := upd_same
  have ht2 : upd H1 l (.lst [.ref t]) t = some (itup (nmap (f0 (zs.map (·.2))))) := same_new nl _ _ ht
  generalize upd H1 l (.lst [.ref t]) = H2 at s2 hl2 ht2 ⊢
  refine fun d nd => ?_
  have ndH : H d = none := s2.free nd
  have sd : Same H2 (upd H2 d (.dT [])) := same_new nd
  refine ⟨.ref l, rfl, l, _, 0, _, rfl, rfl, SqL.of (sd _ _ hl2), rfl, upd_same, t, fkey (f0 (zs.map (·.2))), rfl, tup_key (sd _ _ ht2), ?_⟩
  have hl3 : upd (upd H2 d (.dT [])) d (.dT [(fkey (f0 (zs.map (·.2))), .bl true)]) l = some (.lst [.ref t]) := by
    rw [upd_ne (ne_of_none hl2 nd)]
    exact sd _ _ hl2
  have ht3 : upd (upd H2 d (.dT [])) d (.dT [(fkey (f0 (zs.map (·.2))), .bl true)]) t = some (itup (nmap (f0 (zs.map (·.2))))) := by
    rw [upd_ne (ne_of_none ht2 nd)]
    exact sd _ _ ht2
  have hd3 : upd (upd H2 d (.dT [])) d (.dT [(fkey (f0 (zs.map (·.2))), .bl true)]) d = some (.dT [(fkey (f0 (zs.map (·.2))), .bl true)]) := upd_same
  have s3 : Same H (upd (upd H2 d (.dT [])) d (.dT [(fkey (f0 (zs.map (·.2))), .bl true)])) := same_mut (s2.trans sd) ndH
  generalize upd (upd H2 d (.dT [])) d (.dT [(fkey (f0 (zs.map (·.2))), .bl true)]) = H3 at hl3 ht3 hd3 s3 ⊢
  refine ⟨fun m σ H5 => Same H H5 ∧ ∃ (fs : Fs) (i : Nat), H5 l = some (.lst (refF fs)) ∧ H5 d = some (.dT (kvF fs)) ∧ FsOk H5 (zs.map (·.2)) fs ∧ f0 (zs.map (·.2)) ∈ fs.map (·.2) ∧ i ≤ fs.length ∧
      (∀ j f, j < i → fs[j]? = some f → ∀ b, Sym (zs.map (·.2)) f.2 b → fstep b (zs.map (·.2)) f.2 ∈ fs.map (·.2)) ∧ m = prodL (zs.map (·.2)) - i ∧ ∃ y4 y5, σ = [some (.ref a), some (.ref l), some (.ref d), some (.int (i : Nat)), y4, y5], ⟨_, s3, [(t, f0 (zs.map fun z : Addr × List Int => z.2))], 0, hl3, hd3, ⟨fun r hr => ?_, List.pairwise_singleton _ _⟩, List.mem_singleton.mpr rfl, Nat.zero_le _, fun j f h => absurd h (Nat.not_lt_zero _), rfl, none, none, rfl⟩, ?_⟩
  · rw [List.mem_singleton.mp hr]
    exact ⟨ht3, FOk.zero _⟩
  rintro m σ H5 ⟨s5, fs, i, hl5, hd5, hfs, h0, hi, hcl, rfl, y4, y5, rfl⟩
  have hfl : fs.length ≤ prodL (zs.map (·.2)) := by
    have h1 := few_fronts hfs.2 (fun f hf => by
      obtain ⟨r, hr, rfl⟩ := List.mem_map.mp hf
      exact (hfs.1 r hr).2)
    rw [List.length_map] at h1
    exact h1
  refine ⟨_, rfl, _, rfl, l, _, rfl, .inl (SqL.of hl5), _, _, rfl, rfl, _, rfl, if2 (fun e => ?_) (fun e => ?_)⟩
  · refine ⟨_, fun σ' H' h => h, ?_⟩
    have hilt : i < fs.length := by
      have e2 : (refF fs).length = fs.length := List.length_map ..
      omega
    obtain ⟨fr, hfr⟩ : ∃ fr, fs[i]? = some fr := ⟨_, List.getElem?_eq_getElem hilt⟩
    have hfrm := List.mem_of_getElem? hfr
    have hfr2 : (refF fs)[i]? = some (.ref fr.1) := by
      unfold refF
      rw [List.getElem?_map, hfr]
      rfl
    refine ⟨_, rfl, .ref l, rfl, _, rfl, l, _, _, _, rfl, rfl, SqL.of hl5, atI_nat hfr2, a, fr.1, zs, fr.2, rfl, hRw.same s5, (hfs.1 fr hfrm).1, (hfs.1 fr hfrm).2, fun H6 p ps s6 np hp hps hpl => ?_⟩
    have hpl5 : p ≠ l := (ne_of_none hl5 np).symm
    have hpd5 : p ≠ d := (ne_of_none hd5 np).symm
    refine ⟨p, rfl, ⟨_, SqL.of hp⟩, for_list (K := K) (a := p) (xs := refP ps) (fun j σ H7 => But2 l d H6 H7 ∧ ∃ fs2 : Fs, H7 l = some (.lst (refF fs2)) ∧ H7 d = some (.dT (kvF fs2)) ∧ FsOk H7 (zs.map (·.2)) fs2 ∧ fs <+: fs2 ∧
        (∀ r ∈ ps.take j, fstep r.2.1 (zs.map (·.2)) fr.2 ∈ fs2.map (·.2)) ∧ ∃ y4 y5, σ = [some (.ref a), some (.ref l), some (.ref d), some (.int (i : Nat)), y4, y5])
      ⟨fun c o _ _ h => h, fs, s6 _ _ hl5, s6 _ _ hd5, ⟨fun r hr => ⟨s6 _ _ (hfs.1 r hr).1, (hfs.1 r hr).2⟩, hfs.2⟩, List.prefix_refl _, fun r hr => (nomatch hr), y4, y5, rfl⟩ (fun j σ H7 _ h => SqL.of (h.1 _ _ hpl5 hpd5 hp)) ?_ ?_⟩
    · rintro j x σ H7 hj ⟨b7, fs2, hl7, hd7, hfs7, hpre, hdone, y4, y5, rfl⟩
      obtain ⟨r, hr, hrm, rfl⟩ : ∃ r, ps[j]? = some r ∧ r ∈ ps ∧ x = V.ref r.1 := by
        unfold refP at hj
        rw [List.getElem?_map] at hj
        cases e2 : ps[j]? with
        | none =>
          rw [e2] at hj
          cases hj
        | some r =>
          rw [e2] at hj
          exact ⟨r, rfl, List.mem_of_getElem? e2, (Option.some.inj hj).symm⟩
      have hl6 := s6 _ _ hl5
      have hd6 := s6 _ _ hd5
      have h1 : H7 r.1 = some (.tup [.int r.2.1, .ref r.2.2]) := b7 _ _ (ne_of (hps.1 r hrm).1 hl6 (fun e => nomatch e)) (ne_of (hps.1 r hrm).1 hd6 (fun e => nomatch e)) (hps.1 r hrm).1
      have h2 : H7 r.2.2 = some (itup (nmap (fstep r.2.1 (zs.map (·.2)) fr.2))) := b7 _ _ (ne_of (hps.1 r hrm).2 hl6 (fun e => nomatch e)) (ne_of (hps.1 r hrm).2 hd6 (fun e => nomatch e)) (hps.1 r hrm).2
      have hf2l : fs2.length ≤ prodL (zs.map (·.2)) := by
        have h1 := few_fronts hfs7.2 (fun f hf => by
          obtain ⟨r, hr, rfl⟩ := List.mem_map.mp hf
          exact (hfs7.1 r hr).2)
        rw [List.length_map] at h1
        exact h1
      refine ⟨r.1, _, rfl, SqT.of h1, rfl, _, _, rfl, _, _, rfl, rfl, ?_⟩
      refine ⟨_, rfl, _, rfl, d, _, rfl, DGet.t hd7 (tup_key h2), _, rfl, ?_⟩
      have htk : ∀ r' ∈ ps.take (j + 1), r' ∈ ps.take j ∨ r' = r := fun r' h => by
        rw [List.take_add_one, hr] at h
        rcases List.mem_append.mp h with h | h
        · exact .inl h
        · exact .inr (List.mem_singleton.mp h)
      by_cases hin : fstep r.2.1 (zs.map (·.2)) fr.2 ∈ fs2.map (·.2)
      · rw [kvF_some hin]
        refine iteF ⟨b7, fs2, hl7, hd7, hfs7, hpre, fun r' h => ?_, _, _, rfl⟩
        rcases htk r' h with h | h
        · exact hdone r' h
        · rw [h]
          exact hin
      · rw [kvF_none hin]
        have hld : l ≠ d := ne_of hl7 hd7 (fun e => nomatch e)
        refine iteT ⟨_, rfl, _, rfl, d, _, rfl, DPut.t hd7 (tup_key h2) ?_, ?_⟩
        · unfold kvF
          rw [List.length_map]
          exact Nat.lt_of_le_of_lt (Nat.le_trans hf2l hP) (by decide)
        rw [putK_new _ (kvF_none hin)]
        have b8 : But2 l d H6 (upd H7 d (.dT (kvF fs2 ++ [(fkey (fstep r.2.1 (zs.map (·.2)) fr.2), .bl true)]))) := fun c o n1 n2 e => by
          rw [upd_ne n2]
          exact b7 c o n1 n2 e
        have hl8 : upd H7 d (.dT (kvF fs2 ++ [(fkey (fstep r.2.1 (zs.map (·.2)) fr.2), .bl true)])) l = some (.lst (refF fs2)) := by
          rw [upd_ne hld]
          exact hl7
        have hd8 : upd H7 d (.dT (kvF fs2 ++ [(fkey (fstep r.2.1 (zs.map (·.2)) fr.2), .bl true)])) d = some (.dT (kvF fs2 ++ [(fkey (fstep r.2.1 (zs.map (·.2)) fr.2), .bl true)])) := upd_same
        have ht8 : ∀ c f, H7 c = some (itup f) → upd H7 d (.dT (kvF fs2 ++ [(fkey (fstep r.2.1 (zs.map (·.2)) fr.2), .bl true)])) c = some (itup f) := fun c f h => by
          rw [upd_ne (ne_of h hd7 (fun e => nomatch e))]
          exact h
        generalize upd H7 d (.dT (kvF fs2 ++ [(fkey (fstep r.2.1 (zs.map (·.2)) fr.2), .bl true)])) = H8 at b8 hl8 hd8 ht8 ⊢
        refine ⟨.ref l, rfl, .inl ⟨rfl, _, SqL.of hl8⟩, _, rfl, l, _, _, rfl, rfl, hl8, ?_, ?_⟩
        · unfold refF
          rw [List.length_map]
          exact Nat.lt_of_le_of_lt (Nat.le_trans hf2l hP) (by decide)
        refine ⟨fun c o n1 n2 e => ?_, fs2 ++ [(r.2.2, fstep r.2.1 (zs.map fun z : Addr × List Int => z.2) fr.2)], ?_, ?_, ⟨fun r' h => ?_, ?_⟩, ?_, fun r' h => ?_, _, _, rfl⟩
        · rw [upd_ne n1]
          exact b8 c o n1 n2 e
        · rw [upd_same]
          unfold refF
          rw [List.map_append]
          rfl
        · rw [upd_ne hld.symm, hd8]
          unfold kvF
          rw [List.map_append]
          rfl
        · rcases List.mem_append.mp h with h | h
          · have h3 := ht8 _ _ (hfs7.1 r' h).1
            rw [upd_ne (ne_of h3 hl8 (fun e => nomatch e))]
            exact ⟨h3, (hfs7.1 r' h).2⟩
          · rw [List.mem_singleton.mp h]
            have h3 := ht8 _ _ h2
            refine ⟨?_, FOk.step _ (hfs.1 fr hfrm).2⟩
            show upd H8 l _ r.2.2 = _
            rw [upd_ne (ne_of h3 hl8 (fun e => nomatch e))]
            exact h3
        · rw [List.map_append]
          exact List.nodup_append.mpr ⟨hfs7.2, List.pairwise_singleton _ _, fun x hx y hy e3 => hin (by have e4 := List.mem_singleton.mp (show y ∈ [fstep r.2.1 (zs.map (·.2)) fr.2] from hy); rw [← e4, ← e3]; exact hx)⟩
        · obtain ⟨more, rfl⟩ := hpre
          exact ⟨more ++ [(r.2.2, fstep r.2.1 (zs.map (·.2)) fr.2)], by rw [List.append_assoc]⟩
        · rw [List.map_append, List.mem_append]
          rcases htk r' h with h | h
          · exact .inl (hdone r' h)
          · rw [h]
            exact .inr (List.mem_singleton.mpr rfl)
    · rintro σ H7 ⟨b7, fs2, hl7, hd7, hfs7, hpre, hdone, y4, y5, rfl⟩
      obtain ⟨more, rfl⟩ := hpre
      have hsub : ∀ f, f ∈ fs.map (·.2) → f ∈ (fs ++ more).map (·.2) := fun f h => by
        rw [List.map_append]
        exact List.mem_append_left _ h
      have e3 : (ps.take (refP ps).length) = ps := List.take_of_length_le (by unfold refP; rw [List.length_map]; exact Nat.le_refl _)
      rw [e3] at hdone
      refine ⟨_, rfl, _, _, rfl, rfl, prodL (zs.map (·.2)) - (i + 1), by omega, fun c o h => ?_, fs ++ more, i + 1, hl7, hd7, hfs7, hsub _ h0, by rw [List.length_append]; omega, fun j f hj hf b hb => ?_, rfl, y4, y5, ?_⟩
      · refine b7 c o (fun e => ?_) (fun e => ?_) (s6 _ _ (s5 _ _ h))
        · rw [e, nlH] at h
          cases h
        · rw [e, ndH] at h
          cases h
      · by_cases hji : j = i
        · subst hji
          rw [List.getElem?_append_left hilt, hfr] at hf
          obtain rfl := Option.some.inj hf
          obtain ⟨r, hr, e4⟩ := List.mem_map.mp ((hps.2 b).mpr hb)
          rw [← e4]
          exact hdone r hr
        · rw [List.getElem?_append_left (by omega)] at hf
          exact hsub _ (hcl j f (by omega) hf b hb)
      · have e4 : ((i + 1 : Nat) : Int) = (i : Int) + 1 := by omega
        rw [e4]
        rfl
  · have e2 : (refF fs).length = fs.length := List.length_map ..
    refine ⟨_, rfl, q H5 l fs s5 nlH hl5 hfs h0 fun f hf b hb => ?_⟩
    obtain ⟨r, hr, rfl⟩ := List.mem_map.mp hf
    obtain ⟨j, hj, e3⟩ := List.mem_iff_getElem.mp hr
    exact hcl j r (by omega) (by rw [List.getElem?_eq_getElem hj, e3]) b hb
end
end K57

namespace K57
open PySem PySem.Spec PyProof.Rows L2 Fw Lay
section
variable {P : Program} {w : World} {K : PySem.W.Frag} {mg : Str → Option Value} {base : Heap}
theorem refP_get {ps : Ps} {j : Nat} {x : V} (hj : (refP ps)[j]? = some x) : ∃ r, ps[j]? = some r ∧ r ∈ ps ∧ x = V.ref r.1 := by
  unfold refP at hj
  rw [List.getElem?_map] at hj
  cases e2 : ps[j]? with
  | none =>
    rw [e2] at hj
    cases hj
  | some r =>
    rw [e2] at hj
    exact ⟨r, rfl, List.mem_of_getElem? e2, (Option.some.inj hj).symm⟩
theorem sym_in {n : Nat} {ls : Ls} {f : Ft} {b : Int} (h : SyOk n ls) (hb : Sym ls f b) : 0 ≤ b ∧ b < (n : Int) := by
  obtain ⟨j, l, k, h1, _, h3⟩ := sym_get.mp hb
  exact h l (List.mem_of_getElem? h1) b (List.mem_of_getElem? h3)
theorem ok_height (T : Txt K mg) : Good P w K mg base 2 (He.ga K "height") ["prices", "rows", "front", "heights"] [] (sp_height K) := by
  refine good_of T.f_height sc_height (fun vs H Q E h => ?_) (fun _ _ _ _ _ _ us hl => match us, hl with | [_, _, _, _], _ => rfl) (fun cdv A outer s H vs Q E hr h => ?_)
  · obtain ⟨_, _, _, _, _, _, _, _, rfl, _⟩ := h
    rfl
  refine ⟨_, (pss_cons (ps_setLc (i := 4) (own := [("symbol", 5), ("behind", 6)]) (g := (gTup K 2 (gCons (gName 5) (gCons (gName 6) gNil)))) (tt := tYes) rfl sc_height.nd rfl rfl (sw_true rfl rfl rfl (by decide +kernel)) (pi_list (pe_cg (ok_steps T) (hr.mono (j := 1) (by decide)) (by rfl) T.g_steps (pa_cons (pv 1) (pa_cons (pv 2) pa_nil)))) (blkOk_by (own := [("symbol", 5), ("behind", 6)]) (N := ["prices", "rows", "front", "heights", "costs", "symbol", "behind"]) (sc := defScope s_height) (by decide +kernel)) (fun _ _ _ _ _ => (pg_tup rfl (pgs_cons (pg_name (i := 5) sc_height.nd rfl (Or.inl rfl)) (pgs_cons (pg_name (i := 6) sc_height.nd rfl (Or.inl rfl)) pgs_nil)))) (fun _ _ _ _ _ => pts_nil) (fun _ _ _ _ _ => (pe_op op_add (pe_ix (ix_listE (K := K) rfl) (pv 0) (pv 5) (fun _ _ => rfl)) (pe_dget (hu_of hr) (pv 3) (pv 6) (fun _ _ => rfl)))))
  (pss_one (ps_ret (pe_callBK (cr_minD rfl (hu_of hr)) (by rfl) T.z_min (by decide +kernel) (pa_cons (pv 4) pa_nil) (pk_cons pe_int pk_nil))))), ?_⟩
  obtain ⟨c, a, t, d, pr, zs, f, kvs, rfl, hC, hPr, hRw, hSy, ht, hok, hd, hH, q⟩ := h
  obtain ⟨u, hu⟩ : ∃ u : Int → Int, ∀ b, Sym (zs.map (·.2)) f b → valV kvs (fkey (fstep b (zs.map (·.2)) f)) = some (.int (u b)) ∧ Least (pw pr) (rst (zs.map (·.2)) (fstep b (zs.map (·.2)) f)) (u b) := by
    classical
    exact ⟨fun b => if h : Sym (zs.map (·.2)) f b then (hH b h).choose else 0, fun b hb => by
      dsimp only
      rw [dif_pos hb]
      exact (hH b hb).choose_spec⟩
  refine ⟨_, rfl, _, rfl, a, t, zs, f, rfl, hRw, ht, hok, fun H2 p ps s2 np hp hps hpl => ?_⟩
  refine ⟨p, rfl, ⟨_, SqL.of hp⟩, fun D hD => lc_list (K := K) (a := p) (xs := refP ps) (fun i H3 => Same H2 H3 ∧ H3 D = some (ilst ((ps.take i).map fun r => pw pr r.2.1 + u r.2.1))) ⟨same_new hD, upd_same⟩ (fun i H3 _ h => SqL.of (h.1 _ _ hp)) ?_ ?_⟩
  · rintro i x H3 hi ⟨s3, h3⟩
    obtain ⟨r, hr, hrm, rfl⟩ := refP_get hi
    have hilt := (List.getElem?_eq_some_iff.mp hr).1
    have hsym := (hps.2 r.2.1).mp (List.mem_map_of_mem (f := fun z : Addr × Int × Addr => z.2.1) hrm)
    have hin := sym_in hSy hsym
    refine ⟨r.1, _, rfl, SqT.of (s3 _ _ (hps.1 r hrm).1), rfl, _, _, rfl, _, _, rfl, rfl, rfl, yes_then ?_⟩
    refine ⟨_, rfl, _, rfl, c, _, _, _, rfl, rfl, (s2.trans s3).seq hC, pw_sym hin.1 hin.2, _, rfl, _, rfl, d, .int (u r.2.1), rfl, ?_, _, _, rfl, rfl, _, h3, small1000 (by rw [List.length_map, List.length_map, List.length_take]; omega), same_mut s3 hD, ?_⟩
    · have h1 := DGet.t (s3 _ _ (s2 _ _ hd)) (tup_key (s3 _ _ (hps.1 r hrm).2))
      rw [(hu _ hsym).1] at h1
      exact h1
    · rw [upd_same, List.take_add_one, hr, List.map_append]
      unfold ilst
      rw [List.map_append]
      rfl
  rintro H3 ⟨s3, h3⟩
  have e1 : ps.take (refP ps).length = ps := List.take_of_length_le (by unfold refP; rw [List.length_map]; exact Nat.le_refl _)
  rw [e1] at h3
  dsimp only
  refine ⟨_, rfl, D, _, 0, rfl, rfl, SqL.of h3, fun e => ?_, fun m hm hle => ?_⟩
  · refine q H3 0 (s2.trans s3) (least_of (pw_nonneg hPr.2.2) (fun b hb => (hu b hb).2) (fun _ => rfl) (fun ⟨b, hb⟩ => ?_) (fun b hb => ?_))
    · have h1 := (hps.2 b).mpr hb
      rw [List.map_eq_nil_iff.mp e] at h1
      cases h1
    · have h1 := (hps.2 b).mpr hb
      rw [List.map_eq_nil_iff.mp e] at h1
      cases h1
  · refine q H3 m (s2.trans s3) (least_of (pw_nonneg hPr.2.2) (fun b hb => (hu b hb).2) (fun hn => ?_) (fun _ => ?_) (fun b hb => ?_))
    · obtain ⟨r, hr, _⟩ := List.mem_map.mp hm
      exact absurd ((hps.2 r.2.1).mp (List.mem_map_of_mem (f := fun z : Addr × Int × Addr => z.2.1) hr)) (hn _)
    · obtain ⟨r, hr, e⟩ := List.mem_map.mp hm
      exact ⟨r.2.1, (hps.2 r.2.1).mp (List.mem_map_of_mem (f := fun z : Addr × Int × Addr => z.2.1) hr), e.symm⟩
    · obtain ⟨r, hr, e⟩ := List.mem_map.mp ((hps.2 b).mpr hb)
      rw [← e]
      exact hle _ (List.mem_map_of_mem (f := fun r : Addr × Int × Addr => pw pr r.2.1 + u r.2.1) hr)
end
end K57

namespace K57
open PySem PySem.Spec PyProof.Rows L2 Fw Lay
section
variable {P : Program} {w : World} {K : PySem.W.Frag} {mg : Str → Option Value} {base : Heap}
theorem nmap_sum : ∀ f : Ft, (nmap f).sum = (f.sum : Int)
  | [] => rfl
  | k :: f => by
    show (k : Int) + (nmap f).sum = ((k :: f).sum : Nat)
    rw [nmap_sum f, List.sum_cons, Int.natCast_add]
theorem ok_front_heights (T : Txt K mg) : Good P w K mg base 3 (He.ga K "front_heights") ["prices", "rows"] [] (sp_front_heights K) := by
  refine good_of T.f_front_heights sc_front_heights (fun vs H Q E h => ?_) (fun _ _ _ _ _ _ us hl => match us, hl with | [_, _], _ => rfl) (fun cdv A outer s H vs Q E hr h => ?_)
  · obtain ⟨_, _, _, _, rfl, _⟩ := h
    rfl
  refine ⟨_, (pss_cons (ps_expr (pe_cg (ok_check_fronts T) (hr.mono (j := 1) (by decide)) (by rfl) T.g_check_fronts (pa_cons (pv 1) pa_nil)))
  (pss_cons (ps_set (i := 2) sc_front_heights.nd rfl (Or.inl rfl) pe_dnewT)
  (pss_cons (ps_for PassesOwn.never rfl (pi_list (pe_sortSum rfl (hr.units) (by rfl) T.z_sorted (by rfl) T.z_sum (pa_cons (pe_cg (ok_reachable T) (hr.mono (j := 2) (by decide)) (by rfl) T.g_reachable (pa_cons (pv 1) pa_nil)) pa_nil))) (pg_name (i := 3) sc_front_heights.nd rfl (Or.inl rfl))
    (pss_one (ps_dput (hu_of hr) (pv 2) (pv 3) (pe_cg (ok_height T) (hr.mono (j := 2) (by decide)) (by rfl) T.g_height (pa_cons (pv 0) (pa_cons (pv 1) (pa_cons (pv 3) (pa_cons (pv 2) pa_nil))))) rfl)))
  (pss_one (ps_ret (pv 2)))))), ?_⟩
  obtain ⟨c, a, pr, zs, rfl, hC, hPr, hRw, hSy, hP, q⟩ := h
  refine ⟨_, rfl, a, zs, rfl, hRw, hP, ?_⟩
  refine fun d nd => ?_
  have sd : Same H (upd H d (.dT [])) := same_new nd
  have hd0 : upd H d (.dT []) d = some (.dT []) := upd_same
  generalize upd H d (.dT []) = H1 at sd hd0 ⊢
  refine ⟨_, rfl, a, zs, rfl, hRw.same sd, hP, fun H2 p fs s2 np hp hfs h0 hcl => ?_⟩
  refine ⟨p, fs.map (fun f : Addr × Ft => (f.1, nmap f.2)), rfl, ?_, fun g hg => ?_, fun gs pg pm srt npg => ?_⟩
  · rw [List.map_map]
    exact SqL.of hp
  · obtain ⟨f, hf, rfl⟩ := List.mem_map.mp hg
    exact (hfs.1 f hf).1
  obtain ⟨gm, gp, rfl⟩ := perm_back pm fs rfl
  have s3 : Same H2 (upd H2 pg (.lst ((gm.map fun f : Addr × Ft => (f.1, nmap f.2)).map fun f => V.ref f.1))) := same_new npg
  have hpg : upd H2 pg (.lst ((gm.map fun f : Addr × Ft => (f.1, nmap f.2)).map fun f => V.ref f.1)) pg = some (.lst (refF gm)) := by
    rw [upd_same, List.map_map]
    rfl
  have ex : (gm.map fun f : Addr × Ft => (f.1, nmap f.2)).map (fun f => V.ref f.1) = refF gm := by
    rw [List.map_map]
    rfl
  generalize upd H2 pg (.lst ((gm.map fun f : Addr × Ft => (f.1, nmap f.2)).map fun f => V.ref f.1)) = H3 at s3 hpg ⊢
  have hd3 := s3 _ _ (s2 _ _ hd0)
  have s13 := s2.trans s3
  have hgm : ∀ g ∈ gm, H3 g.1 = some (itup (nmap g.2)) ∧ FOk (zs.map (·.2)) g.2 := fun g hg => ⟨s3 _ _ (hfs.1 g (gp.mem_iff.mp hg)).1, (hfs.1 g (gp.mem_iff.mp hg)).2⟩
  have hmem : ∀ f, f ∈ gm.map (·.2) ↔ f ∈ fs.map (·.2) := fun f => (gp.map (·.2)).mem_iff
  have hgl : gm.length ≤ 5000 := by
    have h1 := few_fronts hfs.2 (fun f hf => by
      obtain ⟨r, hr, rfl⟩ := List.mem_map.mp hf
      exact (hfs.1 r hr).2)
    rw [List.length_map] at h1
    rw [gp.length_eq]
    omega
  have hord : gm.Pairwise (fun f g => g.2.sum ≤ f.2.sum) := (List.pairwise_map.mp srt).imp fun {f g} h => by
    have h1 : (nmap g.2).sum ≤ (nmap f.2).sum := h
    rw [nmap_sum, nmap_sum] at h1
    omega
  refine ⟨pg, rfl, ⟨_, SqL.of hpg⟩, for_list (K := K) (a := pg) (xs := refF gm) (fun i σ H7 => But d H3 H7 ∧ (∃ kvs, H7 d = some (.dT kvs) ∧ kvs.length ≤ i ∧ ∀ g ∈ gm.take i, Hts (pw pr) (zs.map (·.2)) kvs g.2) ∧ ∃ y, σ = [some (.ref c), some (.ref a), some (.ref d), y])
    ⟨But.refl, ⟨[], hd3, Nat.le_refl _, fun g hg => (nomatch hg)⟩, none, rfl⟩ (fun i σ H7 _ h => SqL.of (h.1 _ _ (ne_of hpg hd3 (fun e => nomatch e)) hpg)) ?_ ?_⟩
  · rintro i x σ H7 hi ⟨b7, ⟨kvs, hd7, hkl, hkv⟩, y, rfl⟩
    obtain ⟨g, hg, hgM, rfl⟩ : ∃ g, gm[i]? = some g ∧ g ∈ gm ∧ x = V.ref g.1 := by
      unfold refF at hi
      rw [List.getElem?_map] at hi
      cases e2 : gm[i]? with
      | none =>
        rw [e2] at hi
        cases hi
      | some r =>
        rw [e2] at hi
        exact ⟨r, rfl, List.mem_of_getElem? e2, (Option.some.inj hi).symm⟩
    have hilt := (List.getElem?_eq_some_iff.mp hg).1
    have s7 : Same H H7 := fun c o e => by
      refine b7 c o (fun e2 => ?_) (s13 _ _ (sd _ _ e))
      rw [e2, nd] at e
      cases e
    have hg7 : H7 g.1 = some (itup (nmap g.2)) := b7 _ _ (ne_of (hgm g hgM).1 hd3 (fun e => nomatch e)) (hgm g hgM).1
    refine ⟨_, rfl, _, rfl, _, rfl, _, rfl, c, a, g.1, d, pr, zs, g.2, kvs, rfl, s7.seq hC, hPr, hRw.same s7, hSy, hg7, (hgm g hgM).2, hd7, fun b hb => ?_, fun H8 v s8 L => ?_⟩
    · have h1 := (hmem _).mpr (hcl g.2 ((hmem _).mp (List.mem_map_of_mem (f := fun z : Addr × Ft => z.2) hgM)) b hb)
      obtain ⟨g2, hg2, e2⟩ := List.mem_map.mp h1
      obtain ⟨j, hj, e3⟩ := List.mem_iff_getElem.mp hg2
      have hsum := (sum_step b (hgm g hgM).2).2 hb
      rw [← e2] at hsum ⊢
      have hji : j < i := by
        by_cases h : j < i
        · exact h
        · exfalso
          by_cases h2 : j = i
          · subst h2
            rw [List.getElem?_eq_getElem hj] at hg
            rw [e3] at hg
            rw [Option.some.inj hg] at hsum
            exact absurd hsum (Nat.lt_irrefl _)
          · have h3 := List.pairwise_iff_getElem.mp hord i j hilt hj (by omega)
            rw [e3, (List.getElem?_eq_some_iff.mp hg).2] at h3
            omega
      exact hkv g2 (by
        rw [← e3]
        exact List.mem_take_iff_getElem.mpr ⟨j, by omega, rfl⟩)
    · have hd8 := s8 _ _ hd7
      refine ⟨_, rfl, _, rfl, d, _, rfl, DPut.t hd8 (tup_key (s8 _ _ hg7)) (Nat.lt_of_le_of_lt (show kvs.length ≤ 5000 by omega) (by decide)), ?_⟩
      refine ⟨fun c o n e => ?_, ⟨_, upd_same, ?_, fun g2 hg2 => ?_⟩, _, rfl⟩
      · rw [upd_ne n]
        exact s8 _ _ (b7 c o n e)
      · have := length_putK kvs (fkey g.2) (.int v)
        omega
      · unfold Hts
        rw [valV_put]
        by_cases e : fkey g2.2 = fkey g.2
        · rw [if_pos e, fkey_inj e]
          exact ⟨v, rfl, L⟩
        · rw [if_neg e]
          rw [List.take_add_one, hg] at hg2
          rcases List.mem_append.mp hg2 with h | h
          · exact hkv g2 h
          · exact absurd (by rw [List.mem_singleton.mp h]) e
  · rintro σ H7 ⟨b7, ⟨kvs, hd7, hkl, hkv⟩, y, rfl⟩
    have e3 : (gm.take (refF gm).length) = gm := List.take_of_length_le (by unfold refF; rw [List.length_map]; exact Nat.le_refl _)
    rw [e3] at hkv
    have s7 : Same H H7 := fun c o e => by
      refine b7 c o (fun e2 => ?_) (s13 _ _ (sd _ _ e))
      rw [e2, nd] at e
      cases e
    refine ⟨_, rfl, q H7 d kvs (gm.map (·.2)) s7 nd hd7 ((hmem _).mpr h0) fun f hf => ?_⟩
    obtain ⟨g, hg, rfl⟩ := List.mem_map.mp hf
    exact ⟨(hgm g hg).2, fun b hb => (hmem _).mpr (hcl g.2 ((hmem _).mp hf) b hb), hkv g hg⟩
end
end K57

namespace K57
open PySem PySem.Spec PyProof.Rows L2 Fw Lay
section
variable {P : Program} {w : World} {K : PySem.W.Frag} {mg : Str → Option Value} {base : Heap}
theorem ok_l_prefix (T : Txt K mg) : Good P w K mg base 1 (He.ga K "_law_prefix") ["_law_run", "_law_schedule"] [] (sp_l_prefix K) := by
  refine good_of T.f_l_prefix sc_l_prefix (fun vs H Q E h => ?_) (fun _ _ _ _ _ _ us hl => match us, hl with | [_, _], _ => rfl) (fun cdv A outer s H vs Q E hr h => ?_)
  · obtain ⟨_, _, _, _, rfl, _⟩ := h
    rfl
  refine ⟨_, (pss_cons (ps_set (i := 2) sc_l_prefix.nd rfl (Or.inl rfl) pe_int)
  (pss_cons (ps_for PassesOwn.never rfl (pi_list (pv 1)) (pg_name (i := 3) sc_l_prefix.nd rfl (Or.inl rfl))
    (pss_one (ps_if (pw_and (pt_cmpR op_lt (pv 2) (pe_callB call_len_seq (by rfl) T.z_len (by decide +kernel) (pa_cons (pv 0) pa_nil)) (nomark _)) (pw_and1 (pt_cmpR op_eq (pe_ix ix_list (pv 0) (pv 2) (fun _ _ => rfl)) (pv 3) (nomark _)))).pt
    (pss_one (ps_set (i := 2) sc_l_prefix.nd rfl (Or.inl rfl) (pe_op op_add (pv 2) pe_int)))
    pss_nil)))
  (pss_one (ps_ret (pv 2))))), ?_⟩
  obtain ⟨a, b, r, S, rfl, hA, hB, hsub, q⟩ := h
  refine ⟨_, rfl, b, rfl, ⟨_, hB⟩, for_list (K := K) (a := b) (xs := S.map V.int) (fun i σ H2 => H2 = H ∧ ∃ (dn : Nat) (y : Option V), dn ≤ r.length ∧ (r.drop dn).Sublist (S.drop i) ∧ σ = [some (.ref a), some (.ref b), some (.int (dn : Nat)), y])
    ⟨rfl, 0, none, Nat.zero_le _, hsub, rfl⟩ (fun i σ H2 _ h => by rw [h.1]; exact hB) ?_ ?_⟩
  · rintro i x σ H2 hi ⟨rfl, dn, y, hd, hs, rfl⟩
    obtain ⟨n, hn, rfl⟩ := map_get hi
    have hilt := (List.getElem?_eq_some_iff.mp hn).1
    have eS : S.drop i = n :: S.drop (i + 1) := by rw [List.drop_eq_getElem_cons hilt, (List.getElem?_eq_some_iff.mp hn).2]
    rw [eS] at hs
    refine ⟨_, rfl, _, rfl, a, _, rfl, .inl hA, _, _, rfl, rfl, _, rfl, if2 (fun e => ?_) (fun e => ?_)⟩
    · rw [List.length_map] at e
      have hlt : dn < r.length := by omega
      have eR : r.drop dn = r[dn] :: r.drop (dn + 1) := List.drop_eq_getElem_cons hlt
      rw [eR] at hs
      refine ⟨_, rfl, _, rfl, a, _, _, _, rfl, rfl, hA, atI_nat (get_map (List.getElem?_eq_getElem hlt)), _, rfl, rfl, _, rfl, if2 (fun e2 => ?_) (fun e2 => ?_)⟩
      · have e3 : r[dn] = n := V.int.inj e2
        rw [e3] at hs
        refine ⟨_, rfl, _, _, rfl, rfl, rfl, dn + 1, some (.int n), hlt, hs.of_cons_cons, ?_⟩
        have e4 : ((dn + 1 : Nat) : Int) = (dn : Int) + 1 := by omega
        rw [e4]
        rfl
      · refine ⟨rfl, dn, _, hd, ?_, rfl⟩
        rw [eR]
        cases hs with
        | cons _ z => exact z
        | cons_cons _ z => exact absurd rfl e2
    · rw [List.length_map] at e
      have hz : r.drop dn = [] := List.drop_eq_nil_of_le (by omega)
      refine iteF ⟨rfl, dn, _, hd, ?_, rfl⟩
      rw [hz]
      exact List.nil_sublist _
  · rintro σ H2 ⟨rfl, dn, y, hd, hs, rfl⟩
    rw [List.length_map, List.drop_length] at hs
    have h1 := hs.length_le
    rw [List.length_drop, List.length_nil] at h1
    have e : dn = r.length := by omega
    rw [e]
    exact ⟨_, rfl, q⟩
theorem ok_l_ints (T : Txt K mg) : Good P w K mg base 2 (He.ga K "_law_ints") ["_law_row"] [] (sp_l_ints K) := by
  refine good_of T.f_l_ints sc_l_ints (fun vs H Q E h => ?_) (fun _ _ _ _ _ _ us hl => match us, hl with | [_], _ => rfl) (fun cdv A outer s H vs Q E hr h => ?_)
  · obtain ⟨_, _, rfl, _⟩ := h
    rfl
  refine ⟨_, (pss_cons (ps_if (pt_not (pt_val (pe_callB call_isi (by rfl) T.z_isinstance (by decide +kernel) (pa_cons (pv 0) (pa_cons (pe_bltn (v := .ty "list") (u := .type "list") (by rfl) T.z_list (by decide +kernel) rfl) pa_nil)))))
    (pss_one (ps_ret pe_bl))
    pss_nil)
  (pss_cons (ps_for PassesOwn.never rfl (pi_list (pv 0)) (pg_name (i := 1) sc_l_ints.nd rfl (Or.inl rfl))
    (pss_one (ps_if (pt_not (pt_val (pe_cg (ok_l_is_int T) (hr.mono (j := 1) (by decide)) (by rfl) T.g_l_is_int (pa_cons (pv 1) pa_nil))))
    (pss_one (ps_ret pe_bl))
    pss_nil)))
  (pss_one (ps_ret pe_bl)))), ?_⟩
  obtain ⟨a, S, rfl, hA, q⟩ := h
  refine ⟨_, rfl, .ref a, .ty "list", _, _, true, rfl, .ty _, .base (.lst hA), kit_ty (by decide +kernel), true, rfl, iteF ?_⟩
  refine ⟨_, rfl, a, rfl, ⟨_, SqL.of hA⟩, for_list (K := K) (a := a) (xs := S.map V.int) (fun i σ H2 => H2 = H ∧ ∃ y, σ = [some (.ref a), y]) ⟨rfl, none, rfl⟩ (fun i σ H2 _ h => by rw [h.1]; exact SqL.of hA) ?_ ?_⟩
  · rintro i x σ H2 hi ⟨rfl, y, rfl⟩
    obtain ⟨n, hn, rfl⟩ := map_get hi
    exact ⟨_, rfl, n, rfl, true, rfl, iteF ⟨rfl, _, rfl⟩⟩
  · rintro σ H2 ⟨rfl, y, rfl⟩
    exact q
theorem ok_l_whole (T : Txt K mg) : Good P w K mg base 2 (He.ga K "_law_whole") ["_law_runs", "_law_schedule"] [] (sp_l_whole K) := by
  refine good_of T.f_l_whole sc_l_whole (fun vs H Q E h => ?_) (fun _ _ _ _ _ _ us hl => match us, hl with | [_, _], _ => rfl) (fun cdv A outer s H vs Q E hr h => ?_)
  · obtain ⟨_, _, _, _, rfl, _⟩ := h
    rfl
  refine ⟨_, (pss_cons (ps_for PassesOwn.never rfl (pi_list (pv 0)) (pg_name (i := 2) sc_l_whole.nd rfl (Or.inl rfl))
    (pss_one (ps_if (pt_cmpR op_lt (pe_cg (ok_l_prefix T) (hr.mono (j := 1) (by decide)) (by rfl) T.g_l_prefix (pa_cons (pv 2) (pa_cons (pv 1) pa_nil))) (pe_callB call_len_seq (by rfl) T.z_len (by decide +kernel) (pa_cons (pv 2) pa_nil)) (nomark _))
    (pss_one (ps_ret pe_bl))
    pss_nil)))
  (pss_one (ps_ret pe_bl))), ?_⟩
  obtain ⟨a, b, zs, S, rfl, hA, hL, hB, hH, q⟩ := h
  refine ⟨_, rfl, a, rfl, ⟨_, hA⟩, for_list (K := K) (a := a) (xs := refL zs) (fun i σ H2 => H2 = H ∧ ∃ y, σ = [some (.ref a), some (.ref b), y]) ⟨rfl, none, rfl⟩ (fun i σ H2 _ h => by rw [h.1]; exact hA) ?_ ?_⟩
  · rintro i x σ H2 hi ⟨rfl, y, rfl⟩
    obtain ⟨z, hz, hzm, rfl⟩ := refL_get hi
    refine ⟨_, rfl, _, rfl, z.1, b, z.2, S, rfl, hL z hzm, hB, hH _ (List.mem_map_of_mem (f := fun z : Addr × List Int => z.2) hzm), _, rfl, z.1, _, rfl, .inl (hL z hzm), _, _, rfl, rfl, _, rfl, ifF ?_ ⟨rfl, _, rfl⟩⟩
    rw [List.length_map]
    omega
  · rintro σ H2 ⟨rfl, y, rfl⟩
    exact q
theorem ok_l_least_ring (T : Txt K mg) : Good P w K mg base 2 (He.ga K "_law_least_ring") ["_law_prices_here", "_law_stays"] [] (sp_l_least_ring K) := by
  refine good_of T.f_l_least_ring sc_l_least_ring (fun vs H Q E h => ?_) (fun _ _ _ _ _ _ us hl => match us, hl with | [_, _], _ => rfl) (fun cdv A outer s H vs Q E hr h => ?_)
  · obtain ⟨_, _, _, _, rfl, _⟩ := h
    rfl
  refine ⟨_, (pss_cons (ps_if (pt_cmpR op_eq (pe_callB call_len_seq (by rfl) T.z_len (by decide +kernel) (pa_cons (pv 1) pa_nil)) pe_int (nomark _))
    (pss_one (ps_ret pe_int))
    pss_nil)
  (pss_one (ps_ret (pe_callB (cr_min rfl) (by rfl) T.z_min (by decide +kernel) (pa_cons (pe_lc (own := [("_law_stay", 2)]) (g := (gName 2)) (tt := tYes) rfl sc_l_least_ring.nd (pi_list (pv 1)) (blkOk_by (own := [("_law_stay", 2)]) (N := ["_law_prices_here", "_law_stays", "_law_stay"]) (sc := defScope s_l_least_ring) (by decide +kernel)) (fun _ _ _ _ _ => (pg_name (i := 2) sc_l_least_ring.nd rfl (Or.inl rfl))) (fun _ _ _ _ _ => pts_nil) (fun _ _ _ _ _ => (pe_cg (ok_l_union T) (hr.mono (j := 1) (by decide)) (by rfl) T.g_l_union (pa_cons (pv 0) (pa_cons (pv 1) (pa_cons (pe_ix (ix_tupE (K := K) rfl) (pv 2) pe_int (fun _ _ => rfl)) pa_nil)))))) pa_nil))))), ?_⟩
  obtain ⟨a, b, pr, zs, rfl, hA, hPr, hS, hT, hl, hz1, q⟩ := h
  have hzl : (refT zs).length = zs.length := by unfold refT; rw [List.length_map]
  by_cases hne : zs = []
  · subst hne
    exact ⟨_, rfl, b, _, rfl, .inl hS, rfl, _, rfl, ifT rfl (q H 0 (Same.refl H) (fun _ => rfl) (fun h => absurd rfl h))⟩
  have hpos : 0 < zs.length := List.length_pos_iff.mpr hne
  refine ⟨_, rfl, b, _, rfl, .inl hS, rfl, _, rfl, ifF (int_ne (by rw [hzl]; omega)) ?_⟩
  refine ⟨_, rfl, b, rfl, ⟨_, hS⟩, fun D hD => lc_list (K := K) (a := b) (xs := refT zs) (fun i H3 => Same H H3 ∧ H3 D = some (ilst ((zs.take i).map fun z => U pr (zs.map (·.2)) z.2.1))) ⟨same_new hD, upd_same⟩ (fun i H3 _ h => h.1.seq hS) ?_ ?_⟩
  · rintro i x H3 hi ⟨s3, h3⟩
    obtain ⟨z, hz, hzm, rfl⟩ := refT_get hi
    have hilt := (List.getElem?_eq_some_iff.mp hz).1
    have hz2 := hz1 z hzm
    refine ⟨rfl, yes_then ?_⟩
    refine ⟨_, rfl, _, rfl, _, rfl, z.1, _, _, _, rfl, rfl, SqT.of (hT.same s3 z hzm), rfl, a, b, pr, zs, z.2.1, rfl, s3.seq hA, hPr, s3.seq hS, hT.same s3, hl, fun z hz => ⟨(hz1 z hz).1, (hz1 z hz).2.1⟩, hz2.2.2.1, hz2.2.2.2, fun H4 s4 => ?_⟩
    refine ⟨_, s4 _ _ h3, small1000 (by rw [List.length_map, List.length_map, List.length_take]; omega), same_mut (s3.trans s4) hD, ?_⟩
    rw [upd_same, List.take_add_one, hz, List.map_append]
    unfold ilst
    rw [List.map_append]
    rfl
  · rintro H3 ⟨s3, h3⟩
    have e1 : zs.take (refT zs).length = zs := List.take_of_length_le (by rw [hzl]; exact Nat.le_refl _)
    rw [e1] at h3
    refine tnil_go ?_
    refine ⟨D, _, rfl, SqL.of h3, by rw [List.length_map]; exact hpos, fun m hm hle => q H3 m s3 (fun e => absurd e hne) fun _ => ⟨?_, fun z hz => hle _ (List.mem_map_of_mem (f := fun z : Addr × Int × Int => U pr (zs.map (·.2)) z.2.1) hz)⟩⟩
    obtain ⟨z, hz, e⟩ := List.mem_map.mp hm
    exact ⟨z, hz, e.symm⟩
end
end K57

namespace K57
open PySem PySem.Spec PyProof.Rows L2 Fw Lay
section
variable {P : Program} {w : World} {K : PySem.W.Frag} {mg : Str → Option Value} {base : Heap}
theorem ok_least_row (T : Txt K mg) : Good P w K mg base 4 (He.ga K "least_row") ["prices", "rows"] [] (sp_least_row K) := by
  refine good_of T.f_least_row sc_least_row (fun vs H Q E h => ?_) (fun _ _ _ _ _ _ us hl => match us, hl with | [_, _], _ => rfl) (fun cdv A outer s H vs Q E hr h => ?_)
  · obtain ⟨_, _, _, _, rfl, _⟩ := h
    rfl
  refine ⟨_, (pss_cons (ps_set (i := 2) sc_least_row.nd rfl (Or.inr rfl) (pe_cg (ok_front_heights T) (hr.mono (j := 3) (by decide)) (by rfl) T.g_front_heights (pa_cons (pv 0) (pa_cons (pv 1) pa_nil))))
  (pss_cons (ps_set (i := 3) sc_least_row.nd rfl (Or.inr rfl) (pe_cg (ok_zeros T) (hr.mono (j := 1) (by decide)) (by rfl) T.g_zeros (pa_cons (pv 1) pa_nil)))
  (pss_cons (ps_set (i := 4) sc_least_row.nd rfl (Or.inl rfl) (pe_lst pa_nil))
  (pss_cons (ps_while PassesOwn.never (pt_cmpR op_gt (pe_dget (hu_of hr) (pv 2) (pv 3) (fun _ _ => rfl)) pe_int (nomark _))
    (pss_cons (ps_set (i := 5) sc_least_row.nd rfl (Or.inl rfl) (pe_cg (ok_steps T) (hr.mono (j := 1) (by decide)) (by rfl) T.g_steps (pa_cons (pv 1) (pa_cons (pv 3) pa_nil))))
  (pss_cons (ps_setLc (i := 6) (own := [("pair", 7)]) (g := (gName 7)) rfl sc_least_row.nd rfl rfl (sw_true rfl rfl rfl (by decide +kernel)) (pi_list (pv 5)) (blkOk_by (own := [("pair", 7)]) (N := ["prices", "rows", "heights", "front", "taken", "pairs", "good", "pair"]) (sc := defScope s_least_row) (by decide +kernel)) (fun _ _ _ _ _ => (pg_name (i := 7) sc_least_row.nd rfl (Or.inl rfl))) (fun _ _ _ _ _ => (pts_one (pt_cmpR op_eq (pe_op op_add (pe_ix (ix_listE (K := K) rfl) (pv 0) (pe_ix (ix_tupE (K := K) rfl) (pv 7) pe_int (fun _ _ => rfl)) (fun _ _ => rfl)) (pe_dget (hu_of hr) (pv 2) (pe_ix (ix_tupE (K := K) rfl) (pv 7) pe_int (fun _ _ => rfl)) (fun _ _ => rfl))) (pe_dget (hu_of hr) (pv 2) (pv 3) (fun _ _ => rfl)) (nomark _)))) (fun _ _ _ _ _ => (pv 7)))
  (pss_cons (ps_expr (pe_bm PySem.F.plainAttrs_list PySem.F.slot_list_append PySem.F.type_list_append mt_append (pv 4) (pa_cons (pe_ix ix_tup (pe_ix ix_list (pv 6) pe_int (fun _ _ => rfl)) pe_int (fun _ _ => rfl)) pa_nil)))
  (pss_one (ps_set (i := 3) sc_least_row.nd rfl (Or.inr rfl) (pe_ix ix_tup (pe_ix ix_list (pv 6) pe_int (fun _ _ => rfl)) pe_int (fun _ _ => rfl))))))))
  (pss_one (ps_ret (pe_tup (pa_cons (pe_dget (hu_of hr) (pv 2) (pe_cg (ok_zeros T) (hr.mono (j := 1) (by decide)) (by rfl) T.g_zeros (pa_cons (pv 1) pa_nil)) (fun _ _ => rfl)) (pa_cons (pv 4) pa_nil))))))))), ?_⟩
  obtain ⟨c, a, pr, zs, rfl, hC, hPr, hRw, hSy, hP, q⟩ := h
  obtain ⟨p0, p1, p2⟩ := id hPr
  have hw0 := pw_nonneg p2
  refine ⟨_, rfl, _, rfl, c, a, pr, zs, rfl, hC, hPr, hRw, hSy, hP, fun H2 d kvs R s2 nd hd h0 hR => ?_⟩
  refine ⟨_, rfl, a, zs, rfl, hRw.same s2, fun H3 t0 s3 nt ht0 => ?_⟩
  refine ⟨Nat.zero_le _, fun l nl => ?_⟩
  have s4 := (s2.trans s3).trans (same_new (o := .lst []) nl)
  have nlH : H l = none := (s2.trans s3).free nl
  have hd4 := same_new (o := .lst []) nl _ _ (s3 _ _ hd)
  have ht4 := same_new (o := .lst []) nl _ _ ht0
  have hl4 : upd H3 l (.lst []) l = some (ilst []) := upd_same
  generalize upd H3 l (.lst []) = H4 at s4 hd4 ht4 hl4 ⊢
  obtain ⟨_, _, v0, hv0, hL0⟩ := hR _ h0
  rw [rst_zero] at hL0
  have hsum := rows_sum hRw.2.2.2
  have hzl := hRw.2.2.1
  refine ⟨fun m σ H5 => But l H4 H5 ∧ ∃ (S : List Int) (t : Addr) (f : Ft) (v : Int) (y5 y6 y7 : Option V), H5 l = some (ilst S) ∧ H5 t = some (itup (nmap f)) ∧ f ∈ R ∧ valV kvs (fkey f) = some (.int v) ∧ Least (pw pr) (rst (zs.map (·.2)) f) v ∧ v0 = cost (pw pr) S + v ∧
      (∀ T, Has (rst (zs.map (·.2)) f) T → Has (zs.map (·.2)) (S ++ T)) ∧ (∀ s ∈ S, 0 ≤ s ∧ s < (pr.length : Int)) ∧ S.length ≤ f.sum ∧ m = 63000 - f.sum ∧ σ = [some (.ref c), some (.ref a), some (.ref d), some (.ref t), some (.ref l), y5, y6, y7],
    ⟨_, But.refl, [], t0, f0 (zs.map fun z : Addr × List Int => z.2), v0, none, none, none, hl4, ht4, h0, hv0, by rw [rst_zero]; exact hL0, by rw [cost_nil]; omega, fun T hT => by rw [rst_zero] at hT; exact hT, fun s hs => (nomatch hs), Nat.zero_le _, rfl, rfl⟩, ?_⟩
  rintro m σ H5 ⟨b5, S, t, f, v, y5, y6, y7, hl5, ht5, hfR, hv, hL, hcost, hhas, hrng, hSl, rfl, rfl⟩
  obtain ⟨hok, hstep, _⟩ := hR f hfR
  have s5 : Same H H5 := fun x o e => b5 x o (fun e2 => by rw [e2, nlH] at e; cases e) (s4 _ _ e)
  have hd5 : H5 d = some (.dT kvs) := b5 _ _ (ne_of hd4 hl4 (fun e => nomatch e)) hd4
  have hget : ∀ {H6 : Hp} {u : Addr} {g : Ft} {x : Int}, Same H5 H6 → H6 u = some (itup (nmap g)) → valV kvs (fkey g) = some (.int x) → DGet H6 d (.ref u) (some (.int x)) := fun s h e => by
    have h1 := DGet.t (s _ _ hd5) (tup_key h)
    rw [e] at h1
    exact h1
  refine ⟨_, rfl, _, rfl, d, .int v, rfl, hget (Same.refl _) ht5 hv, _, _, rfl, rfl, _, rfl, if2 (fun e => ?_) (fun e => ?_)⟩
  · refine ⟨_, fun σ' H' h => h, ?_⟩
    obtain ⟨u, hu⟩ : ∃ u : Int → Int, ∀ b, Sym (zs.map (·.2)) f b → valV kvs (fkey (fstep b (zs.map (·.2)) f)) = some (.int (u b)) ∧ Least (pw pr) (rst (zs.map (·.2)) (fstep b (zs.map (·.2)) f)) (u b) := by
      classical
      exact ⟨fun b => if h : Sym (zs.map (·.2)) f b then (hR _ (hstep b h)).2.2.choose else 0, fun b hb => by
        dsimp only
        rw [dif_pos hb]
        exact (hR _ (hstep b hb)).2.2.choose_spec⟩
    refine ⟨_, rfl, _, rfl, a, t, zs, f, rfl, hRw.same s5, ht5, hok, fun H6 p ps s6 np hp hps hpl => ?_⟩
    have s56 := s5.trans s6
    refine ⟨_, rfl, p, rfl, ⟨_, SqL.of hp⟩, fun D hD => lc_list (K := K) (a := p) (xs := refP ps) (fun i H7 => Same H6 H7 ∧ ∃ gs : Ps, H7 D = some (.lst (refP gs)) ∧ gs.length ≤ i ∧ (∀ r ∈ gs, r ∈ ps ∧ v = pw pr r.2.1 + u r.2.1) ∧ ∀ r ∈ ps.take i, v = pw pr r.2.1 + u r.2.1 → r ∈ gs)
      ⟨same_new hD, [], upd_same, Nat.le_refl _, fun r hr => (nomatch hr), fun r hr => (nomatch hr)⟩ (fun i H7 _ h => SqL.of (h.1 _ _ hp)) ?_ ?_⟩
    · rintro i x H7 hi ⟨s7, gs, h7, hgl, hg1, hg2⟩
      obtain ⟨r, hr, hrm, rfl⟩ := refP_get hi
      have hilt := (List.getElem?_eq_some_iff.mp hr).1
      have hsym := (hps.2 r.2.1).mp (List.mem_map_of_mem (f := fun z : Addr × Int × Addr => z.2.1) hrm)
      have hin := sym_in hSy hsym
      have hT7 : SqT K H7 r.1 [.int r.2.1, .ref r.2.2] := SqT.of (s7 _ _ (hps.1 r hrm).1)
      have htk : ∀ r' ∈ ps.take (i + 1), r' ∈ ps.take i ∨ r' = r := fun r' h => by
        rw [List.take_add_one, hr] at h
        rcases List.mem_append.mp h with h | h
        · exact .inl h
        · exact .inr (List.mem_singleton.mp h)
      refine ⟨rfl, _, rfl, _, rfl, r.1, _, 0, _, rfl, rfl, hT7, rfl, c, _, _, _, rfl, rfl, (s56.trans s7).seq hC, pw_sym hin.1 hin.2, _, rfl, _, rfl, r.1, _, 1, _, rfl, rfl, hT7, rfl, d, .int (u r.2.1), rfl, hget (s6.trans s7) (s7 _ _ (hps.1 r hrm).2) (hu _ hsym).1, _, _, rfl, rfl, _, rfl, _, rfl, d, .int v, rfl, hget (s6.trans s7) (s7 _ _ (s6 _ _ ht5)) hv, rfl, _, rfl, if2 (fun e2 => ?_) (fun e2 => ?_)⟩
      · have e3 : pw pr r.2.1 + u r.2.1 = v := V.int.inj e2
        refine ⟨_, rfl, _, h7, small1000 (by unfold refP; rw [List.length_map]; omega), same_mut s7 hD, gs ++ [r], ?_, ?_, fun r' h => ?_, fun r' h he => ?_⟩
        · rw [upd_same]
          unfold refP
          rw [List.map_append]
          rfl
        · rw [List.length_append]
          show gs.length + 1 ≤ i + 1
          omega
        · rcases List.mem_append.mp h with h | h
          · exact hg1 r' h
          · rw [List.mem_singleton.mp h]
            exact ⟨hrm, e3.symm⟩
        · rcases htk r' h with h | h
          · exact List.mem_append_left _ (hg2 r' h he)
          · rw [h]
            exact List.mem_append_right _ (List.mem_singleton.mpr rfl)
      · refine ⟨s7, gs, h7, by omega, hg1, fun r' h he => ?_⟩
        rcases htk r' h with h | h
        · exact hg2 r' h he
        · rw [h] at he
          exact absurd (congrArg V.int he.symm) e2
    rintro H7 ⟨s7, gs, h7, hgl, hg1, hg2⟩
    have e1 : ps.take (refP ps).length = ps := List.take_of_length_le (by unfold refP; rw [List.length_map]; exact Nat.le_refl _)
    rw [e1] at hg2
    obtain ⟨b0, hb0, ev⟩ := least_follow hw0 (fun b hb => (hu b hb).2) hL (by omega) hps.2
    obtain ⟨r0, hr0, er0⟩ := List.mem_map.mp ((hps.2 b0).mpr hb0)
    have hgne : r0 ∈ gs := hg2 r0 hr0 (by rw [er0]; exact ev)
    cases gs with
    | nil => cases hgne
    | cons r gs =>
      obtain ⟨hrm, hev⟩ := hg1 r (List.mem_cons_self ..)
      have hsym := (hps.2 r.2.1).mp (List.mem_map_of_mem (f := fun z : Addr × Int × Addr => z.2.1) hrm)
      have hin := sym_in hSy hsym
      have hT7 : ∀ {H8 : Hp}, (H8 r.1 = some (.tup [.int r.2.1, .ref r.2.2])) → SqT K H8 r.1 [.int r.2.1, .ref r.2.2] := fun h => SqT.of h
      have hr7 := s7 _ _ (hps.1 r hrm).1
      have hf7 := s7 _ _ (hps.1 r hrm).2
      have hl7 := s7 _ _ (s6 _ _ hl5)
      have hsm := sum_le hok
      have hat0 : atI (refP (r :: gs)) 0 = some (V.ref r.1) := atI_nat (j := 0) (show (refP (r :: gs))[0]? = some (V.ref r.1) from rfl)
      dsimp only
      refine ⟨.ref l, rfl, .inl ⟨rfl, _, SqL.of hl7⟩, .ref D, rfl, D, _, 0, _, rfl, rfl, SqL.of h7, hat0, r.1, _, 0, _, rfl, rfl, hT7 hr7, rfl, l, _, _, rfl, rfl, hl7, ?_, ?_⟩
      · rw [List.length_map]
        exact Nat.lt_of_le_of_lt (show S.length ≤ 63000 by omega) (by decide)
      have hDl : D ≠ l := (ne_of_none (s6 _ _ hl5) hD).symm
      refine ⟨.ref D, rfl, D, _, 0, _, rfl, rfl, SqL.of (by rw [upd_ne hDl]; exact h7), hat0, r.1, _, 1, _, rfl, rfl, hT7 (by rw [upd_ne (ne_of hr7 hl7 (fun e => nomatch e))]; exact hr7), rfl, ?_⟩
      have hss := (sum_step r.2.1 hok).2 hsym
      have hs2 := sum_le (FOk.step r.2.1 hok)
      refine ⟨63000 - (fstep r.2.1 (zs.map (·.2)) f).sum, by omega, fun x o n e => ?_, S ++ [r.2.1], r.2.2, fstep r.2.1 (zs.map (·.2)) f, u r.2.1, _, _, _, ?_, ?_, hstep _ hsym, (hu _ hsym).1, (hu _ hsym).2, ?_, fun T hT => ?_, fun s hs => ?_, ?_, rfl, rfl⟩
      · rw [upd_ne n]
        exact s7 _ _ (s6 _ _ (b5 x o n e))
      · rw [upd_same]
        unfold ilst
        rw [List.map_append]
        rfl
      · rw [upd_ne (ne_of hf7 hl7 (fun e => nomatch e))]
        exact hf7
      · rw [cost_append, cost_cons, cost_nil, hcost, hev]
        omega
      · rw [List.append_assoc]
        refine hhas _ (has_adv ?_)
        rw [← rst_step]
        exact hT
      · rcases List.mem_append.mp hs with h | h
        · exact hrng s h
        · rw [List.mem_singleton.mp h]
          exact hin
      · rw [List.length_append]
        show S.length + 1 ≤ _
        omega
  · have hv1 : v = 0 := by
      obtain ⟨T, _, hT⟩ := hL.1
      have := cost_nonneg hw0 T
      omega
    have hHas : Has (zs.map (·.2)) S := by
      obtain ⟨T, hT1, hT2⟩ := hL.1
      have h1 := cost_long (pw_pos p0 p2) T
      have h2 : T = [] := List.length_eq_zero_iff.mp (by omega)
      have h3 := hhas T hT1
      rw [h2, List.append_nil] at h3
      exact h3
    have hsm := sum_le hok
    refine ⟨_, rfl, _, rfl, a, zs, rfl, hRw.same s5, fun H6 t6 s6 nt6 ht6 => ⟨d, .int v0, rfl, hget s6 ht6 hv0, _, rfl, (by show 2 ≤ sizeLine; decide), fun p np => ?_⟩⟩
    exact q _ p l v0 S ((s5.trans s6).trans (same_new np)) ((s5.trans s6).free np) nlH upd_same (same_new np _ _ (s6 _ _ hl5)) hL0 hHas (by omega) hrng (by omega)
end
end K57

namespace K57
open PySem PySem.Spec PyProof.Rows L2 Fw Lay
section
variable {P : Program} {w : World} {K : PySem.W.Frag} {mg : Str → Option Value} {base : Heap}
theorem rep0 : ∀ ls : Ls, (List.replicate ls.length [V.int 0]).flatten = (nmap (f0 ls)).map V.int
  | [] => rfl
  | l :: ls => by
    show V.int 0 :: (List.replicate ls.length [V.int 0]).flatten = V.int 0 :: (nmap (f0 ls)).map V.int
    rw [rep0 ls]
theorem sl_len : ∀ (ds : List Int) (lo hi : Int), ds.Pairwise (· < ·) → (∀ d ∈ ds, lo ≤ d ∧ d < hi) → lo ≤ hi → (ds.length : Int) ≤ hi - lo
  | [], lo, hi, _, _, h => by
    show (0 : Int) ≤ _
    omega
  | d :: ds, lo, hi, p, hb, h => by
    have h0 := hb d (List.mem_cons_self ..)
    have h1 := sl_len ds (d + 1) hi (List.pairwise_cons.mp p).2 (fun x hx => by
      have a := (List.pairwise_cons.mp p).1 x hx
      have b := hb x (List.mem_cons_of_mem _ hx)
      omega) (by omega)
    rw [List.length_cons]
    omega
theorem ok_law (T : Txt K mg) {fd : FuncData} (F : FunD K "law" "law" (defArgs s_law) (defBody s_law) (defScope s_law) [] [] (He.ga K "law") fd) : FnOk P w K mg base CX0 5 (He.ga K "law") fd ["_law_script"] (sp_law K) := by
  refine law_of F sc_law (fun vs H Q E h => ?_) (fun cdv A outer s H vs Q E hr h => ?_)
  · obtain ⟨_, _, rfl, _⟩ := h
    rfl
  refine ⟨_, (pss_cons (ps_set (i := 1) sc_law.nd rfl (Or.inl rfl) (pe_cg (ok_l_digits T) (hr.mono (j := 1) (by decide)) (by rfl) T.g_l_digits (pa_cons (pe_cg (ok_l_seed T) (hr.mono (j := 2) (by decide)) (by rfl) T.g_l_seed (pa_cons (pv 0) (pa_cons pe_int pa_nil))) (pa_cons pe_int (pa_cons pe_int pa_nil)))))
  (pss_cons (ps_set (i := 2) sc_law.nd rfl (Or.inr rfl) (pe_ix ix_list (pe_lst (pa_cons pe_int (pa_cons pe_int (pa_cons pe_int (pa_cons pe_int (pa_cons pe_int (pa_cons pe_int (pa_cons pe_int (pa_cons pe_int pa_nil))))))))) (pe_op op_mod (pe_callTy call_int1 (by rfl) T.z_int (by decide +kernel) (pa_cons (pe_ix ix_list (pv 1) pe_int (fun _ _ => rfl)) pa_nil)) pe_int) (fun _ _ => rfl)))
  (pss_cons (ps_set (i := 3) sc_law.nd rfl (Or.inr rfl) (pe_cg (ok_l_prices T) (hr.mono (j := 2) (by decide)) (by rfl) T.g_l_prices (pa_cons (pe_cg (ok_l_seed T) (hr.mono (j := 2) (by decide)) (by rfl) T.g_l_seed (pa_cons (pv 0) (pa_cons pe_int pa_nil))) (pa_cons (pv 2) (pa_cons (pe_op op_mod (pe_callTy call_int1 (by rfl) T.z_int (by decide +kernel) (pa_cons (pe_ix ix_list (pv 1) pe_int (fun _ _ => rfl)) pa_nil)) pe_int) pa_nil)))))
  (pss_cons (ps_set (i := 4) sc_law.nd rfl (Or.inl rfl) (pe_cg (ok_l_gates T) (hr.mono (j := 2) (by decide)) (by rfl) T.g_l_gates (pa_cons (pe_cg (ok_l_seed T) (hr.mono (j := 2) (by decide)) (by rfl) T.g_l_seed (pa_cons (pv 0) (pa_cons pe_int pa_nil))) (pa_cons (pv 2) pa_nil))))
  (pss_cons (ps_set (i := 5) sc_law.nd rfl (Or.inl rfl) (pe_ix ix_list (pe_lst (pa_cons pe_int (pa_cons pe_int (pa_cons pe_int (pa_cons pe_int (pa_cons pe_int (pa_cons pe_int pa_nil))))))) (pe_op op_mod (pe_callTy call_int1 (by rfl) T.z_int (by decide +kernel) (pa_cons (pe_ix ix_list (pv 1) pe_int (fun _ _ => rfl)) pa_nil)) pe_int) (fun _ _ => rfl)))
  (pss_cons (ps_set (i := 6) sc_law.nd rfl (Or.inl rfl) pe_int)
  (C8.pss_cut (ps_if (pt_cmpR op_eq (pe_op op_mod (pe_callTy call_int1 (by rfl) T.z_int (by decide +kernel) (pa_cons (pe_ix ix_list (pv 1) pe_int (fun _ _ => rfl)) pa_nil)) pe_int) pe_int (nomark _))
    (pss_cons (ps_set (i := 5) sc_law.nd rfl (Or.inl rfl) (pe_op op_add pe_int (pe_op op_mod (pe_callTy call_int1 (by rfl) T.z_int (by decide +kernel) (pa_cons (pe_op op_fdiv (pe_ix ix_list (pv 1) pe_int (fun _ _ => rfl)) pe_int) pa_nil)) pe_int)))
  (pss_one (ps_set (i := 6) sc_law.nd rfl (Or.inl rfl) pe_int)))
    pss_nil)
  (pss_cons (ps_set (i := 7) sc_law.nd rfl (Or.inl rfl) pe_int)
  (C8.pss_cut (ps_if (pt_cmpR op_eq (pe_op op_mod (pe_callTy call_int1 (by rfl) T.z_int (by decide +kernel) (pa_cons (pe_ix ix_list (pv 1) pe_int (fun _ _ => rfl)) pa_nil)) pe_int) pe_int (nomark _))
    (pss_one (ps_set (i := 7) sc_law.nd rfl (Or.inl rfl) pe_int))
    pss_nil)
  (pss_cons (ps_set (i := 8) sc_law.nd rfl (Or.inl rfl) (pe_cg (ok_l_drawn T) (hr.mono (j := 2) (by decide)) (by rfl) T.g_l_drawn (pa_cons (pe_cg (ok_l_seed T) (hr.mono (j := 2) (by decide)) (by rfl) T.g_l_seed (pa_cons (pv 0) (pa_cons pe_int pa_nil))) (pa_cons (pv 4) (pa_cons (pv 5) (pa_cons (pv 7) pa_nil))))))
  (pss_cons (ps_setLc (i := 9) (own := [("_law_stay", 18)]) (g := (gName 18)) (tt := tYes) rfl sc_law.nd rfl rfl (sw_true rfl rfl rfl (by decide +kernel)) (pi_list (pv 8)) (blkOk_by (own := [("_law_stay", 18)]) (N := ["_law_script", "_law_row", "_law_size", "_law_prices_here", "_law_gates_here", "_law_count", "_law_room", "_law_longest", "_law_drawn_here", "_law_lines", "_law_stays", "_law_due", "_law_laying", "_law_handed", "_law_costs", "_law_heights", "_law_zero", "_law_told", "_law_stay", "_law_line", "_law_k", "_law_place"]) (sc := defScope s_law) (by decide +kernel)) (fun _ _ _ _ _ => (pg_name (i := 18) sc_law.nd rfl (Or.inr rfl))) (fun _ _ _ _ _ => pts_nil) (fun _ _ _ _ _ => (pe_lc (own := [("_law_k", 20)]) (g := (gName 20)) (tt := tYes) rfl sc_law.nd (pi_range1 (by rfl) T.z_range (pa_cons (pe_ix (ix_tupE (K := K) rfl) (pv 18) pe_int (fun _ _ => rfl)) pa_nil)) (blkOk_by (own := [("_law_k", 20)]) (N := ["_law_script", "_law_row", "_law_size", "_law_prices_here", "_law_gates_here", "_law_count", "_law_room", "_law_longest", "_law_drawn_here", "_law_lines", "_law_stays", "_law_due", "_law_laying", "_law_handed", "_law_costs", "_law_heights", "_law_zero", "_law_told", "_law_stay", "_law_line", "_law_k", "_law_place"]) (sc := { kind := .function, names := [(".0", .local), ("_law_stay", .cell), ("range", .globalImplicit), ("_law_size", .cell)], isGenerator := false, isCoroutine := false }) (by decide +kernel)) (fun _ _ _ _ _ => (pg_name (i := 20) sc_law.nd rfl (Or.inl rfl))) (fun _ _ _ _ _ => pts_nil) (fun _ _ _ _ _ => (pe_op op_mod (pe_callTy call_int1 (by rfl) T.z_int (by decide +kernel) (pa_cons (pe_op op_add (pe_ix (ix_tupE (K := K) rfl) (pv 18) pe_int (fun _ _ => rfl)) (pv 20)) pa_nil)) (pv 2))))))
  (pss_cons (ps_set (i := 9) sc_law.nd rfl (Or.inl rfl) (pe_cg (ok_l_few_runs T) (hr.mono (j := 1) (by decide)) (by rfl) T.g_l_few_runs (pa_cons (pv 9) (pa_cons (pv 6) pa_nil))))
  (pss_cons (ps_setLc (i := 10) (own := [("_law_line", 19)]) (g := (gName 19)) (tt := tYes) rfl sc_law.nd rfl rfl (sw_true rfl rfl rfl (by decide +kernel)) (pi_list (pv 9)) (blkOk_by (own := [("_law_line", 19)]) (N := ["_law_script", "_law_row", "_law_size", "_law_prices_here", "_law_gates_here", "_law_count", "_law_room", "_law_longest", "_law_drawn_here", "_law_lines", "_law_stays", "_law_due", "_law_laying", "_law_handed", "_law_costs", "_law_heights", "_law_zero", "_law_told", "_law_stay", "_law_line", "_law_k", "_law_place"]) (sc := defScope s_law) (by decide +kernel)) (fun _ _ _ _ _ => (pg_name (i := 19) sc_law.nd rfl (Or.inl rfl))) (fun _ _ _ _ _ => pts_nil) (fun _ _ _ _ _ => (pe_tup (pa_cons (pe_ix (ix_listE (K := K) rfl) (pv 19) pe_int (fun _ _ => rfl)) (pa_cons (pe_callB (call_lenE (K := K) rfl) (by rfl) T.z_len (by decide +kernel) (pa_cons (pv 19) pa_nil)) pa_nil)))))
  (pss_cons (ps_set (i := 11) sc_law.nd rfl (Or.inl rfl) (pe_cg (ok_l_least_ring T) (hr.mono (j := 2) (by decide)) (by rfl) T.g_l_least_ring (pa_cons (pv 3) (pa_cons (pv 10) pa_nil))))
  (pss_cons (ps_set (i := 12) sc_law.nd rfl (Or.inl rfl) (pe_cg (ok_least_laying T) (hr.mono (j := 4) (by decide)) (by rfl) T.g_least_laying (pa_cons (pe_mkg T.mk_Ring (ok_Ring_init T) (hr.mono (j := 3) (by decide)) (by rfl) T.g_Ring (pa_cons (pe_callTy call_list_of (by rfl) T.z_list (by decide +kernel) (pa_cons (pv 3) pa_nil)) (pa_cons (pe_callTy call_list_of (by rfl) T.z_list (by decide +kernel) (pa_cons (pv 4) pa_nil)) pa_nil))) (pa_cons (pe_callTy call_list_of (by rfl) T.z_list (by decide +kernel) (pa_cons (pv 10) pa_nil)) pa_nil))))
  (pss_cons (ps_if (pw_or (pt_not (pt_val (pe_callB call_isi (by rfl) T.z_isinstance (by decide +kernel) (pa_cons (pv 12) (pa_cons (pe_bltn (v := .ty "tuple") (u := .type "tuple") (by rfl) T.z_tuple (by decide +kernel) rfl) pa_nil))))) (pw_or (pt_cmpR op_ne (pe_callB call_len_seq (by rfl) T.z_len (by decide +kernel) (pa_cons (pv 12) pa_nil)) pe_int (nomark _)) (pw_or (pt_not (pt_val (pe_cg (ok_l_is_int T) (hr.mono (j := 1) (by decide)) (by rfl) T.g_l_is_int (pa_cons (pe_ix ix_tup (pv 12) pe_int (fun _ _ => rfl)) pa_nil)))) (pw_or1 (pt_cmpR op_ne (pe_ix ix_tup (pv 12) pe_int (fun _ _ => rfl)) (pv 11) (nomark _)))))).pt
    (pss_one (ps_ret pe_bl))
    pss_nil)
  (pss_cons (ps_setLc (i := 13) (own := [("_law_line", 19)]) (g := (gName 19)) (tt := tYes) rfl sc_law.nd rfl rfl (sw_true rfl rfl rfl (by decide +kernel)) (pi_list (pv 9)) (blkOk_by (own := [("_law_line", 19)]) (N := ["_law_script", "_law_row", "_law_size", "_law_prices_here", "_law_gates_here", "_law_count", "_law_room", "_law_longest", "_law_drawn_here", "_law_lines", "_law_stays", "_law_due", "_law_laying", "_law_handed", "_law_costs", "_law_heights", "_law_zero", "_law_told", "_law_stay", "_law_line", "_law_k", "_law_place"]) (sc := defScope s_law) (by decide +kernel)) (fun _ _ _ _ _ => (pg_name (i := 19) sc_law.nd rfl (Or.inl rfl))) (fun _ _ _ _ _ => pts_nil) (fun _ _ _ _ _ => (pe_callTy (call_list_ofE (K := K) rfl) (by rfl) T.z_list (by decide +kernel) (pa_cons (pv 19) pa_nil))))
  (pss_cons (ps_set (i := 14) sc_law.nd rfl (Or.inl rfl) (pe_callTy call_list_of (by rfl) T.z_list (by decide +kernel) (pa_cons (pv 3) pa_nil)))
  (pss_cons (ps_set (i := 15) sc_law.nd rfl (Or.inl rfl) (pe_cg (ok_front_heights T) (hr.mono (j := 3) (by decide)) (by rfl) T.g_front_heights (pa_cons (pv 14) (pa_cons (pv 13) pa_nil))))
  (pss_cons (ps_set (i := 16) sc_law.nd rfl (Or.inl rfl) (pe_callTy call_tuple_of (by rfl) T.z_tuple (by decide +kernel) (pa_cons (pe_op op_rep (pe_lst (pa_cons pe_int pa_nil)) (pe_callB call_len_seq (by rfl) T.z_len (by decide +kernel) (pa_cons (pv 9) pa_nil))) pa_nil)))
  (pss_cons (ps_if (pw_or (pt_not (pt_val (pe_callB call_isi (by rfl) T.z_isinstance (by decide +kernel) (pa_cons (pv 15) (pa_cons (pe_bltn (v := .ty "dict") (u := .type "dict") (by rfl) T.z_dict (by decide +kernel) rfl) pa_nil))))) (pw_or1 (pt_cmp (pc_dnotin (hu_of hr) (pv 16) (pv 15))))).pt
    (pss_one (ps_ret pe_bl))
    pss_nil)
  (pss_cons (ps_if (pw_or (pt_not (pt_val (pe_cg (ok_l_is_int T) (hr.mono (j := 1) (by decide)) (by rfl) T.g_l_is_int (pa_cons (pe_dget (hu_of hr) (pv 15) (pv 16) (fun _ _ => rfl)) pa_nil)))) (pw_or1 (pt_cmpR op_ne (pe_dget (hu_of hr) (pv 15) (pv 16) (fun _ _ => rfl)) (pv 11) (nomark _)))).pt
    (pss_one (ps_ret pe_bl))
    pss_nil)
  (pss_cons (ps_set (i := 17) sc_law.nd rfl (Or.inl rfl) (pe_cg (ok_least_row T) (hr.mono (j := 4) (by decide)) (by rfl) T.g_least_row (pa_cons (pv 14) (pa_cons (pv 13) pa_nil))))
  (pss_cons (ps_if (pw_or (pt_cmpR (op_neD hr.units) (pv 13) (pv 9) (nomark _)) (pw_or (pt_cmpR (op_neD hr.units) (pv 14) (pv 3) (nomark _)) (pw_or (pt_not (pt_val (pe_callB call_isi (by rfl) T.z_isinstance (by decide +kernel) (pa_cons (pv 17) (pa_cons (pe_bltn (v := .ty "tuple") (u := .type "tuple") (by rfl) T.z_tuple (by decide +kernel) rfl) pa_nil))))) (pw_or1 (pt_cmpR op_ne (pe_callB call_len_seq (by rfl) T.z_len (by decide +kernel) (pa_cons (pv 17) pa_nil)) pe_int (nomark _)))))).pt
    (pss_one (ps_ret pe_bl))
    pss_nil)
  (pss_cons (ps_if (pw_or (pt_not (pt_val (pe_cg (ok_l_is_int T) (hr.mono (j := 1) (by decide)) (by rfl) T.g_l_is_int (pa_cons (pe_ix ix_tup (pv 17) pe_int (fun _ _ => rfl)) pa_nil)))) (pw_or (pt_cmpR op_ne (pe_ix ix_tup (pv 17) pe_int (fun _ _ => rfl)) (pv 11) (nomark _)) (pw_or1 (pt_not (pt_val (pe_cg (ok_l_ints T) (hr.mono (j := 2) (by decide)) (by rfl) T.g_l_ints (pa_cons (pe_ix ix_tup (pv 17) pe_int (fun _ _ => rfl)) pa_nil))))))).pt
    (pss_one (ps_ret pe_bl))
    pss_nil)
  (pss_cons (ps_if (pt_cmpR op_gt (pe_callB call_len_seq (by rfl) T.z_len (by decide +kernel) (pa_cons (pe_lc (own := [("_law_place", 21)]) (g := (gName 21)) rfl sc_law.nd (pi_list (pe_ix ix_tup (pv 17) pe_int (fun _ _ => rfl))) (blkOk_by (own := [("_law_place", 21)]) (N := ["_law_script", "_law_row", "_law_size", "_law_prices_here", "_law_gates_here", "_law_count", "_law_room", "_law_longest", "_law_drawn_here", "_law_lines", "_law_stays", "_law_due", "_law_laying", "_law_handed", "_law_costs", "_law_heights", "_law_zero", "_law_told", "_law_stay", "_law_line", "_law_k", "_law_place"]) (sc := defScope s_law) (by decide +kernel)) (fun _ _ _ _ _ => (pg_name (i := 21) sc_law.nd rfl (Or.inl rfl))) (fun _ _ _ _ _ => (pts_one (pw_or (pt_cmpR op_lt (pv 21) pe_int (nomark _)) (pw_or1 (pt_cmpR op_ge (pv 21) (pv 2) (nomark _)))).pt)) (fun _ _ _ _ _ => (pv 21))) pa_nil)) pe_int (nomark _))
    (pss_one (ps_ret pe_bl))
    pss_nil)
  (pss_one (ps_ret (pe_and (pe_cmpR op_eq (pe_callB (cr_sum rfl) (by rfl) T.z_sum (by decide +kernel) (pa_cons (pe_lc (own := [("_law_place", 21)]) (g := (gName 21)) (tt := tYes) rfl sc_law.nd (pi_list (pe_ix ix_tup (pv 17) pe_int (fun _ _ => rfl))) (blkOk_by (own := [("_law_place", 21)]) (N := ["_law_script", "_law_row", "_law_size", "_law_prices_here", "_law_gates_here", "_law_count", "_law_room", "_law_longest", "_law_drawn_here", "_law_lines", "_law_stays", "_law_due", "_law_laying", "_law_handed", "_law_costs", "_law_heights", "_law_zero", "_law_told", "_law_stay", "_law_line", "_law_k", "_law_place"]) (sc := defScope s_law) (by decide +kernel)) (fun _ _ _ _ _ => (pg_name (i := 21) sc_law.nd rfl (Or.inl rfl))) (fun _ _ _ _ _ => pts_nil) (fun _ _ _ _ _ => (pe_ix (ix_listE (K := K) rfl) (pv 3) (pv 21) (fun _ _ => rfl)))) pa_nil)) (pv 11) (nomark _)) (pe_one (pe_cg (ok_l_whole T) (hr.mono (j := 2) (by decide)) (by rfl) T.g_l_whole (pa_cons (pv 9) (pa_cons (pe_ix ix_tup (pv 17) pe_int (fun _ _ => rfl)) pa_nil))))))))))))))))))))))))))))))))), ?_⟩
  obtain ⟨sa, ns, rfl, hS, hns, q⟩ := h
  refine ⟨.ref sa, rfl, sa, ns, 0, rfl, hS, by omega, fun c0 H1 hc0 s1 => ⟨c0, _, 6, rfl, hc0, by omega, by decide, by decide, fun H2 rp ds s2 nr hr2 len bd => ?_⟩⟩
  have s02 := s1.trans s2
  have gd : ∀ j : Nat, j < 6 → ∃ d, 0 ≤ d ∧ (ds.map V.int)[j]? = some (.int d) := fun j hj => by
    have hj2 : j < ds.length := by omega
    exact ⟨_, (bd _ (List.getElem_mem hj2)).1, get_map (List.getElem?_eq_getElem hj2)⟩
  obtain ⟨e0, b0, g0⟩ := gd 0 (by omega)
  obtain ⟨e1, b1, g1⟩ := gd 1 (by omega)
  obtain ⟨e2, b2, g2⟩ := gd 2 (by omega)
  obtain ⟨e3, b3, g3⟩ := gd 3 (by omega)
  obtain ⟨e4, b4, g4⟩ := gd 4 (by omega)
  obtain ⟨e5, b5, g5⟩ := gd 5 (by omega)
  have hR : ∀ {H3 : Hp}, Same H2 H3 → SqL K H3 rp (ds.map V.int) := fun s => SqL.of (s _ _ hr2)
  -- size
  refine ⟨(by show 8 ≤ sizeLine; decide), fun o no => ?_⟩
  have sA : Same H2 (upd H2 o (.lst [.int 1, .int 2, .int 3, .int 4, .int 5, .int 2, .int 3, .int 4])) := same_new no
  obtain ⟨sz, hsz, hat⟩ := at_mod (ds := [1, 2, 3, 4, 5, 2, 3, 4]) (by simp) e0
  obtain ⟨k, rfl⟩ : ∃ k : Nat, sz = k := ⟨sz.toNat, by simp at hsz; omega⟩
  have k1 : 1 ≤ k := by
    simp at hsz
    omega
  have k8 : k ≤ 5 := by
    simp at hsz
    omega
  refine ⟨.ref rp, rfl, rp, _, 0, _, rfl, rfl, hR sA, atI_nat (j := 0) g0, .inl ⟨_, rfl, _, _, rfl, rfl, (by show (0 : Int) < 8; decide), o, _, _, _, rfl, rfl, SqL.of upd_same, hat, ?_⟩⟩
  generalize upd H2 o (.lst [.int 1, .int 2, .int 3, .int 4, .int 5, .int 2, .int 3, .int 4]) = Ha at sA ⊢
  -- prices
  refine ⟨.ref sa, rfl, sa, ns, 1, rfl, (s02.trans sA).seq hS, by omega, fun c1 H4 hc1 s4 => ?_⟩
  refine ⟨_, rfl, .ref rp, rfl, rp, _, 1, _, rfl, rfl, hR (sA.trans s4), atI_nat (j := 1) g1, .inl ⟨_, rfl, _, _, rfl, rfl, (by show (0 : Int) < 4; decide), c1, _, k, rfl, hc1, by omega, fun H5 pa pr s5 np hp hpl hp1 => ?_⟩⟩
  have s25 := (sA.trans s4).trans s5
  -- gates
  refine ⟨.ref sa, rfl, sa, ns, 2, rfl, (s02.trans s25).seq hS, by omega, fun c2 H6 hc2 s6 => ?_⟩
  refine ⟨_, rfl, c2, k, rfl, hc2, by omega, by omega, fun H7 ga gs s7 ng hg hgo => ?_⟩
  have s27 := (s25.trans s6).trans s7
  have hPr : ∀ {H8 : Hp}, Same H7 H8 → SqL K H8 pa (pr.map V.int) := fun s => SqL.of (s _ _ (s7 _ _ (s6 _ _ hp)))
  have hGs : ∀ {H8 : Hp}, Same H7 H8 → SqL K H8 ga (gs.map V.int) := fun s => SqL.of (s _ _ hg)
  -- count
  refine ⟨(by show 6 ≤ sizeLine; decide), fun o2 no2 => ?_⟩
  have s8 : Same H7 (upd H7 o2 (.lst [.int 0, .int 1, .int 2, .int 3, .int 2, .int 3])) := same_new no2
  obtain ⟨ct, hct, hat2⟩ := at_mod (ds := [0, 1, 2, 3, 2, 3]) (by simp) e2
  obtain ⟨n, rfl⟩ : ∃ n : Nat, ct = n := ⟨ct.toNat, by simp at hct; omega⟩
  refine ⟨.ref rp, rfl, rp, _, 2, _, rfl, rfl, hR (s27.trans s8), atI_nat (j := 2) g2, .inl ⟨_, rfl, _, _, rfl, rfl, (by show (0 : Int) < 6; decide), o2, _, _, _, rfl, rfl, SqL.of upd_same, hat2, ?_⟩⟩
  generalize upd H7 o2 (.lst [.int 0, .int 1, .int 2, .int 3, .int 2, .int 3]) = Hb at s8 ⊢
  have s28 := s27.trans s8
  refine ⟨fun σ H9 => H9 = Hb ∧ ∃ n m : Nat, n ≤ 5 ∧ 1 ≤ m ∧ m ≤ 360 ∧ σ = [some (.ref sa), some (.ref rp), some (.int (k : Int)), some (.ref pa), some (.ref ga), some (.int (n : Int)), some (.int (m : Int)), none, none, none, none, none, none, none, none, none, none, none, none, none, none, none], ?_, ?_⟩
  · refine ⟨.ref rp, rfl, rp, _, 3, _, rfl, rfl, hR s28, atI_nat (j := 3) g3, .inl ⟨_, rfl, _, _, rfl, rfl, (by show (0 : Int) < 8; decide), rfl, _, rfl, if2 (fun e => ?_) (fun e => ?_)⟩⟩
    · refine ⟨.ref rp, rfl, rp, _, 2, _, rfl, rfl, hR s28, atI_nat (j := 2) g2, _, _, rfl, rfl, ⟨by decide, by decide⟩, .inl ⟨_, rfl, _, _, rfl, rfl, (by show (0 : Int) < 2; decide), _, _, rfl, rfl, rfl, (4 + e2 / 6 % 2).toNat, 100, by omega, by omega, by omega, ?_⟩⟩
      have e6 : (((4 + e2 / 6 % 2).toNat : Nat) : Int) = 4 + e2 / 6 % 2 := by omega
      rw [e6]
      rfl
    · exact ⟨rfl, n, 360, by simp at hct; omega, by omega, by omega, rfl⟩
  rintro σ H9 ⟨rfl, n, m, n6, m1, m2, rfl⟩
  -- longest
  refine ⟨fun σ H10 => H10 = H9 ∧ ∃ x : Nat, 1 ≤ x ∧ x ≤ 18 ∧ σ = [some (.ref sa), some (.ref rp), some (.int (k : Int)), some (.ref pa), some (.ref ga), some (.int (n : Int)), some (.int (m : Int)), some (.int (x : Int)), none, none, none, none, none, none, none, none, none, none, none, none, none, none], ?_, ?_⟩
  · refine ⟨.ref rp, rfl, rp, _, 4, _, rfl, rfl, hR s28, atI_nat (j := 4) g4, .inl ⟨_, rfl, _, _, rfl, rfl, (by show (0 : Int) < 8; decide), rfl, _, rfl, if2 (fun e => ?_) (fun e => ?_)⟩⟩
    · exact ⟨rfl, 18, by omega, by omega, rfl⟩
    · exact ⟨rfl, 6, by omega, by omega, rfl⟩
  rintro σ H10 ⟨rfl, x, x1, x28, rfl⟩
  -- drawn
  have hgl : gs.length ≤ 1000 := by
    have h1 := sl_len gs 0 k hgo.2.1 hgo.2.2 (by omega)
    omega
  refine ⟨.ref sa, rfl, sa, ns, 3, rfl, (s02.trans s28).seq hS, by omega, fun c3 H11 hc3 s11 => ?_⟩
  refine ⟨_, rfl, _, rfl, _, rfl, c3, ga, gs, n, x, rfl, hc3, hGs (s8.trans s11), hgo.1, hgl, by omega, by omega, by omega, fun H12 da zs s12 nd hd hZ hzn hzo => ?_⟩
  subst hpl
  -- lines
  refine ⟨.ref da, rfl, da, rfl, ⟨_, SqL.of hd⟩, fun D hD => lc_list (K := K) (a := da) (xs := refT zs) (fun i H => Same H12 H ∧ ∃ ws : Ws, H D = some (.lst (refL ws)) ∧ (∀ w ∈ ws, w.1 ≠ D ∧ H w.1 = some (ilst w.2)) ∧ ws.map (·.2) = (zs.take i).map fun z => line pr.length z.2.1 z.2.2.toNat)
    ⟨same_new hD, [], upd_same, fun w hw => (nomatch hw), rfl⟩ (fun i H _ h => SqL.of (h.1 _ _ hd)) ?_ ?_⟩
  · rintro i x H3 hi ⟨s3, ws, h3, hw3, em⟩
    obtain ⟨z, hz, hzm, rfl⟩ := refT_get hi
    have hilt := (List.getElem?_eq_some_iff.mp hz).1
    have hwl : ws.length ≤ i := by
      have e := congrArg List.length em
      rw [List.length_map, List.length_map, List.length_take] at e
      omega
    have hzT : ∀ {H : Hp}, Same H3 H → SqT K H z.1 [.int z.2.1, .int z.2.2] := fun s => SqT.of (hZ.same (s3.trans s) z hzm)
    have ho := hzo z hzm
    obtain ⟨l, hl⟩ : ∃ l : Nat, z.2.2 = l := ⟨z.2.2.toNat, by omega⟩
    refine ⟨rfl, yes_then ?_⟩
    refine ⟨_, rfl, z.1, _, _, _, rfl, rfl, hzT (Same.refl _), rfl, l, by rw [hl], by omega, by omega, fun D2 hD2 => lc_range (n := l) (fun j H4 => Same H3 H4 ∧ H4 D2 = some (ilst ((List.range j).map fun i : Nat => (z.2.1 + i) % pr.length))) ⟨same_new hD2, upd_same⟩ ?_ ?_⟩
    · rintro j H4 hj ⟨s4, h4⟩
      refine ⟨rfl, yes_then ?_⟩
      have ej : z.2.1 + (0 + (j : Int)) = z.2.1 + (j : Int) := by omega
      refine ⟨_, rfl, z.1, _, _, _, rfl, rfl, hzT s4, rfl, _, rfl, _, _, rfl, rfl, .inl ⟨_, rfl, _, rfl, _, _, rfl, rfl, (by show (0 : Int) < (pr.length : Int); omega), ?_⟩⟩
      refine ⟨_, h4, small1000 (by rw [List.length_map, List.length_map, List.length_range]; omega), same_mut s4 hD2, ?_⟩
      rw [upd_same, List.range_succ, List.map_append, ej]
      unfold ilst
      rw [List.map_append]
      rfl
    · rintro H4 ⟨s4, h4⟩
      have hne : D2 ≠ D := fun e => by
        rw [e, h3] at hD2
        cases hD2
      rw [← line_eq] at h4
      refine ⟨_, s4 _ _ h3, small1000 (by unfold refL; rw [List.length_map]; omega), same_mut (s3.trans s4) hD, ws ++ [(D2, line pr.length z.2.1 l)], ?_, ?_, ?_⟩
      · rw [upd_same]
        unfold refL
        rw [List.map_append]
        rfl
      · intro w hw
        rcases List.mem_append.mp hw with hw | hw
        · refine ⟨(hw3 w hw).1, ?_⟩
          rw [upd_ne (hw3 w hw).1]
          exact s4 _ _ (hw3 w hw).2
        · rw [List.mem_singleton.mp hw]
          refine ⟨hne, ?_⟩
          show upd H4 D _ D2 = _
          rw [upd_ne hne]
          exact h4
      · rw [List.map_append, em, List.take_add_one, hz, List.map_append]
        show _ ++ [line pr.length z.2.1 l] = _ ++ [line pr.length z.2.1 z.2.2.toNat]
        have e : z.2.2.toNat = l := by omega
        rw [e]
  rintro H13 ⟨s13, ws, hD1, hW, em⟩
  have em2 : ws.map (·.2) = zs.map fun z => line pr.length z.2.1 z.2.2.toNat := by
    rw [em, List.take_of_length_le (by unfold refT; rw [List.length_map]; exact Nat.le_refl _)]
  have hwn : ws.length = n := by
    have e := congrArg List.length em2
    rw [List.length_map, List.length_map] at e
    omega
  have hLL : LL K H13 ws := fun w hw => SqL.of (hW w hw).2
  dsimp only
  -- few_runs
  refine ⟨.ref D, rfl, _, rfl, D, ws, m, rfl, SqL.of hD1, hLL, by omega, by omega, by omega, fun H14 ka ks s14 nk hk0 hsub hprod hkne => ?_⟩
  -- what the kept lines are
  have hkl : ∀ w ∈ ks, ∃ d ∈ gs, ∃ l : Nat, 1 ≤ l ∧ l ≤ 18 ∧ w.2 = line pr.length d l ∧ SqL K H14 w.1 (w.2.map V.int) := fun w hw => by
    have h1 : w.2 ∈ ws.map (·.2) := List.mem_map_of_mem (hsub.subset hw)
    rw [em2] at h1
    obtain ⟨z, hz, e⟩ := List.mem_map.mp h1
    have ho := hzo z hz
    exact ⟨z.2.1, ho.1, z.2.2.toNat, by omega, by omega, e.symm, s14.seq (hLL w (hsub.subset hw))⟩
  have hkn : ks.length ≤ 6 := by
    have := hsub.length_le
    omega
  -- stays
  have hgk : ∀ w ∈ ks, ∃ (d : Int) (l : Nat), d ∈ gs ∧ 0 ≤ d ∧ d < (pr.length : Int) ∧ 1 ≤ l ∧ l ≤ 18 ∧ w.2 = line pr.length d l ∧ w.2.length = l ∧ w.2[0]? = some d := fun w hw => by
    obtain ⟨d, hd, l, l1, l28, e, _⟩ := hkl w hw
    have hr := hgo.2.2 d hd
    refine ⟨d, l, hd, hr.1, hr.2, l1, l28, e, ?_, ?_⟩
    · rw [e, line_eq, List.length_map, List.length_range]
    · obtain ⟨l2, rfl⟩ : ∃ l2, l = l2 + 1 := ⟨l - 1, by omega⟩
      rw [e]
      show some (d % (pr.length : Int)) = _
      rw [Int.emod_eq_of_lt hr.1 hr.2]
  refine ⟨.ref ka, rfl, ka, rfl, ⟨_, SqL.of hk0⟩, fun D3 hD3 => lc_list (K := K) (a := ka) (xs := refL ks) (fun i H => Same H14 H ∧ ∃ ys : Zs, H D3 = some (.lst (refT ys)) ∧ TL H ys ∧ ys.map (·.2) = (ks.take i).map fun w => (w.2.getD 0 0, (w.2.length : Int)))
    ⟨same_new hD3, [], upd_same, TL.nil, rfl⟩ (fun i H _ h => SqL.of (h.1 _ _ hk0)) ?_ ?_⟩
  · rintro i x H3 hi ⟨s3, ys, h3, hY, em⟩
    obtain ⟨w, hw, hwm, rfl⟩ := refL_get hi
    have hilt := (List.getElem?_eq_some_iff.mp hw).1
    have hyl : ys.length ≤ i := by
      have e := congrArg List.length em
      rw [List.length_map, List.length_map, List.length_take] at e
      omega
    obtain ⟨d, l, _, _, _, _, _, _, hwl, hw0⟩ := hgk w hwm
    obtain ⟨_, _, _, _, _, _, hwS⟩ := hkl w hwm
    refine ⟨rfl, yes_then ?_⟩
    refine ⟨_, rfl, w.1, _, 0, _, rfl, rfl, s3.seq hwS, atI_nat (j := 0) (get_map hw0), _, rfl, w.1, _, rfl, .inl (s3.seq hwS), (by show 2 ≤ sizeLine; decide), fun t nt => ⟨_, (by rw [upd_ne (ne_of_none h3 nt)]; exact h3), small1000 (by unfold refT; rw [List.length_map]; omega), ?_⟩⟩
    refine ⟨same_mut (s3.trans (same_new nt)) hD3, ys ++ [(t, _, _)], ?_, hY.push h3 nt, ?_⟩
    · rw [upd_same, refT_snoc]
    · rw [List.map_append, em, List.take_add_one, hw, List.map_append, List.length_map]
      show _ ++ [(d, (w.2.length : Int))] = _ ++ [(w.2.getD 0 0, (w.2.length : Int))]
      rw [List.getD_eq_getElem?_getD, hw0]
      rfl
  rintro H15 ⟨s15, ys, hy0, hY, emy⟩
  have emy2 : ys.map (·.2) = ks.map fun w => (w.2.getD 0 0, (w.2.length : Int)) := by
    rw [emy, List.take_of_length_le (by unfold refL; rw [List.length_map]; exact Nat.le_refl _)]
  dsimp only
  have hP : PrOk pr := ⟨by omega, by omega, hp1⟩
  have hyn : ys.length = ks.length := by
    have e := congrArg List.length emy2
    rw [List.length_map, List.length_map] at e
    exact e
  have hys : ∀ z ∈ ys, ∃ l : Nat, z.2.1 ∈ gs ∧ 0 ≤ z.2.1 ∧ z.2.1 < (pr.length : Int) ∧ 1 ≤ l ∧ l ≤ 18 ∧ z.2.2 = l := fun z hz => by
    have h1 : z.2 ∈ ys.map (·.2) := List.mem_map_of_mem hz
    rw [emy2] at h1
    obtain ⟨w, hw, e⟩ := List.mem_map.mp h1
    obtain ⟨d, l, a1, a2, a3, a4, a5, a6, a7, a8⟩ := hgk w hw
    have e1 : z.2.1 = d := by
      rw [← e]
      show w.2.getD 0 0 = d
      rw [List.getD_eq_getElem?_getD, a8]
      rfl
    have e2 : z.2.2 = l := by
      rw [← e]
      show (w.2.length : Int) = l
      rw [a7]
    rw [e1]
    exact ⟨l, a1, a2, a3, a4, a5, e2⟩
  have s715 : Same H7 H15 := ((((s8.trans s11).trans s12).trans s13).trans s14).trans s15
  have hyU : ∀ z ∈ ys, 1 ≤ z.2.2 ∧ z.2.2 ≤ 1000 ∧ 0 ≤ z.2.1 ∧ z.2.1 ≤ 1000 := fun z hz => by
    obtain ⟨l, a1, a2, a3, a4, a5, a6⟩ := hys z hz
    omega
  refine ⟨.ref pa, rfl, .ref D3, rfl, pa, D3, pr, ys, rfl, hPr s715, hP, SqL.of hy0, hY, by omega, hyU, fun Hq du sq hdu0 hdu1 => ?_⟩
  have s7q := s715.trans sq
  have hyq := sq _ _ hy0
  have hYq := hY.same sq
  -- laying
  refine ⟨.ref pa, rfl, pa, _, rfl, .inl (hPr s7q), fun p1 np1 => ?_⟩
  have t1 : Same Hq (upd Hq p1 (.lst (pr.map V.int))) := same_new np1
  refine ⟨.ref ga, rfl, ga, _, rfl, .inl (hGs (s7q.trans t1)), fun p2 np2 => ?_⟩
  have t2 := t1.trans (same_new (o := .lst (gs.map V.int)) np2)
  have hp1s : SqL K (upd (upd Hq p1 (.lst (pr.map V.int))) p2 (.lst (gs.map V.int))) p1 (pr.map V.int) := SqL.of (same_new np2 _ _ upd_same)
  have hp2s : SqL K (upd (upd Hq p1 (.lst (pr.map V.int))) p2 (.lst (gs.map V.int))) p2 (gs.map V.int) := SqL.of upd_same
  generalize upd (upd Hq p1 (.lst (pr.map V.int))) p2 (.lst (gs.map V.int)) = Hc at t2 hp1s hp2s ⊢
  refine fun r0 dx nr0 ndx nex => ?_
  have nr1 : upd Hc dx (.own r0) r0 = none := by
    rw [upd_ne nex.symm]
    exact nr0
  have t3 := (same_new (o := .own r0) ndx).trans (same_new (o := .ins (He.ga K "Ring") dx []) nr1)
  refine ⟨r0, dx, p1, p2, pr, gs, rfl, upd_same, t3.seq hp1s, t3.seq hp2s, hP, hgo, fun H16 but hring => ⟨rfl, ?_⟩⟩
  have s16 : Same Hq H16 := t2.trans fun c o e => but c o (ne_of_none e nr0) (t3 _ _ e)
  refine ⟨.ref D3, rfl, D3, _, rfl, .inl (SqL.of (s16 _ _ hyq)), fun p3 np3 => ?_⟩
  have s17 := s16.trans (same_new (o := .lst (refT ys)) np3)
  have hp3 : SqL K (upd H16 p3 (.lst (refT ys))) p3 (refT ys) := SqL.of upd_same
  have hring2 := hring.same (same_new (o := .lst (refT ys)) np3)
  generalize upd H16 p3 (.lst (refT ys)) = H17 at s17 hp3 hring2 ⊢
  refine ⟨r0, p3, pr, gs, ys, rfl, hring2, hP, hgo, hp3, hYq.same s17, ⟨by rw [List.length_map]; omega, fun s hs => ?_⟩, fun H18 tp s18 ntp hres => ?_⟩
  · obtain ⟨z, hz, rfl⟩ := List.mem_map.mp hs
    obtain ⟨l, a1, a2, a3, a4, a5, a6⟩ := hys z hz
    exact ⟨a1, by omega, by omega⟩
  obtain ⟨w1, htp⟩ : ∃ w1 : V, H18 tp = some (.tup [.int du, w1]) := by
    rcases hres with ⟨e, h⟩ | ⟨v, d, h, hd, hv, hmin⟩
    · rw [hdu0 e]
      exact ⟨_, h⟩
    · refine ⟨.int d, ?_⟩
      obtain ⟨z, hz, e⟩ := hd
      obtain ⟨⟨z2, hz2, e2⟩, h3⟩ := hdu1 (fun e => by rw [e] at hz; cases hz)
      have h4 := h3 z hz
      have h5 := hmin z2 hz2
      rw [← e] at h4
      have e3 : v = du := by omega
      rw [← e3]
      exact h
  have sq18 := s17.trans s18
  have s718 := s7q.trans sq18
  have hTp : SqT K H18 tp [.int du, w1] := SqT.of htp
  refine ⟨_, rfl, .ref tp, .ty "tuple", _, _, true, rfl, .ty _, .base (.tup htp), kit_ty (by decide +kernel), true, rfl, iteF ?_⟩
  refine ⟨_, rfl, tp, _, rfl, .inr hTp, rfl, _, rfl, ifNF rfl ?_⟩
  refine ⟨_, rfl, tp, _, 0, _, rfl, rfl, hTp, rfl, du, rfl, true, rfl, iteF ?_⟩
  refine ⟨_, rfl, tp, _, 0, _, rfl, rfl, hTp, rfl, _, rfl, rfl, _, rfl, ifNF rfl ?_⟩
  -- handed
  have hk18 : ∀ {H : Hp}, Same H18 H → H ka = some (.lst (refL ks)) := fun s => s _ _ (sq18 _ _ (sq _ _ (s15 _ _ hk0)))
  have hkL : ∀ {H : Hp}, Same H18 H → LL K H ks := fun s w hw => by
    obtain ⟨_, _, _, _, _, _, h⟩ := hkl w hw
    exact ((((s15.trans sq).trans sq18).trans s).seq h)
  have hst : (stOf (ys.map (·.2))).map (fun s => line pr.length s.1 s.2) = ks.map (·.2) := by
    unfold stOf
    rw [emy2, List.map_map, List.map_map]
    refine List.map_congr_left fun w hw => ?_
    obtain ⟨d, l, a1, a2, a3, a4, a5, a6, a7, a8⟩ := hgk w hw
    show line pr.length (w.2.getD 0 0) ((w.2.length : Int).toNat) = w.2
    rw [List.getD_eq_getElem?_getD, a8, a7]
    exact a6.symm
  have hstm : ∀ s ∈ stOf (ys.map (·.2)), ∃ z ∈ ys, s = (z.2.1, z.2.2.toNat) := fun s hs => by
    obtain ⟨t, ht, rfl⟩ := List.mem_map.mp hs
    obtain ⟨z, hz, rfl⟩ := List.mem_map.mp ht
    exact ⟨z, hz, rfl⟩
  have hleast : ∀ v2, Least (pw pr) (ks.map (·.2)) v2 → v2 = du := fun v2 hv2 => by
    by_cases hyne : ys = []
    · have e1 : ks = [] := List.length_eq_zero_iff.mp (by rw [← hyn, hyne]; rfl)
      rw [e1] at hv2
      rw [hdu0 hyne]
      exact hv2.eq (least_end (pw_nonneg hp1) fun r hr => (nomatch hr))
    · obtain ⟨⟨z1, hz1, ez1⟩, hmin⟩ := hdu1 hyne
      rw [← hst] at hv2
      have hl := laying_least (k := pr.length) (by omega) (pw_nonneg hp1) (pw_mod pr) (fun e => ?_) (fun s hs => ?_) hv2 3000 (fun s hs => ?_)
      · obtain ⟨⟨s, hs, h1⟩, h2⟩ := hl
        obtain ⟨z, hz, rfl⟩ := hstm s hs
        have h3 := h2 (z1.2.1, z1.2.2.toNat) (List.mem_map_of_mem (f := fun s : Int × Int => (s.1, s.2.toNat)) (List.mem_map_of_mem (f := fun z : Addr × Int × Int => z.2) hz1))
        have h4 := hmin z hz
        unfold U at h4 ez1
        dsimp only at h1 h3
        omega
      · obtain ⟨z, hz⟩ := List.exists_mem_of_ne_nil ys hyne
        have h1 : (z.2.1, z.2.2.toNat) ∈ stOf (ys.map (·.2)) := List.mem_map_of_mem (f := fun s : Int × Int => (s.1, s.2.toNat)) (List.mem_map_of_mem (f := fun z : Addr × Int × Int => z.2) hz)
        rw [e] at h1
        cases h1
      · obtain ⟨z, hz, rfl⟩ := hstm s hs
        obtain ⟨l, a1, a2, a3, a4, a5, a6⟩ := hys z hz
        show 0 < z.2.2.toNat
        omega
      · obtain ⟨z, hz, rfl⟩ := hstm s hs
        obtain ⟨l, a1, a2, a3, a4, a5, a6⟩ := hys z hz
        show (pr.length : Int) + ((z.2.2.toNat : Nat) : Int) ≤ ((3000 : Nat) : Int)
        omega
  have hsyk : SyOk pr.length (ks.map (·.2)) := fun r hr s hs => by
    obtain ⟨w, hw, rfl⟩ := List.mem_map.mp hr
    obtain ⟨d, l, a1, a2, a3, a4, a5, a6, a7, a8⟩ := hgk w hw
    rw [a6, line_eq] at hs
    obtain ⟨j, _, rfl⟩ := List.mem_map.mp hs
    exact ⟨Int.emod_nonneg _ (by omega), Int.emod_lt_of_pos _ (by omega)⟩
  refine ⟨.ref ka, rfl, ka, rfl, ⟨_, SqL.of (hk18 (Same.refl _))⟩, fun D5 hD5 => lc_list (K := K) (a := ka) (xs := refL ks) (fun i H => Same H18 H ∧ ∃ hs : Ws, H D5 = some (.lst (refL hs)) ∧ (∀ w ∈ hs, w.1 ≠ D5 ∧ H w.1 = some (ilst w.2)) ∧ hs.map (·.2) = (ks.take i).map (·.2))
    ⟨same_new hD5, [], upd_same, fun w hw => (nomatch hw), rfl⟩ (fun i H _ h => SqL.of (hk18 h.1)) ?_ ?_⟩
  · rintro i x H3 hi ⟨s3, hs, h3, hw3, em⟩
    obtain ⟨w, hw, hwm, rfl⟩ := refL_get hi
    have hilt := (List.getElem?_eq_some_iff.mp hw).1
    have hhl : hs.length ≤ i := by
      have e := congrArg List.length em
      rw [List.length_map, List.length_map, List.length_take] at e
      omega
    refine ⟨rfl, yes_then ?_⟩
    refine ⟨_, rfl, w.1, _, rfl, .inl (hkL s3 w hwm), fun l nl => ⟨_, same_new nl _ _ h3, small1000 (by unfold refL; rw [List.length_map]; omega), ?_⟩⟩
    have hlD : l ≠ D5 := (ne_of_none h3 nl).symm
    refine ⟨same_mut (s3.trans (same_new nl)) hD5, hs ++ [(l, w.2)], ?_, fun w' h => ?_, ?_⟩
    · rw [upd_same]
      unfold refL
      rw [List.map_append]
      rfl
    · rcases List.mem_append.mp h with h | h
      · refine ⟨(hw3 w' h).1, ?_⟩
        rw [upd_ne (hw3 w' h).1]
        exact same_new nl _ _ (hw3 w' h).2
      · rw [List.mem_singleton.mp h]
        refine ⟨hlD, ?_⟩
        show upd (upd H3 l _) D5 _ l = _
        rw [upd_ne hlD, upd_same]
    · rw [List.map_append, em, List.take_add_one, hw, List.map_append]
      rfl
  rintro H19 ⟨s19, hs, hh0, hhw, emh⟩
  have emh2 : hs.map (·.2) = ks.map (·.2) := by
    rw [emh, List.take_of_length_le (by unfold refL; rw [List.length_map]; exact Nat.le_refl _)]
  have hhn : hs.length = ks.length := by
    have e := congrArg List.length emh2
    rw [List.length_map, List.length_map] at e
    exact e
  dsimp only
  -- costs
  refine ⟨.ref pa, rfl, pa, _, rfl, .inl (hPr (s718.trans s19)), fun cs ncs => ?_⟩
  have s20 := s19.trans (same_new (o := .lst (pr.map V.int)) ncs)
  have hcs : upd H19 cs (.lst (pr.map V.int)) cs = some (ilst pr) := upd_same
  have hh20 := same_new (o := .lst (pr.map V.int)) ncs _ _ hh0
  have hhL : LL K (upd H19 cs (.lst (pr.map V.int))) hs := fun w hw => SqL.of (same_new ncs _ _ (hhw w hw).2)
  generalize upd H19 cs (.lst (pr.map V.int)) = H20 at s20 hcs hh20 hhL ⊢
  have hRow : ∀ {H : Hp}, Same H20 H → Rows K H D5 hs := fun s => ⟨SqL.of (s _ _ hh20), hhL.same s, by omega, fun w hw => by
    have h1 : w.2 ∈ ks.map (·.2) := by rw [← emh2]; exact List.mem_map_of_mem (f := fun z : Addr × List Int => z.2) hw
    obtain ⟨w2, hw2, e⟩ := List.mem_map.mp h1
    obtain ⟨d, l, a1, a2, a3, a4, a5, a6, a7, a8⟩ := hgk w2 hw2
    rw [← e]
    show w2.2.length ≤ 1000
    omega⟩
  refine ⟨.ref cs, rfl, .ref D5, rfl, cs, D5, pr, hs, rfl, SqL.of hcs, hP, hRow (Same.refl _), by rw [emh2]; exact hsyk, by rw [emh2]; omega, fun H21 hd kvs R s21 nhd hhd h0 hRR => ?_⟩
  -- zero
  refine ⟨(by show 1 ≤ sizeLine; decide), fun o3 no3 => ?_⟩
  have s22 := s21.trans (same_new (o := .lst [.int 0]) no3)
  refine ⟨.ref ka, rfl, ka, _, rfl, .inl (SqL.of (hk18 (s20.trans s22))), o3, _, _, rfl, rfl, upd_same, by omega, ?_, ?_, fun p4 np4 => ?_⟩
  · have e : (refL ks).length = ks.length := List.length_map ..
    rw [e]
    omega
  · have e : (refL ks).length = ks.length := List.length_map ..
    rw [e]
    exact Nat.le_trans (show 1 * (ks.length : Int).toNat ≤ 6 by omega) (by decide)
  have e0 : (List.replicate ((refL ks).length : Int).toNat [V.int 0]).flatten = (nmap (f0 (hs.map (·.2)))).map V.int := by
    have e1 : (refL ks).length = ks.length := List.length_map ..
    rw [← rep0, e1, Int.toNat_natCast, List.length_map, hhn]
  rw [e0]
  refine ⟨p4, _, rfl, .inl ⟨SqL.of upd_same, fun zt nzt => ?_⟩⟩
  have s24 := (s22.trans (same_new (o := .lst ((nmap (f0 (hs.map (·.2)))).map V.int)) np4)).trans (same_new (o := .tup ((nmap (f0 (hs.map (·.2)))).map V.int)) nzt)
  have s2124 := ((same_new (o := .lst [.int 0]) no3).trans (same_new (o := .lst ((nmap (f0 (hs.map (·.2)))).map V.int)) np4)).trans (same_new (o := .tup ((nmap (f0 (hs.map (·.2)))).map V.int)) nzt)
  have hzt : upd (upd (upd H21 o3 (.lst [.int 0])) p4 (.lst ((nmap (f0 (hs.map (·.2)))).map V.int))) zt (.tup ((nmap (f0 (hs.map (·.2)))).map V.int)) zt = some (itup (nmap (f0 (hs.map (·.2))))) := upd_same
  generalize upd (upd (upd H21 o3 (.lst [.int 0])) p4 (.lst ((nmap (f0 (hs.map (·.2)))).map V.int))) zt (.tup ((nmap (f0 (hs.map (·.2)))).map V.int)) = H24 at s24 s2124 hzt ⊢
  have hhd24 := s2124 _ _ hhd
  obtain ⟨_, _, hv, hhv, hLv⟩ := hRR _ h0
  rw [rst_zero, emh2] at hLv
  have ehv : hv = du := hleast hv hLv
  have hget : DGet H24 hd (.ref zt) (some (.int hv)) := by
    have h1 := DGet.t hhd24 (tup_key hzt)
    rw [hhv] at h1
    exact h1
  refine ⟨_, rfl, .ref hd, .ty "dict", _, _, true, rfl, .ty _, .base (.dT hhd24), kit_ty (by decide +kernel), true, rfl, iteF ?_⟩
  refine ⟨_, rfl, _, rfl, hd, _, rfl, hget, _, rfl, iteF ?_⟩
  refine ⟨_, rfl, _, rfl, hd, .int hv, rfl, hget, hv, rfl, true, rfl, iteF ?_⟩
  refine ⟨_, rfl, _, rfl, hd, .int hv, rfl, hget, _, rfl, rfl, _, rfl, ifNF (by rw [ehv]) ?_⟩
  -- told
  refine ⟨.ref cs, rfl, .ref D5, rfl, cs, D5, pr, hs, rfl, SqL.of (s24 _ _ hcs), hP, hRow s24, by rw [emh2]; exact hsyk, by rw [emh2]; omega, fun H25 tq q2 v3 S s25 ntq nq2 htq hS hL3 hHas hcost hrng hSlen => ?_⟩
  rw [emh2] at hL3 hHas
  have ev3 : v3 = du := hleast v3 hL3
  have s2025 := s24.trans s25
  have s1825 := s20.trans s2025
  have hTq : ∀ {H : Hp}, Same H25 H → SqT K H tq [.int v3, .ref q2] := fun s => SqT.of (s _ _ htq)
  have hdl := dL_eqv (ks.map (·.2))
  have hdi := dI_eqv pr
  have hdph : Dp K H25 (.ref D5) (dL (ks.map fun z : Addr × List Int => z.2)) := by
    rw [← emh2]
    exact dp_list (SqL.of (s2025 _ _ hh20)) (hhL.same s2025)
  have hdpk : Dp K H25 (.ref ka) (dL (ks.map fun z : Addr × List Int => z.2)) := dp_list (SqL.of (hk18 s1825)) (hkL s1825)
  have hdpc : Dp K H25 (.ref cs) (dI pr) := dp_row (SqL.of (s2025 _ _ hcs))
  have hdpp : Dp K H25 (.ref pa) (dI pr) := dp_row (hPr (s718.trans s1825))
  refine ⟨_, rfl, _, rfl, _, _, hdph, hdpk, dL_shaped _, dL_shaped _, _, rfl, ?_⟩
  rw [hdl]
  refine iteF ?_
  refine ⟨_, rfl, _, rfl, _, _, hdpc, hdpp, dI_shaped _, dI_shaped _, _, rfl, ?_⟩
  rw [hdi]
  refine iteF ?_
  refine ⟨_, rfl, .ref tq, .ty "tuple", _, _, true, rfl, .ty _, .base (.tup htq), kit_ty (by decide +kernel), true, rfl, iteF ?_⟩
  refine ⟨_, rfl, tq, _, rfl, .inr (hTq (Same.refl _)), rfl, _, rfl, ifNF rfl ?_⟩
  refine ⟨_, rfl, tq, _, 0, _, rfl, rfl, hTq (Same.refl _), rfl, v3, rfl, true, rfl, iteF ?_⟩
  refine ⟨_, rfl, tq, _, 0, _, rfl, rfl, hTq (Same.refl _), rfl, _, rfl, rfl, _, rfl, ifNF (by rw [ev3]) ?_⟩
  refine ⟨_, rfl, tq, _, 1, _, rfl, rfl, hTq (Same.refl _), rfl, q2, S, rfl, hS, true, rfl, iteF ?_⟩
  -- no place is strange
  refine ⟨_, rfl, tq, _, 1, _, rfl, rfl, hTq (Same.refl _), rfl, q2, rfl, ⟨_, SqL.of hS⟩, fun D6 hD6 => lc_list (K := K) (a := q2) (xs := S.map V.int) (fun i H => Same H25 H ∧ H D6 = some (ilst [])) ⟨same_new hD6, upd_same⟩ (fun i H _ h => SqL.of (h.1 _ _ hS)) ?_ ?_⟩
  · rintro i x H3 hi ⟨s3, h3⟩
    obtain ⟨c, hc, rfl⟩ := map_get hi
    have hr := hrng c (List.mem_of_getElem? hc)
    exact ⟨rfl, _, rfl, _, _, rfl, rfl, _, rfl, ifF (by omega) ⟨_, rfl, _, rfl, _, _, rfl, rfl, _, rfl, ifF (by omega) ⟨s3, h3⟩⟩⟩
  rintro H26 ⟨s26, h26⟩
  refine tnil_go ?_
  refine ⟨D6, _, rfl, .inl (SqL.of h26), _, _, rfl, rfl, _, rfl, ifF (by decide) ?_⟩
  refine ⟨_, rfl, tq, _, 1, _, rfl, rfl, hTq s26, rfl, q2, rfl, ⟨_, SqL.of (s26 _ _ hS)⟩, fun D7 hD7 => lc_list (K := K) (a := q2) (xs := S.map V.int) (fun i H => Same H26 H ∧ H D7 = some (ilst ((S.take i).map (pw pr)))) ⟨same_new hD7, upd_same⟩ (fun i H _ h => SqL.of (h.1 _ _ (s26 _ _ hS))) ?_ ?_⟩
  · rintro i x H3 hi ⟨s3, h3⟩
    obtain ⟨c, hc, rfl⟩ := map_get hi
    have hr := hrng c (List.mem_of_getElem? hc)
    have hilt := (List.getElem?_eq_some_iff.mp hc).1
    refine ⟨rfl, yes_then ?_⟩
    refine ⟨_, rfl, _, rfl, pa, _, _, _, rfl, rfl, hPr (s718.trans (s1825.trans (s26.trans s3))), pw_sym hr.1 hr.2, _, h3, ?_, same_mut s3 hD7, ?_⟩
    · rw [List.length_map, List.length_map, List.length_take]
      exact Nat.lt_of_le_of_lt (show min i S.length ≤ 63000 by omega) (by decide)
    · rw [upd_same, List.take_add_one, hc, List.map_append]
      unfold ilst
      rw [List.map_append]
      rfl
  rintro H27 ⟨s27', h27⟩
  rw [List.length_map, List.take_length] at h27
  refine tnil_go ?_
  refine ⟨D7, _, rfl, SqL.of h27, _, rfl, rfl, _, rfl, ifT ?_ ?_⟩
  · have e : (S.map (pw pr)).sum = du := by
      rw [← ev3, ← hcost]
      rfl
    rw [e]
  have s2527 := s26.trans s27'
  refine ⟨_, rfl, _, rfl, tq, _, 1, _, rfl, rfl, hTq s2527, rfl, ka, q2, ks, S, rfl, SqL.of (hk18 (s1825.trans s2527)), hkL (s1825.trans s2527), SqL.of (s2527 _ _ hS), hHas, ?_⟩
  exact q _
end
end K57

open PySem PySem.W PySem.Calls PyProof.Rows
theorem PySem.Challenge.cw_foreworth_k57_whole_least_two_ways_holds : PySem.Challenge.rw_foreworth_k57_whole_least_two_ways.Holds := by
  w_on; o_law
  refine HandSHeadRun.head_any (r := K57.R) (q := view K57.R.prog [42]) (H := K57.hk) (ob := K57.ob) (M := 4000) (loose := K57.loose) (d := HandSHeadRun.topDef K57.R.prog 42) (kwd := []) K57.ob_eq
    (by kernel_rfl) (fun s => by kernel_rfl) K57.run (by kernel_rfl) (by kernel_rfl) (by kernel_rfl) (by rfl) (by first | assumption | decide +kernel) (by decide +kernel) ⟨rfl, rfl, rfl, rfl, rfl, by decide +kernel⟩ ?hw ?hc
  case hw => w_witness2
  case hc =>
    refine Fw.walk_bits (l := PySem.Challenge.rw_foreworth_k57_whole_least_two_ways) (n := 63) (k := 5) (x := "_law_script") rfl (by decide) (by kernel_rfl) ⟨rfl, by decide, by decide⟩ ?F
    intro w mg fa h Y G hmg0
    obtain ⟨K, KX, c⟩ := Y
    have hmg : mg ("law" : PySem.Str) = some (.ref fa) := by
      have e : (HandSHeadRun.topDef K57.R.prog 42).name = ("law" : PySem.Str) := by kernel_rfl
      rw [← e]
      exact hmg0
    have T := K57.txt_of KX G c
    have e := hmg.symm.trans T.g_law
    cases e
    obtain ⟨fd, F⟩ := T.f_law
    have b := L2.FunD.bindsA (ps := ["_law_script"]) F fun _ _ _ _ _ _ us hl => match us, hl with | [_], _ => rfl
    exact ⟨K, fd, K57.sp_law K, KX, fun s v => b s [v] rfl, fun H a ns hl _ hS => ⟨a, ns, rfl, hS, hl, fun _ => rfl⟩, fun base _ _ => K57.ok_law T F⟩
