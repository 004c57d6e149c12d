import PyProof.Rows.All
import Wide.All
import OpenK.AllK
import Wide.FinOn
import HandS.ForMost
import HandS.Strs
import HandS.SetFor
import HandS.Defaults
import HandS.Exc
import HandS.IsInst
import HandS.Conv
import HandS.Wide
import HandS.SortRule
import HandS.SortInts
import HandS.Evl
import HandS.Walk
import HandS.Codes
import HandS.Head0
import HandS.Head1
import HandS.Head2
import HandS.HeadEnd
import HandS.HeadHook1
import HandS.HeadHook2
import HandS.EndBits
import HandS.SortKw
import KE.SortKeyHeap
import KE.DataMinMax
import KE.KDictDisplayH
import KE.KTupSum
import KE.SortData
import HandS.DictComp
import HandS.TupLe
import KE.KEqDict
import HandS.Deep
import HandS.TupAny
import PySem.Challenge.RW_foreworth_k37_whole_heights_show_claims
import HandS.Style
set_option Elab.async false
set_option linter.all false
set_option maxRecDepth 100000
set_option maxHeartbeats 4000000
/-! set(xs) of a list of whole numbers, over the layer. -/
namespace Fw
open PySem PySem.Spec PyProof.Rows L2
section
variable {P : Program} {w : World} {A : Around} {E : Value → Shared → Prop} {s : Shared}
/-- the empty set as it is made -/
abbrev eSet (w : World) : Obj := { cls := .type "set", dict := none, data := .set #[] 0 (.fresh 0 0 (!w.params.followText "set-order")) }
theorem set_ints {l : Addr} {its : Array Value} (ns : List Int) {Q : Value → Shared → Prop} (hh : A.handled = none) (hl : s.heap.IsList l its) (hi : IntsAre its.toList ns) (hb : ns.length + 1 < scanBound)
    (h : ∀ (h2 : Heap) (tk c : Nat), SetR w h2 s.heap.objs.size (fun j => decide (j ∈ ns)) c → c ≤ ns.length → (∀ b o, s.heap.get? b = some o → h2.get? b = some o) → Q (.ref s.heap.objs.size) { s with heap := h2, toks := tk }) :
    wpAny (model P w) A (call (.type "set") [.ref l]) Q E s := by
  have hsz : its.size = ns.length := by
    have q := IntsAre.length hi
    rwa [Array.length_toList] at q
  obtain ⟨c, tl, hmro⟩ := F.called_set.mro
  have hmade := F.called_set.made
  have hsub := F.called_set.sub
  refine wpAny_call (codeAny_of_tree ?_)
  show wpAny _ _ (callAny (.type "set") _) _ _ _
  refine wpAny_pure ⟨Code.quiet_builtin _ (by decide +kernel), codeAny_builtin F.entry_type_call ?_⟩
  rw [Around.under_plain (weight_type_call_type "set" [.ref l] []) rfl]
  have h1 := F.called_set.notType
  have h2 := F.called_set.canCreate
  have hct := F.typeCall_set_1 (.ref l)
  repeat (any_goals (first | assumption | wp_step))
  refine codeAny_mono (code_set_led1 (.ref l) (E := E) (Q₁ := fun v t => v = .ref s.heap.objs.size ∧ t = { s with heap := s.heap.push (eSet w) }) ⟨rfl, rfl⟩) fun r t hr => ?_
  cases r with
  | error e => exact hr
  | ok fl =>
    cases fl with
    | ret v =>
      obtain ⟨rfl, rfl⟩ := hr
      have hS : (s.heap.push (eSet w)).get? s.heap.objs.size = some (eSet w) := Heap.get?_push_size _ rfl
      have hT : Shared.TypeIs { s with heap := s.heap.push (eSet w) } (.ref s.heap.objs.size) "set" := ⟨_, hS, rfl⟩
      have hli := F.called_set.init.lookup
      have hbi := F.called_set.init.bind (.ref s.heap.objs.size)
      repeat (any_goals (first | assumption | wp_step))
      refine codeAny_mono (codeAny_call_builtin (R := wants (fun r t => r = .none ∧ ∃ h2 tk c, t = { s with heap := h2, toks := tk } ∧ SetR w h2 s.heap.objs.size (fun j => decide (j ∈ ns)) c ∧ c ≤ ns.length ∧
          (∀ b o, s.heap.get? b = some o → h2.get? b = some o)) E) F.called_set.init.plain F.entry_set_init (check_set_init_1 hT ?_)) fun r t hr => ?_
      · obtain ⟨⟨oc, od, dt, sl⟩, e1, e2, n, e3⟩ := hl
        simp only at e2 e3
        subst e2; subst e3
        have f1 : (s.heap.push (eSet w)).get? l = some { cls := .type "list", dict := od, data := .seq its n, slots := sl } := Heap.get?_push_of_some _ e1
        have g1 := F.sub_list_set
        have g2 := F.sub_list_frozenset
        have g3 : (Value.type "list" == Value.type "dict") = false := by decide
        have lst : (s.heap.push (eSet w)).IsList l its := ⟨_, f1, rfl, n, rfl⟩
        unfold Builtin.«set.__init__» noKeywords Builtin.Frozenset.updateFrom
        generalize hPI : pyIter = PI
        wp_walk
        subst hPI
        refine wpAny_pyIter_list lst ?_
        refine wpAny_bind (wpAny_runValue ?_)
        have lt : l < s.heap.objs.size := Heap.lt_size e1
        have hh3 : A.in1.in1.in1.handled = none := by simp [hh]
        have sz1 : (s.heap.push (eSet w)).objs.size = s.heap.objs.size + 1 := Heap.size_push ..
        have ne1 : l ≠ (s.heap.push (eSet w)).objs.size := by
          rw [sz1]
          exact Nat.ne_of_lt (Nat.lt_succ_of_lt lt)
        have nin : s.heap.objs.size ∉ [(s.heap.push (eSet w)).objs.size, l] := by
          simp only [List.mem_cons, List.not_mem_nil, or_false, not_or]
          refine ⟨?_, Nat.ne_of_gt lt⟩
          rw [sz1]
          exact Nat.ne_of_lt (Nat.lt_succ_self _)
        have hval : ∀ (i : Nat) (v : Value), its[i]? = some v → ∃ k t, ns[i]? = some k ∧ v = .int k t := fun i v hv => by
          have lti : i < ns.length := by rw [← hsz]; exact (Array.getElem?_eq_some_iff.mp hv).1
          obtain ⟨t, e⟩ := PyProof.Rows.IntsAre.int_at hi i v (by rw [Array.getElem?_toList]; exact hv)
          refine ⟨ns[i], t, List.getElem?_eq_getElem lti, ?_⟩
          rw [e, List.getD_eq_getElem?_getD, List.getElem?_eq_getElem lti] <;> rfl
        refine set_update_ints ((Walks.list hh3 _ l ne1 its).toS) s.heap.objs.size nin ns hsz hb hval (its.size - 0) 0 _ (by omega) (Nat.zero_le _)
          ⟨⟨_, Heap.get?_push_size _ rfl, rfl, rfl⟩, (lst.push _)⟩ ?s0 ?sR
        case s0 => exact ⟨0, Nat.le_refl 0, setR_new_at (Heap.get?_push_of_some _ hS)⟩
        case sR =>
          intro t c2 mv le R2
          obtain ⟨h2, gs, dr, tk, os⟩ := t
          obtain rfl : gs = s.gens := mv.gens
          obtain rfl : dr = s.drawn := mv.drawn
          obtain rfl : os = s.os := mv.os
          show wpAny _ _ _ _ _ _
          refine wpAny_pure ?_
          show wpAny _ _ (ret Value.none) _ _ _
          refine wpAny_pure ⟨rfl, h2, tk, c2, rfl, R2, by rw [← hsz]; exact le, fun b o e => ?_⟩
          have b0 : b < s.heap.objs.size := Heap.lt_size e
          refine mv.heap b o ?_ (Heap.get?_push_of_some _ (Heap.get?_push_of_some _ e))
          simp only [List.mem_cons, List.not_mem_nil, or_false, not_or]
          refine ⟨Nat.ne_of_lt b0, ?_⟩
          rw [sz1]
          exact Nat.ne_of_lt (Nat.lt_succ_of_lt b0)
      · cases r with
        | error e => exact hr
        | ok f2 =>
          cases f2 with
          | ret r =>
            obtain ⟨rfl, h2, tk, c2, rfl, a, b, d⟩ := hr
            repeat (any_goals (first | assumption | wp_step))
            exact h _ _ _ a b d
          | _ => exact hr.elim
    | _ => exact hr.elim
end
/-- set(xs), xs a list of fewer than 4000 whole numbers -/
def rSetL (K : PySem.W.Frag) (w : World) : List V → Hp → VK → Prop := fun xs H Q => ∃ (l : Addr) (ns : List Int), xs = [V.ref l] ∧ SqL K H l (ns.map V.int) ∧ ns.length + 1 < scanBound ∧
  ∀ (a : Addr) (c : Nat), H a = none → c ≤ ns.length → Q (.ref a) (upd H a (SetO w a (fun j => decide (j ∈ ns)) c))
theorem cr_setL {X : Cx} (hc : X.calm = true) : CallR X (.type "set") (rSetL X.K X.w) := by
  intro pins s σ H xs us Q I r h
  obtain ⟨l, ns, rfl, hS, hb, q⟩ := h
  rw [Vals.ref1 r]
  obtain ⟨its, rv, pl, hz⟩ := I.list hS
  refine set_ints (P := X.prog) (w := X.w) ns (I.ok.hd hc) pl.isList (by simpa using ints_of_vals rv) hb fun h2 tk c R le k => ?_
  exact ⟨.ref s.heap.objs.size, upd H s.heap.objs.size (SetO X.w s.heap.objs.size (fun j => decide (j ∈ ns)) c), I.laid (t' := tk) k (Nat.le_refl _) (setO_new R), rfl, q _ c (I.hok.fresh (Nat.le_refl _)) le⟩
end Fw

/-! Least layings: the mathematics, without any program. -/
namespace Lay
/-! ### sums -/
def cost (w : Int → Int) (T : List Int) : Int := (T.map w).sum
theorem cost_nil (w : Int → Int) : cost w [] = 0 := rfl
theorem cost_cons (w : Int → Int) (t : Int) (T : List Int) : cost w (t :: T) = w t + cost w T := by
  unfold cost; rw [List.map_cons, List.sum_cons]
theorem cost_nonneg {w : Int → Int} (hw : ∀ c, 0 ≤ w c) : ∀ T : List Int, 0 ≤ cost w T
  | [] => by rw [cost_nil]; omega
  | t :: T => by have h1 := hw t; have h2 := cost_nonneg hw T; rw [cost_cons]; omega
theorem cost_erase {w : Int → Int} {x : Int} : ∀ {T : List Int}, x ∈ T → cost w T = w x + cost w (T.erase x)
  | [], h => by cases h
  | t :: T, h => by
    by_cases e : t = x
    · subst e
      rw [List.erase_cons_head, cost_cons]
    · have hx : x ∈ T := by
        rcases List.mem_cons.mp h with q | q
        · exact absurd q.symm e
        · exact q
      have ih := cost_erase (w := w) hx
      rw [List.erase_cons_tail (by simpa using e), cost_cons, cost_cons, ih]
      omega
theorem cost_sub {w : Int → Int} (hw : ∀ c, 0 ≤ w c) : ∀ {l T : List Int}, l.Nodup → (∀ x ∈ l, x ∈ T) → cost w l ≤ cost w T
  | [], T, _, _ => by rw [cost_nil]; exact cost_nonneg hw T
  | x :: l, T, hn, hs => by
    have hx : x ∈ T := hs x (List.mem_cons_self ..)
    have hn2 := List.nodup_cons.mp hn
    have ih := cost_sub hw (l := l) (T := T.erase x) hn2.2 (fun y hy => (List.mem_erase_of_ne (fun e => hn2.1 (by rw [← e]; exact hy))).mpr (hs y (List.mem_cons_of_mem _ hy)))
    rw [cost_cons, cost_erase hx]
    omega
theorem cost_map {w : Int → Int} {f : Int → Int} (h : ∀ c, w (f c) = w c) (T : List Int) : cost w (T.map f) = cost w T := by
  unfold cost
  rw [List.map_map]
  exact congrArg List.sum (List.map_congr_left fun c _ => h c)
theorem cost_append (w : Int → Int) (S T : List Int) : cost w (S ++ T) = cost w S + cost w T := by
  unfold cost; rw [List.map_append, List.sum_append]
theorem emod_le_self {a k : Int} (ha : 0 ≤ a) (hk : 0 ≤ k) : a % k ≤ a := by
  have h1 := Int.mul_ediv_add_emod a k
  have h2 := Int.mul_nonneg hk (Int.ediv_nonneg ha hk)
  omega
/-! ### lines, coordinates -/
/-- the positions of a stay -/
def line (k : Int) (d : Int) : Nat → List Int
  | 0 => []
  | l + 1 => d % k :: line k (d + 1) l
theorem line_eq (k d : Int) : ∀ l, line k d l = (List.range l).map fun j : Nat => (d + j) % k
  | 0 => rfl
  | l + 1 => by
    rw [List.range_succ_eq_map, List.map_cons, List.map_map]
    show d % k :: line k (d + 1) l = _
    rw [line_eq k (d + 1) l]
    have e0 : d + ((0 : Nat) : Int) = d := by omega
    rw [e0]
    refine congrArg _ (List.map_congr_left fun j _ => ?_)
    show (d + 1 + (j : Int)) % k = (d + ((j + 1 : Nat) : Int)) % k
    congr 1
    omega
def at_ (k b : Int) (c : Int) : Bool := decide (c % k = b % k)
def coords (k : Int) : List Int → List Int
  | [] => []
  | b :: S => (match (coords k S).find? (at_ k (b + 1)) with | some c => c - 1 | none => b) :: coords k S
def co1 (k b : Int) (cs : List Int) : Int := match cs.find? (at_ k (b + 1)) with | some c => c - 1 | none => b
theorem coords_cons (k b : Int) (S : List Int) : coords k (b :: S) = co1 k b (coords k S) :: coords k S := rfl
theorem co1_mod (k b : Int) (cs : List Int) : co1 k b cs % k = b % k := by
  unfold co1
  split
  · rename_i c h
    have h2 : at_ k (b + 1) c = true := List.find?_some h
    have h3 : c % k = (b + 1) % k := of_decide_eq_true h2
    have h4 : (c - 1) % k = (b + 1 - 1) % k := (Int.emod_sub_cancel_right 1).mpr h3
    rw [h4, Int.add_sub_cancel]
  · rfl
theorem coords_mod (k : Int) : ∀ S : List Int, (coords k S).map (· % k) = S.map (· % k)
  | [] => rfl
  | b :: S => by
    rw [coords_cons, List.map_cons, List.map_cons, coords_mod k S]
    show co1 k b (coords k S) % k :: _ = _
    rw [co1_mod]
theorem coords_cost {k : Int} {w : Int → Int} (hw : ∀ c, w (c % k) = w c) (S : List Int) : cost w (coords k S) = cost w S := by
  have e := congrArg (cost w) (coords_mod k S)
  rw [cost_map (f := (· % k)) hw, cost_map (f := (· % k)) hw] at e
  exact e
theorem at_self {k b c : Int} (h : c % k = b % k) : at_ k b c = true := decide_eq_true h
theorem coords_line {k : Int} : ∀ (S : List Int) (d : Int) (l : Nat), (∀ b ∈ S, b % k = b) → (line k d (l + 1)).Sublist S →
    ∃ x, (coords k S).find? (at_ k d) = some x ∧ ∀ j : Nat, j < l + 1 → x + j ∈ coords k S
  | [], d, l, _, h => by
    have h2 := h.length_le
    simp [line] at h2
  | b :: S, d, l, hb, h => by
    have hb2 : ∀ c ∈ S, c % k = c := fun c hc => hb c (List.mem_cons_of_mem _ hc)
    have hbb : b % k = b := hb b (List.mem_cons_self ..)
    rw [coords_cons]
    by_cases e : b = d % k
    · have ebd : b % k = d % k := by rw [e, Int.emod_emod]
      have hat : at_ k d (co1 k b (coords k S)) = true := at_self (by rw [co1_mod, ebd])
      refine ⟨co1 k b (coords k S), by rw [List.find?_cons, hat], fun j hj => ?_⟩
      cases j with
      | zero =>
        have e0 : co1 k b (coords k S) + ((0 : Nat) : Int) = co1 k b (coords k S) := by omega
        rw [e0]
        exact List.mem_cons_self ..
      | succ j =>
        obtain ⟨l, rfl⟩ : ∃ m, l = m + 1 := ⟨l - 1, by omega⟩
        have hs : (line k (d + 1) (l + 1)).Sublist S := by
          have h3 : (d % k :: line k (d + 1) (l + 1)).Sublist (b :: S) := h
          rw [← e] at h3
          exact h3.of_cons_cons
        obtain ⟨x, hx, hm⟩ := coords_line S (d + 1) l hb2 hs
        have e1 : at_ k (b + 1) = at_ k (d + 1) := by
          funext c
          unfold at_
          have e2 : (b + 1) % k = (d + 1) % k := by rw [Int.add_emod, ebd, ← Int.add_emod]
          rw [e2]
        have e3 : co1 k b (coords k S) = x - 1 := by
          unfold co1
          rw [e1, hx]
        refine List.mem_cons_of_mem _ ?_
        have h4 := hm j (by omega)
        rw [e3]
        have e5 : x - 1 + ((j + 1 : Nat) : Int) = x + (j : Int) := by omega
        rw [e5]
        exact h4
    · have hs : (line k d (l + 1)).Sublist S := by
        have h3 : (d % k :: line k (d + 1) l).Sublist (b :: S) := h
        cases h3 with
        | cons _ q => exact q
        | cons_cons _ q => exact absurd rfl e
      obtain ⟨x, hx, hm⟩ := coords_line S d l hb2 hs
      have hat : at_ k d (co1 k b (coords k S)) = false := by
        refine decide_eq_false ?_
        rw [co1_mod, hbb]
        exact e
      exact ⟨x, by rw [List.find?_cons, hat]; exact hx, fun j hj => List.mem_cons_of_mem _ (hm j hj)⟩
/-! ### moving the upper part -/
abbrev Pl := List (Int × Nat)
def Cov (pl : Pl) (T : List Int) : Prop := ∀ q ∈ pl, ∀ j : Nat, j < q.2 → q.1 + j ∈ T
theorem below (T : List Int) (a : Int) : ∃ B, B < a ∧ ∀ t ∈ T, B < t := by
  induction T with
  | nil => exact ⟨a - 1, by omega, fun t ht => by cases ht⟩
  | cons t T ih =>
    obtain ⟨B, h1, h2⟩ := ih
    refine ⟨min B (t - 1), by omega, fun u hu => ?_⟩
    rcases List.mem_cons.mp hu with e | e
    · subst e; omega
    · have := h2 u e; omega
theorem gap_at {T : List Int} {B : Int} (hB : ∀ t ∈ T, B < t) : ∀ (n : Nat) (M : Int), M - B ≤ n → B < M → ∃ g, g < M ∧ g ∉ T ∧ ∀ x, g < x → x < M → x ∈ T
  | 0, M, h1, h2 => by omega
  | n + 1, M, h1, h2 => by
    by_cases h : M - 1 ∈ T
    · have h3 := hB _ h
      obtain ⟨g, g1, g2, g3⟩ := gap_at hB n (M - 1) (by omega) h3
      refine ⟨g, by omega, g2, fun x x1 x2 => ?_⟩
      by_cases e : x = M - 1
      · rw [e]; exact h
      · exact g3 x x1 (by omega)
    · exact ⟨M - 1, by omega, h, fun x x1 x2 => by omega⟩
theorem max_of : ∀ pl : Pl, pl ≠ [] → ∃ q ∈ pl, ∀ r ∈ pl, r.1 ≤ q.1
  | [], h => absurd rfl h
  | [q], _ => ⟨q, List.mem_cons_self .., fun r hr => by
    rw [List.mem_singleton.mp hr]
    exact Int.le_refl _⟩
  | q :: r :: pl, _ => by
    obtain ⟨m, hm, h⟩ := max_of (r :: pl) (List.cons_ne_nil _ _)
    by_cases e : m.1 ≤ q.1
    · refine ⟨q, List.mem_cons_self .., fun z hz => ?_⟩
      rcases List.mem_cons.mp hz with e2 | e2
      · rw [e2]; exact Int.le_refl _
      · exact Int.le_trans (h z e2) e
    · refine ⟨m, List.mem_cons_of_mem _ hm, fun z hz => ?_⟩
      rcases List.mem_cons.mp hz with e2 | e2
      · rw [e2]; omega
      · exact h z e2
theorem min_over (g : Int) : ∀ pl : Pl, (∃ q ∈ pl, g < q.1) → ∃ q ∈ pl, g < q.1 ∧ ∀ r ∈ pl, g < r.1 → q.1 ≤ r.1
  | [], ⟨q, hq, _⟩ => by cases hq
  | q :: pl, h => by
    by_cases hpl : ∃ r ∈ pl, g < r.1
    · obtain ⟨m, hm, hg, hmin⟩ := min_over g pl hpl
      by_cases e : g < q.1 ∧ q.1 ≤ m.1
      · refine ⟨q, List.mem_cons_self .., e.1, fun r hr hr2 => ?_⟩
        rcases List.mem_cons.mp hr with e2 | e2
        · rw [e2]; exact Int.le_refl _
        · exact Int.le_trans e.2 (hmin r e2 hr2)
      · refine ⟨m, List.mem_cons_of_mem _ hm, hg, fun r hr hr2 => ?_⟩
        rcases List.mem_cons.mp hr with e2 | e2
        · subst e2
          by_cases e3 : r.1 ≤ m.1
          · exact absurd ⟨hr2, e3⟩ e
          · omega
        · exact hmin r e2 hr2
    · obtain ⟨r, hr, hr2⟩ := h
      rcases List.mem_cons.mp hr with e2 | e2
      · subst e2
        refine ⟨r, List.mem_cons_self .., hr2, fun z hz hz2 => ?_⟩
        rcases List.mem_cons.mp hz with e3 | e3
        · rw [e3]; exact Int.le_refl _
        · exact absurd ⟨z, e3, hz2⟩ hpl
      · exact absurd ⟨r, e2, hr2⟩ hpl
/-- how far the starts lie above a -/
def span (a : Int) : Pl → Nat
  | [] => 0
  | q :: pl => (q.1 - a).toNat + span a pl
def down (g k : Int) (q : Int × Nat) : Int × Nat := if g < q.1 then (q.1 - k, q.2) else q
theorem span_down {a g k : Int} (hk : 0 < k) : ∀ pl : Pl, span a (pl.map (down g k)) ≤ span a pl
  | [] => Nat.le_refl _
  | q :: pl => by
    have ih := span_down (a := a) (g := g) hk pl
    show ((down g k q).1 - a).toNat + span a (pl.map (down g k)) ≤ (q.1 - a).toNat + span a pl
    unfold down
    by_cases e : g < q.1
    · rw [if_pos e]
      show (q.1 - k - a).toNat + _ ≤ _
      unfold down at ih
      omega
    · rw [if_neg e]
      unfold down at ih
      omega
theorem span_down_lt {a g k : Int} (hk : 0 < k) : ∀ pl : Pl, (∃ q ∈ pl, g < q.1 ∧ a < q.1) → span a (pl.map (down g k)) < span a pl
  | [], ⟨q, hq, _⟩ => by cases hq
  | q :: pl, h => by
    have hle := span_down (a := a) (g := g) hk pl
    show ((down g k q).1 - a).toNat + span a (pl.map (down g k)) < (q.1 - a).toNat + span a pl
    obtain ⟨r, hr, h1, h2⟩ := h
    by_cases hq : g < q.1 ∧ a < q.1
    · have e : down g k q = (q.1 - k, q.2) := if_pos hq.1
      rw [e]
      show (q.1 - k - a).toNat + _ < _
      have := hq.2
      omega
    · have hr2 : r ∈ pl := by
        rcases List.mem_cons.mp hr with e2 | e2
        · subst e2; exact absurd ⟨h1, h2⟩ hq
        · exact e2
      have ih := span_down_lt (a := a) (g := g) hk pl ⟨r, hr2, h1, h2⟩
      have h3 : ((down g k q).1 - a).toNat ≤ (q.1 - a).toNat := by
        unfold down
        by_cases e : g < q.1
        · rw [if_pos e]
          show (q.1 - k - a).toNat ≤ _
          omega
        · rw [if_neg e]
          exact Nat.le_refl _
      omega
theorem cov_low {pl : Pl} {T : List Int} {g : Int} (hc : Cov pl T) (hg : g ∉ T) {q : Int × Nat} (hq : q ∈ pl) (h : q.1 ≤ g) {j : Nat} (hj : j < q.2) : q.1 + j ≤ g := by
  by_cases e : q.1 + j ≤ g
  · exact e
  · exfalso
    have h2 := hc q hq (g - q.1).toNat (by omega)
    have e2 : q.1 + ((g - q.1).toNat : Int) = g := by omega
    rw [e2] at h2
    exact hg h2
theorem together {k : Int} (hk : 0 < k) {w : Int → Int} (hw : ∀ c, w (c + k) = w c) (a : Int) : ∀ (n : Nat) (pl : Pl) (T : List Int), span a pl ≤ n → pl ≠ [] → (∀ q ∈ pl, a ≤ q.1) → Cov pl T →
    ∃ (z : Int) (T2 : List Int), (∃ q ∈ pl, q.1 % k = z % k) ∧ cost w T2 = cost w T ∧ ∀ q ∈ pl, ∀ j : Nat, j < q.2 → z + (q.1 - z) % k + j ∈ T2 := by
  intro n
  induction n with
  | zero => exact fun pl T h hne ha hc => core hk hw a 0 (fun pl2 T2 h2 => absurd h2 (Nat.not_lt_zero _)) pl T h hne ha hc
  | succ n ih => exact fun pl T h hne ha hc => core hk hw a (n + 1) (fun pl2 T2 h2 => ih pl2 T2 (Nat.le_of_lt_succ h2)) pl T h hne ha hc
where
  core {k : Int} (hk : 0 < k) {w : Int → Int} (hw : ∀ c, w (c + k) = w c) (a : Int) (n : Nat)
      (ih : ∀ (pl : Pl) (T : List Int), span a pl < n → pl ≠ [] → (∀ q ∈ pl, a ≤ q.1) → Cov pl T →
        ∃ (z : Int) (T2 : List Int), (∃ q ∈ pl, q.1 % k = z % k) ∧ cost w T2 = cost w T ∧ ∀ q ∈ pl, ∀ j : Nat, j < q.2 → z + (q.1 - z) % k + j ∈ T2)
      (pl : Pl) (T : List Int) (h : span a pl ≤ n) (hne : pl ≠ []) (ha : ∀ q ∈ pl, a ≤ q.1) (hc : Cov pl T) :
      ∃ (z : Int) (T2 : List Int), (∃ q ∈ pl, q.1 % k = z % k) ∧ cost w T2 = cost w T ∧ ∀ q ∈ pl, ∀ j : Nat, j < q.2 → z + (q.1 - z) % k + j ∈ T2 := by
    obtain ⟨m, hm, hmax⟩ := max_of pl hne
    obtain ⟨B, hB1, hB2⟩ := below T m.1
    obtain ⟨g, g1, g2, g3⟩ := gap_at hB2 (m.1 - B).toNat m.1 (by omega) hB1
    obtain ⟨r, hr, hr1, hr2⟩ := min_over g pl ⟨m, hm, g1⟩
    by_cases hlow : ∀ q ∈ pl, q.1 ≤ g → r.1 - k ≤ q.1
    · refine ⟨r.1, T.map (fun t => if t ≤ g then t + k else t), ⟨r, hr, rfl⟩, ?_, fun q hq j hj => ?_⟩
      · refine cost_map (fun c => ?_) T
        by_cases e : c ≤ g
        · rw [if_pos e, hw]
        · rw [if_neg e]
      · by_cases e : q.1 ≤ g
        · have h1 := hlow q hq e
          have h2 := cov_low hc g2 hq e hj
          have e2 : (q.1 - r.1) % k = q.1 - r.1 + k := by
            have e3 : (q.1 - r.1 + k) % k = (q.1 - r.1) % k := by rw [Int.add_emod_right]
            rw [← e3]
            exact Int.emod_eq_of_lt (by omega) (by omega)
          rw [e2]
          refine List.mem_map.mpr ⟨q.1 + j, hc q hq j hj, ?_⟩
          rw [if_pos h2]
          omega
        · have h1 := hr2 q hq (by omega)
          have h2 : (q.1 - r.1) % k ≤ q.1 - r.1 := emod_le_self (by omega) (by omega)
          have h3 : 0 ≤ (q.1 - r.1) % k := Int.emod_nonneg _ (by omega)
          have hin : r.1 + (q.1 - r.1) % k + j ∈ T := by
            by_cases e3 : r.1 + (q.1 - r.1) % k + j < m.1
            · exact g3 _ (by omega) e3
            · have h4 := hmax q hq
              have h5 := hc q hq (r.1 + (q.1 - r.1) % k + j - q.1).toNat (by omega)
              have e4 : q.1 + ((r.1 + (q.1 - r.1) % k + j - q.1).toNat : Int) = r.1 + (q.1 - r.1) % k + j := by omega
              rw [e4] at h5
              exact h5
          refine List.mem_map.mpr ⟨_, hin, ?_⟩
          rw [if_neg (by omega)]
    · have hlow2 : ∃ q ∈ pl, q.1 ≤ g ∧ q.1 < r.1 - k := by
        refine Classical.byContradiction fun hn => hlow fun q hq h1 => ?_
        refine Classical.byContradiction fun h2 => hn ⟨q, hq, h1, by omega⟩
      obtain ⟨y, hy, hy1, hy2⟩ := hlow2
      have hya := ha y hy
      have hc2 : Cov (pl.map (down g k)) (T.map (fun t => if g < t then t - k else t)) := by
        intro q2 hq2 j hj
        obtain ⟨q, hq, rfl⟩ := List.mem_map.mp hq2
        unfold down at hj ⊢
        by_cases e : g < q.1
        · rw [if_pos e] at hj ⊢
          refine List.mem_map.mpr ⟨q.1 + j, hc q hq j hj, ?_⟩
          rw [if_pos (by omega)]
          show q.1 + j - k = q.1 - k + j
          omega
        · rw [if_neg e] at hj ⊢
          have h2 := cov_low hc g2 hq (by omega) hj
          refine List.mem_map.mpr ⟨q.1 + j, hc q hq j hj, ?_⟩
          rw [if_neg (by omega)]
      have ha2 : ∀ q ∈ pl.map (down g k), a ≤ q.1 := by
        intro q2 hq2
        obtain ⟨q, hq, rfl⟩ := List.mem_map.mp hq2
        have := ha q hq
        unfold down
        by_cases e : g < q.1
        · rw [if_pos e]
          show a ≤ q.1 - k
          have := hr2 q hq e
          omega
        · rw [if_neg e]
          exact this
      have hlt := span_down_lt (a := a) (g := g) hk pl ⟨r, hr, hr1, by omega⟩
      obtain ⟨z, T2, ⟨q0, hq0, hz⟩, hcost, hcov⟩ := ih (pl.map (down g k)) _ (by omega) (fun e => hne (List.map_eq_nil_iff.mp e)) ha2 hc2
      have hmod : ∀ q : Int × Nat, (down g k q).1 % k = q.1 % k := fun q => by
        unfold down
        by_cases e : g < q.1
        · rw [if_pos e]
          show (q.1 - k) % k = _
          exact Int.sub_emod_right q.1 k
        · rw [if_neg e]
      have hmod2 : ∀ q : Int × Nat, ((down g k q).1 - z) % k = (q.1 - z) % k := fun q => (Int.emod_sub_cancel_right z).mpr (hmod q)
      have hlen : ∀ q : Int × Nat, (down g k q).2 = q.2 := fun q => by
        unfold down
        by_cases e : g < q.1
        · rw [if_pos e]
        · rw [if_neg e]
      obtain ⟨q1, hq1, rfl⟩ := List.mem_map.mp hq0
      refine ⟨z, T2, ⟨q1, hq1, by rw [← hmod]; exact hz⟩, ?_, fun q hq j hj => ?_⟩
      · rw [hcost]
        refine cost_map (fun c => ?_) T
        by_cases e : g < c
        · rw [if_pos e]
          have := hw (c - k)
          rw [Int.sub_add_cancel] at this
          exact this.symm
        · rw [if_neg e]
      · have := hcov (down g k q) (List.mem_map_of_mem hq) j (by rw [hlen]; exact hj)
        rw [hmod2] at this
        exact this
end Lay

namespace Lay
/-! ### the price of the union from a door -/
def covd (k : Int) (st : Pl) (d : Int) (y : Nat) : Bool := st.any fun s => decide ((s.1 - d) % k ≤ (y : Int) ∧ (y : Int) < (s.1 - d) % k + s.2)
def ulist (k : Int) (st : Pl) (d : Int) (B : Nat) : List Int := ((List.range B).filter (covd k st d)).map fun y : Nat => d + y
def usum (w : Int → Int) (k : Int) (st : Pl) (d : Int) (B : Nat) : Int := cost w (ulist k st d B)
def Has (rests : List (List Int)) (S : List Int) : Prop := ∀ r ∈ rests, r.Sublist S
theorem ulist_nodup (k : Int) (st : Pl) (d : Int) (B : Nat) : (ulist k st d B).Nodup := by
  unfold ulist
  refine List.Pairwise.map _ (R := fun a b : Nat => a ≠ b) (fun a b h e => h ?_) ((List.nodup_range).filter _)
  omega
theorem mod_shift {k a b c : Int} (h : a % k = b % k) : (c + (a - b)) % k = c % k := by
  have h1 : (a - b) % k = (b - b) % k := (Int.emod_sub_cancel_right b).mpr h
  rw [Int.sub_self] at h1
  rw [Int.add_emod, h1, Int.zero_emod, Int.add_zero, Int.emod_emod]
theorem union_low {k : Int} (hk : 0 < k) {w : Int → Int} (hw0 : ∀ c, 0 ≤ w c) (hw : ∀ c, w (c % k) = w c) {st : Pl} (hne : st ≠ []) (hl : ∀ s ∈ st, 0 < s.2) {S : List Int} (hS : ∀ b ∈ S, b % k = b)
    (h : ∀ s ∈ st, (line k s.1 s.2).Sublist S) (B : Nat) : ∃ s ∈ st, usum w k st s.1 B ≤ cost w S := by
  have hper : ∀ c, w (c + k) = w c := fun c => by rw [← hw (c + k), Int.add_emod_right, hw]
  let f : Int × Nat → Int × Nat := fun s => (((coords k S).find? (at_ k s.1)).getD 0, s.2)
  have hf : ∀ s ∈ st, (f s).1 % k = s.1 % k ∧ ∀ j : Nat, j < s.2 → (f s).1 + j ∈ coords k S := by
    intro s hs
    obtain ⟨d, l⟩ := s
    have h1 := h _ hs
    have h2 := hl _ hs
    obtain ⟨m, rfl⟩ : ∃ m, l = m + 1 := ⟨l - 1, by have : 0 < l := h2; omega⟩
    obtain ⟨x, hx, hm⟩ := coords_line S d m hS h1
    have e : (f (d, m + 1)).1 = x := by
      show ((coords k S).find? (at_ k d)).getD 0 = x
      rw [hx]
      rfl
    rw [e]
    have hx2 : at_ k d x = true := List.find?_some hx
    exact ⟨of_decide_eq_true hx2, hm⟩
  obtain ⟨a, ha1, ha2⟩ := below ((st.map f).map (·.1)) 0
  obtain ⟨z, T2, ⟨q0, hq0, hz⟩, hcost, hcov⟩ := together hk hper a (span a (st.map f)) (st.map f) (coords k S) (Nat.le_refl _) (fun e => hne (List.map_eq_nil_iff.mp e))
    (fun q hq => Int.le_of_lt (ha2 q.1 (List.mem_map_of_mem hq))) (fun q hq j hj => by
      obtain ⟨s, hs, rfl⟩ := List.mem_map.mp hq
      exact (hf s hs).2 j hj)
  obtain ⟨s0, hs0, rfl⟩ := List.mem_map.mp hq0
  have hzs : s0.1 % k = z % k := by rw [← (hf s0 hs0).1]; exact hz
  refine ⟨s0, hs0, ?_⟩
  have e3 : cost w (T2.map (fun c => c + (s0.1 - z))) = cost w S := by
    rw [cost_map (fun c => ?_), hcost, coords_cost hw]
    rw [← hw (c + (s0.1 - z)), mod_shift hzs, hw]
  rw [← e3]
  refine cost_sub hw0 (ulist_nodup k st s0.1 B) fun x hx => ?_
  obtain ⟨y, hy, rfl⟩ := List.mem_map.mp hx
  have hy2 := (List.mem_filter.mp hy).2
  obtain ⟨s, hs, hs2⟩ := List.any_eq_true.mp hy2
  have hs3 := of_decide_eq_true hs2
  have e4 : ((f s).1 - z) % k = (s.1 - s0.1) % k := by
    rw [Int.sub_emod, (hf s hs).1, ← hzs, ← Int.sub_emod]
  have h5 := hcov (f s) (List.mem_map_of_mem hs) ((y : Int) - (s.1 - s0.1) % k).toNat (by
    show ((y : Int) - (s.1 - s0.1) % k).toNat < s.2
    omega)
  rw [e4] at h5
  refine List.mem_map.mpr ⟨_, h5, ?_⟩
  omega
theorem range_mid (o l B : Nat) (h : o + l ≤ B) : (List.range' o l).Sublist (List.range B) := by
  rw [List.range_eq_range']
  have e : List.range' 0 B = List.range' 0 o ++ (List.range' o l ++ List.range' (o + l) (B - (o + l))) := by
    have e1 : List.range' o l ++ List.range' (o + l) (B - (o + l)) = List.range' o (l + (B - (o + l))) := by
      have := List.range'_append (s := o) (m := l) (n := B - (o + l)) (step := 1)
      rw [Nat.one_mul] at this
      exact this
    have e2 : List.range' 0 o ++ List.range' o (l + (B - (o + l))) = List.range' 0 (o + (l + (B - (o + l)))) := by
      have := List.range'_append (s := 0) (m := o) (n := l + (B - (o + l))) (step := 1)
      rw [Nat.one_mul, Nat.zero_add] at this
      exact this
    rw [e1, e2]
    congr 1
    omega
  rw [e]
  exact (List.sublist_append_left _ _).trans (List.sublist_append_right _ _)
theorem union_has {k : Int} (hk : 0 < k) (st : Pl) (d : Int) (B : Nat) {s : Int × Nat} (hs : s ∈ st) (hB : (s.1 - d) % k + s.2 ≤ (B : Int)) : (line k s.1 s.2).Sublist ((ulist k st d B).map (· % k)) := by
  have h0 : 0 ≤ (s.1 - d) % k := Int.emod_nonneg _ (by omega)
  obtain ⟨o, ho⟩ : ∃ o : Nat, (s.1 - d) % k = o := ⟨((s.1 - d) % k).toNat, by omega⟩
  have e1 : line k s.1 s.2 = (List.range' o s.2).map fun y : Nat => (d + y) % k := by
    rw [line_eq, List.range'_eq_map_range, List.map_map]
    refine List.map_congr_left fun j _ => ?_
    show (s.1 + (j : Int)) % k = (d + ((o + j : Nat) : Int)) % k
    have e2 : d + ((o + j : Nat) : Int) = d + j + (s.1 - d) % k := by omega
    rw [e2, Int.add_emod (d + j), Int.emod_emod, ← Int.add_emod]
    congr 1
    omega
  rw [e1]
  unfold ulist
  rw [List.map_map]
  refine List.Sublist.map _ ?_
  have e3 : (List.range' o s.2).filter (covd k st d) = List.range' o s.2 := by
    refine List.filter_eq_self.mpr fun y hy => ?_
    have hy2 := List.mem_range'_1.mp hy
    refine List.any_eq_true.mpr ⟨s, hs, decide_eq_true ?_⟩
    omega
  rw [← e3]
  exact (range_mid o s.2 B (by omega)).filter _
/-! ### the least price of a list that contains all rows -/
def Least (w : Int → Int) (rests : List (List Int)) (v : Int) : Prop := (∃ S, Has rests S ∧ cost w S = v) ∧ ∀ S, Has rests S → v ≤ cost w S
theorem Least.eq {w : Int → Int} {rests : List (List Int)} {u v : Int} (a : Least w rests u) (b : Least w rests v) : u = v := by
  obtain ⟨⟨S, h1, h2⟩, h3⟩ := a
  obtain ⟨⟨T, h4, h5⟩, h6⟩ := b
  have := h3 T h4
  have := h6 S h1
  omega
def adv (b : Int) : List Int → List Int
  | [] => []
  | x :: r => if x = b then r else x :: r
theorem adv_cons (b x : Int) (r : List Int) : adv b (x :: r) = if x = b then r else x :: r := rfl
theorem least_end {w : Int → Int} (hw : ∀ c, 0 ≤ w c) {rests : List (List Int)} (h : ∀ r ∈ rests, r = []) : Least w rests 0 :=
  ⟨⟨[], fun r hr => by rw [h r hr]; exact List.Sublist.refl _, cost_nil w⟩, fun S _ => cost_nonneg hw S⟩
theorem adv_has {b : Int} {rests : List (List Int)} {S : List Int} (h : Has rests (b :: S)) : Has (rests.map (adv b)) S := by
  intro r hr
  obtain ⟨q, hq, rfl⟩ := List.mem_map.mp hr
  have h1 := h q hq
  cases q with
  | nil => exact List.nil_sublist _
  | cons x q =>
    rw [adv_cons]
    by_cases e : x = b
    · rw [if_pos e]
      rw [e] at h1
      exact h1.of_cons_cons
    · rw [if_neg e]
      cases h1 with
      | cons _ z => exact z
      | cons_cons _ z => exact absurd rfl e
theorem has_adv {b : Int} {rests : List (List Int)} {S : List Int} (h : Has (rests.map (adv b)) S) : Has rests (b :: S) := by
  intro q hq
  have h1 := h (adv b q) (List.mem_map_of_mem hq)
  cases q with
  | nil => exact List.nil_sublist _
  | cons x q =>
    rw [adv_cons] at h1
    by_cases e : x = b
    · rw [if_pos e] at h1
      rw [e]
      exact h1.cons_cons b
    · rw [if_neg e] at h1
      exact h1.cons b
theorem least_step {w : Int → Int} (hw : ∀ c, 0 ≤ w c) {rests : List (List Int)} {v : Int}
    (h1 : ∃ r ∈ rests, ∃ b q u, r = b :: q ∧ Least w (rests.map (adv b)) u ∧ v = w b + u)
    (h2 : ∀ r ∈ rests, ∀ b q, r = b :: q → ∃ u, Least w (rests.map (adv b)) u ∧ v ≤ w b + u) : Least w rests v := by
  obtain ⟨r0, hr0, b0, q0, u0, e0, L0, ev⟩ := h1
  constructor
  · obtain ⟨S, hS, hc⟩ := L0.1
    exact ⟨b0 :: S, has_adv hS, by rw [cost_cons, hc, ev]⟩
  · intro S
    induction S with
    | nil =>
      intro h
      have := (h r0 hr0).length_le
      rw [e0] at this
      simp at this
    | cons c S ih =>
      intro h
      by_cases hc : ∃ r ∈ rests, ∃ q, r = c :: q
      · obtain ⟨r, hr, q, e⟩ := hc
        obtain ⟨u, Lu, hu⟩ := h2 r hr c q e
        have := Lu.2 S (adv_has h)
        rw [cost_cons]
        omega
      · have hS : Has rests S := fun r hr => by
          have h3 := h r hr
          cases r with
          | nil => exact List.nil_sublist _
          | cons x q =>
            cases h3 with
            | cons _ z => exact z
            | cons_cons _ z => exact absurd ⟨_, hr, _, rfl⟩ hc
        have := ih hS
        have := hw c
        rw [cost_cons]
        omega
theorem line_mod (k : Int) : ∀ (l : Nat) (d : Int), (line k d l).map (· % k) = line k d l
  | 0, _ => rfl
  | l + 1, d => by
    show (d % k) % k :: (line k (d + 1) l).map (· % k) = _
    rw [line_mod k l, Int.emod_emod]
    rfl
/-- the least price of a list that contains all stays is the least price of a union from one of their doors -/
theorem laying_least {k : Int} (hk : 0 < k) {w : Int → Int} (hw0 : ∀ c, 0 ≤ w c) (hw : ∀ c, w (c % k) = w c) {st : Pl} (hne : st ≠ []) (hl : ∀ s ∈ st, 0 < s.2) {v : Int} (L : Least w (st.map fun s => line k s.1 s.2) v)
    (B : Nat) (hB : ∀ s ∈ st, k + s.2 ≤ (B : Int)) : (∃ s ∈ st, usum w k st s.1 B ≤ v) ∧ ∀ s ∈ st, v ≤ usum w k st s.1 B := by
  constructor
  · obtain ⟨S, hS, hc⟩ := L.1
    have hS2 : ∀ s ∈ st, (line k s.1 s.2).Sublist (S.map (· % k)) := fun s hs => by
      have h1 := (hS _ (List.mem_map_of_mem hs)).map (· % k)
      rw [line_mod] at h1
      exact h1
    obtain ⟨s, hs, h⟩ := union_low hk hw0 hw hne hl (S := S.map (· % k)) (fun b hb => by
      obtain ⟨c, _, rfl⟩ := List.mem_map.mp hb
      exact Int.emod_emod _ _) hS2 B
    refine ⟨s, hs, ?_⟩
    rw [cost_map hw, hc] at h
    exact h
  · intro s hs
    have h := L.2 ((ulist k st s.1 B).map (· % k)) (fun r hr => by
      obtain ⟨q, hq, rfl⟩ := List.mem_map.mp hr
      refine union_has hk st s.1 B hq ?_
      have h1 := hB q hq
      have h2 := Int.emod_lt_of_pos (q.1 - s.1) hk
      omega)
    rw [cost_map hw] at h
    exact h
end Lay

namespace Lay
/-! ### sums over stretches of whole numbers -/
def seg (w : Int → Int) (a b : Int) : Int := ((List.range (b - a).toNat).map fun i : Nat => w (a + i)).sum
theorem seg_nil (w : Int → Int) {a b : Int} (h : b ≤ a) : seg w a b = 0 := by
  unfold seg
  have e : (b - a).toNat = 0 := by omega
  rw [e]
  rfl
theorem seg_snoc (w : Int → Int) {a b : Int} (h : a ≤ b) : seg w a (b + 1) = seg w a b + w b := by
  unfold seg
  have e : (b + 1 - a).toNat = (b - a).toNat + 1 := by omega
  rw [e, List.range_succ, List.map_append, List.sum_append]
  have e2 : a + ((b - a).toNat : Int) = b := by omega
  simp only [List.map_cons, List.map_nil, List.sum_cons, List.sum_nil, e2, Int.add_zero]
theorem seg_split (w : Int → Int) {a b : Int} (h1 : a ≤ b) : ∀ (n : Nat), seg w a (b + n) = seg w a b + seg w b (b + n)
  | 0 => by
    have e : b + ((0 : Nat) : Int) = b := by omega
    rw [e, seg_nil w (Int.le_refl b)]
    omega
  | n + 1 => by
    have e : b + ((n + 1 : Nat) : Int) = b + n + 1 := by omega
    rw [e, seg_snoc w (by omega), seg_snoc w (by omega), seg_split w h1 n]
    omega
theorem seg_add (w : Int → Int) {a b c : Int} (h1 : a ≤ b) (h2 : b ≤ c) : seg w a c = seg w a b + seg w b c := by
  have h := seg_split w h1 (c - b).toNat
  have e : b + ((c - b).toNat : Int) = c := by omega
  rw [e] at h
  exact h
theorem seg_congr {w u : Int → Int} {a b : Int} (h : ∀ c, a ≤ c → c < b → w c = u c) : seg w a b = seg u a b := by
  unfold seg
  refine congrArg List.sum (List.map_congr_left fun i hi => ?_)
  have := List.mem_range.mp hi
  exact h _ (by omega) (by omega)
theorem seg_zero {w : Int → Int} {a b : Int} (h : ∀ c, a ≤ c → c < b → w c = 0) : seg w a b = 0 := by
  rw [seg_congr (u := fun _ => 0) h]
  unfold seg
  induction (b - a).toNat with
  | zero => rfl
  | succ n ih => rw [List.range_succ, List.map_append, List.sum_append, ih]; rfl
theorem seg_shift (w : Int → Int) (d a b : Int) : seg w (d + a) (d + b) = seg (fun y => w (d + y)) a b := by
  unfold seg
  have e : (d + b - (d + a)).toNat = (b - a).toNat := by omega
  rw [e]
  refine congrArg List.sum (List.map_congr_left fun i _ => ?_)
  show w (d + a + i) = w (d + (a + i))
  congr 1
  omega
/-- one round -/
theorem seg_round {w : Int → Int} {k : Int} (hk : 0 ≤ k) (hw : ∀ c, w (c + k) = w c) (a : Int) : seg w a (a + k) = seg w 0 k := by
  have step : ∀ c, seg w (c + 1) (c + 1 + k) = seg w c (c + k) := fun c => by
    have h1 := seg_snoc w (a := c) (b := c + k) (by omega)
    have h2 := seg_add w (a := c) (b := c + 1) (c := c + k + 1) (by omega) (by omega)
    have h3 := seg_snoc w (a := c) (b := c) (by omega)
    have h4 := seg_nil w (Int.le_refl c)
    have h5 := hw c
    have e : c + k + 1 = c + 1 + k := by omega
    rw [e] at h1 h2
    omega
  have up : ∀ n : Nat, seg w (n : Int) ((n : Int) + k) = seg w 0 k := fun n => by
    induction n with
    | zero =>
      have e : ((0 : Nat) : Int) + k = k := by omega
      rw [e]
      rfl
    | succ n ih =>
      have e : ((n + 1 : Nat) : Int) = (n : Int) + 1 := by omega
      rw [e, step, ih]
  have dn : ∀ n : Nat, seg w (-(n : Int)) (-(n : Int) + k) = seg w 0 k := fun n => by
    induction n with
    | zero =>
      have e : -((0 : Nat) : Int) + k = k := by omega
      rw [e]
      rfl
    | succ n ih =>
      have h := step (-((n + 1 : Nat) : Int))
      have e : -((n + 1 : Nat) : Int) + 1 = -(n : Int) := by omega
      rw [e] at h
      rw [← h, ih]
  by_cases h : 0 ≤ a
  · have := up a.toNat
    have e : (a.toNat : Int) = a := by omega
    rw [e] at this
    exact this
  · have := dn (-a).toNat
    have e : -((-a).toNat : Int) = a := by omega
    rw [e] at this
    exact this
theorem seg_rounds {w : Int → Int} {k : Int} (hk : 0 ≤ k) (hw : ∀ c, w (c + k) = w c) (a : Int) : ∀ q : Nat, seg w a (a + q * k) = q * seg w 0 k
  | 0 => by
    have e : a + ((0 : Nat) : Int) * k = a := by simp
    rw [e, seg_nil w (Int.le_refl a)]
    simp
  | q + 1 => by
    have e : a + ((q + 1 : Nat) : Int) * k = a + q * k + k := by
      rw [Int.natCast_succ, Int.add_mul]
      omega
    have h0 : 0 ≤ (q : Int) * k := Int.mul_nonneg (by omega) hk
    rw [e, seg_add w (a := a) (b := a + q * k) (by omega) (by omega), seg_rounds hk hw a q, seg_round hk hw, Int.natCast_succ, Int.add_mul]
    omega
/-- whole rounds at once, then the rest -/
theorem seg_piece {w : Int → Int} {k : Int} (hk : 0 < k) (hw : ∀ c, w (c + k) = w c) {a b : Int} (h : a ≤ b) : (b - a) / k * seg w 0 k + seg w (a + (b - a) / k * k) b = seg w a b := by
  have h0 : 0 ≤ (b - a) / k := Int.ediv_nonneg (by omega) (by omega)
  obtain ⟨q, hq⟩ : ∃ q : Nat, (b - a) / k = q := ⟨((b - a) / k).toNat, by omega⟩
  have h1 : 0 ≤ (q : Int) * k := Int.mul_nonneg (by omega) (by omega)
  have h2 : (q : Int) * k ≤ b - a := by
    rw [← hq]
    exact Int.ediv_mul_le _ (by omega)
  rw [hq, ← seg_rounds (by omega) hw a q, ← seg_add w (by omega) (by omega)]
/-! ### the union, stretch by stretch -/
abbrev Sp2 := List (Int × Int)
def uni (w : Int → Int) : Int → Sp2 → Int
  | _, [] => 0
  | r, q :: ss => seg w (max q.1 r) q.2 + uni w (max r q.2) ss
def inS (ss : Sp2) (y : Int) : Bool := ss.any fun q => decide (q.1 ≤ y ∧ y < q.2)
theorem inS_cons (q : Int × Int) (ss : Sp2) (y : Int) : inS (q :: ss) y = (decide (q.1 ≤ y ∧ y < q.2) || inS ss y) := rfl
theorem uni_eq (w : Int → Int) (B : Int) : ∀ (ss : Sp2) (r : Int), ss.Pairwise (fun a b => a.1 ≤ b.1) → (∀ q ∈ ss, q.2 ≤ B) → r ≤ B → uni w r ss = seg (fun y => if inS ss y = true then w y else 0) r B
  | [], r, _, _, _ => by
    exact (seg_zero fun c _ _ => rfl).symm
  | q :: ss, r, hp, hB, hr => by
    have hp2 := List.pairwise_cons.mp hp
    have hqB := hB q (List.mem_cons_self ..)
    have ih := uni_eq w B ss (max r q.2) hp2.2 (fun z hz => hB z (List.mem_cons_of_mem _ hz)) (by omega)
    show seg w (max q.1 r) q.2 + uni w (max r q.2) ss = _
    rw [ih, seg_add (fun y => if inS (q :: ss) y = true then w y else 0) (a := r) (b := max r q.2) (c := B) (by omega) (by omega)]
    have e2 : seg (fun y => if inS (q :: ss) y = true then w y else 0) (max r q.2) B = seg (fun y => if inS ss y = true then w y else 0) (max r q.2) B := seg_congr fun c h1 _ => by
      have e3 : inS (q :: ss) c = inS ss c := by
        rw [inS_cons, decide_eq_false (by omega), Bool.false_or]
      simp only [e3]
    rw [e2]
    have e4 : seg (fun y => if inS (q :: ss) y = true then w y else 0) r (max r q.2) = seg w (max q.1 r) q.2 := by
      by_cases h1 : q.2 ≤ r
      · rw [seg_nil _ (by omega), seg_nil _ (by omega)]
      · by_cases h2 : q.2 ≤ q.1
        · rw [seg_nil w (by omega)]
          refine seg_zero fun c c1 c2 => if_neg fun hc => ?_
          rw [inS_cons, decide_eq_false (by omega), Bool.false_or] at hc
          obtain ⟨z, hz, hz2⟩ := List.any_eq_true.mp hc
          have h3 := of_decide_eq_true hz2
          have h4 := hp2.1 z hz
          omega
        · have hm : max r q.2 = q.2 := by omega
          rw [hm, seg_add _ (a := r) (b := max q.1 r) (c := q.2) (by omega) (by omega)]
          have e5 : seg (fun y => if inS (q :: ss) y = true then w y else 0) r (max q.1 r) = 0 := seg_zero fun c c1 c2 => if_neg fun hc => by
            rw [inS_cons, decide_eq_false (by omega), Bool.false_or] at hc
            obtain ⟨z, hz, hz2⟩ := List.any_eq_true.mp hc
            have h3 := of_decide_eq_true hz2
            have h4 := hp2.1 z hz
            omega
          have e6 : seg (fun y => if inS (q :: ss) y = true then w y else 0) (max q.1 r) q.2 = seg w (max q.1 r) q.2 := seg_congr fun c c1 c2 => if_pos (by
            rw [inS_cons, decide_eq_true (by omega), Bool.true_or])
          rw [e5, e6]
          omega
    rw [e4]
/-- the union's price as a sum over a stretch -/
theorem usum_seg (w : Int → Int) (k : Int) (st : Pl) (d : Int) : ∀ B : Nat, usum w k st d B = seg (fun y => if covd k st d y.toNat = true then w (d + y) else 0) 0 B
  | 0 => rfl
  | B + 1 => by
    have ih := usum_seg w k st d B
    have e : ((B + 1 : Nat) : Int) = (B : Int) + 1 := by omega
    rw [e, seg_snoc _ (by omega), ← ih]
    have e2 : ((B : Int)).toNat = B := by omega
    rw [e2]
    unfold usum ulist
    rw [List.range_succ, List.filter_append, List.map_append, cost_append]
    by_cases h : covd k st d B = true
    · rw [if_pos h, List.filter_cons_of_pos h]
      simp [cost]
    · rw [if_neg h, List.filter_cons_of_neg h]
      simp [cost]
/-- what the law reckons: stretches from 0 on -/
theorem uni_law {w : Int → Int} {k : Int} (hk : 0 < k) {st : Pl} {d : Int} {ss : Sp2} (hp : ss.Pairwise (fun a b => a.1 ≤ b.1)) (hm : ∀ o b, (o, b) ∈ ss ↔ ∃ s ∈ st, o = (s.1 - d) % k ∧ b = o + s.2) {B : Nat} (hB : ∀ s ∈ st, k + s.2 ≤ (B : Int)) :
    uni (fun y => w (d + y)) 0 ss = usum w k st d B := by
  have hB2 : ∀ q ∈ ss, q.2 ≤ (B : Int) := fun q hq => by
    obtain ⟨s, hs, h1, h2⟩ := (hm q.1 q.2).mp hq
    have h3 := hB s hs
    have h4 := Int.emod_lt_of_pos (s.1 - d) hk
    omega
  rw [uni_eq _ B ss 0 hp hB2 (by omega), usum_seg]
  refine seg_congr fun c h1 h2 => ?_
  have e : inS ss c = covd k st d c.toNat := by
    have ec : (c.toNat : Int) = c := by omega
    cases h : covd k st d c.toNat with
    | true =>
      obtain ⟨s, hs, hs2⟩ := List.any_eq_true.mp h
      have h3 := of_decide_eq_true hs2
      exact List.any_eq_true.mpr ⟨((s.1 - d) % k, (s.1 - d) % k + s.2), (hm _ _).mpr ⟨s, hs, rfl, rfl⟩, decide_eq_true (by show (s.1 - d) % k ≤ c ∧ c < (s.1 - d) % k + s.2; omega)⟩
    | false =>
      refine Bool.eq_false_iff.mpr fun h3 => ?_
      obtain ⟨q, hq, hq2⟩ := List.any_eq_true.mp h3
      have h4 := of_decide_eq_true hq2
      obtain ⟨s, hs, h5, h6⟩ := (hm q.1 q.2).mp hq
      have h7 : covd k st d c.toNat = true := List.any_eq_true.mpr ⟨s, hs, decide_eq_true (by omega)⟩
      rw [h] at h7
      cases h7
  rw [e]
/-! ### the program's pieces -/
def pstep (f : Sp2) (q : Int × Int) : Sp2 := match f.getLast? with
  | some z => if q.1 ≤ z.2 then f.dropLast ++ [(z.1, max q.2 z.2)] else f ++ [q]
  | none => [q]
def ptot (w : Int → Int) (f : Sp2) : Int := (f.map fun z => seg w z.1 z.2).sum
theorem ptot_snoc (w : Int → Int) (f : Sp2) (z : Int × Int) : ptot w (f ++ [z]) = ptot w f + seg w z.1 z.2 := by
  unfold ptot
  rw [List.map_append, List.sum_append]
  simp
theorem pieces_tot (w : Int → Int) : ∀ (ss : Sp2) (f : Sp2) (r : Int), ss.Pairwise (fun a b => a.1 ≤ b.1) → (∀ q ∈ ss, q.1 ≤ q.2) →
    ((f = [] ∧ ∀ q ∈ ss, r ≤ q.1) ∨ ∃ g z, f = g ++ [z] ∧ z.1 ≤ z.2 ∧ z.2 = r ∧ ∀ q ∈ ss, z.1 ≤ q.1) → ptot w (ss.foldl pstep f) = ptot w f + uni w r ss
  | [], f, r, _, _, _ => by
    show ptot w f = ptot w f + 0
    omega
  | q :: ss, f, r, hp, hle, hf => by
    have hp2 := List.pairwise_cons.mp hp
    have hq := hle q (List.mem_cons_self ..)
    have hle2 : ∀ z ∈ ss, z.1 ≤ z.2 := fun z hz => hle z (List.mem_cons_of_mem _ hz)
    show ptot w (ss.foldl pstep (pstep f q)) = ptot w f + (seg w (max q.1 r) q.2 + uni w (max r q.2) ss)
    rcases hf with ⟨rfl, h0⟩ | ⟨g, z, rfl, hz, hr, h0⟩
    · have h1 := h0 q (List.mem_cons_self ..)
      have e : pstep [] q = [] ++ [q] := rfl
      have hm : max r q.2 = q.2 := by omega
      have hm2 : max q.1 r = q.1 := by omega
      rw [e, pieces_tot w ss ([] ++ [q]) q.2 hp2.2 hle2 (.inr ⟨[], q, rfl, hq, rfl, hp2.1⟩), ptot_snoc, hm, hm2]
      omega
    · have h1 := h0 q (List.mem_cons_self ..)
      subst hr
      have e : pstep (g ++ [z]) q = if q.1 ≤ z.2 then g ++ [(z.1, max q.2 z.2)] else g ++ [z] ++ [q] := by
        unfold pstep
        rw [List.getLast?_concat, List.dropLast_concat]
      rw [e]
      by_cases h2 : q.1 ≤ z.2
      · rw [if_pos h2, pieces_tot w ss (g ++ [(z.1, max q.2 z.2)]) (max q.2 z.2) hp2.2 hle2 (.inr ⟨g, _, rfl, by show z.1 ≤ max q.2 z.2; omega, rfl, fun y hy => h0 y (List.mem_cons_of_mem _ hy)⟩), ptot_snoc, ptot_snoc]
        have h3 := seg_add w (a := z.1) (b := z.2) (c := max q.2 z.2) hz (by omega)
        have h4 : seg w z.2 (max q.2 z.2) = seg w (max q.1 z.2) q.2 := by
          have e5 : max q.1 z.2 = z.2 := by omega
          rw [e5]
          by_cases h6 : q.2 ≤ z.2
          · rw [seg_nil w (by omega), seg_nil w h6]
          · have e6 : max q.2 z.2 = q.2 := by omega
            rw [e6]
        have e7 : max q.2 z.2 = max z.2 q.2 := by omega
        show ptot w g + seg w z.1 (max q.2 z.2) + uni w (max q.2 z.2) ss = _
        rw [h3, h4, e7]
        omega
      · rw [if_neg h2, pieces_tot w ss (g ++ [z] ++ [q]) q.2 hp2.2 hle2 (.inr ⟨g ++ [z], q, rfl, hq, rfl, hp2.1⟩), ptot_snoc]
        have e5 : max q.1 z.2 = q.1 := by omega
        have e6 : max z.2 q.2 = q.2 := by omega
        rw [e5, e6]
        omega
/-- what the program reckons: stretches from the door on -/
theorem uni_prog {w : Int → Int} {k : Int} (hk : 0 < k) {st : Pl} {d : Int} {ss : Sp2} (hp : ss.Pairwise (fun a b => a.1 ≤ b.1)) (hm : ∀ o b, (o, b) ∈ ss ↔ ∃ s ∈ st, o = d + (s.1 - d) % k ∧ b = o + s.2) {B : Nat} (hB : ∀ s ∈ st, k + s.2 ≤ (B : Int)) :
    ptot w (ss.foldl pstep []) = usum w k st d B := by
  have h0 : ∀ q ∈ ss, d ≤ q.1 ∧ q.1 ≤ q.2 ∧ q.2 ≤ d + B := fun q hq => by
    obtain ⟨s, hs, h1, h2⟩ := (hm q.1 q.2).mp hq
    have h3 := hB s hs
    have h4 := Int.emod_lt_of_pos (s.1 - d) hk
    have h5 := Int.emod_nonneg (s.1 - d) (show k ≠ 0 by omega)
    omega
  rw [pieces_tot w ss [] d hp (fun q hq => (h0 q hq).2.1) (.inl ⟨rfl, fun q hq => (h0 q hq).1⟩)]
  rw [uni_eq w (d + B) ss d hp (fun q hq => (h0 q hq).2.2) (by omega), usum_seg]
  have e0 : seg (fun y => if inS ss y = true then w y else 0) d (d + B) = seg (fun y => if inS ss y = true then w y else 0) (d + 0) (d + B) := by rw [Int.add_zero]
  rw [e0, seg_shift]
  show (0 : Int) + _ = _
  rw [Int.zero_add]
  refine seg_congr fun c h1 h2 => ?_
  have e : inS ss (d + c) = covd k st d c.toNat := by
    have ec : (c.toNat : Int) = c := by omega
    cases h : covd k st d c.toNat with
    | true =>
      obtain ⟨s, hs, hs2⟩ := List.any_eq_true.mp h
      have h3 := of_decide_eq_true hs2
      exact List.any_eq_true.mpr ⟨(d + (s.1 - d) % k, d + (s.1 - d) % k + s.2), (hm _ _).mpr ⟨s, hs, rfl, rfl⟩, decide_eq_true (by show d + (s.1 - d) % k ≤ d + c ∧ d + c < d + (s.1 - d) % k + s.2; omega)⟩
    | false =>
      refine Bool.eq_false_iff.mpr fun h3 => ?_
      obtain ⟨q, hq, hq2⟩ := List.any_eq_true.mp h3
      have h4 := of_decide_eq_true hq2
      obtain ⟨s, hs, h5, h6⟩ := (hm q.1 q.2).mp hq
      have h7 : covd k st d c.toNat = true := List.any_eq_true.mpr ⟨s, hs, decide_eq_true (by omega)⟩
      rw [h] at h7
      cases h7
  rw [e]
end Lay

namespace Lay
/-! ### fronts as numbers -/
abbrev Ls := List (List Int)
def prodL : Ls → Nat
  | [] => 1
  | l :: ls => (l.length + 1) * prodL ls
def frontL : Ls → Nat → List Nat
  | [], _ => []
  | l :: ls, c => c % (l.length + 1) :: frontL ls (c / (l.length + 1))
def restsL : Ls → Nat → Ls
  | [], _ => []
  | l :: ls, c => l.drop (c % (l.length + 1)) :: restsL ls (c / (l.length + 1))
def due (l : List Int) (f : Nat) (b : Int) : Bool := decide (l[f]? = some b)
def bumpL (b : Int) : Ls → Nat → Nat → Nat
  | [], _, _ => 0
  | l :: ls, c, s => (if due l (c % (l.length + 1)) b = true then s else 0) + bumpL b ls (c / (l.length + 1)) (s * (l.length + 1))
theorem prodL_pos : ∀ ls : Ls, 0 < prodL ls
  | [] => Nat.one_pos
  | l :: ls => Nat.mul_pos (Nat.succ_pos _) (prodL_pos ls)
theorem frontL_length : ∀ (ls : Ls) (c : Nat), (frontL ls c).length = ls.length
  | [], _ => rfl
  | l :: ls, c => by
    show (frontL ls _).length + 1 = ls.length + 1
    rw [frontL_length ls]
theorem bumpL_scale (b : Int) : ∀ (ls : Ls) (c s : Nat), bumpL b ls c s = s * bumpL b ls c 1
  | [], _, _ => rfl
  | l :: ls, c, s => by
    unfold bumpL
    rw [bumpL_scale b ls (c / (l.length + 1)) (s * (l.length + 1)), bumpL_scale b ls (c / (l.length + 1)) (1 * (l.length + 1)), Nat.one_mul, Nat.mul_assoc]
    generalize (l.length + 1) * bumpL b ls (c / (l.length + 1)) 1 = R
    rw [Nat.mul_add]
    congr 1
    by_cases h : due l (c % (l.length + 1)) b = true
    · rw [if_pos h, if_pos h, Nat.mul_one]
    · rw [if_neg h, if_neg h, Nat.mul_zero]
theorem drop_adv (l : List Int) (f : Nat) (b : Int) : adv b (l.drop f) = l.drop (f + if due l f b = true then 1 else 0) := by
  by_cases h : f < l.length
  · rw [List.drop_eq_getElem_cons h, adv_cons]
    by_cases e : l[f] = b
    · have hd : due l f b = true := decide_eq_true (by rw [List.getElem?_eq_getElem h, e])
      rw [if_pos e, if_pos hd]
    · have hd : ¬ due l f b = true := fun q => e (by
        have q2 : l[f]? = some b := of_decide_eq_true q
        rw [List.getElem?_eq_getElem h] at q2
        exact Option.some.inj q2)
      rw [if_neg e, if_neg hd, ← List.drop_eq_getElem_cons h]
      rfl
  · have hd : ¬ due l f b = true := fun q => by
      have q2 : l[f]? = some b := of_decide_eq_true q
      rw [List.getElem?_eq_none (by omega)] at q2
      cases q2
    rw [if_neg hd, Nat.add_zero, List.drop_eq_nil_of_le (by omega)]
    rfl
theorem due_lt {l : List Int} {f : Nat} {b : Int} (h : due l f b = true) : f < l.length := by
  have q2 : l[f]? = some b := of_decide_eq_true h
  exact (List.getElem?_eq_some_iff.mp q2).1
theorem bump_digit (l : List Int) (c R : Nat) (b : Int) : (c + ((if due l (c % (l.length + 1)) b = true then 1 else 0) + (l.length + 1) * R)) % (l.length + 1) = c % (l.length + 1) + (if due l (c % (l.length + 1)) b = true then 1 else 0) ∧
    (c + ((if due l (c % (l.length + 1)) b = true then 1 else 0) + (l.length + 1) * R)) / (l.length + 1) = c / (l.length + 1) + R := by
  have hz : 0 < l.length + 1 := Nat.succ_pos _
  have hlt := Nat.mod_lt c hz
  have hdm := Nat.div_add_mod c (l.length + 1)
  have hb : c % (l.length + 1) + (if due l (c % (l.length + 1)) b = true then 1 else 0) < l.length + 1 := by
    by_cases h : due l (c % (l.length + 1)) b = true
    · rw [if_pos h]
      have := due_lt h
      omega
    · rw [if_neg h]
      omega
  generalize hi : (if due l (c % (l.length + 1)) b = true then 1 else 0 : Nat) = i at hb ⊢
  generalize hq : c % (l.length + 1) = m at *
  generalize hp : c / (l.length + 1) = q at *
  have e : c + (i + (l.length + 1) * R) = (m + i) + (l.length + 1) * (q + R) := by
    rw [← hdm, Nat.mul_add]
    omega
  rw [e, Nat.add_mul_mod_self_left, Nat.mod_eq_of_lt hb, Nat.add_mul_div_left _ _ hz, Nat.div_eq_of_lt hb]
  exact ⟨rfl, by omega⟩
theorem rests_bump (b : Int) : ∀ (ls : Ls) (c : Nat), restsL ls (c + bumpL b ls c 1) = (restsL ls c).map (adv b)
  | [], _ => rfl
  | l :: ls, c => by
    show l.drop ((c + bumpL b (l :: ls) c 1) % (l.length + 1)) :: restsL ls ((c + bumpL b (l :: ls) c 1) / (l.length + 1)) = adv b (l.drop (c % (l.length + 1))) :: (restsL ls (c / (l.length + 1))).map (adv b)
    have e : bumpL b (l :: ls) c 1 = (if due l (c % (l.length + 1)) b = true then 1 else 0) + (l.length + 1) * bumpL b ls (c / (l.length + 1)) 1 := by
      show _ + bumpL b ls (c / (l.length + 1)) (1 * (l.length + 1)) = _
      rw [bumpL_scale b ls _ (1 * (l.length + 1)), Nat.one_mul]
    obtain ⟨h1, h2⟩ := bump_digit l c (bumpL b ls (c / (l.length + 1)) 1) b
    rw [e, h1, h2, rests_bump b ls, drop_adv]
theorem bump_lt (b : Int) : ∀ (ls : Ls) (c : Nat), c < prodL ls → c + bumpL b ls c 1 < prodL ls
  | [], c, h => h
  | l :: ls, c, h => by
    have hz : 0 < l.length + 1 := Nat.succ_pos _
    have e : bumpL b (l :: ls) c 1 = (if due l (c % (l.length + 1)) b = true then 1 else 0) + (l.length + 1) * bumpL b ls (c / (l.length + 1)) 1 := by
      show _ + bumpL b ls (c / (l.length + 1)) (1 * (l.length + 1)) = _
      rw [bumpL_scale b ls _ (1 * (l.length + 1)), Nat.one_mul]
    obtain ⟨h1, h2⟩ := bump_digit l c (bumpL b ls (c / (l.length + 1)) 1) b
    rw [← e] at h2
    have h3 : c / (l.length + 1) < prodL ls := Nat.div_lt_of_lt_mul h
    have h4 := bump_lt b ls _ h3
    rw [← h2] at h4
    have h5 := (Nat.div_lt_iff_lt_mul hz).mp h4
    show c + bumpL b (l :: ls) c 1 < (l.length + 1) * prodL ls
    rw [Nat.mul_comm]
    exact h5
/-- a row's digit -/
theorem front_get : ∀ (ls : Ls) (c j : Nat) (l : List Int), ls[j]? = some l → ∃ f, (frontL ls c)[j]? = some f ∧ f ≤ l.length ∧ (restsL ls c)[j]? = some (l.drop f)
  | [], _, _, _, h => by simp at h
  | l :: ls, c, 0, m, h => by
    obtain rfl : l = m := Option.some.inj h
    exact ⟨_, rfl, Nat.le_of_lt_succ (Nat.mod_lt c (Nat.succ_pos _)), rfl⟩
  | l :: ls, c, j + 1, m, h => front_get ls (c / (l.length + 1)) j m h
theorem rests_length : ∀ (ls : Ls) (c : Nat), (restsL ls c).length = ls.length
  | [], _ => rfl
  | l :: ls, c => by
    show (restsL ls _).length + 1 = ls.length + 1
    rw [rests_length ls]
theorem rests_last : ∀ (ls : Ls), ∀ r ∈ restsL ls (prodL ls - 1), r = []
  | [], r, h => by cases h
  | l :: ls, r, h => by
    have hp := prodL_pos ls
    have hz : 0 < l.length + 1 := Nat.succ_pos _
    obtain ⟨m, hm⟩ : ∃ m, prodL ls = m + 1 := ⟨prodL ls - 1, by omega⟩
    have e : prodL (l :: ls) - 1 = l.length + (l.length + 1) * m := by
      show (l.length + 1) * prodL ls - 1 = _
      rw [hm, Nat.mul_add]
      omega
    have h1 : (l.length + (l.length + 1) * m) % (l.length + 1) = l.length := by
      rw [Nat.add_mul_mod_self_left, Nat.mod_eq_of_lt (Nat.lt_succ_self _)]
    have h2 : (l.length + (l.length + 1) * m) / (l.length + 1) = m := by
      rw [Nat.add_mul_div_left _ _ hz, Nat.div_eq_of_lt (Nat.lt_succ_self _), Nat.zero_add]
    rw [e] at h
    have h3 : r ∈ l.drop ((l.length + (l.length + 1) * m) % (l.length + 1)) :: restsL ls ((l.length + (l.length + 1) * m) / (l.length + 1)) := h
    rw [h1, h2] at h3
    rcases List.mem_cons.mp h3 with e2 | e2
    · rw [e2, List.drop_length]
    · have e3 : m = prodL ls - 1 := by omega
      rw [e3] at e2
      exact rests_last ls r e2
theorem rests_due : ∀ (ls : Ls) (c : Nat), c + 1 < prodL ls → ∃ r ∈ restsL ls c, r ≠ []
  | [], c, h => by
    have h2 : c + 1 < 1 := h
    omega
  | l :: ls, c, h => by
    have hz : 0 < l.length + 1 := Nat.succ_pos _
    by_cases h1 : c % (l.length + 1) < l.length
    · refine ⟨l.drop (c % (l.length + 1)), List.mem_cons_self .., fun e => ?_⟩
      have := List.drop_eq_nil_iff.mp e
      omega
    · have hlt := Nat.mod_lt c hz
      have hdm := Nat.div_add_mod c (l.length + 1)
      have h2 : c % (l.length + 1) = l.length := by omega
      have h3 : c / (l.length + 1) + 1 < prodL ls := by
        have h4 : (l.length + 1) * (c / (l.length + 1) + 1) < (l.length + 1) * prodL ls := by
          have h5 : c + 1 < (l.length + 1) * prodL ls := h
          rw [Nat.mul_add]
          omega
        exact Nat.lt_of_mul_lt_mul_left h4
      obtain ⟨r, hr, hne⟩ := rests_due ls _ h3
      exact ⟨r, List.mem_cons_of_mem _ hr, hne⟩
theorem rests_zero : ∀ ls : Ls, restsL ls 0 = ls
  | [] => rfl
  | l :: ls => by
    show l.drop (0 % (l.length + 1)) :: restsL ls (0 / (l.length + 1)) = l :: ls
    rw [Nat.zero_mod, Nat.zero_div, rests_zero ls]
    rfl
theorem front_le : ∀ (ls : Ls) (c : Nat), ∀ (j f : Nat) (l : List Int), (frontL ls c)[j]? = some f → ls[j]? = some l → f ≤ l.length := fun ls c j f l h1 h2 => by
  obtain ⟨g, h3, h4, _⟩ := front_get ls c j l h2
  rw [h1] at h3
  rw [Option.some.inj h3]
  exact h4
end Lay

/-! Short words over the layer: a def's promise together with its binding. -/
namespace Fw
open PySem PySem.Spec PyProof.Rows L2
/-- the def at f keeps sp; dvs: its defaults' values -/
structure Good (P : Program) (w : World) (K : PySem.W.Frag) (mg : Str → Option Value) (base : Heap) (k : Nat) (f : Addr) (ps : List Str) (dvs : List V) (sp : Sp) : Prop where
  ex : ∃ fd ds, FnOk P w K mg base CX0 k f fd ps sp ∧ Binds K fd ps ds ∧ Vals dvs ds
  kp : PySem.W.keepIn K (.ref f) = true
section
variable {P : Program} {w : World} {K : PySem.W.Frag} {mg : Str → Option Value} {base : Heap} {k : Nat} {f : Addr} {N ps : List Str} {sp : Sp} {x q : Str} {pa : Arguments} {bd : List Stmt} {sc : Scope}
theorem good_of (hF : ∃ fd, FunD K x q pa bd sc [] [] f fd) (S : FnScope N ps sc) (len : ∀ vs H Q E, sp vs H Q E → vs.length = ps.length)
    (hb : ∀ (kV doc pm : Value) (an : Option Addr) (cdv ct : Value) (us : List Value), us.length = ps.length → bindArgs (PySem.W.fnOf x q pa bd sc .none kV doc pm an cdv ct) ⟨us, []⟩ = pure (ps.zip us))
    (hbody : ∀ (cdv : Value) (A : Around) (outer : List Env) (s : Shared) (H : Hp) (vs : List V) (Q : VK) (E : XK), Room k (A.deeper (envOfC q sc s.heap.objs.size f cdv)) → sp vs H Q E →
      ∃ t, PSs (cxOf CX0 P w K mg base N q sc f cdv A outer s H E).nox bd t ∧ t { nx := fun _ H2 => Q .non H2, rt := Q } (start N vs) H) : Good P w K mg base (k + 1) f ps [] sp := by
  obtain ⟨fd, F⟩ := hF
  refine ⟨⟨fd, [], F.ok S len fun cdv A outer s H vs Q E hr h => ?_, F.bindsN hb, .nil⟩, F.kp⟩
  obtain ⟨t, h1, h2⟩ := hbody cdv A outer s H vs Q E hr h
  exact ⟨t, h1.nox, h2⟩
/-- the same with keyword-only defaults -/
theorem good_kw {kws : List (Str × V)} {n : Nat} (hF : ∃ fd, FunD K x q pa bd sc [] kws f fd) (S : FnScope N ps sc) (len : ∀ vs H Q E, sp vs H Q E → vs.length = ps.length) (hk : kws ≠ []) (hn : n + kws.length = ps.length)
    (hb : ∀ (D : Addr) (doc pm : Value) (an : Option Addr) (cdv ct : Value) (us ks : List Value), us.length = n → ks.length = kws.length →
      KwChain D ((kws.map (·.1)).zip ks) (bindArgs (PySem.W.fnOf x q pa bd sc .none (.ref D) doc pm an cdv ct) ⟨us, []⟩) (ps.zip (us ++ ks)))
    (hbody : ∀ (cdv : Value) (A : Around) (outer : List Env) (s : Shared) (H : Hp) (vs : List V) (Q : VK) (E : XK), Room k (A.deeper (envOfC q sc s.heap.objs.size f cdv)) → sp vs H Q E →
      ∃ t, PSs (cxOf CX0 P w K mg base N q sc f cdv A outer s H E).nox bd t ∧ t { nx := fun _ H2 => Q .non H2, rt := Q } (start N vs) H) : Good P w K mg base (k + 1) f ps (kws.map (·.2)) sp := by
  obtain ⟨fd, F⟩ := hF
  obtain ⟨ds, hd, hB⟩ := F.binds0 n hk hn hb
  refine ⟨⟨fd, ds, F.ok S len fun cdv A outer s H vs Q E hr h => ?_, hB, hd⟩, F.kp⟩
  obtain ⟨t, h1, h2⟩ := hbody cdv A outer s H vs Q E hr h
  exact ⟨t, h1.nox, h2⟩
end
section
variable {X : Cx} {k : Nat} {f C : Addr} {ps : List Str} {dvs : List V} {sp : Sp} {x m : Str} {p pos apos : Pos} {e o : Expr} {es : List Expr} {t : TA} {ta : TE}
theorem pe_cg (G : Good X.prog X.w X.K X.mg X.base k f ps dvs sp) (hr : Room k X.A) (hg : Gl X x) (hm : X.mg x = some (.ref f)) (ha : PA X (e :: es) t) (hdb : (x == ("__debug__" : Str)) = false := by decide)
    (he : starEach (e :: es) X.env = (false, eval e X.env) :: starEach es X.env := by rfl) (hpl : (backTo pos (starEach es X.env)).any (·.1) = false := by rfl) : PE X (.Call (.Name x p) (e :: es) [] pos) (tCall sp dvs E0 t) := by
  obtain ⟨fd, ds, F, b, d⟩ := G.ex
  exact pe_call F hr hg hm G.kp b d pass0 ha hdb he hpl
theorem pe_mkg (M : Mk X.K C f) (G : Good X.prog X.w X.K X.mg X.base k f ps dvs sp) (hr : Room (k + 1) X.A) (hg : Gl X x) (hm : X.mg x = some (.ref C)) (ha : PA X (e :: es) t) (hdb : (x == ("__debug__" : Str)) = false := by decide)
    (he : starEach (e :: es) X.env = (false, eval e X.env) :: starEach es X.env := by rfl) (hpl : (backTo pos (starEach es X.env)).any (·.1) = false := by rfl) : PE X (.Call (.Name x p) (e :: es) [] pos) (tMake C sp dvs E0 t) := by
  obtain ⟨fd, ds, F, b, d⟩ := G.ex
  exact pe_make M F hr hg hm b d pass0 ha hdb he hpl
theorem pe_mtg0 {pl : Sem Bool} (ho : PE X o ta) (c : Cls X.K C) (hm : Meth X.K C m f) (G : Good X.prog X.w X.K X.mg X.base k f ps dvs sp) (hr : Room k X.A)
    (ht : eval (.Call (.Attribute o m apos) [] [] pos) X.env = (do
      let ov ← eval o X.env
      standAt apos.atName
      let (g, first) ← holding [ov] (getMethod ov m pl)
      callWith pos g first (backTo pos (starEach [] X.env)) (backToKw pos (keywordEach [] X.env))) := by rfl) : PE X (.Call (.Attribute o m apos) [] [] pos) (tMeth C m sp dvs E0 ta tNil) := by
  obtain ⟨fd, ds, F, b, d⟩ := G.ex
  exact pe_meth0 ho c hm F hr b d pass0 ht
theorem pe_mtg {pl : Sem Bool} (ho : PE X o ta) (c : Cls X.K C) (hm : Meth X.K C m f) (G : Good X.prog X.w X.K X.mg X.base k f ps dvs sp) (hr : Room k X.A) (ha : PA X (e :: es) t)
    (hst : starEach (e :: es) X.env = (false, eval e X.env) :: starEach es X.env := by rfl) (hpl : (backTo pos (starEach es X.env)).any (·.1) = false := by rfl)
    (ht : eval (.Call (.Attribute o m apos) (e :: es) [] pos) X.env = (do
      let ov ← eval o X.env
      standAt apos.atName
      let (g, first) ← holding [ov] (getMethod ov m pl)
      callWith pos g first (backTo pos (starEach (e :: es) X.env)) (backToKw pos (keywordEach [] X.env))) := by rfl) : PE X (.Call (.Attribute o m apos) (e :: es) [] pos) (tMeth C m sp dvs E0 ta t) := by
  obtain ⟨fd, ds, F, b, d⟩ := G.ex
  exact pe_meth ho c hm F hr b d pass0 ha hst hpl ht
end
/-! ### rules with the written part named (within comprehensions) -/
section
variable {X : Cx} {K : PySem.W.Frag}
theorem ix_listE (h : X.K = K) : IxR X (rIxL K) := by subst h; exact ix_list
theorem ix_tupE (h : X.K = K) : IxR X (rIxT K) := by subst h; exact ix_tup
abbrev rLenQ (K : PySem.W.Frag) : List V → Hp → VK → Prop := fun xs H Q => ∃ p ys, xs = [.ref p] ∧ (SqL K H p ys ∨ SqT K H p ys) ∧ Q (.int ys.length) H
theorem call_lenE (h : X.K = K) : CallR X (.builtin "len") (rLenQ K) := by subst h; exact call_len_seq
theorem pe_fldE {e : Expr} {ta : TE} {f : Str} {pos : Pos} (h : X.K = K) (he : PE X e ta) (hb : attributeBase e f X.env (eval e X.env) = eval e X.env) : PE X (.Attribute e f pos) (tFld K ta f) := by
  subst h
  exact pe_fld he hb
theorem pi_listE {tg l : Expr} {tl : TE} (h : X.K = K) (hl : PI X tg l (iList X.K tl)) : PI X tg l (iList K tl) := by
  subst h
  exact hl
end
/-! ### tests whose outcome is known -/
theorem ifF {c A B : Prop} [Decidable c] (h : ¬ c) (b : B) : if decide c = true then A else B := by
  rw [decide_eq_false h]
  exact iteF b
theorem ifT {c A B : Prop} [Decidable c] (h : c) (a : A) : if decide c = true then A else B := by
  rw [decide_eq_true h]
  exact iteT a
theorem ifNF {c A B : Prop} [Decidable c] (h : c) (b : B) : if (!decide c) = true then A else B := by
  rw [decide_eq_true h]
  exact iteF b
theorem ifNT {c A B : Prop} [Decidable c] (h : ¬ c) (a : A) : if (!decide c) = true then A else B := by
  rw [decide_eq_false h]
  exact iteT a
theorem if2 {c A B : Prop} [Decidable c] (h1 : c → A) (h2 : ¬ c → B) : if decide c = true then A else B := by
  by_cases h : c
  · exact ifT h (h1 h)
  · exact ifF h (h2 h)
theorem tnil_go {σ : L2.St} {H : Hp} {R : List V → Hp → Prop} (h : R [] H) : tNil σ H R := h
theorem int_ne {i j : Int} (h : i ≠ j) : ¬ V.int i = V.int j := fun e => h (V.int.inj e)
theorem map_get {ns : List Int} {i : Nat} {x : V} (h : (ns.map V.int)[i]? = some x) : ∃ n, ns[i]? = some n ∧ x = .int n := by
  rw [List.getElem?_map] at h
  cases e : ns[i]? with
  | none =>
    rw [e] at h
    cases h
  | some n =>
    rw [e] at h
    exact ⟨n, rfl, (Option.some.inj h).symm⟩
theorem get_map {ns : List Int} {i : Nat} {n : Int} (h : ns[i]? = some n) : (ns.map V.int)[i]? = some (.int n) := by
  rw [List.getElem?_map, h]
  rfl
/-! ### heaps -/
theorem same_new {H : Hp} {p : Addr} {o : HO} (h : H p = none) : Same H (upd H p o) := fun b u e => by
  rw [upd_ne (ne_of_none e h)]
  exact e
theorem same_mut {H H2 : Hp} {p : Addr} {o : HO} (s : Same H H2) (h : H p = none) : Same H (upd H2 p o) := fun b u e => by
  rw [upd_ne (ne_of_none e h)]
  exact s b u e
theorem same_t {K : PySem.W.Frag} {H H2 : Hp} {a : Addr} {xs : List V} (s : Same H H2) (h : SqT K H a xs) : SqT K H2 a xs := by
  rcases h with (h | ⟨o, h⟩) | h
  · exact .inl (.inl (s _ _ h))
  · exact .inl (.inr ⟨o, s _ _ h⟩)
  · exact .inr h
/-! ### the end: a law over a head by facts, the script's bits told -/
theorem walk_bits {l : PySem.W.OpenLaw} {n k : Nat} {q : Program} {loose : List Str} {XP : (Str → Option Value) → Heap → Prop} {YP : World → Heap → Prop} {d : DefRec} {x : Str}
    (hn : l.most = some n) (hn2 : n ≤ sizeLine) (hdf : d.params.defaults = []) (hr : Room k callerA)
    (F : ∀ (w : World) (mg : Str → Option Value) (fa : Addr) (h : Heap), YP w h → h.Ns mainGlobals mg → mg d.name = some (.ref fa) →
      ∃ (K : PySem.W.Frag) (fd : FuncData) (sp : Sp), K.In h ∧ (∀ (s : Shared) (u : Value), BindsTo s fd ⟨[u], []⟩ [(x, u)]) ∧
        (∀ (H : Hp) (a : Addr) (ns : List Int), ns.length ≤ n → (∀ z ∈ ns, Builtin.Int.intBits z ≤ 1048576) → SqL K H a (ns.map V.int) → sp [.ref a] H (fun v _ => v = .bl true) fun _ _ _ => False) ∧
        ∀ base : Heap, K.In base → base.Ns mainGlobals mg → FnOk l.prog w K mg base CX0 k fa fd [x] sp) :
    PySem.W.WalkO q loose XP YP l.row.toRowW d [] (fun f vs => PySem.call f vs) := by
  refine Att.attach_callB hn hdf fun w s0 s1 mg mb fa o pm cd doc a vs ns G Y ho hd hcd hmg hobj hints hlen hbits hg => ?_
  obtain ⟨K, fd, sp, KX, hb, hsp, hF⟩ := F w mg fa _ Y G.T.g hmg
  exact law_call KX G.T.g G.T.b G.T.builtins G.T.nolimit hg hobj hints (Nat.le_trans hlen hn2) hr hF hb (fun H _ hS => hsp H a ns hlen hbits hS) fun _ _ _ z => z
end Fw

/-! Lists of pairs and of lists, as the heap holds them; sorting of pairs. -/
namespace Fw
open PySem PySem.Spec PyProof.Rows L2 Lay
/-- a list of pairs of whole numbers: the tuples' addresses and what they hold -/
abbrev Zs := List (Addr × Int × Int)
def TL (H : Hp) (zs : Zs) : Prop := ∀ z ∈ zs, H z.1 = some (.tup [.int z.2.1, .int z.2.2])
abbrev refT (zs : Zs) : List V := zs.map fun z => V.ref z.1
/-- a list of lists of whole numbers -/
abbrev Ws := List (Addr × List Int)
def LL (K : PySem.W.Frag) (H : Hp) (zs : Ws) : Prop := ∀ z ∈ zs, SqL K H z.1 (z.2.map V.int)
abbrev refL (zs : Ws) : List V := zs.map fun z => V.ref z.1
theorem TL.same {H H2 : Hp} {zs : Zs} (h : TL H zs) (s : Same H H2) : TL H2 zs := fun z hz => s _ _ (h z hz)
theorem LL.same {K : PySem.W.Frag} {H H2 : Hp} {zs : Ws} (h : LL K H zs) (s : Same H H2) : LL K H2 zs := fun z hz => s.seq (h z hz)
abbrev ilst (ns : List Int) : HO := .lst (ns.map V.int)
abbrev itup (ns : List Int) : HO := .tup (ns.map V.int)
/-- the price of a number on the line -/
def pw (pr : List Int) (c : Int) : Int := pr.getD (c % (pr.length : Int)).toNat 0
/-- the stays as the mathematics has them -/
def stOf (ss : Sp2) : Pl := ss.map fun s => (s.1, s.2.toNat)
def U (pr : List Int) (ss : Sp2) (d : Int) : Int := usum (pw pr) pr.length (stOf ss) d 3000
def sumsL (pr : List Int) : List Int := (List.range (pr.length + 1)).map fun i => (pr.take i).sum

theorem TL.nil {H : Hp} : TL H [] := fun z hz => by cases hz
theorem LL.nil {K : PySem.W.Frag} {H : Hp} : LL K H [] := fun z hz => by cases hz
theorem TL.push {H : Hp} {ys : Zs} {l t : Addr} {xs : List V} {o : HO} {a b : Int} (h : TL H ys) (hl : H l = some (.lst xs)) (nt : H t = none) : TL (upd (upd H t (.tup [.int a, .int b])) l o) (ys ++ [(t, a, b)]) := by
  have nlt : t ≠ l := (ne_of_none hl nt).symm
  intro z hz
  rcases List.mem_append.mp hz with hz | hz
  · have h1 := h z hz
    rw [upd_ne (ne_of h1 hl (fun e => by cases e)), upd_ne (ne_of_none h1 nt)]
    exact h1
  · rw [List.mem_singleton.mp hz]
    show upd (upd H t _) l o t = _
    rw [upd_ne nlt, upd_same]
theorem refT_snoc (ys : Zs) (t : Addr) (a b : Int) : refT ys ++ [V.ref t] = refT (ys ++ [(t, a, b)]) := by
  unfold refT
  rw [List.map_append]
  rfl
theorem refT_get {zs : Zs} {i : Nat} {x : V} (h : (refT zs)[i]? = some x) : ∃ z, zs[i]? = some z ∧ z ∈ zs ∧ x = .ref z.1 := by
  unfold refT at h
  rw [List.getElem?_map] at h
  cases e : zs[i]? with
  | none =>
    rw [e] at h
    cases h
  | some z =>
    rw [e] at h
    exact ⟨z, rfl, List.mem_of_getElem? e, (Option.some.inj h).symm⟩
theorem refL_get {zs : Ws} {i : Nat} {x : V} (h : (refL zs)[i]? = some x) : ∃ z, zs[i]? = some z ∧ z ∈ zs ∧ x = .ref z.1 := by
  unfold refL at h
  rw [List.getElem?_map] at h
  cases e : zs[i]? with
  | none =>
    rw [e] at h
    cases h
  | some z =>
    rw [e] at h
    exact ⟨z, rfl, List.mem_of_getElem? e, (Option.some.inj h).symm⟩
theorem prodL_snoc (ls : Ls) (l : List Int) : prodL (ls ++ [l]) = prodL ls * (l.length + 1) := by
  induction ls with
  | nil =>
    show (l.length + 1) * 1 = 1 * (l.length + 1)
    omega
  | cons x ls ih =>
    show (x.length + 1) * prodL (ls ++ [l]) = (x.length + 1) * prodL ls * (l.length + 1)
    rw [ih, Nat.mul_assoc]
theorem pw_at {pr : List Int} (h : 0 < pr.length) (c : Int) : atI (pr.map V.int) (c % (pr.length : Int)) = some (.int (pw pr c)) := by
  have h1 := Int.emod_nonneg c (show (pr.length : Int) ≠ 0 by omega)
  have h2 := Int.emod_lt_of_pos c (show (0 : Int) < (pr.length : Int) by omega)
  have e : c % (pr.length : Int) = ((c % (pr.length : Int)).toNat : Int) := by omega
  have hlt : (c % (pr.length : Int)).toNat < pr.length := by omega
  have g : (pr.map V.int)[(c % (pr.length : Int)).toNat]? = some (.int (pw pr c)) := by
    rw [List.getElem?_map, List.getElem?_eq_getElem hlt]
    unfold pw
    rw [List.getD_eq_getElem?_getD, List.getElem?_eq_getElem hlt]
    rfl
  rw [e]
  exact atI_nat g
theorem pw_mod (pr : List Int) (c : Int) : pw pr (c % (pr.length : Int)) = pw pr c := by
  unfold pw
  rw [Int.emod_emod]
theorem pw_per (pr : List Int) (c : Int) : pw pr (c + (pr.length : Int)) = pw pr c := by
  unfold pw
  rw [Int.add_emod_right]
theorem pw_nonneg {pr : List Int} (h : ∀ x ∈ pr, 1 ≤ x) (c : Int) : 0 ≤ pw pr c := by
  unfold pw
  rw [List.getD_eq_getElem?_getD]
  cases e : pr[(c % (pr.length : Int)).toNat]? with
  | none => exact Int.le_refl _
  | some x =>
    have := h x (List.mem_of_getElem? e)
    show 0 ≤ x
    omega
theorem stOf_mem {ss : Sp2} (h : ∀ s ∈ ss, 1 ≤ s.2) {P : Int → Int → Prop} : (∃ s ∈ stOf ss, P s.1 s.2) ↔ ∃ s ∈ ss, P s.1 s.2 := by
  constructor
  · rintro ⟨s, hs, hp⟩
    obtain ⟨t, ht, rfl⟩ := List.mem_map.mp hs
    have h1 := h t ht
    have e : ((t.2.toNat : Nat) : Int) = t.2 := by omega
    refine ⟨t, ht, ?_⟩
    have hp2 : P t.1 ((t.2.toNat : Nat) : Int) := hp
    rw [e] at hp2
    exact hp2
  · rintro ⟨t, ht, hp⟩
    have h1 := h t ht
    have e : ((t.2.toNat : Nat) : Int) = t.2 := by omega
    refine ⟨(t.1, t.2.toNat), List.mem_map_of_mem (f := fun s : Int × Int => (s.1, s.2.toNat)) ht, ?_⟩
    show P t.1 ((t.2.toNat : Nat) : Int)
    rw [e]
    exact hp
theorem yes_then {σ : L2.St} {H : Hp} {t e : Hp → Prop} (h : t H) : tYes σ H (fun b H3 => if b = true then t H3 else e H3) := by
  show (if true = true then t H else e H)
  rw [if_pos rfl]
  exact h
theorem max_if (i j : Int) : (if j > i then j else i) = max i j := by
  split <;> omega
theorem mem_le_prod : ∀ {ls : Ls} {l : List Int}, l ∈ ls → l.length + 1 ≤ prodL ls
  | x :: ls, l, h => by
    have hp := prodL_pos ls
    show l.length + 1 ≤ (x.length + 1) * prodL ls
    rcases List.mem_cons.mp h with e | e
    · rw [e]
      exact Nat.le_mul_of_pos_right _ hp
    · have h1 := mem_le_prod e
      exact Nat.le_trans h1 (Nat.le_mul_of_pos_left _ (Nat.succ_pos _))
theorem ixN_nat {n c : Nat} (h : c < n) : ixN n (c : Int) = some c := by
  unfold ixN
  rw [if_pos (by omega), if_pos (by omega)]
  rfl
theorem pw_sym {pr : List Int} {s : Int} (h0 : 0 ≤ s) (h1 : s < (pr.length : Int)) : atI (pr.map V.int) s = some (.int (pw pr s)) := by
  have h := pw_at (pr := pr) (by omega) s
  rw [Int.emod_eq_of_lt h0 h1] at h
  exact h
/-- the front's places from the j-th on are those of the rest -/
def Ahead (ls : Ls) (c j r : Nat) : Prop := ∀ m, (frontL (ls.drop j) r)[m]? = (frontL ls c)[j + m]?
theorem Ahead.zero (ls : Ls) (c : Nat) : Ahead ls c 0 c := fun m => by rw [List.drop_zero, Nat.zero_add]
theorem Ahead.step {ls : Ls} {c j r : Nat} {l : List Int} (h : Ahead ls c j r) (hl : ls[j]? = some l) : (frontL ls c)[j]? = some (r % (l.length + 1)) ∧ Ahead ls c (j + 1) (r / (l.length + 1)) := by
  have e : ls.drop j = l :: ls.drop (j + 1) := by
    have hlt := (List.getElem?_eq_some_iff.mp hl).1
    rw [List.drop_eq_getElem_cons hlt, (List.getElem?_eq_some_iff.mp hl).2]
  unfold Ahead at h
  rw [e] at h
  refine ⟨(h 0).symm, fun m => ?_⟩
  have h1 := h (m + 1)
  rw [Nat.add_assoc, Nat.add_comm 1 m]
  exact h1
theorem bump_pos {b : Int} {q : List Int} : ∀ (ls : Ls) (c s k : Nat), 0 < s → (restsL ls c)[k]? = some (b :: q) → 0 < bumpL b ls c s
  | [], _, _, _, _, h => by simp [restsL] at h
  | l :: ls, c, s, 0, hs, h => by
    have e : l.drop (c % (l.length + 1)) = b :: q := Option.some.inj h
    have hd : due l (c % (l.length + 1)) b = true := decide_eq_true (by
      have h2 := congrArg (fun z => z[0]?) e
      simpa using h2)
    show 0 < (if due l (c % (l.length + 1)) b = true then s else 0) + _
    rw [if_pos hd]
    omega
  | l :: ls, c, s, k + 1, hs, h => by
    have h1 := bump_pos ls (c / (l.length + 1)) (s * (l.length + 1)) k (Nat.mul_pos hs (Nat.succ_pos _)) h
    show 0 < _ + bumpL b ls (c / (l.length + 1)) (s * (l.length + 1))
    omega
theorem drop_at {ls : Ls} {j : Nat} {l : List Int} (h : ls[j]? = some l) : ls.drop j = l :: ls.drop (j + 1) := by
  have hlt := (List.getElem?_eq_some_iff.mp h).1
  rw [List.drop_eq_getElem_cons hlt, (List.getElem?_eq_some_iff.mp h).2]
theorem atI0 {xs : List V} {k : Nat} {v : V} (h : xs[k]? = some v) : atI xs (0 + (k : Int)) = some v := by
  rw [Int.zero_add]
  exact atI_nat h
def nmap (fs : List Nat) : List Int := fs.map fun f : Nat => (f : Int)
theorem nmap_get {fs : List Nat} {k f : Nat} (h : fs[k]? = some f) : ((nmap fs).map V.int)[k]? = some (.int (f : Int)) := by
  unfold nmap
  rw [List.getElem?_map, List.getElem?_map, h]
  rfl
theorem putF_new (f : Str) (v : V) : ∀ fs : List (Str × V), fs.lookup f = none → putF f v fs = fs ++ [(f, v)]
  | [], _ => rfl
  | (g, x) :: r, h => by
    rw [List.lookup_cons] at h
    cases e : (f == g) with
    | true =>
      rw [e] at h
      cases h
    | false =>
      rw [e] at h
      have ne : ¬ g = f := fun z => by
        rw [z, beq_self_eq_true] at e
        cases e
      show (if g = f then (g, v) :: r else (g, x) :: putF f v r) = _
      rw [if_neg ne, putF_new f v r h]
      rfl
/-- all but the object at r is as it was -/
def But (r : Addr) (H H2 : Hp) : Prop := ∀ c o, c ≠ r → H c = some o → H2 c = some o
theorem But.refl {r : Addr} {H : Hp} : But r H H := fun _ _ _ h => h
theorem But.new {r p : Addr} {H H2 : Hp} {o : HO} (h : But r H H2) (np : H2 p = none) : But r H (upd H2 p o) := fun c u n e => same_new np _ _ (h c u n e)
theorem But.own {r : Addr} {H H2 : Hp} {o : HO} (h : But r H H2) : But r H (upd H2 r o) := fun c u n e => by
  rw [upd_ne n]
  exact h c u n e
theorem But.then {r : Addr} {H H2 H3 : Hp} (h : But r H H2) (s : Same H2 H3) : But r H H3 := fun c u n e => s _ _ (h c u n e)
theorem But.seq {K : PySem.W.Frag} {r a C dx : Addr} {H H2 : Hp} {fs : List (Str × V)} {xs : List V} (h : But r H H2) (hr : H r = some (.ins C dx fs)) (hS : SqL K H a xs) : SqL K H2 a xs := by
  rcases hS with (e | ⟨o, e⟩) | e
  · exact .inl (.inl (h a _ (ne_of e hr (fun z => by cases z)) e))
  · exact .inl (.inr ⟨o, h a _ (ne_of e hr (fun z => by cases z)) e⟩)
  · exact .inr e
theorem TL.keep {H : Hp} {zs : Zs} {l : Addr} {xs : List V} {o : HO} (h : TL H zs) (hl : H l = some (.lst xs)) : TL (upd H l o) zs := fun z hz => by
  rw [upd_ne (ne_of (h z hz) hl (fun e => by cases e))]
  exact h z hz
theorem atIe {xs : List V} {i : Int} {k : Nat} {v : V} (h : xs[k]? = some v) (e : i = (k : Int)) : atI xs i = some v := by
  rw [e]
  exact atI_nat h
theorem at_mod {ds : List Int} (h : ds ≠ []) (x : Int) : ∃ d ∈ ds, atI (ds.map V.int) (x % ((ds.map V.int).length : Int)) = some (.int d) := by
  have hl : 0 < ds.length := List.length_pos_iff.mpr h
  rw [List.length_map]
  have h1 := Int.emod_nonneg x (show (ds.length : Int) ≠ 0 by omega)
  have h2 := Int.emod_lt_of_pos x (show (0 : Int) < (ds.length : Int) by omega)
  have hlt : (x % (ds.length : Int)).toNat < ds.length := by omega
  exact ⟨_, List.getElem_mem hlt, atIe (get_map (List.getElem?_eq_getElem hlt)) (by omega)⟩
theorem pstep_snoc (g : Sp2) (z q : Int × Int) : pstep (g ++ [z]) q = if q.1 ≤ z.2 then g ++ [(z.1, max q.2 z.2)] else g ++ [z] ++ [q] := by
  unfold pstep
  rw [List.getLast?_concat, List.dropLast_concat]
theorem perm_back {α β : Type} {f : α → β} {ys xs : List β} (p : ys.Perm xs) : ∀ l : List α, xs = l.map f → ∃ m : List α, m.Perm l ∧ ys = m.map f := by
  induction p with
  | nil => intro l h; exact ⟨l, List.Perm.refl _, h⟩
  | cons x p ih =>
    intro l h
    cases l with
    | nil => cases h
    | cons a l =>
      rw [List.map_cons] at h
      injection h with h1 h2
      obtain ⟨m, hm, e⟩ := ih l h2
      exact ⟨a :: m, hm.cons a, by rw [List.map_cons, ← e, h1]⟩
  | swap x y l0 =>
    intro l h
    cases l with
    | nil => cases h
    | cons a l =>
      cases l with
      | nil => cases h
      | cons b l =>
        rw [List.map_cons, List.map_cons] at h
        injection h with h1 h2
        injection h2 with h2 h3
        exact ⟨b :: a :: l, List.Perm.swap _ _ _, by rw [List.map_cons, List.map_cons, ← h1, ← h2, ← h3]⟩
  | trans _ _ ih1 ih2 =>
    intro l h
    obtain ⟨m, hm, e⟩ := ih2 l h
    obtain ⟨n, hn, e2⟩ := ih1 m e
    exact ⟨n, hn.trans hm, e2⟩
/-- the pair that a value stands for -/
def kOf (H : Hp) (v : V) : Int × Int := match v with
  | .ref t => (match H t with
    | some (.tup [.int a, .int b]) => (a, b)
    | _ => (0, 0))
  | _ => (0, 0)
theorem kOf_ref {H : Hp} {t : Addr} {a b : Int} (h : H t = some (.tup [.int a, .int b])) : kOf H (.ref t) = (a, b) := by
  show (match H t with
    | some (.tup [.int a, .int b]) => (a, b)
    | _ => (0, 0)) = (a, b)
  rw [h]
theorem TL.key {H : Hp} {zs : Zs} (h : TL H zs) {z : Addr × Int × Int} (hz : z ∈ zs) : kOf H (.ref z.1) = z.2 := by
  rw [kOf_ref (h z hz)]
theorem sorted_tl {K : PySem.W.Frag} {H : Hp} {a : Addr} {zs : Zs} {Q : VK} (hS : SqL K H a (refT zs)) (hT : TL H zs)
    (h : ∀ (ys : Zs) (p : Addr), ys.Perm zs → (ys.map (·.2)).Pairwise (fun a b => a.1 < b.1 ∨ a.1 = b.1 ∧ a.2 ≤ b.2) → H p = none → Q (.ref p) (upd H p (.lst (refT ys)))) : rSortedPO K [.ref a] H Q := by
  refine ⟨a, refT zs, kOf H, rfl, hS, fun x hx => ?_, fun ys p srt stb np => ?_⟩
  · obtain ⟨z, hz, rfl⟩ := List.mem_map.mp hx
    refine ⟨z.1, rfl, ?_⟩
    rw [hT.key hz]
    exact hT z hz
  · obtain ⟨m, hm, rfl⟩ := perm_back stb.perm zs rfl
    refine h m p hm ?_ np
    have hT2 : TL H m := fun z hz => hT z (hm.mem_iff.mp hz)
    have s2 := List.pairwise_map.mp srt
    refine List.pairwise_map.mpr ((List.Pairwise.and_mem.mp s2).imp ?_)
    rintro x y ⟨hx, hy, e⟩
    have e2 : ¬ SrtO.lexB (kOf H (.ref y.1)) (kOf H (.ref x.1)) = true := by
      have e3 : SrtO.lexB (kOf H (.ref y.1)) (kOf H (.ref x.1)) = false := e
      rw [e3]
      exact Bool.false_ne_true
    rw [hT2.key hx, hT2.key hy, SrtO.lexB_iff] at e2
    omega
end Fw

namespace Fw
open PySem PySem.Spec PyProof.Rows L2
/-- the law's def, its function object named ahead -/
theorem law_of {P : Program} {w : World} {K : PySem.W.Frag} {mg : Str → Option Value} {base : Heap} {k : Nat} {f : Addr} {N ps : List Str} {sp : Sp} {x q : Str} {pa : Arguments} {bd : List Stmt} {sc : Scope} {fd : FuncData}
    (F : FunD K x q pa bd sc [] [] f fd) (S : FnScope N ps sc) (len : ∀ vs H Q E, sp vs H Q E → vs.length = ps.length)
    (hbody : ∀ (cdv : Value) (A : Around) (outer : List Env) (s : Shared) (H : Hp) (vs : List V) (Q : VK) (E : XK), Room k (A.deeper (envOfC q sc s.heap.objs.size f cdv)) → sp vs H Q E →
      ∃ t, PSs (cxOf CX0 P w K mg base N q sc f cdv A outer s H E).nox bd t ∧ t { nx := fun _ H2 => Q .non H2, rt := Q } (start N vs) H) : FnOk P w K mg base CX0 (k + 1) f fd ps sp := by
  refine F.ok S len fun cdv A outer s H vs Q E hr h => ?_
  obtain ⟨t, h1, h2⟩ := hbody cdv A outer s H vs Q E hr h
  exact ⟨t, h1.nox, h2⟩
end Fw

/-! Three rules that fronts need: a display with one tuple as key, sorted by key=sum from above, min with default=. -/
namespace Fw
open PySem PySem.Spec PyProof.Rows L2
section
variable {X : Cx} {pos p p2 p3 kp1 kp2 : Pos} {k v e : Expr} {tk tv te : TE}
/-- {k: v} with a tuple for a key -/
def tDisp1T (tk tv : TE) : TE := fun σ H Q => ∀ d, H d = none → tk σ (upd H d (.dT [])) fun x H1 => tv σ H1 fun y H2 => H2 d = some (.dT []) ∧
  ∃ b ks, x = .ref b ∧ H2 b = some (.tup (ks.map kV)) ∧ Q (.ref d) (upd H2 d (.dT [(ks, y)]))
theorem pe_disp1T (hu : X.A.units + 1 < cLine) (hk : PE X k tk) (hv : PE X v tv) : PE X (.Dict [some k] [v] pos) (tDisp1T tk tv) := by
  refine ⟨fun pins s σ H Q I q => ?_⟩
  have hn := I.hok.fresh (Nat.le_refl s.heap.objs.size)
  have I1 := I.laid (a := s.heap.objs.size) (o := .dT []) (h' := s.heap.push { cls := .type "dict", data := .dict #[] }) (t' := s.toks) (fun _ _ q => Heap.get?_push_of_some _ q) (Nat.le_refl _) (dt_empty s.heap I.big)
  rw [arm_eval_Dict, zip_pairTrees [some k] [v] X.env pos rfl rfl, dictDisplay_pairs (pairTrees [some k] [v] X.env pos) (by intro h; cases h) (by show 1 < 17; decide)]
  refine wpAny_bind (wpAny_standAt (wpAny_bind (wpAny_subDictH (knd := tupleKind (mixKind X.prog X.w)) (show X.A.units < cLine by omega) (by show 1 ≤ 15; decide) ?_)))
  refine pairTrees_cons_walk (thn (hk.run pins _ σ _ _ I1 (q _ hn)) fun u s1 ⟨x, H1, I2, rx, q1⟩ => thn (hv.run pins s1 σ H1 _ I2 q1) fun u2 s2 ⟨y, H2, I3, ry, e, b, ks, ex, eb, q2⟩ => ?_)
  refine pairTrees_nil_walk ?_
  subst ex
  obtain rfl : u = Value.ref b := rx
  obtain ⟨z, hd, xs, rel, dd⟩ := dt_of I3.hok e
  cases rel
  refine ⟨[(ks, b, u2)], ⟨rfl, rfl, key_of I3.hok eb, True.intro⟩, dd, fun h' tk2 dd' hs => wpAny_pure ⟨.ref s.heap.objs.size, _, ?_, rfl, q2⟩⟩
  obtain ⟨o, es, ep, hq, h2, h3, h4, _, h5⟩ := dd'
  have ne : b ≠ s.heap.objs.size := ne_of eb e (fun z => nomatch z)
  refine d_write I3 (by rw [e]; exact True.intro) hs ⟨o, hq⟩ ⟨by show 1 ≤ sizeLine; decide, hd, _, .cons ⟨rfl, ?_, ry⟩ .nil, o, es, ep, hq, h2, h3, h4, h5⟩
  show upd H2 _ _ b = _
  rw [upd_ne ne]
  exact eb
end
section
variable {P : Program} {w : World} {A : Around} {E : Value → Shared → Prop} {s : Shared}
theorem sum_tup {t : Addr} {vs : List Value} {ns : List Int} {Q : Value → Shared → Prop} (hh : A.handled = none) (hl : s.heap.IsTuple t vs.toArray) (hi : IntsAre vs ns)
    (h : ∀ h' tk t', (∀ b o, s.heap.get? b = some o → h'.get? b = some o) → Q (.int ns.sum t') { s with heap := h', toks := tk }) : wpAny (model P w) A (call (.builtin "sum") [.ref t]) Q E s := by
  obtain ⟨xs, hx⟩ := hi.allInts.items
  have hn : numsOf vs.toArray.toList = ns := by rw [show vs.toArray.toList = vs from rfl, hi.numsOf]
  rw [hx] at hl hn
  rw [nums_intItems] at hn
  refine PySem.W.ktm_sumG hh hl fun h' tk t' hk => ?_
  have := h h' tk t' hk
  rw [preSum_eq, List.take_of_length_le (by simp), hn]
  exact this
end
section
variable {X : Cx} {pos p p2 p3 kp1 kp2 : Pos} {j : Nat} {e : Expr} {t : TA}
/-- sorted(xs, key=sum, reverse=True), xs a list of tuples of whole numbers -/
def rSortSum (K : PySem.W.Frag) : List V → Hp → VK → Prop := fun vs H Q => ∃ (a : Addr) (fs : List (Addr × List Int)), vs = [.ref a] ∧ SqL K H a (fs.map fun f => V.ref f.1) ∧ (∀ f ∈ fs, H f.1 = some (.tup (f.2.map V.int))) ∧
  ∀ (gs : List (Addr × List Int)) (p : Addr), gs.Perm fs → gs.Pairwise (fun f g => g.2.sum ≤ f.2.sum) → H p = none → Q (.ref p) (upd H p (.lst (gs.map fun f => V.ref f.1)))
def tSortSum (K : PySem.W.Frag) (t : TA) : TE := fun σ H Q => t σ H fun vs H1 => rSortSum K vs H1 Q
theorem refs_eq : ∀ (fs : List (Addr × List Int)) (us : List Value), Vals (fs.map fun f => V.ref f.1) us → us = fs.map fun f => Value.ref f.1
  | [], _, r => by
    cases r
    rfl
  | f :: fs, _, r => by
    cases r with
    | cons h t =>
      rw [refs_eq fs _ t]
      cases h
      rfl
theorem vals_refs : ∀ (fs : List (Addr × List Int)), Vals (fs.map fun f => V.ref f.1) (fs.map fun f => Value.ref f.1)
  | [] => .nil
  | f :: fs => .cons rfl (vals_refs fs)
theorem each_refs {R : Value → (Addr × List Int) → Prop} : ∀ (fs : List (Addr × List Int)), (∀ f ∈ fs, R (.ref f.1) f) → PySem.W.EachIs R (fs.map fun f => Value.ref f.1) fs
  | [], _ => .nil
  | f :: fs, h => .cons (h f (List.mem_cons_self ..)) (each_refs fs fun g hg => h g (List.mem_cons_of_mem _ hg))
theorem each_eq {R : Value → (Addr × List Int) → Prop} (hR : ∀ v f, R v f → v = .ref f.1) {out : List Value} {gs : List (Addr × List Int)} (h : PySem.W.EachIs R out gs) : out = gs.map fun f => Value.ref f.1 := by
  induction h with
  | nil => rfl
  | cons h t ih =>
    rw [List.map_cons, ← ih, hR _ _ h]
theorem pe_sortSum (hc : X.calm = true) (hu : X.A.units + 64 < cLine) (hg : Gl X "sorted") (hm : X.mg "sorted" = none) (hg2 : Gl X "sum") (hm2 : X.mg "sum" = none) (ha : PA X [e] t)
    (hst : backTo pos (starEach [e] X.env) = (false, eval e X.env) :: backTo pos (starEach [] X.env) := by rfl) (hpl : (backTo pos (starEach [e] X.env)).any (·.1) = false := by rfl) :
    PE X (.Call (.Name "sorted" p) [e] [⟨some "key", .Name "sum" p2, kp1⟩, ⟨some "reverse", .Constant (.bool true) j p3, kp2⟩] pos) (tSortSum X.K t) := by
  refine ⟨fun pins s σ H Q I h => ?_⟩
  have hv1 : bootBuiltins ("sorted" : Str) = some (.builtin "sorted") := by decide +kernel
  have hv2 : bootBuiltins ("sum" : Str) = some (.builtin "sum") := by decide +kernel
  refine wpAny_Call_Name_kw (ld_blt I hg hm hv1 ?_)
  refine PyProof.Rows.callWith_kw (thn (ha.run pos pins s σ H _ I h) fun us s1 ⟨vs, H1, I1, r1, q1⟩ => ?_) hst hpl rfl rfl
  show wpAny _ _ (evalAll ((do let v ← eval (.Name "sum" p2) X.env; standAt pos; pure v) :: (do let v ← eval (.Constant (.bool true) j p3) X.env; standAt pos; pure v) :: [])) _ _ s1
  refine wpAny_evalAll_cons (wpAny_bind (ld_blt I1 hg2 hm2 hv2 (wpAny_bind (wpAny_standAt (wpAny_pure ?_)))))
  refine wpAny_evalAll_cons (wpAny_bind (Constant_bool (wpAny_bind (wpAny_standAt (wpAny_pure ?_)))))
  refine wpAny_evalAll_nil ?_
  obtain ⟨a, fs, rfl, hS, hF, q⟩ := q1
  obtain rfl := Vals.ref1 r1
  obtain ⟨its, rv, hl, hz⟩ := I1.list hS
  obtain rfl := refs_eq fs its rv
  rw [List.length_map] at hz
  show wpAny _ _ (call (.builtin "sorted") [.ref a] [(Str.ofString "key", .builtin "sum"), (Str.ofString "reverse", .bool true)]) _ _ s1
  have hA : X.A.in1.in1.handled = none := (I1.ok.hd hc)
  refine PySem.W.sorted_key_data (β := Addr × List Int) (R := fun v f => v = .ref f.1 ∧ f ∈ fs) (b := true) (fun f => .int f.2.sum) hl.isList (each_refs fs fun f hf => ⟨rfl, hf⟩) ?al ?so hz ?hu (PyProof.Rows.ksk_s2 _ _ _) (fun _ => PyProof.Rows.ksk_l2 _ _ _) (fun x => PyProof.Rows.ksk_t5 "sum" x true) ?turn ?out
  case al =>
    intro d hd d2 hd2
    obtain ⟨f, _, rfl⟩ := List.mem_map.mp hd
    obtain ⟨g, _, rfl⟩ := List.mem_map.mp hd2
    rfl
  case so =>
    refine .inr fun d hd => (?_ : d ≠ PyData.none ∧ ∀ xs, d ≠ PyData.tuple xs)
    obtain ⟨f, _, rfl⟩ := List.mem_map.mp hd
    exact ⟨fun e => PyData.noConfusion e, fun xs e => PyData.noConfusion e⟩
  case hu =>
    intro f _
    show X.A.units + 2 + 0 < cLine
    omega
  case turn =>
    rintro v f ⟨rfl, hf⟩ hf2 h tk kp
    obtain ⟨_, its, rt, ht⟩ := (show ObjOk X.prog X.w H1 s1.heap f.1 (.tup (f.2.map V.int)) from I1.hok _ _ (hF f hf))
    refine sum_tup (s := { s1 with heap := h, toks := tk }) (vs := its) (ns := f.2) hA (IsTup.keeps ht kp) (ints_of_vals rt) fun h' tk2 t' k2 => ⟨h', tk2, rfl, k2, .int _ _⟩
  case out =>
    intro out c h' tk kp fr ho hlen hE
    obtain rfl := each_eq (fun v f h => h.1) hE
    refine ⟨.ref (s1.heap.objs.size + 1), upd H1 (s1.heap.objs.size + 1) (.lst ((fs.mergeSort (PySem.W.dataLe true fun f => .int f.2.sum)).map fun f => V.ref f.1)), I1.laid (t' := tk) kp (Nat.le_succ _) ⟨?_, _, c, vals_refs _, ho⟩, rfl, ?_⟩
    · rw [List.length_map, (List.mergeSort_perm fs _).length_eq]
      exact hz
    · refine q _ _ (List.mergeSort_perm fs _) ?_ (I1.hok.fresh (Nat.le_succ _))
      rw [PySem.W.dataGe_int]
      have := List.pairwise_mergeSort (le := fun (a b : Addr × List Int) => decide (b.2.sum ≤ a.2.sum)) (fun a b c h1 h2 => by
        have := of_decide_eq_true h1
        have := of_decide_eq_true h2
        exact decide_eq_true (by omega)) (fun a b => by
        by_cases h : b.2.sum ≤ a.2.sum
        · rw [decide_eq_true h]
          rfl
        · rw [decide_eq_true (show a.2.sum ≤ b.2.sum by omega), Bool.or_true]) fs
      exact this.imp fun h => of_decide_eq_true h
end
/-! min(xs, default=d) of whole numbers -/
theorem reads_all {h : Heap} : ∀ {ns : List Int} {us : List Value}, Vals (ns.map V.int) us → ReadsAll h us (ns.map PyData.int) []
  | [], _, r => by
    cases r
    exact .nil
  | n :: ns, _, r => by
    cases r with
    | cons h t =>
      obtain ⟨t', rfl⟩ := h
      exact ReadsAll.cons (as := []) (bs := []) (.int n t') (reads_all t)
theorem fold_min : ∀ (ns : List Int) (n : Int), ns.foldl min n ∈ n :: ns ∧ ∀ y ∈ n :: ns, ns.foldl min n ≤ y
  | [], n => ⟨List.mem_cons_self .., fun y hy => by
    rw [List.mem_singleton.mp hy]
    exact Int.le_refl _⟩
  | k :: ns, n => by
    obtain ⟨h1, h2⟩ := fold_min ns (min n k)
    have hm : min n k = n ∨ min n k = k := by omega
    have hle := h2 _ (List.mem_cons_self ..)
    refine ⟨?_, fun y hy => ?_⟩
    · show ns.foldl min (min n k) ∈ _
      rcases List.mem_cons.mp h1 with e | e
      · rw [e]
        rcases hm with e2 | e2
        · rw [e2]
          exact List.mem_cons_self ..
        · rw [e2]
          exact List.mem_cons_of_mem _ (List.mem_cons_self ..)
      · exact List.mem_cons_of_mem _ (List.mem_cons_of_mem _ e)
    · show ns.foldl min (min n k) ≤ y
      rcases List.mem_cons.mp hy with e | hy
      · omega
      · rcases List.mem_cons.mp hy with e | hy
        · omega
        · exact h2 y (List.mem_cons_of_mem _ hy)
def rMinD (K : PySem.W.Frag) : List V → List V → Hp → VK → Prop := fun vs zs H Q => ∃ (a : Addr) (ns : List Int) (d : Int), vs = [V.ref a] ∧ zs = [V.int d] ∧ SqL K H a (ns.map V.int) ∧ (ns = [] → Q (.int d) H) ∧ ∀ m ∈ ns, (∀ y ∈ ns, m ≤ y) → Q (.int m) H
theorem cr_minD {X : Cx} (hc : X.calm = true) (hu : X.A.units + 1 < cLine) : CallRK X (.builtin "min") [Str.ofString "default"] (rMinD X.K) := by
  intro pins s σ H vs zs us ws Q I r rz h
  obtain ⟨a, ns, d, rfl, rfl, hS, q0, q⟩ := h
  obtain rfl := Vals.ref1 r
  obtain ⟨w1, rfl, t1, rfl⟩ := vals1 rz
  obtain ⟨its, rv, hl, hz⟩ := I.list hS
  have dep : ∀ ns : List Int, PySem.PyData.depthAll (ns.map PyData.int) = 0 := fun ns => by
    induction ns with
    | nil => rfl
    | cons n ns ih =>
      show max (PyData.depth (.int n)) (PyData.depthAll (ns.map PyData.int)) = 0
      rw [ih]
      rfl
  show wpAny _ _ (call (.builtin "min") [.ref a] [(Str.ofString "default", .int d t1)]) _ _ s
  refine PySem.W.min_list_default (I.ok.hd hc) hl.isList (reads_all rv) ⟨?_, ?_⟩ ?_ (fun e h' tk k => ?_) (fun y ys i v h' tk bs e hv hr k => ?_)
  · intro x hx y hy
    obtain ⟨n, _, rfl⟩ := List.mem_map.mp hx
    obtain ⟨m, _, rfl⟩ := List.mem_map.mp hy
    rfl
  · intro x hx
    obtain ⟨n, _, rfl⟩ := List.mem_map.mp hx
    exact fun e => PyData.noConfusion e
  · rw [dep]
    omega
  · exact ⟨.int d, H, I.kept k, ⟨_, rfl⟩, q0 (List.map_eq_nil_iff.mp e)⟩
  · cases ns with
    | nil => cases e
    | cons n ns =>
      rw [List.map_cons] at e
      injection e with e1 e2
      subst e1 e2
      rw [PySem.W.minD_ints] at hr
      cases hr
      exact ⟨.int _, H, I.kept k, ⟨_, rfl⟩, q _ (fold_min ns n).1 (fold_min ns n).2⟩
theorem call_tuple_ofE {X : Cx} {K : PySem.W.Frag} (h : X.K = K) : CallR X (.type "tuple") (fun xs H Q => ∃ p ys, xs = [.ref p] ∧ ((SqL K H p ys ∧ ∀ l, H l = none → Q (.ref l) (upd H l (.tup ys))) ∨ (SqT K H p ys ∧ Q (.ref p) H))) := by
  subst h
  exact call_tuple_of
theorem call_list_ofE {X : Cx} {K : PySem.W.Frag} (h : X.K = K) : CallR X (.type "list") (fun xs H Q => ∃ p ys, xs = [.ref p] ∧ (SqL K H p ys ∨ SqT K H p ys) ∧ ∀ l, H l = none → Q (.ref l) (upd H l (.lst ys))) := by
  subst h
  exact call_list_of
end Fw

/-! Fronts of rows: where each row stands, what a step does, the least price from a front. -/
namespace Lay
abbrev Ft := List Nat
def rst : Ls → Ft → Ls
  | l :: ls, k :: f => l.drop k :: rst ls f
  | _, _ => []
def fstep (b : Int) : Ls → Ft → Ft
  | l :: ls, k :: f => (k + if due l k b = true then 1 else 0) :: fstep b ls f
  | _, _ => []
def FOk : Ls → Ft → Prop
  | [], [] => True
  | l :: ls, k :: f => k ≤ l.length ∧ FOk ls f
  | _, _ => False
/-- b is the next symbol of a row -/
def Sym : Ls → Ft → Int → Prop
  | l :: ls, k :: f, b => l[k]? = some b ∨ Sym ls f b
  | _, _, _ => False
def f0 (ls : Ls) : Ft := ls.map fun _ => 0
theorem FOk.len : ∀ {ls : Ls} {f : Ft}, FOk ls f → f.length = ls.length
  | [], [], _ => rfl
  | _ :: _, _ :: _, h => by rw [List.length_cons, List.length_cons, FOk.len h.2]
  | [], _ :: _, h => h.elim
  | _ :: _, [], h => h.elim
theorem FOk.zero : ∀ ls : Ls, FOk ls (f0 ls)
  | [] => trivial
  | l :: ls => ⟨Nat.zero_le _, FOk.zero ls⟩
theorem rst_zero : ∀ ls : Ls, rst ls (f0 ls) = ls
  | [] => rfl
  | l :: ls => by
    show l.drop 0 :: rst ls (f0 ls) = _
    rw [rst_zero ls]
    rfl
theorem rst_step (b : Int) : ∀ (ls : Ls) (f : Ft), rst ls (fstep b ls f) = (rst ls f).map (adv b)
  | l :: ls, k :: f => by
    show l.drop (k + if due l k b = true then 1 else 0) :: rst ls (fstep b ls f) = adv b (l.drop k) :: (rst ls f).map (adv b)
    rw [rst_step b ls f, drop_adv]
  | [], _ => rfl
  | _ :: _, [] => rfl
theorem FOk.step (b : Int) : ∀ {ls : Ls} {f : Ft}, FOk ls f → FOk ls (fstep b ls f)
  | [], [], _ => trivial
  | l :: ls, k :: f, h => by
    refine ⟨?_, FOk.step b h.2⟩
    have h1 := h.1
    split
    · rename_i e
      have := due_lt e
      omega
    · omega
  | [], _ :: _, h => h.elim
  | _ :: _, [], h => h.elim
theorem sum_step (b : Int) : ∀ {ls : Ls} {f : Ft}, FOk ls f → f.sum ≤ (fstep b ls f).sum ∧ (Sym ls f b → f.sum < (fstep b ls f).sum)
  | [], [], _ => ⟨Nat.le_refl _, fun h => h.elim⟩
  | l :: ls, k :: f, h => by
    obtain ⟨h1, h2⟩ := sum_step b h.2
    show (k :: f).sum ≤ ((k + if due l k b = true then 1 else 0) :: fstep b ls f).sum ∧ (_ → (k :: f).sum < ((k + if due l k b = true then 1 else 0) :: fstep b ls f).sum)
    rw [List.sum_cons, List.sum_cons]
    refine ⟨by split <;> omega, fun s => ?_⟩
    rcases s with s | s
    · rw [if_pos (show due l k b = true from decide_eq_true s)]
      omega
    · have := h2 s
      split <;> omega
  | [], _ :: _, h => h.elim
  | _ :: _, [], h => h.elim
theorem sum_le : ∀ {ls : Ls} {f : Ft}, FOk ls f → f.sum ≤ (ls.map List.length).sum
  | [], [], _ => Nat.le_refl _
  | l :: ls, k :: f, h => by
    have := sum_le h.2
    have := h.1
    rw [List.map_cons, List.sum_cons, List.sum_cons]
    omega
  | [], _ :: _, h => h.elim
  | _ :: _, [], h => h.elim
theorem sym_rest : ∀ {ls : Ls} {f : Ft} {b : Int}, Sym ls f b ↔ ∃ r ∈ rst ls f, ∃ q, r = b :: q
  | l :: ls, k :: f, b => by
    constructor
    · rintro (h | h)
      · have hlt := (List.getElem?_eq_some_iff.mp h).1
        refine ⟨l.drop k, List.mem_cons_self .., l.drop (k + 1), ?_⟩
        rw [List.drop_eq_getElem_cons hlt, (List.getElem?_eq_some_iff.mp h).2]
      · obtain ⟨r, hr, q, e⟩ := sym_rest.mp h
        exact ⟨r, List.mem_cons_of_mem _ hr, q, e⟩
    · rintro ⟨r, hr, q, e⟩
      rcases List.mem_cons.mp hr with h | h
      · left
        have h2 : (l.drop k)[0]? = some b := by rw [← h, e]; rfl
        rw [List.getElem?_drop] at h2
        simpa using h2
      · exact .inr (sym_rest.mpr ⟨r, h, q, e⟩)
  | [], _, b => ⟨fun h => h.elim, fun ⟨r, hr, _⟩ => nomatch hr⟩
  | _ :: _, [], b => ⟨fun h => h.elim, fun ⟨r, hr, _⟩ => nomatch hr⟩
theorem least_of {w : Int → Int} (hw : ∀ c, 0 ≤ w c) {ls : Ls} {f : Ft} {u : Int → Int} (L : ∀ b, Sym ls f b → Least w (rst ls (fstep b ls f)) (u b)) {v : Int}
    (h0 : (∀ b, ¬ Sym ls f b) → v = 0) (h1 : (∃ b, Sym ls f b) → ∃ b, Sym ls f b ∧ v = w b + u b) (h2 : ∀ b, Sym ls f b → v ≤ w b + u b) : Least w (rst ls f) v := by
  by_cases h : ∃ b, Sym ls f b
  · obtain ⟨b, hb, e⟩ := h1 h
    refine least_step hw ?_ ?_
    · obtain ⟨r, hr, q, e2⟩ := sym_rest.mp hb
      have := L b hb
      rw [rst_step] at this
      exact ⟨r, hr, b, q, u b, e2, this, e⟩
    · intro r hr b2 q e2
      have hs := sym_rest.mpr ⟨r, hr, q, e2⟩
      have := L b2 hs
      rw [rst_step] at this
      exact ⟨u b2, this, h2 b2 hs⟩
  · rw [h0 fun b hb => h ⟨b, hb⟩]
    refine least_end hw fun r hr => ?_
    cases r with
    | nil => rfl
    | cons b q => exact absurd ⟨b, sym_rest.mpr ⟨_, hr, q, rfl⟩⟩ h
/-- a code below the product, different for different fronts -/
def code : Ls → Ft → Nat
  | l :: ls, k :: f => k + (l.length + 1) * code ls f
  | _, _ => 0
theorem code_lt : ∀ {ls : Ls} {f : Ft}, FOk ls f → code ls f < prodL ls
  | [], [], _ => Nat.one_pos
  | l :: ls, k :: f, h => by
    have h1 := code_lt h.2
    have h2 := h.1
    show k + (l.length + 1) * code ls f < (l.length + 1) * prodL ls
    have h3 : (l.length + 1) * (code ls f + 1) ≤ (l.length + 1) * prodL ls := Nat.mul_le_mul_left _ h1
    rw [Nat.mul_add] at h3
    omega
  | [], _ :: _, h => h.elim
  | _ :: _, [], h => h.elim
theorem code_inj : ∀ {ls : Ls} {f g : Ft}, FOk ls f → FOk ls g → code ls f = code ls g → f = g
  | [], [], [], _, _, _ => rfl
  | l :: ls, k :: f, m :: g, hf, hg, e => by
    have e2 : k + (l.length + 1) * code ls f = m + (l.length + 1) * code ls g := e
    have h1 := hf.1
    have h2 := hg.1
    have a : (k + (l.length + 1) * code ls f) % (l.length + 1) = k := by
      rw [Nat.add_mul_mod_self_left, Nat.mod_eq_of_lt (by omega)]
    have b : (m + (l.length + 1) * code ls g) % (l.length + 1) = m := by
      rw [Nat.add_mul_mod_self_left, Nat.mod_eq_of_lt (by omega)]
    have km : k = m := by rw [← a, e2, b]
    subst km
    have e3 : (l.length + 1) * code ls f = (l.length + 1) * code ls g := by omega
    have e4 := Nat.eq_of_mul_eq_mul_left (Nat.succ_pos _) e3
    rw [code_inj hf.2 hg.2 e4]
  | [], _ :: _, _, h, _, _ => h.elim
  | [], [], _ :: _, _, h, _ => h.elim
  | _ :: _, [], _, h, _, _ => h.elim
  | _ :: _, _ :: _, [], _, h, _ => h.elim
theorem nodup_lt : ∀ (n : Nat) (l : List Nat), l.Nodup → (∀ x ∈ l, x < n) → l.length ≤ n
  | 0, l, _, h => by
    cases l with
    | nil => exact Nat.le_refl _
    | cons x l => exact absurd (h x (List.mem_cons_self ..)) (Nat.not_lt_zero _)
  | n + 1, l, nd, h => by
    have h1 := nodup_lt n (l.erase n) (nd.erase n) fun x hx => by
      have h2 := h x (List.mem_of_mem_erase hx)
      have h3 : x ≠ n := fun e => by
        rw [e] at hx
        exact (nd.not_mem_erase) hx
      omega
    have h4 := List.length_erase_le (a := n) (l := l)
    have h5 : l.length ≤ (l.erase n).length + 1 := by
      rw [List.length_erase]
      split <;> omega
    omega
theorem few_fronts {ls : Ls} {fs : List Ft} (nd : fs.Nodup) (ok : ∀ f ∈ fs, FOk ls f) : fs.length ≤ prodL ls := by
  have h1 : (fs.map (code ls)).Nodup := by
    refine List.pairwise_map.mpr ((List.Pairwise.and_mem.mp nd).imp ?_)
    rintro f g ⟨hf, hg, ne⟩ e
    exact ne (code_inj (ok f hf) (ok g hg) e)
  have h2 := nodup_lt (prodL ls) _ h1 fun x hx => by
    obtain ⟨f, hf, rfl⟩ := List.mem_map.mp hx
    exact code_lt (ok f hf)
  rw [List.length_map] at h2
  exact h2
end Lay

/-! Fronts by place; keys of dicts. -/
namespace Lay
theorem step_len (b : Int) : ∀ {ls : Ls} {f : Ft}, FOk ls f → (fstep b ls f).length = ls.length := fun h => (h.step b).len
theorem step_get (b : Int) : ∀ {ls : Ls} {f : Ft} {j : Nat} {l : List Int} {k : Nat}, ls[j]? = some l → f[j]? = some k → (fstep b ls f)[j]? = some (k + if due l k b = true then 1 else 0)
  | l0 :: ls, k0 :: f, 0, l, k, h1, h2 => by
    obtain rfl := Option.some.inj h1
    obtain rfl := Option.some.inj h2
    rfl
  | l0 :: ls, k0 :: f, j + 1, l, k, h1, h2 => step_get b (ls := ls) (f := f) (j := j) h1 h2
  | [], _, _, _, _, h1, _ => by simp at h1
  | _ :: _, [], _, _, _, _, h2 => by simp at h2
theorem sym_get : ∀ {ls : Ls} {f : Ft} {b : Int}, Sym ls f b ↔ ∃ (j : Nat) (l : List Int) (k : Nat), ls[j]? = some l ∧ f[j]? = some k ∧ l[k]? = some b
  | l0 :: ls, k0 :: f, b => by
    constructor
    · rintro (h | h)
      · exact ⟨0, l0, k0, rfl, rfl, h⟩
      · obtain ⟨j, l, k, h1, h2, h3⟩ := sym_get.mp h
        exact ⟨j + 1, l, k, h1, h2, h3⟩
    · rintro ⟨j, l, k, h1, h2, h3⟩
      cases j with
      | zero =>
        obtain rfl := Option.some.inj h1
        obtain rfl := Option.some.inj h2
        exact .inl h3
      | succ j => exact .inr (sym_get.mpr ⟨j, l, k, h1, h2, h3⟩)
  | [], f, b => ⟨fun h => h.elim, fun ⟨j, l, k, h1, _⟩ => by simp at h1⟩
  | _ :: _, [], b => ⟨fun h => h.elim, fun ⟨j, l, k, _, h2, _⟩ => by simp at h2⟩
theorem FOk.at : ∀ {ls : Ls} {f : Ft} {j : Nat} {l : List Int}, FOk ls f → ls[j]? = some l → ∃ k, f[j]? = some k ∧ k ≤ l.length
  | l0 :: ls, k0 :: f, 0, l, h, h1 => by
    obtain rfl := Option.some.inj h1
    exact ⟨k0, rfl, h.1⟩
  | l0 :: ls, k0 :: f, j + 1, l, h, h1 => FOk.at (ls := ls) (f := f) (j := j) h.2 h1
  | [], _, _, _, _, h1 => by simp at h1
  | _ :: _, [], _, _, h, _ => h.elim
/-- the step of b, done in the first i rows -/
def pfs (b : Int) (ls : Ls) (f : Ft) (i : Nat) : Ft := (fstep b ls f).take i ++ f.drop i
def SymB (ls : Ls) (f : Ft) (i : Nat) (b : Int) : Prop := ∃ (j : Nat) (l : List Int) (k : Nat), j < i ∧ ls[j]? = some l ∧ f[j]? = some k ∧ l[k]? = some b
theorem pfs_len {b : Int} {ls : Ls} {f : Ft} (h : FOk ls f) (i : Nat) : (pfs b ls f i).length = ls.length := by
  have h1 := h.len
  have h2 := step_len b h
  unfold pfs
  rw [List.length_append, List.length_take, List.length_drop]
  omega
theorem pfs_get {b : Int} {ls : Ls} {f : Ft} (h : FOk ls f) (i j : Nat) : (pfs b ls f i)[j]? = if j < i then (fstep b ls f)[j]? else f[j]? := by
  have h1 := h.len
  have h2 := step_len b h
  unfold pfs
  by_cases hj : j < i
  · rw [if_pos hj]
    by_cases h3 : j < (fstep b ls f).length
    · rw [List.getElem?_append_left (by rw [List.length_take]; omega), List.getElem?_take, if_pos hj]
    · rw [List.getElem?_eq_none (by rw [List.length_append, List.length_take, List.length_drop]; omega), List.getElem?_eq_none (by omega)]
  · rw [if_neg hj]
    by_cases h3 : j < f.length
    · rw [List.getElem?_append_right (by rw [List.length_take]; omega), List.length_take, List.getElem?_drop]
      congr 1
      omega
    · rw [List.getElem?_eq_none (by rw [List.length_append, List.length_take, List.length_drop]; omega), List.getElem?_eq_none (by omega)]
theorem pfs_fresh {b : Int} {ls : Ls} {f : Ft} (h : FOk ls f) {i : Nat} (hn : ¬ SymB ls f i b) : pfs b ls f i = f := by
  refine List.ext_getElem? fun j => ?_
  rw [pfs_get h]
  split
  · rename_i hj
    by_cases hl : j < ls.length
    · obtain ⟨k, hk, _⟩ := h.at (List.getElem?_eq_getElem hl)
      rw [step_get b (List.getElem?_eq_getElem hl) hk, if_neg, hk]
      · rfl
      · exact fun e => hn ⟨j, _, k, hj, List.getElem?_eq_getElem hl, hk, of_decide_eq_true e⟩
    · have h1 := h.len
      have h2 := step_len b h
      rw [List.getElem?_eq_none (by omega), List.getElem?_eq_none (by omega)]
  · rfl
theorem pfs_due {b : Int} {ls : Ls} {f : Ft} (h : FOk ls f) {i k : Nat} {l : List Int} (hl : ls[i]? = some l) (hk : f[i]? = some k) (e : l[k]? = some b) : (pfs b ls f i).set i (k + 1) = pfs b ls f (i + 1) := by
  have hi := (List.getElem?_eq_some_iff.mp hl).1
  refine List.ext_getElem? fun j => ?_
  rw [List.getElem?_set, pfs_get h, pfs_get h, pfs_len h]
  by_cases hj : i = j
  · subst hj
    rw [if_pos rfl, if_pos hi, if_pos (Nat.lt_succ_self _), step_get b hl hk, if_pos (show due l k b = true from decide_eq_true e)]
  · rw [if_neg hj]
    by_cases h2 : j < i
    · rw [if_pos h2, if_pos (by omega)]
    · rw [if_neg h2, if_neg (by omega)]
theorem pfs_other {b : Int} {ls : Ls} {f : Ft} (h : FOk ls f) {i k : Nat} {l : List Int} (hl : ls[i]? = some l) (hk : f[i]? = some k) (e : ¬ l[k]? = some b) : pfs b ls f i = pfs b ls f (i + 1) := by
  refine List.ext_getElem? fun j => ?_
  rw [pfs_get h, pfs_get h]
  by_cases hj : j = i
  · subst hj
    rw [if_neg (Nat.lt_irrefl _), if_pos (Nat.lt_succ_self _), step_get b hl hk, if_neg (show ¬ due l k b = true from fun z => e (of_decide_eq_true z)), hk]
    rfl
  · by_cases h2 : j < i
    · rw [if_pos h2, if_pos (by omega)]
    · rw [if_neg h2, if_neg (by omega)]
theorem pfs_end {b : Int} {ls : Ls} {f : Ft} (h : FOk ls f) : pfs b ls f ls.length = fstep b ls f := by
  refine List.ext_getElem? fun j => ?_
  rw [pfs_get h]
  have h1 := h.len
  have h2 := step_len b h
  by_cases hj : j < ls.length
  · rw [if_pos hj]
  · rw [if_neg hj, List.getElem?_eq_none (by omega), List.getElem?_eq_none (by omega)]
theorem symB_end {b : Int} {ls : Ls} {f : Ft} : SymB ls f ls.length b ↔ Sym ls f b := by
  rw [sym_get]
  constructor
  · rintro ⟨j, l, k, _, h⟩
    exact ⟨j, l, k, h⟩
  · rintro ⟨j, l, k, h⟩
    exact ⟨j, l, k, (List.getElem?_eq_some_iff.mp h.1).1, h⟩
theorem symB_succ {b : Int} {ls : Ls} {f : Ft} {i k : Nat} {l : List Int} (hl : ls[i]? = some l) (hk : f[i]? = some k) : SymB ls f (i + 1) b ↔ SymB ls f i b ∨ l[k]? = some b := by
  constructor
  · rintro ⟨j, m, n, hj, h1, h2, h3⟩
    by_cases e : j = i
    · subst e
      rw [hl] at h1
      rw [hk] at h2
      obtain rfl := Option.some.inj h1
      obtain rfl := Option.some.inj h2
      exact .inr h3
    · exact .inl ⟨j, m, n, by omega, h1, h2, h3⟩
  · rintro (⟨j, m, n, hj, h⟩ | h)
    · exact ⟨j, m, n, by omega, h⟩
    · exact ⟨i, l, k, Nat.lt_succ_self _, hl, hk, h⟩
end Lay
namespace Fw
open PySem PySem.Spec PyProof.Rows L2 Lay
/-- a front as a dict's key -/
def fkey (f : Ft) : List L2.Key := (nmap f).map Sum.inl
theorem fkey_kV (f : Ft) : (fkey f).map kV = (nmap f).map V.int := by
  unfold fkey
  rw [List.map_map]
  rfl
theorem nmap_inj {f g : Ft} (h : nmap f = nmap g) : f = g := by
  unfold nmap at h
  induction f generalizing g with
  | nil =>
    cases g with
    | nil => rfl
    | cons k g => cases h
  | cons k f ih =>
    cases g with
    | nil => cases h
    | cons m g =>
      rw [List.map_cons, List.map_cons] at h
      injection h with h1 h2
      rw [ih h2, Int.ofNat.inj h1]
theorem fkey_inj {f g : Ft} (h : fkey f = fkey g) : f = g := by
  refine nmap_inj ?_
  have h2 := congrArg (List.map (fun k : L2.Key => (match k with | .inl i => i | .inr _ => 0))) h
  unfold fkey at h2
  rw [List.map_map, List.map_map] at h2
  exact (List.map_id (nmap f)).symm.trans (h2.trans (List.map_id (nmap g)))
/-- pairs of a symbol and a front -/
abbrev Ps := List (Addr × Int × Addr)
abbrev refP (ps : Ps) : List V := ps.map fun q => V.ref q.1
def PsOk (H : Hp) (ls : Ls) (f : Ft) (ps : Ps) : Prop := (∀ q ∈ ps, H q.1 = some (.tup [.int q.2.1, .ref q.2.2]) ∧ H q.2.2 = some (itup (nmap (fstep q.2.1 ls f)))) ∧ ∀ b, b ∈ ps.map (·.2.1) ↔ Sym ls f b
abbrev Fs := List (Addr × Ft)
abbrev refF (fs : Fs) : List V := fs.map fun q => V.ref q.1
def FsOk (H : Hp) (ls : Ls) (fs : Fs) : Prop := (∀ q ∈ fs, H q.1 = some (itup (nmap q.2)) ∧ FOk ls q.2) ∧ (fs.map (·.2)).Nodup
/-- heights of fronts, in a dict -/
def Hts (w : Int → Int) (ls : Ls) (kvs : List (List L2.Key × V)) (f : Ft) : Prop := ∃ v, valV kvs (fkey f) = some (.int v) ∧ Least w (rst ls f) v
def SyOk (n : Nat) (ls : Ls) : Prop := ∀ l ∈ ls, ∀ s ∈ l, 0 ≤ s ∧ s < (n : Int)
/-- symbols and the lists of their moved fronts, as a dict -/
abbrev Ms := List (Int × Addr)
def kvM (ms : Ms) : List (L2.Key × V) := ms.map fun q => (Sum.inl q.1, V.ref q.2)
theorem kvM_none : ∀ {ms : Ms} {b : Int}, ¬ b ∈ ms.map (·.1) → valV (kvM ms) (Sum.inl b) = none
  | [], _, _ => rfl
  | q :: ms, b, h => by
    rw [List.map_cons, List.mem_cons, not_or] at h
    show valV ((Sum.inl q.1, V.ref q.2) :: kvM ms) (Sum.inl b) = none
    rw [valV_neg (fun e => h.1 (Sum.inl.inj e).symm)]
    exact kvM_none h.2
theorem kvM_some : ∀ {ms : Ms} {q : Int × Addr}, (ms.map (·.1)).Nodup → q ∈ ms → valV (kvM ms) (Sum.inl q.1) = some (.ref q.2)
  | m :: ms, q, nd, h => by
    rw [List.map_cons, List.nodup_cons] at nd
    show valV ((Sum.inl m.1, V.ref m.2) :: kvM ms) (Sum.inl q.1) = _
    rcases List.mem_cons.mp h with e | h
    · subst e
      exact valV_pos rfl
    · have hne : m.1 ≠ q.1 := fun e => nd.1 (by rw [e]; exact List.mem_map_of_mem (f := fun z : Int × Addr => z.1) h)
      rw [valV_neg (fun e => hne (Sum.inl.inj e))]
      exact kvM_some nd.2 h
theorem kvM_keys (ms : Ms) : (kvM ms).map (·.1) = (ms.map (·.1)).map Sum.inl := by
  unfold kvM
  rw [List.map_map, List.map_map]
  rfl
theorem nmap_set (f : Ft) (i k : Nat) : ((nmap f).map V.int).set i (.int (k : Int)) = (nmap (f.set i k)).map V.int := by
  unfold nmap
  rw [List.map_set, List.map_set]
theorem prodL_take : ∀ (ls : Ls) (i : Nat), prodL (ls.take i) ≤ prodL ls
  | [], i => by rw [List.take_nil]; exact Nat.le_refl _
  | l :: ls, 0 => prodL_pos (l :: ls)
  | l :: ls, i + 1 => Nat.mul_le_mul_left _ (prodL_take ls i)
/-- known fronts, as a dict -/
def kvF (fs : Fs) : List (List L2.Key × V) := fs.map fun q => (fkey q.2, V.bl true)
theorem kvF_none : ∀ {fs : Fs} {f : Ft}, ¬ f ∈ fs.map (·.2) → valV (kvF fs) (fkey f) = none
  | [], _, _ => rfl
  | q :: fs, f, h => by
    rw [List.map_cons, List.mem_cons, not_or] at h
    show valV ((fkey q.2, V.bl true) :: kvF fs) (fkey f) = none
    rw [valV_neg (fun e => h.1 (fkey_inj e).symm)]
    exact kvF_none h.2
theorem kvF_some : ∀ {fs : Fs} {f : Ft}, f ∈ fs.map (·.2) → valV (kvF fs) (fkey f) = some (.bl true)
  | [], _, h => nomatch h
  | q :: fs, f, h => by
    show valV ((fkey q.2, V.bl true) :: kvF fs) (fkey f) = _
    by_cases e : q.2 = f
    · exact valV_pos (by rw [← e])
    · rw [valV_neg (fun z => e (fkey_inj z))]
      rcases List.mem_cons.mp h with h | h
      · exact absurd h.symm e
      · exact kvF_some h
def But2 (l d : Addr) (H H2 : Hp) : Prop := ∀ c o, c ≠ l → c ≠ d → H c = some o → H2 c = some o
theorem tup_key {H : Hp} {t : Addr} {f : Ft} (h : H t = some (itup (nmap f))) : H t = some (.tup ((fkey f).map kV)) := by
  rw [fkey_kV]
  exact h
theorem pw_pos {pr : List Int} (h0 : 0 < pr.length) (h : ∀ x ∈ pr, 1 ≤ x) (c : Int) : 1 ≤ pw pr c := by
  have h1 := Int.emod_nonneg c (show (pr.length : Int) ≠ 0 by omega)
  have h2 := Int.emod_lt_of_pos c (show (0 : Int) < (pr.length : Int) by omega)
  have hlt : (c % (pr.length : Int)).toNat < pr.length := by omega
  unfold pw
  rw [List.getD_eq_getElem?_getD, List.getElem?_eq_getElem hlt]
  exact h _ (List.getElem_mem hlt)
theorem cost_long {w : Int → Int} (hw : ∀ c, 1 ≤ w c) : ∀ T : List Int, (T.length : Int) ≤ cost w T
  | [] => Int.le_refl _
  | t :: T => by
    have h1 := cost_long hw T
    have h2 := hw t
    rw [cost_cons, List.length_cons]
    omega
/-- a front from which something is left to pay has a step that the height follows -/
theorem least_follow {w : Int → Int} (hw : ∀ c, 0 ≤ w c) {ls : Ls} {f : Ft} {u : Int → Int} (L : ∀ b, Sym ls f b → Least w (rst ls (fstep b ls f)) (u b)) {v : Int} (hL : Least w (rst ls f) v) (hv : 0 < v)
    {bs : List Int} (hbs : ∀ b, b ∈ bs ↔ Sym ls f b) : ∃ b, Sym ls f b ∧ v = w b + u b := by
  cases bs with
  | nil =>
    have h1 : Least w (rst ls f) 0 := least_of hw L (fun _ => rfl) (fun ⟨b, hb⟩ => nomatch (hbs b).mpr hb) (fun b hb => nomatch (hbs b).mpr hb)
    have := h1.eq hL
    omega
  | cons b0 bs =>
    have h1 : ∀ cs : List Int, ∃ m ∈ b0 :: cs, ∀ b ∈ b0 :: cs, w m + u m ≤ w b + u b := fun cs => by
      induction cs with
      | nil => exact ⟨b0, List.mem_cons_self .., fun b hb => by rw [List.mem_singleton.mp hb]; exact Int.le_refl _⟩
      | cons c cs ih =>
        obtain ⟨m, hm, hle⟩ := ih
        by_cases e : w m + u m ≤ w c + u c
        · refine ⟨m, ?_, fun b hb => ?_⟩
          · rcases List.mem_cons.mp hm with h | h
            · rw [h]
              exact List.mem_cons_self ..
            · exact List.mem_cons_of_mem _ (List.mem_cons_of_mem _ h)
          · rcases List.mem_cons.mp hb with h | h
            · exact hle b (by rw [h]; exact List.mem_cons_self ..)
            · rcases List.mem_cons.mp h with h | h
              · rw [h]
                exact e
              · exact hle b (List.mem_cons_of_mem _ h)
        · refine ⟨c, List.mem_cons_of_mem _ (List.mem_cons_self ..), fun b hb => ?_⟩
          rcases List.mem_cons.mp hb with h | h
          · have := hle b (by rw [h]; exact List.mem_cons_self ..)
            omega
          · rcases List.mem_cons.mp h with h | h
            · rw [h]
              exact Int.le_refl _
            · have := hle b (List.mem_cons_of_mem _ h)
              omega
    obtain ⟨m, hm, hle⟩ := h1 bs
    have hs := (hbs m).mp hm
    have h2 : Least w (rst ls f) (w m + u m) := least_of hw L (fun hn => absurd hs (hn m)) (fun _ => ⟨m, hs, rfl⟩) (fun b hb => hle b ((hbs b).mpr hb))
    exact ⟨m, hs, hL.eq h2⟩
theorem rows_sum : ∀ {zs : Ws}, (∀ z ∈ zs, z.2.length ≤ 1000) → ((zs.map (·.2)).map List.length).sum ≤ 1000 * zs.length
  | [], _ => Nat.le_refl _
  | z :: zs, h => by
    have h1 := rows_sum (zs := zs) fun x hx => h x (List.mem_cons_of_mem _ hx)
    have h2 := h z (List.mem_cons_self ..)
    rw [List.map_cons, List.map_cons, List.sum_cons, List.length_cons]
    omega
end Fw

/-! Lists of lists of whole numbers, compared place by place. -/
namespace Fw
open PySem PySem.Spec PyProof.Rows L2 Lay
def dI (ns : List Int) : PyData := .list (ns.map PyData.int)
def dL (ls : Ls) : PyData := .list (ls.map dI)
theorem lay_ints : ∀ ns : List Int, PyData.canLayAll0 (ns.map PyData.int) = true
  | [] => rfl
  | n :: ns => by
    show (PyData.canLay0 (.int n) && PyData.canLayAll0 (ns.map PyData.int)) = true
    rw [lay_ints ns]
    rfl
theorem lay_rows : ∀ ls : Ls, PyData.canLayAll0 (ls.map dI) = true
  | [] => rfl
  | l :: ls => by
    show (PyData.canLayAll0 (l.map PyData.int) && PyData.canLayAll0 (ls.map dI)) = true
    rw [lay_rows ls, lay_ints l]
    rfl
theorem dep_ints : ∀ ns : List Int, PyData.depthAll (ns.map PyData.int) = 0
  | [] => rfl
  | n :: ns => by
    show max (PyData.depth (.int n)) (PyData.depthAll (ns.map PyData.int)) = 0
    rw [dep_ints ns]
    rfl
theorem dep_rows : ∀ ls : Ls, PyData.depthAll (ls.map dI) ≤ 1
  | [] => Nat.zero_le _
  | l :: ls => by
    show max (PyData.depthAll (l.map PyData.int) + 1) (PyData.depthAll (ls.map dI)) ≤ 1
    have := dep_rows ls
    rw [dep_ints l]
    omega
theorem dI_shaped (ns : List Int) : SeqAt.shaped (dI ns) = true := by
  show (PyData.canLayAll0 (ns.map PyData.int) && decide (PyData.depthAll (ns.map PyData.int) + 1 ≤ 64)) = true
  rw [lay_ints, dep_ints]
  rfl
theorem dL_shaped (ls : Ls) : SeqAt.shaped (dL ls) = true := by
  show (PyData.canLayAll0 (ls.map dI) && decide (PyData.depthAll (ls.map dI) + 1 ≤ 64)) = true
  have := dep_rows ls
  rw [lay_rows, decide_eq_true (by omega)]
  rfl
theorem dI_eqv (ns : List Int) : PyData.eqv (dI ns) (dI ns) = true := SeqAt.eqv_refl _ (SeqAt.canLay_of_shaped (dI_shaped ns))
theorem dL_eqv (ls : Ls) : PyData.eqv (dL ls) (dL ls) = true := SeqAt.eqv_refl _ (SeqAt.canLay_of_shaped (dL_shaped ls))
theorem dp_ints {K : PySem.W.Frag} {H : Hp} : ∀ ns : List Int, DpAll K H (ns.map V.int) (ns.map PyData.int)
  | [] => .nil
  | n :: ns => .cons (.int n) (dp_ints ns)
theorem dp_row {K : PySem.W.Frag} {H : Hp} {a : Addr} {ns : List Int} (h : SqL K H a (ns.map V.int)) : Dp K H (.ref a) (dI ns) := .lst h (dp_ints ns)
theorem dp_rows {K : PySem.W.Frag} {H : Hp} : ∀ {zs : Ws}, LL K H zs → DpAll K H (refL zs) ((zs.map (·.2)).map dI)
  | [], _ => .nil
  | z :: zs, h => .cons (dp_row (h z (List.mem_cons_self ..))) (dp_rows fun x hx => h x (List.mem_cons_of_mem _ hx))
theorem dp_list {K : PySem.W.Frag} {H : Hp} {a : Addr} {zs : Ws} (hs : SqL K H a (refL zs)) (h : LL K H zs) : Dp K H (.ref a) (dL (zs.map (·.2))) := .lst hs (dp_rows h)
end Fw

/-! sorted(xs) of tuples of data, any number of them. -/
namespace Fw
open PySem PySem.Spec PyProof.Rows L2
abbrev Ds := List (Addr × PyData)
def rSortedD (K : PySem.W.Frag) : List V → Hp → VK → Prop := fun vs H Q => ∃ (a : Addr) (fs : Ds), vs = [.ref a] ∧ SqL K H a (fs.map fun f => V.ref f.1) ∧ (∀ f ∈ fs, Dp K H (.ref f.1) f.2) ∧ PySem.W.AllAlike (fs.map (·.2)) ∧ PySem.W.Sortable (fs.map (·.2)) ∧ (∀ f ∈ fs, f.2.depth ≤ 60) ∧
  ∀ (gs : Ds) (p : Addr), gs.Perm fs → gs.Pairwise (fun f g => PySem.W.dataLe false (fun z : Addr × PyData => z.2) f g = true) → H p = none → Q (.ref p) (upd H p (.lst (gs.map fun f => V.ref f.1)))
theorem refs_eqD : ∀ (fs : Ds) (us : List Value), Vals (fs.map fun f => V.ref f.1) us → us = fs.map fun f => Value.ref f.1
  | [], _, r => by
    cases r
    rfl
  | f :: fs, _, r => by
    cases r with
    | cons h t =>
      rw [refs_eqD fs _ t]
      cases h
      rfl
theorem vals_refsD : ∀ (fs : Ds), Vals (fs.map fun f => V.ref f.1) (fs.map fun f => Value.ref f.1)
  | [] => .nil
  | f :: fs => .cons rfl (vals_refsD fs)
theorem each_refsD {R : Value → (Addr × PyData) → Prop} : ∀ (fs : Ds), (∀ f ∈ fs, R (.ref f.1) f) → PySem.W.EachIs R (fs.map fun f => Value.ref f.1) fs
  | [], _ => .nil
  | f :: fs, h => .cons (h f (List.mem_cons_self ..)) (each_refsD fs fun g hg => h g (List.mem_cons_of_mem _ hg))
theorem each_eqD {R : Value → (Addr × PyData) → Prop} (hR : ∀ v f, R v f → v = .ref f.1) {out : List Value} {gs : Ds} (h : PySem.W.EachIs R out gs) : out = gs.map fun f => Value.ref f.1 := by
  induction h with
  | nil => rfl
  | cons h t ih =>
    rw [List.map_cons, ← ih, hR _ _ h]
theorem cr_sortedD {X : Cx} (hu : X.A.units + 64 < cLine) : CallR X (.builtin "sorted") (rSortedD X.K) := by
  intro pins s σ H vs us Q I r h
  obtain ⟨a, fs, rfl, hS, hF, hal, hso, hdep, q⟩ := h
  obtain rfl := Vals.ref1 r
  obtain ⟨its, rv, hl, hz⟩ := I.list hS
  obtain rfl := refs_eqD fs its rv
  rw [List.length_map] at hz
  refine PySem.W.sorted_data (β := Addr × PyData) (R := fun v f => v = .ref f.1) (enc := fun f => f.2) hl.isList (each_refsD fs fun f _ => rfl) (each_refsD fs fun f hf => ?_) hal hso hz (fun f hf => ?_) (fun out ho hE => ?_)
  · exact Dp.reads I f.2 (.ref f.1) (.ref f.1) (hF f hf) rfl
  · have := hdep f hf
    omega
  · obtain rfl := each_eqD (fun v f h => h) hE
    obtain ⟨c, hc⟩ := PyProof.Rows.sortedAll_at s.heap (fs.map fun f => Value.ref f.1) ((fs.mergeSort (PySem.W.dataLe false fun f => f.2)).map fun f => Value.ref f.1).toArray
    refine ⟨.ref (s.heap.objs.size + 1), upd H (s.heap.objs.size + 1) (.lst ((fs.mergeSort (PySem.W.dataLe false fun f => f.2)).map fun f => V.ref f.1)), I.laid (t' := s.toks) (fun _ _ => PyProof.Rows.sortedAll_old) (Nat.le_succ _) ⟨?_, _, c, vals_refsD _, hc⟩, rfl, ?_⟩
    · rw [List.length_map, (List.mergeSort_perm fs _).length_eq]
      exact hz
    · exact q _ _ (List.mergeSort_perm fs _) (PySem.W.sort_pairwise (PySem.W.sortLe_total _ _ _) fs) (I.hok.fresh (Nat.le_succ _))
end Fw

/-! Heights that meet the conditions are nowhere above the least price. -/
namespace Lay
def Shown (w : Int → Int) (ls : Ls) (h : Ft → Option Int) (f : Ft) : Prop := ∃ v, h f = some v ∧ ((∀ b, ¬ Sym ls f b) → v ≤ 0) ∧ ∀ b, Sym ls f b → ∃ u, h (fstep b ls f) = some u ∧ v ≤ w b + u
theorem shown_le {w : Int → Int} (hw : ∀ c, 0 ≤ w c) {ls : Ls} {h : Ft → Option Int} {R : Ft → Prop} (hR : ∀ f, R f → Shown w ls h f ∧ ∀ b, Sym ls f b → R (fstep b ls f)) :
    ∀ (S : List Int) (f : Ft) (v : Int), R f → h f = some v → Has (rst ls f) S → v ≤ cost w S
  | [], f, v, hf, hv, hS => by
    obtain ⟨⟨v2, e, h0, _⟩, _⟩ := hR f hf
    rw [hv] at e
    obtain rfl := Option.some.inj e
    rw [cost_nil]
    refine h0 fun b hb => ?_
    obtain ⟨r, hr, q, e2⟩ := sym_rest.mp hb
    have := (hS r hr).length_le
    rw [e2] at this
    simp at this
  | c :: S, f, v, hf, hv, hS => by
    obtain ⟨⟨v2, e, h0, h1⟩, hcl⟩ := hR f hf
    rw [hv] at e
    obtain rfl := Option.some.inj e
    rw [cost_cons]
    by_cases hc : Sym ls f c
    · obtain ⟨u, hu, hle⟩ := h1 c hc
      have h2 := adv_has hS
      rw [← rst_step] at h2
      have := shown_le hw hR S _ u (hcl c hc) hu h2
      omega
    · have h2 : Has (rst ls f) S := fun r hr => by
        have h3 := hS r hr
        cases r with
        | nil => exact List.nil_sublist _
        | cons x q =>
          cases h3 with
          | cons _ z => exact z
          | cons_cons _ z => exact absurd (sym_rest.mpr ⟨_, hr, _, rfl⟩) hc
      have := shown_le hw hR S f v hf hv h2
      have := hw c
      omega
end Lay

/-! != of two dicts with tuples as keys that hold the same whole numbers. -/
namespace Fw
open PySem PySem.Spec PyProof.Rows L2
section
variable {prog : Program} {w : World} {K : Type} [DecidableEq K] {knd : HeapKind prog w K} {A : Around} {E : Value → Shared → Prop} {s : Shared}
theorem samePairsH {nm : String} {a b : Addr} {xs ys : List (K × Addr × Value)} {Q : Bool → Shared → Prop} (ha : (a == sysModules) = false) (hb : (b == sysModules) = false)
    (da : s.heap.DictOfH knd a xs) (db : s.heap.DictOfH knd b ys) (hu : knd.room A) (hl : xs.length = ys.length)
    (hits : ∀ x ∈ xs, ∃ (j : Nat) (p : Addr × Value), ys[j]? = some (x.1, p) ∧ SeqAt.EqAt A s x.2.2 p.2 true) (h : Q true s) :
    wpAny (model prog w) A (Builtin.Dict.samePairs nm a b) Q E s := by
  obtain ⟨oa, es, ep, hoa, _, hda, hea, hka, hna⟩ := da
  obtain ⟨ob, es', ep', hob, _, hdb, heb, hkb, hnb⟩ := db
  have hla : es.size = xs.length := size_of_entries hea
  have hlb : es'.size = ys.length := size_of_entries heb
  unfold Builtin.Dict.samePairs Builtin.Dict.showsAll
  rw [if_neg (show ¬ (a == sysModules) = true by rw [ha]; exact Bool.false_ne_true), if_neg (show ¬ (b == sysModules) = true by rw [hb]; exact Bool.false_ne_true)]
  refine wpAny_bind (wpAny_pure (wpAny_bind (wpAny_pure ?_)))
  refine wpAny_bind (wpAny_dictEntries hoa hda ?_)
  dsimp only
  refine wpAny_bind (wpAny_dictEntries hob hdb ?_)
  have hsz : es.size = es'.size := by omega
  rw [if_neg (by rw [hsz]; simp)]
  refine wpAny_bind (wpAny_dictEpoch hoa hda ?_)
  refine wpAny_bind ?_
  rw [Std.Legacy.Range.forIn_eq_forIn_range']
  simp only [Std.Legacy.Range.size, Nat.sub_zero, Nat.add_sub_cancel, Nat.div_one]
  refine wpAny_forIn_list _
    (fun rest q s' => s' = s ∧ q = (none, ()) ∧ ∃ i, rest = List.range' i (es.size - i) ∧ i ≤ es.size)
    _ ?_ ?_ _ _ ⟨rfl, rfl, 0, by simp, Nat.zero_le _⟩
  · rintro x rest q s' ⟨rfl, rfl, i, hr, hi⟩
    have hlt : i < es.size := by
      rcases Nat.lt_or_ge i es.size with h | h
      · exact h
      · rw [Nat.sub_eq_zero_of_le h] at hr; simp at hr
    obtain ⟨rfl, hrest⟩ : x = i ∧ rest = List.range' (i + 1) (es.size - (i + 1)) := by
      have e : es.size - i = (es.size - (i + 1)) + 1 := by omega
      rw [e, List.range'_succ] at hr
      injection hr with h1 h2
      exact ⟨h1, h2⟩
    refine wpAny_bind (wpAny_dictEntries hoa hda ?_)
    have hlt' : x < xs.length := by omega
    have hex : es[x]? = some (entryOfKey knd xs[x]) := by
      rw [entry_at hea x, List.getElem?_eq_getElem hlt']
      rfl
    rw [hex]
    obtain ⟨j, p, hj, heq⟩ := hits xs[x] (List.getElem_mem hlt')
    have hkey := hka xs[x] (List.getElem_mem hlt')
    have hej : es'[j]? = some (entryOfKey knd (xs[x].1, p)) := by
      rw [entry_at heb j, hj]
      rfl
    show wpAny _ _ (holding [Value.ref xs[x].2.1, xs[x].2.2] _ >>= _) _ _ _
    refine wpAny_bind (wpAny_holding (wpAny_bind (wpAny_dictFind_heap hu hkey hob hdb heb hkb hnb (fun hno => absurd hj (hno j p)) (fun j' p' hj' => ?_))))
    have hjj : j' = j := by
      have h1 := (List.getElem?_eq_some_iff.mp hj').1
      have h2 := (List.getElem?_eq_some_iff.mp hj).1
      refine (List.getElem_inj hnb (h₀ := by rw [List.length_map]; exact h1) (h₁ := by rw [List.length_map]; exact h2)).mp ?_
      rw [List.getElem_map, List.getElem_map, (List.getElem?_eq_some_iff.mp hj').2, (List.getElem?_eq_some_iff.mp hj).2]
    subst hjj
    refine wpAny_bind (wpAny_dictEntries hob hdb ?_)
    rw [hej]
    refine wpAny_holding (heq prog w _ _ ?_)
    show wpAny _ _ (if (!true) = true then _ else _) _ _ _
    rw [if_neg (by decide)]
    refine wpAny_bind (wpAny_dictEpoch hoa hda ?_)
    rw [if_neg (by simp)]
    exact wpAny_pure ⟨rfl, rfl, x + 1, hrest, hlt⟩
  · rintro q s' ⟨rfl, rfl, i, hr, hi⟩
    exact wpAny_pure h
theorem neH {a b : Addr} {xs ys : List (K × Addr × Value)} {Q : Value → Shared → Prop} (ha : (a == sysModules) = false) (hb : (b == sysModules) = false)
    (da : s.heap.DictOfH knd a xs) (db : s.heap.DictOfH knd b ys) (hu : A.units < cLine) (hr : knd.room A.in1) (hl : xs.length = ys.length)
    (hits : ∀ x ∈ xs, ∃ (j : Nat) (p : Addr × Value), ys[j]? = some (x.1, p) ∧ SeqAt.EqAt A.in1 s x.2.2 p.2 true) (h : Q (.bool false) s) :
    wpAny (model prog w) A (compareOp .NotEq (.ref a) (.ref b)) Q E s := by
  refine wpAny_richCompare_same_room (op := .NotEq) da.typeIs db.typeIs PySem.F.slot_dict_ne (wpAny_call_entry PySem.F.slot_dict_ne da.typeIs PySem.F.entry_dict_ne ?_ (PySem.F.args_dict_ne_2 _ _)) hu
  show wpAny _ _ (Builtin.Dict.dictSlotArgs "__ne__" ⟨[.ref a, .ref b], []⟩ >>= _) _ _ s
  refine wpAny_bind ?_
  unfold Builtin.Dict.dictSlotArgs
  refine wpAny_bind (wpAny_notOrdered_dict da.typeIs ?_)
  show wpAny _ _ (pure (Value.ref a, Value.ref b)) _ _ s
  refine wpAny_pure ?_
  refine wpAny_bind (wpAny_isInstance (T := "dict") db.typeIs PySem.F.sub_dict_dict ?_)
  simp only [Bool.not_true, Bool.false_eq_true, if_false]
  refine wpAny_bind (wpAny_pure (wpAny_bind (wpAny_pure ?_)))
  refine wpAny_bind (samePairsH ha hb da db hr hl hits ?_)
  refine wpAny_pure ⟨_, rfl, ?_, ?_⟩
  · exact fun x => nomatch x
  · simpa using h
end
theorem paired_at {α β : Type} {F : α → β → Prop} : ∀ {l : List α} {m : List β}, Paired F l m → ∀ (i : Nat) (h1 : i < l.length) (h2 : i < m.length), F l[i] m[i]
  | _, _, .cons h _, 0, _, _ => h
  | _, _, .cons _ t, i + 1, h1, h2 => paired_at t i (Nat.lt_of_succ_lt_succ h1) (Nat.lt_of_succ_lt_succ h2)
section
variable {X : Cx}
/-- two dicts with the same tuples as keys and the same whole numbers -/
def rNeT : R2 := fun x y H Q => ∃ a b kvs, x = .ref a ∧ y = .ref b ∧ H a = some (.dT kvs) ∧ H b = some (.dT kvs) ∧ (∀ q ∈ kvs, ∃ i, q.2 = .int i) ∧ Q (.bl false) H
theorem op_neT (hu : X.A.units + 1 < cLine) : OpR X (compareOp .NotEq) rNeT := by
  intro pins s σ H x y v u Q I rx ry h
  obtain ⟨a, b, kvs, rfl, rfl, ea, eb, hv, q⟩ := h
  obtain rfl : v = Value.ref a := rx
  obtain rfl : u = Value.ref b := ry
  obtain ⟨_, ya, xs, ra, da⟩ := dt_of I.hok ea
  obtain ⟨_, yb, ys, rb, db⟩ := dt_of I.hok eb
  have hl : xs.length = ys.length := by rw [← ra.length, ← rb.length]
  refine neH (knd := tupleKind (mixKind X.prog X.w)) ya yb da db (by omega) (tupleKind_room_in1 hu) hl (fun z hz => ?_) (fin_bl I q rfl)
  obtain ⟨j, hj, e⟩ := List.mem_iff_getElem.mp hz
  have hjk : j < kvs.length := by rw [ra.length]; exact hj
  have hjy : j < ys.length := by omega
  have h1 := paired_at ra j hjk hj
  have h2 := paired_at rb j hjk hjy
  obtain ⟨i, hi⟩ := hv _ (List.getElem_mem hjk)
  rw [e] at h1
  refine ⟨j, ys[j].2, ?_, ?_⟩
  · rw [List.getElem?_eq_getElem hjy, ← h1.1, h2.1]
  · have r1 := h1.2.2
    have r2 := h2.2.2
    rw [hi] at r1 r2
    obtain ⟨t1, e1⟩ := r1
    obtain ⟨t2, e2⟩ := r2
    rw [e1, e2]
    have := SeqAt.EqAt.int_int (A := X.A.in1) (s := s) i t1 i t2
    simpa using this
end
end Fw

/-! Reachable fronts; the claims that heights show; sums of tuples; tuples as data. -/
namespace Lay
/-- the fronts that steps from the front of zeros reach -/
inductive Rch (ls : Ls) : Ft → Prop
  | zero : Rch ls (f0 ls)
  | step {f : Ft} {b : Int} : Rch ls f → Sym ls f b → Rch ls (fstep b ls f)
theorem Rch.ok {ls : Ls} {f : Ft} (h : Rch ls f) : FOk ls f := by
  induction h with
  | zero => exact FOk.zero ls
  | step _ _ ih => exact ih.step _
end Lay
namespace Fw
open PySem PySem.Spec PyProof.Rows L2 Lay
/-- the number that a dict holds at a front -/
def hofK (kvs : List (List L2.Key × V)) (f : Ft) : Option Int := match valV kvs (fkey f) with
  | some (.int v) => some v
  | _ => none
def IntD (kvs : List (List L2.Key × V)) : Prop := ∀ q ∈ kvs, ∃ i : Int, q.2 = .int i
theorem IntD.val {kvs : List (List L2.Key × V)} (h : IntD kvs) (k : List L2.Key) : valV kvs k = none ∨ ∃ i : Int, valV kvs k = some (.int i) := by
  induction kvs with
  | nil => exact .inl rfl
  | cons p r ih =>
    by_cases e : p.1 = k
    · rw [valV_pos e]
      obtain ⟨i, hi⟩ := h p (List.mem_cons_self ..)
      exact .inr ⟨i, by rw [hi]⟩
    · rw [valV_neg e]
      exact ih fun q hq => h q (List.mem_cons_of_mem _ hq)
theorem hofK_none {kvs : List (List L2.Key × V)} {f : Ft} (h : valV kvs (fkey f) = none) : hofK kvs f = none := by
  unfold hofK
  rw [h]
theorem hofK_some {kvs : List (List L2.Key × V)} {f : Ft} {i : Int} (h : valV kvs (fkey f) = some (.int i)) : hofK kvs f = some i := by
  unfold hofK
  rw [h]
/-- the conditions under which heights show a claim -/
def ShowC (w : Int → Int) (ls : Ls) (kvs : List (List L2.Key × V)) (c : Int) : Prop := (∀ f, Rch ls f → Shown w ls (hofK kvs) f) ∧ ∃ v, hofK kvs (f0 ls) = some v ∧ c ≤ v
theorem ShowC.le {w : Int → Int} (hw : ∀ c, 0 ≤ w c) {ls : Ls} {kvs : List (List L2.Key × V)} {c v : Int} (h : ShowC w ls kvs c) (L : Least w ls v) : c ≤ v := by
  obtain ⟨h1, u, hu, hle⟩ := h
  obtain ⟨S, hS, e⟩ := L.1
  have := shown_le (R := Rch ls) hw (fun f hf => ⟨h1 f hf, fun b hb => hf.step hb⟩) S (f0 ls) u .zero hu (by rw [rst_zero]; exact hS)
  omega
/-! ### sum(t) of a tuple of whole numbers -/
def rSumT (K : PySem.W.Frag) : List V → Hp → VK → Prop := fun vs H Q => ∃ (a : Addr) (ns : List Int), vs = [V.ref a] ∧ SqT K H a (ns.map V.int) ∧ Q (.int ns.sum) H
theorem cr_sumTE {X : Cx} {K : PySem.W.Frag} (hK : X.K = K) (hc : X.calm = true) : CallR X (.builtin "sum") (rSumT K) := by
  subst hK
  intro pins s σ H vs us Q I r h
  obtain ⟨a, ns, rfl, hs, q⟩ := h
  obtain ⟨its, rv, hl, _⟩ := I.tuple hs
  rw [Vals.ref1 r]
  exact sum_tup (I.ok.hd hc) hl (ints_of_vals rv) fun h' tk t' hk => ⟨.int _, H, I.kept hk, ⟨_, rfl⟩, q⟩
theorem hu_in {A : Around} {k : Nat} (hr : Room k A) : A.units + 65 < cLine := by
  have := hr.un
  omega
/-! ### tuples of whole numbers as data -/
def dT (ns : List Int) : PyData := .tuple (ns.map PyData.int)
theorem dT_shaped (ns : List Int) : SeqAt.shaped (dT ns) = true := by
  show (PyData.canLayAll0 (ns.map PyData.int) && decide (PyData.depthAll (ns.map PyData.int) + 1 ≤ 64)) = true
  rw [lay_ints, dep_ints]
  rfl
theorem dT_eqv (ns ms : List Int) : PyData.eqv (dT ns) (dT ms) = decide (ns = ms) := by
  rw [← SeqAt.same_eq_eqv _ _ (by unfold dT; simp only [SeqAt.noMix]; exact PySem.W.noMix_ints ns ms)]
  unfold dT
  simp only [PySem.Spec.same]
  exact PySem.W.same_ints ns ms
theorem dp_tup {K : PySem.W.Frag} {H : Hp} {a : Addr} {ns : List Int} (h : H a = some (itup ns)) : Dp K H (.ref a) (dT ns) := .tup (SqT.of h) (dp_ints ns)
theorem alike_ints : ∀ ns ms : List Int, PySem.W.alikeAll (ns.map PyData.int) (ms.map PyData.int) = true
  | [], _ => by simp [PySem.W.alikeAll]
  | _ :: _, [] => by simp [PySem.W.alikeAll]
  | n :: ns, m :: ms => by
    rw [List.map_cons, List.map_cons, PySem.W.alikeAll, alike_ints ns ms]
    simp [PySem.W.alike]
theorem alike_dT (ns ms : List Int) : PySem.W.alike (dT ns) (dT ms) = true := by
  unfold dT
  rw [PySem.W.alike]
  exact alike_ints ns ms
/-- a list of tuples -/
theorem lay_tups : ∀ fs : List (List Int), PyData.canLayAll0 (fs.map dT) = true
  | [] => rfl
  | l :: ls => by
    show (PyData.canLayAll0 (l.map PyData.int) && PyData.canLayAll0 (ls.map dT)) = true
    rw [lay_tups ls, lay_ints l]
    rfl
theorem dep_tups : ∀ fs : List (List Int), PyData.depthAll (fs.map dT) ≤ 1
  | [] => Nat.zero_le _
  | l :: ls => by
    show max (PyData.depthAll (l.map PyData.int) + 1) (PyData.depthAll (ls.map dT)) ≤ 1
    have := dep_tups ls
    rw [dep_ints l]
    omega
theorem dTs_shaped (fs : List (List Int)) : SeqAt.shaped (.list (fs.map dT)) = true := by
  show (PyData.canLayAll0 (fs.map dT) && decide (PyData.depthAll (fs.map dT) + 1 ≤ 64)) = true
  have := dep_tups fs
  rw [lay_tups, decide_eq_true (by omega)]
  rfl
theorem any_dT (fs : List (List Int)) (f : List Int) : ((fs.map dT).any fun z => PyData.eqv z (dT f)) = decide (f ∈ fs) := by
  induction fs with
  | nil => rfl
  | cons g fs ih =>
    rw [List.map_cons, List.any_cons, ih, dT_eqv]
    by_cases h1 : g = f <;> by_cases h2 : f ∈ fs <;> simp [h1, h2, eq_comm]
    exact fun h => h1 h.symm
theorem dp_tups {K : PySem.W.Frag} {H : Hp} : ∀ {fs : Fs}, (∀ q ∈ fs, H q.1 = some (itup (nmap q.2))) → DpAll K H (refF fs) ((fs.map fun q => nmap q.2).map dT)
  | [], _ => .nil
  | z :: zs, h => .cons (dp_tup (h z (List.mem_cons_self ..))) (dp_tups fun x hx => h x (List.mem_cons_of_mem _ hx))
/-- a pair of the sum below nothing and the front -/
def dPr (f : Ft) : PyData := .tuple [.int (0 - (nmap f).sum), dT (nmap f)]
theorem nmap_sum : ∀ f : Ft, (nmap f).sum = (f.sum : Int)
  | [] => rfl
  | k :: f => by
    show (k : Int) + (nmap f).sum = ((k :: f).sum : Nat)
    rw [nmap_sum f, List.sum_cons, Int.natCast_add]
theorem dPr_le {f g : Ft} (h : PySem.W.dataLe false (fun z : PyData => z) (dPr f) (dPr g) = true) : g.sum ≤ f.sum := by
  rw [PySem.W.dataLe_eq] at h
  have h1 : (!PySem.W.dataLt (dPr g) (dPr f)) = true := h
  unfold dPr at h1
  rw [PySem.W.dataLt_pair (by simp [PySem.W.alike]) (alike_dT _ _), PySem.W.dataLt_int] at h1
  rw [nmap_sum, nmap_sum] at h1
  by_cases e : (0 - (g.sum : Int)) = 0 - (f.sum : Int)
  · omega
  · have e2 : PyData.eqv (.int (0 - (g.sum : Int))) (.int (0 - (f.sum : Int))) = false := by simp [PyData.eqv]; omega
    rw [e2] at h1
    simp at h1
    omega
theorem dPr_alike (f g : Ft) : PySem.W.alike (dPr f) (dPr g) = true := by
  unfold dPr
  simp [PySem.W.alike, PySem.W.alikeAll, alike_dT]
theorem dPr_depth (f : Ft) : (dPr f).depth ≤ 60 := by
  unfold dPr dT
  show max (PyData.depth (.int _)) (max (PyData.depthAll ((nmap f).map PyData.int) + 1) (PyData.depthAll [])) + 1 ≤ 60
  rw [dep_ints]
  show max 0 (max (0 + 1) 0) + 1 ≤ 60
  decide
end Fw

/-! t + u and t[lo:hi] of tuples: some tuple with these items, new or not. -/
namespace Fw
open PySem PySem.Spec PyProof.Rows L2
section
variable {X : Cx}
def rCatX : R2 := fun x y H Q => ∃ a b xs ys, x = .ref a ∧ y = .ref b ∧ H a = some (.tup xs) ∧ H b = some (.tup ys) ∧ xs.length + ys.length ≤ sizeLine ∧ ∀ (H2 : Hp) (p : Addr), Same H H2 → H2 p = some (.tup (xs ++ ys)) → Q (.ref p) H2
theorem op_catX : OpR X (binaryOp .Add) rCatX := by
  intro pins s σ H x y v u Q I rx ry h
  obtain ⟨a, b, xs, ys, rfl, rfl, ha, hb, hz, q⟩ := h
  refine op_catA pins s σ H _ _ v u Q I rx ry ⟨a, b, xs, ys, rfl, rfl, SqT.of ha, SqT.of hb, hz, fun e => ?_, fun _ e => ?_, fun _ _ p np => q _ p (same_new np) upd_same⟩
  · subst e
    exact q H b (Same.refl _) hb
  · subst e
    exact q H a (Same.refl _) (by rw [List.append_nil]; exact ha)
def rSlX : V → Option Int → Option Int → Hp → VK → Prop := fun x lo hi H Q => ∃ a xs, x = .ref a ∧ H a = some (.tup xs) ∧ ∀ (H2 : Hp) (p : Addr), Same H H2 → H2 p = some (.tup (cutV xs lo hi)) → Q (.ref p) H2
theorem sl_tupX : SlR X rSlX := by
  intro pins s σ H x v vl vu lo hi sl Q I rx hs pl pu h
  obtain ⟨a, xs, rfl, hx, q⟩ := h
  refine sl_tupA pins s σ H _ v vl vu lo hi sl Q I rx hs pl pu ⟨a, xs, rfl, SqT.of hx, fun e => ?_, fun _ p np => q _ p (same_new np) upd_same⟩
  refine q H a (Same.refl _) ?_
  unfold cutV
  rw [e.1, e.2, List.drop_zero, Nat.sub_zero, List.take_length]
  exact hx
theorem cutV_map (ns : List Int) (lo hi : Option Int) : cutV (ns.map V.int) lo hi = ((ns.drop (HT.sIx ns.length 0 lo)).take (HT.sIx ns.length ns.length hi - HT.sIx ns.length 0 lo)).map V.int := by
  unfold cutV
  rw [List.length_map, List.map_take, List.map_drop]
theorem op_eqDE {K : PySem.W.Frag} (h : X.K = K) (hu : X.A.units + 64 < cLine) : OpR X (compareOp .Eq) (rEqD K) := by
  subst h
  exact op_eqD hu
theorem cr_sumE {K : PySem.W.Frag} (h : X.K = K) (hc : X.calm = true) : CallR X (.builtin "sum") (rSum K) := by
  subst h
  exact cr_sum hc
theorem sl_listE {K : PySem.W.Frag} (h : X.K = K) : SlR X (rSlL K) := by
  subst h
  exact sl_list
end
end Fw

namespace K37
open PySem PySem.Spec PyProof.Rows L2 Fw
def top (i : Nat) : Stmt := PySem.Challenge.pw_foreworth_k37_whole_heights_show_claims.main.body.getD i (.Pass ⟨0, 0, 0, 0⟩)
abbrev s_check_fronts : Stmt := top 5
abbrev s_zeros : Stmt := top 6
abbrev s_steps : Stmt := top 7
abbrev s_reachable : Stmt := top 8
abbrev s_holds : Stmt := top 9
abbrev s_check_heights : Stmt := top 10
abbrev s_l_cell : Stmt := top 12
abbrev s_l_digits : Stmt := top 13
abbrev s_l_seed : Stmt := top 14
abbrev s_l_common : Stmt := top 15
abbrev s_l_few_runs : Stmt := top 16
abbrev s_l_prices : Stmt := top 17
abbrev s_l_symbol_rows : Stmt := top 18
abbrev s_l_due_at : Stmt := top 19
abbrev s_l_ahead : Stmt := top 20
abbrev s_l_fronts : Stmt := top 21
abbrev s_l_heights : Stmt := top 22
abbrev s_l_shows : Stmt := top 23
abbrev s_l_changed : Stmt := top 24
abbrev s_l_table : Stmt := top 25
abbrev s_law : Stmt := top 26
def d_check_fronts : He.DefD := ⟨("check_fronts", none), "check_fronts", "check_fronts", defArgs s_check_fronts, defBody s_check_fronts, defScope s_check_fronts, [], []⟩
def d_zeros : He.DefD := ⟨("zeros", none), "zeros", "zeros", defArgs s_zeros, defBody s_zeros, defScope s_zeros, [], []⟩
def d_steps : He.DefD := ⟨("steps", none), "steps", "steps", defArgs s_steps, defBody s_steps, defScope s_steps, [], []⟩
def d_reachable : He.DefD := ⟨("reachable", none), "reachable", "reachable", defArgs s_reachable, defBody s_reachable, defScope s_reachable, [], []⟩
def d_holds : He.DefD := ⟨("holds", none), "holds", "holds", defArgs s_holds, defBody s_holds, defScope s_holds, [], []⟩
def d_check_heights : He.DefD := ⟨("check_heights", none), "check_heights", "check_heights", defArgs s_check_heights, defBody s_check_heights, defScope s_check_heights, [], []⟩
def d_l_cell : He.DefD := ⟨("_law_cell", none), "_law_cell", "_law_cell", defArgs s_l_cell, defBody s_l_cell, defScope s_l_cell, [], []⟩
def d_l_digits : He.DefD := ⟨("_law_digits", none), "_law_digits", "_law_digits", defArgs s_l_digits, defBody s_l_digits, defScope s_l_digits, [], []⟩
def d_l_seed : He.DefD := ⟨("_law_seed", none), "_law_seed", "_law_seed", defArgs s_l_seed, defBody s_l_seed, defScope s_l_seed, [], []⟩
def d_l_common : He.DefD := ⟨("_law_common", none), "_law_common", "_law_common", defArgs s_l_common, defBody s_l_common, defScope s_l_common, [], []⟩
def d_l_few_runs : He.DefD := ⟨("_law_few_runs", none), "_law_few_runs", "_law_few_runs", defArgs s_l_few_runs, defBody s_l_few_runs, defScope s_l_few_runs, [], []⟩
def d_l_prices : He.DefD := ⟨("_law_prices", none), "_law_prices", "_law_prices", defArgs s_l_prices, defBody s_l_prices, defScope s_l_prices, [], []⟩
def d_l_symbol_rows : He.DefD := ⟨("_law_symbol_rows", none), "_law_symbol_rows", "_law_symbol_rows", defArgs s_l_symbol_rows, defBody s_l_symbol_rows, defScope s_l_symbol_rows, [], []⟩
def d_l_due_at : He.DefD := ⟨("_law_due_at", none), "_law_due_at", "_law_due_at", defArgs s_l_due_at, defBody s_l_due_at, defScope s_l_due_at, [], []⟩
def d_l_ahead : He.DefD := ⟨("_law_ahead", none), "_law_ahead", "_law_ahead", defArgs s_l_ahead, defBody s_l_ahead, defScope s_l_ahead, [], []⟩
def d_l_fronts : He.DefD := ⟨("_law_fronts", none), "_law_fronts", "_law_fronts", defArgs s_l_fronts, defBody s_l_fronts, defScope s_l_fronts, [], []⟩
def d_l_heights : He.DefD := ⟨("_law_heights", none), "_law_heights", "_law_heights", defArgs s_l_heights, defBody s_l_heights, defScope s_l_heights, [], []⟩
def d_l_shows : He.DefD := ⟨("_law_shows", none), "_law_shows", "_law_shows", defArgs s_l_shows, defBody s_l_shows, defScope s_l_shows, [], []⟩
def d_l_changed : He.DefD := ⟨("_law_changed", none), "_law_changed", "_law_changed", defArgs s_l_changed, defBody s_l_changed, defScope s_l_changed, [], []⟩
def d_l_table : He.DefD := ⟨("_law_table", none), "_law_table", "_law_table", defArgs s_l_table, defBody s_l_table, defScope s_l_table, [], []⟩
def d_law : He.DefD := ⟨("law", none), "law", "law", defArgs s_law, defBody s_law, defScope s_law, [], []⟩
def fn : List He.DefD := [d_check_fronts, d_zeros, d_steps, d_reachable, d_holds, d_check_heights, d_l_cell, d_l_digits, d_l_seed, d_l_common, d_l_few_runs, d_l_prices, d_l_symbol_rows, d_l_due_at, d_l_ahead, d_l_fronts, d_l_heights, d_l_shows, d_l_changed, d_l_table, d_law]
def fa : List He.Fa := [.glo "check_fronts", .glo "zeros", .glo "steps", .glo "reachable", .glo "holds", .glo "check_heights", .glo "_law_cell", .glo "_law_digits", .glo "_law_seed", .glo "_law_common", .glo "_law_few_runs", .glo "_law_prices", .glo "_law_symbol_rows", .glo "_law_due_at", .glo "_law_ahead", .glo "_law_fronts", .glo "_law_heights", .glo "_law_shows", .glo "_law_changed", .glo "_law_table", .glo "law", .glo "ForeworthError", .glo "TooLarge", .free "len", .free "abs", .free "range", .free "int", .free "sorted", .free "set", .free "enumerate", .free "sum", .free "tuple", .free "list", .free "ValueError", .int "MOST_FRONTS" (5000)]
def loose : List Str := (["ForeworthError", "TooLarge", "MOST_FRONTS", "check_fronts", "zeros", "steps", "reachable", "holds", "check_heights", "_law_cell", "_law_digits", "_law_seed"] : List Str) ++ (["_law_common", "_law_few_runs", "_law_prices", "_law_symbol_rows", "_law_due_at", "_law_ahead", "_law_fronts", "_law_heights", "_law_shows", "_law_changed", "_law_table"] : List Str)

abbrev R : PySem.W.OpenRow := PySem.W.OpenLaw.row PySem.Challenge.rw_foreworth_k37_whole_heights_show_claims
abbrev hk : PySem.W.Hook := He.hookD 5 fa fn
def ob (s : PySem.W.SharedT) : He.AlD := He.obsDG 5 fa fn (HandSHeadRun.getT s)
theorem ob_eq (s : PySem.W.SharedT) : ob s = hk.obs s.abs := He.obsDG_eq (HandSHeadRun.getT_eq s)
theorem run (w : World) : HandSHeadRun.RunEq R (PySem.W.view R.prog [26]) hk ob 4000 loose w := by
  intro os
  kernel_rfl
theorem sc_check_fronts : FnScope ["rows", "total", "row"] ["rows"] (defScope s_check_fronts) := ⟨rfl, rfl, rfl, by decide +kernel, rfl, by decide +kernel, by decide +kernel⟩
theorem sc_zeros : FnScope ["rows", "row"] ["rows"] (defScope s_zeros) := ⟨rfl, rfl, rfl, by decide +kernel, rfl, by decide +kernel, by decide +kernel⟩
theorem sc_steps : FnScope ["rows", "front", "moved", "k", "row", "symbol"] ["rows", "front"] (defScope s_steps) := ⟨rfl, rfl, rfl, by decide +kernel, rfl, by decide +kernel, by decide +kernel⟩
theorem sc_l_cell : FnScope ["_law_script", "_law_k"] ["_law_script", "_law_k"] (defScope s_l_cell) := ⟨rfl, rfl, rfl, by decide +kernel, rfl, by decide +kernel, by decide +kernel⟩
theorem sc_l_digits : FnScope ["_law_cell_here", "_law_count", "_law_size", "_law_row", "_law_rest", "_law_k", "_law_mixed"] ["_law_cell_here", "_law_count", "_law_size"] (defScope s_l_digits) := ⟨rfl, rfl, rfl, by decide +kernel, rfl, by decide +kernel, by decide +kernel⟩
theorem sc_l_common : FnScope ["_law_prices_here", "_law_lines", "_law_sizes", "_law_total", "_law_size", "_law_best", "_law_back", "_law_code", "_law_front", "_law_rest", "_law_found", "_law_k", "_law_symbol", "_law_step", "_law_ahead_here", "_law_j", "_law_line"] ["_law_prices_here", "_law_lines"] (defScope s_l_common) := ⟨rfl, rfl, rfl, by decide +kernel, rfl, by decide +kernel, by decide +kernel⟩
theorem sc_l_few_runs : FnScope ["_law_runs", "_law_most", "_law_kept", "_law_total", "_law_run"] ["_law_runs", "_law_most"] (defScope s_l_few_runs) := ⟨rfl, rfl, rfl, by decide +kernel, rfl, by decide +kernel, by decide +kernel⟩
theorem sc_l_due_at : FnScope ["_law_rows", "_law_front", "_law_k"] ["_law_rows", "_law_front"] (defScope s_l_due_at) := ⟨rfl, rfl, rfl, by decide +kernel, rfl, by decide +kernel, by decide +kernel⟩
theorem sc_l_ahead : FnScope ["_law_rows", "_law_front", "_law_symbol", "_law_k"] ["_law_rows", "_law_front", "_law_symbol"] (defScope s_l_ahead) := ⟨rfl, rfl, rfl, by decide +kernel, rfl, by decide +kernel, by decide +kernel⟩
theorem sc_l_changed : FnScope ["_law_pairs", "_law_row", "_law_last", "_law_at", "_law_front", "_law_choice", "_law_changed_here", "_law_strange", "_law_pair", "_law_done"] ["_law_pairs", "_law_row", "_law_last"] (defScope s_l_changed) := ⟨rfl, rfl, rfl, by decide +kernel, rfl, by decide +kernel, by decide +kernel⟩
theorem sc_l_table : FnScope ["_law_pairs", "_law_table_here", "_law_pair"] ["_law_pairs"] (defScope s_l_table) := ⟨rfl, rfl, rfl, by decide +kernel, rfl, by decide +kernel, by decide +kernel⟩
theorem sc_reachable : FnScope ["rows", "found", "known", "place", "symbol", "behind"] ["rows"] (defScope s_reachable) := ⟨rfl, rfl, rfl, by decide +kernel, rfl, by decide +kernel, by decide +kernel⟩
theorem sc_holds : FnScope ["prices", "rows", "front", "heights", "pairs", "symbol", "behind"] ["prices", "rows", "front", "heights"] (defScope s_holds) := ⟨rfl, rfl, rfl, by decide +kernel, rfl, by decide +kernel, by decide +kernel⟩
theorem sc_l_seed : FnScope ["_law_script", "_law_k"] ["_law_script", "_law_k"] (defScope s_l_seed) := ⟨rfl, rfl, rfl, by decide +kernel, rfl, by decide +kernel, by decide +kernel⟩
theorem sc_l_prices : FnScope ["_law_cell_here", "_law_count", "_law_choice", "_law_row", "_law_digit"] ["_law_cell_here", "_law_count", "_law_choice"] (defScope s_l_prices) := ⟨rfl, rfl, rfl, by decide +kernel, rfl, by decide +kernel, by decide +kernel⟩
theorem sc_l_symbol_rows : FnScope ["_law_cell_here", "_law_many", "_law_longest", "_law_count", "_law_row", "_law_rows", "_law_k", "_law_first", "_law_size", "_law_digit"] ["_law_cell_here", "_law_many", "_law_longest", "_law_count"] (defScope s_l_symbol_rows) := ⟨rfl, rfl, rfl, by decide +kernel, rfl, by decide +kernel, by decide +kernel⟩
theorem sc_l_fronts : FnScope ["_law_rows", "_law_room", "_law_row", "_law_found", "_law_turn", "_law_symbol", "_law_front"] ["_law_rows"] (defScope s_l_fronts) := ⟨rfl, rfl, rfl, by decide +kernel, rfl, by decide +kernel, by decide +kernel⟩
theorem sc_l_heights : FnScope ["_law_prices_here", "_law_rows", "_law_fronts_here", "_law_heights_here", "_law_pair", "_law_best", "_law_symbol", "_law_price", "_law_front"] ["_law_prices_here", "_law_rows", "_law_fronts_here"] (defScope s_l_heights) := ⟨rfl, rfl, rfl, by decide +kernel, rfl, by decide +kernel, by decide +kernel⟩
theorem sc_l_shows : FnScope ["_law_prices_here", "_law_rows", "_law_fronts_here", "_law_claimed", "_law_claim", "_law_front", "_law_due", "_law_symbol", "_law_behind"] ["_law_prices_here", "_law_rows", "_law_fronts_here", "_law_claimed", "_law_claim"] (defScope s_l_shows) := ⟨rfl, rfl, rfl, by decide +kernel, rfl, by decide +kernel, by decide +kernel⟩
theorem sc_check_heights : FnScope ["prices", "rows", "heights", "claim", "front"] ["prices", "rows", "heights", "claim"] (defScope s_check_heights) := ⟨rfl, rfl, rfl, by decide +kernel, rfl, by decide +kernel, by decide +kernel⟩
theorem sc_law : FnScope ["_law_script", "_law_row", "_law_count", "_law_prices_here", "_law_many", "_law_rows", "_law_fronts_here", "_law_heights_here", "_law_pairs", "_law_k", "_law_turn", "_law_digits_here", "_law_claimed", "_law_least", "_law_first", "_law_claim", "_law_shown", "_law_costs", "_law_handed", "_law_table_here", "_law_told", "_law_front", "_law_one", "_law_symbol"] ["_law_script"] (defScope s_law) := ⟨rfl, rfl, rfl, by decide +kernel, rfl, by decide +kernel, by decide +kernel⟩
structure Txt (K : PySem.W.Frag) (mg : Str → Option Value) : Prop where
  g_check_fronts : mg "check_fronts" = some (.ref (He.ga K "check_fronts"))
  g_zeros : mg "zeros" = some (.ref (He.ga K "zeros"))
  g_steps : mg "steps" = some (.ref (He.ga K "steps"))
  g_reachable : mg "reachable" = some (.ref (He.ga K "reachable"))
  g_holds : mg "holds" = some (.ref (He.ga K "holds"))
  g_check_heights : mg "check_heights" = some (.ref (He.ga K "check_heights"))
  g_l_cell : mg "_law_cell" = some (.ref (He.ga K "_law_cell"))
  g_l_digits : mg "_law_digits" = some (.ref (He.ga K "_law_digits"))
  g_l_seed : mg "_law_seed" = some (.ref (He.ga K "_law_seed"))
  g_l_common : mg "_law_common" = some (.ref (He.ga K "_law_common"))
  g_l_few_runs : mg "_law_few_runs" = some (.ref (He.ga K "_law_few_runs"))
  g_l_prices : mg "_law_prices" = some (.ref (He.ga K "_law_prices"))
  g_l_symbol_rows : mg "_law_symbol_rows" = some (.ref (He.ga K "_law_symbol_rows"))
  g_l_due_at : mg "_law_due_at" = some (.ref (He.ga K "_law_due_at"))
  g_l_ahead : mg "_law_ahead" = some (.ref (He.ga K "_law_ahead"))
  g_l_fronts : mg "_law_fronts" = some (.ref (He.ga K "_law_fronts"))
  g_l_heights : mg "_law_heights" = some (.ref (He.ga K "_law_heights"))
  g_l_shows : mg "_law_shows" = some (.ref (He.ga K "_law_shows"))
  g_l_changed : mg "_law_changed" = some (.ref (He.ga K "_law_changed"))
  g_l_table : mg "_law_table" = some (.ref (He.ga K "_law_table"))
  g_law : mg "law" = some (.ref (He.ga K "law"))
  g_ForeworthError : mg "ForeworthError" = some (.ref (He.ga K "ForeworthError"))
  g_TooLarge : mg "TooLarge" = some (.ref (He.ga K "TooLarge"))
  z_len : mg "len" = none
  z_abs : mg "abs" = none
  z_range : mg "range" = none
  z_int : mg "int" = none
  z_sorted : mg "sorted" = none
  z_set : mg "set" = none
  z_enumerate : mg "enumerate" = none
  z_sum : mg "sum" = none
  z_tuple : mg "tuple" = none
  z_list : mg "list" = none
  z_ValueError : mg "ValueError" = none
  k_MOST_FRONTS : ∃ t, mg "MOST_FRONTS" = some (.int (5000) t)
  f_check_fronts : ∃ fd, FunD K "check_fronts" "check_fronts" (defArgs s_check_fronts) (defBody s_check_fronts) (defScope s_check_fronts) [] [] (He.ga K "check_fronts") fd
  f_zeros : ∃ fd, FunD K "zeros" "zeros" (defArgs s_zeros) (defBody s_zeros) (defScope s_zeros) [] [] (He.ga K "zeros") fd
  f_steps : ∃ fd, FunD K "steps" "steps" (defArgs s_steps) (defBody s_steps) (defScope s_steps) [] [] (He.ga K "steps") fd
  f_reachable : ∃ fd, FunD K "reachable" "reachable" (defArgs s_reachable) (defBody s_reachable) (defScope s_reachable) [] [] (He.ga K "reachable") fd
  f_holds : ∃ fd, FunD K "holds" "holds" (defArgs s_holds) (defBody s_holds) (defScope s_holds) [] [] (He.ga K "holds") fd
  f_check_heights : ∃ fd, FunD K "check_heights" "check_heights" (defArgs s_check_heights) (defBody s_check_heights) (defScope s_check_heights) [] [] (He.ga K "check_heights") fd
  f_l_cell : ∃ fd, FunD K "_law_cell" "_law_cell" (defArgs s_l_cell) (defBody s_l_cell) (defScope s_l_cell) [] [] (He.ga K "_law_cell") fd
  f_l_digits : ∃ fd, FunD K "_law_digits" "_law_digits" (defArgs s_l_digits) (defBody s_l_digits) (defScope s_l_digits) [] [] (He.ga K "_law_digits") fd
  f_l_seed : ∃ fd, FunD K "_law_seed" "_law_seed" (defArgs s_l_seed) (defBody s_l_seed) (defScope s_l_seed) [] [] (He.ga K "_law_seed") fd
  f_l_common : ∃ fd, FunD K "_law_common" "_law_common" (defArgs s_l_common) (defBody s_l_common) (defScope s_l_common) [] [] (He.ga K "_law_common") fd
  f_l_few_runs : ∃ fd, FunD K "_law_few_runs" "_law_few_runs" (defArgs s_l_few_runs) (defBody s_l_few_runs) (defScope s_l_few_runs) [] [] (He.ga K "_law_few_runs") fd
  f_l_prices : ∃ fd, FunD K "_law_prices" "_law_prices" (defArgs s_l_prices) (defBody s_l_prices) (defScope s_l_prices) [] [] (He.ga K "_law_prices") fd
  f_l_symbol_rows : ∃ fd, FunD K "_law_symbol_rows" "_law_symbol_rows" (defArgs s_l_symbol_rows) (defBody s_l_symbol_rows) (defScope s_l_symbol_rows) [] [] (He.ga K "_law_symbol_rows") fd
  f_l_due_at : ∃ fd, FunD K "_law_due_at" "_law_due_at" (defArgs s_l_due_at) (defBody s_l_due_at) (defScope s_l_due_at) [] [] (He.ga K "_law_due_at") fd
  f_l_ahead : ∃ fd, FunD K "_law_ahead" "_law_ahead" (defArgs s_l_ahead) (defBody s_l_ahead) (defScope s_l_ahead) [] [] (He.ga K "_law_ahead") fd
  f_l_fronts : ∃ fd, FunD K "_law_fronts" "_law_fronts" (defArgs s_l_fronts) (defBody s_l_fronts) (defScope s_l_fronts) [] [] (He.ga K "_law_fronts") fd
  f_l_heights : ∃ fd, FunD K "_law_heights" "_law_heights" (defArgs s_l_heights) (defBody s_l_heights) (defScope s_l_heights) [] [] (He.ga K "_law_heights") fd
  f_l_shows : ∃ fd, FunD K "_law_shows" "_law_shows" (defArgs s_l_shows) (defBody s_l_shows) (defScope s_l_shows) [] [] (He.ga K "_law_shows") fd
  f_l_changed : ∃ fd, FunD K "_law_changed" "_law_changed" (defArgs s_l_changed) (defBody s_l_changed) (defScope s_l_changed) [] [] (He.ga K "_law_changed") fd
  f_l_table : ∃ fd, FunD K "_law_table" "_law_table" (defArgs s_l_table) (defBody s_l_table) (defScope s_l_table) [] [] (He.ga K "_law_table") fd
  f_law : ∃ fd, FunD K "law" "law" (defArgs s_law) (defBody s_law) (defScope s_law) [] [] (He.ga K "law") fd
theorem txt_of {K : PySem.W.Frag} {mg : Str → Option Value} {h : Heap} (X : K.In h) (G : h.Ns mainGlobals mg) (c : He.SaysD fa fn K) : Txt K mg where
  g_check_fronts := He.glo_ok X G (c.fact 0 (f := .glo "check_fronts") rfl)
  g_zeros := He.glo_ok X G (c.fact 1 (f := .glo "zeros") rfl)
  g_steps := He.glo_ok X G (c.fact 2 (f := .glo "steps") rfl)
  g_reachable := He.glo_ok X G (c.fact 3 (f := .glo "reachable") rfl)
  g_holds := He.glo_ok X G (c.fact 4 (f := .glo "holds") rfl)
  g_check_heights := He.glo_ok X G (c.fact 5 (f := .glo "check_heights") rfl)
  g_l_cell := He.glo_ok X G (c.fact 6 (f := .glo "_law_cell") rfl)
  g_l_digits := He.glo_ok X G (c.fact 7 (f := .glo "_law_digits") rfl)
  g_l_seed := He.glo_ok X G (c.fact 8 (f := .glo "_law_seed") rfl)
  g_l_common := He.glo_ok X G (c.fact 9 (f := .glo "_law_common") rfl)
  g_l_few_runs := He.glo_ok X G (c.fact 10 (f := .glo "_law_few_runs") rfl)
  g_l_prices := He.glo_ok X G (c.fact 11 (f := .glo "_law_prices") rfl)
  g_l_symbol_rows := He.glo_ok X G (c.fact 12 (f := .glo "_law_symbol_rows") rfl)
  g_l_due_at := He.glo_ok X G (c.fact 13 (f := .glo "_law_due_at") rfl)
  g_l_ahead := He.glo_ok X G (c.fact 14 (f := .glo "_law_ahead") rfl)
  g_l_fronts := He.glo_ok X G (c.fact 15 (f := .glo "_law_fronts") rfl)
  g_l_heights := He.glo_ok X G (c.fact 16 (f := .glo "_law_heights") rfl)
  g_l_shows := He.glo_ok X G (c.fact 17 (f := .glo "_law_shows") rfl)
  g_l_changed := He.glo_ok X G (c.fact 18 (f := .glo "_law_changed") rfl)
  g_l_table := He.glo_ok X G (c.fact 19 (f := .glo "_law_table") rfl)
  g_law := He.glo_ok X G (c.fact 20 (f := .glo "law") rfl)
  g_ForeworthError := He.glo_ok X G (c.fact 21 (f := .glo "ForeworthError") rfl)
  g_TooLarge := He.glo_ok X G (c.fact 22 (f := .glo "TooLarge") rfl)
  z_len := He.free_ok X G (c.fact 23 (f := .free "len") rfl)
  z_abs := He.free_ok X G (c.fact 24 (f := .free "abs") rfl)
  z_range := He.free_ok X G (c.fact 25 (f := .free "range") rfl)
  z_int := He.free_ok X G (c.fact 26 (f := .free "int") rfl)
  z_sorted := He.free_ok X G (c.fact 27 (f := .free "sorted") rfl)
  z_set := He.free_ok X G (c.fact 28 (f := .free "set") rfl)
  z_enumerate := He.free_ok X G (c.fact 29 (f := .free "enumerate") rfl)
  z_sum := He.free_ok X G (c.fact 30 (f := .free "sum") rfl)
  z_tuple := He.free_ok X G (c.fact 31 (f := .free "tuple") rfl)
  z_list := He.free_ok X G (c.fact 32 (f := .free "list") rfl)
  z_ValueError := He.free_ok X G (c.fact 33 (f := .free "ValueError") rfl)
  k_MOST_FRONTS := He.int_ok X G (c.fact 34 (f := .int "MOST_FRONTS" (5000)) rfl)
  f_check_fronts := c.def_ 0 (d := d_check_fronts) rfl
  f_zeros := c.def_ 1 (d := d_zeros) rfl
  f_steps := c.def_ 2 (d := d_steps) rfl
  f_reachable := c.def_ 3 (d := d_reachable) rfl
  f_holds := c.def_ 4 (d := d_holds) rfl
  f_check_heights := c.def_ 5 (d := d_check_heights) rfl
  f_l_cell := c.def_ 6 (d := d_l_cell) rfl
  f_l_digits := c.def_ 7 (d := d_l_digits) rfl
  f_l_seed := c.def_ 8 (d := d_l_seed) rfl
  f_l_common := c.def_ 9 (d := d_l_common) rfl
  f_l_few_runs := c.def_ 10 (d := d_l_few_runs) rfl
  f_l_prices := c.def_ 11 (d := d_l_prices) rfl
  f_l_symbol_rows := c.def_ 12 (d := d_l_symbol_rows) rfl
  f_l_due_at := c.def_ 13 (d := d_l_due_at) rfl
  f_l_ahead := c.def_ 14 (d := d_l_ahead) rfl
  f_l_fronts := c.def_ 15 (d := d_l_fronts) rfl
  f_l_heights := c.def_ 16 (d := d_l_heights) rfl
  f_l_shows := c.def_ 17 (d := d_l_shows) rfl
  f_l_changed := c.def_ 18 (d := d_l_changed) rfl
  f_l_table := c.def_ 19 (d := d_l_table) rfl
  f_law := c.def_ 20 (d := d_law) rfl

end K37

/-! The promises of the defs. -/
namespace K37
open PySem PySem.Spec PyProof.Rows L2 Fw Lay
def PrOk (pr : List Int) : Prop := 0 < pr.length ∧ pr.length ≤ 1000 ∧ ∀ x ∈ pr, 1 ≤ x
def sp_l_cell (K : PySem.W.Frag) : Sp := fun vs H Q _ => ∃ (a : Addr) (ns : List Int) (k : Nat), vs = [.ref a, .int k] ∧ SqL K H a (ns.map V.int) ∧ ∀ c : Int, 0 ≤ c → Q (.int c) H
def sp_l_digits (K : PySem.W.Frag) : Sp := fun vs H Q _ => ∃ (c m : Int) (n : Nat), vs = [.int c, .int n, .int m] ∧ 0 ≤ c ∧ n ≤ 100000 ∧ 0 < m ∧ m < 1073741824 ∧
  ∀ (H2 : Hp) (p : Addr) (ds : List Int), Same H H2 → H p = none → H2 p = some (ilst ds) → ds.length = n → (∀ d ∈ ds, 0 ≤ d ∧ d < m) → Q (.ref p) H2
def sp_l_seed (K : PySem.W.Frag) : Sp := fun vs H Q _ => ∃ (a : Addr) (ns : List Int) (k : Nat), vs = [.ref a, .int k] ∧ SqL K H a (ns.map V.int) ∧ k ≤ 1000 ∧ ∀ (c : Int) (H2 : Hp), 0 ≤ c → Same H H2 → Q (.int c) H2
def sp_l_prices (K : PySem.W.Frag) : Sp := fun vs H Q _ => ∃ (c ch : Int) (n : Nat), vs = [.int c, .int n, .int ch] ∧ 0 ≤ c ∧ n ≤ 1000 ∧
  ∀ (H2 : Hp) (p : Addr) (pr : List Int), Same H H2 → H p = none → H2 p = some (ilst pr) → pr.length = n → (∀ x ∈ pr, 1 ≤ x) → Q (.ref p) H2
def sp_l_few_runs (K : PySem.W.Frag) : Sp := fun vs H Q _ => ∃ (a : Addr) (zs : Ws) (m : Nat), vs = [.ref a, .int m] ∧ SqL K H a (refL zs) ∧ LL K H zs ∧ zs.length ≤ 1000 ∧ 0 < m ∧ m ≤ 1000 ∧
  ∀ (H2 : Hp) (p : Addr) (ks : Ws), Same H H2 → H p = none → H2 p = some (.lst (refL ks)) → ks.Sublist zs → prodL (ks.map (·.2)) ≤ m → (∀ z, zs[0]? = some z → z.2.length + 1 ≤ m → ks ≠ []) → Q (.ref p) H2
def sp_l_common (K : PySem.W.Frag) : Sp := fun vs H Q _ => ∃ (a b : Addr) (pr : List Int) (zs : Ws), vs = [.ref a, .ref b] ∧ SqL K H a (pr.map V.int) ∧ PrOk pr ∧ SqL K H b (refL zs) ∧ LL K H zs ∧ zs.length ≤ 1000 ∧ (∀ z ∈ zs, ∀ s ∈ z.2, 0 ≤ s ∧ s < (pr.length : Int)) ∧ prodL (zs.map (·.2)) ≤ 100000 ∧
  ∀ (H2 : Hp) (v : Int), Same H H2 → Least (pw pr) (zs.map (·.2)) v → Q (.int v) H2
def sp_law (K : PySem.W.Frag) : Sp := fun vs H Q _ => ∃ (a : Addr) (ns : List Int), vs = [.ref a] ∧ SqL K H a (ns.map V.int) ∧ ns.length ≤ 63 ∧ ∀ H2 : Hp, Q (.bl true) H2
def Rows (K : PySem.W.Frag) (H : Hp) (a : Addr) (zs : Ws) : Prop := SqL K H a (refL zs) ∧ LL K H zs ∧ zs.length ≤ 63 ∧ ∀ z ∈ zs, z.2.length ≤ 1000
theorem Rows.same {K : PySem.W.Frag} {H H2 : Hp} {a : Addr} {zs : Ws} (h : Rows K H a zs) (s : Same H H2) : Rows K H2 a zs := ⟨s.seq h.1, h.2.1.same s, h.2.2⟩
def sp_check_fronts (K : PySem.W.Frag) : Sp := fun vs H Q _ => ∃ (a : Addr) (zs : Ws), vs = [.ref a] ∧ Rows K H a zs ∧ prodL (zs.map (·.2)) ≤ 5000 ∧ Q .non H
def sp_zeros (K : PySem.W.Frag) : Sp := fun vs H Q _ => ∃ (a : Addr) (zs : Ws), vs = [.ref a] ∧ Rows K H a zs ∧
  ∀ (H2 : Hp) (p : Addr), Same H H2 → H p = none → H2 p = some (itup (nmap (f0 (zs.map (·.2))))) → Q (.ref p) H2
def sp_steps (K : PySem.W.Frag) : Sp := fun vs H Q _ => ∃ (a t : Addr) (zs : Ws) (f : Ft), vs = [.ref a, .ref t] ∧ Rows K H a zs ∧ H t = some (itup (nmap f)) ∧ FOk (zs.map (·.2)) f ∧
  ∀ (H2 : Hp) (p : Addr) (ps : Ps), Same H H2 → H p = none → H2 p = some (.lst (refP ps)) → PsOk H2 (zs.map (·.2)) f ps → ps.length ≤ 63 → Q (.ref p) H2
def sp_reachable (K : PySem.W.Frag) : Sp := fun vs H Q _ => ∃ (a : Addr) (zs : Ws), vs = [.ref a] ∧ Rows K H a zs ∧ prodL (zs.map (·.2)) ≤ 5000 ∧
  ∀ (H2 : Hp) (p : Addr) (fs : Fs), Same H H2 → H p = none → H2 p = some (.lst (refF fs)) → FsOk H2 (zs.map (·.2)) fs → (∀ f, f ∈ fs.map (·.2) ↔ Rch (zs.map (·.2)) f) → Q (.ref p) H2
def sp_holds (K : PySem.W.Frag) : Sp := fun vs H Q _ => ∃ (c a t d : Addr) (pr : List Int) (zs : Ws) (f : Ft) (kvs : List (List L2.Key × V)), vs = [.ref c, .ref a, .ref t, .ref d] ∧ SqL K H c (pr.map V.int) ∧ PrOk pr ∧ Rows K H a zs ∧ SyOk pr.length (zs.map (·.2)) ∧
  H t = some (itup (nmap f)) ∧ FOk (zs.map (·.2)) f ∧ H d = some (.dT kvs) ∧ IntD kvs ∧ ∀ (H2 : Hp) (b : Bool), Same H H2 → (b = true ↔ Shown (pw pr) (zs.map (·.2)) (hofK kvs) f) → Q (.bl b) H2
def sp_check_heights (K : PySem.W.Frag) : Sp := fun vs H Q _ => ∃ (c a d : Addr) (cl : Int) (pr : List Int) (zs : Ws) (kvs : List (List L2.Key × V)), vs = [.ref c, .ref a, .ref d, .int cl] ∧ SqL K H c (pr.map V.int) ∧ PrOk pr ∧ Rows K H a zs ∧ SyOk pr.length (zs.map (·.2)) ∧ prodL (zs.map (·.2)) ≤ 5000 ∧
  H d = some (.dT kvs) ∧ IntD kvs ∧ ∀ (H2 : Hp) (b : Bool), Same H H2 → (b = true ↔ ShowC (pw pr) (zs.map (·.2)) kvs cl) → Q (.bl b) H2
def sp_l_due_at (K : PySem.W.Frag) : Sp := fun vs H Q _ => ∃ (a t : Addr) (zs : Ws) (f : Ft), vs = [.ref a, .ref t] ∧ Rows K H a zs ∧ H t = some (itup (nmap f)) ∧ FOk (zs.map (·.2)) f ∧
  ∀ (H2 : Hp) (p : Addr) (ys : List Int), Same H H2 → H p = none → H2 p = some (ilst ys) → (∀ b, b ∈ ys ↔ Sym (zs.map (·.2)) f b) → ys.length ≤ 63 → Q (.ref p) H2
def sp_l_ahead (K : PySem.W.Frag) : Sp := fun vs H Q _ => ∃ (a t : Addr) (b : Int) (zs : Ws) (f : Ft), vs = [.ref a, .ref t, .int b] ∧ Rows K H a zs ∧ H t = some (itup (nmap f)) ∧ FOk (zs.map (·.2)) f ∧
  ∀ (H2 : Hp) (p : Addr), Same H H2 → H p = none → H2 p = some (itup (nmap (fstep b (zs.map (·.2)) f))) → Q (.ref p) H2
def sp_l_fronts (K : PySem.W.Frag) : Sp := fun vs H Q _ => ∃ (a : Addr) (zs : Ws), vs = [.ref a] ∧ Rows K H a zs ∧ prodL (zs.map (·.2)) ≤ 5000 ∧
  ∀ (H2 : Hp) (p : Addr) (fs : Fs), Same H H2 → H p = none → H2 p = some (.lst (refF fs)) → FsOk H2 (zs.map (·.2)) fs → (∃ q, fs[0]? = some q ∧ q.2 = f0 (zs.map (·.2))) → (∀ f, f ∈ fs.map (·.2) ↔ Rch (zs.map (·.2)) f) → Q (.ref p) H2
def sp_l_heights (K : PySem.W.Frag) : Sp := fun vs H Q _ => ∃ (c a g : Addr) (pr : List Int) (zs : Ws) (fs : Fs), vs = [.ref c, .ref a, .ref g] ∧ SqL K H c (pr.map V.int) ∧ PrOk pr ∧ Rows K H a zs ∧ SyOk pr.length (zs.map (·.2)) ∧ prodL (zs.map (·.2)) ≤ 5000 ∧
  H g = some (.lst (refF fs)) ∧ FsOk H (zs.map (·.2)) fs ∧ (∀ f ∈ fs.map (·.2), ∀ b, Sym (zs.map (·.2)) f b → fstep b (zs.map (·.2)) f ∈ fs.map (·.2)) ∧
  ∀ (H2 : Hp) (p : Addr) (kvs : List (List L2.Key × V)), Same H H2 → H p = none → H2 p = some (.dT kvs) → (∀ f ∈ fs.map (·.2), Hts (pw pr) (zs.map (·.2)) kvs f) → Q (.ref p) H2
def sp_l_shows (K : PySem.W.Frag) : Sp := fun vs H Q _ => ∃ (c a g d : Addr) (cl : Int) (pr : List Int) (zs : Ws) (fs : Fs) (kvs : List (List L2.Key × V)), vs = [.ref c, .ref a, .ref g, .ref d, .int cl] ∧ SqL K H c (pr.map V.int) ∧ PrOk pr ∧ Rows K H a zs ∧ SyOk pr.length (zs.map (·.2)) ∧
  H g = some (.lst (refF fs)) ∧ FsOk H (zs.map (·.2)) fs ∧ (∃ q, fs[0]? = some q ∧ q.2 = f0 (zs.map (·.2))) ∧ (∀ f, f ∈ fs.map (·.2) ↔ Rch (zs.map (·.2)) f) ∧ H d = some (.dT kvs) ∧ IntD kvs ∧
  ∀ (H2 : Hp) (b : Bool), Same H H2 → (b = true ↔ ShowC (pw pr) (zs.map (·.2)) kvs cl) → Q (.bl b) H2
/-- pairs of a tuple and a number -/
abbrev Qs := List (Addr × (Addr × List Int) × Int)
abbrev refQ (qs : Qs) : List V := qs.map fun q => V.ref q.1
def QsOk (H : Hp) (qs : Qs) : Prop := ∀ q ∈ qs, H q.1 = some (.tup [.ref q.2.1.1, .int q.2.2]) ∧ H q.2.1.1 = some (itup q.2.1.2)
theorem QsOk.same {H H2 : Hp} {qs : Qs} (h : QsOk H qs) (s : Same H H2) : QsOk H2 qs := fun q hq => ⟨s _ _ (h q hq).1, s _ _ (h q hq).2⟩
theorem refQ_get {qs : Qs} {i : Nat} {x : V} (h : (refQ qs)[i]? = some x) : ∃ q, qs[i]? = some q ∧ q ∈ qs ∧ x = .ref q.1 := by
  unfold refQ at h
  rw [List.getElem?_map] at h
  cases e : qs[i]? with
  | none =>
    rw [e] at h
    cases h
  | some z =>
    rw [e] at h
    exact ⟨z, rfl, List.mem_of_getElem? e, (Option.some.inj h).symm⟩
def ikey (ns : List Int) : List L2.Key := ns.map Sum.inl
theorem ikey_kV (ns : List Int) : (ikey ns).map kV = ns.map V.int := by
  unfold ikey
  rw [List.map_map]
  rfl
def tblK (qs : Qs) : List (List L2.Key × V) := qs.foldl (fun k q => putK k (ikey q.2.1.2) (V.int q.2.2)) []
theorem intD_put {kvs : List (List L2.Key × V)} (h : IntD kvs) (k : List L2.Key) (i : Int) : IntD (putK kvs k (.int i)) := by
  unfold putK
  split
  · intro q hq
    obtain ⟨p, hp, e⟩ := List.mem_map.mp hq
    split at e
    · rw [← e]
      exact ⟨i, rfl⟩
    · rw [← e]
      exact h p hp
  · intro q hq
    rcases List.mem_append.mp hq with hq | hq
    · exact h q hq
    · rw [List.mem_singleton.mp hq]
      exact ⟨i, rfl⟩
theorem tblK_snoc (qs : Qs) (q : Addr × (Addr × List Int) × Int) : tblK (qs ++ [q]) = putK (tblK qs) (ikey q.2.1.2) (.int q.2.2) := by
  unfold tblK
  rw [List.foldl_append]
  rfl
theorem tblK_int (qs : Qs) : IntD (tblK qs) := by
  unfold tblK
  have : ∀ (qs : Qs) (k : List (List L2.Key × V)), IntD k → IntD (qs.foldl (fun k q => putK k (ikey q.2.1.2) (V.int q.2.2)) k) := fun qs => by
    induction qs with
    | nil => exact fun k h => h
    | cons q qs ih => exact fun k h => ih _ (intD_put h _ _)
  exact this qs [] fun q hq => nomatch hq
def sp_l_table (K : PySem.W.Frag) : Sp := fun vs H Q _ => ∃ (a : Addr) (qs : Qs), vs = [.ref a] ∧ SqL K H a (refQ qs) ∧ QsOk H qs ∧ qs.length ≤ 100000 ∧ ∀ (H2 : Hp) (p : Addr), Same H H2 → H p = none → H2 p = some (.dT (tblK qs)) → Q (.ref p) H2
def sp_l_changed (K : PySem.W.Frag) : Sp := fun vs H Q _ => ∃ (a r l : Addr) (qs : Qs) (n : Nat) (ds lt : List Int), vs = [.ref a, .ref r, .ref l] ∧ SqL K H a (refQ qs) ∧ QsOk H qs ∧ qs.length ≤ 6000 ∧ (∀ q ∈ qs, q.2.1.2.length ≤ n) ∧ n ≤ 900 ∧ SqL K H r (ds.map V.int) ∧ ds.length = 4 ∧ (∀ d ∈ ds, 0 ≤ d ∧ d < 55440) ∧ H l = some (itup lt) ∧
  ∀ (H2 : Hp) (p : Addr) (qs2 : Qs), Same H H2 → H p = none → H2 p = some (.lst (refQ qs2)) → QsOk H2 qs2 → qs2.length ≤ qs.length + 1 → (∀ q ∈ qs2, q.2.1.2.length ≤ n + 1) → Q (.ref p) H2
def sp_l_symbol_rows (K : PySem.W.Frag) : Sp := fun vs H Q _ => ∃ (c : Int) (n m k : Nat), vs = [.int c, .int n, .int m, .int k] ∧ 0 ≤ c ∧ n ≤ 100 ∧ m ≤ 100 ∧ 0 < k ∧ k ≤ 1000 ∧
  ∀ (H2 : Hp) (p : Addr) (zs : Ws), Same H H2 → H p = none → H2 p = some (.lst (refL zs)) → (∀ z ∈ zs, H2 z.1 = some (ilst z.2)) → zs.length = n → (∀ z ∈ zs, z.2.length ≤ m ∧ ∀ s ∈ z.2, 0 ≤ s ∧ s < (k : Int)) → Q (.ref p) H2
end K37

namespace K37
open PySem PySem.Spec PyProof.Rows L2 Fw Lay
section
variable {P : Program} {w : World} {K : PySem.W.Frag} {mg : Str → Option Value} {base : Heap}
theorem ok_l_cell (T : Txt K mg) : Good P w K mg base 1 (He.ga K "_law_cell") ["_law_script", "_law_k"] [] (sp_l_cell K) := by
  refine good_of T.f_l_cell sc_l_cell (fun vs H Q E h => ?_) (fun _ _ _ _ _ _ us hl => match us, hl with | [_, _], _ => rfl) (fun cdv A outer s H vs Q E hr h => ?_)
  · obtain ⟨_, _, _, rfl, _⟩ := h
    rfl
  refine ⟨_, (pss_cons (ps_if (pt_cmpR op_lt (pv 1) (pe_callB call_len_seq (by rfl) T.z_len (by decide +kernel) (pa_cons (pv 0) pa_nil)) (nomark _))
    (pss_one (ps_ret (pe_callB call_abs (by rfl) T.z_abs (by decide +kernel) (pa_cons (pe_ix ix_list (pv 0) (pv 1) (fun _ _ => rfl)) pa_nil))))
    pss_nil)
  (pss_one (ps_ret pe_int))), ?_⟩
  obtain ⟨a, ns, k, rfl, hS, q⟩ := h
  refine ⟨_, rfl, .ref a, rfl, a, _, rfl, .inl hS, _, _, rfl, rfl, _, rfl, ite2 (fun e => ?_) (fun e => ?_)⟩
  · have lt : k < ns.length := by
      have e2 := of_decide_eq_true e
      rw [List.length_map] at e2
      omega
    have g : (ns.map V.int)[k]? = some (.int ns[k]) := by
      rw [List.getElem?_map, List.getElem?_eq_getElem lt]
      rfl
    refine ⟨.ref a, rfl, _, rfl, a, _, _, _, rfl, rfl, hS, atI_nat g, _, rfl, ?_⟩
    refine q _ ?_
    split <;> omega
  · exact q 0 (Int.le_refl 0)
theorem ok_l_digits (T : Txt K mg) : Good P w K mg base 1 (He.ga K "_law_digits") ["_law_cell_here", "_law_count", "_law_size"] [] (sp_l_digits K) := by
  refine good_of T.f_l_digits sc_l_digits (fun vs H Q E h => ?_) (fun _ _ _ _ _ _ us hl => match us, hl with | [_, _, _], _ => rfl) (fun cdv A outer s H vs Q E hr h => ?_)
  · obtain ⟨_, _, _, rfl, _⟩ := h
    rfl
  refine ⟨_, (pss_cons (ps_set (i := 3) sc_l_digits.nd rfl (Or.inl rfl) (pe_lst pa_nil))
  (pss_cons (ps_set (i := 4) sc_l_digits.nd rfl (Or.inl rfl) (pv 0))
  (pss_cons (ps_for PassesOwn.never rfl (pi_range1 (by rfl) T.z_range (pa_cons (pv 1) pa_nil)) (pg_name (i := 5) sc_l_digits.nd rfl (Or.inl rfl))
    (pss_one (ps_if (pw_and (pt_cmpR op_ge (pv 0) (pe_op op_pow pe_int pe_int) (nomark _)) (pw_and1 (pt_cmpR op_gt (pv 4) pe_int (nomark _)))).pt
    (pss_cons (ps_expr (pe_bm PySem.F.plainAttrs_list PySem.F.slot_list_append PySem.F.type_list_append mt_append (pv 3) (pa_cons (pe_op op_mod (pe_callTy call_int1 (by rfl) T.z_int (by decide +kernel) (pa_cons (pv 4) pa_nil)) (pv 2)) pa_nil)))
  (pss_one (ps_set (i := 4) sc_l_digits.nd rfl (Or.inl rfl) (pe_op op_fdivW (pv 4) (pv 2)))))
    (pss_cons (ps_set (i := 6) sc_l_digits.nd rfl (Or.inl rfl) (pe_op op_mod (pe_callTy call_int1 (by rfl) T.z_int (by decide +kernel) (pa_cons (pe_op op_add (pe_op op_add (pv 0) (pe_op op_mul pe_int (pv 5))) pe_int) pa_nil)) pe_int))
  (pss_cons (ps_set (i := 6) sc_l_digits.nd rfl (Or.inl rfl) (pe_op op_mod (pe_callTy call_int1 (by rfl) T.z_int (by decide +kernel) (pa_cons (pe_op op_mul (pv 6) (pe_op op_add (pv 6) pe_int)) pa_nil)) pe_int))
  (pss_cons (ps_set (i := 6) sc_l_digits.nd rfl (Or.inl rfl) (pe_op op_mod (pe_callTy call_int1 (by rfl) T.z_int (by decide +kernel) (pa_cons (pe_op op_add (pe_op op_mul (pv 6) (pe_op op_add (pv 6) pe_int)) (pe_op op_mul pe_int (pv 5))) pa_nil)) pe_int))
  (pss_one (ps_expr (pe_bm PySem.F.plainAttrs_list PySem.F.slot_list_append PySem.F.type_list_append mt_append (pv 3) (pa_cons (pe_op op_mod (pe_callTy call_int1 (by rfl) T.z_int (by decide +kernel) (pa_cons (pe_op op_fdiv (pv 6) pe_int) pa_nil)) (pv 2)) pa_nil))))))))))
  (pss_one (ps_ret (pv 3)))))), ?_⟩
  obtain ⟨c, m, n, rfl, c0, n1, m0, m1, q⟩ := h
  refine ⟨Nat.zero_le _, fun l nl => ⟨_, rfl, ?_⟩⟩
  refine ⟨_, rfl, (n : Int), rfl, by omega, by omega, for_range (n := n) (fun i σ H2 => Same H H2 ∧ (∃ ds, H2 l = some (ilst ds) ∧ ds.length = i ∧ ∀ d ∈ ds, 0 ≤ d ∧ d < m) ∧ ∃ (rest : Int) (y1 y2 : Option V), σ = [some (.int c), some (.int n), some (.int m), some (.ref l), some (.int rest), y1, y2])
    ⟨same_new nl, ⟨[], upd_same, rfl, fun d hd => (nomatch hd)⟩, c, none, none, rfl⟩ ?_ ?_⟩
  · rintro i σ H2 hi ⟨sm, ⟨ds, hL, len, bd⟩, rest, y1, y2, rfl⟩
    have push : ∀ (v : Int), 0 ≤ v → v < m → Same H (upd H2 l (.lst (ds.map V.int ++ [.int v]))) ∧ (∃ es, upd H2 l (.lst (ds.map V.int ++ [.int v])) l = some (ilst es) ∧ es.length = i + 1 ∧ ∀ d ∈ es, 0 ≤ d ∧ d < m) := fun v v0 v1 => by
      refine ⟨same_mut sm nl, ds ++ [v], ?_, ?_, fun d hd => ?_⟩
      · rw [upd_same]
        unfold ilst
        rw [List.map_append]
        rfl
      · rw [List.length_append, len]
        rfl
      · rcases List.mem_append.mp hd with hd | hd
        · exact bd d hd
        · rw [List.mem_singleton.mp hd]
          exact ⟨v0, v1⟩
    have room : (ds.map V.int).length < sizeLine := by
      rw [List.length_map, sizeLine_eq]
      omega
    have md : ∀ v : Int, 0 ≤ v % m ∧ v % m < m := fun v => ⟨Int.emod_nonneg _ (by omega), Int.emod_lt_of_pos _ m0⟩
    refine ⟨_, rfl, _, _, rfl, rfl, ⟨by decide, by decide, by decide⟩, _, _, rfl, rfl, _, rfl, if2 (fun e1 => ⟨_, rfl, _, _, rfl, rfl, _, rfl, if2 (fun e2 => ?A) (fun _ => ?B)⟩) (fun _ => iteF ?B2)⟩
    case A =>
      refine ⟨.ref l, rfl, .inl ⟨rfl, _, SqL.of hL⟩, _, rfl, .inl ⟨_, rfl, _, rfl, _, _, rfl, rfl, m0, l, _, _, rfl, rfl, hL, room, ?_⟩⟩
      refine ⟨_, rfl, _, rfl, _, _, rfl, rfl, wide_div (b := 30) m0 (by omega) (by decide) (by decide), ?_⟩
      obtain ⟨s1, s2⟩ := push (rest % m) (md _).1 (md _).2
      exact ⟨s1, s2, _, _, _, rfl⟩
    all_goals
      refine ⟨_, rfl, _, rfl, _, _, rfl, rfl, .inl ⟨by decide, by decide⟩, _, _, rfl, rfl, _, _, rfl, rfl, .inl ⟨_, rfl, _, _, rfl, rfl, (by show (0 : Int) < 2147483647; decide), ?_⟩⟩
      refine ⟨_, rfl, _, rfl, _, _, rfl, rfl, _, _, rfl, rfl, .inl ⟨by omega, by omega⟩, .inl ⟨_, rfl, _, _, rfl, rfl, (by show (0 : Int) < 2147483629; decide), ?_⟩⟩
      refine ⟨_, rfl, _, rfl, _, _, rfl, rfl, _, _, rfl, rfl, .inl ⟨by omega, by omega⟩, _, rfl, _, _, rfl, rfl, .inl ⟨by decide, by decide⟩, _, _, rfl, rfl, .inl ⟨_, rfl, _, _, rfl, rfl, (by show (0 : Int) < 2147483647; decide), ?_⟩⟩
      refine ⟨.ref l, rfl, .inl ⟨rfl, _, SqL.of hL⟩, _, rfl, _, _, rfl, rfl, ⟨by decide, by decide⟩, .inl ⟨_, rfl, _, rfl, _, _, rfl, rfl, m0, l, _, _, rfl, rfl, hL, room, ?_⟩⟩
      obtain ⟨s1, s2⟩ := push _ (md _).1 (md _).2
      exact ⟨s1, s2, _, _, _, rfl⟩
  · rintro σ H2 ⟨sm, ⟨ds, hL, len, bd⟩, rest, y1, y2, rfl⟩
    exact ⟨.ref l, rfl, q H2 l ds sm nl hL len bd⟩
theorem ok_l_few_runs (T : Txt K mg) : Good P w K mg base 1 (He.ga K "_law_few_runs") ["_law_runs", "_law_most"] [] (sp_l_few_runs K) := by
  refine good_of T.f_l_few_runs sc_l_few_runs (fun vs H Q E h => ?_) (fun _ _ _ _ _ _ us hl => match us, hl with | [_, _], _ => rfl) (fun cdv A outer s H vs Q E hr h => ?_)
  · obtain ⟨_, _, _, rfl, _⟩ := h
    rfl
  refine ⟨_, (pss_cons (ps_set (i := 2) sc_l_few_runs.nd rfl (Or.inl rfl) (pe_lst pa_nil))
  (pss_cons (ps_set (i := 3) sc_l_few_runs.nd rfl (Or.inl rfl) pe_int)
  (pss_cons (ps_for PassesOwn.never rfl (pi_list (pv 0)) (pg_name (i := 4) sc_l_few_runs.nd rfl (Or.inl rfl))
    (pss_one (ps_if (pt_cmpR op_le (pe_op op_mul (pv 3) (pe_op op_add (pe_callB call_len_seq (by rfl) T.z_len (by decide +kernel) (pa_cons (pv 4) pa_nil)) pe_int)) (pv 1) (nomark _))
    (pss_cons (ps_expr (pe_bm PySem.F.plainAttrs_list PySem.F.slot_list_append PySem.F.type_list_append mt_append (pv 2) (pa_cons (pv 4) pa_nil)))
  (pss_one (ps_set (i := 3) sc_l_few_runs.nd rfl (Or.inl rfl) (pe_op op_mul (pv 3) (pe_op op_add (pe_callB call_len_seq (by rfl) T.z_len (by decide +kernel) (pa_cons (pv 4) pa_nil)) pe_int)))))
    pss_nil)))
  (pss_one (ps_ret (pv 2)))))), ?_⟩
  obtain ⟨a, zs, m, rfl, hS, hL, hl, m0, m1, q⟩ := h
  refine ⟨Nat.zero_le _, fun l nl => ?_⟩
  refine ⟨.ref a, rfl, a, rfl, ⟨_, (same_new nl).seq hS⟩, for_list (K := K) (a := a) (xs := refL zs) (fun i σ H2 => Same H H2 ∧ (∃ ks : Ws, H2 l = some (.lst (refL ks)) ∧ ks.Sublist (zs.take i) ∧ prodL (ks.map (·.2)) ≤ m ∧ (∀ z, zs[0]? = some z → z.2.length + 1 ≤ m → 0 < i → ks ≠ []) ∧ ∃ y, σ = [some (.ref a), some (.int m), some (.ref l), some (.int (prodL (ks.map (·.2)) : Nat)), y]))
    ⟨same_new nl, [], upd_same, List.Sublist.refl _, m0, fun z _ _ h => absurd h (Nat.lt_irrefl 0), none, rfl⟩ (fun i σ H2 _ hp => hp.1.seq hS) ?_ ?_⟩
  · rintro i x σ H2 hi ⟨sm, ks, hK, sub, le, ne, y, rfl⟩
    obtain ⟨z, hz, hzm, rfl⟩ := refL_get hi
    have hil : i < zs.length := (List.getElem?_eq_some_iff.mp hz).1
    have hzL := (hL.same sm) z hzm
    have kl : ks.length ≤ i := by
      have := sub.length_le
      rw [List.length_take] at this
      omega
    have e0 : ((prodL (ks.map (·.2)) : Nat) : Int) * (((z.2.map V.int).length : Int) + 1) = ((prodL ((ks ++ [z]).map (·.2)) : Nat) : Int) := by
      rw [List.map_append, List.length_map]
      show _ = ((prodL (ks.map (·.2) ++ [z.2]) : Nat) : Int)
      rw [prodL_snoc]
      rfl
    refine ⟨_, rfl, .ref z.1, rfl, z.1, _, rfl, .inl hzL, _, _, rfl, rfl, _, _, rfl, rfl, .inl ⟨by omega, by omega⟩, _, rfl, _, _, rfl, rfl, _, rfl, if2 (fun e1 => ?_) (fun e1 => ?_)⟩
    · rw [e0] at e1
      refine ⟨.ref l, rfl, .inl ⟨rfl, _, SqL.of hK⟩, _, rfl, l, _, _, rfl, rfl, hK, small1000 (by unfold refL; rw [List.length_map]; omega), ?_⟩
      · have hz2 : SqL K (upd H2 l (.lst (refL ks ++ [V.ref z.1]))) z.1 (z.2.map V.int) := (same_mut sm nl).seq (hL z hzm)
        refine ⟨_, rfl, .ref z.1, rfl, z.1, _, rfl, .inl hz2, _, _, rfl, rfl, _, _, rfl, rfl, .inl ⟨by omega, by omega⟩, ?_⟩
        refine ⟨same_mut sm nl, ks ++ [z], ?_, ?_, by omega, fun _ _ _ _ => by simp, some (.ref z.1), ?_⟩
        · rw [upd_same]
          unfold refL
          rw [List.map_append]
          rfl
        · rw [List.take_add_one, hz]
          exact sub.append (List.Sublist.refl _)
        · rw [← e0]
          rfl
    · refine ⟨sm, ks, hK, ?_, le, fun w hw h1 _ => ?_, _, rfl⟩
      · rw [List.take_add_one]
        exact sub.trans (List.sublist_append_left _ _)
      · by_cases h0 : 0 < i
        · exact ne w hw h1 h0
        · exfalso
          have hi0 : i = 0 := by omega
          subst hi0
          rw [hz] at hw
          have hzw := Option.some.inj hw
          have hk0 : ks = [] := List.length_eq_zero_iff.mp (by omega)
          subst hk0
          rw [e0] at e1
          subst hzw
          apply e1
          show ((prodL [z.2] : Nat) : Int) ≤ m
          have e5 : prodL [z.2] = (z.2.length + 1) * 1 := rfl
          rw [e5]
          omega
  · rintro σ H2 ⟨sm, ks, hK, sub, le, ne, y, rfl⟩
    have e1 : (refL zs).length = zs.length := List.length_map ..
    rw [e1] at sub ne
    refine ⟨.ref l, rfl, q H2 l ks sm nl hK (sub.trans (List.take_sublist _ _)) le fun z hz h1 => ne z hz h1 ?_⟩
    exact (List.getElem?_eq_some_iff.mp hz).1
theorem ok_l_seed (T : Txt K mg) : Good P w K mg base 2 (He.ga K "_law_seed") ["_law_script", "_law_k"] [] (sp_l_seed K) := by
  refine good_of T.f_l_seed sc_l_seed (fun vs H Q E h => ?_) (fun _ _ _ _ _ _ us hl => match us, hl with | [_, _], _ => rfl) (fun cdv A outer s H vs Q E hr h => ?_)
  · obtain ⟨_, _, _, rfl, _⟩ := h
    rfl
  refine ⟨_, (pss_cons (ps_if (pt_cmpR op_lt (pv 1) (pe_callB call_len_seq (by rfl) T.z_len (by decide +kernel) (pa_cons (pv 0) pa_nil)) (nomark _))
    (pss_one (ps_ret (pe_callB call_abs (by rfl) T.z_abs (by decide +kernel) (pa_cons (pe_ix ix_list (pv 0) (pv 1) (fun _ _ => rfl)) pa_nil))))
    pss_nil)
  (pss_one (ps_ret (pe_ix ix_list (pe_cg (ok_l_digits T) (hr.mono (j := 1) (by decide)) (by rfl) T.g_l_digits (pa_cons (pe_op op_add (pe_op op_add (pe_cg (ok_l_cell T) (hr.mono (j := 1) (by decide)) (by rfl) T.g_l_cell (pa_cons (pv 0) (pa_cons pe_int pa_nil))) (pe_op op_mul pe_int (pv 1))) pe_int) (pa_cons pe_int (pa_cons (pe_op op_pow pe_int pe_int) pa_nil)))) pe_int (fun _ _ => rfl))))), ?_⟩
  obtain ⟨a, ns, k, rfl, hS, hk, q⟩ := h
  refine ⟨_, rfl, .ref a, rfl, a, _, rfl, .inl hS, _, _, rfl, rfl, _, rfl, if2 (fun e => ?_) (fun e => ?_)⟩
  · have lt : k < ns.length := by
      rw [List.length_map] at e
      omega
    refine ⟨.ref a, rfl, _, rfl, a, _, _, _, rfl, rfl, hS, atI_nat (get_map (List.getElem?_eq_getElem lt)), _, rfl, ?_⟩
    refine q _ H ?_ (Same.refl H)
    split <;> omega
  · refine ⟨.ref a, rfl, a, ns, 0, rfl, hS, fun c hc => ?_⟩
    refine ⟨_, rfl, _, _, rfl, rfl, .inl ⟨by decide, by decide⟩, _, _, rfl, rfl, _, _, rfl, rfl, _, _, rfl, rfl, ⟨by decide, by decide, by decide⟩, _, _, 1, rfl, by omega, by decide, by decide, by decide, fun H2 p ds sm np hp len bd => ?_⟩
    obtain ⟨d, rfl⟩ := List.length_eq_one_iff.mp len
    exact ⟨p, _, 0, _, rfl, rfl, SqL.of hp, rfl, q d H2 (bd d (List.mem_singleton.mpr rfl)).1 sm⟩
theorem ok_l_prices (T : Txt K mg) : Good P w K mg base 2 (He.ga K "_law_prices") ["_law_cell_here", "_law_count", "_law_choice"] [] (sp_l_prices K) := by
  refine good_of T.f_l_prices sc_l_prices (fun vs H Q E h => ?_) (fun _ _ _ _ _ _ us hl => match us, hl with | [_, _, _], _ => rfl) (fun cdv A outer s H vs Q E hr h => ?_)
  · obtain ⟨_, _, _, rfl, _⟩ := h
    rfl
  refine ⟨_, (pss_cons (ps_set (i := 3) sc_l_prices.nd rfl (Or.inl rfl) (pe_cg (ok_l_digits T) (hr.mono (j := 1) (by decide)) (by rfl) T.g_l_digits (pa_cons (pv 0) (pa_cons (pv 1) (pa_cons (pe_op op_pow pe_int pe_int) pa_nil)))))
  (pss_cons (ps_if (pt_cmpR op_eq (pv 2) pe_int (nomark _))
    (pss_one (ps_ret (pe_op op_rep (pe_lst (pa_cons pe_int pa_nil)) (pv 1))))
    pss_nil)
  (pss_cons (ps_if (pt_cmpR op_eq (pv 2) pe_int (nomark _))
    (pss_one (ps_ret (pe_lc (own := [("_law_digit", 4)]) (g := (gName 4)) (tt := tYes) rfl sc_l_prices.nd (pi_list (pv 3)) (blkOk_by (own := [("_law_digit", 4)]) (N := ["_law_cell_here", "_law_count", "_law_choice", "_law_row", "_law_digit"]) (sc := defScope s_l_prices) (by decide +kernel)) (fun _ _ _ _ _ => (pg_name (i := 4) sc_l_prices.nd rfl (Or.inl rfl))) (fun _ _ _ _ _ => pts_nil) (fun _ _ _ _ _ => (pe_op op_add pe_int (pe_op op_mod (pe_callTy call_int1 (by rfl) T.z_int (by decide +kernel) (pa_cons (pv 4) pa_nil)) pe_int))))))
    pss_nil)
  (pss_cons (ps_if (pt_cmpR op_eq (pv 2) pe_int (nomark _))
    (pss_one (ps_ret (pe_lc (own := [("_law_digit", 4)]) (g := (gName 4)) (tt := tYes) rfl sc_l_prices.nd (pi_list (pv 3)) (blkOk_by (own := [("_law_digit", 4)]) (N := ["_law_cell_here", "_law_count", "_law_choice", "_law_row", "_law_digit"]) (sc := defScope s_l_prices) (by decide +kernel)) (fun _ _ _ _ _ => (pg_name (i := 4) sc_l_prices.nd rfl (Or.inl rfl))) (fun _ _ _ _ _ => pts_nil) (fun _ _ _ _ _ => (pe_op op_add pe_int (pe_op op_mod (pe_callTy call_int1 (by rfl) T.z_int (by decide +kernel) (pa_cons (pv 4) pa_nil)) pe_int))))))
    pss_nil)
  (pss_one (ps_ret (pe_lc (own := [("_law_digit", 4)]) (g := (gName 4)) (tt := tYes) rfl sc_l_prices.nd (pi_list (pv 3)) (blkOk_by (own := [("_law_digit", 4)]) (N := ["_law_cell_here", "_law_count", "_law_choice", "_law_row", "_law_digit"]) (sc := defScope s_l_prices) (by decide +kernel)) (fun _ _ _ _ _ => (pg_name (i := 4) sc_l_prices.nd rfl (Or.inl rfl))) (fun _ _ _ _ _ => pts_nil) (fun _ _ _ _ _ => (pe_op op_add pe_int (pv 4)))))))))), ?_⟩
  obtain ⟨c, ch, n, rfl, c0, n1, q⟩ := h
  refine ⟨_, rfl, _, rfl, _, _, rfl, rfl, ⟨by decide, by decide, by decide⟩, c, _, n, rfl, c0, by omega, by decide, by decide, fun H2 p ds sm np hp len bd => ?_⟩
  refine ⟨_, rfl, rfl, _, rfl, if2 (fun e1 => ?_) (fun e1 => ?_)⟩
  · refine ⟨by show 1 ≤ sizeLine; decide, fun o no => ?_⟩
    refine ⟨_, rfl, o, _, _, rfl, rfl, upd_same, by omega, by omega, ?_, fun be nbe => ?_⟩
    · rw [sizeLine_eq]
      show 1 * ((n : Nat) : Int).toNat ≤ 16777216
      omega
    refine q _ be (List.replicate n 1) ((sm.trans (same_new no)).trans (same_new nbe)) ((sm.trans (same_new no)).free nbe) ?_ (List.length_replicate ..) (fun x hx => ?_)
    · rw [upd_same, List.flatten_replicate_singleton]
      unfold ilst
      rw [List.map_replicate]
      rfl
    · rw [List.eq_of_mem_replicate hx]
      exact Int.le_refl _
  have go : ∀ (f : Int → Int), (∀ d ∈ ds, 1 ≤ f d) → ∀ (D : Addr) (H3 : Hp), H2 D = none → Same H2 H3 → H3 D = some (ilst (ds.map f)) → Q (.ref D) H3 := fun f hf D H3 nD s3 hD => by
    refine q H3 D (ds.map f) (sm.trans s3) (sm.free nD) hD (by rw [List.length_map, len]) fun x hx => ?_
    obtain ⟨d, hd, rfl⟩ := List.mem_map.mp hx
    exact hf d hd
  have hS : ∀ {H3 : Hp}, Same H2 H3 → SqL K H3 p (ds.map V.int) := fun s => SqL.of (s _ _ hp)
  have push : ∀ (f : Int → Int) (D : Addr) (i : Nat) (d : Int) (H3 : Hp), H2 D = none → Same H2 H3 → H3 D = some (ilst ((ds.take i).map f)) → ds[i]? = some d →
      ((ds.take i).map f |>.map V.int).length < sizeLine ∧ Same H2 (upd H3 D (.lst (((ds.take i).map f).map V.int ++ [.int (f d)]))) ∧ upd H3 D (.lst (((ds.take i).map f).map V.int ++ [.int (f d)])) D = some (ilst ((ds.take (i + 1)).map f)) := fun f D i d H3 nD s3 hD hd => by
    refine ⟨small1000 (by rw [List.length_map, List.length_map, List.length_take]; omega), same_mut s3 nD, ?_⟩
    rw [upd_same, List.take_add_one, hd, List.map_append]
    unfold ilst
    rw [List.map_append]
    rfl
  have tk : ds.take ((ds.map V.int).length) = ds := List.take_of_length_le (by rw [List.length_map]; exact Nat.le_refl _)
  refine ⟨_, rfl, rfl, _, rfl, if2 (fun e2 => ?_) (fun e2 => ?_)⟩
  · refine ⟨.ref p, rfl, p, rfl, ⟨_, hS (Same.refl _)⟩, fun D hD => lc_list (K := K) (a := p) (xs := ds.map V.int) (fun i H3 => Same H2 H3 ∧ H3 D = some (ilst ((ds.take i).map fun d => 1 + d % 3))) ⟨same_new hD, upd_same⟩ (fun i H3 _ hp => hS hp.1) ?_ ?_⟩
    · rintro i x H3 hi ⟨s3, h3⟩
      obtain ⟨d, hd, rfl⟩ := map_get hi
      obtain ⟨r1, r2, r3⟩ := push (fun d => 1 + d % 3) D i d H3 hD s3 h3 hd
      exact ⟨rfl, yes_then ⟨_, rfl, .inl ⟨_, rfl, _, _, rfl, rfl, (by show (0 : Int) < 3; decide), _, _, rfl, rfl, _, h3, r1, r2, r3⟩⟩⟩
    · rintro H3 ⟨s3, h3⟩
      rw [tk] at h3
      exact go _ (fun d _ => by omega) D H3 hD s3 h3
  refine ⟨_, rfl, rfl, _, rfl, if2 (fun e3 => ?_) (fun e3 => ?_)⟩
  · refine ⟨.ref p, rfl, p, rfl, ⟨_, hS (Same.refl _)⟩, fun D hD => lc_list (K := K) (a := p) (xs := ds.map V.int) (fun i H3 => Same H2 H3 ∧ H3 D = some (ilst ((ds.take i).map fun d => 1 + d % 9))) ⟨same_new hD, upd_same⟩ (fun i H3 _ hp => hS hp.1) ?_ ?_⟩
    · rintro i x H3 hi ⟨s3, h3⟩
      obtain ⟨d, hd, rfl⟩ := map_get hi
      obtain ⟨r1, r2, r3⟩ := push (fun d => 1 + d % 9) D i d H3 hD s3 h3 hd
      exact ⟨rfl, yes_then ⟨_, rfl, .inl ⟨_, rfl, _, _, rfl, rfl, (by show (0 : Int) < 9; decide), _, _, rfl, rfl, _, h3, r1, r2, r3⟩⟩⟩
    · rintro H3 ⟨s3, h3⟩
      rw [tk] at h3
      exact go _ (fun d _ => by omega) D H3 hD s3 h3
  · refine ⟨.ref p, rfl, p, rfl, ⟨_, hS (Same.refl _)⟩, fun D hD => lc_list (K := K) (a := p) (xs := ds.map V.int) (fun i H3 => Same H2 H3 ∧ H3 D = some (ilst ((ds.take i).map fun d => 1 + d))) ⟨same_new hD, upd_same⟩ (fun i H3 _ hp => hS hp.1) ?_ ?_⟩
    · rintro i x H3 hi ⟨s3, h3⟩
      obtain ⟨d, hd, rfl⟩ := map_get hi
      obtain ⟨r1, r2, r3⟩ := push (fun d => 1 + d) D i d H3 hD s3 h3 hd
      exact ⟨rfl, yes_then ⟨_, rfl, _, _, rfl, rfl, _, h3, r1, r2, r3⟩⟩
    · rintro H3 ⟨s3, h3⟩
      rw [tk] at h3
      exact go _ (fun d hd => by have := bd d hd; omega) D H3 hD s3 h3
end
end K37

namespace K37
open PySem PySem.Spec PyProof.Rows L2 Fw Lay
section
variable {P : Program} {w : World} {K : PySem.W.Frag} {mg : Str → Option Value} {base : Heap}
theorem ok_l_common (T : Txt K mg) : Good P w K mg base 1 (He.ga K "_law_common") ["_law_prices_here", "_law_lines"] [] (sp_l_common K) := by
  refine good_of T.f_l_common sc_l_common (fun vs H Q E h => ?_) (fun _ _ _ _ _ _ us hl => match us, hl with | [_, _], _ => rfl) (fun cdv A outer s H vs Q E hr h => ?_)
  · obtain ⟨_, _, _, _, rfl, _⟩ := h
    rfl
  refine ⟨_, (pss_cons (ps_setLc (i := 2) (own := [("_law_line", 16)]) (g := (gName 16)) (tt := tYes) rfl sc_l_common.nd rfl rfl (sw_true rfl rfl rfl (by decide +kernel)) (pi_list (pv 1)) (blkOk_by (own := [("_law_line", 16)]) (N := ["_law_prices_here", "_law_lines", "_law_sizes", "_law_total", "_law_size", "_law_best", "_law_back", "_law_code", "_law_front", "_law_rest", "_law_found", "_law_k", "_law_symbol", "_law_step", "_law_ahead_here", "_law_j", "_law_line"]) (sc := defScope s_l_common) (by decide +kernel)) (fun _ _ _ _ _ => (pg_name (i := 16) sc_l_common.nd rfl (Or.inl rfl))) (fun _ _ _ _ _ => pts_nil) (fun _ _ _ _ _ => (pe_op op_add (pe_callB (call_lenE (K := K) rfl) (by rfl) T.z_len (by decide +kernel) (pa_cons (pv 16) pa_nil)) pe_int)))
  (pss_cons (ps_set (i := 3) sc_l_common.nd rfl (Or.inl rfl) pe_int)
  (pss_cons (ps_for PassesOwn.never rfl (pi_list (pv 2)) (pg_name (i := 4) sc_l_common.nd rfl (Or.inl rfl))
    (pss_one (ps_set (i := 3) sc_l_common.nd rfl (Or.inl rfl) (pe_op op_mul (pv 3) (pv 4)))))
  (pss_cons (ps_set (i := 5) sc_l_common.nd rfl (Or.inl rfl) (pe_op op_rep (pe_lst (pa_cons pe_int pa_nil)) (pv 3)))
  (pss_cons (ps_for PassesOwn.never rfl (pi_range1 (by rfl) T.z_range (pa_cons (pe_op op_sub (pv 3) pe_int) pa_nil)) (pg_name (i := 6) sc_l_common.nd rfl (Or.inl rfl))
    (pss_cons (ps_set (i := 7) sc_l_common.nd rfl (Or.inl rfl) (pe_op op_sub (pe_op op_sub (pv 3) pe_int) (pv 6)))
  (pss_cons (ps_set (i := 8) sc_l_common.nd rfl (Or.inl rfl) (pe_lst pa_nil))
  (pss_cons (ps_set (i := 9) sc_l_common.nd rfl (Or.inl rfl) (pv 7))
  (pss_cons (ps_for PassesOwn.never rfl (pi_list (pv 2)) (pg_name (i := 4) sc_l_common.nd rfl (Or.inl rfl))
    (pss_cons (ps_expr (pe_bm PySem.F.plainAttrs_list PySem.F.slot_list_append PySem.F.type_list_append mt_append (pv 8) (pa_cons (pe_op op_mod (pe_callTy call_int1 (by rfl) T.z_int (by decide +kernel) (pa_cons (pv 9) pa_nil)) (pv 4)) pa_nil)))
  (pss_one (ps_set (i := 9) sc_l_common.nd rfl (Or.inl rfl) (pe_op op_fdiv (pv 9) (pv 4))))))
  (pss_cons (ps_set (i := 10) sc_l_common.nd rfl (Or.inl rfl) (pe_un un_neg pe_int))
  (pss_cons (ps_for PassesOwn.never rfl (pi_range1 (by rfl) T.z_range (pa_cons (pe_callB call_len_seq (by rfl) T.z_len (by decide +kernel) (pa_cons (pv 1) pa_nil)) pa_nil)) (pg_name (i := 11) sc_l_common.nd rfl (Or.inl rfl))
    (pss_one (ps_if (pt_cmpR op_lt (pe_ix ix_list (pv 8) (pv 11) (fun _ _ => rfl)) (pe_callB call_len_seq (by rfl) T.z_len (by decide +kernel) (pa_cons (pe_ix ix_list (pv 1) (pv 11) (fun _ _ => rfl)) pa_nil)) (nomark _))
    (pss_cons (ps_set (i := 12) sc_l_common.nd rfl (Or.inl rfl) (pe_ix ix_list (pe_ix ix_list (pv 1) (pv 11) (fun _ _ => rfl)) (pe_ix ix_list (pv 8) (pv 11) (fun _ _ => rfl)) (fun _ _ => rfl)))
  (pss_cons (ps_set (i := 13) sc_l_common.nd rfl (Or.inl rfl) pe_int)
  (pss_cons (ps_set (i := 14) sc_l_common.nd rfl (Or.inl rfl) (pv 7))
  (pss_cons (ps_for PassesOwn.never rfl (pi_range1 (by rfl) T.z_range (pa_cons (pe_callB call_len_seq (by rfl) T.z_len (by decide +kernel) (pa_cons (pv 1) pa_nil)) pa_nil)) (pg_name (i := 15) sc_l_common.nd rfl (Or.inl rfl))
    (pss_cons (ps_if (pw_and (pt_cmpR op_lt (pe_ix ix_list (pv 8) (pv 15) (fun _ _ => rfl)) (pe_callB call_len_seq (by rfl) T.z_len (by decide +kernel) (pa_cons (pe_ix ix_list (pv 1) (pv 15) (fun _ _ => rfl)) pa_nil)) (nomark _)) (pw_and1 (pt_cmpR op_eq (pe_ix ix_list (pe_ix ix_list (pv 1) (pv 15) (fun _ _ => rfl)) (pe_ix ix_list (pv 8) (pv 15) (fun _ _ => rfl)) (fun _ _ => rfl)) (pv 12) (nomark _)))).pt
    (pss_one (ps_set (i := 14) sc_l_common.nd rfl (Or.inl rfl) (pe_op op_add (pv 14) (pv 13))))
    pss_nil)
  (pss_one (ps_set (i := 13) sc_l_common.nd rfl (Or.inl rfl) (pe_op op_mul (pv 13) (pe_ix ix_list (pv 2) (pv 15) (fun _ _ => rfl)))))))
  (pss_one (ps_if (pw_or (pt_cmpR op_lt (pv 10) pe_int (nomark _)) (pw_or1 (pt_cmpR op_lt (pe_op op_add (pe_ix ix_list (pv 0) (pv 12) (fun _ _ => rfl)) (pe_ix ix_list (pv 5) (pv 14) (fun _ _ => rfl))) (pv 10) (nomark _)))).pt
    (pss_one (ps_set (i := 10) sc_l_common.nd rfl (Or.inl rfl) (pe_op op_add (pe_ix ix_list (pv 0) (pv 12) (fun _ _ => rfl)) (pe_ix ix_list (pv 5) (pv 14) (fun _ _ => rfl)))))
    pss_nil))))))
    pss_nil)))
  (pss_one (ps_asg (pv 10) (pg_sub (pv 5) (pv 7) set_list))))))))))
  (pss_one (ps_ret (pe_ix ix_list (pv 5) pe_int (fun _ _ => rfl))))))))), ?_⟩
  obtain ⟨a, b, pr, zs, rfl, hA, ⟨p0, p1, p2⟩, hS, hL, hl, hsym, hP, q⟩ := h
  obtain ⟨ls, els⟩ : ∃ ls : Ls, ls = zs.map (·.2) := ⟨_, rfl⟩
  rw [← els] at hP q
  have hlen : ls.length = zs.length := by rw [els, List.length_map]
  have hget : ∀ {i : Nat} {z : Addr × List Int}, zs[i]? = some z → ls[i]? = some z.2 := fun h => by
    rw [els, List.getElem?_map, h]
    rfl
  have hmem : ∀ {z : Addr × List Int}, z ∈ zs → z.2.length + 1 ≤ prodL ls := fun h => mem_le_prod (by rw [els]; exact List.mem_map_of_mem h)
  refine ⟨.ref b, rfl, b, rfl, ⟨_, hS⟩, fun D hD => lc_list (K := K) (a := b) (xs := refL zs) (fun i H2 => Same H H2 ∧ H2 D = some (ilst ((ls.take i).map fun l => (l.length : Int) + 1)))
    ⟨same_new hD, upd_same⟩ (fun i H2 _ hp => hp.1.seq hS) ?_ ?_⟩
  · rintro i x H2 hi ⟨sm, hE⟩
    obtain ⟨z, hz, hzm, rfl⟩ := refL_get hi
    have hilt := (List.getElem?_eq_some_iff.mp hz).1
    refine ⟨rfl, yes_then ?_⟩
    refine ⟨.ref z.1, rfl, z.1, _, rfl, .inl ((hL.same sm) z hzm), _, _, rfl, rfl, _, hE, small1000 (by rw [List.length_map, List.length_map, List.length_take]; omega), same_mut sm hD, ?_⟩
    rw [upd_same, List.take_add_one, hget hz, List.map_append]
    unfold ilst
    rw [List.map_append, List.length_map]
    rfl
  rintro H2 ⟨sm, hE⟩
  rw [List.take_of_length_le (by unfold refL; rw [List.length_map]; omega)] at hE
  -- total
  refine ⟨.ref D, rfl, D, rfl, ⟨_, SqL.of hE⟩, for_list (K := K) (a := D) (xs := (ls.map fun l => (l.length : Int) + 1).map V.int) (fun i σ H3 => H3 = H2 ∧ ∃ y : Option V, σ = [some (.ref a), some (.ref b), some (.ref D), some (.int (prodL (ls.take i) : Nat)), y, none, none, none, none, none, none, none, none, none, none, none, none])
    ⟨rfl, none, rfl⟩ (fun i σ H3 _ hp => by rw [hp.1]; exact SqL.of hE) ?_ ?_⟩
  · rintro i x σ H3 hi ⟨rfl, y, rfl⟩
    obtain ⟨s, hs, rfl⟩ := map_get hi
    rw [List.getElem?_map] at hs
    obtain ⟨l, hl2, e⟩ := Option.map_eq_some_iff.mp hs
    have h1 := mem_le_prod (List.mem_of_getElem? hl2)
    refine ⟨_, rfl, _, rfl, _, _, rfl, rfl, .inr ⟨by omega, by omega⟩, rfl, some (.int s), ?_⟩
    have e2 : ((prodL (ls.take (i + 1)) : Nat) : Int) = (prodL (ls.take i) : Nat) * s := by
      rw [List.take_add_one, hl2]
      show ((prodL (ls.take i ++ [l]) : Nat) : Int) = _
      rw [prodL_snoc, ← e]
      rfl
    rw [e2]
    rfl
  rintro σ H3 ⟨rfl, y, rfl⟩
  rw [List.take_of_length_le (by rw [List.length_map, List.length_map]; exact Nat.le_refl _)]
  have hpos := prodL_pos ls
  -- best
  refine ⟨by show 1 ≤ sizeLine; decide, fun o no => ?_⟩
  refine ⟨_, rfl, o, _, _, rfl, rfl, upd_same, by omega, by omega, ?_, fun be nbe => ?_⟩
  · rw [sizeLine_eq]
    show 1 * ((prodL ls : Nat) : Int).toNat ≤ 16777216
    omega
  have e0 : (List.replicate ((prodL ls : Nat) : Int).toNat [V.int 0]).flatten = (List.replicate (prodL ls) (0 : Int)).map V.int := by
    rw [List.flatten_replicate_singleton, List.map_replicate]
    rfl
  have sm1 := sm.trans (same_new (o := .lst [V.int 0]) no)
  have sm2 := sm1.trans (same_new (o := .lst (List.replicate ((prodL ls : Nat) : Int).toNat [V.int 0]).flatten) nbe)
  have hbe : H be = none := sm1.free nbe
  have hB : upd (upd H3 o (.lst [V.int 0])) be (.lst (List.replicate ((prodL ls : Nat) : Int).toNat [V.int 0]).flatten) be = some (ilst (List.replicate (prodL ls) (0 : Int))) := by
    rw [upd_same, e0]
  have hE2 : upd (upd H3 o (.lst [V.int 0])) be (.lst (List.replicate ((prodL ls : Nat) : Int).toNat [V.int 0]).flatten) D = some (ilst (ls.map fun l => (l.length : Int) + 1)) := same_new nbe _ _ (same_new no _ _ hE)
  generalize upd (upd H3 o (.lst [V.int 0])) be (.lst (List.replicate ((prodL ls : Nat) : Int).toNat [V.int 0]).flatten) = Hb at sm2 hB hE2 ⊢
  have hDbe : D ≠ be := fun e => by
    rw [e] at hE
    have := same_new (o := .lst [V.int 0]) no _ _ hE
    rw [nbe] at this
    cases this
  refine ⟨_, rfl, _, _, rfl, rfl, _, rfl, by omega, by omega, for_range (n := ((prodL ls : Nat) - (1 : Int)).toNat) (fun i σ H4 => Same H H4 ∧ H4 D = some (ilst (ls.map fun l => (l.length : Int) + 1)) ∧ (∃ bs : List Int, H4 be = some (ilst bs) ∧ bs.length = prodL ls ∧ ∀ c, prodL ls - 1 - i ≤ c → c < prodL ls → ∃ v, bs[c]? = some v ∧ Least (pw pr) (restsL ls c) v) ∧
      ∃ y4 y6 y7 y8 y9 y10 y11 y12 y13 y14 y15 : Option V, σ = [some (.ref a), some (.ref b), some (.ref D), some (.int (prodL ls : Nat)), y4, some (.ref be), y6, y7, y8, y9, y10, y11, y12, y13, y14, y15, none])
    ⟨sm2, hE2, ⟨_, hB, List.length_replicate .., fun c h1 h2 => ?_⟩, _, _, _, _, _, _, _, _, _, _, _, rfl⟩ ?_ ?_⟩
  · have ec : c = prodL ls - 1 := by omega
    refine ⟨0, ?_, ?_⟩
    · rw [List.getElem?_replicate, if_pos h2]
    · rw [ec]
      exact least_end (pw_nonneg p2) (rests_last ls)
  · rintro i σ H4 hi ⟨s4, hE4, ⟨bs, hB4, hbl, hbs⟩, y4, y6, y7, y8, y9, y10, y11, y12, y13, y14, y15, rfl⟩
    obtain ⟨c, hc⟩ : ∃ c : Nat, ((prodL ls : Nat) : Int) - 2 - (0 + (i : Int)) = c := ⟨(((prodL ls : Nat) : Int) - 2 - (0 + (i : Int))).toNat, by omega⟩
    refine ⟨_, rfl, _, _, rfl, rfl, _, rfl, _, _, rfl, rfl, ?_⟩
    dsimp only
    rw [hc]
    refine ⟨Nat.zero_le _, fun fr nfr => ?_⟩
    have hc1 : c + 1 < prodL ls := by omega
    refine ⟨_, rfl, ?_⟩
    have sD : ∀ {H5 : Hp}, Same H4 H5 → SqL K H5 D ((ls.map fun l => (l.length : Int) + 1).map V.int) := fun s => SqL.of (s _ _ hE4)
    refine ⟨.ref D, rfl, D, rfl, ⟨_, sD (same_new nfr)⟩, for_list (K := K) (a := D) (xs := (ls.map fun l => (l.length : Int) + 1).map V.int) (fun j σ H5 => Same H4 H5 ∧ ∃ (fs : List Nat) (r : Nat) (y4 : Option V), H5 fr = some (ilst (nmap fs)) ∧ fs.length = j ∧ frontL ls c = fs ++ frontL (ls.drop j) r ∧
        σ = [some (.ref a), some (.ref b), some (.ref D), some (.int (prodL ls : Nat)), y4, some (.ref be), some (.int (0 + (i : Int))), some (.int (c : Int)), some (.ref fr), some (.int (r : Int)), y10, y11, y12, y13, y14, y15, none])
      ⟨same_new nfr, [], c, y4, upd_same, rfl, by rw [List.drop_zero]; rfl, rfl⟩ (fun j σ H5 _ hp => sD hp.1) ?_ ?_⟩
    · rintro j x σ H5 hj ⟨s5, fs, r, y4, hF, hfl, hfr, rfl⟩
      obtain ⟨s, hs, rfl⟩ := map_get hj
      rw [List.getElem?_map] at hs
      obtain ⟨l, hlj, rfl⟩ := Option.map_eq_some_iff.mp hs
      have h1 := mem_le_prod (List.mem_of_getElem? hlj)
      have hjn := (List.getElem?_eq_some_iff.mp hlj).1
      refine ⟨.ref fr, rfl, .inl ⟨rfl, _, SqL.of hF⟩, _, rfl, .inl ⟨_, rfl, _, rfl, _, _, rfl, rfl, (by omega), fr, _, _, rfl, rfl, hF, small1000 (by rw [List.length_map]; unfold nmap; rw [List.length_map]; omega), ?_⟩⟩
      refine ⟨_, rfl, _, rfl, _, _, rfl, rfl, ⟨by omega, by omega⟩, ?_⟩
      refine ⟨same_mut s5 nfr, fs ++ [r % (l.length + 1)], r / (l.length + 1), _, ?_, by rw [List.length_append, hfl]; rfl, ?_, rfl⟩
      · rw [upd_same]
        unfold ilst nmap
        rw [List.map_append, List.map_append]
        rfl
      · rw [hfr, drop_at hlj, List.append_assoc]
        rfl
    rintro σ H5 ⟨s5, fs, r, y4, hF, hfl, hfr, rfl⟩
    have hfs : fs = frontL ls c := by
      rw [hfr, List.drop_eq_nil_of_le (by rw [List.length_map, List.length_map]; exact Nat.le_refl _)]
      exact (List.append_nil _).symm
    subst hfs
    have sm5 := s4.trans s5
    have hA5 := sm5.seq hA
    have hS5 := sm5.seq hS
    have hL5 := hL.same sm5
    have hB5 := s5 _ _ hB4
    have hE5 := SqL.of (K := K) (s5 _ _ hE4)
    have hzl : (refL zs).length = ls.length := by
      unfold refL
      rw [List.length_map, hlen]
    have hrow : ∀ j, j < (refL zs).length → ∃ (z : Addr × List Int) (f : Nat), z ∈ zs ∧ ls[j]? = some z.2 ∧ (refL zs)[j]? = some (.ref z.1) ∧ ((nmap (frontL ls c)).map V.int)[j]? = some (.int (f : Int)) ∧ (frontL ls c)[j]? = some f ∧ f ≤ z.2.length ∧ (restsL ls c)[j]? = some (z.2.drop f) ∧ SqL K H5 z.1 (z.2.map V.int) := fun j hj => by
      have hjz : j < zs.length := by omega
      have hz := List.getElem?_eq_getElem hjz
      obtain ⟨f, f1, f2, f3⟩ := front_get ls c j _ (hget hz)
      refine ⟨zs[j], f, List.getElem_mem hjz, hget hz, ?_, nmap_get f1, f1, f2, f3, hL5 _ (List.getElem_mem hjz)⟩
      unfold refL
      rw [List.getElem?_map, hz]
      rfl
    -- found = -1; the symbols that are due
    refine ⟨1, rfl, ?_⟩
    refine ⟨.ref b, rfl, b, _, rfl, .inl hS5, _, rfl, by omega, by omega, for_range (n := (refL zs).length) (fun k σ H6 => H6 = H5 ∧ ∃ (fd : Int) (y11 y12 y13 y14 y15 : Option V),
        σ = [some (.ref a), some (.ref b), some (.ref D), some (.int (prodL ls : Nat)), y4, some (.ref be), some (.int (0 + (i : Int))), some (.int (c : Int)), some (.ref fr), some (.int (r : Int)), some (.int fd), y11, y12, y13, y14, y15, none] ∧
        (fd = -1 ∨ ∃ k2, k2 < k ∧ ∃ b2 q2, (restsL ls c)[k2]? = some (b2 :: q2) ∧ fd = pw pr b2 + bs.getD (c + bumpL b2 ls c 1) 0) ∧
        ∀ k2, k2 < k → ∀ b2 q2, (restsL ls c)[k2]? = some (b2 :: q2) → 0 ≤ fd ∧ fd ≤ pw pr b2 + bs.getD (c + bumpL b2 ls c 1) 0)
      ⟨rfl, -1, _, _, _, _, _, rfl, .inl rfl, fun k2 h => absurd h (Nat.not_lt_zero _)⟩ ?_ ?_⟩
    · rintro k σ H6 hk ⟨rfl, fd, y11, y12, y13, y14, y15, rfl, hf1, hf2⟩
      obtain ⟨z, f, hzm, hlz, gz, gf, ff, fle, fr2, hzL⟩ := hrow k hk
      refine ⟨.ref fr, rfl, _, rfl, fr, _, _, _, rfl, rfl, SqL.of hF, atI0 gf, .ref b, rfl, _, rfl, b, _, _, _, rfl, rfl, hS5, atI0 gz, z.1, _, rfl, .inl hzL, _, _, rfl, rfl, _, rfl, if2 (fun e1 => ?_) (fun e1 => ?_)⟩
      · rw [List.length_map] at e1
        have hfl2 : f < z.2.length := by omega
        obtain ⟨b0, hb0⟩ : ∃ b0, z.2[f]? = some b0 := ⟨_, List.getElem?_eq_getElem hfl2⟩
        have hrk : (restsL ls c)[k]? = some (b0 :: z.2.drop (f + 1)) := by
          rw [fr2, List.drop_eq_getElem_cons hfl2, (List.getElem?_eq_some_iff.mp hb0).2]
        have hb0s := hsym z hzm b0 (List.mem_of_getElem? hb0)
        have hbp := bump_pos ls c 1 k Nat.one_pos hrk
        have hblt := bump_lt b0 ls c (by omega)
        obtain ⟨u, hu, Lu⟩ := hbs (c + bumpL b0 ls c 1) (by omega) hblt
        rw [rests_bump] at Lu
        have hu0 := Lu.2
        have hu1 : 0 ≤ u := by
          obtain ⟨S, _, hS2⟩ := Lu.1
          rw [← hS2]
          exact cost_nonneg (pw_nonneg p2) S
        have hgd : bs.getD (c + bumpL b0 ls c 1) 0 = u := by
          rw [List.getD_eq_getElem?_getD, hu]
          rfl
        have hp0 := pw_nonneg p2 b0
        refine ⟨.ref b, rfl, _, rfl, b, _, _, _, rfl, rfl, hS5, atI0 gz, .ref fr, rfl, _, rfl, fr, _, _, _, rfl, rfl, SqL.of hF, atI0 gf, z.1, _, _, _, rfl, rfl, hzL, atI_nat (get_map hb0), ?_⟩
        refine ⟨_, rfl, ?_⟩
        refine ⟨.ref b, rfl, b, _, rfl, .inl hS5, _, rfl, by omega, by omega, for_range (n := (refL zs).length) (fun j σ H7 => H7 = H6 ∧ ∃ (st ah r2 : Nat) (y15 : Option V),
            σ = [some (.ref a), some (.ref b), some (.ref D), some (.int (prodL ls : Nat)), y4, some (.ref be), some (.int (0 + (i : Int))), some (.int (c : Int)), some (.ref fr), some (.int (r : Int)), some (.int fd), some (.int (0 + (k : Int))), some (.int b0), some (.int (st : Int)), some (.int (ah : Int)), y15, none] ∧
            Ahead ls c j r2 ∧ ah + bumpL b0 (ls.drop j) r2 st = c + bumpL b0 ls c 1)
          ⟨rfl, 1, c, c, _, rfl, Ahead.zero ls c, by rw [List.drop_zero]⟩ ?_ ?_⟩
        · rintro j σ H7 hj ⟨rfl, st, ah, r2, y15, rfl, hah, hsum⟩
          obtain ⟨z2, f2, hz2m, hl2, gz2, gf2, ff2, f2le, _, hz2L⟩ := hrow j hj
          obtain ⟨a1, a2⟩ := hah.step hl2
          rw [ff2] at a1
          have hf2r : f2 = r2 % (z2.2.length + 1) := Option.some.inj a1
          rw [drop_at hl2] at hsum
          have hsum2 : ah + ((if due z2.2 f2 b0 = true then st else 0) + bumpL b0 (ls.drop (j + 1)) (r2 / (z2.2.length + 1)) (st * (z2.2.length + 1))) = c + bumpL b0 ls c 1 := by
            rw [hf2r]
            exact hsum
          have gsz : ((ls.map fun l => (l.length : Int) + 1).map V.int)[j]? = some (.int ((z2.2.length : Int) + 1)) := get_map (by rw [List.getElem?_map, hl2]; rfl)
          have hz2p := hmem hz2m
          refine ⟨.ref fr, rfl, _, rfl, fr, _, _, _, rfl, rfl, SqL.of hF, atI0 gf2, .ref b, rfl, _, rfl, b, _, _, _, rfl, rfl, hS5, atI0 gz2, z2.1, _, rfl, .inl hz2L, _, _, rfl, rfl, _, rfl, if2 (fun e2 => ?_) (fun e2 => iteF ?skip1)⟩
          · rw [List.length_map] at e2
            have hf2l : f2 < z2.2.length := by omega
            obtain ⟨b3, hb3⟩ : ∃ b3, z2.2[f2]? = some b3 := ⟨_, List.getElem?_eq_getElem hf2l⟩
            refine ⟨.ref b, rfl, _, rfl, b, _, _, _, rfl, rfl, hS5, atI0 gz2, .ref fr, rfl, _, rfl, fr, _, _, _, rfl, rfl, SqL.of hF, atI0 gf2, z2.1, _, _, _, rfl, rfl, hz2L, atI_nat (get_map hb3), _, rfl, rfl, _, rfl, if2 (fun e3 => ?_) (fun e3 => ?skip2)⟩
            case skip2 =>
              have hd : ¬ due z2.2 f2 b0 = true := fun h => e3 (by
                have h2 : z2.2[f2]? = some b0 := of_decide_eq_true h
                rw [hb3] at h2
                rw [Option.some.inj h2])
              rw [if_neg hd, Nat.zero_add] at hsum2
              refine ⟨_, rfl, .ref D, rfl, _, rfl, D, _, _, _, rfl, rfl, hE5, atI0 gsz, _, _, rfl, rfl, .inr ⟨by omega, by omega⟩, ?_⟩
              exact ⟨rfl, st * (z2.2.length + 1), ah, r2 / (z2.2.length + 1), _, rfl, a2, hsum2⟩
            have hd : due z2.2 f2 b0 = true := decide_eq_true (by rw [hb3, V.int.inj e3])
            rw [if_pos hd] at hsum2
            refine ⟨_, rfl, _, rfl, _, _, rfl, rfl, ?_⟩
            refine ⟨_, rfl, .ref D, rfl, _, rfl, D, _, _, _, rfl, rfl, hE5, atI0 gsz, _, _, rfl, rfl, .inr ⟨by omega, by omega⟩, ?_⟩
            exact ⟨rfl, st * (z2.2.length + 1), ah + st, r2 / (z2.2.length + 1), _, rfl, a2, by omega⟩
          case skip1 =>
            rw [List.length_map] at e2
            have hd : ¬ due z2.2 f2 b0 = true := fun h => e2 (by
              have := due_lt h
              omega)
            rw [if_neg hd, Nat.zero_add] at hsum2
            refine ⟨_, rfl, .ref D, rfl, _, rfl, D, _, _, _, rfl, rfl, hE5, atI0 gsz, _, _, rfl, rfl, .inr ⟨by omega, by omega⟩, ?_⟩
            exact ⟨rfl, st * (z2.2.length + 1), ah, r2 / (z2.2.length + 1), _, rfl, a2, hsum2⟩
        · rintro σ H7 ⟨rfl, st, ah, r2, y15, rfl, hah, hsum⟩
          rw [List.drop_eq_nil_of_le (by omega)] at hsum
          have hahe : ah = c + bumpL b0 ls c 1 := hsum
          subst hahe
          have gb : (bs.map V.int)[c + bumpL b0 ls c 1]? = some (.int u) := get_map hu
          have good : (pw pr b0 + u = -1 ∨ ∃ k2, k2 < k + 1 ∧ ∃ b2 q2, (restsL ls c)[k2]? = some (b2 :: q2) ∧ pw pr b0 + u = pw pr b2 + bs.getD (c + bumpL b2 ls c 1) 0) := .inr ⟨k, Nat.lt_succ_self _, b0, _, hrk, by rw [hgd]⟩
          refine ⟨_, rfl, _, _, rfl, rfl, _, rfl, if2 (fun e4 => ?_) (fun e4 => ?_)⟩
          · refine ⟨.ref a, rfl, _, rfl, a, _, _, _, rfl, rfl, hA5, pw_sym hb0s.1 hb0s.2, .ref be, rfl, _, rfl, be, _, _, _, rfl, rfl, SqL.of hB5, atI_nat gb, _, _, rfl, rfl, ?_⟩
            refine ⟨rfl, _, _, _, _, _, _, rfl, good, fun k2 hk2 b2 q2 h2 => ?_⟩
            by_cases ek : k2 = k
            · subst ek
              rw [hrk] at h2
              injection Option.some.inj h2 with e5 e6
              subst e5
              rw [hgd]
              omega
            · have := hf2 k2 (by omega) b2 q2 h2
              omega
          · refine ⟨.ref a, rfl, _, rfl, a, _, _, _, rfl, rfl, hA5, pw_sym hb0s.1 hb0s.2, .ref be, rfl, _, rfl, be, _, _, _, rfl, rfl, SqL.of hB5, atI_nat gb, _, _, rfl, rfl, _, rfl, _, _, rfl, rfl, _, rfl, if2 (fun e5 => ?_) (fun e5 => ?_)⟩
            · refine ⟨.ref a, rfl, _, rfl, a, _, _, _, rfl, rfl, hA5, pw_sym hb0s.1 hb0s.2, .ref be, rfl, _, rfl, be, _, _, _, rfl, rfl, SqL.of hB5, atI_nat gb, _, _, rfl, rfl, ?_⟩
              refine ⟨rfl, _, _, _, _, _, _, rfl, good, fun k2 hk2 b2 q2 h2 => ?_⟩
              by_cases ek : k2 = k
              · subst ek
                rw [hrk] at h2
                injection Option.some.inj h2 with e5 e6
                subst e5
                rw [hgd]
                omega
              · have := hf2 k2 (by omega) b2 q2 h2
                omega
            · refine ⟨rfl, fd, _, _, _, _, _, rfl, ?_, fun k2 hk2 b2 q2 h2 => ?_⟩
              · rcases hf1 with e6 | ⟨k2, h1, h2⟩
                · exact .inl e6
                · exact .inr ⟨k2, by omega, h2⟩
              · by_cases ek : k2 = k
                · subst ek
                  rw [hrk] at h2
                  injection Option.some.inj h2 with e7 e8
                  subst e7
                  rw [hgd]
                  omega
                · exact hf2 k2 (by omega) b2 q2 h2
      · rw [List.length_map] at e1
        have hdr : z.2.drop f = [] := List.drop_eq_nil_of_le (by omega)
        refine ⟨rfl, fd, _, _, _, _, _, rfl, ?_, fun k2 hk2 b2 q2 h2 => ?_⟩
        · rcases hf1 with e6 | ⟨k2, h1, h2⟩
          · exact .inl e6
          · exact .inr ⟨k2, by omega, h2⟩
        · by_cases ek : k2 = k
          · subst ek
            rw [fr2, hdr] at h2
            cases h2
          · exact hf2 k2 (by omega) b2 q2 h2
    · rintro σ H6 ⟨rfl, fd, y11, y12, y13, y14, y15, rfl, hf1, hf2⟩
      have hval : ∀ k2 b2 q2, (restsL ls c)[k2]? = some (b2 :: q2) → ∃ u, Least (pw pr) ((restsL ls c).map (adv b2)) u ∧ bs.getD (c + bumpL b2 ls c 1) 0 = u := fun k2 b2 q2 h2 => by
        have hbp := bump_pos ls c 1 k2 Nat.one_pos h2
        obtain ⟨u, hu, Lu⟩ := hbs (c + bumpL b2 ls c 1) (by omega) (bump_lt b2 ls c (by omega))
        rw [rests_bump] at Lu
        refine ⟨u, Lu, ?_⟩
        rw [List.getD_eq_getElem?_getD, hu]
        rfl
      have hidx : ∀ {rr : List Int}, rr ∈ restsL ls c → ∃ k2, k2 < (refL zs).length ∧ (restsL ls c)[k2]? = some rr := fun h => by
        obtain ⟨k2, h1, h2⟩ := List.mem_iff_getElem.mp h
        have h3 := rests_length ls c
        exact ⟨k2, by omega, by rw [List.getElem?_eq_getElem h1, h2]⟩
      have LL0 : Least (pw pr) (restsL ls c) fd := by
        obtain ⟨rr, hrr, hne⟩ := rests_due ls c hc1
        obtain ⟨b2, q2, erq⟩ := List.exists_cons_of_ne_nil hne
        obtain ⟨k2, hk2, gk2⟩ := hidx hrr
        rw [erq] at gk2
        have h0 := hf2 k2 hk2 b2 q2 gk2
        refine least_step (pw_nonneg p2) ?_ ?_
        · rcases hf1 with e6 | ⟨k3, hk3, b3, q3, h3, e3⟩
          · omega
          · obtain ⟨u, Lu, eu⟩ := hval k3 b3 q3 h3
            exact ⟨_, List.mem_of_getElem? h3, b3, q3, u, rfl, Lu, by rw [e3, eu]⟩
        · intro rr2 hrr2 b3 q3 erq2
          obtain ⟨k3, hk3, gk3⟩ := hidx hrr2
          rw [erq2] at gk3
          obtain ⟨u, Lu, eu⟩ := hval k3 b3 q3 gk3
          have := hf2 k3 hk3 b3 q3 gk3
          exact ⟨u, Lu, by omega⟩
      refine ⟨_, rfl, .ref be, rfl, _, rfl, be, _, _, _, rfl, rfl, hB5, ixN_nat (by rw [List.length_map]; omega), ?_⟩
      refine ⟨same_mut sm5 hbe, by rw [upd_ne hDbe]; exact s5 _ _ hE4, ⟨bs.set c fd, ?_, by rw [List.length_set]; exact hbl, fun c2 h1 h2 => ?_⟩, _, _, _, _, _, _, _, _, _, _, _, rfl⟩
      · rw [upd_same]
        unfold ilst
        rw [List.map_set]
      · by_cases ec : c2 = c
        · subst ec
          exact ⟨fd, by rw [List.getElem?_set_self (by omega)], LL0⟩
        · rw [List.getElem?_set_ne (by omega)]
          exact hbs c2 (by omega) h2
  · rintro σ H4 ⟨s4, hE4, ⟨bs, hB4, hbl, hbs⟩, y4, y6, y7, y8, y9, y10, y11, y12, y13, y14, y15, rfl⟩
    obtain ⟨v, hv, Lv⟩ := hbs 0 (by omega) hpos
    rw [rests_zero] at Lv
    exact ⟨.ref be, rfl, be, _, 0, _, rfl, rfl, SqL.of hB4, atI_nat (j := 0) (get_map hv), q H4 v s4 Lv⟩
end
end K37

namespace K37
open PySem PySem.Spec PyProof.Rows L2 Fw Lay
section
variable {P : Program} {w : World} {K : PySem.W.Frag} {mg : Str → Option Value} {base : Heap}
theorem ok_check_fronts (T : Txt K mg) : Good P w K mg base 1 (He.ga K "check_fronts") ["rows"] [] (sp_check_fronts K) := by
  refine good_of T.f_check_fronts sc_check_fronts (fun vs H Q E h => ?_) (fun _ _ _ _ _ _ us hl => match us, hl with | [_], _ => rfl) (fun cdv A outer s H vs Q E hr h => ?_)
  · obtain ⟨_, _, rfl, _⟩ := h
    rfl
  refine ⟨_, (pss_cons (ps_set (i := 1) sc_check_fronts.nd rfl (Or.inl rfl) pe_int)
  (pss_cons (ps_for PassesOwn.never rfl (pi_list (pv 0)) (pg_name (i := 2) sc_check_fronts.nd rfl (Or.inl rfl))
    (pss_one (ps_set (i := 1) sc_check_fronts.nd rfl (Or.inl rfl) (pe_op op_mul (pv 1) (pe_op op_add (pe_callB call_len_seq (by rfl) T.z_len (by decide +kernel) (pa_cons (pv 2) pa_nil)) pe_int)))))
  (pss_one (ps_if (pt_cmpR op_gt (pv 1) (pe_glob (v := .int 5000) rfl T.k_MOST_FRONTS.choose_spec ⟨_, rfl⟩) (nomark _))
    (pss_one ps_never)
    pss_nil)))), ?_⟩
  obtain ⟨a, zs, rfl, ⟨hS, hL, hn, hl⟩, hp, q⟩ := h
  refine ⟨.ref a, rfl, a, rfl, ⟨_, hS⟩, for_list (K := K) (a := a) (xs := refL zs) (fun i σ H2 => H2 = H ∧ ∃ y, σ = [some (.ref a), some (.int (prodL ((zs.map (·.2)).take i) : Nat)), y]) ⟨rfl, none, rfl⟩ (fun i σ H2 _ h => by rw [h.1]; exact hS) ?_ ?_⟩
  · rintro i x σ H2 hi ⟨rfl, y, rfl⟩
    obtain ⟨z, hz, hzm, rfl⟩ := refL_get hi
    have hb := prodL_take (zs.map (·.2)) i
    refine ⟨_, rfl, _, rfl, z.1, _, rfl, .inl (hL z hzm), _, _, rfl, rfl, _, _, rfl, rfl, .inl ⟨by omega, by omega⟩, rfl, some (.ref z.1), ?_⟩
    have hz2 : (zs.map (·.2))[i]? = some z.2 := by rw [List.getElem?_map, hz]; rfl
    rw [List.take_add_one, hz2]
    show _ = [some (V.ref a), some (V.int (prodL ((zs.map (·.2)).take i ++ [z.2]) : Nat)), some (V.ref z.1)]
    rw [prodL_snoc, List.length_map, Int.natCast_mul, Int.natCast_add]
    rfl
  · rintro σ H2 ⟨rfl, y, rfl⟩
    have e : (zs.map (·.2)).take (refL zs).length = zs.map (·.2) := List.take_of_length_le (by unfold refL; rw [List.length_map, List.length_map]; exact Nat.le_refl _)
    rw [e]
    exact ⟨_, rfl, _, _, rfl, rfl, _, rfl, ifF (by omega) q⟩
theorem ok_zeros (T : Txt K mg) : Good P w K mg base 1 (He.ga K "zeros") ["rows"] [] (sp_zeros K) := by
  refine good_of T.f_zeros sc_zeros (fun vs H Q E h => ?_) (fun _ _ _ _ _ _ us hl => match us, hl with | [_], _ => rfl) (fun cdv A outer s H vs Q E hr h => ?_)
  · obtain ⟨_, _, rfl, _⟩ := h
    rfl
  refine ⟨_, (pss_one (ps_ret (pe_callTy call_tuple_of (by rfl) T.z_tuple (by decide +kernel) (pa_cons (pe_lc (own := [("row", 1)]) (g := (gName 1)) (tt := tYes) rfl sc_zeros.nd (pi_list (pv 0)) (blkOk_by (own := [("row", 1)]) (N := ["rows", "row"]) (sc := defScope s_zeros) (by decide +kernel)) (fun _ _ _ _ _ => (pg_name (i := 1) sc_zeros.nd rfl (Or.inl rfl))) (fun _ _ _ _ _ => pts_nil) (fun _ _ _ _ _ => pe_int)) pa_nil)))), ?_⟩
  obtain ⟨a, zs, rfl, ⟨hS, hL, hn, hl⟩, q⟩ := h
  refine ⟨.ref a, rfl, a, rfl, ⟨_, hS⟩, fun D hD => lc_list (K := K) (a := a) (xs := refL zs) (fun i H3 => Same H H3 ∧ H3 D = some (ilst (nmap (f0 ((zs.map (·.2)).take i))))) ⟨same_new hD, upd_same⟩ (fun i H3 _ h3 => h3.1.seq hS) ?_ ?_⟩
  · rintro i x H3 hi ⟨s3, h3⟩
    obtain ⟨z, hz, hzm, rfl⟩ := refL_get hi
    have hilt := (List.getElem?_eq_some_iff.mp hz).1
    refine ⟨rfl, yes_then ?_⟩
    refine ⟨_, h3, small1000 (by unfold nmap f0; rw [List.length_map, List.length_map, List.length_map, List.length_take]; omega), same_mut s3 hD, ?_⟩
    have hz2 : (zs.map (·.2))[i]? = some z.2 := by rw [List.getElem?_map, hz]; rfl
    rw [upd_same, List.take_add_one, hz2]
    unfold ilst nmap f0
    rw [List.map_append, List.map_append, List.map_append]
    rfl
  · rintro H3 ⟨s3, h3⟩
    have e : (zs.map (·.2)).take (refL zs).length = zs.map (·.2) := List.take_of_length_le (by unfold refL; rw [List.length_map, List.length_map]; exact Nat.le_refl _)
    rw [e] at h3
    refine tnil_go ?_
    exact ⟨D, _, rfl, .inl ⟨SqL.of h3, fun p np => q _ p (s3.trans (same_new np)) (s3.free np) upd_same⟩⟩
end
end K37

namespace K37
open PySem PySem.Spec PyProof.Rows L2 Fw Lay
section
variable {P : Program} {w : World} {K : PySem.W.Frag} {mg : Str → Option Value} {base : Heap}
theorem pair_ne {ms : Ms} (nd : (ms.map (·.2)).Nodup) {r q : Int × Addr} (hr : r ∈ ms) (hq : q ∈ ms) (ne : r ≠ q) : r.2 ≠ q.2 := by
  induction ms with
  | nil => cases hr
  | cons m ms ih =>
    rw [List.map_cons, List.nodup_cons] at nd
    rcases List.mem_cons.mp hr with h1 | h1 <;> rcases List.mem_cons.mp hq with h2 | h2
    · exact absurd (h1.trans h2.symm) ne
    · exact fun e => nd.1 (by rw [← h1, e]; exact List.mem_map_of_mem (f := fun z : Int × Addr => z.2) h2)
    · exact fun e => nd.1 (by rw [← h2, ← e]; exact List.mem_map_of_mem (f := fun z : Int × Addr => z.2) h1)
    · exact ih nd.2 h1 h2
theorem pair_eq {ms : Ms} (nd : (ms.map (·.1)).Nodup) {r q : Int × Addr} (hr : r ∈ ms) (hq : q ∈ ms) (e : r.1 = q.1) : r = q := by
  induction ms with
  | nil => cases hr
  | cons m ms ih =>
    rw [List.map_cons, List.nodup_cons] at nd
    rcases List.mem_cons.mp hr with h1 | h1 <;> rcases List.mem_cons.mp hq with h2 | h2
    · exact h1.trans h2.symm
    · exact absurd (by rw [← h1, e]; exact List.mem_map_of_mem (f := fun z : Int × Addr => z.1) h2) nd.1
    · exact absurd (by rw [← h2, ← e]; exact List.mem_map_of_mem (f := fun z : Int × Addr => z.1) h1) nd.1
    · exact ih nd.2 h1 h2
theorem ok_steps (T : Txt K mg) : Good P w K mg base 1 (He.ga K "steps") ["rows", "front"] [] (sp_steps K) := by
  refine good_of T.f_steps sc_steps (fun vs H Q E h => ?_) (fun _ _ _ _ _ _ us hl => match us, hl with | [_, _], _ => rfl) (fun cdv A outer s H vs Q E hr h => ?_)
  · obtain ⟨_, _, _, _, rfl, _⟩ := h
    rfl
  refine ⟨_, (pss_cons (ps_set (i := 2) sc_steps.nd rfl (Or.inr rfl) pe_dnewK)
  (pss_cons (ps_for PassesOwn.never rfl (pi_enum (by rfl) T.z_enumerate (pa_cons (pv 0) pa_nil)) (pg_tup rfl (pgs_cons (pg_name (i := 3) sc_steps.nd rfl (Or.inl rfl)) (pgs_cons (pg_name (i := 4) sc_steps.nd rfl (Or.inl rfl)) pgs_nil)))
    (pss_one (ps_if (pt_cmpR op_lt (pe_ix ix_tup (pv 1) (pv 3) (fun _ _ => rfl)) (pe_callB call_len_seq (by rfl) T.z_len (by decide +kernel) (pa_cons (pv 4) pa_nil)) (nomark _))
    (pss_cons (ps_set (i := 5) sc_steps.nd rfl (Or.inl rfl) (pe_ix ix_list (pv 4) (pe_ix ix_tup (pv 1) (pv 3) (fun _ _ => rfl)) (fun _ _ => rfl)))
  (C8.pss_cut (ps_if (pt_cmp (pc_dnotin (hu_of hr) (pv 5) (pv 2)))
    (pss_one (ps_dput (hu_of hr) (pv 2) (pv 5) (pe_callTy call_list_of (by rfl) T.z_list (by decide +kernel) (pa_cons (pv 1) pa_nil)) rfl))
    pss_nil)
  (pss_one (ps_asg (pe_op op_add (pe_ix ix_tup (pv 1) (pv 3) (fun _ _ => rfl)) pe_int) (pg_sub (pe_dget (hu_of hr) (pv 2) (pv 5) (fun _ _ => rfl)) (pv 3) set_list)))))
    pss_nil)))
  (pss_one (ps_ret (pe_lc (own := [("symbol", 5)]) (g := (gName 5)) (tt := tYes) rfl sc_steps.nd (pi_list (pe_callB (call_sortedDI rfl) (by rfl) T.z_sorted (by decide +kernel) (pa_cons (pv 2) pa_nil))) (blkOk_by (own := [("symbol", 5)]) (N := ["rows", "front", "moved", "k", "row", "symbol"]) (sc := defScope s_steps) (by decide +kernel)) (fun _ _ _ _ _ => (pg_name (i := 5) sc_steps.nd rfl (Or.inl rfl))) (fun _ _ _ _ _ => pts_nil) (fun _ _ _ _ _ => (pe_tup (pa_cons (pv 5) (pa_cons (pe_callTy (call_tuple_ofE (K := K) rfl) (by rfl) T.z_tuple (by decide +kernel) (pa_cons (pe_dget (hu_of hr) (pv 2) (pv 5) (fun _ _ => rfl)) pa_nil)) pa_nil))))))))), ?_⟩
  obtain ⟨a, ft, zs, f, rfl, ⟨hS, hL, hn, hl⟩, hf, hok, q⟩ := h
  have hfl := hok.len
  rw [List.length_map] at hfl
  refine fun m nm => ?_
  refine ⟨.ref a, rfl, a, _, rfl, (same_new nm).seq hS, for_it (walk_enum (K := K) (a := a) (xs := refL zs)) (fun i σ H2 => Same H H2 ∧ ∃ ms : Ms, H2 m = some (.dK (kvM ms)) ∧ (ms.map (·.1)).Nodup ∧ (ms.map (·.2)).Nodup ∧
      (∀ q ∈ ms, H q.2 = none ∧ H2 q.2 = some (ilst (nmap (pfs q.1 (zs.map (·.2)) f i)))) ∧ (∀ b, b ∈ ms.map (·.1) ↔ SymB (zs.map (·.2)) f i b) ∧ ms.length ≤ i ∧ ∃ y1 y2 y3, σ = [some (.ref a), some (.ref ft), some (.ref m), y1, y2, y3])
    ⟨same_new nm, [], upd_same, List.nodup_nil, List.nodup_nil, fun q hq => (nomatch hq), fun b => ⟨fun h => (nomatch h), fun ⟨j, _, _, h, _⟩ => absurd h (Nat.not_lt_zero _)⟩, Nat.le_refl _, none, none, none, rfl⟩ (fun i σ H2 _ h => h.1.seq hS) ?_ ?_⟩
  · rintro i x σ H2 H3 hi ⟨s2, ms, hm, nd1, nd2, hms, hsy, hml, y1, y2, y3, rfl⟩ ⟨t, x1, x2, rfl, nt, rfl, e1, e2⟩
    obtain ⟨z, hz, hzm, rfl⟩ := refL_get e2
    obtain rfl : V.int (i : Nat) = x1 := Option.some.inj e1
    have hilt := (List.getElem?_eq_some_iff.mp hz).1
    have hz2 : (zs.map (·.2))[i]? = some z.2 := by rw [List.getElem?_map, hz]; rfl
    obtain ⟨k, hk, hkl⟩ := hok.at hz2
    have s23 : Same H2 (upd H2 t (.tup [.int (i : Nat), .ref z.1])) := same_new nt
    have s3 := s2.trans s23
    have hm3 := s23 _ _ hm
    have hms3 : ∀ q ∈ ms, H q.2 = none ∧ upd H2 t (.tup [.int (i : Nat), .ref z.1]) q.2 = some (ilst (nmap (pfs q.1 (zs.map (·.2)) f i))) := fun q hq => ⟨(hms q hq).1, s23 _ _ (hms q hq).2⟩
    have hTt : SqT K (upd H2 t (.tup [.int (i : Nat), .ref z.1])) t [.int (i : Nat), .ref z.1] := SqT.of upd_same
    generalize upd H2 t (.tup [.int (i : Nat), .ref z.1]) = H3 at s3 s23 hm3 hms3 hTt ⊢
    have hF : ∀ {H : Hp}, Same H3 H → SqT K H ft ((nmap f).map V.int) := fun s => SqT.of (s _ _ (s3 _ _ hf))
    have hW : ∀ {H : Hp}, Same H3 H → SqL K H z.1 (z.2.map V.int) := fun s => s.seq (s3.seq (hL z hzm))
    refine ⟨t, _, rfl, hTt, rfl, _, _, rfl, _, _, rfl, rfl, ?_⟩
    refine ⟨_, rfl, _, rfl, ft, _, _, _, rfl, rfl, hF (Same.refl _), atI_nat (nmap_get hk), _, rfl, z.1, _, rfl, .inl (hW (Same.refl _)), _, _, rfl, rfl, _, rfl, if2 (fun e => ?_) (fun e => ?_)⟩
    · rw [List.length_map] at e
      have hkl2 : k < z.2.length := by omega
      obtain ⟨b, hb⟩ : ∃ b, z.2[k]? = some b := ⟨_, List.getElem?_eq_getElem hkl2⟩
      refine ⟨_, rfl, _, rfl, _, rfl, ft, _, _, _, rfl, rfl, hF (Same.refl _), atI_nat (nmap_get hk), z.1, _, _, _, rfl, rfl, hW (Same.refl _), atI_nat (get_map hb), ?_⟩
      refine ⟨fun σ H4 => Same H H4 ∧ ∃ ms : Ms, H4 m = some (.dK (kvM ms)) ∧ (ms.map (·.1)).Nodup ∧ (ms.map (·.2)).Nodup ∧
        (∀ q ∈ ms, H q.2 = none ∧ H4 q.2 = some (ilst (nmap (pfs q.1 (zs.map (·.2)) f i)))) ∧ (∀ b, b ∈ ms.map (·.1) ↔ SymB (zs.map (·.2)) f (i + 1) b) ∧ ms.length ≤ i + 1 ∧ σ = [some (.ref a), some (.ref ft), some (.ref m), some (.int (i : Nat)), some (.ref z.1), some (.int b)], ?_, ?_⟩
      · refine ⟨_, rfl, _, rfl, m, _, rfl, DGet.k (k := Sum.inl b) hm3, _, rfl, ?_⟩
        have hsu : ∀ b', SymB (zs.map (·.2)) f (i + 1) b' ↔ b' ∈ ms.map (·.1) ∨ b' = b := fun b' => by
          rw [symB_succ hz2 hk, hsy, hb]
          exact or_congr Iff.rfl ⟨fun e => (Option.some.inj e).symm, fun e => by rw [e]⟩
        by_cases hbm : b ∈ ms.map (·.1)
        · obtain ⟨q, hq, e2⟩ := List.mem_map.mp hbm
          rw [← e2, kvM_some nd1 hq]
          refine iteF ⟨s3, ms, hm3, nd1, nd2, hms3, fun b' => ?_, by omega, by rw [e2]; rfl⟩
          rw [hsu]
          exact ⟨.inl, fun h => h.elim id fun e3 => by rw [e3]; exact hbm⟩
        · rw [kvM_none hbm]
          refine iteT ?_
          refine ⟨_, rfl, ft, _, rfl, .inr (hF (Same.refl _)), fun l nl => ⟨_, rfl, _, rfl, m, _, rfl, DPut.k (k := Sum.inl b) (same_new nl _ _ hm3) (small1000 (by unfold kvM; rw [List.length_map]; omega)), ?_⟩⟩
          have hlm : m ≠ l := ne_of_none hm3 nl
          refine ⟨same_mut (s3.trans (same_new nl)) nm, ms ++ [(b, l)], ?_, ?_, ?_, ?_, fun b' => ?_, ?_, rfl⟩
          · rw [upd_same, putK_new _ (kvM_none hbm)]
            unfold kvM
            rw [List.map_append]
            rfl
          · rw [List.map_append]
            exact List.nodup_append.mpr ⟨nd1, List.pairwise_singleton _ _, fun x hx y hy e3 => hbm (by have e4 := List.mem_singleton.mp (show y ∈ [b] from hy); rw [← e4, ← e3]; exact hx)⟩
          · rw [List.map_append]
            refine List.nodup_append.mpr ⟨nd2, List.pairwise_singleton _ _, fun x hx y hy e3 => ?_⟩
            obtain ⟨q, hq, rfl⟩ := List.mem_map.mp hx
            have h1 := (hms3 q hq).2
            rw [e3, List.mem_singleton.mp (show y ∈ [l] from hy), nl] at h1
            cases h1
          · intro q hq
            rcases List.mem_append.mp hq with hq | hq
            · refine ⟨(hms3 q hq).1, ?_⟩
              rw [upd_ne (ne_of (hms3 q hq).2 hm3 (fun e => nomatch e)), upd_ne (ne_of_none (hms3 q hq).2 nl)]
              exact (hms3 q hq).2
            · rw [List.mem_singleton.mp hq]
              refine ⟨s3.free nl, ?_⟩
              show upd (upd H3 l _) m _ l = _
              rw [upd_ne hlm.symm, upd_same, pfs_fresh hok (fun h => hbm ((hsy b).mpr h))]
          · rw [hsu, List.map_append, List.mem_append]
            exact or_congr Iff.rfl List.mem_singleton
          · rw [List.length_append]
            show ms.length + 1 ≤ i + 1
            omega
      · rintro σ H4 ⟨s4, ms4, hm4, nd1, nd2, hms4, hsy4, hml4, rfl⟩
        have hbm : b ∈ ms4.map (·.1) := (hsy4 b).mpr ((symB_succ hz2 hk).mpr (.inr hb))
        obtain ⟨q, hq, rfl⟩ := List.mem_map.mp hbm
        have hq4 := (hms4 q hq).2
        refine ⟨_, rfl, _, rfl, ft, _, _, _, rfl, rfl, SqT.of (s4 _ _ hf), atI_nat (nmap_get hk), _, _, rfl, rfl, _, rfl, _, rfl, m, .ref q.2, rfl, ?_, _, rfl, q.2, _, _, i, rfl, rfl, hq4, ixN_nat ?_, ?_⟩
        · have h1 := DGet.k (k := Sum.inl q.1) hm4
          rw [kvM_some nd1 hq] at h1
          exact h1
        · unfold nmap
          rw [List.length_map, List.length_map, pfs_len hok, List.length_map]
          exact hilt
        have eqs : ((nmap (pfs q.1 (zs.map (·.2)) f i)).map V.int).set i (.int ((k : Int) + 1)) = (nmap (pfs q.1 (zs.map (·.2)) f (i + 1))).map V.int := by
          have h1 : ((k : Int) + 1) = ((k + 1 : Nat) : Int) := by omega
          rw [h1, nmap_set, pfs_due hok hz2 hk hb]
        dsimp only
        rw [eqs]
        have hqm : m ≠ q.2 := ne_of hm4 hq4 (fun e => nomatch e)
        refine ⟨same_mut s4 (hms4 q hq).1, ms4, ?_, nd1, nd2, fun r hr => ⟨(hms4 r hr).1, ?_⟩, hsy4, hml4, _, _, _, rfl⟩
        · rw [upd_ne hqm]
          exact hm4
        · by_cases e3 : r.2 = q.2
          · rw [e3, upd_same]
            have e4 : r.1 = q.1 := by
              have h1 := List.pairwise_map.mp nd2
              by_cases e5 : r = q
              · rw [e5]
              · exact absurd e3 (pair_ne nd2 hr hq e5)
            rw [e4]
          · rw [upd_ne e3, ← pfs_other hok hz2 hk (fun e4 => e3 ?_)]
            · exact (hms4 r hr).2
            · rw [hb] at e4
              have e5 := Option.some.inj e4
              exact congrArg Prod.snd (pair_eq nd1 hr hq e5.symm)
    · rw [List.length_map] at e
      have hno : ∀ b, ¬ z.2[k]? = some b := fun b h => by
        have := (List.getElem?_eq_some_iff.mp h).1
        omega
      refine ⟨s3, ms, hm3, nd1, nd2, fun r hr => ⟨(hms3 r hr).1, ?_⟩, fun b' => ?_, by omega, _, _, _, rfl⟩
      · rw [← pfs_other hok hz2 hk (hno r.1)]
        exact (hms3 r hr).2
      · rw [symB_succ hz2 hk, hsy]
        exact ⟨.inl, fun h => h.elim id fun h => absurd h (hno b')⟩
  · rintro σ H2 ⟨s2, ms, hm, nd1, nd2, hms, hsy, hml, y1, y2, y3, rfl⟩
    have elen : (refL zs).length = (zs.map (·.2)).length := by unfold refL; rw [List.length_map, List.length_map]
    have hzl : (refL zs).length = zs.length := by unfold refL; rw [List.length_map]
    rw [elen] at hms hsy
    replace hms : ∀ q ∈ ms, H q.2 = none ∧ H2 q.2 = some (ilst (nmap (fstep q.1 (zs.map (·.2)) f))) := fun q hq => by
      rw [← pfs_end hok]
      exact hms q hq
    refine ⟨_, rfl, m, kvM ms, ms.map (·.1), rfl, .inl hm, kvM_keys ms, by rw [List.length_map]; omega, fun ys p pm srt np => ?_⟩
    have s23 : Same H2 (upd H2 p (.lst (ys.map V.int))) := same_new np
    have hp : upd H2 p (.lst (ys.map V.int)) p = some (ilst ys) := upd_same
    generalize upd H2 p (.lst (ys.map V.int)) = H3 at s23 hp ⊢
    have s3 := s2.trans s23
    have hys : ys.length ≤ 63 := by
      rw [pm.length_eq, List.length_map]
      omega
    refine ⟨p, rfl, ⟨_, SqL.of hp⟩, fun D hD => lc_list (K := K) (a := p) (xs := ys.map V.int) (fun i H4 => Same H3 H4 ∧ ∃ ps : Ps, H4 D = some (.lst (refP ps)) ∧
      (∀ q ∈ ps, H4 q.1 = some (.tup [.int q.2.1, .ref q.2.2]) ∧ H4 q.2.2 = some (itup (nmap (fstep q.2.1 (zs.map (·.2)) f)))) ∧ ps.map (·.2.1) = ys.take i) ⟨same_new hD, [], upd_same, fun q hq => (nomatch hq), rfl⟩ (fun i H4 _ h => SqL.of (h.1 _ _ hp)) ?_ ?_⟩
    · rintro i x H4 hi ⟨s4, ps, h4, hps, em⟩
      obtain ⟨b, hb, rfl⟩ := map_get hi
      have hbm : b ∈ ms.map (·.1) := pm.mem_iff.mp (List.mem_of_getElem? hb)
      obtain ⟨q, hq, rfl⟩ := List.mem_map.mp hbm
      have hq4 := s4 _ _ (s23 _ _ (hms q hq).2)
      have hilt := (List.getElem?_eq_some_iff.mp hb).1
      have hpl : ps.length ≤ i := by
        have e := congrArg List.length em
        rw [List.length_map, List.length_take] at e
        omega
      refine ⟨rfl, yes_then ?_⟩
      refine ⟨_, rfl, _, rfl, _, rfl, m, .ref q.2, rfl, ?_, q.2, _, rfl, .inl ⟨SqL.of hq4, fun t nt => ⟨(by show 2 ≤ sizeLine; decide), fun u nu => ⟨_, same_new nu _ _ (same_new nt _ _ h4), small1000 (by unfold refP; rw [List.length_map]; omega), ?_⟩⟩⟩⟩
      · have h1 := DGet.k (k := Sum.inl q.1) (s4 _ _ (s23 _ _ hm))
        rw [kvM_some nd1 hq] at h1
        exact h1
      have ht : upd (upd (upd H4 t (.tup ((nmap (fstep q.1 (zs.map (·.2)) f)).map V.int))) u (.tup [.int q.1, .ref t])) D (.lst (refP ps ++ [.ref u])) t = some (itup (nmap (fstep q.1 (zs.map (·.2)) f))) := by
        rw [upd_ne (ne_of_none h4 nt).symm, upd_ne (ne_of_none upd_same nu), upd_same]
      refine ⟨same_mut ((s4.trans (same_new nt)).trans (same_new nu)) hD, ps ++ [(u, q.1, t)], ?_, fun r hr => ?_, ?_⟩
      · rw [upd_same]
        unfold refP
        rw [List.map_append]
        rfl
      · rcases List.mem_append.mp hr with hr | hr
        · have h1 := same_new (o := .tup [.int q.1, .ref t]) nu _ _ (same_new (o := .tup ((nmap (fstep q.1 (zs.map (·.2)) f)).map V.int)) nt _ _ (hps r hr).1)
          have h2 := same_new (o := .tup [.int q.1, .ref t]) nu _ _ (same_new (o := .tup ((nmap (fstep q.1 (zs.map (·.2)) f)).map V.int)) nt _ _ (hps r hr).2)
          have h3 := same_new (o := .tup [.int q.1, .ref t]) nu _ _ (same_new (o := .tup ((nmap (fstep q.1 (zs.map (·.2)) f)).map V.int)) nt _ _ h4)
          rw [upd_ne (ne_of h1 h3 (fun e => nomatch e)), upd_ne (ne_of h2 h3 (fun e => nomatch e))]
          exact ⟨h1, h2⟩
        · rw [List.mem_singleton.mp hr]
          refine ⟨?_, ht⟩
          have h3 := same_new (o := .tup ((nmap (fstep q.1 (zs.map (·.2)) f)).map V.int)) nt _ _ h4
          show upd (upd (upd H4 t _) u _) D _ u = _
          rw [upd_ne (ne_of_none h3 nu).symm, upd_same]
      · rw [List.map_append, em, List.take_add_one, hb]
        rfl
    · rintro H4 ⟨s4, ps, h4, hps, em⟩
      rw [List.length_map, List.take_length] at em
      refine q H4 D ps (s3.trans s4) (s3.free hD) h4 ⟨hps, fun b => ?_⟩ ?_
      · rw [em, pm.mem_iff, hsy, symB_end]
      · have e := congrArg List.length em
        rw [List.length_map] at e
        omega
end
end K37

namespace K37
open PySem PySem.Spec PyProof.Rows L2 Fw Lay
section
variable {P : Program} {w : World} {K : PySem.W.Frag} {mg : Str → Option Value} {base : Heap}
theorem ok_reachable (T : Txt K mg) : Good P w K mg base 2 (He.ga K "reachable") ["rows"] [] (sp_reachable K) := by
  refine good_of T.f_reachable sc_reachable (fun vs H Q E h => ?_) (fun _ _ _ _ _ _ us hl => match us, hl with | [_], _ => rfl) (fun cdv A outer s H vs Q E hr h => ?_)
  · obtain ⟨_, _, rfl, _⟩ := h
    rfl
  refine ⟨_, (pss_cons (ps_set (i := 1) sc_reachable.nd rfl (Or.inl rfl) (pe_lst (pa_cons (pe_cg (ok_zeros T) (hr.mono (j := 1) (by decide)) (by rfl) T.g_zeros (pa_cons (pv 0) pa_nil)) pa_nil)))
  (pss_cons (ps_set (i := 2) sc_reachable.nd rfl (Or.inl rfl) (pe_disp1T (hu_of hr) (pe_ix ix_list (pv 1) pe_int (fun _ _ => rfl)) pe_bl))
  (pss_cons (ps_set (i := 3) sc_reachable.nd rfl (Or.inl rfl) pe_int)
  (pss_cons (ps_while PassesOwn.never (pt_cmpR op_lt (pv 3) (pe_callB call_len_seq (by rfl) T.z_len (by decide +kernel) (pa_cons (pv 1) pa_nil)) (nomark _))
    (pss_cons (ps_for PassesOwn.never rfl (pi_list (pe_cg (ok_steps T) (hr.mono (j := 1) (by decide)) (by rfl) T.g_steps (pa_cons (pv 0) (pa_cons (pe_ix ix_list (pv 1) (pv 3) (fun _ _ => rfl)) pa_nil)))) (pg_tup rfl (pgs_cons (pg_name (i := 4) sc_reachable.nd rfl (Or.inl rfl)) (pgs_cons (pg_name (i := 5) sc_reachable.nd rfl (Or.inl rfl)) pgs_nil)))
    (pss_one (ps_if (pt_cmp (pc_dnotin (hu_of hr) (pv 5) (pv 2)))
    (pss_cons (ps_dput (hu_of hr) (pv 2) (pv 5) pe_bl rfl)
  (pss_one (ps_expr (pe_bm PySem.F.plainAttrs_list PySem.F.slot_list_append PySem.F.type_list_append mt_append (pv 1) (pa_cons (pv 5) pa_nil)))))
    pss_nil)))
  (pss_one (ps_aug (i := 3) sc_reachable.nd rfl (Or.inl rfl) pe_int ip_add))))
  (pss_one (ps_ret (pv 1))))))), ?_⟩
  obtain ⟨a, zs, rfl, hRw, hP, q⟩ := h
  refine ⟨_, rfl, a, zs, rfl, hRw, fun H1 t s1 nt ht => ⟨(by show 1 ≤ sizeLine; decide), fun l nl => ?_⟩⟩
  have nlH : H l = none := s1.free nl
  have s2 := s1.trans (same_new (o := .lst [.ref t]) nl)
  have hl2 : upd H1 l (.lst [.ref t]) l = some (.lst [.ref t]) := upd_same
  have ht2 : upd H1 l (.lst [.ref t]) t = some (itup (nmap (f0 (zs.map (·.2))))) := same_new nl _ _ ht
  generalize upd H1 l (.lst [.ref t]) = H2 at s2 hl2 ht2 ⊢
  refine fun d nd => ?_
  have ndH : H d = none := s2.free nd
  have sd : Same H2 (upd H2 d (.dT [])) := same_new nd
  refine ⟨.ref l, rfl, l, _, 0, _, rfl, rfl, SqL.of (sd _ _ hl2), rfl, upd_same, t, fkey (f0 (zs.map (·.2))), rfl, tup_key (sd _ _ ht2), ?_⟩
  have hl3 : upd (upd H2 d (.dT [])) d (.dT [(fkey (f0 (zs.map (·.2))), .bl true)]) l = some (.lst [.ref t]) := by
    rw [upd_ne (ne_of_none hl2 nd)]
    exact sd _ _ hl2
  have ht3 : upd (upd H2 d (.dT [])) d (.dT [(fkey (f0 (zs.map (·.2))), .bl true)]) t = some (itup (nmap (f0 (zs.map (·.2))))) := by
    rw [upd_ne (ne_of_none ht2 nd)]
    exact sd _ _ ht2
  have hd3 : upd (upd H2 d (.dT [])) d (.dT [(fkey (f0 (zs.map (·.2))), .bl true)]) d = some (.dT [(fkey (f0 (zs.map (·.2))), .bl true)]) := upd_same
  have s3 : Same H (upd (upd H2 d (.dT [])) d (.dT [(fkey (f0 (zs.map (·.2))), .bl true)])) := same_mut (s2.trans sd) ndH
  generalize upd (upd H2 d (.dT [])) d (.dT [(fkey (f0 (zs.map (·.2))), .bl true)]) = H3 at hl3 ht3 hd3 s3 ⊢
  refine ⟨fun m σ H5 => Same H H5 ∧ ∃ (fs : Fs) (i : Nat), H5 l = some (.lst (refF fs)) ∧ H5 d = some (.dT (kvF fs)) ∧ FsOk H5 (zs.map (·.2)) fs ∧ (f0 (zs.map (·.2)) ∈ fs.map (·.2) ∧ ∀ f ∈ fs.map (·.2), Rch (zs.map (·.2)) f) ∧ i ≤ fs.length ∧
      (∀ j f, j < i → fs[j]? = some f → ∀ b, Sym (zs.map (·.2)) f.2 b → fstep b (zs.map (·.2)) f.2 ∈ fs.map (·.2)) ∧ m = prodL (zs.map (·.2)) - i ∧ ∃ y4 y5, σ = [some (.ref a), some (.ref l), some (.ref d), some (.int (i : Nat)), y4, y5], ⟨_, s3, [(t, f0 (zs.map fun z : Addr × List Int => z.2))], 0, hl3, hd3, ⟨fun r hr => ?_, List.pairwise_singleton _ _⟩, ⟨List.mem_singleton.mpr rfl, fun f hf => by rw [List.mem_singleton.mp (show f ∈ [f0 (zs.map (·.2))] from hf)]; exact .zero⟩, Nat.zero_le _, fun j f h => absurd h (Nat.not_lt_zero _), rfl, none, none, rfl⟩, ?_⟩
  · rw [List.mem_singleton.mp hr]
    exact ⟨ht3, FOk.zero _⟩
  rintro m σ H5 ⟨s5, fs, i, hl5, hd5, hfs, ⟨h0, hrc⟩, hi, hcl, rfl, y4, y5, rfl⟩
  have hfl : fs.length ≤ prodL (zs.map (·.2)) := by
    have h1 := few_fronts hfs.2 (fun f hf => by
      obtain ⟨r, hr, rfl⟩ := List.mem_map.mp hf
      exact (hfs.1 r hr).2)
    rw [List.length_map] at h1
    exact h1
  refine ⟨_, rfl, _, rfl, l, _, rfl, .inl (SqL.of hl5), _, _, rfl, rfl, _, rfl, if2 (fun e => ?_) (fun e => ?_)⟩
  · refine ⟨_, fun σ' H' h => h, ?_⟩
    have hilt : i < fs.length := by
      have e2 : (refF fs).length = fs.length := List.length_map ..
      omega
    obtain ⟨fr, hfr⟩ : ∃ fr, fs[i]? = some fr := ⟨_, List.getElem?_eq_getElem hilt⟩
    have hfrm := List.mem_of_getElem? hfr
    have hfr2 : (refF fs)[i]? = some (.ref fr.1) := by
      unfold refF
      rw [List.getElem?_map, hfr]
      rfl
    refine ⟨_, rfl, .ref l, rfl, _, rfl, l, _, _, _, rfl, rfl, SqL.of hl5, atI_nat hfr2, a, fr.1, zs, fr.2, rfl, hRw.same s5, (hfs.1 fr hfrm).1, (hfs.1 fr hfrm).2, fun H6 p ps s6 np hp hps hpl => ?_⟩
    have hpl5 : p ≠ l := (ne_of_none hl5 np).symm
    have hpd5 : p ≠ d := (ne_of_none hd5 np).symm
    refine ⟨p, rfl, ⟨_, SqL.of hp⟩, for_list (K := K) (a := p) (xs := refP ps) (fun j σ H7 => But2 l d H6 H7 ∧ ∃ fs2 : Fs, H7 l = some (.lst (refF fs2)) ∧ H7 d = some (.dT (kvF fs2)) ∧ FsOk H7 (zs.map (·.2)) fs2 ∧ (fs <+: fs2 ∧ ∀ f ∈ fs2.map (·.2), Rch (zs.map (·.2)) f) ∧
        (∀ r ∈ ps.take j, fstep r.2.1 (zs.map (·.2)) fr.2 ∈ fs2.map (·.2)) ∧ ∃ y4 y5, σ = [some (.ref a), some (.ref l), some (.ref d), some (.int (i : Nat)), y4, y5])
      ⟨fun c o _ _ h => h, fs, s6 _ _ hl5, s6 _ _ hd5, ⟨fun r hr => ⟨s6 _ _ (hfs.1 r hr).1, (hfs.1 r hr).2⟩, hfs.2⟩, ⟨List.prefix_refl _, hrc⟩, fun r hr => (nomatch hr), y4, y5, rfl⟩ (fun j σ H7 _ h => SqL.of (h.1 _ _ hpl5 hpd5 hp)) ?_ ?_⟩
    · rintro j x σ H7 hj ⟨b7, fs2, hl7, hd7, hfs7, ⟨hpre, hrc2⟩, hdone, y4, y5, rfl⟩
      obtain ⟨r, hr, hrm, rfl⟩ : ∃ r, ps[j]? = some r ∧ r ∈ ps ∧ x = V.ref r.1 := by
        unfold refP at hj
        rw [List.getElem?_map] at hj
        cases e2 : ps[j]? with
        | none =>
          rw [e2] at hj
          cases hj
        | some r =>
          rw [e2] at hj
          exact ⟨r, rfl, List.mem_of_getElem? e2, (Option.some.inj hj).symm⟩
      have hl6 := s6 _ _ hl5
      have hd6 := s6 _ _ hd5
      have h1 : H7 r.1 = some (.tup [.int r.2.1, .ref r.2.2]) := b7 _ _ (ne_of (hps.1 r hrm).1 hl6 (fun e => nomatch e)) (ne_of (hps.1 r hrm).1 hd6 (fun e => nomatch e)) (hps.1 r hrm).1
      have h2 : H7 r.2.2 = some (itup (nmap (fstep r.2.1 (zs.map (·.2)) fr.2))) := b7 _ _ (ne_of (hps.1 r hrm).2 hl6 (fun e => nomatch e)) (ne_of (hps.1 r hrm).2 hd6 (fun e => nomatch e)) (hps.1 r hrm).2
      have hf2l : fs2.length ≤ prodL (zs.map (·.2)) := by
        have h1 := few_fronts hfs7.2 (fun f hf => by
          obtain ⟨r, hr, rfl⟩ := List.mem_map.mp hf
          exact (hfs7.1 r hr).2)
        rw [List.length_map] at h1
        exact h1
      refine ⟨r.1, _, rfl, SqT.of h1, rfl, _, _, rfl, _, _, rfl, rfl, ?_⟩
      refine ⟨_, rfl, _, rfl, d, _, rfl, DGet.t hd7 (tup_key h2), _, rfl, ?_⟩
      have htk : ∀ r' ∈ ps.take (j + 1), r' ∈ ps.take j ∨ r' = r := fun r' h => by
        rw [List.take_add_one, hr] at h
        rcases List.mem_append.mp h with h | h
        · exact .inl h
        · exact .inr (List.mem_singleton.mp h)
      by_cases hin : fstep r.2.1 (zs.map (·.2)) fr.2 ∈ fs2.map (·.2)
      · rw [kvF_some hin]
        refine iteF ⟨b7, fs2, hl7, hd7, hfs7, ⟨hpre, hrc2⟩, fun r' h => ?_, _, _, rfl⟩
        rcases htk r' h with h | h
        · exact hdone r' h
        · rw [h]
          exact hin
      · rw [kvF_none hin]
        have hld : l ≠ d := ne_of hl7 hd7 (fun e => nomatch e)
        refine iteT ⟨_, rfl, _, rfl, d, _, rfl, DPut.t hd7 (tup_key h2) ?_, ?_⟩
        · unfold kvF
          rw [List.length_map]
          exact Nat.lt_of_le_of_lt (Nat.le_trans hf2l hP) (by decide)
        rw [putK_new _ (kvF_none hin)]
        have b8 : But2 l d H6 (upd H7 d (.dT (kvF fs2 ++ [(fkey (fstep r.2.1 (zs.map (·.2)) fr.2), .bl true)]))) := fun c o n1 n2 e => by
          rw [upd_ne n2]
          exact b7 c o n1 n2 e
        have hl8 : upd H7 d (.dT (kvF fs2 ++ [(fkey (fstep r.2.1 (zs.map (·.2)) fr.2), .bl true)])) l = some (.lst (refF fs2)) := by
          rw [upd_ne hld]
          exact hl7
        have hd8 : upd H7 d (.dT (kvF fs2 ++ [(fkey (fstep r.2.1 (zs.map (·.2)) fr.2), .bl true)])) d = some (.dT (kvF fs2 ++ [(fkey (fstep r.2.1 (zs.map (·.2)) fr.2), .bl true)])) := upd_same
        have ht8 : ∀ c f, H7 c = some (itup f) → upd H7 d (.dT (kvF fs2 ++ [(fkey (fstep r.2.1 (zs.map (·.2)) fr.2), .bl true)])) c = some (itup f) := fun c f h => by
          rw [upd_ne (ne_of h hd7 (fun e => nomatch e))]
          exact h
        generalize upd H7 d (.dT (kvF fs2 ++ [(fkey (fstep r.2.1 (zs.map (·.2)) fr.2), .bl true)])) = H8 at b8 hl8 hd8 ht8 ⊢
        refine ⟨.ref l, rfl, .inl ⟨rfl, _, SqL.of hl8⟩, _, rfl, l, _, _, rfl, rfl, hl8, ?_, ?_⟩
        · unfold refF
          rw [List.length_map]
          exact Nat.lt_of_le_of_lt (Nat.le_trans hf2l hP) (by decide)
        refine ⟨fun c o n1 n2 e => ?_, fs2 ++ [(r.2.2, fstep r.2.1 (zs.map fun z : Addr × List Int => z.2) fr.2)], ?_, ?_, ⟨fun r' h => ?_, ?_⟩, ?_, fun r' h => ?_, _, _, rfl⟩
        · rw [upd_ne n1]
          exact b8 c o n1 n2 e
        · rw [upd_same]
          unfold refF
          rw [List.map_append]
          rfl
        · rw [upd_ne hld.symm, hd8]
          unfold kvF
          rw [List.map_append]
          rfl
        · rcases List.mem_append.mp h with h | h
          · have h3 := ht8 _ _ (hfs7.1 r' h).1
            rw [upd_ne (ne_of h3 hl8 (fun e => nomatch e))]
            exact ⟨h3, (hfs7.1 r' h).2⟩
          · rw [List.mem_singleton.mp h]
            have h3 := ht8 _ _ h2
            refine ⟨?_, FOk.step _ (hfs.1 fr hfrm).2⟩
            show upd H8 l _ r.2.2 = _
            rw [upd_ne (ne_of h3 hl8 (fun e => nomatch e))]
            exact h3
        · rw [List.map_append]
          exact List.nodup_append.mpr ⟨hfs7.2, List.pairwise_singleton _ _, fun x hx y hy e3 => hin (by have e4 := List.mem_singleton.mp (show y ∈ [fstep r.2.1 (zs.map (·.2)) fr.2] from hy); rw [← e4, ← e3]; exact hx)⟩
        · refine ⟨?_, fun f hf => ?_⟩
          · obtain ⟨more, rfl⟩ := hpre
            exact ⟨more ++ [(r.2.2, fstep r.2.1 (zs.map (·.2)) fr.2)], by rw [List.append_assoc]⟩
          · rw [List.map_append] at hf
            rcases List.mem_append.mp hf with hf | hf
            · exact hrc2 f hf
            · rw [List.mem_singleton.mp (show f ∈ [fstep r.2.1 (zs.map (·.2)) fr.2] from hf)]
              exact .step (hrc _ (List.mem_map_of_mem (f := fun z : Addr × Ft => z.2) hfrm)) ((hps.2 r.2.1).mp (List.mem_map_of_mem (f := fun z : Addr × Int × Addr => z.2.1) hrm))
        · rw [List.map_append, List.mem_append]
          rcases htk r' h with h | h
          · exact .inl (hdone r' h)
          · rw [h]
            exact .inr (List.mem_singleton.mpr rfl)
    · rintro σ H7 ⟨b7, fs2, hl7, hd7, hfs7, ⟨hpre, hrc2⟩, hdone, y4, y5, rfl⟩
      obtain ⟨more, rfl⟩ := hpre
      have hsub : ∀ f, f ∈ fs.map (·.2) → f ∈ (fs ++ more).map (·.2) := fun f h => by
        rw [List.map_append]
        exact List.mem_append_left _ h
      have e3 : (ps.take (refP ps).length) = ps := List.take_of_length_le (by unfold refP; rw [List.length_map]; exact Nat.le_refl _)
      rw [e3] at hdone
      refine ⟨_, rfl, _, _, rfl, rfl, prodL (zs.map (·.2)) - (i + 1), by omega, fun c o h => ?_, fs ++ more, i + 1, hl7, hd7, hfs7, ⟨hsub _ h0, hrc2⟩, by rw [List.length_append]; omega, fun j f hj hf b hb => ?_, rfl, y4, y5, ?_⟩
      · refine b7 c o (fun e => ?_) (fun e => ?_) (s6 _ _ (s5 _ _ h))
        · rw [e, nlH] at h
          cases h
        · rw [e, ndH] at h
          cases h
      · by_cases hji : j = i
        · subst hji
          rw [List.getElem?_append_left hilt, hfr] at hf
          obtain rfl := Option.some.inj hf
          obtain ⟨r, hr, e4⟩ := List.mem_map.mp ((hps.2 b).mpr hb)
          rw [← e4]
          exact hdone r hr
        · rw [List.getElem?_append_left (by omega)] at hf
          exact hsub _ (hcl j f (by omega) hf b hb)
      · have e4 : ((i + 1 : Nat) : Int) = (i : Int) + 1 := by omega
        rw [e4]
        rfl
  · have e2 : (refF fs).length = fs.length := List.length_map ..
    refine ⟨_, rfl, q H5 l fs s5 nlH hl5 hfs fun f => ⟨hrc f, fun hf => ?_⟩⟩
    induction hf with
    | zero => exact h0
    | step hg hb ih =>
      obtain ⟨r, hr, rfl⟩ := List.mem_map.mp ih
      obtain ⟨j, hj, e3⟩ := List.mem_iff_getElem.mp hr
      exact hcl j r (by omega) (by rw [List.getElem?_eq_getElem hj, e3]) _ hb
end
end K37

namespace K37
open PySem PySem.Spec PyProof.Rows L2 Fw Lay
section
variable {P : Program} {w : World} {K : PySem.W.Frag} {mg : Str → Option Value} {base : Heap}
theorem nodup_sub : ∀ (ds es : List Int), ds.Nodup → (∀ x ∈ ds, x ∈ es) → ds.length ≤ es.length
  | [], _, _, _ => Nat.zero_le _
  | d :: ds, es, nd, h => by
    rw [List.nodup_cons] at nd
    have h1 := nodup_sub ds (es.erase d) nd.2 fun x hx => by
      refine (List.mem_erase_of_ne ?_).mpr (h x (List.mem_cons_of_mem _ hx))
      exact fun e => nd.1 (by rw [← e]; exact hx)
    have h2 := h d (List.mem_cons_self ..)
    rw [List.length_erase_of_mem h2] at h1
    have := List.length_pos_of_mem h2
    rw [List.length_cons]
    omega
theorem ok_l_due_at (T : Txt K mg) : Good P w K mg base 1 (He.ga K "_law_due_at") ["_law_rows", "_law_front"] [] (sp_l_due_at K) := by
  refine good_of T.f_l_due_at sc_l_due_at (fun vs H Q E h => ?_) (fun _ _ _ _ _ _ us hl => match us, hl with | [_, _], _ => rfl) (fun cdv A outer s H vs Q E hr h => ?_)
  · obtain ⟨_, _, _, _, rfl, _⟩ := h
    rfl
  refine ⟨_, (pss_one (ps_ret (pe_callB (cr_sortedSet rfl) (by rfl) T.z_sorted (by decide +kernel) (pa_cons (pe_callTy (cr_setL rfl) (by rfl) T.z_set (by decide +kernel) (pa_cons (pe_lc (own := [("_law_k", 2)]) (g := (gName 2)) rfl sc_l_due_at.nd (pi_range1 (by rfl) T.z_range (pa_cons (pe_callB call_len_seq (by rfl) T.z_len (by decide +kernel) (pa_cons (pv 0) pa_nil)) pa_nil)) (blkOk_by (own := [("_law_k", 2)]) (N := ["_law_rows", "_law_front", "_law_k"]) (sc := defScope s_l_due_at) (by decide +kernel)) (fun _ _ _ _ _ => (pg_name (i := 2) sc_l_due_at.nd rfl (Or.inl rfl))) (fun _ _ _ _ _ => (pts_one (pt_cmpR op_lt (pe_ix (ix_tupE (K := K) rfl) (pv 1) (pv 2) (fun _ _ => rfl)) (pe_callB (call_lenE (K := K) rfl) (by rfl) T.z_len (by decide +kernel) (pa_cons (pe_ix (ix_listE (K := K) rfl) (pv 0) (pv 2) (fun _ _ => rfl)) pa_nil)) (nomark _)))) (fun _ _ _ _ _ => (pe_ix (ix_listE (K := K) rfl) (pe_ix (ix_listE (K := K) rfl) (pv 0) (pv 2) (fun _ _ => rfl)) (pe_ix (ix_tupE (K := K) rfl) (pv 1) (pv 2) (fun _ _ => rfl)) (fun _ _ => rfl)))) pa_nil)) pa_nil)))), ?_⟩
  obtain ⟨a, t, zs, f, rfl, ⟨hS, hL, hn, hl⟩, hf, hok, q⟩ := h
  have hlen : (refL zs).length = zs.length := List.length_map ..
  have hfl := hok.len
  rw [List.length_map] at hfl
  refine ⟨.ref a, rfl, a, _, rfl, .inl hS, ((refL zs).length : Nat), rfl, by omega, by omega, fun D hD => lc_range (n := (refL zs).length) (fun i H3 => Same H H3 ∧ ∃ es : List Int, H3 D = some (ilst es) ∧ es.length ≤ i ∧ ∀ b, b ∈ es ↔ SymB (zs.map (·.2)) f i b)
    ⟨same_new hD, [], upd_same, Nat.le_refl _, fun b => ⟨fun h => (nomatch h), fun ⟨j, _, _, h, _⟩ => absurd h (Nat.not_lt_zero _)⟩⟩ ?_ ?_⟩
  · rintro i H3 hi ⟨s3, es, h3, hel, hes⟩
    have hiz : i < zs.length := by omega
    obtain ⟨z, hz, hzm⟩ : ∃ z, zs[i]? = some z ∧ z ∈ zs := ⟨_, List.getElem?_eq_getElem hiz, List.getElem_mem hiz⟩
    have hz2 : (zs.map (·.2))[i]? = some z.2 := by rw [List.getElem?_map, hz]; rfl
    have hz3 : (refL zs)[i]? = some (.ref z.1) := by unfold refL; rw [List.getElem?_map, hz]; rfl
    obtain ⟨k, hk, hkl⟩ := hok.at hz2
    have hA : SqL K H3 a (refL zs) := s3.seq hS
    have hF : SqT K H3 t ((nmap f).map V.int) := SqT.of (s3 _ _ hf)
    have hW : SqL K H3 z.1 (z.2.map V.int) := s3.seq (hL z hzm)
    refine ⟨rfl, _, rfl, _, rfl, t, _, _, _, rfl, rfl, hF, atI0 (nmap_get hk), _, rfl, _, rfl, a, _, _, _, rfl, rfl, hA, atI0 hz3, z.1, _, rfl, .inl hW, _, _, rfl, rfl, _, rfl, if2 (fun e => ?_) (fun e => ?_)⟩
    · rw [List.length_map] at e
      have hkl2 : k < z.2.length := by omega
      obtain ⟨b, hb⟩ : ∃ b, z.2[k]? = some b := ⟨_, List.getElem?_eq_getElem hkl2⟩
      refine ⟨_, rfl, _, rfl, a, _, _, _, rfl, rfl, hA, atI0 hz3, _, rfl, _, rfl, t, _, _, _, rfl, rfl, hF, atI0 (nmap_get hk), z.1, _, _, _, rfl, rfl, hW, atI_nat (get_map hb), _, h3, small1000 (by rw [List.length_map]; omega), same_mut s3 hD, es ++ [b], ?_, ?_, fun b' => ?_⟩
      · rw [upd_same]
        unfold ilst
        rw [List.map_append]
        rfl
      · rw [List.length_append]
        show es.length + 1 ≤ i + 1
        omega
      · rw [List.mem_append, symB_succ hz2 hk, hes, hb, List.mem_singleton]
        exact or_congr Iff.rfl ⟨fun e => by rw [e], fun e => (Option.some.inj e).symm⟩
    · rw [List.length_map] at e
      refine ⟨s3, es, h3, by omega, fun b' => ?_⟩
      rw [symB_succ hz2 hk, hes]
      refine ⟨.inl, fun h => h.elim id fun h => ?_⟩
      have := (List.getElem?_eq_some_iff.mp h).1
      omega
  · rintro H3 ⟨s3, es, h3, hel, hes⟩
    have e1 : (refL zs).length = (zs.map (·.2)).length := by rw [hlen, List.length_map]
    rw [e1] at hes
    refine tnil_go ?_
    refine ⟨D, es, rfl, SqL.of h3, ?_, fun b c nb hc => ?_⟩
    · have : scanBound = 4096 := rfl
      omega
    refine ⟨b, _, c, rfl, upd_same, by omega, fun ds p pw mem hdl np => ?_⟩
    have hmem : ∀ x, x ∈ ds ↔ Sym (zs.map (·.2)) f x := fun x => by
      rw [mem, ← symB_end, ← hes]
      exact decide_eq_true_iff
    refine q _ p ds ((s3.trans (same_new nb)).trans (same_new np)) ((s3.trans (same_new nb)).free np) upd_same hmem ?_
    have nd : ds.Nodup := pw.imp fun h => by omega
    have h1 := nodup_sub ds es nd fun x hx => by
      have := (mem x).mp hx
      exact of_decide_eq_true this
    omega
theorem ok_l_ahead (T : Txt K mg) : Good P w K mg base 1 (He.ga K "_law_ahead") ["_law_rows", "_law_front", "_law_symbol"] [] (sp_l_ahead K) := by
  refine good_of T.f_l_ahead sc_l_ahead (fun vs H Q E h => ?_) (fun _ _ _ _ _ _ us hl => match us, hl with | [_, _, _], _ => rfl) (fun cdv A outer s H vs Q E hr h => ?_)
  · obtain ⟨_, _, _, _, _, rfl, _⟩ := h
    rfl
  refine ⟨_, (pss_one (ps_ret (pe_callTy call_tuple_of (by rfl) T.z_tuple (by decide +kernel) (pa_cons (pe_lc (own := [("_law_k", 3)]) (g := (gName 3)) (tt := tYes) rfl sc_l_ahead.nd (pi_range1 (by rfl) T.z_range (pa_cons (pe_callB call_len_seq (by rfl) T.z_len (by decide +kernel) (pa_cons (pv 0) pa_nil)) pa_nil)) (blkOk_by (own := [("_law_k", 3)]) (N := ["_law_rows", "_law_front", "_law_symbol", "_law_k"]) (sc := defScope s_l_ahead) (by decide +kernel)) (fun _ _ _ _ _ => (pg_name (i := 3) sc_l_ahead.nd rfl (Or.inl rfl))) (fun _ _ _ _ _ => pts_nil) (fun _ _ _ _ _ => (pe_op op_add (pe_ix (ix_tupE (K := K) rfl) (pv 1) (pv 3) (fun _ _ => rfl)) (pe_callTy call_int1 (by rfl) T.z_int (by decide +kernel) (pa_cons (pe_and (pe_cmpR op_lt (pe_ix (ix_tupE (K := K) rfl) (pv 1) (pv 3) (fun _ _ => rfl)) (pe_callB (call_lenE (K := K) rfl) (by rfl) T.z_len (by decide +kernel) (pa_cons (pe_ix (ix_listE (K := K) rfl) (pv 0) (pv 3) (fun _ _ => rfl)) pa_nil)) (nomark _)) (pe_one (pe_cmpR op_eq (pe_ix (ix_listE (K := K) rfl) (pe_ix (ix_listE (K := K) rfl) (pv 0) (pv 3) (fun _ _ => rfl)) (pe_ix (ix_tupE (K := K) rfl) (pv 1) (pv 3) (fun _ _ => rfl)) (fun _ _ => rfl)) (pv 2) (nomark _)))) pa_nil))))) pa_nil)))), ?_⟩
  obtain ⟨a, t, b, zs, f, rfl, ⟨hS, hL, hn, hl⟩, hf, hok, q⟩ := h
  have hlen : (refL zs).length = zs.length := List.length_map ..
  have hfl := hok.len
  rw [List.length_map] at hfl
  have hsl := step_len b hok
  rw [List.length_map] at hsl
  refine ⟨.ref a, rfl, a, _, rfl, .inl hS, ((refL zs).length : Nat), rfl, by omega, by omega, fun D hD => lc_range (n := (refL zs).length) (fun i H3 => Same H H3 ∧ H3 D = some (ilst (nmap ((fstep b (zs.map (·.2)) f).take i))))
    ⟨same_new hD, upd_same⟩ ?_ ?_⟩
  · rintro i H3 hi ⟨s3, h3⟩
    have hiz : i < zs.length := by omega
    obtain ⟨z, hz, hzm⟩ : ∃ z, zs[i]? = some z ∧ z ∈ zs := ⟨_, List.getElem?_eq_getElem hiz, List.getElem_mem hiz⟩
    have hz2 : (zs.map (·.2))[i]? = some z.2 := by rw [List.getElem?_map, hz]; rfl
    have hz3 : (refL zs)[i]? = some (.ref z.1) := by unfold refL; rw [List.getElem?_map, hz]; rfl
    obtain ⟨k, hk, hkl⟩ := hok.at hz2
    have hA : SqL K H3 a (refL zs) := s3.seq hS
    have hF : SqT K H3 t ((nmap f).map V.int) := SqT.of (s3 _ _ hf)
    have hW : SqL K H3 z.1 (z.2.map V.int) := s3.seq (hL z hzm)
    have push : ∀ m : Int, m = ((k + if due z.2 k b = true then 1 else 0 : Nat) : Int) → ((nmap ((fstep b (zs.map (·.2)) f).take i)).map V.int).length < sizeLine ∧ Same H (upd H3 D (.lst ((nmap ((fstep b (zs.map (·.2)) f).take i)).map V.int ++ [.int m]))) ∧
        upd H3 D (.lst ((nmap ((fstep b (zs.map (·.2)) f).take i)).map V.int ++ [.int m])) D = some (ilst (nmap ((fstep b (zs.map (·.2)) f).take (i + 1)))) := fun m hm => by
      refine ⟨small1000 (by unfold nmap; rw [List.length_map, List.length_map, List.length_take]; omega), same_mut s3 hD, ?_⟩
      rw [upd_same, List.take_add_one, step_get b hz2 hk, hm]
      unfold ilst nmap
      rw [List.map_append, List.map_append]
      rfl
    refine ⟨rfl, yes_then ?_⟩
    refine ⟨_, rfl, _, rfl, t, _, _, _, rfl, rfl, hF, atI0 (nmap_get hk), _, rfl, _, rfl, t, _, _, _, rfl, rfl, hF, atI0 (nmap_get hk), _, rfl, _, rfl, a, _, _, _, rfl, rfl, hA, atI0 hz3, z.1, _, rfl, .inl hW, _, _, rfl, rfl, _, rfl, if2 (fun e => ?_) (fun e => ?_)⟩
    · rw [List.length_map] at e
      have hkl2 : k < z.2.length := by omega
      obtain ⟨x, hx⟩ : ∃ x, z.2[k]? = some x := ⟨_, List.getElem?_eq_getElem hkl2⟩
      refine ⟨_, rfl, _, rfl, a, _, _, _, rfl, rfl, hA, atI0 hz3, _, rfl, _, rfl, t, _, _, _, rfl, rfl, hF, atI0 (nmap_get hk), z.1, _, _, _, rfl, rfl, hW, atI_nat (get_map hx), _, rfl, rfl, .inr ⟨_, rfl, _, _, rfl, rfl, _, h3, push _ ?_⟩⟩
      unfold due
      by_cases hxb : x = b
      · subst hxb
        rw [if_pos (by simp), if_pos (by simp [hx])]
        rfl
      · rw [if_neg (by simp [hxb]), if_neg (by simp [hx, hxb])]
        rfl
    · rw [List.length_map] at e
      refine .inr ⟨_, rfl, _, _, rfl, rfl, _, h3, push _ ?_⟩
      have hno : ¬ due z.2 k b = true := fun h => by
        have := due_lt h
        omega
      rw [if_neg hno]
      rfl
  · rintro H3 ⟨s3, h3⟩
    have e1 : (fstep b (zs.map (·.2)) f).take (refL zs).length = fstep b (zs.map (·.2)) f := List.take_of_length_le (by omega)
    rw [e1] at h3
    refine tnil_go ?_
    exact ⟨D, _, rfl, .inl ⟨SqL.of h3, fun p np => q _ p (s3.trans (same_new np)) (s3.free np) upd_same⟩⟩
end
end K37

namespace K37
open PySem PySem.Spec PyProof.Rows L2 Fw Lay
section
variable {P : Program} {w : World} {K : PySem.W.Frag} {mg : Str → Option Value} {base : Heap}
theorem refP_get {ps : Ps} {j : Nat} {x : V} (hj : (refP ps)[j]? = some x) : ∃ r, ps[j]? = some r ∧ r ∈ ps ∧ x = V.ref r.1 := by
  unfold refP at hj
  rw [List.getElem?_map] at hj
  cases e2 : ps[j]? with
  | none =>
    rw [e2] at hj
    cases hj
  | some r =>
    rw [e2] at hj
    exact ⟨r, rfl, List.mem_of_getElem? e2, (Option.some.inj hj).symm⟩
theorem refF_get {fs : Fs} {j : Nat} {x : V} (hj : (refF fs)[j]? = some x) : ∃ r, fs[j]? = some r ∧ r ∈ fs ∧ x = V.ref r.1 := by
  unfold refF at hj
  rw [List.getElem?_map] at hj
  cases e2 : fs[j]? with
  | none =>
    rw [e2] at hj
    cases hj
  | some r =>
    rw [e2] at hj
    exact ⟨r, rfl, List.mem_of_getElem? e2, (Option.some.inj hj).symm⟩
theorem sym_in {n : Nat} {ls : Ls} {f : Ft} {b : Int} (h : SyOk n ls) (hb : Sym ls f b) : 0 ≤ b ∧ b < (n : Int) := by
  obtain ⟨j, l, k, h1, _, h3⟩ := sym_get.mp hb
  exact h l (List.mem_of_getElem? h1) b (List.mem_of_getElem? h3)
theorem hofK_val {kvs : List (List L2.Key × V)} (hI : IntD kvs) {f : Ft} {v : Int} (h : hofK kvs f = some v) : valV kvs (fkey f) = some (.int v) := by
  rcases hI.val (fkey f) with hn | ⟨i, hi⟩
  · rw [hofK_none hn] at h
    cases h
  · rw [hofK_some hi] at h
    rw [hi, Option.some.inj h]
theorem mem_take_succ {α : Type} {l : List α} {j : Nat} {r : α} (h : l[j]? = some r) {x : α} (hx : x ∈ l.take (j + 1)) : x ∈ l.take j ∨ x = r := by
  rw [List.take_add_one, h] at hx
  rcases List.mem_append.mp hx with h | h
  · exact .inl h
  · exact .inr (List.mem_singleton.mp h)
theorem ok_holds (T : Txt K mg) : Good P w K mg base 2 (He.ga K "holds") ["prices", "rows", "front", "heights"] [] (sp_holds K) := by
  refine good_of T.f_holds sc_holds (fun vs H Q E h => ?_) (fun _ _ _ _ _ _ us hl => match us, hl with | [_, _, _, _], _ => rfl) (fun cdv A outer s H vs Q E hr h => ?_)
  · obtain ⟨_, _, _, _, _, _, _, _, rfl, _⟩ := h
    rfl
  refine ⟨_, (pss_cons (ps_if (pt_cmp (pc_dnotin (hu_of hr) (pv 2) (pv 3)))
    (pss_one (ps_ret pe_bl))
    pss_nil)
  (pss_cons (ps_set (i := 4) sc_holds.nd rfl (Or.inl rfl) (pe_cg (ok_steps T) (hr.mono (j := 1) (by decide)) (by rfl) T.g_steps (pa_cons (pv 1) (pa_cons (pv 2) pa_nil))))
  (pss_cons (ps_if (pt_not (pt_truth (pv 4) (by intro _; rfl)))
    (pss_one (ps_ret (pe_cmpR op_le (pe_dget (hu_of hr) (pv 3) (pv 2) (fun _ _ => rfl)) pe_int (nomark _))))
    pss_nil)
  (pss_cons (ps_for PassesOwn.never rfl (pi_list (pv 4)) (pg_tup rfl (pgs_cons (pg_name (i := 5) sc_holds.nd rfl (Or.inl rfl)) (pgs_cons (pg_name (i := 6) sc_holds.nd rfl (Or.inl rfl)) pgs_nil)))
    (pss_one (ps_if (pw_or (pt_cmp (pc_dnotin (hu_of hr) (pv 6) (pv 3))) (pw_or1 (pt_cmpR op_gt (pe_dget (hu_of hr) (pv 3) (pv 2) (fun _ _ => rfl)) (pe_op op_add (pe_ix ix_list (pv 0) (pv 5) (fun _ _ => rfl)) (pe_dget (hu_of hr) (pv 3) (pv 6) (fun _ _ => rfl))) (nomark _)))).pt
    (pss_one (ps_ret pe_bl))
    pss_nil)))
  (pss_one (ps_ret pe_bl)))))), ?_⟩
  obtain ⟨c, a, t, d, pr, zs, f, kvs, rfl, hC, hPr, hRw, hSy, ht, hok, hd, hI, q⟩ := h
  refine ⟨_, rfl, _, rfl, d, _, rfl, DGet.t hd (tup_key ht), _, rfl, ?_⟩
  rcases hI.val (fkey f) with hn | ⟨v, hv⟩
  · rw [hn]
    refine iteT ?_
    exact q H false (Same.refl _) ⟨fun h => (nomatch h), fun ⟨v, hv, _⟩ => by rw [hofK_none hn] at hv; cases hv⟩
  have hvf := hofK_some hv
  have hun : ∀ {P : Int → Prop}, (∃ w, hofK kvs f = some w ∧ P w) → P v := fun ⟨w, h1, h2⟩ => by
    rw [hvf] at h1
    rw [Option.some.inj h1]
    exact h2
  rw [hv]
  refine iteF ?_
  refine ⟨_, rfl, _, rfl, a, t, zs, f, rfl, hRw, ht, hok, fun H2 p ps s2 np hp hps hpl => ?_⟩
  have hd2 := s2 _ _ hd
  have ht2 := s2 _ _ ht
  have hget : DGet H2 d (.ref t) (some (.int v)) := by
    have h1 := DGet.t hd2 (tup_key ht2)
    rw [hv] at h1
    exact h1
  refine ⟨_, rfl, _, .inl ⟨refP ps, SqL.of hp, rfl⟩, ?_⟩
  cases hpe : ps with
  | nil =>
    refine iteT ?_
    have hno : ∀ b, ¬ Sym (zs.map (·.2)) f b := fun b hb => by
      have := (hps.2 b).mpr hb
      rw [hpe] at this
      cases this
    refine ⟨_, rfl, _, rfl, d, .int v, rfl, hget, _, _, rfl, rfl, ?_⟩
    refine q H2 _ s2 ⟨fun h => ⟨v, hvf, fun _ => of_decide_eq_true h, fun b hb => absurd hb (hno b)⟩, fun h => decide_eq_true (hun h |>.1 hno)⟩
  | cons r0 ps0 =>
    refine iteF ?_
    have hsym0 := (hps.2 r0.2.1).mp (List.mem_map_of_mem (f := fun z : Addr × Int × Addr => z.2.1) (by rw [hpe]; exact List.mem_cons_self ..))
    refine ⟨.ref p, rfl, p, rfl, ⟨_, SqL.of hp⟩, for_list (K := K) (a := p) (xs := refP ps) (fun j σ H7 => H7 = H2 ∧ (∀ r ∈ ps.take j, ∃ u, hofK kvs (fstep r.2.1 (zs.map (·.2)) f) = some u ∧ v ≤ pw pr r.2.1 + u) ∧ ∃ y5 y6, σ = [some (.ref c), some (.ref a), some (.ref t), some (.ref d), some (.ref p), y5, y6])
      ⟨rfl, fun r hr => (nomatch hr), none, none, rfl⟩ (fun j σ H7 _ h => by rw [h.1]; exact SqL.of hp) ?_ ?_⟩
    · rintro j x σ H7 hj ⟨rfl, hdone, y5, y6, rfl⟩
      obtain ⟨r, hr, hrm, rfl⟩ := refP_get hj
      have hsym := (hps.2 r.2.1).mp (List.mem_map_of_mem (f := fun z : Addr × Int × Addr => z.2.1) hrm)
      have hin := sym_in hSy hsym
      refine ⟨r.1, _, rfl, SqT.of (hps.1 r hrm).1, rfl, _, _, rfl, _, _, rfl, rfl, ?_⟩
      refine ⟨_, rfl, _, rfl, d, _, rfl, DGet.t hd2 (tup_key (hps.1 r hrm).2), _, rfl, ?_⟩
      rcases hI.val (fkey (fstep r.2.1 (zs.map (·.2)) f)) with hn | ⟨u, hu⟩
      · rw [hn]
        refine iteT ?_
        refine q H7 false s2 ⟨fun h => (nomatch h), fun ⟨_, _, _, h⟩ => ?_⟩
        obtain ⟨u, hu, _⟩ := h _ hsym
        rw [hofK_none hn] at hu
        cases hu
      · have hget2 : DGet H7 d (.ref r.2.2) (some (.int u)) := by
          have h1 := DGet.t hd2 (tup_key (hps.1 r hrm).2)
          rw [hu] at h1
          exact h1
        rw [hu]
        refine iteF ⟨_, rfl, _, rfl, d, .int v, rfl, hget, _, rfl, _, rfl, c, _, _, _, rfl, rfl, s2.seq hC, pw_sym hin.1 hin.2, _, rfl, _, rfl, d, .int u, rfl, hget2, _, _, rfl, rfl, _, _, rfl, rfl, _, rfl, if2 (fun e => ?_) (fun e => ?_)⟩
        · refine q H7 false s2 ⟨fun h => (nomatch h), fun h => ?_⟩
          obtain ⟨w, hw, hle⟩ := (hun h).2 _ hsym
          rw [hofK_some hu] at hw
          have := Option.some.inj hw
          omega
        · refine ⟨rfl, fun r' hr' => ?_, _, _, rfl⟩
          rcases mem_take_succ hr hr' with h | h
          · exact hdone r' h
          · rw [h]
            exact ⟨u, hofK_some hu, by omega⟩
    · rintro σ H7 ⟨rfl, hdone, y5, y6, rfl⟩
      have e3 : ps.take (refP ps).length = ps := List.take_of_length_le (by unfold refP; rw [List.length_map]; exact Nat.le_refl _)
      rw [e3] at hdone
      refine q H7 true s2 ⟨fun _ => ⟨v, hvf, fun hno => absurd hsym0 (hno _), fun b hb => ?_⟩, fun _ => rfl⟩
      obtain ⟨r, hr, rfl⟩ := List.mem_map.mp ((hps.2 b).mpr hb)
      exact hdone r hr
theorem ok_check_heights (T : Txt K mg) : Good P w K mg base 3 (He.ga K "check_heights") ["prices", "rows", "heights", "claim"] [] (sp_check_heights K) := by
  refine good_of T.f_check_heights sc_check_heights (fun vs H Q E h => ?_) (fun _ _ _ _ _ _ us hl => match us, hl with | [_, _, _, _], _ => rfl) (fun cdv A outer s H vs Q E hr h => ?_)
  · obtain ⟨_, _, _, _, _, _, _, rfl, _⟩ := h
    rfl
  refine ⟨_, (pss_cons (ps_expr (pe_cg (ok_check_fronts T) (hr.mono (j := 1) (by decide)) (by rfl) T.g_check_fronts (pa_cons (pv 1) pa_nil)))
  (pss_cons (ps_for PassesOwn.never rfl (pi_list (pe_cg (ok_reachable T) (hr.mono (j := 2) (by decide)) (by rfl) T.g_reachable (pa_cons (pv 1) pa_nil))) (pg_name (i := 4) sc_check_heights.nd rfl (Or.inl rfl))
    (pss_one (ps_if (pt_not (pt_val (pe_cg (ok_holds T) (hr.mono (j := 2) (by decide)) (by rfl) T.g_holds (pa_cons (pv 0) (pa_cons (pv 1) (pa_cons (pv 4) (pa_cons (pv 2) pa_nil)))))))
    (pss_one (ps_ret pe_bl))
    pss_nil)))
  (pss_one (ps_ret (pe_cmpR op_ge (pe_dget (hu_of hr) (pv 2) (pe_cg (ok_zeros T) (hr.mono (j := 1) (by decide)) (by rfl) T.g_zeros (pa_cons (pv 1) pa_nil)) (fun _ _ => rfl)) (pv 3) (nomark _)))))), ?_⟩
  obtain ⟨c, a, d, cl, pr, zs, kvs, rfl, hC, hPr, hRw, hSy, hP, hd, hI, q⟩ := h
  refine ⟨_, rfl, a, zs, rfl, hRw, hP, ?_⟩
  refine ⟨_, rfl, a, zs, rfl, hRw, hP, fun H2 p fs s2 np hp hfs hrch => ?_⟩
  have hd2 := s2 _ _ hd
  refine ⟨p, rfl, ⟨_, SqL.of hp⟩, for_list (K := K) (a := p) (xs := refF fs) (fun j σ H7 => Same H2 H7 ∧ (∀ r ∈ fs.take j, Shown (pw pr) (zs.map (·.2)) (hofK kvs) r.2) ∧ ∃ y, σ = [some (.ref c), some (.ref a), some (.ref d), some (.int cl), y])
    ⟨Same.refl _, fun r hr => (nomatch hr), none, rfl⟩ (fun j σ H7 _ h => SqL.of (h.1 _ _ hp)) ?_ ?_⟩
  · rintro j x σ H7 hj ⟨s7, hdone, y, rfl⟩
    obtain ⟨r, hr, hrm, rfl⟩ := refF_get hj
    have s27 := s2.trans s7
    refine ⟨_, rfl, _, rfl, _, rfl, _, rfl, c, a, r.1, d, pr, zs, r.2, kvs, rfl, s27.seq hC, hPr, hRw.same s27, hSy, s7 _ _ (hfs.1 r hrm).1, (hfs.1 r hrm).2, s7 _ _ hd2, hI, fun H8 b s8 hb => ⟨b, rfl, ?_⟩⟩
    cases b with
    | false =>
      refine iteT ?_
      refine q H8 false (s27.trans s8) ⟨fun h => (nomatch h), fun h => ?_⟩
      exact hb.mpr (h.1 r.2 ((hrch r.2).mp (List.mem_map_of_mem (f := fun z : Addr × Ft => z.2) hrm)))
    | true =>
      refine iteF ⟨s7.trans s8, fun r' hr' => ?_, _, rfl⟩
      rcases mem_take_succ hr hr' with h | h
      · exact hdone r' h
      · rw [h]
        exact hb.mp rfl
  · rintro σ H7 ⟨s7, hdone, y, rfl⟩
    have e3 : fs.take (refF fs).length = fs := List.take_of_length_le (by unfold refF; rw [List.length_map]; exact Nat.le_refl _)
    rw [e3] at hdone
    have hall : ∀ f, Rch (zs.map (·.2)) f → Shown (pw pr) (zs.map (·.2)) (hofK kvs) f := fun f hf => by
      obtain ⟨r, hr, rfl⟩ := List.mem_map.mp ((hrch f).mpr hf)
      exact hdone r hr
    obtain ⟨v, hv, _⟩ := hall _ .zero
    refine ⟨_, rfl, _, rfl, a, zs, rfl, hRw.same (s2.trans s7), fun H8 t s8 nt ht => ⟨d, .int v, rfl, ?_, _, rfl, _, _, rfl, rfl, ?_⟩⟩
    · have h1 := DGet.t (s8 _ _ (s7 _ _ hd2)) (tup_key ht)
      rw [hofK_val hI hv] at h1
      exact h1
    · refine q H8 _ ((s2.trans s7).trans s8) ⟨fun h => ⟨hall, v, hv, of_decide_eq_true h⟩, fun ⟨_, w, hw, hle⟩ => decide_eq_true ?_⟩
      rw [hv] at hw
      rw [Option.some.inj hw]
      exact hle
end
end K37

namespace K37
open PySem PySem.Spec PyProof.Rows L2 Fw Lay
section
variable {P : Program} {w : World} {K : PySem.W.Frag} {mg : Str → Option Value} {base : Heap}
theorem ok_l_shows (T : Txt K mg) : Good P w K mg base 2 (He.ga K "_law_shows") ["_law_prices_here", "_law_rows", "_law_fronts_here", "_law_claimed", "_law_claim"] [] (sp_l_shows K) := by
  refine good_of T.f_l_shows sc_l_shows (fun vs H Q E h => ?_) (fun _ _ _ _ _ _ us hl => match us, hl with | [_, _, _, _, _], _ => rfl) (fun cdv A outer s H vs Q E hr h => ?_)
  · obtain ⟨_, _, _, _, _, _, _, _, _, rfl, _⟩ := h
    rfl
  refine ⟨_, (pss_cons (ps_for PassesOwn.never rfl (pi_list (pv 2)) (pg_name (i := 5) sc_l_shows.nd rfl (Or.inl rfl))
    (pss_cons (ps_if (pt_cmp (pc_dnotin (hu_of hr) (pv 5) (pv 3)))
    (pss_one (ps_ret pe_bl))
    pss_nil)
  (pss_cons (ps_set (i := 6) sc_l_shows.nd rfl (Or.inl rfl) (pe_cg (ok_l_due_at T) (hr.mono (j := 1) (by decide)) (by rfl) T.g_l_due_at (pa_cons (pv 1) (pa_cons (pv 5) pa_nil))))
  (C8.pss_cut (ps_if (pw_and (pt_cmpR op_eq (pe_callB call_len_seq (by rfl) T.z_len (by decide +kernel) (pa_cons (pv 6) pa_nil)) pe_int (nomark _)) (pw_and1 (pt_cmpR op_gt (pe_dget (hu_of hr) (pv 3) (pv 5) (fun _ _ => rfl)) pe_int (nomark _)))).pt
    (pss_one (ps_ret pe_bl))
    pss_nil)
  (pss_one (ps_for PassesOwn.never rfl (pi_list (pv 6)) (pg_name (i := 7) sc_l_shows.nd rfl (Or.inl rfl))
    (pss_cons (ps_set (i := 8) sc_l_shows.nd rfl (Or.inl rfl) (pe_cg (ok_l_ahead T) (hr.mono (j := 1) (by decide)) (by rfl) T.g_l_ahead (pa_cons (pv 1) (pa_cons (pv 5) (pa_cons (pv 7) pa_nil)))))
  (pss_one (ps_if (pw_or (pt_cmp (pc_dnotin (hu_of hr) (pv 8) (pv 3))) (pw_or1 (pt_cmpR op_gt (pe_dget (hu_of hr) (pv 3) (pv 5) (fun _ _ => rfl)) (pe_op op_add (pe_ix ix_list (pv 0) (pv 7) (fun _ _ => rfl)) (pe_dget (hu_of hr) (pv 3) (pv 8) (fun _ _ => rfl))) (nomark _)))).pt
    (pss_one (ps_ret pe_bl))
    pss_nil)))))))))
  (pss_one (ps_ret (pe_cmpR op_ge (pe_dget (hu_of hr) (pv 3) (pe_ix ix_list (pv 2) pe_int (fun _ _ => rfl)) (fun _ _ => rfl)) (pv 4) (nomark _))))), ?_⟩
  obtain ⟨c, a, g, d, cl, pr, zs, fs, kvs, rfl, hC, hPr, hRw, hSy, hG, hfs, h00, hrch, hd, hI, q⟩ := h
  refine ⟨.ref g, rfl, g, rfl, ⟨_, SqL.of hG⟩, for_list (K := K) (a := g) (xs := refF fs) (fun i σ H7 => Same H H7 ∧ (∀ r ∈ fs.take i, Shown (pw pr) (zs.map (·.2)) (hofK kvs) r.2) ∧ ∃ y5 y6 y7 y8, σ = [some (.ref c), some (.ref a), some (.ref g), some (.ref d), some (.int cl), y5, y6, y7, y8])
    ⟨Same.refl _, fun r hr => (nomatch hr), none, none, none, none, rfl⟩ (fun j σ H7 _ h => SqL.of (h.1 _ _ hG)) ?_ ?_⟩
  · rintro i x σ H7 hi ⟨s7, hdone, y5, y6, y7, y8, rfl⟩
    obtain ⟨r, hr, hrm, rfl⟩ := refF_get hi
    have ht := (hfs.1 r hrm).1
    have hok := (hfs.1 r hrm).2
    have hget : ∀ {H8 : Hp} {u : Addr} {f : Ft}, Same H H8 → H8 u = some (itup (nmap f)) → DGet H8 d (.ref u) (valV kvs (fkey f)) := fun s h => DGet.t (s _ _ hd) (tup_key h)
    refine ⟨_, rfl, _, rfl, d, _, rfl, hget s7 (s7 _ _ ht), _, rfl, ?_⟩
    rcases hI.val (fkey r.2) with hn | ⟨v, hv⟩
    · rw [hn]
      refine iteT ?_
      refine q H7 false s7 ⟨fun h => (nomatch h), fun h => ?_⟩
      obtain ⟨v, hv, _⟩ := h.1 r.2 ((hrch r.2).mp (List.mem_map_of_mem (f := fun z : Addr × Ft => z.2) hrm))
      rw [hofK_none hn] at hv
      cases hv
    have hvf := hofK_some hv
    have hun : ∀ {P : Int → Prop}, (∃ w, hofK kvs r.2 = some w ∧ P w) → P v := fun ⟨w, h1, h2⟩ => by
      rw [hvf] at h1
      rw [Option.some.inj h1]
      exact h2
    have hgv : ∀ {H8 : Hp}, Same H H8 → DGet H8 d (.ref r.1) (some (.int v)) := fun s => by
      have h1 := hget s (s _ _ ht)
      rw [hv] at h1
      exact h1
    rw [hv]
    refine iteF ?_
    refine ⟨_, rfl, _, rfl, a, r.1, zs, r.2, rfl, hRw.same s7, s7 _ _ ht, hok, fun H8 p ys s8 np hp hys hyl => ?_⟩
    have s78 := s7.trans s8
    refine ⟨fun σ H9 => H9 = H8 ∧ ((∀ b, ¬ Sym (zs.map (·.2)) r.2 b) → v ≤ 0) ∧ σ = [some (.ref c), some (.ref a), some (.ref g), some (.ref d), some (.int cl), some (.ref r.1), some (.ref p), y7, y8], ?_, ?_⟩
    · refine ⟨.ref p, rfl, p, _, rfl, .inl (SqL.of hp), rfl, _, rfl, if2 (fun e => ?_) (fun e => ?_)⟩
      · refine ⟨_, rfl, _, rfl, d, .int v, rfl, hgv s78, _, _, rfl, rfl, _, rfl, if2 (fun e2 => ?_) (fun e2 => ?_)⟩
        · refine q H8 false s78 ⟨fun h => (nomatch h), fun h => ?_⟩
          have h1 := hun (h.1 r.2 ((hrch r.2).mp (List.mem_map_of_mem (f := fun z : Addr × Ft => z.2) hrm)))
          have h2 := h1.1 fun b hb => by
            have h3 := (hys b).mpr hb
            rw [List.length_map] at e
            have h4 : ys.length = 0 := by
              have := V.int.inj e
              omega
            rw [List.length_eq_zero_iff.mp h4] at h3
            cases h3
          omega
        · exact ⟨rfl, fun _ => by omega, rfl⟩
      · refine ⟨rfl, fun hno => ?_, rfl⟩
        exfalso
        apply e
        cases hye : ys with
        | nil => rfl
        | cons b bs => exact absurd ((hys b).mp (by rw [hye]; exact List.mem_cons_self ..)) (hno b)
    rintro σ H9 ⟨rfl, h0, rfl⟩
    refine ⟨.ref p, rfl, p, rfl, ⟨_, SqL.of hp⟩, for_list (K := K) (a := p) (xs := ys.map V.int) (fun j σ H10 => Same H9 H10 ∧ (∀ b ∈ ys.take j, ∃ u, hofK kvs (fstep b (zs.map (·.2)) r.2) = some u ∧ v ≤ pw pr b + u) ∧ ∃ y7 y8, σ = [some (.ref c), some (.ref a), some (.ref g), some (.ref d), some (.int cl), some (.ref r.1), some (.ref p), y7, y8])
      ⟨Same.refl _, fun b hb => (nomatch hb), y7, y8, rfl⟩ (fun j σ H10 _ h => SqL.of (h.1 _ _ hp)) ?_ ?_⟩
    · rintro j x σ H10 hj ⟨s10, hdn, y7, y8, rfl⟩
      obtain ⟨b, hb, rfl⟩ := map_get hj
      have hsym := (hys b).mp (List.mem_of_getElem? hb)
      have hin := sym_in hSy hsym
      have s0 := s78.trans s10
      refine ⟨_, rfl, _, rfl, _, rfl, a, r.1, b, zs, r.2, rfl, hRw.same s0, s0 _ _ ht, hok, fun H11 t s11 nt ht11 => ?_⟩
      have s1 := s0.trans s11
      refine ⟨_, rfl, _, rfl, d, _, rfl, hget s1 ht11, _, rfl, ?_⟩
      rcases hI.val (fkey (fstep b (zs.map (·.2)) r.2)) with hn | ⟨u, hu⟩
      · rw [hn]
        refine iteT ?_
        refine q H11 false s1 ⟨fun h => (nomatch h), fun h => ?_⟩
        obtain ⟨u, hu, _⟩ := (hun (h.1 r.2 ((hrch r.2).mp (List.mem_map_of_mem (f := fun z : Addr × Ft => z.2) hrm)))).2 _ hsym
        rw [hofK_none hn] at hu
        cases hu
      · have hget2 : DGet H11 d (.ref t) (some (.int u)) := by
          have h1 := hget s1 ht11
          rw [hu] at h1
          exact h1
        rw [hu]
        refine iteF ⟨_, rfl, _, rfl, d, .int v, rfl, hgv s1, _, rfl, _, rfl, c, _, _, _, rfl, rfl, s1.seq hC, pw_sym hin.1 hin.2, _, rfl, _, rfl, d, .int u, rfl, hget2, _, _, rfl, rfl, _, _, rfl, rfl, _, rfl, if2 (fun e => ?_) (fun e => ?_)⟩
        · refine q H11 false s1 ⟨fun h => (nomatch h), fun h => ?_⟩
          obtain ⟨w, hw, hle⟩ := (hun (h.1 r.2 ((hrch r.2).mp (List.mem_map_of_mem (f := fun z : Addr × Ft => z.2) hrm)))).2 _ hsym
          rw [hofK_some hu] at hw
          have := Option.some.inj hw
          omega
        · refine ⟨s10.trans s11, fun b' hb' => ?_, _, _, rfl⟩
          rcases mem_take_succ hb hb' with h | h
          · exact hdn b' h
          · rw [h]
            exact ⟨u, hofK_some hu, by omega⟩
    · rintro σ H10 ⟨s10, hdn, y7, y8, rfl⟩
      rw [List.length_map, List.take_length] at hdn
      refine ⟨s78.trans s10, fun r' hr' => ?_, _, _, _, _, rfl⟩
      rcases mem_take_succ hr hr' with h | h
      · exact hdone r' h
      · rw [h]
        exact ⟨v, hvf, h0, fun b hb => hdn b ((hys b).mpr hb)⟩
  · rintro σ H7 ⟨s7, hdone, y5, y6, y7, y8, rfl⟩
    have e3 : fs.take (refF fs).length = fs := List.take_of_length_le (by unfold refF; rw [List.length_map]; exact Nat.le_refl _)
    rw [e3] at hdone
    have hall : ∀ f, Rch (zs.map (·.2)) f → Shown (pw pr) (zs.map (·.2)) (hofK kvs) f := fun f hf => by
      obtain ⟨r, hr, rfl⟩ := List.mem_map.mp ((hrch f).mpr hf)
      exact hdone r hr
    obtain ⟨v, hv, _⟩ := hall _ .zero
    obtain ⟨q0, hq0, hq1⟩ := h00
    have hg0 : (refF fs)[0]? = some (.ref q0.1) := by
      unfold refF
      rw [List.getElem?_map, hq0]
      rfl
    refine ⟨_, rfl, _, rfl, g, _, 0, _, rfl, rfl, SqL.of (s7 _ _ hG), atI_nat (j := 0) hg0, d, .int v, rfl, ?_, _, rfl, _, _, rfl, rfl, ?_⟩
    · have h1 := DGet.t (s7 _ _ hd) (tup_key (s7 _ _ (hfs.1 q0 (List.mem_of_getElem? hq0)).1))
      rw [hq1, hofK_val hI hv] at h1
      exact h1
    · refine q H7 _ s7 ⟨fun h => ⟨hall, v, hv, of_decide_eq_true h⟩, fun ⟨_, w, hw, hle⟩ => decide_eq_true ?_⟩
      rw [hv] at hw
      rw [Option.some.inj hw]
      exact hle
end
end K37

namespace K37
open PySem PySem.Spec PyProof.Rows L2 Fw Lay
section
variable {P : Program} {w : World} {K : PySem.W.Frag} {mg : Str → Option Value} {base : Heap}
theorem rep0 : ∀ ls : Ls, (List.replicate ls.length [V.int 0]).flatten = (nmap (f0 ls)).map V.int
  | [] => rfl
  | l :: ls => by
    show V.int 0 :: (List.replicate ls.length [V.int 0]).flatten = V.int 0 :: (nmap (f0 ls)).map V.int
    rw [rep0 ls]
theorem ok_l_fronts (T : Txt K mg) : Good P w K mg base 2 (He.ga K "_law_fronts") ["_law_rows"] [] (sp_l_fronts K) := by
  refine good_of T.f_l_fronts sc_l_fronts (fun vs H Q E h => ?_) (fun _ _ _ _ _ _ us hl => match us, hl with | [_], _ => rfl) (fun cdv A outer s H vs Q E hr h => ?_)
  · obtain ⟨_, _, rfl, _⟩ := h
    rfl
  refine ⟨_, (pss_cons (ps_set (i := 1) sc_l_fronts.nd rfl (Or.inl rfl) pe_int)
  (pss_cons (ps_for PassesOwn.never rfl (pi_list (pv 0)) (pg_name (i := 2) sc_l_fronts.nd rfl (Or.inl rfl))
    (pss_one (ps_set (i := 1) sc_l_fronts.nd rfl (Or.inl rfl) (pe_op op_mul (pv 1) (pe_op op_add (pe_callB call_len_seq (by rfl) T.z_len (by decide +kernel) (pa_cons (pv 2) pa_nil)) pe_int)))))
  (pss_cons (ps_set (i := 3) sc_l_fronts.nd rfl (Or.inl rfl) (pe_lst (pa_cons (pe_callTy call_tuple_of (by rfl) T.z_tuple (by decide +kernel) (pa_cons (pe_op op_rep (pe_lst (pa_cons pe_int pa_nil)) (pe_callB call_len_seq (by rfl) T.z_len (by decide +kernel) (pa_cons (pv 0) pa_nil))) pa_nil)) pa_nil)))
  (pss_cons (ps_for PassesOwn.never rfl (pi_range1 (by rfl) T.z_range (pa_cons (pv 1) pa_nil)) (pg_name (i := 4) sc_l_fronts.nd rfl (Or.inl rfl))
    (pss_one (ps_if (pt_cmpR op_lt (pv 4) (pe_callB call_len_seq (by rfl) T.z_len (by decide +kernel) (pa_cons (pv 3) pa_nil)) (nomark _))
    (pss_one (ps_for PassesOwn.never rfl (pi_list (pe_cg (ok_l_due_at T) (hr.mono (j := 1) (by decide)) (by rfl) T.g_l_due_at (pa_cons (pv 0) (pa_cons (pe_ix ix_list (pv 3) (pv 4) (fun _ _ => rfl)) pa_nil)))) (pg_name (i := 5) sc_l_fronts.nd rfl (Or.inl rfl))
    (pss_cons (ps_set (i := 6) sc_l_fronts.nd rfl (Or.inl rfl) (pe_cg (ok_l_ahead T) (hr.mono (j := 1) (by decide)) (by rfl) T.g_l_ahead (pa_cons (pv 0) (pa_cons (pe_ix ix_list (pv 3) (pv 4) (fun _ _ => rfl)) (pa_cons (pv 5) pa_nil)))))
  (pss_one (ps_if (pt_cmpR (op_notInD (hu_in hr)) (pv 6) (pv 3) (by rfl))
    (pss_one (ps_expr (pe_bm PySem.F.plainAttrs_list PySem.F.slot_list_append PySem.F.type_list_append mt_append (pv 3) (pa_cons (pv 6) pa_nil))))
    pss_nil)))))
    pss_nil)))
  (pss_one (ps_ret (pv 3))))))), ?_⟩
  obtain ⟨a, zs, rfl, hRw, hP, q⟩ := h
  obtain ⟨hS, hL, hn, hl⟩ := id hRw
  have hlen : (refL zs).length = zs.length := List.length_map ..
  refine ⟨.ref a, rfl, a, rfl, ⟨_, hS⟩, for_list (K := K) (a := a) (xs := refL zs) (fun i σ H2 => H2 = H ∧ ∃ y, σ = [some (.ref a), some (.int (prodL ((zs.map (·.2)).take i) : Nat)), y, none, none, none, none]) ⟨rfl, none, rfl⟩ (fun i σ H2 _ h => by rw [h.1]; exact hS) ?_ ?_⟩
  · rintro i x σ H2 hi ⟨rfl, y, rfl⟩
    obtain ⟨z, hz, hzm, rfl⟩ := refL_get hi
    have hb := prodL_take (zs.map (·.2)) i
    have hzl := hl z hzm
    refine ⟨_, rfl, _, rfl, z.1, _, rfl, .inl (hL z hzm), _, _, rfl, rfl, _, _, rfl, rfl, .inl ⟨by omega, by omega⟩, rfl, some (.ref z.1), ?_⟩
    have hz2 : (zs.map (·.2))[i]? = some z.2 := by rw [List.getElem?_map, hz]; rfl
    rw [List.take_add_one, hz2]
    show _ = [some (V.ref a), some (V.int (prodL ((zs.map (·.2)).take i ++ [z.2]) : Nat)), some (V.ref z.1), none, none, none, none]
    rw [prodL_snoc, List.length_map, Int.natCast_mul, Int.natCast_add]
    rfl
  rintro σ H2 ⟨rfl, y2, rfl⟩
  have e : (zs.map (·.2)).take (refL zs).length = zs.map (·.2) := List.take_of_length_le (by unfold refL; rw [List.length_map, List.length_map]; exact Nat.le_refl _)
  rw [e]
  refine ⟨(by show 1 ≤ sizeLine; decide), fun o3 no3 => ?_⟩
  refine ⟨.ref a, rfl, a, _, rfl, .inl ((same_new no3).seq hS), o3, _, _, rfl, rfl, upd_same, by omega, by omega, ?_, fun p4 np4 => ?_⟩
  · rw [hlen]
    exact Nat.le_trans (show 1 * (zs.length : Int).toNat ≤ 63 by omega) (by decide)
  have e0 : (List.replicate ((refL zs).length : Int).toNat [V.int 0]).flatten = (nmap (f0 (zs.map (·.2)))).map V.int := by
    rw [← rep0, hlen, Int.toNat_natCast, List.length_map]
  rw [e0]
  refine ⟨p4, _, rfl, .inl ⟨SqL.of upd_same, fun t nt => ⟨(by show 1 ≤ sizeLine; decide), fun l nl => ?_⟩⟩⟩
  have s3 := ((same_new (o := .lst [.int 0]) no3).trans (same_new (o := .lst ((nmap (f0 (zs.map (·.2)))).map V.int)) np4)).trans (same_new (o := .tup ((nmap (f0 (zs.map (·.2)))).map V.int)) nt)
  have nlH : H2 l = none := s3.free nl
  have s4 := s3.trans (same_new (o := .lst [.ref t]) nl)
  have ht4 : upd (upd (upd (upd H2 o3 (.lst [.int 0])) p4 (.lst ((nmap (f0 (zs.map (·.2)))).map V.int))) t (.tup ((nmap (f0 (zs.map (·.2)))).map V.int))) l (.lst [.ref t]) t = some (itup (nmap (f0 (zs.map (·.2))))) := same_new nl _ _ upd_same
  have hl4 : upd (upd (upd (upd H2 o3 (.lst [.int 0])) p4 (.lst ((nmap (f0 (zs.map (·.2)))).map V.int))) t (.tup ((nmap (f0 (zs.map (·.2)))).map V.int))) l (.lst [.ref t]) l = some (.lst [.ref t]) := upd_same
  generalize upd (upd (upd (upd H2 o3 (.lst [.int 0])) p4 (.lst ((nmap (f0 (zs.map (·.2)))).map V.int))) t (.tup ((nmap (f0 (zs.map (·.2)))).map V.int))) l (.lst [.ref t]) = H4 at s4 ht4 hl4 ⊢
  refine ⟨_, rfl, _, rfl, by omega, by omega, for_range (n := ((prodL (zs.map fun z : Addr × List Int => z.2) : Nat) : Int).toNat) (fun i σ H5 => Same H2 H5 ∧ ∃ fs : Fs, H5 l = some (.lst (refF fs)) ∧ FsOk H5 (zs.map (·.2)) fs ∧ (∃ q, fs[0]? = some q ∧ q.2 = f0 (zs.map (·.2))) ∧ (∀ f ∈ fs.map (·.2), Rch (zs.map (·.2)) f) ∧
      (∀ j f, j < i → fs[j]? = some f → ∀ b, Sym (zs.map (·.2)) f.2 b → fstep b (zs.map (·.2)) f.2 ∈ fs.map (·.2)) ∧ ∃ y4 y5 y6, σ = [some (.ref a), some (.int (prodL (zs.map (·.2)) : Nat)), y2, some (.ref l), y4, y5, y6])
    ⟨s4, [(t, f0 (zs.map fun z : Addr × List Int => z.2))], hl4, ⟨fun r hr => ?_, List.pairwise_singleton _ _⟩, ⟨_, rfl, rfl⟩, fun f hf => by rw [List.mem_singleton.mp (show f ∈ [f0 (zs.map (·.2))] from hf)]; exact .zero, fun j f h => absurd h (Nat.not_lt_zero _), none, none, none, rfl⟩ ?_ ?_⟩
  · rw [List.mem_singleton.mp hr]
    exact ⟨ht4, FOk.zero _⟩
  · rintro i σ H5 hi ⟨s5, fs, hl5, hfs, h00, hrc, hcl, y4, y5, y6, rfl⟩
    have hfl : ∀ {fs : Fs} {H : Hp}, FsOk H (zs.map (·.2)) fs → fs.length ≤ prodL (zs.map (·.2)) := fun {fs H} hfs => by
      have h1 := few_fronts hfs.2 (fun f hf => by
        obtain ⟨r, hr, rfl⟩ := List.mem_map.mp hf
        exact (hfs.1 r hr).2)
      rw [List.length_map] at h1
      exact h1
    have e2 : (refF fs).length = fs.length := List.length_map ..
    refine ⟨_, rfl, _, rfl, l, _, rfl, .inl (SqL.of hl5), _, _, rfl, rfl, _, rfl, if2 (fun e => ?_) (fun e => ?_)⟩
    · have hilt : i < fs.length := by omega
      obtain ⟨fr, hfr⟩ : ∃ fr, fs[i]? = some fr := ⟨_, List.getElem?_eq_getElem hilt⟩
      have hfrm := List.mem_of_getElem? hfr
      have hfr2 : (refF fs)[i]? = some (.ref fr.1) := by
        unfold refF
        rw [List.getElem?_map, hfr]
        rfl
      refine ⟨_, rfl, .ref l, rfl, _, rfl, l, _, _, _, rfl, rfl, SqL.of hl5, atI0 hfr2, a, fr.1, zs, fr.2, rfl, hRw.same s5, (hfs.1 fr hfrm).1, (hfs.1 fr hfrm).2, fun H6 p ys s6 np hp hys hyl => ?_⟩
      have hpl5 : p ≠ l := (ne_of_none hl5 np).symm
      refine ⟨p, rfl, ⟨_, SqL.of hp⟩, for_list (K := K) (a := p) (xs := ys.map V.int) (fun j σ H7 => But l H6 H7 ∧ ∃ fs2 : Fs, H7 l = some (.lst (refF fs2)) ∧ FsOk H7 (zs.map (·.2)) fs2 ∧ (fs <+: fs2 ∧ ∀ f ∈ fs2.map (·.2), Rch (zs.map (·.2)) f) ∧
          (∀ b ∈ ys.take j, fstep b (zs.map (·.2)) fr.2 ∈ fs2.map (·.2)) ∧ ∃ y5 y6, σ = [some (.ref a), some (.int (prodL (zs.map (·.2)) : Nat)), y2, some (.ref l), some (.int (0 + (i : Int))), y5, y6])
        ⟨But.refl, fs, s6 _ _ hl5, ⟨fun r hr => ⟨s6 _ _ (hfs.1 r hr).1, (hfs.1 r hr).2⟩, hfs.2⟩, ⟨List.prefix_refl _, hrc⟩, fun r hr => (nomatch hr), y5, y6, rfl⟩ (fun j σ H7 _ h => SqL.of (h.1 _ _ hpl5 hp)) ?_ ?_⟩
      · rintro j x σ H7 hj ⟨b7, fs2, hl7, hfs7, ⟨hpre, hrc2⟩, hdone, y5, y6, rfl⟩
        obtain ⟨b, hb, rfl⟩ := map_get hj
        have hsym := (hys b).mp (List.mem_of_getElem? hb)
        have s7 : Same H2 H7 := fun c o e => b7 c o (fun e2 => by rw [e2, nlH] at e; cases e) (s6 _ _ (s5 _ _ e))
        have hf2l := hfl hfs7
        have hfr7 : fs2[i]? = some fr := by
          obtain ⟨more, rfl⟩ := hpre
          rw [List.getElem?_append_left hilt, hfr]
        have hfr72 : (refF fs2)[i]? = some (.ref fr.1) := by
          unfold refF
          rw [List.getElem?_map, hfr7]
          rfl
        have hfrm7 := List.mem_of_getElem? hfr7
        refine ⟨_, rfl, .ref l, rfl, _, rfl, l, _, _, _, rfl, rfl, SqL.of hl7, atI0 hfr72, _, rfl, a, fr.1, b, zs, fr.2, rfl, hRw.same s7, (hfs7.1 fr hfrm7).1, (hfs7.1 fr hfrm7).2, fun H8 t8 s8 nt8 ht8 => ?_⟩
        have hl8 := s8 _ _ hl7
        have hdp : Dp K H8 (.ref l) (.list ((fs2.map fun q => nmap q.2).map dT)) := .lst (SqL.of hl8) (dp_tups fun r hr => s8 _ _ (hfs7.1 r hr).1)
        refine ⟨_, rfl, _, rfl, dT (nmap (fstep b (zs.map (·.2)) fr.2)), _, dp_tup ht8, hdp, dT_shaped _, dTs_shaped _, _, rfl, ?_⟩
        rw [any_dT]
        have hmm : nmap (fstep b (zs.map (·.2)) fr.2) ∈ (fs2.map fun q => nmap q.2) ↔ fstep b (zs.map (·.2)) fr.2 ∈ fs2.map (·.2) := by
          constructor
          · intro h
            obtain ⟨r, hr, e⟩ := List.mem_map.mp h
            rw [← nmap_inj e]
            exact List.mem_map_of_mem (f := fun z : Addr × Ft => z.2) hr
          · intro h
            obtain ⟨r, hr, e⟩ := List.mem_map.mp h
            rw [← e]
            exact List.mem_map_of_mem (f := fun z : Addr × Ft => nmap z.2) hr
        have b8 : But l H6 H8 := b7.then s8
        by_cases hin : fstep b (zs.map (·.2)) fr.2 ∈ fs2.map (·.2)
        · refine ifNF (hmm.mpr hin) ⟨b8, fs2, hl8, ⟨fun r hr => ⟨s8 _ _ (hfs7.1 r hr).1, (hfs7.1 r hr).2⟩, hfs7.2⟩, ⟨hpre, hrc2⟩, fun b' h => ?_, _, _, rfl⟩
          rcases mem_take_succ hb h with h | h
          · exact hdone b' h
          · rw [h]
            exact hin
        · refine ifNT (fun h => hin (hmm.mp h)) ⟨.ref l, rfl, .inl ⟨rfl, _, SqL.of hl8⟩, _, rfl, l, _, _, rfl, rfl, hl8, ?_, ?_⟩
          · unfold refF
            rw [List.length_map]
            exact Nat.lt_of_le_of_lt (Nat.le_trans hf2l hP) (by decide)
          refine ⟨b8.own, fs2 ++ [(t8, fstep b (zs.map fun z : Addr × List Int => z.2) fr.2)], ?_, ⟨fun r' h => ?_, ?_⟩, ⟨?_, fun f hf => ?_⟩, fun b' h => ?_, _, _, rfl⟩
          · rw [upd_same]
            unfold refF
            rw [List.map_append]
            rfl
          · rcases List.mem_append.mp h with h | h
            · have h3 := s8 _ _ (hfs7.1 r' h).1
              rw [upd_ne (ne_of h3 hl8 (fun e => nomatch e))]
              exact ⟨h3, (hfs7.1 r' h).2⟩
            · rw [List.mem_singleton.mp h]
              refine ⟨?_, FOk.step _ (hfs.1 fr hfrm).2⟩
              show upd H8 l _ t8 = _
              rw [upd_ne (ne_of ht8 hl8 (fun e => nomatch e))]
              exact ht8
          · rw [List.map_append]
            exact List.nodup_append.mpr ⟨hfs7.2, List.pairwise_singleton _ _, fun x hx y hy e3 => hin (by have e4 := List.mem_singleton.mp (show y ∈ [fstep b (zs.map (·.2)) fr.2] from hy); rw [← e4, ← e3]; exact hx)⟩
          · obtain ⟨more, rfl⟩ := hpre
            exact ⟨more ++ [(t8, fstep b (zs.map (·.2)) fr.2)], by rw [List.append_assoc]⟩
          · rw [List.map_append] at hf
            rcases List.mem_append.mp hf with hf | hf
            · exact hrc2 f hf
            · rw [List.mem_singleton.mp (show f ∈ [fstep b (zs.map (·.2)) fr.2] from hf)]
              exact .step (hrc _ (List.mem_map_of_mem (f := fun z : Addr × Ft => z.2) hfrm)) hsym
          · rw [List.map_append, List.mem_append]
            rcases mem_take_succ hb h with h | h
            · exact .inl (hdone b' h)
            · rw [h]
              exact .inr (List.mem_singleton.mpr rfl)
      · rintro σ H7 ⟨b7, fs2, hl7, hfs7, ⟨hpre, hrc2⟩, hdone, y5, y6, rfl⟩
        rw [List.length_map, List.take_length] at hdone
        obtain ⟨more, rfl⟩ := hpre
        have hsub : ∀ f, f ∈ fs.map (·.2) → f ∈ (fs ++ more).map (·.2) := fun f h => by
          rw [List.map_append]
          exact List.mem_append_left _ h
        refine ⟨fun c o h => b7 c o (fun e => ?_) (s6 _ _ (s5 _ _ h)), fs ++ more, hl7, hfs7, ?_, hrc2, fun j f hj hf b hb => ?_, _, _, _, rfl⟩
        · rw [e, nlH] at h
          cases h
        · obtain ⟨q0, h1, h2⟩ := h00
          exact ⟨q0, by rw [List.getElem?_append_left (List.getElem?_eq_some_iff.mp h1).1, h1], h2⟩
        · by_cases hji : j = i
          · subst hji
            rw [List.getElem?_append_left hilt, hfr] at hf
            obtain rfl := Option.some.inj hf
            exact hdone b ((hys b).mpr hb)
          · rw [List.getElem?_append_left (by omega)] at hf
            exact hsub _ (hcl j f (by omega) hf b hb)
    · refine ⟨s5, fs, hl5, hfs, h00, hrc, fun j f hj hf b hb => ?_, _, _, _, rfl⟩
      have := (List.getElem?_eq_some_iff.mp hf).1
      exact hcl j f (by omega) hf b hb
  · rintro σ H5 ⟨s5, fs, hl5, hfs, h00, hrc, hcl, y4, y5, y6, rfl⟩
    have hfl : fs.length ≤ prodL (zs.map (·.2)) := by
      have h1 := few_fronts hfs.2 (fun f hf => by
        obtain ⟨r, hr, rfl⟩ := List.mem_map.mp hf
        exact (hfs.1 r hr).2)
      rw [List.length_map] at h1
      exact h1
    refine ⟨_, rfl, q H5 l fs s5 nlH hl5 hfs h00 fun f => ⟨hrc f, fun hf => ?_⟩⟩
    induction hf with
    | zero =>
      obtain ⟨q0, h1, h2⟩ := h00
      rw [← h2]
      exact List.mem_map_of_mem (f := fun z : Addr × Ft => z.2) (List.mem_of_getElem? h1)
    | step hg hb ih =>
      obtain ⟨r, hr, rfl⟩ := List.mem_map.mp ih
      obtain ⟨j, hj, e3⟩ := List.mem_iff_getElem.mp hr
      exact hcl j r (by omega) (by rw [List.getElem?_eq_getElem hj, e3]) _ hb
end
end K37

namespace K37
open PySem PySem.Spec PyProof.Rows L2 Fw Lay
section
variable {P : Program} {w : World} {K : PySem.W.Frag} {mg : Str → Option Value} {base : Heap}
theorem ok_l_table (T : Txt K mg) : Good P w K mg base 1 (He.ga K "_law_table") ["_law_pairs"] [] (sp_l_table K) := by
  refine good_of T.f_l_table sc_l_table (fun vs H Q E h => ?_) (fun _ _ _ _ _ _ us hl => match us, hl with | [_], _ => rfl) (fun cdv A outer s H vs Q E hr h => ?_)
  · obtain ⟨_, _, rfl, _⟩ := h
    rfl
  refine ⟨_, (pss_cons (ps_set (i := 1) sc_l_table.nd rfl (Or.inl rfl) pe_dnewT)
  (pss_cons (ps_for PassesOwn.never rfl (pi_list (pv 0)) (pg_name (i := 2) sc_l_table.nd rfl (Or.inl rfl))
    (pss_one (ps_dput (hu_of hr) (pv 1) (pe_ix ix_tup (pv 2) pe_int (fun _ _ => rfl)) (pe_ix ix_tup (pv 2) pe_int (fun _ _ => rfl)) rfl)))
  (pss_one (ps_ret (pv 1))))), ?_⟩
  obtain ⟨a, qs, rfl, hS, hQ, hl, q⟩ := h
  refine fun d nd => ?_
  have sd : Same H (upd H d (.dT [])) := same_new nd
  have hlen : (refQ qs).length = qs.length := List.length_map ..
  refine ⟨.ref a, rfl, a, rfl, ⟨_, sd.seq hS⟩, for_list (K := K) (a := a) (xs := refQ qs) (fun i σ H2 => Same H H2 ∧ H2 d = some (.dT (tblK (qs.take i))) ∧ (tblK (qs.take i)).length ≤ i ∧ ∃ y, σ = [some (.ref a), some (.ref d), y])
    ⟨sd, upd_same, Nat.le_refl _, none, rfl⟩ (fun i σ H2 _ h => h.1.seq hS) ?_ ?_⟩
  · rintro i x σ H2 hi ⟨s2, h2, hk, y, rfl⟩
    obtain ⟨r, hr, hrm, rfl⟩ := refQ_get hi
    have hil := (List.getElem?_eq_some_iff.mp hr).1
    have hT : SqT K H2 r.1 [.ref r.2.1.1, .int r.2.2] := SqT.of (s2 _ _ (hQ r hrm).1)
    have hkey : H2 r.2.1.1 = some (.tup ((ikey r.2.1.2).map kV)) := by
      rw [ikey_kV]
      exact s2 _ _ (hQ r hrm).2
    have et : tblK (qs.take (i + 1)) = putK (tblK (qs.take i)) (ikey r.2.1.2) (.int r.2.2) := by
      rw [List.take_add_one, hr]
      exact tblK_snoc _ _
    refine ⟨_, rfl, r.1, _, 1, _, rfl, rfl, hT, rfl, _, rfl, _, rfl, r.1, _, 0, _, rfl, rfl, hT, rfl, d, _, rfl, DPut.t h2 hkey (Nat.lt_of_le_of_lt (show (tblK (qs.take i)).length ≤ 100000 by omega) (by decide)), ?_⟩
    refine ⟨same_mut s2 nd, ?_, ?_, _, rfl⟩
    · rw [upd_same, et]
    · rw [et]
      have := length_putK (tblK (qs.take i)) (ikey r.2.1.2) (V.int r.2.2)
      omega
  · rintro σ H2 ⟨s2, h2, hk, y, rfl⟩
    rw [List.take_of_length_le (by omega)] at h2
    exact ⟨_, rfl, q H2 d s2 nd h2⟩
theorem ok_l_heights (T : Txt K mg) : Good P w K mg base 2 (He.ga K "_law_heights") ["_law_prices_here", "_law_rows", "_law_fronts_here"] [] (sp_l_heights K) := by
  refine good_of T.f_l_heights sc_l_heights (fun vs H Q E h => ?_) (fun _ _ _ _ _ _ us hl => match us, hl with | [_, _, _], _ => rfl) (fun cdv A outer s H vs Q E hr h => ?_)
  · obtain ⟨_, _, _, _, _, _, rfl, _⟩ := h
    rfl
  refine ⟨_, (pss_cons (ps_set (i := 3) sc_l_heights.nd rfl (Or.inl rfl) pe_dnewT)
  (pss_cons (ps_for PassesOwn.never rfl (pi_list (pe_callB (cr_sortedD hr.units) (by rfl) T.z_sorted (by decide +kernel) (pa_cons (pe_lc (own := [("_law_front", 8)]) (g := (gName 8)) (tt := tYes) rfl sc_l_heights.nd (pi_list (pv 2)) (blkOk_by (own := [("_law_front", 8)]) (N := ["_law_prices_here", "_law_rows", "_law_fronts_here", "_law_heights_here", "_law_pair", "_law_best", "_law_symbol", "_law_price", "_law_front"]) (sc := defScope s_l_heights) (by decide +kernel)) (fun _ _ _ _ _ => (pg_name (i := 8) sc_l_heights.nd rfl (Or.inl rfl))) (fun _ _ _ _ _ => pts_nil) (fun _ _ _ _ _ => (pe_tup (pa_cons (pe_op op_sub pe_int (pe_callB (cr_sumTE (K := K) rfl rfl) (by rfl) T.z_sum (by decide +kernel) (pa_cons (pv 8) pa_nil))) (pa_cons (pv 8) pa_nil))))) pa_nil))) (pg_name (i := 4) sc_l_heights.nd rfl (Or.inl rfl))
    (pss_cons (ps_set (i := 5) sc_l_heights.nd rfl (Or.inl rfl) pe_int)
  (pss_cons (ps_for PassesOwn.never rfl (pi_list (pe_cg (ok_l_due_at T) (hr.mono (j := 1) (by decide)) (by rfl) T.g_l_due_at (pa_cons (pv 1) (pa_cons (pe_ix ix_tup (pv 4) pe_int (fun _ _ => rfl)) pa_nil)))) (pg_name (i := 6) sc_l_heights.nd rfl (Or.inl rfl))
    (pss_cons (ps_set (i := 7) sc_l_heights.nd rfl (Or.inl rfl) (pe_op op_add (pe_ix ix_list (pv 0) (pv 6) (fun _ _ => rfl)) (pe_dget (hu_of hr) (pv 3) (pe_cg (ok_l_ahead T) (hr.mono (j := 1) (by decide)) (by rfl) T.g_l_ahead (pa_cons (pv 1) (pa_cons (pe_ix ix_tup (pv 4) pe_int (fun _ _ => rfl)) (pa_cons (pv 6) pa_nil)))) (fun _ _ => rfl))))
  (pss_one (ps_if (pw_or (pt_cmpR op_eq (pv 5) pe_int (nomark _)) (pw_or1 (pt_cmpR op_lt (pv 7) (pv 5) (nomark _)))).pt
    (pss_one (ps_set (i := 5) sc_l_heights.nd rfl (Or.inl rfl) (pv 7)))
    pss_nil))))
  (pss_one (ps_dput (hu_of hr) (pv 3) (pe_ix ix_tup (pv 4) pe_int (fun _ _ => rfl)) (pv 5) rfl)))))
  (pss_one (ps_ret (pv 3))))), ?_⟩
  obtain ⟨c, a, g, pr, zs, fs, rfl, hC, hPr, hRw, hSy, hP, hG, hfs, hcl, q⟩ := h
  obtain ⟨p0, p1, p2⟩ := id hPr
  have hw0 := pw_nonneg p2
  have hfl : fs.length ≤ prodL (zs.map (·.2)) := by
    have h1 := few_fronts hfs.2 (fun f hf => by
      obtain ⟨r, hr, rfl⟩ := List.mem_map.mp hf
      exact (hfs.1 r hr).2)
    rw [List.length_map] at h1
    exact h1
  refine fun d nd => ?_
  have sd : Same H (upd H d (.dT [])) := same_new nd
  have hd0 : upd H d (.dT []) d = some (.dT []) := upd_same
  generalize upd H d (.dT []) = H1 at sd hd0 ⊢
  have hlen : (refF fs).length = fs.length := List.length_map ..
  refine ⟨.ref g, rfl, g, rfl, ⟨_, SqL.of (sd _ _ hG)⟩, fun D hD => lc_list (K := K) (a := g) (xs := refF fs) (fun i H3 => Same H1 H3 ∧ ∃ ts : List (Addr × Addr × Ft), H3 D = some (.lst (ts.map fun t => V.ref t.1)) ∧
      (∀ t ∈ ts, H3 t.1 = some (.tup [.int (0 - (nmap t.2.2).sum), .ref t.2.1]) ∧ H3 t.2.1 = some (itup (nmap t.2.2))) ∧ ts.map (·.2) = fs.take i) ⟨same_new hD, [], upd_same, fun t ht => (nomatch ht), rfl⟩ (fun i H3 _ h => SqL.of (h.1 _ _ (sd _ _ hG))) ?_ ?_⟩
  · rintro i x H3 hi ⟨s3, ts, h3, hts, em⟩
    obtain ⟨r, hr, hrm, rfl⟩ := refF_get hi
    have hil := (List.getElem?_eq_some_iff.mp hr).1
    have htl : ts.length ≤ i := by
      have e := congrArg List.length em
      rw [List.length_map, List.length_take] at e
      omega
    have hr3 : H3 r.1 = some (itup (nmap r.2)) := s3 _ _ (sd _ _ (hfs.1 r hrm).1)
    refine ⟨rfl, yes_then ?_⟩
    refine ⟨_, rfl, r.1, nmap r.2, rfl, SqT.of hr3, _, _, rfl, rfl, _, rfl, (by show 2 ≤ sizeLine; decide), fun t nt => ⟨_, (by rw [upd_ne (ne_of_none h3 nt)]; exact h3), ?_, ?_⟩⟩
    · rw [List.length_map]
      exact Nat.lt_of_le_of_lt (show ts.length ≤ 5000 by omega) (by decide)
    have nlt : t ≠ D := (ne_of_none h3 nt).symm
    refine ⟨same_mut (s3.trans (same_new nt)) hD, ts ++ [(t, r.1, r.2)], ?_, fun u hu => ?_, ?_⟩
    · rw [upd_same, List.map_append]
      rfl
    · rcases List.mem_append.mp hu with hu | hu
      · have h1 := (hts u hu).1
        have h2 := (hts u hu).2
        have h4 := same_new (o := .tup [.int (0 - (nmap r.2).sum), .ref r.1]) nt _ _ h3
        have h5 := same_new (o := .tup [.int (0 - (nmap r.2).sum), .ref r.1]) nt _ _ h1
        have h6 := same_new (o := .tup [.int (0 - (nmap r.2).sum), .ref r.1]) nt _ _ h2
        rw [upd_ne (ne_of h5 h4 (fun e => nomatch e)), upd_ne (ne_of h6 h4 (fun e => nomatch e))]
        exact ⟨h5, h6⟩
      · rw [List.mem_singleton.mp hu]
        refine ⟨?_, ?_⟩
        · show upd (upd H3 t _) D _ t = _
          rw [upd_ne nlt, upd_same]
        · show upd (upd H3 t _) D _ r.1 = _
          have h4 := same_new (o := .tup [.int (0 - (nmap r.2).sum), .ref r.1]) nt _ _ h3
          have h5 := same_new (o := .tup [.int (0 - (nmap r.2).sum), .ref r.1]) nt _ _ hr3
          rw [upd_ne (ne_of h5 h4 (fun e => nomatch e))]
          exact h5
    · rw [List.map_append, em, List.take_add_one, hr]
      rfl
  rintro H3 ⟨s3, ts, h3, hts, em⟩
  rw [hlen, List.take_length] at em
  refine tnil_go ?_
  have hlt : ts.length = fs.length := by
    have e := congrArg List.length em
    rw [List.length_map] at e
    exact e
  have hdp : ∀ t ∈ ts, Dp K H3 (.ref t.1) (dPr t.2.2) := fun t ht => .tup (SqT.of (hts t ht).1) (.cons (.int _) (.cons (dp_tup (hts t ht).2) .nil))
  refine ⟨D, ts.map (fun t : Addr × Addr × Ft => (t.1, dPr t.2.2)), rfl, ?_, fun z hz => ?_, fun x hx y hy => ?_, .inl fun x hx => ?_, fun z hz => ?_, fun gs p pm srt np => ?_⟩
  · rw [List.map_map]
    exact SqL.of h3
  · obtain ⟨t, ht, rfl⟩ := List.mem_map.mp hz
    exact hdp t ht
  · obtain ⟨z, hz, rfl⟩ := List.mem_map.mp hx
    obtain ⟨z2, hz2, rfl⟩ := List.mem_map.mp hy
    obtain ⟨t, ht, rfl⟩ := List.mem_map.mp hz
    obtain ⟨t2, ht2, rfl⟩ := List.mem_map.mp hz2
    exact dPr_alike _ _
  · obtain ⟨z, hz, rfl⟩ := List.mem_map.mp hx
    obtain ⟨t, ht, rfl⟩ := List.mem_map.mp hz
    exact ⟨_, _, rfl⟩
  · obtain ⟨t, ht, rfl⟩ := List.mem_map.mp hz
    exact dPr_depth _
  obtain ⟨gm, gp, rfl⟩ := perm_back pm ts rfl
  have s34 : Same H3 (upd H3 p (.lst ((gm.map fun t : Addr × Addr × Ft => (t.1, dPr t.2.2)).map fun f => V.ref f.1))) := same_new np
  have hpg : upd H3 p (.lst ((gm.map fun t : Addr × Addr × Ft => (t.1, dPr t.2.2)).map fun f => V.ref f.1)) p = some (.lst (gm.map fun t => V.ref t.1)) := by
    rw [upd_same, List.map_map]
    rfl
  generalize upd H3 p (.lst ((gm.map fun t : Addr × Addr × Ft => (t.1, dPr t.2.2)).map fun f => V.ref f.1)) = H4 at s34 hpg ⊢
  have hd4 := s34 _ _ (s3 _ _ hd0)
  have s14 := s3.trans s34
  have hfsm : ∀ t, t ∈ gm → t.2 ∈ fs := fun t ht => by
    rw [← em]
    exact List.mem_map_of_mem (f := fun z : Addr × Addr × Ft => z.2) (gp.mem_iff.mp ht)
  have hgm : ∀ t ∈ gm, H4 t.1 = some (.tup [.int (0 - (nmap t.2.2).sum), .ref t.2.1]) ∧ H4 t.2.1 = some (itup (nmap t.2.2)) ∧ FOk (zs.map (·.2)) t.2.2 := fun t ht => by
    have h1 := hts t (gp.mem_iff.mp ht)
    exact ⟨s34 _ _ h1.1, s34 _ _ h1.2, (hfs.1 t.2 (hfsm t ht)).2⟩
  have hmem : ∀ f, f ∈ gm.map (·.2.2) ↔ f ∈ fs.map (·.2) := fun f => by
    rw [← em, List.map_map]
    exact (gp.map _).mem_iff
  have hgl : gm.length ≤ 5000 := by
    rw [gp.length_eq]
    omega
  have hord : gm.Pairwise (fun f g => g.2.2.sum ≤ f.2.2.sum) := (List.pairwise_map.mp srt).imp fun {f g} h => dPr_le h
  have hgr : (gm.map fun t => V.ref t.1).length = gm.length := List.length_map ..
  refine ⟨p, rfl, ⟨_, SqL.of hpg⟩, for_list (K := K) (a := p) (xs := gm.map fun t : Addr × Addr × Ft => V.ref t.1) (fun i σ H7 => But d H4 H7 ∧ (∃ kvs, H7 d = some (.dT kvs) ∧ kvs.length ≤ i ∧ ∀ t ∈ gm.take i, Hts (pw pr) (zs.map (·.2)) kvs t.2.2) ∧ ∃ y4 y5 y6 y7 y8, σ = [some (.ref c), some (.ref a), some (.ref g), some (.ref d), y4, y5, y6, y7, y8])
    ⟨But.refl, ⟨[], hd4, Nat.le_refl _, fun g hg => (nomatch hg)⟩, none, none, none, none, none, rfl⟩ (fun i σ H7 _ h => SqL.of (h.1 _ _ (ne_of hpg hd4 (fun e => nomatch e)) hpg)) ?_ ?_⟩
  · rintro i x σ H7 hi ⟨b7, ⟨kvs, hd7, hkl, hkv⟩, y4, y5, y6, y7, y8, rfl⟩
    obtain ⟨t, ht, htm, rfl⟩ : ∃ t, gm[i]? = some t ∧ t ∈ gm ∧ x = V.ref t.1 := by
      rw [List.getElem?_map] at hi
      cases e2 : gm[i]? with
      | none =>
        rw [e2] at hi
        cases hi
      | some r =>
        rw [e2] at hi
        exact ⟨r, rfl, List.mem_of_getElem? e2, (Option.some.inj hi).symm⟩
    have hilt := (List.getElem?_eq_some_iff.mp ht).1
    have s7 : Same H H7 := fun c o e => by
      refine b7 c o (fun e2 => ?_) (s14 _ _ (sd _ _ e))
      rw [e2, nd] at e
      cases e
    obtain ⟨hg1, hg2, hok⟩ := hgm t htm
    have hT7 : SqT K H7 t.1 [.int (0 - (nmap t.2.2).sum), .ref t.2.1] := SqT.of (b7 _ _ (ne_of hg1 hd4 (fun e => nomatch e)) hg1)
    have hf7 : H7 t.2.1 = some (itup (nmap t.2.2)) := b7 _ _ (ne_of hg2 hd4 (fun e => nomatch e)) hg2
    have hst : ∀ b, Sym (zs.map (·.2)) t.2.2 b → Hts (pw pr) (zs.map (·.2)) kvs (fstep b (zs.map (·.2)) t.2.2) := fun b hb => by
      have h1 := (hmem _).mpr (hcl t.2.2 ((hmem _).mp (List.mem_map_of_mem (f := fun z : Addr × Addr × Ft => z.2.2) htm)) b hb)
      obtain ⟨g2, hg2, e2⟩ := List.mem_map.mp h1
      obtain ⟨j, hj, e3⟩ := List.mem_iff_getElem.mp hg2
      have hsum := (sum_step b hok).2 hb
      rw [← e2] at hsum ⊢
      have hji : j < i := by
        by_cases h : j < i
        · exact h
        · exfalso
          by_cases h2 : j = i
          · subst h2
            rw [List.getElem?_eq_getElem hj] at ht
            rw [e3] at ht
            rw [Option.some.inj ht] at hsum
            exact absurd hsum (Nat.lt_irrefl _)
          · have h3 := List.pairwise_iff_getElem.mp hord i j hilt hj (by omega)
            rw [e3, (List.getElem?_eq_some_iff.mp ht).2] at h3
            omega
      exact hkv g2 (by
        rw [← e3]
        exact List.mem_take_iff_getElem.mpr ⟨j, by omega, rfl⟩)
    obtain ⟨u, hu⟩ : ∃ u : Int → Int, ∀ b, Sym (zs.map (·.2)) t.2.2 b → valV kvs (fkey (fstep b (zs.map (·.2)) t.2.2)) = some (.int (u b)) ∧ Least (pw pr) (rst (zs.map (·.2)) (fstep b (zs.map (·.2)) t.2.2)) (u b) := by
      classical
      exact ⟨fun b => if h : Sym (zs.map (·.2)) t.2.2 b then (hst b h).choose else 0, fun b hb => by
        dsimp only
        rw [dif_pos hb]
        exact (hst b hb).choose_spec⟩
    have hu0 : ∀ b, Sym (zs.map (·.2)) t.2.2 b → 0 ≤ u b := fun b hb => by
      obtain ⟨T, _, e⟩ := (hu b hb).2.1
      have := cost_nonneg hw0 T
      omega
    refine ⟨_, rfl, _, rfl, t.1, _, 1, _, rfl, rfl, hT7, rfl, a, t.2.1, zs, t.2.2, rfl, hRw.same s7, hf7, hok, fun H8 p8 ys s8 np8 hp8 hys hyl => ?_⟩
    refine ⟨p8, rfl, ⟨_, SqL.of hp8⟩, for_list (K := K) (a := p8) (xs := ys.map V.int) (fun j σ H9 => Same H8 H9 ∧ ∃ (best : Int) (y6 y7 y8 : Option V), (j = 0 → best = 0) ∧ (0 < j → 1 ≤ best ∧ ∃ b, Sym (zs.map (·.2)) t.2.2 b ∧ best = pw pr b + u b) ∧ (∀ b ∈ ys.take j, best ≤ pw pr b + u b) ∧
        σ = [some (.ref c), some (.ref a), some (.ref g), some (.ref d), some (.ref t.1), some (.int best), y6, y7, y8])
      ⟨Same.refl _, 0, y6, y7, y8, fun _ => rfl, fun h => absurd h (Nat.lt_irrefl _), fun b hb => (nomatch hb), rfl⟩ (fun j σ H9 _ h => SqL.of (h.1 _ _ hp8)) ?_ ?_⟩
    · rintro j x σ H9 hj ⟨s9, best, y6, y7, y8, hb0, hb1, hb2, rfl⟩
      obtain ⟨b, hb, rfl⟩ := map_get hj
      have hsym := (hys b).mp (List.mem_of_getElem? hb)
      have hin := sym_in hSy hsym
      have s79 := s8.trans s9
      have hT9 : SqT K H9 t.1 [.int (0 - (nmap t.2.2).sum), .ref t.2.1] := same_t s79 hT7
      have hpos := pw_pos p0 p2 b
      have hub := hu0 b hsym
      refine ⟨_, rfl, _, rfl, c, _, _, _, rfl, rfl, (s7.trans s79).seq hC, pw_sym hin.1 hin.2, _, rfl, _, rfl, _, rfl, t.1, _, 1, _, rfl, rfl, hT9, rfl, _, rfl, a, t.2.1, b, zs, t.2.2, rfl, hRw.same (s7.trans s79), s79 _ _ hf7, hok, fun H10 tt s10 nt ht10 => ⟨d, .int (u b), rfl, ?_, _, _, rfl, rfl, ?_⟩⟩
      · have h1 := DGet.t (s10 _ _ (s79 _ _ hd7)) (tup_key ht10)
        rw [(hu b hsym).1] at h1
        exact h1
      have hsucc : ∀ m : Int, 1 ≤ m → (∃ b, Sym (zs.map (·.2)) t.2.2 b ∧ m = pw pr b + u b) → (∀ b ∈ ys.take j, m ≤ pw pr b + u b) → m ≤ pw pr b + u b → (j + 1 = 0 → m = 0) ∧ (0 < j + 1 → 1 ≤ m ∧ ∃ b, Sym (zs.map (·.2)) t.2.2 b ∧ m = pw pr b + u b) ∧ (∀ b ∈ ys.take (j + 1), m ≤ pw pr b + u b) := fun m h1 h2 h3 h4 => by
        refine ⟨fun h => by omega, fun _ => ⟨h1, h2⟩, fun b' hb' => ?_⟩
        rcases mem_take_succ hb hb' with h | h
        · exact h3 b' h
        · rw [h]
          exact h4
      refine ⟨_, rfl, rfl, _, rfl, if2 (fun e => ?_) (fun e => ?_)⟩
      · have hj0 : j = 0 := by
          by_cases h : j = 0
          · exact h
          · have := (hb1 (by omega)).1
            have := V.int.inj e
            omega
        obtain ⟨h1, h2, h3⟩ := hsucc (pw pr b + u b) (by omega) ⟨b, hsym, rfl⟩ (fun b' hb' => by rw [hj0] at hb'; cases hb') (Int.le_refl _)
        exact ⟨_, rfl, s9.trans s10, _, _, _, _, h1, h2, h3, rfl⟩
      · have hj0 : 0 < j := by
          by_cases h : j = 0
          · exact absurd (congrArg V.int (hb0 h)) e
          · omega
        refine ⟨_, rfl, _, rfl, _, _, rfl, rfl, _, rfl, if2 (fun e2 => ?_) (fun e2 => ?_)⟩
        · obtain ⟨h1, h2, h3⟩ := hsucc (pw pr b + u b) (by omega) ⟨b, hsym, rfl⟩ (fun b' hb' => by have := hb2 b' hb'; omega) (Int.le_refl _)
          exact ⟨_, rfl, s9.trans s10, _, _, _, _, h1, h2, h3, rfl⟩
        · obtain ⟨h1, h2, h3⟩ := hsucc best (hb1 hj0).1 (hb1 hj0).2 hb2 (by omega)
          exact ⟨s9.trans s10, _, _, _, _, h1, h2, h3, rfl⟩
    · rintro σ H9 ⟨s9, best, y6, y7, y8, hb0, hb1, hb2, rfl⟩
      rw [List.length_map, List.take_length] at hb2
      rw [List.length_map] at hb0 hb1
      have s79 := s8.trans s9
      have hT9 : SqT K H9 t.1 [.int (0 - (nmap t.2.2).sum), .ref t.2.1] := same_t s79 hT7
      have hL : Least (pw pr) (rst (zs.map (·.2)) t.2.2) best := least_of hw0 (fun b hb => (hu b hb).2) (fun hno => hb0 (by
        cases hye : ys with
        | nil => rfl
        | cons b bs => exact absurd ((hys b).mp (by rw [hye]; exact List.mem_cons_self ..)) (hno b))) (fun ⟨b, hb⟩ => (hb1 (List.length_pos_of_mem ((hys b).mpr hb))).2) (fun b hb => hb2 b ((hys b).mpr hb))
      refine ⟨_, rfl, _, rfl, _, rfl, t.1, _, 1, _, rfl, rfl, hT9, rfl, d, _, rfl, DPut.t (s79 _ _ hd7) (tup_key (s79 _ _ hf7)) (Nat.lt_of_le_of_lt (show kvs.length ≤ 5000 by omega) (by decide)), ?_⟩
      refine ⟨fun c o n e => ?_, ⟨_, upd_same, ?_, fun g2 hg2 => ?_⟩, _, _, _, _, _, rfl⟩
      · rw [upd_ne n]
        exact s79 _ _ (b7 c o n e)
      · have := length_putK kvs (fkey t.2.2) (V.int best)
        omega
      · unfold Hts
        rw [valV_put]
        by_cases e : fkey g2.2.2 = fkey t.2.2
        · rw [if_pos e, fkey_inj e]
          exact ⟨best, rfl, hL⟩
        · rw [if_neg e]
          rcases mem_take_succ ht hg2 with h | h
          · exact hkv g2 h
          · exact absurd (by rw [h]) e
  · rintro σ H7 ⟨b7, ⟨kvs, hd7, hkl, hkv⟩, y4, y5, y6, y7, y8, rfl⟩
    rw [hgr, List.take_length] at hkv
    have s7 : Same H H7 := fun c o e => by
      refine b7 c o (fun e2 => ?_) (s14 _ _ (sd _ _ e))
      rw [e2, nd] at e
      cases e
    refine ⟨_, rfl, q H7 d kvs s7 nd hd7 fun f hf => ?_⟩
    obtain ⟨t, ht, rfl⟩ := List.mem_map.mp ((hmem f).mpr hf)
    exact hkv t ht
end
end K37

namespace K37
open PySem PySem.Spec PyProof.Rows L2 Fw Lay
section
variable {P : Program} {w : World} {K : PySem.W.Frag} {mg : Str → Option Value} {base : Heap}
theorem ok_l_symbol_rows (T : Txt K mg) : Good P w K mg base 2 (He.ga K "_law_symbol_rows") ["_law_cell_here", "_law_many", "_law_longest", "_law_count"] [] (sp_l_symbol_rows K) := by
  refine good_of T.f_l_symbol_rows sc_l_symbol_rows (fun vs H Q E h => ?_) (fun _ _ _ _ _ _ us hl => match us, hl with | [_, _, _, _], _ => rfl) (fun cdv A outer s H vs Q E hr h => ?_)
  · obtain ⟨_, _, _, _, rfl, _⟩ := h
    rfl
  refine ⟨_, (pss_cons (ps_set (i := 4) sc_l_symbol_rows.nd rfl (Or.inl rfl) (pe_cg (ok_l_digits T) (hr.mono (j := 1) (by decide)) (by rfl) T.g_l_digits (pa_cons (pv 0) (pa_cons (pe_op op_mul (pv 1) (pe_op op_add (pv 2) pe_int)) (pa_cons pe_int pa_nil)))))
  (pss_cons (ps_set (i := 5) sc_l_symbol_rows.nd rfl (Or.inl rfl) (pe_lst pa_nil))
  (pss_cons (ps_for PassesOwn.never rfl (pi_range1 (by rfl) T.z_range (pa_cons (pv 1) pa_nil)) (pg_name (i := 6) sc_l_symbol_rows.nd rfl (Or.inl rfl))
    (pss_cons (ps_set (i := 7) sc_l_symbol_rows.nd rfl (Or.inl rfl) (pe_op op_mul (pv 6) (pe_op op_add (pv 2) pe_int)))
  (pss_one (ps_if (pw_and (pt_cmpR op_gt (pv 6) pe_int (nomark _)) (pw_and1 (pt_cmpR op_eq (pe_op op_mod (pe_callTy call_int1 (by rfl) T.z_int (by decide +kernel) (pa_cons (pe_ix ix_list (pv 4) (pv 7) (fun _ _ => rfl)) pa_nil)) pe_int) pe_int (nomark _)))).pt
    (pss_one (ps_expr (pe_bm PySem.F.plainAttrs_list PySem.F.slot_list_append PySem.F.type_list_append mt_append (pv 5) (pa_cons (pe_callTy call_list_of (by rfl) T.z_list (by decide +kernel) (pa_cons (pe_ix ix_list (pv 5) (pe_op op_mod (pe_callTy call_int1 (by rfl) T.z_int (by decide +kernel) (pa_cons (pe_ix ix_list (pv 4) (pe_op op_add (pv 7) pe_int) (fun _ _ => rfl)) pa_nil)) (pv 6)) (fun _ _ => rfl)) pa_nil)) pa_nil))))
    (pss_cons (ps_set (i := 8) sc_l_symbol_rows.nd rfl (Or.inl rfl) (pe_op op_mod (pe_callTy call_int1 (by rfl) T.z_int (by decide +kernel) (pa_cons (pe_ix ix_list (pv 4) (pe_op op_add (pv 7) pe_int) (fun _ _ => rfl)) pa_nil)) (pe_op op_add (pv 2) pe_int)))
  (pss_one (ps_expr (pe_bm PySem.F.plainAttrs_list PySem.F.slot_list_append PySem.F.type_list_append mt_append (pv 5) (pa_cons (pe_lc (own := [("_law_digit", 9)]) (g := (gName 9)) (tt := tYes) rfl sc_l_symbol_rows.nd (pi_list (pe_slice sl_list (pv 4) (po_some (pe_op op_add (pv 7) pe_int)) (po_some (pe_op op_add (pe_op op_add (pv 7) pe_int) (pv 8))))) (blkOk_by (own := [("_law_digit", 9)]) (N := ["_law_cell_here", "_law_many", "_law_longest", "_law_count", "_law_row", "_law_rows", "_law_k", "_law_first", "_law_size", "_law_digit"]) (sc := defScope s_l_symbol_rows) (by decide +kernel)) (fun _ _ _ _ _ => (pg_name (i := 9) sc_l_symbol_rows.nd rfl (Or.inl rfl))) (fun _ _ _ _ _ => pts_nil) (fun _ _ _ _ _ => (pe_op op_mod (pe_callTy call_int1 (by rfl) T.z_int (by decide +kernel) (pa_cons (pv 9) pa_nil)) (pv 3)))) pa_nil)))))))))
  (pss_one (ps_ret (pv 5)))))), ?_⟩
  obtain ⟨c, n, m, k, rfl, c0, n1, m1, k0, k1, q⟩ := h
  have hN : n * (m + 2) ≤ 100000 := Nat.le_trans (Nat.mul_le_mul n1 (show m + 2 ≤ 102 by omega)) (by decide)
  refine ⟨_, rfl, _, rfl, _, rfl, _, _, rfl, rfl, _, _, rfl, rfl, .inl ⟨by omega, by omega⟩, c, _, n * (m + 2), rfl, c0, hN, by decide, by decide, fun H2 p ds sm np hp len bd => ?_⟩
  refine ⟨Nat.zero_le _, fun l nl => ?_⟩
  have nlH : H l = none := sm.free nl
  have hp1 := same_new (o := .lst []) nl _ _ hp
  have s1 := sm.trans (same_new (o := .lst []) nl)
  have hl1 : upd H2 l (.lst []) l = some (.lst []) := upd_same
  generalize upd H2 l (.lst []) = H3 at hp1 s1 hl1 ⊢
  have hpl : p ≠ l := fun e => by rw [e, nl] at hp; cases hp
  refine ⟨_, rfl, (n : Int), rfl, by omega, by omega, for_range (n := n) (fun i σ H5 => But l H3 H5 ∧ ∃ zs : Ws, H5 l = some (.lst (refL zs)) ∧ (∀ z ∈ zs, z.1 ≠ l ∧ H5 z.1 = some (ilst z.2)) ∧ zs.length = i ∧ (∀ z ∈ zs, z.2.length ≤ m ∧ ∀ s ∈ z.2, 0 ≤ s ∧ s < (k : Int)) ∧
      ∃ y6 y7 y8, σ = [some (.int c), some (.int (n : Nat)), some (.int (m : Nat)), some (.int (k : Nat)), some (.ref p), some (.ref l), y6, y7, y8, none])
    ⟨But.refl, [], hl1, fun z hz => (nomatch hz), rfl, fun z hz => (nomatch hz), none, none, none, rfl⟩ ?_ ?_⟩
  · rintro i σ H5 hi ⟨b5, zs, hl5, hz5, hzl, hzb, y6, y7, y8, rfl⟩
    have hp5 : H5 p = some (ilst ds) := b5 _ _ hpl hp1
    have hD : SqL K H5 p (ds.map V.int) := SqL.of hp5
    obtain ⟨F, hF, hF2⟩ : ∃ F : Nat, (0 + (i : Int)) * ((m : Int) + 2) = F ∧ F + (m + 2) ≤ ds.length := by
      refine ⟨i * (m + 2), ?_, ?_⟩
      · rw [Int.zero_add, Int.natCast_mul]
        rfl
      · rw [len]
        have : (i + 1) * (m + 2) ≤ n * (m + 2) := Nat.mul_le_mul_right _ hi
        rw [Nat.succ_mul] at this
        exact this
    have gd : ∀ j : Nat, j < ds.length → ∃ d, 0 ≤ d ∧ (ds.map V.int)[j]? = some (.int d) := fun j hj => ⟨_, (bd _ (List.getElem_mem hj)).1, get_map (List.getElem?_eq_getElem hj)⟩
    obtain ⟨d0, d0p, g0⟩ := gd F (by omega)
    obtain ⟨d1, d1p, g1⟩ := gd (F + 1) (by omega)
    have hsz : (refL zs).length < sizeLine := by
      unfold refL
      rw [List.length_map]
      exact small1000 (by omega)
    -- what the second branch does
    have hB : ∀ D : Addr, H5 D = none → True := fun _ _ => trivial
    have fin : ∀ (H6 : Hp) (t : Addr) (es : List Int), Same H5 H6 → H5 t = none → H6 t = some (ilst es) → es.length ≤ m → (∀ s ∈ es, 0 ≤ s ∧ s < (k : Int)) →
        But l H3 (upd H6 l (.lst (refL zs ++ [V.ref t]))) ∧ ∃ zs2 : Ws, upd H6 l (.lst (refL zs ++ [V.ref t])) l = some (.lst (refL zs2)) ∧ (∀ z ∈ zs2, z.1 ≠ l ∧ upd H6 l (.lst (refL zs ++ [V.ref t])) z.1 = some (ilst z.2)) ∧ zs2.length = i + 1 ∧ (∀ z ∈ zs2, z.2.length ≤ m ∧ ∀ s ∈ z.2, 0 ≤ s ∧ s < (k : Int)) := fun H6 t es s6 nt ht h1 h2 => by
      have ntl : t ≠ l := (ne_of_none hl5 nt).symm
      refine ⟨(b5.then s6).own, zs ++ [(t, es)], ?_, fun z hz => ?_, ?_, fun z hz => ?_⟩
      · rw [upd_same]
        unfold refL
        rw [List.map_append]
        rfl
      · rcases List.mem_append.mp hz with hz | hz
        · have h3 := hz5 z hz
          refine ⟨h3.1, ?_⟩
          rw [upd_ne h3.1]
          exact s6 _ _ h3.2
        · rw [List.mem_singleton.mp hz]
          refine ⟨ntl, ?_⟩
          show upd H6 l _ t = _
          rw [upd_ne ntl]
          exact ht
      · rw [List.length_append, hzl]
        rfl
      · rcases List.mem_append.mp hz with hz | hz
        · exact hzb z hz
        · rw [List.mem_singleton.mp hz]
          exact ⟨h1, h2⟩
    refine ⟨_, rfl, _, rfl, _, _, rfl, rfl, _, _, rfl, rfl, .inl ⟨by omega, by omega⟩, ?_⟩
    dsimp only
    rw [hF]
    have hsl : (cutV (ds.map V.int) (some ((F : Int) + 2)) (some ((F : Int) + 2 + d1 % ((m : Int) + 1)))) = ((ds.drop (F + 2)).take (d1 % ((m : Int) + 1)).toNat).map V.int := by
      have e1 : ((F : Int) + 2) = ((F + 2 : Nat) : Int) := by omega
      have h1 := Int.emod_nonneg d1 (show (m : Int) + 1 ≠ 0 by omega)
      have h2 := Int.emod_lt_of_pos d1 (show (0 : Int) < (m : Int) + 1 by omega)
      have e2 : ((F + 2 : Nat) : Int) + d1 % ((m : Int) + 1) = ((F + 2 + (d1 % ((m : Int) + 1)).toNat : Nat) : Int) := by omega
      rw [cutV_map, e1, e2, HT.sIx_nat, HT.sIx_nat]
      have e3 : min (F + 2) ds.length = F + 2 := by omega
      have e4 : min (F + 2 + (d1 % ((m : Int) + 1)).toNat) ds.length - (F + 2) = (d1 % ((m : Int) + 1)).toNat := by omega
      rw [e3, e4]
    have hm1 : (0 : Int) < (m : Int) + 1 := by omega
    have hm2 := Int.emod_nonneg d1 (show (m : Int) + 1 ≠ 0 by omega)
    have hm3 := Int.emod_lt_of_pos d1 hm1
    refine ⟨_, rfl, _, _, rfl, rfl, _, rfl, if2 (fun e0 => ⟨.ref p, rfl, _, rfl, p, _, _, _, rfl, rfl, hD, atI_nat g0, .inl ⟨_, rfl, _, _, rfl, rfl, (by show (0 : Int) < 5; decide), rfl, _, rfl, if2 (fun e1 => ?A) (fun _ => ?B)⟩⟩) (fun _ => ?B2)⟩
    case A =>
      have hi0 : 0 < zs.length := by omega
      have hj1 := Int.emod_nonneg d1 (show (0 + (i : Int)) ≠ 0 by omega)
      have hj2 := Int.emod_lt_of_pos d1 (show (0 : Int) < 0 + (i : Int) by omega)
      obtain ⟨j, hj⟩ : ∃ j : Nat, d1 % (0 + (i : Int)) = j := ⟨(d1 % (0 + (i : Int))).toNat, by omega⟩
      have hjl : j < zs.length := by omega
      have hzj : (refL zs)[j]? = some (.ref zs[j].1) := by
        unfold refL
        rw [List.getElem?_map, List.getElem?_eq_getElem hjl]
        rfl
      have hzm := List.getElem_mem hjl
      refine ⟨.ref l, rfl, .inl ⟨rfl, _, SqL.of hl5⟩, .ref l, rfl, .ref p, rfl, _, rfl, _, _, rfl, rfl, p, _, _, _, rfl, rfl, hD, atI_nat g1, .inl ⟨_, rfl, _, rfl, _, _, rfl, rfl, (by omega), l, _, _, _, rfl, rfl, SqL.of hl5, (by rw [hj]; exact atI_nat hzj), zs[j].1, _, rfl, .inl (SqL.of (hz5 _ hzm).2), fun t nt => ?_⟩⟩
      obtain ⟨r1, zs2, r2, r3, r4, r5⟩ := fin (upd H5 t (.lst (zs[j].2.map V.int))) t zs[j].2 (same_new nt) nt upd_same (hzb _ hzm).1 (hzb _ hzm).2
      exact ⟨l, _, _, rfl, rfl, same_new nt _ _ hl5, hsz, r1, zs2, r2, r3, r4, r5, _, _, _, rfl⟩
    all_goals
      refine ⟨.ref p, rfl, _, rfl, _, _, rfl, rfl, p, _, _, _, rfl, rfl, hD, atI_nat g1, .inl ⟨_, rfl, _, rfl, _, _, rfl, rfl, _, _, rfl, rfl, hm1, ?_⟩⟩
      refine ⟨.ref l, rfl, .inl ⟨rfl, _, SqL.of hl5⟩, .ref p, rfl, _, rfl, _, _, rfl, rfl, _, rfl, _, rfl, _, _, rfl, rfl, _, rfl, _, _, rfl, rfl, _, rfl, p, _, rfl, hD, fun p2 np2 => ?_⟩
      dsimp only
      rw [hsl]
      have s6 : Same H5 (upd H5 p2 (.lst (((ds.drop (F + 2)).take (d1 % ((m : Int) + 1)).toNat).map V.int))) := same_new np2
      have hp2 : upd H5 p2 (.lst (((ds.drop (F + 2)).take (d1 % ((m : Int) + 1)).toNat).map V.int)) p2 = some (ilst ((ds.drop (F + 2)).take (d1 % ((m : Int) + 1)).toNat)) := upd_same
      have hel : ((ds.drop (F + 2)).take (d1 % ((m : Int) + 1)).toNat).length ≤ m := by
        rw [List.length_take]
        omega
      generalize upd H5 p2 (.lst (((ds.drop (F + 2)).take (d1 % ((m : Int) + 1)).toNat).map V.int)) = H6 at s6 hp2 ⊢
      generalize (ds.drop (F + 2)).take (d1 % ((m : Int) + 1)).toNat = es at hp2 hel ⊢
      refine ⟨p2, rfl, ⟨_, SqL.of hp2⟩, fun D hDn => lc_list (K := K) (a := p2) (xs := es.map V.int) (fun j H7 => Same H6 H7 ∧ H7 D = some (ilst ((es.take j).map fun d => d % (k : Int)))) ⟨same_new hDn, upd_same⟩ (fun j H7 _ h => SqL.of (h.1 _ _ hp2)) ?_ ?_⟩
      · rintro j x H7 hj ⟨s7, h7⟩
        obtain ⟨d, hd, rfl⟩ := map_get hj
        have hjl := (List.getElem?_eq_some_iff.mp hd).1
        refine ⟨rfl, yes_then ⟨_, rfl, .inl ⟨_, rfl, _, rfl, _, _, rfl, rfl, (by omega), _, h7, small1000 (by rw [List.length_map, List.length_map, List.length_take]; omega), same_mut s7 hDn, ?_⟩⟩⟩
        rw [upd_same, List.take_add_one, hd, List.map_append]
        unfold ilst
        rw [List.map_append]
        rfl
      · rintro H7 ⟨s7, h7⟩
        rw [List.length_map, List.take_length] at h7
        refine tnil_go ?_
        obtain ⟨r1, zs2, r2, r3, r4, r5⟩ := fin H7 D (es.map fun d => d % (k : Int)) (s6.trans s7) (s6.free hDn) h7 (by rw [List.length_map]; exact hel) (fun s hs => by
          obtain ⟨d, _, rfl⟩ := List.mem_map.mp hs
          exact ⟨Int.emod_nonneg _ (by omega), Int.emod_lt_of_pos _ (by omega)⟩)
        exact ⟨l, _, _, rfl, rfl, s7 _ _ (s6 _ _ hl5), hsz, r1, zs2, r2, r3, r4, r5, _, _, _, rfl⟩
  · rintro σ H5 ⟨b5, zs, hl5, hz5, hzl, hzb, y6, y7, y8, rfl⟩
    refine ⟨_, rfl, q H5 l zs (fun c o e => b5 c o (fun e2 => by rw [e2, nlH] at e; cases e) (s1 _ _ e)) nlH hl5 (fun z hz => (hz5 z hz).2) hzl hzb⟩
end
end K37

namespace K37
open PySem PySem.Spec PyProof.Rows L2 Fw Lay
section
variable {P : Program} {w : World} {K : PySem.W.Frag} {mg : Str → Option Value} {base : Heap}
theorem erase_map {α β : Type} (f : α → β) : ∀ (l : List α) (i : Nat), (l.map f).eraseIdx i = (l.eraseIdx i).map f
  | [], _ => rfl
  | _ :: _, 0 => rfl
  | x :: l, i + 1 => by
    show f x :: (l.map f).eraseIdx i = f x :: (l.eraseIdx i).map f
    rw [erase_map f l i]
theorem ok_l_changed (T : Txt K mg) : Good P w K mg base 1 (He.ga K "_law_changed") ["_law_pairs", "_law_row", "_law_last"] [] (sp_l_changed K) := by
  refine good_of T.f_l_changed sc_l_changed (fun vs H Q E h => ?_) (fun _ _ _ _ _ _ us hl => match us, hl with | [_, _, _], _ => rfl) (fun cdv A outer s H vs Q E hr h => ?_)
  · obtain ⟨_, _, _, _, _, _, _, rfl, _⟩ := h
    rfl
  refine ⟨_, (pss_cons (ps_if (pt_cmpR op_eq (pe_callB call_len_seq (by rfl) T.z_len (by decide +kernel) (pa_cons (pv 0) pa_nil)) pe_int (nomark _))
    (pss_one (ps_ret (pe_lst (pa_cons (pe_tup (pa_cons (pe_tup (pa_cons pe_int pa_nil)) (pa_cons pe_int pa_nil))) pa_nil))))
    pss_nil)
  (pss_cons (ps_set (i := 3) sc_l_changed.nd rfl (Or.inl rfl) (pe_op op_mod (pe_callTy call_int1 (by rfl) T.z_int (by decide +kernel) (pa_cons (pe_ix ix_list (pv 1) pe_int (fun _ _ => rfl)) pa_nil)) (pe_callB call_len_seq (by rfl) T.z_len (by decide +kernel) (pa_cons (pv 0) pa_nil))))
  (pss_cons (ps_set (i := 4) sc_l_changed.nd rfl (Or.inl rfl) (pe_ix ix_tup (pe_ix ix_list (pv 0) (pv 3) (fun _ _ => rfl)) pe_int (fun _ _ => rfl)))
  (pss_cons (ps_set (i := 5) sc_l_changed.nd rfl (Or.inl rfl) (pe_op op_mod (pe_callTy call_int1 (by rfl) T.z_int (by decide +kernel) (pa_cons (pe_ix ix_list (pv 1) pe_int (fun _ _ => rfl)) pa_nil)) pe_int))
  (pss_cons (ps_set (i := 6) sc_l_changed.nd rfl (Or.inl rfl) (pe_callTy call_list_of (by rfl) T.z_list (by decide +kernel) (pa_cons (pv 0) pa_nil)))
  (pss_cons (ps_if (pt_cmpR op_eq (pv 5) pe_int (nomark _))
    (pss_one (ps_asg (pe_tup (pa_cons (pv 4) (pa_cons (pe_op op_add (pe_ix ix_tup (pe_ix ix_list (pv 0) (pv 3) (fun _ _ => rfl)) pe_int (fun _ _ => rfl)) pe_int) pa_nil))) (pg_sub (pv 6) (pv 3) set_list)))
    (pss_one (ps_if (pt_cmpR op_eq (pv 5) pe_int (nomark _))
    (pss_one (ps_asg (pe_tup (pa_cons (pv 4) (pa_cons (pe_op op_sub (pe_ix ix_tup (pe_ix ix_list (pv 0) (pv 3) (fun _ _ => rfl)) pe_int (fun _ _ => rfl)) pe_int) pa_nil))) (pg_sub (pv 6) (pv 3) set_list)))
    (pss_one (ps_if (pt_cmpR op_eq (pv 5) pe_int (nomark _))
    (pss_one (ps_asg (pe_tup (pa_cons (pv 4) (pa_cons (pe_op op_add (pe_ix ix_tup (pe_ix ix_list (pv 0) (pv 3) (fun _ _ => rfl)) pe_int (fun _ _ => rfl)) (pe_op op_mul (pe_op op_pow pe_int pe_int) (pe_op op_sub pe_int (pe_op op_mul pe_int (pe_op op_mod (pe_callTy call_int1 (by rfl) T.z_int (by decide +kernel) (pa_cons (pe_ix ix_list (pv 1) pe_int (fun _ _ => rfl)) pa_nil)) pe_int))))) pa_nil))) (pg_sub (pv 6) (pv 3) set_list)))
    (pss_one (ps_if (pt_cmpR op_eq (pv 5) pe_int (nomark _))
    (pss_one (ps_expr (pe_bm PySem.F.plainAttrs_list PySem.F.slot_list_pop PySem.F.type_list_pop mt_popAt (pv 6) (pa_cons (pv 3) pa_nil))))
    (pss_one (ps_if (pt_cmpR op_eq (pv 5) pe_int (nomark _))
    (pss_cons (ps_set (i := 7) sc_l_changed.nd rfl (Or.inl rfl) (pe_lst (pa_cons (pe_op op_catX (pv 4) (pe_tup (pa_cons pe_int pa_nil))) (pa_cons (pe_op op_catX (pe_slice sl_tupX (pv 4) (po_some pe_int) po_none) (pe_slice sl_tupX (pv 4) po_none (po_some pe_int))) (pa_cons (pe_callTy call_tuple_of (by rfl) T.z_tuple (by decide +kernel) (pa_cons (pe_lc (own := [("_law_done", 9)]) (g := (gName 9)) (tt := tYes) rfl sc_l_changed.nd (pi_tup (pv 4)) (blkOk_by (own := [("_law_done", 9)]) (N := ["_law_pairs", "_law_row", "_law_last", "_law_at", "_law_front", "_law_choice", "_law_changed_here", "_law_strange", "_law_pair", "_law_done"]) (sc := defScope s_l_changed) (by decide +kernel)) (fun _ _ _ _ _ => (pg_name (i := 9) sc_l_changed.nd rfl (Or.inl rfl))) (fun _ _ _ _ _ => pts_nil) (fun _ _ _ _ _ => (pe_op op_add (pv 9) pe_int))) pa_nil)) (pa_cons (pe_tup pa_nil) pa_nil))))))
  (pss_one (ps_expr (pe_bm PySem.F.plainAttrs_list PySem.F.slot_list_insert PySem.F.type_list_insert mt_insert (pv 6) (pa_cons (pv 3) (pa_cons (pe_tup (pa_cons (pe_ix ix_list (pv 7) (pe_op op_mod (pe_callTy call_int1 (by rfl) T.z_int (by decide +kernel) (pa_cons (pe_ix ix_list (pv 1) pe_int (fun _ _ => rfl)) pa_nil)) pe_int) (fun _ _ => rfl)) (pa_cons (pe_op op_sub (pe_op op_mod (pe_callTy call_int1 (by rfl) T.z_int (by decide +kernel) (pa_cons (pe_ix ix_list (pv 1) pe_int (fun _ _ => rfl)) pa_nil)) pe_int) pe_int) pa_nil))) pa_nil))))))
    (pss_one (ps_if (pt_cmpR op_eq (pv 5) pe_int (nomark _))
    (pss_one (ps_setLc (i := 6) (own := [("_law_pair", 8)]) (g := (gName 8)) (tt := tYes) rfl sc_l_changed.nd rfl rfl (sw_true rfl rfl rfl (by decide +kernel)) (pi_list (pv 0)) (blkOk_by (own := [("_law_pair", 8)]) (N := ["_law_pairs", "_law_row", "_law_last", "_law_at", "_law_front", "_law_choice", "_law_changed_here", "_law_strange", "_law_pair", "_law_done"]) (sc := defScope s_l_changed) (by decide +kernel)) (fun _ _ _ _ _ => (pg_name (i := 8) sc_l_changed.nd rfl (Or.inl rfl))) (fun _ _ _ _ _ => pts_nil) (fun _ _ _ _ _ => (pe_tup (pa_cons (pe_ix (ix_tupE (K := K) rfl) (pv 8) pe_int (fun _ _ => rfl)) (pa_cons (pe_op op_sub (pe_op op_sub (pe_ix (ix_tupE (K := K) rfl) (pv 8) pe_int (fun _ _ => rfl)) pe_int) (pe_op op_mod (pe_callTy call_int1 (by rfl) T.z_int (by decide +kernel) (pa_cons (pe_ix (ix_listE (K := K) rfl) (pv 1) pe_int (fun _ _ => rfl)) pa_nil)) pe_int)) pa_nil))))))
    (pss_one (ps_if (pt_cmpR op_eq (pv 5) pe_int (nomark _))
    (pss_one (ps_setLc (i := 6) (own := [("_law_pair", 8)]) (g := (gName 8)) (tt := tYes) rfl sc_l_changed.nd rfl rfl (sw_true rfl rfl rfl (by decide +kernel)) (pi_list (pv 0)) (blkOk_by (own := [("_law_pair", 8)]) (N := ["_law_pairs", "_law_row", "_law_last", "_law_at", "_law_front", "_law_choice", "_law_changed_here", "_law_strange", "_law_pair", "_law_done"]) (sc := defScope s_l_changed) (by decide +kernel)) (fun _ _ _ _ _ => (pg_name (i := 8) sc_l_changed.nd rfl (Or.inl rfl))) (fun _ _ _ _ _ => pts_nil) (fun _ _ _ _ _ => (pe_tup (pa_cons (pe_ix (ix_tupE (K := K) rfl) (pv 8) pe_int (fun _ _ => rfl)) (pa_cons (pe_op op_fdiv (pe_ix (ix_tupE (K := K) rfl) (pv 8) pe_int (fun _ _ => rfl)) pe_int) pa_nil))))))
    (pss_one (ps_if (pt_cmpR op_eq (pv 5) pe_int (nomark _))
    (pss_one (ps_asg (pe_tup (pa_cons (pv 4) (pa_cons (pe_op op_sub (pe_op op_mod (pe_callTy call_int1 (by rfl) T.z_int (by decide +kernel) (pa_cons (pe_ix ix_list (pv 1) pe_int (fun _ _ => rfl)) pa_nil)) pe_int) pe_int) pa_nil))) (pg_sub (pv 6) (pv 3) set_list)))
    (pss_one (ps_setLc (i := 6) (own := [("_law_pair", 8)]) (g := (gName 8)) (tt := tYes) rfl sc_l_changed.nd rfl rfl (sw_true rfl rfl rfl (by decide +kernel)) (pi_list (pv 0)) (blkOk_by (own := [("_law_pair", 8)]) (N := ["_law_pairs", "_law_row", "_law_last", "_law_at", "_law_front", "_law_choice", "_law_changed_here", "_law_strange", "_law_pair", "_law_done"]) (sc := defScope s_l_changed) (by decide +kernel)) (fun _ _ _ _ _ => (pg_name (i := 8) sc_l_changed.nd rfl (Or.inl rfl))) (fun _ _ _ _ _ => pts_nil) (fun _ _ _ _ _ => (pe_tup (pa_cons (pe_ix (ix_tupE (K := K) rfl) (pv 8) pe_int (fun _ _ => rfl)) (pa_cons (pe_op op_add (pe_ix (ix_tupE (K := K) rfl) (pv 8) pe_int (fun _ _ => rfl)) (pe_op op_mul (pe_op op_add pe_int (pe_op op_mod (pe_callTy call_int1 (by rfl) T.z_int (by decide +kernel) (pa_cons (pe_ix (ix_listE (K := K) rfl) (pv 1) pe_int (fun _ _ => rfl)) pa_nil)) pe_int)) (pe_callTy call_int1 (by rfl) T.z_int (by decide +kernel) (pa_cons (pe_cmpR (op_eqDE (K := K) rfl hr.units) (pe_ix (ix_tupE (K := K) rfl) (pv 8) pe_int (fun _ _ => rfl)) (pv 2) (nomark _)) pa_nil)))) pa_nil)))))))))))))))))))))
  (pss_one (ps_ret (pv 6))))))))), ?_⟩
  obtain ⟨a, r, l, qs, n, ds, lt, rfl, hS, hQ, hql, hqn, hn, hR, hdl, hdb, hlt, q⟩ := h
  have hlen : (refQ qs).length = qs.length := List.length_map ..
  refine ⟨.ref a, rfl, a, _, rfl, .inl hS, rfl, _, rfl, if2 (fun e => ?_) (fun e => ?_)⟩
  · refine ⟨(by show 1 ≤ sizeLine; decide), fun t1 n1 => ⟨(by show 2 ≤ sizeLine; decide), fun t2 n2 => ⟨(by show 1 ≤ sizeLine; decide), fun p np => ?_⟩⟩⟩
    have ne1 : t1 ≠ t2 := fun e => by rw [e, upd_same] at n2; cases n2
    have ne2 : t2 ≠ p := fun e => by rw [e, upd_same] at np; cases np
    have ne3 : t1 ≠ p := fun e => by rw [e, upd_ne (fun h => ne1 (e.trans h)), ← e, upd_same] at np; cases np
    refine q _ p [(t2, (t1, [0]), 3)] (((same_new n1).trans (same_new n2)).trans (same_new np)) (((same_new n1).trans (same_new n2)).free np) upd_same (fun z hz => ?_) (by show 1 ≤ _; omega) (fun z hz => ?_)
    · rw [List.mem_singleton.mp hz]
      refine ⟨?_, ?_⟩
      · show upd _ p _ t2 = _
        rw [upd_ne ne2, upd_same]
      · show upd _ p _ t1 = _
        rw [upd_ne ne3, upd_ne ne1, upd_same]
        rfl
    · rw [List.mem_singleton.mp hz]
      show 1 ≤ n + 1
      omega
  rw [hlen] at e
  have hq0 : 0 < qs.length := by
    by_cases h : qs.length = 0
    · exact absurd (by rw [h]; rfl) e
    · omega
  have gd : ∀ j : Nat, j < 4 → ∃ d, 0 ≤ d ∧ (ds.map V.int)[j]? = some (.int d) := fun j hj => by
    have hj2 : j < ds.length := by omega
    exact ⟨_, (hdb _ (List.getElem_mem hj2)).1, get_map (List.getElem?_eq_getElem hj2)⟩
  obtain ⟨d0, b0, g0⟩ := gd 0 (by omega)
  obtain ⟨d1, b1, g1⟩ := gd 1 (by omega)
  obtain ⟨d2, b2, g2⟩ := gd 2 (by omega)
  obtain ⟨d3, b3, g3⟩ := gd 3 (by omega)
  refine ⟨.ref r, rfl, r, _, 0, _, rfl, rfl, hR, atI_nat (j := 0) g0, .inl ⟨_, rfl, .ref a, rfl, a, _, rfl, .inl hS, _, _, rfl, rfl, (by omega), ?_⟩⟩
  obtain ⟨i, hi, hil⟩ : ∃ i : Nat, d0 % ((refQ qs).length : Int) = i ∧ i < qs.length := by
    have h1 := Int.emod_nonneg d0 (show ((refQ qs).length : Int) ≠ 0 by omega)
    have h2 := Int.emod_lt_of_pos d0 (show (0 : Int) < ((refQ qs).length : Int) by omega)
    exact ⟨(d0 % ((refQ qs).length : Int)).toNat, by omega, by omega⟩
  dsimp only
  rw [hi]
  obtain ⟨z, hz⟩ : ∃ z, qs[i]? = some z := ⟨_, List.getElem?_eq_getElem hil⟩
  have hzm := List.mem_of_getElem? hz
  have hzi : (refQ qs)[i]? = some (.ref z.1) := by
    unfold refQ
    rw [List.getElem?_map, hz]
    rfl
  obtain ⟨hz1, hz2⟩ := hQ z hzm
  have hzT : ∀ {H3 : Hp}, Same H H3 → SqT K H3 z.1 [.ref z.2.1.1, .int z.2.2] := fun s => SqT.of (s _ _ hz1)
  refine ⟨.ref a, rfl, _, rfl, a, _, _, _, rfl, rfl, hS, atI_nat hzi, z.1, _, 0, _, rfl, rfl, hzT (Same.refl _), rfl, ?_⟩
  refine ⟨.ref r, rfl, r, _, 1, _, rfl, rfl, hR, atI_nat (j := 1) g1, .inl ⟨_, rfl, _, _, rfl, rfl, (by show (0 : Int) < 9; decide), ?_⟩⟩
  refine ⟨.ref a, rfl, a, _, rfl, .inl hS, fun p np => ?_⟩
  have s2 : Same H (upd H p (.lst (refQ qs))) := same_new np
  have hp2 : upd H p (.lst (refQ qs)) p = some (.lst (refQ qs)) := upd_same
  generalize upd H p (.lst (refQ qs)) = H2 at s2 hp2 ⊢
  have hRR : ∀ {H3 : Hp}, Same H2 H3 → SqL K H3 r (ds.map V.int) := fun s => s.seq (s2.seq hR)
  have hSS : ∀ {H3 : Hp}, Same H2 H3 → SqL K H3 a (refQ qs) := fun s => s.seq (s2.seq hS)
  have hZZ : ∀ {H3 : Hp}, Same H2 H3 → SqT K H3 z.1 [.ref z.2.1.1, .int z.2.2] := fun s => hzT (s2.trans s)
  have hpz : p ≠ z.2.1.1 := (ne_of_none hz2 np).symm
  -- an item set
  have setf : ∀ (v : Int) (t : Addr), H2 t = none → Q (.ref p) (upd (upd H2 t (.tup [.ref z.2.1.1, .int v])) p (.lst ((refQ qs).set i (.ref t)))) := fun v t nt => by
    have ntp : t ≠ p := (ne_of_none hp2 nt).symm
    have sA : Same H (upd (upd H2 t (.tup [.ref z.2.1.1, .int v])) p (.lst ((refQ qs).set i (.ref t)))) := same_mut (s2.trans (same_new nt)) np
    refine q _ p (qs.set i (t, z.2.1, v)) sA np ?_ (fun w hw => ?_) (by rw [List.length_set]; omega) (fun w hw => ?_)
    · rw [upd_same]
      unfold refQ
      rw [List.map_set]
    · rcases List.mem_or_eq_of_mem_set hw with hw | hw
      · exact (hQ.same sA) w hw
      · rw [hw]
        refine ⟨?_, sA _ _ hz2⟩
        show upd _ p _ t = _
        rw [upd_ne ntp, upd_same]
    · rcases List.mem_or_eq_of_mem_set hw with hw | hw
      · have := hqn w hw
        omega
      · rw [hw]
        have := hqn z hzm
        show z.2.1.2.length ≤ n + 1
        omega
  have hset : i < (refQ qs).length := by omega
  refine ⟨_, rfl, rfl, _, rfl, if2 (fun e0 => ?_) (fun _ => ?_)⟩
  · refine ⟨_, rfl, .ref a, rfl, _, rfl, a, _, _, _, rfl, rfl, hSS (Same.refl _), atI_nat hzi, z.1, _, 1, _, rfl, rfl, hZZ (Same.refl _), rfl, _, _, rfl, rfl, (by show 2 ≤ sizeLine; decide), fun t nt => ?_⟩
    exact ⟨_, rfl, _, rfl, p, _, _, i, rfl, rfl, same_new nt _ _ hp2, ixN_nat hset, _, rfl, setf _ t nt⟩
  refine ⟨_, rfl, rfl, _, rfl, if2 (fun e0 => ?_) (fun _ => ?_)⟩
  · refine ⟨_, rfl, .ref a, rfl, _, rfl, a, _, _, _, rfl, rfl, hSS (Same.refl _), atI_nat hzi, z.1, _, 1, _, rfl, rfl, hZZ (Same.refl _), rfl, _, _, rfl, rfl, (by show 2 ≤ sizeLine; decide), fun t nt => ?_⟩
    exact ⟨_, rfl, _, rfl, p, _, _, i, rfl, rfl, same_new nt _ _ hp2, ixN_nat hset, _, rfl, setf _ t nt⟩
  refine ⟨_, rfl, rfl, _, rfl, if2 (fun e0 => ?_) (fun _ => ?_)⟩
  · refine ⟨_, rfl, .ref a, rfl, _, rfl, a, _, _, _, rfl, rfl, hSS (Same.refl _), atI_nat hzi, z.1, _, 1, _, rfl, rfl, hZZ (Same.refl _), rfl, _, _, rfl, rfl, ⟨by decide, by decide, by decide⟩, .ref r, rfl, r, _, 2, _, rfl, rfl, hRR (Same.refl _), atI_nat (j := 2) g2, .inl ⟨_, rfl, _, _, rfl, rfl, (by show (0 : Int) < 2; decide), _, _, rfl, rfl, .inl ⟨by decide, by decide⟩, _, _, rfl, rfl, _, _, rfl, rfl, .inl ⟨by decide, by decide⟩, _, _, rfl, rfl, (by show 2 ≤ sizeLine; decide), fun t nt => ?_⟩⟩
    exact ⟨_, rfl, _, rfl, p, _, _, i, rfl, rfl, same_new nt _ _ hp2, ixN_nat hset, _, rfl, setf _ t nt⟩
  refine ⟨_, rfl, rfl, _, rfl, if2 (fun e0 => ?_) (fun _ => ?_)⟩
  · refine ⟨.ref p, rfl, .inl ⟨rfl, _, SqL.of hp2⟩, _, rfl, p, _, _, i, _, rfl, rfl, hp2, by omega, by omega, (ixN_seq (ixN_nat hset)).1, hzi, _, rfl, ?_⟩
    have sA : Same H (upd H2 p (.lst ((refQ qs).eraseIdx i))) := same_mut s2 np
    refine q _ p (qs.eraseIdx i) sA np ?_ (fun w hw => (hQ.same sA) w (List.mem_of_mem_eraseIdx hw)) ?_ (fun w hw => ?_)
    · rw [upd_same]
      unfold refQ
      exact congrArg (fun z => some (HO.lst z)) (erase_map _ qs i)
    · have := List.length_eraseIdx_le qs i
      omega
    · have := hqn w (List.mem_of_mem_eraseIdx hw)
      omega
  refine ⟨_, rfl, rfl, _, rfl, if2 (fun e0 => ?_) (fun _ => ?_)⟩
  · have hzn := hqn z hzm
    have hz22 := s2 _ _ hz2
    have small : ∀ m : Nat, m ≤ 2000 → m ≤ sizeLine := fun m h => Nat.le_trans h (by decide)
    refine ⟨_, rfl, (by show 1 ≤ sizeLine; decide), fun t1 n1 => ⟨z.2.1.1, t1, z.2.1.2.map V.int, [.int 0], rfl, rfl, same_new n1 _ _ hz22, upd_same, small _ (by rw [List.length_map]; show _ + 1 ≤ _; omega), fun H3 u1 s3 hu1 => ?_⟩⟩
    have s23 := (same_new (o := .tup [.int 0]) n1).trans s3
    have hu1' : H3 u1 = some (itup (z.2.1.2 ++ [0])) := by
      rw [hu1]
      unfold itup
      rw [List.map_append]
      rfl
    refine ⟨_, rfl, 1, rfl, z.2.1.1, _, rfl, s23 _ _ hz22, fun H4 v1 s4 hv1 => ?_⟩
    refine ⟨_, rfl, 1, rfl, z.2.1.1, _, rfl, s4 _ _ (s23 _ _ hz22), fun H5 v2 s5 hv2 => ?_⟩
    rw [cutV_map] at hv1 hv2
    refine ⟨v1, v2, _, _, rfl, rfl, s5 _ _ hv1, hv2, small _ ?_, fun H6 u2 s6 hu2 => ?_⟩
    · rw [List.length_map, List.length_map, List.length_take, List.length_take, List.length_drop, List.length_drop]
      omega
    have s26 := ((s23.trans s4).trans s5).trans s6
    obtain ⟨es2, hes2, hel2⟩ : ∃ es2 : List Int, H6 u2 = some (itup es2) ∧ es2.length ≤ n + 1 := by
      rw [← List.map_append] at hu2
      refine ⟨_, hu2, ?_⟩
      rw [List.length_append, List.length_take, List.length_take, List.length_drop, List.length_drop]
      have e1 : HT.sIx z.2.1.2.length 0 (some 1) = min 1 z.2.1.2.length := HT.sIx_nat _ _ 1
      have e2 : HT.sIx z.2.1.2.length z.2.1.2.length (some 1) = min 1 z.2.1.2.length := HT.sIx_nat _ _ 1
      rw [e1, e2, HT.sIx_none, HT.sIx_none]
      omega
    refine ⟨_, rfl, z.2.1.1, rfl, ⟨_, SqT.of (s26 _ _ hz22)⟩, fun D hD => lc_tup (K := K) (a := z.2.1.1) (xs := z.2.1.2.map V.int) (fun j H7 => Same H6 H7 ∧ H7 D = some (ilst ((z.2.1.2.take j).map fun x => x + 1))) ⟨same_new hD, upd_same⟩ (fun j H7 _ h => SqT.of (h.1 _ _ (s26 _ _ hz22))) ?_ ?_⟩
    · rintro j x H7 hj ⟨s7, h7⟩
      obtain ⟨d, hd, rfl⟩ := map_get hj
      have hjl := (List.getElem?_eq_some_iff.mp hd).1
      refine ⟨rfl, yes_then ⟨_, rfl, _, _, rfl, rfl, _, h7, small1000 (by rw [List.length_map, List.length_map, List.length_take]; omega), same_mut s7 hD, ?_⟩⟩
      rw [upd_same, List.take_add_one, hd, List.map_append]
      unfold ilst
      rw [List.map_append]
      rfl
    rintro H7 ⟨s7, h7⟩
    rw [List.length_map, List.take_length] at h7
    refine tnil_go ?_
    refine ⟨D, _, rfl, .inl ⟨SqL.of h7, fun u3 n3 => ⟨(by show 0 ≤ sizeLine; decide), fun u4 n4 => ⟨(by show 4 ≤ sizeLine; decide), fun o no => ?_⟩⟩⟩⟩
    have s67 := s7.trans ((same_new (o := .tup ((z.2.1.2.map fun x => x + 1).map V.int)) n3).trans ((same_new (o := .tup []) n4).trans (same_new (o := .lst [.ref u1, .ref u2, .ref u3, .ref u4]) no)))
    have h8o : upd (upd (upd H7 u3 (.tup ((z.2.1.2.map fun x => x + 1).map V.int))) u4 (.tup [])) o (.lst [.ref u1, .ref u2, .ref u3, .ref u4]) o = some (.lst [.ref u1, .ref u2, .ref u3, .ref u4]) := upd_same
    have h83 : upd (upd (upd H7 u3 (.tup ((z.2.1.2.map fun x => x + 1).map V.int))) u4 (.tup [])) o (.lst [.ref u1, .ref u2, .ref u3, .ref u4]) u3 = some (itup (z.2.1.2.map fun x => x + 1)) := same_new no _ _ (same_new n4 _ _ upd_same)
    have h84 : upd (upd (upd H7 u3 (.tup ((z.2.1.2.map fun x => x + 1).map V.int))) u4 (.tup [])) o (.lst [.ref u1, .ref u2, .ref u3, .ref u4]) u4 = some (itup []) := same_new no _ _ upd_same
    generalize upd (upd (upd H7 u3 (.tup ((z.2.1.2.map fun x => x + 1).map V.int))) u4 (.tup [])) o (.lst [.ref u1, .ref u2, .ref u3, .ref u4]) = H8 at s67 h8o h83 h84 ⊢
    have s28 := s26.trans s67
    have hp8 := s28 _ _ hp2
    have hat : ∃ (u : Addr) (xs : List Int), atI [V.ref u1, V.ref u2, V.ref u3, V.ref u4] (d2 % 4) = some (.ref u) ∧ H8 u = some (itup xs) ∧ xs.length ≤ n + 1 := by
      have h1 := Int.emod_nonneg d2 (show (4 : Int) ≠ 0 by omega)
      have h2 := Int.emod_lt_of_pos d2 (show (0 : Int) < 4 by omega)
      have h3 : d2 % 4 = 0 ∨ d2 % 4 = 1 ∨ d2 % 4 = 2 ∨ d2 % 4 = 3 := by omega
      rcases h3 with h3 | h3 | h3 | h3 <;> rw [h3]
      · exact ⟨u1, _, rfl, s67 _ _ (s6 _ _ (s5 _ _ (s4 _ _ hu1'))), by rw [List.length_append]; show _ + 1 ≤ _; omega⟩
      · exact ⟨u2, es2, rfl, s67 _ _ hes2, hel2⟩
      · exact ⟨u3, _, rfl, h83, by rw [List.length_map]; omega⟩
      · exact ⟨u4, [], rfl, h84, Nat.zero_le _⟩
    obtain ⟨u, xs, hatu, hux, hxl⟩ := hat
    refine ⟨.ref p, rfl, .inl ⟨rfl, _, SqL.of hp8⟩, _, rfl, _, rfl, .ref r, rfl, r, _, 2, _, rfl, rfl, hRR s28, atI_nat (j := 2) g2, .inl ⟨_, rfl, _, _, rfl, rfl, (by show (0 : Int) < 4; decide), o, _, _, _, rfl, rfl, SqL.of h8o, hatu, .ref r, rfl, r, _, 3, _, rfl, rfl, hRR s28, atI_nat (j := 3) g3, .inl ⟨_, rfl, _, _, rfl, rfl, (by show (0 : Int) < 100; decide), _, _, rfl, rfl, (by show 2 ≤ sizeLine; decide), fun t nt => ?_⟩⟩⟩
    have hp9 := same_new (o := .tup [.ref u, .int (d3 % 100 - 50)]) nt _ _ hp8
    have ntp : t ≠ p := (ne_of_none hp8 nt).symm
    refine ⟨p, _, _, _, rfl, rfl, hp9, ?_, by omega, by omega, _, rfl, ?_⟩
    · rw [hlen]
      exact Nat.lt_of_le_of_lt hql (by decide)
    have sA : Same H (upd (upd H8 t (.tup [.ref u, .int (d3 % 100 - 50)])) p (.lst ((refQ qs).take (i : Int).toNat ++ [V.ref t] ++ (refQ qs).drop (i : Int).toNat))) := same_mut ((s2.trans s28).trans (same_new nt)) np
    refine q _ p (qs.take i ++ [(t, (u, xs), d3 % 100 - 50)] ++ qs.drop i) sA np ?_ (fun w hw => ?_) ?_ (fun w hw => ?_)
    · rw [upd_same]
      unfold refQ
      rw [List.map_append, List.map_append, List.map_take, List.map_drop]
      rfl
    · rcases List.mem_append.mp hw with hw | hw
      · rcases List.mem_append.mp hw with hw | hw
        · exact (hQ.same sA) w (List.mem_of_mem_take hw)
        · rw [List.mem_singleton.mp hw]
          refine ⟨?_, ?_⟩
          · show upd _ p _ t = _
            rw [upd_ne ntp, upd_same]
          · show upd _ p _ u = _
            have h9 := same_new (o := .tup [.ref u, .int (d3 % 100 - 50)]) nt _ _ hux
            rw [upd_ne (ne_of h9 hp9 (fun e => nomatch e))]
            exact h9
      · exact (hQ.same sA) w (List.mem_of_mem_drop hw)
    · rw [List.length_append, List.length_append, List.length_take, List.length_drop]
      show min i qs.length + 1 + (qs.length - i) ≤ qs.length + 1
      omega
    · rcases List.mem_append.mp hw with hw | hw
      · rcases List.mem_append.mp hw with hw | hw
        · have := hqn w (List.mem_of_mem_take hw)
          omega
        · rw [List.mem_singleton.mp hw]
          exact hxl
      · have := hqn w (List.mem_of_mem_drop hw)
        omega
  -- the comprehensions
  have push : ∀ (D : Addr) (j : Nat) (H3 : Hp) (q2 : Qs) (y : Addr × (Addr × List Int) × Int) (v : Int) (t : Addr), H2 D = none → Same H2 H3 → H3 D = some (.lst (refQ q2)) → QsOk H3 q2 → q2.length = j → (∀ w ∈ q2, ∃ w0 ∈ qs, w.2.1 = w0.2.1) → j < qs.length → y ∈ qs → H3 t = none →
      upd H3 t (.tup [.ref y.2.1.1, .int v]) D = some (.lst (refQ q2)) ∧ (refQ q2).length < sizeLine ∧ Same H2 (upd (upd H3 t (.tup [.ref y.2.1.1, .int v])) D (.lst (refQ q2 ++ [.ref t]))) ∧ ∃ q3 : Qs, upd (upd H3 t (.tup [.ref y.2.1.1, .int v])) D (.lst (refQ q2 ++ [.ref t])) D = some (.lst (refQ q3)) ∧
        QsOk (upd (upd H3 t (.tup [.ref y.2.1.1, .int v])) D (.lst (refQ q2 ++ [.ref t]))) q3 ∧ q3.length = j + 1 ∧ ∀ w ∈ q3, ∃ w0 ∈ qs, w.2.1 = w0.2.1 := fun D j H3 q2 y v t nD s3 h3 hq2 hj hw hjl hy nt => by
    have ntD : t ≠ D := (ne_of_none h3 nt).symm
    have h3' := same_new (o := .tup [.ref y.2.1.1, .int v]) nt _ _ h3
    have hel : ∀ (b : Addr) (ys : List V), upd H3 t (.tup [.ref y.2.1.1, .int v]) b = some (.tup ys) → upd (upd H3 t (.tup [.ref y.2.1.1, .int v])) D (.lst (refQ q2 ++ [.ref t])) b = some (.tup ys) := fun b ys h => by
      rw [upd_ne (ne_of h h3' (fun e => nomatch e))]
      exact h
    refine ⟨h3', ?_, same_mut (s3.trans (same_new nt)) nD, q2 ++ [(t, y.2.1, v)], ?_, fun w hw2 => ?_, ?_, fun w hw2 => ?_⟩
    · unfold refQ
      rw [List.length_map]
      exact Nat.lt_of_le_of_lt (show q2.length ≤ 6000 by omega) (by decide)
    · rw [upd_same]
      unfold refQ
      rw [List.map_append]
      rfl
    · rcases List.mem_append.mp hw2 with hw2 | hw2
      · have h1 := (hq2.same (same_new (o := .tup [.ref y.2.1.1, .int v]) nt)) w hw2
        exact ⟨hel _ _ h1.1, hel _ _ h1.2⟩
      · rw [List.mem_singleton.mp hw2]
        exact ⟨hel _ _ upd_same, hel _ _ (same_new nt _ _ (s3 _ _ (s2 _ _ (hQ y hy).2)))⟩
    · rw [List.length_append, hj]
      rfl
    · rcases List.mem_append.mp hw2 with hw2 | hw2
      · exact hw w hw2
      · rw [List.mem_singleton.mp hw2]
        exact ⟨y, hy, rfl⟩
  have fin : ∀ (D : Addr) (H3 : Hp) (q2 : Qs), H2 D = none → Same H2 H3 → H3 D = some (.lst (refQ q2)) → QsOk H3 q2 → q2.length = qs.length → (∀ w ∈ q2, ∃ w0 ∈ qs, w.2.1 = w0.2.1) → Q (.ref D) H3 := fun D H3 q2 nD s3 h3 hq2 hl2 hw => by
    refine q H3 D q2 (s2.trans s3) (s2.free nD) h3 hq2 (by omega) (fun w hw2 => ?_)
    obtain ⟨w0, hw0, e⟩ := hw w hw2
    have := hqn w0 hw0
    rw [e]
    omega
  have hyT : ∀ {H3 : Hp} {y : Addr × (Addr × List Int) × Int}, Same H2 H3 → y ∈ qs → SqT K H3 y.1 [.ref y.2.1.1, .int y.2.2] := fun s hy => SqT.of (s _ _ (s2 _ _ (hQ _ hy).1))
  refine ⟨_, rfl, rfl, _, rfl, if2 (fun e0 => ?_) (fun _ => ?_)⟩
  · refine ⟨.ref a, rfl, a, rfl, ⟨_, hSS (Same.refl _)⟩, fun D hD => lc_list (K := K) (a := a) (xs := refQ qs) (fun j H3 => Same H2 H3 ∧ ∃ q2 : Qs, H3 D = some (.lst (refQ q2)) ∧ QsOk H3 q2 ∧ q2.length = j ∧ ∀ w ∈ q2, ∃ w0 ∈ qs, w.2.1 = w0.2.1)
      ⟨same_new hD, [], upd_same, fun w hw => (nomatch hw), rfl, fun w hw => (nomatch hw)⟩ (fun j H3 _ h => hSS h.1) ?_ ?_⟩
    · rintro j x H3 hj ⟨s3, q2, h3, hq2, hj2, hw⟩
      obtain ⟨y, hy, hym, rfl⟩ := refQ_get hj
      have hjl := (List.getElem?_eq_some_iff.mp hy).1
      refine ⟨rfl, yes_then ⟨_, rfl, y.1, _, 0, _, rfl, rfl, hyT s3 hym, rfl, _, rfl, y.1, _, 1, _, rfl, rfl, hyT s3 hym, rfl, _, _, rfl, rfl, .ref r, rfl, r, _, 2, _, rfl, rfl, hRR s3, atI_nat (j := 2) g2, .inl ⟨_, rfl, _, _, rfl, rfl, (by show (0 : Int) < 9; decide), _, _, rfl, rfl, (by show 2 ≤ sizeLine; decide), fun t nt => ?_⟩⟩⟩
      obtain ⟨r1, r2, r3, r4⟩ := push D j H3 q2 y _ t hD s3 h3 hq2 hj2 hw hjl hym nt
      exact ⟨_, r1, r2, r3, r4⟩
    · rintro H3 ⟨s3, q2, h3, hq2, hj2, hw⟩
      dsimp only
      exact ⟨_, rfl, fin D H3 q2 hD s3 h3 hq2 (by omega) hw⟩
  refine ⟨_, rfl, rfl, _, rfl, if2 (fun e0 => ?_) (fun _ => ?_)⟩
  · refine ⟨.ref a, rfl, a, rfl, ⟨_, hSS (Same.refl _)⟩, fun D hD => lc_list (K := K) (a := a) (xs := refQ qs) (fun j H3 => Same H2 H3 ∧ ∃ q2 : Qs, H3 D = some (.lst (refQ q2)) ∧ QsOk H3 q2 ∧ q2.length = j ∧ ∀ w ∈ q2, ∃ w0 ∈ qs, w.2.1 = w0.2.1)
      ⟨same_new hD, [], upd_same, fun w hw => (nomatch hw), rfl, fun w hw => (nomatch hw)⟩ (fun j H3 _ h => hSS h.1) ?_ ?_⟩
    · rintro j x H3 hj ⟨s3, q2, h3, hq2, hj2, hw⟩
      obtain ⟨y, hy, hym, rfl⟩ := refQ_get hj
      have hjl := (List.getElem?_eq_some_iff.mp hy).1
      refine ⟨rfl, yes_then ⟨_, rfl, y.1, _, 0, _, rfl, rfl, hyT s3 hym, rfl, _, rfl, y.1, _, 1, _, rfl, rfl, hyT s3 hym, rfl, _, _, rfl, rfl, ⟨by decide, by decide⟩, (by show 2 ≤ sizeLine; decide), fun t nt => ?_⟩⟩
      obtain ⟨r1, r2, r3, r4⟩ := push D j H3 q2 y _ t hD s3 h3 hq2 hj2 hw hjl hym nt
      exact ⟨_, r1, r2, r3, r4⟩
    · rintro H3 ⟨s3, q2, h3, hq2, hj2, hw⟩
      dsimp only
      exact ⟨_, rfl, fin D H3 q2 hD s3 h3 hq2 (by omega) hw⟩
  refine ⟨_, rfl, rfl, _, rfl, if2 (fun e0 => ?_) (fun _ => ?_)⟩
  · refine ⟨_, rfl, .ref r, rfl, r, _, 2, _, rfl, rfl, hRR (Same.refl _), atI_nat (j := 2) g2, .inl ⟨_, rfl, _, _, rfl, rfl, (by show (0 : Int) < 1000; decide), _, _, rfl, rfl, (by show 2 ≤ sizeLine; decide), fun t nt => ?_⟩⟩
    exact ⟨_, rfl, _, rfl, p, _, _, i, rfl, rfl, same_new nt _ _ hp2, ixN_nat hset, _, rfl, setf _ t nt⟩
  · refine ⟨.ref a, rfl, a, rfl, ⟨_, hSS (Same.refl _)⟩, fun D hD => lc_list (K := K) (a := a) (xs := refQ qs) (fun j H3 => Same H2 H3 ∧ ∃ q2 : Qs, H3 D = some (.lst (refQ q2)) ∧ QsOk H3 q2 ∧ q2.length = j ∧ ∀ w ∈ q2, ∃ w0 ∈ qs, w.2.1 = w0.2.1)
      ⟨same_new hD, [], upd_same, fun w hw => (nomatch hw), rfl, fun w hw => (nomatch hw)⟩ (fun j H3 _ h => hSS h.1) ?_ ?_⟩
    · rintro j x H3 hj ⟨s3, q2, h3, hq2, hj2, hw⟩
      obtain ⟨y, hy, hym, rfl⟩ := refQ_get hj
      have hjl := (List.getElem?_eq_some_iff.mp hy).1
      have hdy : Dp K H3 (.ref y.2.1.1) (dT y.2.1.2) := dp_tup (s3 _ _ (s2 _ _ (hQ y hym).2))
      have hdl : Dp K H3 (.ref l) (dT lt) := dp_tup (s3 _ _ (s2 _ _ hlt))
      refine ⟨rfl, yes_then ⟨_, rfl, y.1, _, 0, _, rfl, rfl, hyT s3 hym, rfl, _, rfl, y.1, _, 1, _, rfl, rfl, hyT s3 hym, rfl, .ref r, rfl, r, _, 2, _, rfl, rfl, hRR s3, atI_nat (j := 2) g2, .inl ⟨_, rfl, _, _, rfl, rfl, (by show (0 : Int) < 3; decide), _, _, rfl, rfl, _, rfl, y.1, _, 0, _, rfl, rfl, hyT s3 hym, rfl, _, rfl, _, _, hdy, hdl, dT_shaped _, dT_shaped _, .inr ⟨_, rfl, _, _, rfl, rfl, .inl ⟨by omega, by omega⟩, _, _, rfl, rfl, (by show 2 ≤ sizeLine; decide), fun t nt => ?_⟩⟩⟩⟩
      obtain ⟨r1, r2, r3, r4⟩ := push D j H3 q2 y _ t hD s3 h3 hq2 hj2 hw hjl hym nt
      exact ⟨_, r1, r2, r3, r4⟩
    · rintro H3 ⟨s3, q2, h3, hq2, hj2, hw⟩
      dsimp only
      exact ⟨_, rfl, fin D H3 q2 hD s3 h3 hq2 (by omega) hw⟩
end
end K37

namespace K37
open PySem PySem.Spec PyProof.Rows L2 Fw Lay
section
variable {P : Program} {w : World} {K : PySem.W.Frag} {mg : Str → Option Value} {base : Heap}
theorem qs_push {H H3 : Hp} {D t b : Addr} {q2 : Qs} {xs : List Int} {v : Int} (nD : H D = none) (s3 : Same H H3) (h3 : H3 D = some (.lst (refQ q2))) (hq : QsOk H3 q2) (hb : H3 b = some (itup xs)) (hl : q2.length < 6000) (nt : H3 t = none) :
    upd H3 t (.tup [.ref b, .int v]) D = some (.lst (refQ q2)) ∧ (refQ q2).length < sizeLine ∧ Same H (upd (upd H3 t (.tup [.ref b, .int v])) D (.lst (refQ q2 ++ [.ref t]))) ∧
      upd (upd H3 t (.tup [.ref b, .int v])) D (.lst (refQ q2 ++ [.ref t])) D = some (.lst (refQ (q2 ++ [(t, (b, xs), v)]))) ∧ QsOk (upd (upd H3 t (.tup [.ref b, .int v])) D (.lst (refQ q2 ++ [.ref t]))) (q2 ++ [(t, (b, xs), v)]) := by
  have ntD : t ≠ D := (ne_of_none h3 nt).symm
  have h3' := same_new (o := .tup [.ref b, .int v]) nt _ _ h3
  have hel : ∀ (b2 : Addr) (ys : List V), upd H3 t (.tup [.ref b, .int v]) b2 = some (.tup ys) → upd (upd H3 t (.tup [.ref b, .int v])) D (.lst (refQ q2 ++ [.ref t])) b2 = some (.tup ys) := fun b2 ys h => by
    rw [upd_ne (ne_of h h3' (fun e => nomatch e))]
    exact h
  refine ⟨h3', ?_, same_mut (s3.trans (same_new nt)) nD, ?_, fun w hw2 => ?_⟩
  · unfold refQ
    rw [List.length_map]
    exact Nat.lt_trans hl (by decide)
  · rw [upd_same]
    unfold refQ
    rw [List.map_append]
    rfl
  · rcases List.mem_append.mp hw2 with hw2 | hw2
    · have h1 := (hq.same (same_new (o := .tup [.ref b, .int v]) nt)) w hw2
      exact ⟨hel _ _ h1.1, hel _ _ h1.2⟩
    · rw [List.mem_singleton.mp hw2]
      exact ⟨hel _ _ upd_same, hel _ _ (same_new nt _ _ hb)⟩
theorem ok_law (T : Txt K mg) {fd : FuncData} (F : FunD K "law" "law" (defArgs s_law) (defBody s_law) (defScope s_law) [] [] (He.ga K "law") fd) : FnOk P w K mg base CX0 4 (He.ga K "law") fd ["_law_script"] (sp_law K) := by
  refine law_of F sc_law (fun vs H Q E h => ?_) (fun cdv A outer s H vs Q E hr h => ?_)
  · obtain ⟨_, _, rfl, _⟩ := h
    rfl
  refine ⟨_, (pss_cons (ps_set (i := 1) sc_law.nd rfl (Or.inl rfl) (pe_cg (ok_l_digits T) (hr.mono (j := 1) (by decide)) (by rfl) T.g_l_digits (pa_cons (pe_cg (ok_l_seed T) (hr.mono (j := 2) (by decide)) (by rfl) T.g_l_seed (pa_cons (pv 0) (pa_cons pe_int pa_nil))) (pa_cons pe_int (pa_cons pe_int pa_nil)))))
  (pss_cons (ps_set (i := 2) sc_law.nd rfl (Or.inl rfl) (pe_op op_add pe_int (pe_op op_mod (pe_callTy call_int1 (by rfl) T.z_int (by decide +kernel) (pa_cons (pe_ix ix_list (pv 1) pe_int (fun _ _ => rfl)) pa_nil)) pe_int)))
  (pss_cons (ps_set (i := 3) sc_law.nd rfl (Or.inr rfl) (pe_cg (ok_l_prices T) (hr.mono (j := 2) (by decide)) (by rfl) T.g_l_prices (pa_cons (pe_cg (ok_l_seed T) (hr.mono (j := 2) (by decide)) (by rfl) T.g_l_seed (pa_cons (pv 0) (pa_cons pe_int pa_nil))) (pa_cons (pv 2) (pa_cons (pe_op op_mod (pe_callTy call_int1 (by rfl) T.z_int (by decide +kernel) (pa_cons (pe_ix ix_list (pv 1) pe_int (fun _ _ => rfl)) pa_nil)) pe_int) pa_nil)))))
  (pss_cons (ps_set (i := 4) sc_law.nd rfl (Or.inl rfl) (pe_op op_mod (pe_callTy call_int1 (by rfl) T.z_int (by decide +kernel) (pa_cons (pe_ix ix_list (pv 1) pe_int (fun _ _ => rfl)) pa_nil)) pe_int))
  (C8.pss_cut (ps_if (pt_cmpR op_eq (pe_op op_mod (pe_callTy call_int1 (by rfl) T.z_int (by decide +kernel) (pa_cons (pe_ix ix_list (pv 1) pe_int (fun _ _ => rfl)) pa_nil)) pe_int) pe_int (nomark _))
    (pss_one (ps_set (i := 4) sc_law.nd rfl (Or.inl rfl) (pe_op op_add pe_int (pe_op op_mod (pe_callTy call_int1 (by rfl) T.z_int (by decide +kernel) (pa_cons (pe_op op_fdiv (pe_ix ix_list (pv 1) pe_int (fun _ _ => rfl)) pe_int) pa_nil)) pe_int))))
    pss_nil)
  (pss_cons (ps_set (i := 5) sc_law.nd rfl (Or.inr rfl) (pe_cg (ok_l_few_runs T) (hr.mono (j := 1) (by decide)) (by rfl) T.g_l_few_runs (pa_cons (pe_cg (ok_l_symbol_rows T) (hr.mono (j := 2) (by decide)) (by rfl) T.g_l_symbol_rows (pa_cons (pe_cg (ok_l_seed T) (hr.mono (j := 2) (by decide)) (by rfl) T.g_l_seed (pa_cons (pv 0) (pa_cons pe_int pa_nil))) (pa_cons (pv 4) (pa_cons pe_int (pa_cons (pv 2) pa_nil))))) (pa_cons pe_int pa_nil))))
  (pss_cons (ps_set (i := 6) sc_law.nd rfl (Or.inl rfl) (pe_cg (ok_l_fronts T) (hr.mono (j := 2) (by decide)) (by rfl) T.g_l_fronts (pa_cons (pv 5) pa_nil)))
  (pss_cons (ps_set (i := 7) sc_law.nd rfl (Or.inr rfl) (pe_cg (ok_l_heights T) (hr.mono (j := 2) (by decide)) (by rfl) T.g_l_heights (pa_cons (pv 3) (pa_cons (pv 5) (pa_cons (pv 6) pa_nil)))))
  (pss_cons (ps_setLc (i := 8) (own := [("_law_front", 21)]) (g := (gName 21)) (tt := tYes) rfl sc_law.nd rfl rfl (sw_true rfl rfl rfl (by decide +kernel)) (pi_list (pv 6)) (blkOk_by (own := [("_law_front", 21)]) (N := ["_law_script", "_law_row", "_law_count", "_law_prices_here", "_law_many", "_law_rows", "_law_fronts_here", "_law_heights_here", "_law_pairs", "_law_k", "_law_turn", "_law_digits_here", "_law_claimed", "_law_least", "_law_first", "_law_claim", "_law_shown", "_law_costs", "_law_handed", "_law_table_here", "_law_told", "_law_front", "_law_one", "_law_symbol"]) (sc := defScope s_law) (by decide +kernel)) (fun _ _ _ _ _ => (pg_name (i := 21) sc_law.nd rfl (Or.inl rfl))) (fun _ _ _ _ _ => pts_nil) (fun _ _ _ _ _ => (pe_tup (pa_cons (pv 21) (pa_cons (pe_dget (hu_of hr) (pv 7) (pv 21) (fun _ _ => rfl)) pa_nil)))))
  (C8.pss_cut (ps_if (pw_and (pt_cmpR op_eq (pe_op op_mod (pe_callTy call_int1 (by rfl) T.z_int (by decide +kernel) (pa_cons (pe_ix ix_list (pv 1) pe_int (fun _ _ => rfl)) pa_nil)) pe_int) pe_int (nomark _)) (pw_and1 (pt_cmpR op_gt (pe_callB call_len_seq (by rfl) T.z_len (by decide +kernel) (pa_cons (pv 5) pa_nil)) pe_int (nomark _)))).pt
    (pss_cons (ps_set (i := 9) sc_law.nd rfl (Or.inr rfl) (pe_op op_mod (pe_callTy call_int1 (by rfl) T.z_int (by decide +kernel) (pa_cons (pe_ix ix_list (pv 1) pe_int (fun _ _ => rfl)) pa_nil)) (pe_callB call_len_seq (by rfl) T.z_len (by decide +kernel) (pa_cons (pv 5) pa_nil))))
  (pss_one (ps_setLc (i := 8) (own := [("_law_front", 21)]) (g := (gName 21)) (tt := tYes) rfl sc_law.nd rfl rfl (sw_true rfl rfl rfl (by decide +kernel)) (pi_list (pv 6)) (blkOk_by (own := [("_law_front", 21)]) (N := ["_law_script", "_law_row", "_law_count", "_law_prices_here", "_law_many", "_law_rows", "_law_fronts_here", "_law_heights_here", "_law_pairs", "_law_k", "_law_turn", "_law_digits_here", "_law_claimed", "_law_least", "_law_first", "_law_claim", "_law_shown", "_law_costs", "_law_handed", "_law_table_here", "_law_told", "_law_front", "_law_one", "_law_symbol"]) (sc := defScope s_law) (by decide +kernel)) (fun _ _ _ _ _ => (pg_name (i := 21) sc_law.nd rfl (Or.inl rfl))) (fun _ _ _ _ _ => pts_nil) (fun _ _ _ _ _ => (pe_tup (pa_cons (pv 21) (pa_cons (pe_callB (cr_sumE (K := K) rfl rfl) (by rfl) T.z_sum (by decide +kernel) (pa_cons (pe_lc (own := [("_law_symbol", 23)]) (g := (gName 23)) (tt := tYes) rfl sc_law.nd (pi_listE (K := K) rfl (pi_list (pe_slice (sl_listE (K := K) rfl) (pe_ix (ix_listE (K := K) rfl) (pv 5) (pv 9) (fun _ _ => rfl)) (po_some (pe_ix (ix_tupE (K := K) rfl) (pv 21) (pv 9) (fun _ _ => rfl))) po_none))) (blkOk_by (own := [("_law_symbol", 23)]) (N := ["_law_script", "_law_row", "_law_count", "_law_prices_here", "_law_many", "_law_rows", "_law_fronts_here", "_law_heights_here", "_law_pairs", "_law_k", "_law_turn", "_law_digits_here", "_law_claimed", "_law_least", "_law_first", "_law_claim", "_law_shown", "_law_costs", "_law_handed", "_law_table_here", "_law_told", "_law_front", "_law_one", "_law_symbol"]) (sc := { kind := .function, names := [(".0", .local), ("_law_front", .local), ("sum", .globalImplicit), ("_law_k", .cell), ("_law_prices_here", .cell), ("_law_rows", .cell)], isGenerator := false, isCoroutine := false }) (by decide +kernel)) (fun _ _ _ _ _ => (pg_name (i := 23) sc_law.nd rfl (Or.inl rfl))) (fun _ _ _ _ _ => pts_nil) (fun _ _ _ _ _ => (pe_ix (ix_listE (K := K) rfl) (pv 3) (pv 23) (fun _ _ => rfl)))) pa_nil)) pa_nil)))))))
    pss_nil)
  (pss_cons (ps_for PassesOwn.never rfl (pi_range1 (by rfl) T.z_range (pa_cons (pe_op op_mod (pe_callTy call_int1 (by rfl) T.z_int (by decide +kernel) (pa_cons (pe_ix ix_list (pv 1) pe_int (fun _ _ => rfl)) pa_nil)) pe_int) pa_nil)) (pg_name (i := 10) sc_law.nd rfl (Or.inl rfl))
    (pss_cons (ps_set (i := 11) sc_law.nd rfl (Or.inl rfl) (pe_cg (ok_l_digits T) (hr.mono (j := 1) (by decide)) (by rfl) T.g_l_digits (pa_cons (pe_cg (ok_l_seed T) (hr.mono (j := 2) (by decide)) (by rfl) T.g_l_seed (pa_cons (pv 0) (pa_cons (pe_op op_add pe_int (pv 10)) pa_nil))) (pa_cons pe_int (pa_cons pe_int pa_nil)))))
  (pss_one (ps_set (i := 8) sc_law.nd rfl (Or.inl rfl) (pe_cg (ok_l_changed T) (hr.mono (j := 1) (by decide)) (by rfl) T.g_l_changed (pa_cons (pv 8) (pa_cons (pv 11) (pa_cons (pe_callTy call_tuple_of (by rfl) T.z_tuple (by decide +kernel) (pa_cons (pe_lc (own := [("_law_one", 22)]) (g := (gName 22)) (tt := tYes) rfl sc_law.nd (pi_list (pv 5)) (blkOk_by (own := [("_law_one", 22)]) (N := ["_law_script", "_law_row", "_law_count", "_law_prices_here", "_law_many", "_law_rows", "_law_fronts_here", "_law_heights_here", "_law_pairs", "_law_k", "_law_turn", "_law_digits_here", "_law_claimed", "_law_least", "_law_first", "_law_claim", "_law_shown", "_law_costs", "_law_handed", "_law_table_here", "_law_told", "_law_front", "_law_one", "_law_symbol"]) (sc := defScope s_law) (by decide +kernel)) (fun _ _ _ _ _ => (pg_name (i := 22) sc_law.nd rfl (Or.inl rfl))) (fun _ _ _ _ _ => pts_nil) (fun _ _ _ _ _ => (pe_callB (call_lenE (K := K) rfl) (by rfl) T.z_len (by decide +kernel) (pa_cons (pv 22) pa_nil)))) pa_nil)) pa_nil))))))))
  (C8.pss_cut (ps_if (pt_cmpR op_eq (pe_op op_mod (pe_callTy call_int1 (by rfl) T.z_int (by decide +kernel) (pa_cons (pe_ix ix_list (pv 1) pe_int (fun _ _ => rfl)) pa_nil)) pe_int) pe_int (nomark _))
    (pss_one (ps_set (i := 8) sc_law.nd rfl (Or.inl rfl) (pe_revL (pv 8))))
    pss_nil)
  (pss_cons (ps_set (i := 12) sc_law.nd rfl (Or.inl rfl) (pe_cg (ok_l_table T) (hr.mono (j := 1) (by decide)) (by rfl) T.g_l_table (pa_cons (pv 8) pa_nil)))
  (pss_cons (ps_set (i := 13) sc_law.nd rfl (Or.inl rfl) (pe_cg (ok_l_common T) (hr.mono (j := 1) (by decide)) (by rfl) T.g_l_common (pa_cons (pv 3) (pa_cons (pv 5) pa_nil))))
  (pss_cons (ps_set (i := 14) sc_law.nd rfl (Or.inl rfl) (pv 13))
  (C8.pss_cut (ps_if (pt_cmp (pc_din (hu_of hr) (pe_ix ix_list (pv 6) pe_int (fun _ _ => rfl)) (pv 12)))
    (pss_one (ps_set (i := 14) sc_law.nd rfl (Or.inl rfl) (pe_dget (hu_of hr) (pv 12) (pe_ix ix_list (pv 6) pe_int (fun _ _ => rfl)) (fun _ _ => rfl))))
    pss_nil)
  (pss_cons (ps_for PassesOwn.never rfl (pi_list (pe_lst (pa_cons (pv 14) (pa_cons (pe_op op_add (pv 14) pe_int) (pa_cons (pe_op op_sub (pe_op op_add (pv 13) (pe_op op_mod (pe_callTy call_int1 (by rfl) T.z_int (by decide +kernel) (pa_cons (pe_ix ix_list (pv 1) pe_int (fun _ _ => rfl)) pa_nil)) pe_int)) pe_int) pa_nil))))) (pg_name (i := 15) sc_law.nd rfl (Or.inl rfl))
    (pss_cons (ps_set (i := 16) sc_law.nd rfl (Or.inl rfl) (pe_cg (ok_l_shows T) (hr.mono (j := 2) (by decide)) (by rfl) T.g_l_shows (pa_cons (pv 3) (pa_cons (pv 5) (pa_cons (pv 6) (pa_cons (pv 12) (pa_cons (pv 15) pa_nil)))))))
  (C8.pss_cut (ps_if (pw_and (pt_val (pv 16)) (pw_and1 (pt_cmpR op_gt (pv 15) (pv 13) (nomark _)))).pt
    (pss_one (ps_ret pe_bl))
    pss_nil)
  (pss_cons (ps_set (i := 17) sc_law.nd rfl (Or.inl rfl) (pe_callTy call_list_of (by rfl) T.z_list (by decide +kernel) (pa_cons (pv 3) pa_nil)))
  (pss_cons (ps_setLc (i := 18) (own := [("_law_one", 22)]) (g := (gName 22)) (tt := tYes) rfl sc_law.nd rfl rfl (sw_true rfl rfl rfl (by decide +kernel)) (pi_list (pv 5)) (blkOk_by (own := [("_law_one", 22)]) (N := ["_law_script", "_law_row", "_law_count", "_law_prices_here", "_law_many", "_law_rows", "_law_fronts_here", "_law_heights_here", "_law_pairs", "_law_k", "_law_turn", "_law_digits_here", "_law_claimed", "_law_least", "_law_first", "_law_claim", "_law_shown", "_law_costs", "_law_handed", "_law_table_here", "_law_told", "_law_front", "_law_one", "_law_symbol"]) (sc := defScope s_law) (by decide +kernel)) (fun _ _ _ _ _ => (pg_name (i := 22) sc_law.nd rfl (Or.inl rfl))) (fun _ _ _ _ _ => pts_nil) (fun _ _ _ _ _ => (pe_callTy (call_list_ofE (K := K) rfl) (by rfl) T.z_list (by decide +kernel) (pa_cons (pv 22) pa_nil))))
  (pss_cons (ps_set (i := 19) sc_law.nd rfl (Or.inl rfl) (pe_cg (ok_l_table T) (hr.mono (j := 1) (by decide)) (by rfl) T.g_l_table (pa_cons (pv 8) pa_nil)))
  (pss_cons (ps_set (i := 20) sc_law.nd rfl (Or.inl rfl) (pe_cg (ok_check_heights T) (hr.mono (j := 3) (by decide)) (by rfl) T.g_check_heights (pa_cons (pv 17) (pa_cons (pv 18) (pa_cons (pv 19) (pa_cons (pv 15) pa_nil))))))
  (pss_cons (ps_if (pw_or (pt_cmpR (op_neD hr.units) (pv 17) (pv 3) (nomark _)) (pw_or (pt_cmpR (op_neD hr.units) (pv 18) (pv 5) (nomark _)) (pw_or1 (pt_cmpR (op_neT (hu_of hr)) (pv 19) (pv 12) (nomark _))))).pt
    (pss_one (ps_ret pe_bl))
    pss_nil)
  (pss_one (ps_if (pw_or (pw_and (pt_val (pv 16)) (pw_and1 (pt_cmpR op_isnot_bl (pv 20) pe_bl (nomark _)))).pt (pw_or1 (pw_and (pt_not (pt_val (pv 16))) (pw_and1 (pt_cmpR op_isnot_bl (pv 20) pe_bl (nomark _)))).pt)).pt
    (pss_one (ps_ret pe_bl))
    pss_nil))))))))))
  (pss_one (ps_ret pe_bl))))))))))))))))))), ?_⟩
  obtain ⟨sa, ns, rfl, hS, hns, q⟩ := h
  refine ⟨.ref sa, rfl, sa, ns, 0, rfl, hS, by omega, fun c0 H1 hc0 s1 => ⟨c0, _, 10, rfl, hc0, by omega, by decide, by decide, fun H2 rp ds s2 nr hr2 len bd => ?_⟩⟩
  have s02 := s1.trans s2
  have gd : ∀ j : Nat, j < 10 → ∃ d, 0 ≤ d ∧ (ds.map V.int)[j]? = some (.int d) := fun j hj => by
    have hj2 : j < ds.length := by omega
    exact ⟨_, (bd _ (List.getElem_mem hj2)).1, get_map (List.getElem?_eq_getElem hj2)⟩
  obtain ⟨e0, b0, g0⟩ := gd 0 (by omega)
  obtain ⟨e1, b1, g1⟩ := gd 1 (by omega)
  obtain ⟨e2, b2, g2⟩ := gd 2 (by omega)
  obtain ⟨e3, b3, g3⟩ := gd 3 (by omega)
  obtain ⟨e4, b4, g4⟩ := gd 4 (by omega)
  obtain ⟨e5, b5, g5⟩ := gd 5 (by omega)
  obtain ⟨e6, b6, g6⟩ := gd 6 (by omega)
  obtain ⟨e7, b7, g7⟩ := gd 7 (by omega)
  obtain ⟨e8, b8, g8⟩ := gd 8 (by omega)
  have hR : ∀ {H3 : Hp}, Same H2 H3 → SqL K H3 rp (ds.map V.int) := fun s => SqL.of (s _ _ hr2)
  -- count
  obtain ⟨k, hk, k1, k6⟩ : ∃ k : Nat, 1 + e0 % 6 = k ∧ 1 ≤ k ∧ k ≤ 6 := ⟨(1 + e0 % 6).toNat, by omega, by omega, by omega⟩
  refine ⟨.ref rp, rfl, rp, _, 0, _, rfl, rfl, hR (Same.refl _), atI_nat (j := 0) g0, .inl ⟨_, rfl, _, _, rfl, rfl, (by show (0 : Int) < 6; decide), _, _, rfl, rfl, ?_⟩⟩
  dsimp only
  rw [hk]
  -- prices
  refine ⟨.ref sa, rfl, sa, ns, 1, rfl, s02.seq hS, by omega, fun c1 H4 hc1 s4 => ?_⟩
  refine ⟨_, rfl, .ref rp, rfl, rp, _, 1, _, rfl, rfl, hR s4, atI_nat (j := 1) g1, .inl ⟨_, rfl, _, _, rfl, rfl, (by show (0 : Int) < 4; decide), c1, _, k, rfl, hc1, by omega, fun H5 pa pr s5 np hp hpl hp1 => ?_⟩⟩
  have s25 := s4.trans s5
  have hPr : ∀ {H8 : Hp}, Same H5 H8 → SqL K H8 pa (pr.map V.int) := fun s => SqL.of (s _ _ hp)
  have hP : PrOk pr := ⟨by omega, by omega, hp1⟩
  have hw0 := pw_nonneg hp1
  -- many
  refine ⟨.ref rp, rfl, rp, _, 2, _, rfl, rfl, hR s25, atI_nat (j := 2) g2, .inl ⟨_, rfl, _, _, rfl, rfl, (by show (0 : Int) < 4; decide), ?_⟩⟩
  refine ⟨fun σ H6 => H6 = H5 ∧ ∃ n : Nat, n ≤ 6 ∧ σ = [some (.ref sa), some (.ref rp), some (.int (k : Int)), some (.ref pa), some (.int (n : Int)), none, none, none, none, none, none, none, none, none, none, none, none, none, none, none, none, none, none, none], ?_, ?_⟩
  · refine ⟨.ref rp, rfl, rp, _, 3, _, rfl, rfl, hR s25, atI_nat (j := 3) g3, .inl ⟨_, rfl, _, _, rfl, rfl, (by show (0 : Int) < 8; decide), rfl, _, rfl, if2 (fun e => ?_) (fun e => ?_)⟩⟩
    · refine ⟨.ref rp, rfl, rp, _, 2, _, rfl, rfl, hR s25, atI_nat (j := 2) g2, _, _, rfl, rfl, ⟨by decide, by decide⟩, .inl ⟨_, rfl, _, _, rfl, rfl, (by show (0 : Int) < 3; decide), _, _, rfl, rfl, rfl, (4 + e2 / 4 % 3).toNat, by omega, ?_⟩⟩
      have e9 : (((4 + e2 / 4 % 3).toNat : Nat) : Int) = 4 + e2 / 4 % 3 := by omega
      rw [e9]
      rfl
    · refine ⟨rfl, (e2 % 4).toNat, by omega, ?_⟩
      have e9 : (((e2 % 4).toNat : Nat) : Int) = e2 % 4 := by omega
      rw [e9]
      rfl
  rintro σ H6 ⟨rfl, n, n6, rfl⟩
  -- rows
  refine ⟨.ref sa, rfl, sa, ns, 2, rfl, (s02.trans s25).seq hS, by omega, fun c2 H7 hc2 s7 => ⟨_, rfl, _, rfl, c2, n, 5, k, rfl, hc2, by omega, by omega, by omega, by omega, fun H8 ra zs0 s8 nr8 hr8 hz8 hzl hzb => ?_⟩⟩
  refine ⟨ra, zs0, 150, rfl, SqL.of hr8, (fun z hz => SqL.of (hz8 z hz)), by omega, by omega, by omega, fun H9 ka zs s9 nk hk0 hsub hprod _ => ?_⟩
  have hzn : zs.length ≤ 6 := by
    have := hsub.length_le
    omega
  have hLz : LL K H9 zs := fun z hz => SqL.of (s9 _ _ (hz8 z (hsub.subset hz)))
  have hzl5 : ∀ z ∈ zs, z.2.length ≤ 1000 := fun z hz => by
    have := (hzb z (hsub.subset hz)).1
    omega
  have hRow : ∀ {H : Hp}, Same H9 H → Rows K H ka zs := fun s => ⟨SqL.of (s _ _ hk0), hLz.same s, by omega, hzl5⟩
  have hsy0 : ∀ z ∈ zs, ∀ s ∈ z.2, 0 ≤ s ∧ s < (pr.length : Int) := fun z hz s hs => by
    have := (hzb z (hsub.subset hz)).2 s hs
    omega
  have hSy : SyOk pr.length (zs.map (·.2)) := fun r hr s hs => by
    obtain ⟨z, hz, rfl⟩ := List.mem_map.mp hr
    exact hsy0 z hz s hs
  have s59 := (s7.trans s8).trans s9
  have hKa : ∀ {H : Hp}, Same H9 H → SqL K H ka (refL zs) := fun s => SqL.of (s _ _ hk0)
  have hlz : (refL zs).length = zs.length := List.length_map ..
  -- fronts
  refine ⟨_, rfl, ka, zs, rfl, hRow (Same.refl _), by omega, fun H10 fa fs s10 nf hf hfs h00 hrch => ?_⟩
  have hcl : ∀ f ∈ fs.map (·.2), ∀ b, Sym (zs.map (·.2)) f b → fstep b (zs.map (·.2)) f ∈ fs.map (·.2) := fun f hf b hb => (hrch _).mpr (((hrch f).mp hf).step hb)
  have hfl : fs.length ≤ 150 := by
    have h1 := few_fronts hfs.2 (fun f hf => by
      obtain ⟨r, hr, rfl⟩ := List.mem_map.mp hf
      exact (hfs.1 r hr).2)
    rw [List.length_map] at h1
    omega
  have hFa : ∀ {H : Hp}, Same H10 H → SqL K H fa (refF fs) := fun s => SqL.of (s _ _ hf)
  have hlf : (refF fs).length = fs.length := List.length_map ..
  have hfn : ∀ f ∈ fs, (nmap f.2).length ≤ 6 := fun f hf => by
    have h1 := (hfs.1 f hf).2.len
    rw [List.length_map] at h1
    unfold nmap
    rw [List.length_map]
    omega
  -- heights
  refine ⟨_, rfl, _, rfl, _, rfl, pa, ka, fa, pr, zs, fs, rfl, hPr (s59.trans s10), hP, hRow s10, hSy, by omega, hf, hfs, hcl, fun H11 da kvs0 s11 nd hd hH => ?_⟩
  -- pairs
  have s1011 := s11
  refine ⟨.ref fa, rfl, fa, rfl, ⟨_, hFa s11⟩, fun D hD => lc_list (K := K) (a := fa) (xs := refF fs) (fun i H3 => Same H11 H3 ∧ ∃ qs : Qs, H3 D = some (.lst (refQ qs)) ∧ QsOk H3 qs ∧ qs.length = i ∧ ∀ w ∈ qs, w.2.1.2.length ≤ 6)
    ⟨same_new hD, [], upd_same, fun w hw => (nomatch hw), rfl, fun w hw => (nomatch hw)⟩ (fun i H3 _ h => hFa (s11.trans h.1)) ?_ ?_⟩
  · rintro i x H3 hi ⟨s3, qs, h3, hqs, hql, hqn⟩
    obtain ⟨r, hr, hrm, rfl⟩ := refF_get hi
    have hil := (List.getElem?_eq_some_iff.mp hr).1
    obtain ⟨v, hv, _⟩ := hH r.2 (List.mem_map_of_mem (f := fun z : Addr × Ft => z.2) hrm)
    have hr3 : H3 r.1 = some (itup (nmap r.2)) := s3 _ _ (s11 _ _ (hfs.1 r hrm).1)
    refine ⟨rfl, yes_then ⟨_, rfl, _, rfl, _, rfl, da, .int v, rfl, ?_, (by show 2 ≤ sizeLine; decide), fun t nt => ?_⟩⟩
    · have h1 := DGet.t (s3 _ _ hd) (tup_key hr3)
      rw [hv] at h1
      exact h1
    · obtain ⟨r1, r2, r3, r4, r5⟩ := qs_push (v := v) hD s3 h3 hqs hr3 (by omega) nt
      refine ⟨_, r1, r2, r3, _, r4, r5, by rw [List.length_append, hql]; rfl, fun w hw => ?_⟩
      rcases List.mem_append.mp hw with hw | hw
      · exact hqn w hw
      · rw [List.mem_singleton.mp hw]
        exact hfn r hrm
  rintro H12 ⟨s12, qs, hq0, hqs, hql, hqn⟩
  have s1012 := s11.trans s12
  dsimp only
  have s912 := s10.trans s1012
  have s512 := s59.trans s912
  have s212 := s25.trans s512
  refine ⟨fun σ H13 => Same H12 H13 ∧ ∃ (pq : Addr) (qs : Qs) (y9 : Option V), H13 pq = some (.lst (refQ qs)) ∧ QsOk H13 qs ∧ qs.length ≤ 150 ∧ (∀ w ∈ qs, w.2.1.2.length ≤ 6) ∧ σ = [some (.ref sa), some (.ref rp), some (.int (k : Int)), some (.ref pa), some (.int (n : Int)), some (.ref ka), some (.ref fa), some (.ref da), some (.ref pq), y9, none, none, none, none, none, none, none, none, none, none, none, none, none, none], ?_, ?_⟩
  · refine ⟨.ref rp, rfl, rp, _, 4, _, rfl, rfl, hR s212, atI_nat (j := 4) g4, .inl ⟨_, rfl, _, _, rfl, rfl, (by show (0 : Int) < 4; decide), rfl, _, rfl, if2 (fun e => ?_) (fun e => ?_)⟩⟩
    · refine ⟨.ref ka, rfl, ka, _, rfl, .inl (hKa s912), _, _, rfl, rfl, _, rfl, if2 (fun ee => ?_) (fun ee => ?_)⟩
      · obtain ⟨kk, hkk, hkl⟩ : ∃ kk : Nat, e5 % ((refL zs).length : Int) = kk ∧ kk < zs.length := by
          have h1 := Int.emod_nonneg e5 (show ((refL zs).length : Int) ≠ 0 by omega)
          have h2 := Int.emod_lt_of_pos e5 (show (0 : Int) < ((refL zs).length : Int) by omega)
          exact ⟨(e5 % ((refL zs).length : Int)).toNat, by omega, by omega⟩
        refine ⟨.ref rp, rfl, rp, _, 5, _, rfl, rfl, hR s212, atI_nat (j := 5) g5, .inl ⟨_, rfl, .ref ka, rfl, ka, _, rfl, .inl (hKa s912), _, _, rfl, rfl, (by omega), ?_⟩⟩
        dsimp only
        rw [hkk]
        have hzk : zs[kk]? = some zs[kk] := List.getElem?_eq_getElem hkl
        have hzkm : zs[kk] ∈ zs := List.getElem_mem hkl
        generalize zs[kk] = zk at hzk hzkm
        have hzk2 : (refL zs)[kk]? = some (.ref zk.1) := by
          unfold refL
          rw [List.getElem?_map, hzk]
          rfl
        have hzk3 : (zs.map (·.2))[kk]? = some zk.2 := by rw [List.getElem?_map, hzk]; rfl
        refine ⟨.ref fa, rfl, fa, rfl, ⟨_, hFa s1012⟩, fun D hD => lc_list (K := K) (a := fa) (xs := refF fs) (fun i H3 => Same H12 H3 ∧ ∃ qs : Qs, H3 D = some (.lst (refQ qs)) ∧ QsOk H3 qs ∧ qs.length = i ∧ ∀ w ∈ qs, w.2.1.2.length ≤ 6)
          ⟨same_new hD, [], upd_same, fun w hw => (nomatch hw), rfl, fun w hw => (nomatch hw)⟩ (fun i H3 _ h => hFa (s1012.trans h.1)) ?_ ?_⟩
        · rintro i x H3 hi ⟨s3, qs, h3, hqs, hql, hqn⟩
          obtain ⟨r, hr, hrm, rfl⟩ := refF_get hi
          have hil := (List.getElem?_eq_some_iff.mp hr).1
          have hr3 : H3 r.1 = some (itup (nmap r.2)) := s3 _ _ (s1012 _ _ (hfs.1 r hrm).1)
          obtain ⟨fk, hfk, hfkl⟩ := (hfs.1 r hrm).2.at hzk3
          have hzk4 : SqL K H3 zk.1 (zk.2.map V.int) := hLz.same (s912.trans s3) zk hzkm
          refine ⟨rfl, yes_then ⟨_, rfl, _, rfl, _, rfl, ka, _, _, _, rfl, rfl, hKa (s912.trans s3), atI_nat hzk2, _, rfl, _, rfl, r.1, _, _, _, rfl, rfl, SqT.of hr3, atI_nat (nmap_get hfk), _, rfl, zk.1, _, rfl, hzk4, fun p2 np2 => ?_⟩⟩
          rw [cutV_map]
          have s6 := same_new (o := .lst (((zk.2.drop (HT.sIx zk.2.length 0 (some (fk : Int)))).take (HT.sIx zk.2.length zk.2.length none - HT.sIx zk.2.length 0 (some (fk : Int)))).map V.int)) np2
          have hes : ∀ s ∈ (zk.2.drop (HT.sIx zk.2.length 0 (some (fk : Int)))).take (HT.sIx zk.2.length zk.2.length none - HT.sIx zk.2.length 0 (some (fk : Int))), s ∈ zk.2 := fun s hs => List.mem_of_mem_drop (List.mem_of_mem_take hs)
          have hel : ((zk.2.drop (HT.sIx zk.2.length 0 (some (fk : Int)))).take (HT.sIx zk.2.length zk.2.length none - HT.sIx zk.2.length 0 (some (fk : Int)))).length ≤ 1000 := by
            rw [List.length_take, List.length_drop]
            have := hzl5 zk hzkm
            omega
          generalize (zk.2.drop (HT.sIx zk.2.length 0 (some (fk : Int)))).take (HT.sIx zk.2.length zk.2.length none - HT.sIx zk.2.length 0 (some (fk : Int))) = es at s6 hes hel ⊢
          have hp2 : upd H3 p2 (.lst (es.map V.int)) p2 = some (ilst es) := upd_same
          generalize upd H3 p2 (.lst (es.map V.int)) = H6 at s6 hp2 ⊢
          refine ⟨p2, rfl, ⟨_, SqL.of hp2⟩, fun D2 hD2 => lc_list (K := K) (a := p2) (xs := es.map V.int) (fun j H4 => Same H6 H4 ∧ H4 D2 = some (ilst ((es.take j).map (pw pr)))) ⟨same_new hD2, upd_same⟩ (fun j H4 _ h => SqL.of (h.1 _ _ hp2)) ?_ ?_⟩
          · rintro j x H4 hj ⟨s4', h4⟩
            obtain ⟨s, hs, rfl⟩ := map_get hj
            have hin := hsy0 zk hzkm s (hes s (List.mem_of_getElem? hs))
            refine ⟨rfl, yes_then ⟨_, rfl, _, rfl, pa, _, _, _, rfl, rfl, hPr (s512.trans (s3.trans (s6.trans s4'))), pw_sym hin.1 hin.2, _, h4, small1000 (by rw [List.length_map, List.length_map, List.length_take]; omega), same_mut s4' hD2, ?_⟩⟩
            rw [upd_same, List.take_add_one, hs, List.map_append]
            unfold ilst
            rw [List.map_append]
            rfl
          · rintro H4 ⟨s4', h4⟩
            refine tnil_go ?_
            refine ⟨D2, _, rfl, SqL.of h4, (by show 2 ≤ sizeLine; decide), fun t nt => ?_⟩
            have s34 := s6.trans s4'
            obtain ⟨r1, r2, r3, r4, r5⟩ := qs_push (v := ((es.take (es.map V.int).length).map (pw pr)).sum) hD (s3.trans s34) (s34 _ _ h3) (hqs.same s34) (s34 _ _ hr3) (by omega) nt
            refine ⟨_, r1, r2, r3, _, r4, r5, by rw [List.length_append, hql]; rfl, fun w hw => ?_⟩
            rcases List.mem_append.mp hw with hw | hw
            · exact hqn w hw
            · rw [List.mem_singleton.mp hw]
              exact hfn r hrm
        · rintro H13 ⟨s13, qs, hq0, hqs, hql, hqn⟩
          dsimp only
          exact ⟨s13, D, qs, _, hq0, hqs, by omega, hqn, rfl⟩
      · exact ⟨Same.refl _, D, qs, none, hq0, hqs, by omega, hqn, rfl⟩
    · exact ⟨Same.refl _, D, qs, none, hq0, hqs, by omega, hqn, rfl⟩
  clear hq0 hqs hql hqn
  clear qs
  rintro σ H13 ⟨s13, pq, qs, y9, hq0, hqs, hql, hqn, rfl⟩
  have s913 := s912.trans s13
  have s513 := s59.trans s913
  have s213 := s25.trans s513
  -- changes
  refine ⟨.ref rp, rfl, rp, _, 6, _, rfl, rfl, hR s213, atI_nat (j := 6) g6, .inl ⟨_, rfl, _, _, rfl, rfl, (by show (0 : Int) < 3; decide), _, rfl, by omega, by omega, for_range (n := (e6 % 3).toNat) (fun i σ H14 => Same H13 H14 ∧ ∃ (pq : Addr) (qs : Qs) (y10 y11 : Option V), H14 pq = some (.lst (refQ qs)) ∧ QsOk H14 qs ∧ qs.length ≤ 150 + i ∧ (∀ w ∈ qs, w.2.1.2.length ≤ 6 + i) ∧ σ = [some (.ref sa), some (.ref rp), some (.int (k : Int)), some (.ref pa), some (.int (n : Int)), some (.ref ka), some (.ref fa), some (.ref da), some (.ref pq), y9, y10, y11, none, none, none, none, none, none, none, none, none, none, none, none])
    ⟨Same.refl _, pq, qs, none, none, hq0, hqs, by omega, hqn, rfl⟩ ?_ ?_⟩⟩
  · clear hq0 hqs hql hqn
    rintro i σ H14 hi ⟨s14, pq, qs, y10, y11, hq0, hqs, hql, hqn, rfl⟩
    have hi3 : i < 3 := by omega
    refine ⟨.ref sa, rfl, _, rfl, _, _, rfl, rfl, sa, ns, 3 + (0 + i), rfl, (s02.trans (s213.trans s14)).seq hS, by omega, fun c3 H15 hc3 s15 => ⟨c3, _, 4, rfl, hc3, by omega, by decide, by decide, fun H16 dp ds2 s16 nd2 hd2 len2 bd2 => ?_⟩⟩
    have s1416 := s15.trans s16
    have s916 := s913.trans (s14.trans s1416)
    refine ⟨_, rfl, _, rfl, .ref ka, rfl, ka, rfl, ⟨_, hKa s916⟩, fun D hD => lc_list (K := K) (a := ka) (xs := refL zs) (fun j H3 => Same H16 H3 ∧ H3 D = some (ilst ((zs.take j).map fun z : Addr × List Int => (z.2.length : Int)))) ⟨same_new hD, upd_same⟩ (fun j H3 _ h => hKa (s916.trans h.1)) ?_ ?_⟩
    · rintro j x H3 hj ⟨s3, h3⟩
      obtain ⟨z, hz, hzm, rfl⟩ := refL_get hj
      have hjl := (List.getElem?_eq_some_iff.mp hz).1
      refine ⟨rfl, yes_then ⟨_, rfl, z.1, _, rfl, .inl (hLz.same (s916.trans s3) z hzm), _, h3, small1000 (by rw [List.length_map, List.length_map, List.length_take]; omega), same_mut s3 hD, ?_⟩⟩
      rw [upd_same, List.take_add_one, hz, List.map_append]
      unfold ilst
      rw [List.map_append, List.length_map]
      rfl
    · rintro H3 ⟨s3, h3⟩
      refine tnil_go ?_
      refine ⟨D, _, rfl, .inl ⟨SqL.of h3, fun lt nlt => ?_⟩⟩
      have s17 := s3.trans (same_new (o := .tup (((zs.take (refL zs).length).map fun z : Addr × List Int => (z.2.length : Int)).map V.int)) nlt)
      have s1417 := s1416.trans s17
      refine ⟨pq, dp, lt, qs, 6 + i, ds2, _, rfl, SqL.of (s1417 _ _ hq0), hqs.same s1417, by omega, hqn, by omega, SqL.of (s17 _ _ hd2), len2, bd2, upd_same, fun H18 p2 qs2 s18 np2 hp2 hq2 hql2 hqn2 => ?_⟩
      exact ⟨s14.trans (s1417.trans s18), p2, qs2, _, _, hp2, hq2, by omega, fun w hw => by have := hqn2 w hw; omega, rfl⟩
  clear hq0 hqs hql hqn
  clear qs pq
  rintro σ H14 ⟨s14, pq, qs, y10, y11, hq0, hqs, hql, hqn, rfl⟩
  have s914 := s913.trans s14
  have s514 := s59.trans s914
  have s214 := s25.trans s514
  -- the order of the keys
  refine ⟨fun σ H17 => Same H14 H17 ∧ ∃ (pq : Addr) (qs : Qs), H17 pq = some (.lst (refQ qs)) ∧ QsOk H17 qs ∧ qs.length ≤ 160 ∧ σ = [some (.ref sa), some (.ref rp), some (.int (k : Int)), some (.ref pa), some (.int (n : Int)), some (.ref ka), some (.ref fa), some (.ref da), some (.ref pq), y9, y10, y11, none, none, none, none, none, none, none, none, none, none, none, none], ?_, ?_⟩
  · refine ⟨.ref rp, rfl, rp, _, 7, _, rfl, rfl, hR s214, atI_nat (j := 7) g7, .inl ⟨_, rfl, _, _, rfl, rfl, (by show (0 : Int) < 2; decide), rfl, _, rfl, if2 (fun e => ?_) (fun e => ?_)⟩⟩
    · refine ⟨.ref pq, rfl, pq, _, rfl, SqL.of hq0, fun p2 np2 => ?_⟩
      refine ⟨same_new np2, p2, qs.reverse, ?_, fun w hw => (hqs.same (same_new np2)) w (List.mem_reverse.mp hw), by rw [List.length_reverse]; omega, rfl⟩
      rw [upd_same]
      unfold refQ
      rw [List.map_reverse]
    · exact ⟨Same.refl _, pq, qs, hq0, hqs, by omega, rfl⟩
  clear hq0 hqs hql hqn
  clear qs pq
  rintro σ H17 ⟨s17, pq, qs, hq0, hqs, hql, rfl⟩
  have s917 := s914.trans s17
  have s517 := s59.trans s917
  have hQn : ∀ {H : Hp}, Same H17 H → H pq = some (.lst (refQ qs)) := fun s => s _ _ hq0
  -- claimed, least
  refine ⟨_, rfl, pq, qs, rfl, SqL.of hq0, hqs, by omega, fun H18 ca s18 nca hca => ?_⟩
  have s918 := s917.trans s18
  refine ⟨_, rfl, _, rfl, pa, ka, pr, zs, rfl, hPr (s59.trans s918), hP, hKa s918, hLz.same s918, by omega, hsy0, by omega, fun H19 du s19 hL => ?_⟩
  have s919 := s918.trans s19
  have s1019 := (s1012.trans (s13.trans (s14.trans (s17.trans (s18.trans s19)))))
  have s219 := s25.trans (s59.trans s919)
  refine ⟨_, rfl, ?_⟩
  obtain ⟨q0, hqf0, hqf1⟩ := h00
  have hg0 : (refF fs)[0]? = some (.ref q0.1) := by
    unfold refF
    rw [List.getElem?_map, hqf0]
    rfl
  have hq0t : ∀ {H : Hp}, Same H10 H → H q0.1 = some (itup (nmap q0.2)) := fun s => s _ _ (hfs.1 q0 (List.mem_of_getElem? hqf0)).1
  have hI := tblK_int qs
  refine ⟨fun σ H20 => H20 = H19 ∧ ∃ fi : Int, σ = [some (.ref sa), some (.ref rp), some (.int (k : Int)), some (.ref pa), some (.int (n : Int)), some (.ref ka), some (.ref fa), some (.ref da), some (.ref pq), y9, y10, y11, some (.ref ca), some (.int du), some (.int fi), none, none, none, none, none, none, none, none, none], ?_, ?_⟩
  · refine ⟨_, rfl, fa, _, 0, _, rfl, rfl, hFa s1019, atI_nat (j := 0) hg0, _, rfl, ca, _, rfl, DGet.t (s19 _ _ hca) (tup_key (hq0t s1019)), _, rfl, ?_⟩
    rcases hI.val (fkey q0.2) with hn | ⟨v, hv⟩
    · rw [hn]
      exact iteF ⟨rfl, du, rfl⟩
    · rw [hv]
      refine iteT ⟨_, rfl, _, rfl, fa, _, 0, _, rfl, rfl, hFa s1019, atI_nat (j := 0) hg0, ca, .int v, rfl, ?_, rfl, v, rfl⟩
      have h1 := DGet.t (s19 _ _ hca) (tup_key (hq0t s1019))
      rw [hv] at h1
      exact h1
  rintro σ H20 ⟨rfl, fi, rfl⟩
  -- the claims
  refine ⟨_, rfl, _, rfl, _, _, rfl, rfl, _, rfl, .ref rp, rfl, rp, _, 8, _, rfl, rfl, hR s219, atI_nat (j := 8) g8, .inl ⟨_, rfl, _, _, rfl, rfl, (by show (0 : Int) < 5; decide), _, _, rfl, rfl, _, _, rfl, rfl, (by show 3 ≤ sizeLine; decide), fun o no => ?_⟩⟩
  have s21 := same_new (o := .lst ([fi, fi + 1, du + e8 % 5 - 2].map V.int)) no
  have ho : upd H20 o (.lst ([fi, fi + 1, du + e8 % 5 - 2].map V.int)) o = some (ilst [fi, fi + 1, du + e8 % 5 - 2]) := upd_same
  change upd H20 o (.lst [V.int fi, V.int (fi + 1), V.int (du + e8 % 5 - 2)]) o = _ at ho
  change Same H20 (upd H20 o (.lst [V.int fi, V.int (fi + 1), V.int (du + e8 % 5 - 2)])) at s21
  generalize upd H20 o (.lst [V.int fi, V.int (fi + 1), V.int (du + e8 % 5 - 2)]) = H21 at s21 ho ⊢
  generalize [fi, fi + 1, du + e8 % 5 - 2] = cls at ho
  refine ⟨o, rfl, ⟨_, SqL.of ho⟩, for_list (K := K) (a := o) (xs := cls.map V.int) (fun j σ H22 => Same H21 H22 ∧ ∃ y15 y16 y17 y18 y19 y20 : Option V, σ = [some (.ref sa), some (.ref rp), some (.int (k : Int)), some (.ref pa), some (.int (n : Int)), some (.ref ka), some (.ref fa), some (.ref da), some (.ref pq), y9, y10, y11, some (.ref ca), some (.int du), some (.int fi), y15, y16, y17, y18, y19, y20, none, none, none])
    ⟨Same.refl _, none, none, none, none, none, none, rfl⟩ (fun j σ H22 _ h => SqL.of (h.1 _ _ ho)) ?_ ?_⟩
  · rintro j x σ H22 hj ⟨s22, y15, y16, y17, y18, y19, y20, rfl⟩
    obtain ⟨cl, hcl2, rfl⟩ := map_get hj
    have sx := s21.trans s22
    have s922 := s919.trans sx
    have s1022 := s1019.trans sx
    have s1722 := (s18.trans s19).trans sx
    refine ⟨_, rfl, _, rfl, _, rfl, _, rfl, _, rfl, pa, ka, fa, ca, cl, pr, zs, fs, tblK qs, rfl, hPr (s59.trans s922), hP, hRow s922, hSy, s1022 _ _ hf, ⟨fun r hr => ⟨s1022 _ _ (hfs.1 r hr).1, (hfs.1 r hr).2⟩, hfs.2⟩, ⟨q0, hqf0, hqf1⟩, hrch, sx _ _ (s19 _ _ hca), hI, fun H23 b1 s23 hb1 => ?_⟩
    refine ⟨fun σ H24 => H24 = H23 ∧ σ = [some (.ref sa), some (.ref rp), some (.int (k : Int)), some (.ref pa), some (.int (n : Int)), some (.ref ka), some (.ref fa), some (.ref da), some (.ref pq), y9, y10, y11, some (.ref ca), some (.int du), some (.int fi), some (.int cl), some (.bl b1), y17, y18, y19, y20, none, none, none], ?_, ?_⟩
    · refine ⟨_, rfl, b1, rfl, ?_⟩
      cases b1 with
      | false => exact iteF ⟨rfl, rfl⟩
      | true =>
        have hle := (hb1.mp rfl).le hw0 hL
        exact iteT ⟨_, rfl, _, rfl, _, _, rfl, rfl, _, rfl, ifF (by omega) ⟨rfl, rfl⟩⟩
    rintro σ H24 ⟨rfl, rfl⟩
    have s924 := s922.trans s23
    have s524 := s59.trans s924
    -- costs
    refine ⟨.ref pa, rfl, pa, _, rfl, .inl (hPr s524), fun cs ncs => ?_⟩
    have s25' := same_new (o := .lst (pr.map V.int)) ncs
    have hcs : upd H24 cs (.lst (pr.map V.int)) cs = some (ilst pr) := upd_same
    generalize upd H24 cs (.lst (pr.map V.int)) = H25 at s25' hcs ⊢
    have s925 := s924.trans s25'
    -- handed
    refine ⟨.ref ka, rfl, ka, rfl, ⟨_, hKa s925⟩, fun D5 hD5 => lc_list (K := K) (a := ka) (xs := refL zs) (fun i H => Same H25 H ∧ ∃ hs : Ws, H D5 = some (.lst (refL hs)) ∧ (∀ w ∈ hs, w.1 ≠ D5 ∧ H w.1 = some (ilst w.2)) ∧ hs.map (·.2) = (zs.take i).map (·.2))
      ⟨same_new hD5, [], upd_same, fun w hw => (nomatch hw), rfl⟩ (fun i H _ h => hKa (s925.trans h.1)) ?_ ?_⟩
    · rintro i x H3 hi ⟨s3, hs, h3, hw3, em⟩
      obtain ⟨w, hw, hwm, rfl⟩ := refL_get hi
      have hilt := (List.getElem?_eq_some_iff.mp hw).1
      have hhl : hs.length ≤ i := by
        have e := congrArg List.length em
        rw [List.length_map, List.length_map, List.length_take] at e
        omega
      refine ⟨rfl, yes_then ?_⟩
      refine ⟨_, rfl, w.1, _, rfl, .inl (hLz.same (s925.trans s3) w hwm), fun l nl => ⟨_, same_new nl _ _ h3, small1000 (by unfold refL; rw [List.length_map]; omega), ?_⟩⟩
      have hlD : l ≠ D5 := (ne_of_none h3 nl).symm
      refine ⟨same_mut (s3.trans (same_new nl)) hD5, hs ++ [(l, w.2)], ?_, fun w' h => ?_, ?_⟩
      · rw [upd_same]
        unfold refL
        rw [List.map_append]
        rfl
      · rcases List.mem_append.mp h with h | h
        · refine ⟨(hw3 w' h).1, ?_⟩
          rw [upd_ne (hw3 w' h).1]
          exact same_new nl _ _ (hw3 w' h).2
        · rw [List.mem_singleton.mp h]
          refine ⟨hlD, ?_⟩
          show upd (upd H3 l _) D5 _ l = _
          rw [upd_ne hlD, upd_same]
      · rw [List.map_append, em, List.take_add_one, hw, List.map_append]
        rfl
    rintro H26 ⟨s26, hs, hh0, hhw, emh⟩
    have emh2 : hs.map (·.2) = zs.map (·.2) := by
      rw [emh, List.take_of_length_le (by unfold refL; rw [List.length_map]; exact Nat.le_refl _)]
    have hhn : hs.length = zs.length := by
      have e := congrArg List.length emh2
      rw [List.length_map, List.length_map] at e
      exact e
    have hhL : LL K H26 hs := fun w hw => SqL.of (hhw w hw).2
    have hRowH : ∀ {H : Hp}, Same H26 H → Rows K H D5 hs := fun s => ⟨SqL.of (s _ _ hh0), hhL.same s, by omega, fun w hw => by
      have h1 : w.2 ∈ zs.map (·.2) := by rw [← emh2]; exact List.mem_map_of_mem (f := fun z : Addr × List Int => z.2) hw
      obtain ⟨w2, hw2, e⟩ := List.mem_map.mp h1
      rw [← e]
      exact hzl5 w2 hw2⟩
    dsimp only
    have s2226 := s23.trans (s25'.trans s26)
    have s1726 := s1722.trans s2226
    -- table
    refine ⟨_, rfl, pq, qs, rfl, SqL.of (hQn s1726), hqs.same s1726, by omega, fun H27 ta s27 nta hta => ?_⟩
    -- told
    refine ⟨_, rfl, _, rfl, _, rfl, _, rfl, cs, D5, ta, cl, pr, hs, tblK qs, rfl, SqL.of (s27 _ _ (s26 _ _ hcs)), hP, hRowH s27, by rw [emh2]; exact hSy, by rw [emh2]; omega, hta, hI, fun H28 b2 s28 hb2 => ?_⟩
    rw [emh2] at hb2
    have s2628 := s27.trans s28
    have s928 := s925.trans (s26.trans s2628)
    have hdl := dL_eqv (zs.map (·.2))
    have hdi := dI_eqv pr
    have hdph : Dp K H28 (.ref D5) (dL (zs.map fun z : Addr × List Int => z.2)) := by
      rw [← emh2]
      exact dp_list (SqL.of (s2628 _ _ hh0)) (hhL.same s2628)
    have hdpk : Dp K H28 (.ref ka) (dL (zs.map fun z : Addr × List Int => z.2)) := dp_list (hKa s928) (hLz.same s928)
    have hdpc : Dp K H28 (.ref cs) (dI pr) := dp_row (SqL.of (s2628 _ _ (s26 _ _ hcs)))
    have hdpp : Dp K H28 (.ref pa) (dI pr) := dp_row (hPr (s59.trans s928))
    have hca28 : H28 ca = some (.dT (tblK qs)) := s2628 _ _ (s2226 _ _ (sx _ _ (s19 _ _ hca)))
    have hta28 : H28 ta = some (.dT (tblK qs)) := s28 _ _ hta
    refine ⟨_, rfl, _, rfl, _, _, hdpc, hdpp, dI_shaped _, dI_shaped _, _, rfl, ?_⟩
    rw [hdi]
    refine iteF ?_
    refine ⟨_, rfl, _, rfl, _, _, hdph, hdpk, dL_shaped _, dL_shaped _, _, rfl, ?_⟩
    rw [hdl]
    refine iteF ?_
    refine ⟨_, rfl, _, rfl, ta, ca, tblK qs, rfl, rfl, hta28, hca28, hI, _, rfl, iteF ?_⟩
    have hb : b1 = b2 := by
      have h1 := hb1.trans hb2.symm
      cases b1 <;> cases b2 <;> simp at h1 ⊢
    subst hb
    have sE : Same H21 H28 := s22.trans (s2226.trans s2628)
    refine ⟨_, rfl, b1, rfl, ?_⟩
    cases b1 with
    | true => exact iteT ⟨_, rfl, true, true, rfl, rfl, _, rfl, iteF ⟨_, rfl, true, rfl, iteF ⟨sE, _, _, _, _, _, _, rfl⟩⟩⟩
    | false => exact iteF (iteF ⟨_, rfl, false, rfl, iteT ⟨_, rfl, false, false, rfl, rfl, _, rfl, iteF ⟨sE, _, _, _, _, _, _, rfl⟩⟩⟩)
  · rintro σ H22 ⟨s22, y15, y16, y17, y18, y19, y20, rfl⟩
    exact q _
end
end K37

open PySem PySem.W PySem.Calls PyProof.Rows
theorem PySem.Challenge.cw_foreworth_k37_whole_heights_show_claims_holds : PySem.Challenge.rw_foreworth_k37_whole_heights_show_claims.Holds := by
  w_on; o_law
  refine HandSHeadRun.head_any (r := K37.R) (q := view K37.R.prog [26]) (H := K37.hk) (ob := K37.ob) (M := 4000) (loose := K37.loose) (d := HandSHeadRun.topDef K37.R.prog 26) (kwd := []) K37.ob_eq
    (by kernel_rfl) (fun s => by kernel_rfl) K37.run (by kernel_rfl) (by kernel_rfl) (by kernel_rfl) (by rfl) (by first | assumption | decide +kernel) (by decide +kernel) ⟨rfl, rfl, rfl, rfl, rfl, by decide +kernel⟩ ?hw ?hc
  case hw => w_witness2
  case hc =>
    refine Fw.walk_bits (l := PySem.Challenge.rw_foreworth_k37_whole_heights_show_claims) (n := 63) (k := 4) (x := "_law_script") rfl (by decide) (by kernel_rfl) ⟨rfl, by decide, by decide⟩ ?F
    intro w mg fa h Y G hmg0
    obtain ⟨K, KX, c⟩ := Y
    have hmg : mg ("law" : PySem.Str) = some (.ref fa) := by
      have e : (HandSHeadRun.topDef K37.R.prog 26).name = ("law" : PySem.Str) := by kernel_rfl
      rw [← e]
      exact hmg0
    have T := K37.txt_of KX G c
    have e := hmg.symm.trans T.g_law
    cases e
    obtain ⟨fd, F⟩ := T.f_law
    have b := L2.FunD.bindsA (ps := ["_law_script"]) F fun _ _ _ _ _ _ us hl => match us, hl with | [_], _ => rfl
    exact ⟨K, fd, K37.sp_law K, KX, fun s v => b s [v] rfl, fun H a ns hl _ hS => ⟨a, ns, rfl, hS, hl, fun _ => rfl⟩, fun base _ _ => K37.ok_law T F⟩
