import PyProof.Rows.All
import Wide.All
import OpenK.AllK
import Wide.FinOn
import HandS.ForMost
import HandS.Strs
import HandS.SetFor
import HandS.Defaults
import HandS.Exc
import HandS.IsInst
import HandS.Conv
import HandS.Wide
import HandS.SortRule
import HandS.SortInts
import HandS.Evl
import HandS.Walk
import HandS.Codes
import HandS.Head0
import HandS.Head1
import HandS.Head2
import HandS.HeadEnd
import HandS.HeadHook1
import HandS.HeadHook2
import HandS.EndBits
import PySem.Challenge.RW_foreworth_k62_whole_changes_of_worth
import HandS.SortKw
import KE.SortKeyHeap
import KE.DataMinMax
import KE.KDictDisplayH
import KE.KTupSum
import KE.SortData
import HandS.TupAny
import HandS.HeadNt
import HandS.Property
import HandS.MakeKw
import HandS.Text
import HandS.Deep
import HandS.TupLe
import HandS.SortOrd
set_option Elab.async false
set_option linter.all false
set_option maxRecDepth 100000
set_option maxHeartbeats 4000000
/-! set(xs) of a list of whole numbers, over the layer. -/
namespace Fw
open PySem PySem.Spec PyProof.Rows L2
section
variable {P : Program} {w : World} {A : Around} {E : Value → Shared → Prop} {s : Shared}
/-- the empty set as it is made -/
abbrev eSet (w : World) : Obj := { cls := .type "set", dict := none, data := .set #[] 0 (.fresh 0 0 (!w.params.followText "set-order")) }
theorem set_ints {l : Addr} {its : Array Value} (ns : List Int) {Q : Value → Shared → Prop} (hh : A.handled = none) (hl : s.heap.IsList l its) (hi : IntsAre its.toList ns) (hb : ns.length + 1 < scanBound)
    (h : ∀ (h2 : Heap) (tk c : Nat), SetR w h2 s.heap.objs.size (fun j => decide (j ∈ ns)) c → c ≤ ns.length → (∀ b o, s.heap.get? b = some o → h2.get? b = some o) → Q (.ref s.heap.objs.size) { s with heap := h2, toks := tk }) :
    wpAny (model P w) A (call (.type "set") [.ref l]) Q E s := by
  have hsz : its.size = ns.length := by
    have q := IntsAre.length hi
    rwa [Array.length_toList] at q
  obtain ⟨c, tl, hmro⟩ := F.called_set.mro
  have hmade := F.called_set.made
  have hsub := F.called_set.sub
  refine wpAny_call (codeAny_of_tree ?_)
  show wpAny _ _ (callAny (.type "set") _) _ _ _
  refine wpAny_pure ⟨Code.quiet_builtin _ (by decide +kernel), codeAny_builtin F.entry_type_call ?_⟩
  rw [Around.under_plain (weight_type_call_type "set" [.ref l] []) rfl]
  have h1 := F.called_set.notType
  have h2 := F.called_set.canCreate
  have hct := F.typeCall_set_1 (.ref l)
  repeat (any_goals (first | assumption | wp_step))
  refine codeAny_mono (code_set_led1 (.ref l) (E := E) (Q₁ := fun v t => v = .ref s.heap.objs.size ∧ t = { s with heap := s.heap.push (eSet w) }) ⟨rfl, rfl⟩) fun r t hr => ?_
  cases r with
  | error e => exact hr
  | ok fl =>
    cases fl with
    | ret v =>
      obtain ⟨rfl, rfl⟩ := hr
      have hS : (s.heap.push (eSet w)).get? s.heap.objs.size = some (eSet w) := Heap.get?_push_size _ rfl
      have hT : Shared.TypeIs { s with heap := s.heap.push (eSet w) } (.ref s.heap.objs.size) "set" := ⟨_, hS, rfl⟩
      have hli := F.called_set.init.lookup
      have hbi := F.called_set.init.bind (.ref s.heap.objs.size)
      repeat (any_goals (first | assumption | wp_step))
      refine codeAny_mono (codeAny_call_builtin (R := wants (fun r t => r = .none ∧ ∃ h2 tk c, t = { s with heap := h2, toks := tk } ∧ SetR w h2 s.heap.objs.size (fun j => decide (j ∈ ns)) c ∧ c ≤ ns.length ∧
          (∀ b o, s.heap.get? b = some o → h2.get? b = some o)) E) F.called_set.init.plain F.entry_set_init (check_set_init_1 hT ?_)) fun r t hr => ?_
      · obtain ⟨⟨oc, od, dt, sl⟩, e1, e2, n, e3⟩ := hl
        simp only at e2 e3
        subst e2; subst e3
        have f1 : (s.heap.push (eSet w)).get? l = some { cls := .type "list", dict := od, data := .seq its n, slots := sl } := Heap.get?_push_of_some _ e1
        have g1 := F.sub_list_set
        have g2 := F.sub_list_frozenset
        have g3 : (Value.type "list" == Value.type "dict") = false := by decide
        have lst : (s.heap.push (eSet w)).IsList l its := ⟨_, f1, rfl, n, rfl⟩
        unfold Builtin.«set.__init__» noKeywords Builtin.Frozenset.updateFrom
        generalize hPI : pyIter = PI
        wp_walk
        subst hPI
        refine wpAny_pyIter_list lst ?_
        refine wpAny_bind (wpAny_runValue ?_)
        have lt : l < s.heap.objs.size := Heap.lt_size e1
        have hh3 : A.in1.in1.in1.handled = none := by simp [hh]
        have sz1 : (s.heap.push (eSet w)).objs.size = s.heap.objs.size + 1 := Heap.size_push ..
        have ne1 : l ≠ (s.heap.push (eSet w)).objs.size := by
          rw [sz1]
          exact Nat.ne_of_lt (Nat.lt_succ_of_lt lt)
        have nin : s.heap.objs.size ∉ [(s.heap.push (eSet w)).objs.size, l] := by
          simp only [List.mem_cons, List.not_mem_nil, or_false, not_or]
          refine ⟨?_, Nat.ne_of_gt lt⟩
          rw [sz1]
          exact Nat.ne_of_lt (Nat.lt_succ_self _)
        have hval : ∀ (i : Nat) (v : Value), its[i]? = some v → ∃ k t, ns[i]? = some k ∧ v = .int k t := fun i v hv => by
          have lti : i < ns.length := by rw [← hsz]; exact (Array.getElem?_eq_some_iff.mp hv).1
          obtain ⟨t, e⟩ := PyProof.Rows.IntsAre.int_at hi i v (by rw [Array.getElem?_toList]; exact hv)
          refine ⟨ns[i], t, List.getElem?_eq_getElem lti, ?_⟩
          rw [e, List.getD_eq_getElem?_getD, List.getElem?_eq_getElem lti] <;> rfl
        refine set_update_ints ((Walks.list hh3 _ l ne1 its).toS) s.heap.objs.size nin ns hsz hb hval (its.size - 0) 0 _ (by omega) (Nat.zero_le _)
          ⟨⟨_, Heap.get?_push_size _ rfl, rfl, rfl⟩, (lst.push _)⟩ ?s0 ?sR
        case s0 => exact ⟨0, Nat.le_refl 0, setR_new_at (Heap.get?_push_of_some _ hS)⟩
        case sR =>
          intro t c2 mv le R2
          obtain ⟨h2, gs, dr, tk, os⟩ := t
          obtain rfl : gs = s.gens := mv.gens
          obtain rfl : dr = s.drawn := mv.drawn
          obtain rfl : os = s.os := mv.os
          show wpAny _ _ _ _ _ _
          refine wpAny_pure ?_
          show wpAny _ _ (ret Value.none) _ _ _
          refine wpAny_pure ⟨rfl, h2, tk, c2, rfl, R2, by rw [← hsz]; exact le, fun b o e => ?_⟩
          have b0 : b < s.heap.objs.size := Heap.lt_size e
          refine mv.heap b o ?_ (Heap.get?_push_of_some _ (Heap.get?_push_of_some _ e))
          simp only [List.mem_cons, List.not_mem_nil, or_false, not_or]
          refine ⟨Nat.ne_of_lt b0, ?_⟩
          rw [sz1]
          exact Nat.ne_of_lt (Nat.lt_succ_of_lt b0)
      · cases r with
        | error e => exact hr
        | ok f2 =>
          cases f2 with
          | ret r =>
            obtain ⟨rfl, h2, tk, c2, rfl, a, b, d⟩ := hr
            repeat (any_goals (first | assumption | wp_step))
            exact h _ _ _ a b d
          | _ => exact hr.elim
    | _ => exact hr.elim
end
/-- set(xs), xs a list of fewer than 4000 whole numbers -/
def rSetL (K : PySem.W.Frag) (w : World) : List V → Hp → VK → Prop := fun xs H Q => ∃ (l : Addr) (ns : List Int), xs = [V.ref l] ∧ SqL K H l (ns.map V.int) ∧ ns.length + 1 < scanBound ∧
  ∀ (a : Addr) (c : Nat), H a = none → c ≤ ns.length → Q (.ref a) (upd H a (SetO w a (fun j => decide (j ∈ ns)) c))
theorem cr_setL {X : Cx} (hc : X.calm = true) : CallR X (.type "set") (rSetL X.K X.w) := by
  intro pins s σ H xs us Q I r h
  obtain ⟨l, ns, rfl, hS, hb, q⟩ := h
  rw [Vals.ref1 r]
  obtain ⟨its, rv, pl, hz⟩ := I.list hS
  refine set_ints (P := X.prog) (w := X.w) ns (I.ok.hd hc) pl.isList (by simpa using ints_of_vals rv) hb fun h2 tk c R le k => ?_
  exact ⟨.ref s.heap.objs.size, upd H s.heap.objs.size (SetO X.w s.heap.objs.size (fun j => decide (j ∈ ns)) c), I.laid (t' := tk) k (Nat.le_refl _) (setO_new R), rfl, q _ c (I.hok.fresh (Nat.le_refl _)) le⟩
end Fw

/-! Short words over the layer: a def's promise together with its binding. -/
namespace Fw
open PySem PySem.Spec PyProof.Rows L2
/-- the def at f keeps sp; dvs: its defaults' values -/
structure Good (P : Program) (w : World) (K : PySem.W.Frag) (mg : Str → Option Value) (base : Heap) (k : Nat) (f : Addr) (ps : List Str) (dvs : List V) (sp : Sp) : Prop where
  ex : ∃ fd ds, FnOk P w K mg base CX0 k f fd ps sp ∧ Binds K fd ps ds ∧ Vals dvs ds
  kp : PySem.W.keepIn K (.ref f) = true
section
variable {P : Program} {w : World} {K : PySem.W.Frag} {mg : Str → Option Value} {base : Heap} {k : Nat} {f : Addr} {N ps : List Str} {sp : Sp} {x q : Str} {pa : Arguments} {bd : List Stmt} {sc : Scope}
theorem good_of (hF : ∃ fd, FunD K x q pa bd sc [] [] f fd) (S : FnScope N ps sc) (len : ∀ vs H Q E, sp vs H Q E → vs.length = ps.length)
    (hb : ∀ (kV doc pm : Value) (an : Option Addr) (cdv ct : Value) (us : List Value), us.length = ps.length → bindArgs (PySem.W.fnOf x q pa bd sc .none kV doc pm an cdv ct) ⟨us, []⟩ = pure (ps.zip us))
    (hbody : ∀ (cdv : Value) (A : Around) (outer : List Env) (s : Shared) (H : Hp) (vs : List V) (Q : VK) (E : XK), Room k (A.deeper (envOfC q sc s.heap.objs.size f cdv)) → sp vs H Q E →
      ∃ t, PSs (cxOf CX0 P w K mg base N q sc f cdv A outer s H E).nox bd t ∧ t { nx := fun _ H2 => Q .non H2, rt := Q } (start N vs) H) : Good P w K mg base (k + 1) f ps [] sp := by
  obtain ⟨fd, F⟩ := hF
  refine ⟨⟨fd, [], F.ok S len fun cdv A outer s H vs Q E hr h => ?_, F.bindsN hb, .nil⟩, F.kp⟩
  obtain ⟨t, h1, h2⟩ := hbody cdv A outer s H vs Q E hr h
  exact ⟨t, h1.nox, h2⟩
/-- the same with keyword-only defaults -/
theorem good_kw {kws : List (Str × V)} {n : Nat} (hF : ∃ fd, FunD K x q pa bd sc [] kws f fd) (S : FnScope N ps sc) (len : ∀ vs H Q E, sp vs H Q E → vs.length = ps.length) (hk : kws ≠ []) (hn : n + kws.length = ps.length)
    (hb : ∀ (D : Addr) (doc pm : Value) (an : Option Addr) (cdv ct : Value) (us ks : List Value), us.length = n → ks.length = kws.length →
      KwChain D ((kws.map (·.1)).zip ks) (bindArgs (PySem.W.fnOf x q pa bd sc .none (.ref D) doc pm an cdv ct) ⟨us, []⟩) (ps.zip (us ++ ks)))
    (hbody : ∀ (cdv : Value) (A : Around) (outer : List Env) (s : Shared) (H : Hp) (vs : List V) (Q : VK) (E : XK), Room k (A.deeper (envOfC q sc s.heap.objs.size f cdv)) → sp vs H Q E →
      ∃ t, PSs (cxOf CX0 P w K mg base N q sc f cdv A outer s H E).nox bd t ∧ t { nx := fun _ H2 => Q .non H2, rt := Q } (start N vs) H) : Good P w K mg base (k + 1) f ps (kws.map (·.2)) sp := by
  obtain ⟨fd, F⟩ := hF
  obtain ⟨ds, hd, hB⟩ := F.binds0 n hk hn hb
  refine ⟨⟨fd, ds, F.ok S len fun cdv A outer s H vs Q E hr h => ?_, hB, hd⟩, F.kp⟩
  obtain ⟨t, h1, h2⟩ := hbody cdv A outer s H vs Q E hr h
  exact ⟨t, h1.nox, h2⟩
end
section
variable {X : Cx} {k : Nat} {f C : Addr} {ps : List Str} {dvs : List V} {sp : Sp} {x m : Str} {p pos apos : Pos} {e o : Expr} {es : List Expr} {t : TA} {ta : TE}
theorem pe_cg (G : Good X.prog X.w X.K X.mg X.base k f ps dvs sp) (hr : Room k X.A) (hg : Gl X x) (hm : X.mg x = some (.ref f)) (ha : PA X (e :: es) t) (hdb : (x == ("__debug__" : Str)) = false := by decide)
    (he : starEach (e :: es) X.env = (false, eval e X.env) :: starEach es X.env := by rfl) (hpl : (backTo pos (starEach es X.env)).any (·.1) = false := by rfl) : PE X (.Call (.Name x p) (e :: es) [] pos) (tCall sp dvs E0 t) := by
  obtain ⟨fd, ds, F, b, d⟩ := G.ex
  exact pe_call F hr hg hm G.kp b d pass0 ha hdb he hpl
theorem pe_mkg (M : Mk X.K C f) (G : Good X.prog X.w X.K X.mg X.base k f ps dvs sp) (hr : Room (k + 1) X.A) (hg : Gl X x) (hm : X.mg x = some (.ref C)) (ha : PA X (e :: es) t) (hdb : (x == ("__debug__" : Str)) = false := by decide)
    (he : starEach (e :: es) X.env = (false, eval e X.env) :: starEach es X.env := by rfl) (hpl : (backTo pos (starEach es X.env)).any (·.1) = false := by rfl) : PE X (.Call (.Name x p) (e :: es) [] pos) (tMake C sp dvs E0 t) := by
  obtain ⟨fd, ds, F, b, d⟩ := G.ex
  exact pe_make M F hr hg hm b d pass0 ha hdb he hpl
theorem pe_mtg0 {pl : Sem Bool} (ho : PE X o ta) (c : Cls X.K C) (hm : Meth X.K C m f) (G : Good X.prog X.w X.K X.mg X.base k f ps dvs sp) (hr : Room k X.A)
    (ht : eval (.Call (.Attribute o m apos) [] [] pos) X.env = (do
      let ov ← eval o X.env
      standAt apos.atName
      let (g, first) ← holding [ov] (getMethod ov m pl)
      callWith pos g first (backTo pos (starEach [] X.env)) (backToKw pos (keywordEach [] X.env))) := by rfl) : PE X (.Call (.Attribute o m apos) [] [] pos) (tMeth C m sp dvs E0 ta tNil) := by
  obtain ⟨fd, ds, F, b, d⟩ := G.ex
  exact pe_meth0 ho c hm F hr b d pass0 ht
theorem pe_mtg {pl : Sem Bool} (ho : PE X o ta) (c : Cls X.K C) (hm : Meth X.K C m f) (G : Good X.prog X.w X.K X.mg X.base k f ps dvs sp) (hr : Room k X.A) (ha : PA X (e :: es) t)
    (hst : starEach (e :: es) X.env = (false, eval e X.env) :: starEach es X.env := by rfl) (hpl : (backTo pos (starEach es X.env)).any (·.1) = false := by rfl)
    (ht : eval (.Call (.Attribute o m apos) (e :: es) [] pos) X.env = (do
      let ov ← eval o X.env
      standAt apos.atName
      let (g, first) ← holding [ov] (getMethod ov m pl)
      callWith pos g first (backTo pos (starEach (e :: es) X.env)) (backToKw pos (keywordEach [] X.env))) := by rfl) : PE X (.Call (.Attribute o m apos) (e :: es) [] pos) (tMeth C m sp dvs E0 ta t) := by
  obtain ⟨fd, ds, F, b, d⟩ := G.ex
  exact pe_meth ho c hm F hr b d pass0 ha hst hpl ht
end
/-! ### rules with the written part named (within comprehensions) -/
section
variable {X : Cx} {K : PySem.W.Frag}
theorem ix_listE (h : X.K = K) : IxR X (rIxL K) := by subst h; exact ix_list
theorem ix_tupE (h : X.K = K) : IxR X (rIxT K) := by subst h; exact ix_tup
abbrev rLenQ (K : PySem.W.Frag) : List V → Hp → VK → Prop := fun xs H Q => ∃ p ys, xs = [.ref p] ∧ (SqL K H p ys ∨ SqT K H p ys) ∧ Q (.int ys.length) H
theorem call_lenE (h : X.K = K) : CallR X (.builtin "len") (rLenQ K) := by subst h; exact call_len_seq
theorem pe_fldE {e : Expr} {ta : TE} {f : Str} {pos : Pos} (h : X.K = K) (he : PE X e ta) (hb : attributeBase e f X.env (eval e X.env) = eval e X.env) : PE X (.Attribute e f pos) (tFld K ta f) := by
  subst h
  exact pe_fld he hb
theorem pi_listE {tg l : Expr} {tl : TE} (h : X.K = K) (hl : PI X tg l (iList X.K tl)) : PI X tg l (iList K tl) := by
  subst h
  exact hl
end
/-! ### tests whose outcome is known -/
theorem ifF {c A B : Prop} [Decidable c] (h : ¬ c) (b : B) : if decide c = true then A else B := by
  rw [decide_eq_false h]
  exact iteF b
theorem ifT {c A B : Prop} [Decidable c] (h : c) (a : A) : if decide c = true then A else B := by
  rw [decide_eq_true h]
  exact iteT a
theorem ifNF {c A B : Prop} [Decidable c] (h : c) (b : B) : if (!decide c) = true then A else B := by
  rw [decide_eq_true h]
  exact iteF b
theorem ifNT {c A B : Prop} [Decidable c] (h : ¬ c) (a : A) : if (!decide c) = true then A else B := by
  rw [decide_eq_false h]
  exact iteT a
theorem if2 {c A B : Prop} [Decidable c] (h1 : c → A) (h2 : ¬ c → B) : if decide c = true then A else B := by
  by_cases h : c
  · exact ifT h (h1 h)
  · exact ifF h (h2 h)
theorem tnil_go {σ : L2.St} {H : Hp} {R : List V → Hp → Prop} (h : R [] H) : tNil σ H R := h
theorem int_ne {i j : Int} (h : i ≠ j) : ¬ V.int i = V.int j := fun e => h (V.int.inj e)
theorem map_get {ns : List Int} {i : Nat} {x : V} (h : (ns.map V.int)[i]? = some x) : ∃ n, ns[i]? = some n ∧ x = .int n := by
  rw [List.getElem?_map] at h
  cases e : ns[i]? with
  | none =>
    rw [e] at h
    cases h
  | some n =>
    rw [e] at h
    exact ⟨n, rfl, (Option.some.inj h).symm⟩
theorem get_map {ns : List Int} {i : Nat} {n : Int} (h : ns[i]? = some n) : (ns.map V.int)[i]? = some (.int n) := by
  rw [List.getElem?_map, h]
  rfl
/-! ### heaps -/
theorem same_new {H : Hp} {p : Addr} {o : HO} (h : H p = none) : Same H (upd H p o) := fun b u e => by
  rw [upd_ne (ne_of_none e h)]
  exact e
theorem same_mut {H H2 : Hp} {p : Addr} {o : HO} (s : Same H H2) (h : H p = none) : Same H (upd H2 p o) := fun b u e => by
  rw [upd_ne (ne_of_none e h)]
  exact s b u e
theorem same_t {K : PySem.W.Frag} {H H2 : Hp} {a : Addr} {xs : List V} (s : Same H H2) (h : SqT K H a xs) : SqT K H2 a xs := by
  rcases h with (h | ⟨o, h⟩) | h
  · exact .inl (.inl (s _ _ h))
  · exact .inl (.inr ⟨o, s _ _ h⟩)
  · exact .inr h
/-! ### the end: a law over a head by facts, the script's bits told -/
theorem walk_bits {l : PySem.W.OpenLaw} {n k : Nat} {q : Program} {loose : List Str} {XP : (Str → Option Value) → Heap → Prop} {YP : World → Heap → Prop} {d : DefRec} {x : Str}
    (hn : l.most = some n) (hn2 : n ≤ sizeLine) (hdf : d.params.defaults = []) (hr : Room k callerA)
    (F : ∀ (w : World) (mg : Str → Option Value) (fa : Addr) (h : Heap), YP w h → h.Ns mainGlobals mg → mg d.name = some (.ref fa) →
      ∃ (K : PySem.W.Frag) (fd : FuncData) (sp : Sp), K.In h ∧ (∀ (s : Shared) (u : Value), BindsTo s fd ⟨[u], []⟩ [(x, u)]) ∧
        (∀ (H : Hp) (a : Addr) (ns : List Int), ns.length ≤ n → (∀ z ∈ ns, Builtin.Int.intBits z ≤ 1048576) → SqL K H a (ns.map V.int) → sp [.ref a] H (fun v _ => v = .bl true) fun _ _ _ => False) ∧
        ∀ base : Heap, K.In base → base.Ns mainGlobals mg → FnOk l.prog w K mg base CX0 k fa fd [x] sp) :
    PySem.W.WalkO q loose XP YP l.row.toRowW d [] (fun f vs => PySem.call f vs) := by
  refine Att.attach_callB hn hdf fun w s0 s1 mg mb fa o pm cd doc a vs ns G Y ho hd hcd hmg hobj hints hlen hbits hg => ?_
  obtain ⟨K, fd, sp, KX, hb, hsp, hF⟩ := F w mg fa _ Y G.T.g hmg
  exact law_call KX G.T.g G.T.b G.T.builtins G.T.nolimit hg hobj hints (Nat.le_trans hlen hn2) hr hF hb (fun H _ hS => hsp H a ns hlen hbits hS) fun _ _ _ z => z
end Fw

namespace K62
open PySem PySem.Spec PyProof.Rows L2 Fw
def top (i : Nat) : Stmt := PySem.Challenge.pw_foreworth_k62_whole_changes_of_worth.main.body.getD i (.Pass ⟨0, 0, 0, 0⟩)
abbrev s_is_name : Stmt := top 8
abbrev s_distinct : Stmt := top 9
abbrev s_Graph_init : Stmt := inClass (top 12) 0
abbrev s_Graph_rows : Stmt := inClass (top 12) 1
abbrev s_Graph_word : Stmt := inClass (top 12) 2
abbrev s_Graph_price : Stmt := inClass (top 12) 3
abbrev s_Graph_successors : Stmt := inClass (top 12) 4
abbrev s_check_rows : Stmt := top 13
abbrev s_is_good_row : Stmt := top 14
abbrev s_check_reached : Stmt := top 15
abbrev s_check_ends : Stmt := top 16
abbrev s_nexts_of : Stmt := top 17
abbrev s_backs_of : Stmt := top 18
abbrev s_spread : Stmt := top 19
abbrev s_components : Stmt := top 21
abbrev s_parts_of : Stmt := top 22
abbrev s_leaving : Stmt := top 23
abbrev s_entering : Stmt := top 24
abbrev s_class_numbers : Stmt := top 25
abbrev s_left_order : Stmt := top 26
abbrev s_component_of : Stmt := top 27
abbrev s_kinds : Stmt := top 28
abbrev s_kind_of : Stmt := top 29
abbrev s_internal : Stmt := top 30
abbrev s_Ring_init : Stmt := inClass (top 32) 0
abbrev s_Ring_whole : Stmt := inClass (top 32) 1
abbrev s_Ring_far : Stmt := inClass (top 32) 2
abbrev s_Ring_greatest_gap : Stmt := inClass (top 32) 4
abbrev s_Ring_cost : Stmt := inClass (top 32) 5
abbrev s_Ring_chosen : Stmt := inClass (top 32) 8
abbrev s_Ring_gap : Stmt := inClass (top 32) 9
abbrev s_check_ring : Stmt := top 33
abbrev s_sums_of : Stmt := top 34
abbrev s_rings : Stmt := top 35
abbrev s_ring_table : Stmt := top 36
abbrev s_made_ring : Stmt := top 37
abbrev s_entered_nodes : Stmt := top 38
abbrev s_worth : Stmt := top 40
abbrev s_with_price : Stmt := top 42
abbrev s_with_successor : Stmt := top 43
abbrev s_with_row : Stmt := top 44
abbrev s_l_cell : Stmt := top 46
abbrev s_l_digits : Stmt := top 47
abbrev s_l_seed : Stmt := top 48
abbrev s_l_word : Stmt := top 49
abbrev s_l_price : Stmt := top 50
abbrev s_l_open : Stmt := top 51
abbrev s_l_block : Stmt := top 52
abbrev s_l_exit : Stmt := top 53
abbrev s_l_tame : Stmt := top 54
abbrev s_l_numbered : Stmt := top 55
abbrev s_l_any : Stmt := top 56
abbrev s_l_reach : Stmt := top 57
abbrev s_l_parts : Stmt := top 58
abbrev s_l_inner : Stmt := top 59
abbrev s_l_kind : Stmt := top 60
abbrev s_l_around : Stmt := top 61
abbrev s_l_doors : Stmt := top 62
abbrev s_l_far : Stmt := top 63
abbrev s_l_gap : Stmt := top 64
abbrev s_l_cost : Stmt := top 65
abbrev s_l_is_int : Stmt := top 66
abbrev s_l_value : Stmt := top 67
abbrev s_l_is_worth : Stmt := top 68
abbrev s_l_dearer : Stmt := top 69
abbrev s_l_wider : Stmt := top 70
abbrev s_l_free : Stmt := top 71
abbrev s_l_later : Stmt := top 72
abbrev s_l_rises : Stmt := top 73
abbrev s_l_not_lower : Stmt := top 74
abbrev s_law : Stmt := top 75
def d_is_name : He.DefD := ⟨("is_name", none), "is_name", "is_name", defArgs s_is_name, defBody s_is_name, defScope s_is_name, [], []⟩
def d_distinct : He.DefD := ⟨("distinct", none), "distinct", "distinct", defArgs s_distinct, defBody s_distinct, defScope s_distinct, [], []⟩
def d_Graph_init : He.DefD := ⟨("Graph", some "__init__"), "__init__", "Graph.__init__", defArgs s_Graph_init, defBody s_Graph_init, defScope s_Graph_init, [], []⟩
def d_Graph_rows : He.DefD := ⟨("Graph", some "rows"), "rows", "Graph.rows", defArgs s_Graph_rows, defBody s_Graph_rows, defScope s_Graph_rows, [], []⟩
def d_Graph_word : He.DefD := ⟨("Graph", some "word"), "word", "Graph.word", defArgs s_Graph_word, defBody s_Graph_word, defScope s_Graph_word, [], []⟩
def d_Graph_price : He.DefD := ⟨("Graph", some "price"), "price", "Graph.price", defArgs s_Graph_price, defBody s_Graph_price, defScope s_Graph_price, [], []⟩
def d_Graph_successors : He.DefD := ⟨("Graph", some "successors"), "successors", "Graph.successors", defArgs s_Graph_successors, defBody s_Graph_successors, defScope s_Graph_successors, [], []⟩
def d_check_rows : He.DefD := ⟨("check_rows", none), "check_rows", "check_rows", defArgs s_check_rows, defBody s_check_rows, defScope s_check_rows, [], []⟩
def d_is_good_row : He.DefD := ⟨("is_good_row", none), "is_good_row", "is_good_row", defArgs s_is_good_row, defBody s_is_good_row, defScope s_is_good_row, [], []⟩
def d_check_reached : He.DefD := ⟨("check_reached", none), "check_reached", "check_reached", defArgs s_check_reached, defBody s_check_reached, defScope s_check_reached, [], []⟩
def d_check_ends : He.DefD := ⟨("check_ends", none), "check_ends", "check_ends", defArgs s_check_ends, defBody s_check_ends, defScope s_check_ends, [], []⟩
def d_nexts_of : He.DefD := ⟨("nexts_of", none), "nexts_of", "nexts_of", defArgs s_nexts_of, defBody s_nexts_of, defScope s_nexts_of, [], []⟩
def d_backs_of : He.DefD := ⟨("backs_of", none), "backs_of", "backs_of", defArgs s_backs_of, defBody s_backs_of, defScope s_backs_of, [], []⟩
def d_spread : He.DefD := ⟨("spread", none), "spread", "spread", defArgs s_spread, defBody s_spread, defScope s_spread, [], []⟩
def d_components : He.DefD := ⟨("components", none), "components", "components", defArgs s_components, defBody s_components, defScope s_components, [], []⟩
def d_parts_of : He.DefD := ⟨("parts_of", none), "parts_of", "parts_of", defArgs s_parts_of, defBody s_parts_of, defScope s_parts_of, [], []⟩
def d_leaving : He.DefD := ⟨("leaving", none), "leaving", "leaving", defArgs s_leaving, defBody s_leaving, defScope s_leaving, [], []⟩
def d_entering : He.DefD := ⟨("entering", none), "entering", "entering", defArgs s_entering, defBody s_entering, defScope s_entering, [], []⟩
def d_class_numbers : He.DefD := ⟨("class_numbers", none), "class_numbers", "class_numbers", defArgs s_class_numbers, defBody s_class_numbers, defScope s_class_numbers, [], []⟩
def d_left_order : He.DefD := ⟨("left_order", none), "left_order", "left_order", defArgs s_left_order, defBody s_left_order, defScope s_left_order, [], []⟩
def d_component_of : He.DefD := ⟨("component_of", none), "component_of", "component_of", defArgs s_component_of, defBody s_component_of, defScope s_component_of, [], []⟩
def d_kinds : He.DefD := ⟨("kinds", none), "kinds", "kinds", defArgs s_kinds, defBody s_kinds, defScope s_kinds, [], []⟩
def d_kind_of : He.DefD := ⟨("kind_of", none), "kind_of", "kind_of", defArgs s_kind_of, defBody s_kind_of, defScope s_kind_of, [], []⟩
def d_internal : He.DefD := ⟨("internal", none), "internal", "internal", defArgs s_internal, defBody s_internal, defScope s_internal, [], []⟩
def d_Ring_init : He.DefD := ⟨("Ring", some "__init__"), "__init__", "Ring.__init__", defArgs s_Ring_init, defBody s_Ring_init, defScope s_Ring_init, [], [("nodes", .non)]⟩
def d_Ring_whole : He.DefD := ⟨("Ring", some "whole"), "whole", "Ring.whole", defArgs s_Ring_whole, defBody s_Ring_whole, defScope s_Ring_whole, [], []⟩
def d_Ring_far : He.DefD := ⟨("Ring", some "far"), "far", "Ring.far", defArgs s_Ring_far, defBody s_Ring_far, defScope s_Ring_far, [], []⟩
def d_Ring_greatest_gap : He.DefD := ⟨("Ring", some "greatest_gap"), "greatest_gap", "Ring.greatest_gap", defArgs s_Ring_greatest_gap, defBody s_Ring_greatest_gap, defScope s_Ring_greatest_gap, [], [("doors", .non)]⟩
def d_Ring_cost : He.DefD := ⟨("Ring", some "cost"), "cost", "Ring.cost", defArgs s_Ring_cost, defBody s_Ring_cost, defScope s_Ring_cost, [], [("doors", .non)]⟩
def d_Ring_chosen : He.DefD := ⟨("Ring", some "_chosen"), "_chosen", "Ring._chosen", defArgs s_Ring_chosen, defBody s_Ring_chosen, defScope s_Ring_chosen, [], []⟩
def d_Ring_gap : He.DefD := ⟨("Ring", some "_gap"), "_gap", "Ring._gap", defArgs s_Ring_gap, defBody s_Ring_gap, defScope s_Ring_gap, [], []⟩
def d_check_ring : He.DefD := ⟨("check_ring", none), "check_ring", "check_ring", defArgs s_check_ring, defBody s_check_ring, defScope s_check_ring, [], []⟩
def d_sums_of : He.DefD := ⟨("sums_of", none), "sums_of", "sums_of", defArgs s_sums_of, defBody s_sums_of, defScope s_sums_of, [], []⟩
def d_rings : He.DefD := ⟨("rings", none), "rings", "rings", defArgs s_rings, defBody s_rings, defScope s_rings, [], []⟩
def d_ring_table : He.DefD := ⟨("ring_table", none), "ring_table", "ring_table", defArgs s_ring_table, defBody s_ring_table, defScope s_ring_table, [], []⟩
def d_made_ring : He.DefD := ⟨("made_ring", none), "made_ring", "made_ring", defArgs s_made_ring, defBody s_made_ring, defScope s_made_ring, [], []⟩
def d_entered_nodes : He.DefD := ⟨("entered_nodes", none), "entered_nodes", "entered_nodes", defArgs s_entered_nodes, defBody s_entered_nodes, defScope s_entered_nodes, [], []⟩
def d_worth : He.DefD := ⟨("worth", none), "worth", "worth", defArgs s_worth, defBody s_worth, defScope s_worth, [], []⟩
def d_with_price : He.DefD := ⟨("with_price", none), "with_price", "with_price", defArgs s_with_price, defBody s_with_price, defScope s_with_price, [], []⟩
def d_with_successor : He.DefD := ⟨("with_successor", none), "with_successor", "with_successor", defArgs s_with_successor, defBody s_with_successor, defScope s_with_successor, [], []⟩
def d_with_row : He.DefD := ⟨("with_row", none), "with_row", "with_row", defArgs s_with_row, defBody s_with_row, defScope s_with_row, [], []⟩
def d_l_cell : He.DefD := ⟨("_law_cell", none), "_law_cell", "_law_cell", defArgs s_l_cell, defBody s_l_cell, defScope s_l_cell, [], []⟩
def d_l_digits : He.DefD := ⟨("_law_digits", none), "_law_digits", "_law_digits", defArgs s_l_digits, defBody s_l_digits, defScope s_l_digits, [], []⟩
def d_l_seed : He.DefD := ⟨("_law_seed", none), "_law_seed", "_law_seed", defArgs s_l_seed, defBody s_l_seed, defScope s_l_seed, [], []⟩
def d_l_word : He.DefD := ⟨("_law_word", none), "_law_word", "_law_word", defArgs s_l_word, defBody s_l_word, defScope s_l_word, [], []⟩
def d_l_price : He.DefD := ⟨("_law_price", none), "_law_price", "_law_price", defArgs s_l_price, defBody s_l_price, defScope s_l_price, [], []⟩
def d_l_open : He.DefD := ⟨("_law_open", none), "_law_open", "_law_open", defArgs s_l_open, defBody s_l_open, defScope s_l_open, [], []⟩
def d_l_block : He.DefD := ⟨("_law_block", none), "_law_block", "_law_block", defArgs s_l_block, defBody s_l_block, defScope s_l_block, [], []⟩
def d_l_exit : He.DefD := ⟨("_law_exit", none), "_law_exit", "_law_exit", defArgs s_l_exit, defBody s_l_exit, defScope s_l_exit, [], []⟩
def d_l_tame : He.DefD := ⟨("_law_tame", none), "_law_tame", "_law_tame", defArgs s_l_tame, defBody s_l_tame, defScope s_l_tame, [], []⟩
def d_l_numbered : He.DefD := ⟨("_law_numbered", none), "_law_numbered", "_law_numbered", defArgs s_l_numbered, defBody s_l_numbered, defScope s_l_numbered, [], []⟩
def d_l_any : He.DefD := ⟨("_law_any", none), "_law_any", "_law_any", defArgs s_l_any, defBody s_l_any, defScope s_l_any, [], []⟩
def d_l_reach : He.DefD := ⟨("_law_reach", none), "_law_reach", "_law_reach", defArgs s_l_reach, defBody s_l_reach, defScope s_l_reach, [], []⟩
def d_l_parts : He.DefD := ⟨("_law_parts", none), "_law_parts", "_law_parts", defArgs s_l_parts, defBody s_l_parts, defScope s_l_parts, [], []⟩
def d_l_inner : He.DefD := ⟨("_law_inner", none), "_law_inner", "_law_inner", defArgs s_l_inner, defBody s_l_inner, defScope s_l_inner, [], []⟩
def d_l_kind : He.DefD := ⟨("_law_kind", none), "_law_kind", "_law_kind", defArgs s_l_kind, defBody s_l_kind, defScope s_l_kind, [], []⟩
def d_l_around : He.DefD := ⟨("_law_around", none), "_law_around", "_law_around", defArgs s_l_around, defBody s_l_around, defScope s_l_around, [], []⟩
def d_l_doors : He.DefD := ⟨("_law_doors", none), "_law_doors", "_law_doors", defArgs s_l_doors, defBody s_l_doors, defScope s_l_doors, [], []⟩
def d_l_far : He.DefD := ⟨("_law_far", none), "_law_far", "_law_far", defArgs s_l_far, defBody s_l_far, defScope s_l_far, [], []⟩
def d_l_gap : He.DefD := ⟨("_law_gap", none), "_law_gap", "_law_gap", defArgs s_l_gap, defBody s_l_gap, defScope s_l_gap, [], []⟩
def d_l_cost : He.DefD := ⟨("_law_cost", none), "_law_cost", "_law_cost", defArgs s_l_cost, defBody s_l_cost, defScope s_l_cost, [], []⟩
def d_l_is_int : He.DefD := ⟨("_law_is_int", none), "_law_is_int", "_law_is_int", defArgs s_l_is_int, defBody s_l_is_int, defScope s_l_is_int, [], []⟩
def d_l_value : He.DefD := ⟨("_law_value", none), "_law_value", "_law_value", defArgs s_l_value, defBody s_l_value, defScope s_l_value, [], []⟩
def d_l_is_worth : He.DefD := ⟨("_law_is_worth", none), "_law_is_worth", "_law_is_worth", defArgs s_l_is_worth, defBody s_l_is_worth, defScope s_l_is_worth, [], []⟩
def d_l_dearer : He.DefD := ⟨("_law_dearer", none), "_law_dearer", "_law_dearer", defArgs s_l_dearer, defBody s_l_dearer, defScope s_l_dearer, [], []⟩
def d_l_wider : He.DefD := ⟨("_law_wider", none), "_law_wider", "_law_wider", defArgs s_l_wider, defBody s_l_wider, defScope s_l_wider, [], []⟩
def d_l_free : He.DefD := ⟨("_law_free", none), "_law_free", "_law_free", defArgs s_l_free, defBody s_l_free, defScope s_l_free, [], []⟩
def d_l_later : He.DefD := ⟨("_law_later", none), "_law_later", "_law_later", defArgs s_l_later, defBody s_l_later, defScope s_l_later, [], []⟩
def d_l_rises : He.DefD := ⟨("_law_rises", none), "_law_rises", "_law_rises", defArgs s_l_rises, defBody s_l_rises, defScope s_l_rises, [], []⟩
def d_l_not_lower : He.DefD := ⟨("_law_not_lower", none), "_law_not_lower", "_law_not_lower", defArgs s_l_not_lower, defBody s_l_not_lower, defScope s_l_not_lower, [], []⟩
def d_law : He.DefD := ⟨("law", none), "law", "law", defArgs s_law, defBody s_law, defScope s_law, [], []⟩
def fn : List He.DefD := [d_is_name, d_distinct, d_Graph_init, d_Graph_rows, d_Graph_word, d_Graph_price, d_Graph_successors, d_check_rows, d_is_good_row, d_check_reached, d_check_ends, d_nexts_of, d_backs_of, d_spread, d_components, d_parts_of, d_leaving, d_entering, d_class_numbers, d_left_order, d_component_of, d_kinds, d_kind_of, d_internal, d_Ring_init, d_Ring_whole, d_Ring_far, d_Ring_greatest_gap, d_Ring_cost, d_Ring_chosen, d_Ring_gap, d_check_ring, d_sums_of, d_rings, d_ring_table, d_made_ring, d_entered_nodes, d_worth, d_with_price, d_with_successor, d_with_row, d_l_cell, d_l_digits, d_l_seed, d_l_word, d_l_price, d_l_open, d_l_block, d_l_exit, d_l_tame, d_l_numbered, d_l_any, d_l_reach, d_l_parts, d_l_inner, d_l_kind, d_l_around, d_l_doors, d_l_far, d_l_gap, d_l_cost, d_l_is_int, d_l_value, d_l_is_worth, d_l_dearer, d_l_wider, d_l_free, d_l_later, d_l_rises, d_l_not_lower, d_law]
def fa : List He.Fa := [.glo "is_name", .glo "distinct", .glo "check_rows", .glo "is_good_row", .glo "check_reached", .glo "check_ends", .glo "nexts_of", .glo "backs_of", .glo "spread", .glo "components", .glo "parts_of", .glo "leaving", .glo "entering", .glo "class_numbers", .glo "left_order", .glo "component_of", .glo "kinds", .glo "kind_of", .glo "internal", .glo "check_ring", .glo "sums_of", .glo "rings", .glo "ring_table", .glo "made_ring", .glo "entered_nodes", .glo "worth", .glo "with_price", .glo "with_successor", .glo "with_row", .glo "_law_cell", .glo "_law_digits", .glo "_law_seed", .glo "_law_word", .glo "_law_price", .glo "_law_open", .glo "_law_block", .glo "_law_exit", .glo "_law_tame", .glo "_law_numbered", .glo "_law_any", .glo "_law_reach", .glo "_law_parts", .glo "_law_inner", .glo "_law_kind", .glo "_law_around", .glo "_law_doors", .glo "_law_far", .glo "_law_gap", .glo "_law_cost", .glo "_law_is_int", .glo "_law_value", .glo "_law_is_worth", .glo "_law_dearer", .glo "_law_wider", .glo "_law_free", .glo "_law_later", .glo "_law_rises", .glo "_law_not_lower", .glo "law", .glo "ForeworthError", .glo "BadNode", .glo "Unreachable", .glo "NoEnd", .glo "BadRing", .glo "Graph", .glo "Ring", .free "len", .free "abs", .free "range", .free "int", .free "sorted", .free "set", .free "max", .free "sum", .free "min", .free "tuple", .free "isinstance", .free "bool", .free "list", .free "reversed", .free "super", .free "ValueError", .int "END" (-1), .cls "Ring", .mkr "Ring", .noat "Ring" "size", .noat "Ring" "prices", .noat "Ring" "doors", .noat "Ring" "nodes", .noat "Ring" "_sums", .meth "Ring" "_chosen", .meth "Ring" "_gap", .meth "Ring" "cost", .meth "Ring" "far", .meth "Ring" "greatest_gap", .meth "Ring" "whole", .cls "Graph", .mkr "Graph", .noat "Graph" "size", .noat "Graph" "_rows", .meth "Graph" "price", .meth "Graph" "rows", .meth "Graph" "successors", .meth "Graph" "word"]
def loose : List Str := (["_wall", "ForeworthError", "BadNode", "Unreachable", "NoEnd", "BadRing", "is_name", "distinct", "END", "Graph", "check_rows", "is_good_row"] : List Str) ++ (["check_reached", "check_ends", "nexts_of", "backs_of", "spread", "components", "parts_of", "leaving", "entering", "class_numbers", "left_order", "component_of"] : List Str) ++ (["kinds", "kind_of", "internal", "Ring", "check_ring", "sums_of", "rings", "ring_table", "made_ring", "entered_nodes", "worth", "with_price"] : List Str) ++ (["with_successor", "with_row", "_law_cell", "_law_digits", "_law_seed", "_law_word", "_law_price", "_law_open", "_law_block", "_law_exit", "_law_tame", "_law_numbered"] : List Str) ++ (["_law_any", "_law_reach", "_law_parts", "_law_inner", "_law_kind", "_law_around", "_law_doors", "_law_far", "_law_gap", "_law_cost", "_law_is_int", "_law_value"] : List Str) ++ (["_law_is_worth", "_law_dearer", "_law_wider", "_law_free", "_law_later", "_law_rises", "_law_not_lower"] : List Str)

abbrev R : PySem.W.OpenRow := PySem.W.OpenLaw.row PySem.Challenge.rw_foreworth_k62_whole_changes_of_worth
abbrev hk : PySem.W.Hook := He.hookD 5 fa fn
def ob (s : PySem.W.SharedT) : He.AlD   := He.obsDG 5 fa fn (HandSHeadRun.getT s)
theorem ob_eq (s : PySem.W.SharedT) : ob s = hk.obs s.abs := He.obsDG_eq (HandSHeadRun.getT_eq s)
theorem run (w : World) : HandSHeadRun.RunEq R (PySem.W.view R.prog [75]) hk ob 8000 loose w := by
  intro os
  kernel_rfl
theorem sc_is_name : FnScope ["text", "char"] ["text"] (defScope s_is_name) := ⟨rfl, rfl, rfl, by decide +kernel, rfl, by decide +kernel, by decide +kernel⟩
theorem sc_distinct : FnScope ["row"] ["row"] (defScope s_distinct) := ⟨rfl, rfl, rfl, by decide +kernel, rfl, by decide +kernel, by decide +kernel⟩
theorem sc_Graph_rows : FnScope ["self"] ["self"] (defScope s_Graph_rows) := ⟨rfl, rfl, rfl, by decide +kernel, rfl, by decide +kernel, by decide +kernel⟩
theorem sc_Graph_word : FnScope ["self", "node"] ["self", "node"] (defScope s_Graph_word) := ⟨rfl, rfl, rfl, by decide +kernel, rfl, by decide +kernel, by decide +kernel⟩
theorem sc_Graph_price : FnScope ["self", "node"] ["self", "node"] (defScope s_Graph_price) := ⟨rfl, rfl, rfl, by decide +kernel, rfl, by decide +kernel, by decide +kernel⟩
theorem sc_Graph_successors : FnScope ["self", "node"] ["self", "node"] (defScope s_Graph_successors) := ⟨rfl, rfl, rfl, by decide +kernel, rfl, by decide +kernel, by decide +kernel⟩
theorem sc_nexts_of : FnScope ["rows", "row", "target"] ["rows"] (defScope s_nexts_of) := ⟨rfl, rfl, rfl, by decide +kernel, rfl, by decide +kernel, by decide +kernel⟩
theorem sc_backs_of : FnScope ["rows", "backs", "node", "target", "row"] ["rows"] (defScope s_backs_of) := ⟨rfl, rfl, rfl, by decide +kernel, rfl, by decide +kernel, by decide +kernel⟩
theorem sc_spread : FnScope ["lists", "starts", "marks", "node", "queue", "place", "target"] ["lists", "starts"] (defScope s_spread) := ⟨rfl, rfl, rfl, by decide +kernel, rfl, by decide +kernel, by decide +kernel⟩
theorem sc_left_order : FnScope ["lists", "looked", "seen", "stack", "order", "node", "target"] ["lists"] (defScope s_left_order) := ⟨rfl, rfl, rfl, by decide +kernel, rfl, by decide +kernel, by decide +kernel⟩
theorem sc_Ring_whole : FnScope ["self"] ["self"] (defScope s_Ring_whole) := ⟨rfl, rfl, rfl, by decide +kernel, rfl, by decide +kernel, by decide +kernel⟩
theorem sc_Ring_chosen : FnScope ["self", "doors"] ["self", "doors"] (defScope s_Ring_chosen) := ⟨rfl, rfl, rfl, by decide +kernel, rfl, by decide +kernel, by decide +kernel⟩
theorem sc_check_ring : FnScope ["prices", "doors", "nodes", "before", "door"] ["prices", "doors", "nodes"] (defScope s_check_ring) := ⟨rfl, rfl, rfl, by decide +kernel, rfl, by decide +kernel, by decide +kernel⟩
theorem sc_sums_of : FnScope ["prices", "sums", "price"] ["prices"] (defScope s_sums_of) := ⟨rfl, rfl, rfl, by decide +kernel, rfl, by decide +kernel, by decide +kernel⟩
theorem sc_l_cell : FnScope ["_law_script", "_law_k"] ["_law_script", "_law_k"] (defScope s_l_cell) := ⟨rfl, rfl, rfl, by decide +kernel, rfl, by decide +kernel, by decide +kernel⟩
theorem sc_l_digits : FnScope ["_law_cell_here", "_law_count", "_law_size", "_law_row", "_law_rest", "_law_k", "_law_mixed"] ["_law_cell_here", "_law_count", "_law_size"] (defScope s_l_digits) := ⟨rfl, rfl, rfl, by decide +kernel, rfl, by decide +kernel, by decide +kernel⟩
theorem sc_l_word : FnScope ["_law_digit"] ["_law_digit"] (defScope s_l_word) := ⟨rfl, rfl, rfl, by decide +kernel, rfl, by decide +kernel, by decide +kernel⟩
theorem sc_l_price : FnScope ["_law_digit"] ["_law_digit"] (defScope s_l_price) := ⟨rfl, rfl, rfl, by decide +kernel, rfl, by decide +kernel, by decide +kernel⟩
theorem sc_l_open : FnScope ["_law_nexts", "_law_source", "_law_k", "_law_node"] ["_law_nexts", "_law_source"] (defScope s_l_open) := ⟨rfl, rfl, rfl, by decide +kernel, rfl, by decide +kernel, by decide +kernel⟩
theorem sc_l_reach : FnScope ["_law_rows", "_law_reach_here", "_law_first", "_law_marks", "_law_queue", "_law_k", "_law_target"] ["_law_rows"] (defScope s_l_reach) := ⟨rfl, rfl, rfl, by decide +kernel, rfl, by decide +kernel, by decide +kernel⟩
theorem sc_l_inner : FnScope ["_law_rows", "_law_part", "_law_node", "_law_target"] ["_law_rows", "_law_part", "_law_node"] (defScope s_l_inner) := ⟨rfl, rfl, rfl, by decide +kernel, rfl, by decide +kernel, by decide +kernel⟩
theorem sc_l_doors : FnScope ["_law_rows", "_law_around_here", "_law_gates", "_law_place", "_law_entered", "_law_other"] ["_law_rows", "_law_around_here"] (defScope s_l_doors) := ⟨rfl, rfl, rfl, by decide +kernel, rfl, by decide +kernel, by decide +kernel⟩
theorem sc_l_far : FnScope ["_law_prices", "_law_start", "_law_end", "_law_total", "_law_place", "_law_k"] ["_law_prices", "_law_start", "_law_end"] (defScope s_l_far) := ⟨rfl, rfl, rfl, by decide +kernel, rfl, by decide +kernel, by decide +kernel⟩
theorem sc_l_is_int : FnScope ["_law_value_here"] ["_law_value_here"] (defScope s_l_is_int) := ⟨rfl, rfl, rfl, by decide +kernel, rfl, by decide +kernel, by decide +kernel⟩
theorem sc_l_dearer : FnScope ["_law_rows", "_law_node", "_law_added"] ["_law_rows", "_law_node", "_law_added"] (defScope s_l_dearer) := ⟨rfl, rfl, rfl, by decide +kernel, rfl, by decide +kernel, by decide +kernel⟩
theorem sc_l_wider : FnScope ["_law_rows", "_law_node", "_law_target"] ["_law_rows", "_law_node", "_law_target"] (defScope s_l_wider) := ⟨rfl, rfl, rfl, by decide +kernel, rfl, by decide +kernel, by decide +kernel⟩
theorem sc_l_free : FnScope ["_law_rows", "_law_first", "_law_k", "_law_node"] ["_law_rows", "_law_first"] (defScope s_l_free) := ⟨rfl, rfl, rfl, by decide +kernel, rfl, by decide +kernel, by decide +kernel⟩
theorem sc_l_later : FnScope ["_law_parts_here", "_law_source", "_law_found", "_law_passed", "_law_part"] ["_law_parts_here", "_law_source"] (defScope s_l_later) := ⟨rfl, rfl, rfl, by decide +kernel, rfl, by decide +kernel, by decide +kernel⟩
theorem sc_l_rises : FnScope ["_law_before", "_law_after", "_law_added"] ["_law_before", "_law_after", "_law_added"] (defScope s_l_rises) := ⟨rfl, rfl, rfl, by decide +kernel, rfl, by decide +kernel, by decide +kernel⟩
theorem sc_l_not_lower : FnScope ["_law_before", "_law_after"] ["_law_before", "_law_after"] (defScope s_l_not_lower) := ⟨rfl, rfl, rfl, by decide +kernel, rfl, by decide +kernel, by decide +kernel⟩
theorem sc_is_good_row : FnScope ["row", "size", "target"] ["row", "size"] (defScope s_is_good_row) := ⟨rfl, rfl, rfl, by decide +kernel, rfl, by decide +kernel, by decide +kernel⟩
theorem sc_check_reached : FnScope ["rows", "marks"] ["rows"] (defScope s_check_reached) := ⟨rfl, rfl, rfl, by decide +kernel, rfl, by decide +kernel, by decide +kernel⟩
theorem sc_check_ends : FnScope ["rows", "marks", "node"] ["rows"] (defScope s_check_ends) := ⟨rfl, rfl, rfl, by decide +kernel, rfl, by decide +kernel, by decide +kernel⟩
theorem sc_parts_of : FnScope ["numbers", "parts", "node", "number"] ["numbers"] (defScope s_parts_of) := ⟨rfl, rfl, rfl, by decide +kernel, rfl, by decide +kernel, by decide +kernel⟩
theorem sc_leaving : FnScope ["graph", "numbers", "nodes", "found", "node", "target"] ["graph", "numbers", "nodes"] (defScope s_leaving) := ⟨rfl, rfl, rfl, by decide +kernel, rfl, by decide +kernel, by decide +kernel⟩
theorem sc_class_numbers : FnScope ["graph", "backs", "numbers", "count", "first", "queue", "place", "node"] ["graph"] (defScope s_class_numbers) := ⟨rfl, rfl, rfl, by decide +kernel, rfl, by decide +kernel, by decide +kernel⟩
theorem sc_internal : FnScope ["graph", "nodes", "node", "target"] ["graph", "nodes", "node"] (defScope s_internal) := ⟨rfl, rfl, rfl, by decide +kernel, rfl, by decide +kernel, by decide +kernel⟩
theorem sc_Ring_init : FnScope ["self", "prices", "doors", "nodes"] ["self", "prices", "doors", "nodes"] (defScope s_Ring_init) := ⟨rfl, rfl, rfl, by decide +kernel, rfl, by decide +kernel, by decide +kernel⟩
theorem sc_Ring_far : FnScope ["self", "first", "second"] ["self", "first", "second"] (defScope s_Ring_far) := ⟨rfl, rfl, rfl, by decide +kernel, rfl, by decide +kernel, by decide +kernel⟩
theorem sc_l_seed : FnScope ["_law_script", "_law_k"] ["_law_script", "_law_k"] (defScope s_l_seed) := ⟨rfl, rfl, rfl, by decide +kernel, rfl, by decide +kernel, by decide +kernel⟩
theorem sc_l_block : FnScope ["_law_nexts", "_law_digit", "_law_row", "_law_first", "_law_size", "_law_before", "_law_place", "_law_k", "_law_source"] ["_law_nexts", "_law_digit", "_law_row", "_law_first"] (defScope s_l_block) := ⟨rfl, rfl, rfl, by decide +kernel, rfl, by decide +kernel, by decide +kernel⟩
theorem sc_l_exit : FnScope ["_law_nexts", "_law_before", "_law_size", "_law_digit", "_law_node", "_law_target", "_law_source"] ["_law_nexts", "_law_before", "_law_size", "_law_digit"] (defScope s_l_exit) := ⟨rfl, rfl, rfl, by decide +kernel, rfl, by decide +kernel, by decide +kernel⟩
theorem sc_l_numbered : FnScope ["_law_nexts", "_law_row", "_law_size", "_law_keys", "_law_order", "_law_rows", "_law_node", "_law_turn", "_law_turned", "_law_named", "_law_target", "_law_k", "_law_key"] ["_law_nexts", "_law_row"] (defScope s_l_numbered) := ⟨rfl, rfl, rfl, by decide +kernel, rfl, by decide +kernel, by decide +kernel⟩
theorem sc_l_parts : FnScope ["_law_rows", "_law_reach_here", "_law_left", "_law_parts_here", "_law_turn", "_law_best", "_law_node", "_law_free_here", "_law_other"] ["_law_rows"] (defScope s_l_parts) := ⟨rfl, rfl, rfl, by decide +kernel, rfl, by decide +kernel, by decide +kernel⟩
theorem sc_l_kind : FnScope ["_law_rows", "_law_part", "_law_counts", "_law_node"] ["_law_rows", "_law_part"] (defScope s_l_kind) := ⟨rfl, rfl, rfl, by decide +kernel, rfl, by decide +kernel, by decide +kernel⟩
theorem sc_l_around : FnScope ["_law_rows", "_law_part", "_law_around_here", "_law_k"] ["_law_rows", "_law_part"] (defScope s_l_around) := ⟨rfl, rfl, rfl, by decide +kernel, rfl, by decide +kernel, by decide +kernel⟩
theorem sc_l_gap : FnScope ["_law_prices", "_law_gates", "_law_k"] ["_law_prices", "_law_gates", "_law_k"] (defScope s_l_gap) := ⟨rfl, rfl, rfl, by decide +kernel, rfl, by decide +kernel, by decide +kernel⟩
theorem sc_l_is_worth : FnScope ["_law_told", "_law_value_here"] ["_law_told", "_law_value_here"] (defScope s_l_is_worth) := ⟨rfl, rfl, rfl, by decide +kernel, rfl, by decide +kernel, by decide +kernel⟩
theorem sc_check_rows : FnScope ["rows", "node"] ["rows"] (defScope s_check_rows) := ⟨rfl, rfl, rfl, by decide +kernel, rfl, by decide +kernel, by decide +kernel⟩
theorem sc_entering : FnScope ["graph", "numbers", "counts", "target"] ["graph", "numbers"] (defScope s_entering) := ⟨rfl, rfl, rfl, by decide +kernel, rfl, by decide +kernel, by decide +kernel⟩
theorem sc_kind_of : FnScope ["graph", "nodes", "most", "node"] ["graph", "nodes"] (defScope s_kind_of) := ⟨rfl, rfl, rfl, by decide +kernel, rfl, by decide +kernel, by decide +kernel⟩
theorem sc_Ring_gap : FnScope ["self", "chosen", "place"] ["self", "chosen", "place"] (defScope s_Ring_gap) := ⟨rfl, rfl, rfl, by decide +kernel, rfl, by decide +kernel, by decide +kernel⟩
theorem sc_l_tame : FnScope ["_law_cell_here", "_law_blocks", "_law_row", "_law_nexts", "_law_sizes", "_law_b", "_law_k", "_law_node", "_law_before"] ["_law_cell_here", "_law_blocks"] (defScope s_l_tame) := ⟨rfl, rfl, rfl, by decide +kernel, rfl, by decide +kernel, by decide +kernel⟩
theorem sc_l_cost : FnScope ["_law_prices", "_law_gates", "_law_k"] ["_law_prices", "_law_gates"] (defScope s_l_cost) := ⟨rfl, rfl, rfl, by decide +kernel, rfl, by decide +kernel, by decide +kernel⟩
theorem sc_Graph_init : FnScope ["self", "rows", "kept", "row"] ["self", "rows"] (defScope s_Graph_init) := ⟨rfl, rfl, rfl, by decide +kernel, rfl, by decide +kernel, by decide +kernel⟩
theorem sc_components : FnScope ["graph", "numbers", "parts", "waits", "ready", "ordered", "least", "target"] ["graph"] (defScope s_components) := ⟨rfl, rfl, rfl, by decide +kernel, rfl, by decide +kernel, by decide +kernel⟩
theorem sc_Ring_greatest_gap : FnScope ["self", "doors", "chosen", "place"] ["self", "doors"] (defScope s_Ring_greatest_gap) := ⟨rfl, rfl, rfl, by decide +kernel, rfl, by decide +kernel, by decide +kernel⟩
theorem sc_made_ring : FnScope ["graph", "nodes", "entered", "around", "prices", "doors", "node", "place"] ["graph", "nodes", "entered"] (defScope s_made_ring) := ⟨rfl, rfl, rfl, by decide +kernel, rfl, by decide +kernel, by decide +kernel⟩
theorem sc_l_any : FnScope ["_law_cell_here", "_law_blocks", "_law_rows", "_law_row", "_law_k", "_law_node", "_law_target"] ["_law_cell_here", "_law_blocks"] (defScope s_l_any) := ⟨rfl, rfl, rfl, by decide +kernel, rfl, by decide +kernel, by decide +kernel⟩
theorem sc_l_value : FnScope ["_law_rows", "_law_parts_here", "_law_total", "_law_part", "_law_kind_here", "_law_around_here", "_law_node"] ["_law_rows", "_law_parts_here"] (defScope s_l_value) := ⟨rfl, rfl, rfl, by decide +kernel, rfl, by decide +kernel, by decide +kernel⟩
theorem sc_component_of : FnScope ["graph", "found", "ordered", "index", "node"] ["graph"] (defScope s_component_of) := ⟨rfl, rfl, rfl, by decide +kernel, rfl, by decide +kernel, by decide +kernel⟩
theorem sc_kinds : FnScope ["graph", "nodes"] ["graph"] (defScope s_kinds) := ⟨rfl, rfl, rfl, by decide +kernel, rfl, by decide +kernel, by decide +kernel⟩
theorem sc_Ring_cost : FnScope ["self", "doors"] ["self", "doors"] (defScope s_Ring_cost) := ⟨rfl, rfl, rfl, by decide +kernel, rfl, by decide +kernel, by decide +kernel⟩
theorem sc_entered_nodes : FnScope ["graph", "numbers", "entered", "node", "target"] ["graph"] (defScope s_entered_nodes) := ⟨rfl, rfl, rfl, by decide +kernel, rfl, by decide +kernel, by decide +kernel⟩
theorem sc_with_row : FnScope ["graph", "node", "row", "rows"] ["graph", "node", "row"] (defScope s_with_row) := ⟨rfl, rfl, rfl, by decide +kernel, rfl, by decide +kernel, by decide +kernel⟩
theorem sc_ring_table : FnScope ["graph", "entered", "table", "nodes"] ["graph"] (defScope s_ring_table) := ⟨rfl, rfl, rfl, by decide +kernel, rfl, by decide +kernel, by decide +kernel⟩
theorem sc_with_price : FnScope ["graph", "node", "price"] ["graph", "node", "price"] (defScope s_with_price) := ⟨rfl, rfl, rfl, by decide +kernel, rfl, by decide +kernel, by decide +kernel⟩
theorem sc_with_successor : FnScope ["graph", "node", "target", "nexts"] ["graph", "node", "target"] (defScope s_with_successor) := ⟨rfl, rfl, rfl, by decide +kernel, rfl, by decide +kernel, by decide +kernel⟩
theorem sc_rings : FnScope ["graph", "ring"] ["graph"] (defScope s_rings) := ⟨rfl, rfl, rfl, by decide +kernel, rfl, by decide +kernel, by decide +kernel⟩
theorem sc_worth : FnScope ["graph", "ring"] ["graph"] (defScope s_worth) := ⟨rfl, rfl, rfl, by decide +kernel, rfl, by decide +kernel, by decide +kernel⟩
theorem sc_law : FnScope ["_law_script", "_law_rows", "_law_begin", "_law_parts_here", "_law_start", "_law_graph", "_law_value_here", "_law_turn", "_law_node", "_law_added", "_law_raised", "_law_source", "_law_cell_here", "_law_targets", "_law_target", "_law_row"] ["_law_script"] (defScope s_law) := ⟨rfl, rfl, rfl, by decide +kernel, rfl, by decide +kernel, by decide +kernel⟩
structure Txt (K : PySem.W.Frag) (mg : Str → Option Value) : Prop where
  g_is_name : mg "is_name" = some (.ref (He.ga K "is_name"))
  g_distinct : mg "distinct" = some (.ref (He.ga K "distinct"))
  g_check_rows : mg "check_rows" = some (.ref (He.ga K "check_rows"))
  g_is_good_row : mg "is_good_row" = some (.ref (He.ga K "is_good_row"))
  g_check_reached : mg "check_reached" = some (.ref (He.ga K "check_reached"))
  g_check_ends : mg "check_ends" = some (.ref (He.ga K "check_ends"))
  g_nexts_of : mg "nexts_of" = some (.ref (He.ga K "nexts_of"))
  g_backs_of : mg "backs_of" = some (.ref (He.ga K "backs_of"))
  g_spread : mg "spread" = some (.ref (He.ga K "spread"))
  g_components : mg "components" = some (.ref (He.ga K "components"))
  g_parts_of : mg "parts_of" = some (.ref (He.ga K "parts_of"))
  g_leaving : mg "leaving" = some (.ref (He.ga K "leaving"))
  g_entering : mg "entering" = some (.ref (He.ga K "entering"))
  g_class_numbers : mg "class_numbers" = some (.ref (He.ga K "class_numbers"))
  g_left_order : mg "left_order" = some (.ref (He.ga K "left_order"))
  g_component_of : mg "component_of" = some (.ref (He.ga K "component_of"))
  g_kinds : mg "kinds" = some (.ref (He.ga K "kinds"))
  g_kind_of : mg "kind_of" = some (.ref (He.ga K "kind_of"))
  g_internal : mg "internal" = some (.ref (He.ga K "internal"))
  g_check_ring : mg "check_ring" = some (.ref (He.ga K "check_ring"))
  g_sums_of : mg "sums_of" = some (.ref (He.ga K "sums_of"))
  g_rings : mg "rings" = some (.ref (He.ga K "rings"))
  g_ring_table : mg "ring_table" = some (.ref (He.ga K "ring_table"))
  g_made_ring : mg "made_ring" = some (.ref (He.ga K "made_ring"))
  g_entered_nodes : mg "entered_nodes" = some (.ref (He.ga K "entered_nodes"))
  g_worth : mg "worth" = some (.ref (He.ga K "worth"))
  g_with_price : mg "with_price" = some (.ref (He.ga K "with_price"))
  g_with_successor : mg "with_successor" = some (.ref (He.ga K "with_successor"))
  g_with_row : mg "with_row" = some (.ref (He.ga K "with_row"))
  g_l_cell : mg "_law_cell" = some (.ref (He.ga K "_law_cell"))
  g_l_digits : mg "_law_digits" = some (.ref (He.ga K "_law_digits"))
  g_l_seed : mg "_law_seed" = some (.ref (He.ga K "_law_seed"))
  g_l_word : mg "_law_word" = some (.ref (He.ga K "_law_word"))
  g_l_price : mg "_law_price" = some (.ref (He.ga K "_law_price"))
  g_l_open : mg "_law_open" = some (.ref (He.ga K "_law_open"))
  g_l_block : mg "_law_block" = some (.ref (He.ga K "_law_block"))
  g_l_exit : mg "_law_exit" = some (.ref (He.ga K "_law_exit"))
  g_l_tame : mg "_law_tame" = some (.ref (He.ga K "_law_tame"))
  g_l_numbered : mg "_law_numbered" = some (.ref (He.ga K "_law_numbered"))
  g_l_any : mg "_law_any" = some (.ref (He.ga K "_law_any"))
  g_l_reach : mg "_law_reach" = some (.ref (He.ga K "_law_reach"))
  g_l_parts : mg "_law_parts" = some (.ref (He.ga K "_law_parts"))
  g_l_inner : mg "_law_inner" = some (.ref (He.ga K "_law_inner"))
  g_l_kind : mg "_law_kind" = some (.ref (He.ga K "_law_kind"))
  g_l_around : mg "_law_around" = some (.ref (He.ga K "_law_around"))
  g_l_doors : mg "_law_doors" = some (.ref (He.ga K "_law_doors"))
  g_l_far : mg "_law_far" = some (.ref (He.ga K "_law_far"))
  g_l_gap : mg "_law_gap" = some (.ref (He.ga K "_law_gap"))
  g_l_cost : mg "_law_cost" = some (.ref (He.ga K "_law_cost"))
  g_l_is_int : mg "_law_is_int" = some (.ref (He.ga K "_law_is_int"))
  g_l_value : mg "_law_value" = some (.ref (He.ga K "_law_value"))
  g_l_is_worth : mg "_law_is_worth" = some (.ref (He.ga K "_law_is_worth"))
  g_l_dearer : mg "_law_dearer" = some (.ref (He.ga K "_law_dearer"))
  g_l_wider : mg "_law_wider" = some (.ref (He.ga K "_law_wider"))
  g_l_free : mg "_law_free" = some (.ref (He.ga K "_law_free"))
  g_l_later : mg "_law_later" = some (.ref (He.ga K "_law_later"))
  g_l_rises : mg "_law_rises" = some (.ref (He.ga K "_law_rises"))
  g_l_not_lower : mg "_law_not_lower" = some (.ref (He.ga K "_law_not_lower"))
  g_law : mg "law" = some (.ref (He.ga K "law"))
  g_ForeworthError : mg "ForeworthError" = some (.ref (He.ga K "ForeworthError"))
  g_BadNode : mg "BadNode" = some (.ref (He.ga K "BadNode"))
  g_Unreachable : mg "Unreachable" = some (.ref (He.ga K "Unreachable"))
  g_NoEnd : mg "NoEnd" = some (.ref (He.ga K "NoEnd"))
  g_BadRing : mg "BadRing" = some (.ref (He.ga K "BadRing"))
  g_Graph : mg "Graph" = some (.ref (He.ga K "Graph"))
  g_Ring : mg "Ring" = some (.ref (He.ga K "Ring"))
  z_len : mg "len" = none
  z_abs : mg "abs" = none
  z_range : mg "range" = none
  z_int : mg "int" = none
  z_sorted : mg "sorted" = none
  z_set : mg "set" = none
  z_max : mg "max" = none
  z_sum : mg "sum" = none
  z_min : mg "min" = none
  z_tuple : mg "tuple" = none
  z_isinstance : mg "isinstance" = none
  z_bool : mg "bool" = none
  z_list : mg "list" = none
  z_reversed : mg "reversed" = none
  z_super : mg "super" = none
  z_ValueError : mg "ValueError" = none
  k_END : ∃ t, mg "END" = some (.int (-1) t)
  cl_Ring : Cls K (He.ga K "Ring")
  mk_Ring : Mk K (He.ga K "Ring") (He.ma K (He.ga K "Ring") "__init__")
  na_Ring_size : NoAttr K (He.ga K "Ring") "size"
  na_Ring_prices : NoAttr K (He.ga K "Ring") "prices"
  na_Ring_doors : NoAttr K (He.ga K "Ring") "doors"
  na_Ring_nodes : NoAttr K (He.ga K "Ring") "nodes"
  na_Ring_sums : NoAttr K (He.ga K "Ring") "_sums"
  me_Ring_chosen : Meth K (He.ga K "Ring") "_chosen" (He.ma K (He.ga K "Ring") "_chosen")
  me_Ring_gap : Meth K (He.ga K "Ring") "_gap" (He.ma K (He.ga K "Ring") "_gap")
  me_Ring_cost : Meth K (He.ga K "Ring") "cost" (He.ma K (He.ga K "Ring") "cost")
  me_Ring_far : Meth K (He.ga K "Ring") "far" (He.ma K (He.ga K "Ring") "far")
  me_Ring_greatest_gap : Meth K (He.ga K "Ring") "greatest_gap" (He.ma K (He.ga K "Ring") "greatest_gap")
  me_Ring_whole : Meth K (He.ga K "Ring") "whole" (He.ma K (He.ga K "Ring") "whole")
  cl_Graph : Cls K (He.ga K "Graph")
  mk_Graph : Mk K (He.ga K "Graph") (He.ma K (He.ga K "Graph") "__init__")
  na_Graph_size : NoAttr K (He.ga K "Graph") "size"
  na_Graph_rows : NoAttr K (He.ga K "Graph") "_rows"
  me_Graph_price : Meth K (He.ga K "Graph") "price" (He.ma K (He.ga K "Graph") "price")
  me_Graph_rows : Meth K (He.ga K "Graph") "rows" (He.ma K (He.ga K "Graph") "rows")
  me_Graph_successors : Meth K (He.ga K "Graph") "successors" (He.ma K (He.ga K "Graph") "successors")
  me_Graph_word : Meth K (He.ga K "Graph") "word" (He.ma K (He.ga K "Graph") "word")
  f_is_name : ∃ fd, FunD K "is_name" "is_name" (defArgs s_is_name) (defBody s_is_name) (defScope s_is_name) [] [] (He.ga K "is_name") fd
  f_distinct : ∃ fd, FunD K "distinct" "distinct" (defArgs s_distinct) (defBody s_distinct) (defScope s_distinct) [] [] (He.ga K "distinct") fd
  f_Graph_init : ∃ fd, FunD K "__init__" "Graph.__init__" (defArgs s_Graph_init) (defBody s_Graph_init) (defScope s_Graph_init) [] [] (He.ma K (He.ga K "Graph") "__init__") fd
  f_Graph_rows : ∃ fd, FunD K "rows" "Graph.rows" (defArgs s_Graph_rows) (defBody s_Graph_rows) (defScope s_Graph_rows) [] [] (He.ma K (He.ga K "Graph") "rows") fd
  f_Graph_word : ∃ fd, FunD K "word" "Graph.word" (defArgs s_Graph_word) (defBody s_Graph_word) (defScope s_Graph_word) [] [] (He.ma K (He.ga K "Graph") "word") fd
  f_Graph_price : ∃ fd, FunD K "price" "Graph.price" (defArgs s_Graph_price) (defBody s_Graph_price) (defScope s_Graph_price) [] [] (He.ma K (He.ga K "Graph") "price") fd
  f_Graph_successors : ∃ fd, FunD K "successors" "Graph.successors" (defArgs s_Graph_successors) (defBody s_Graph_successors) (defScope s_Graph_successors) [] [] (He.ma K (He.ga K "Graph") "successors") fd
  f_check_rows : ∃ fd, FunD K "check_rows" "check_rows" (defArgs s_check_rows) (defBody s_check_rows) (defScope s_check_rows) [] [] (He.ga K "check_rows") fd
  f_is_good_row : ∃ fd, FunD K "is_good_row" "is_good_row" (defArgs s_is_good_row) (defBody s_is_good_row) (defScope s_is_good_row) [] [] (He.ga K "is_good_row") fd
  f_check_reached : ∃ fd, FunD K "check_reached" "check_reached" (defArgs s_check_reached) (defBody s_check_reached) (defScope s_check_reached) [] [] (He.ga K "check_reached") fd
  f_check_ends : ∃ fd, FunD K "check_ends" "check_ends" (defArgs s_check_ends) (defBody s_check_ends) (defScope s_check_ends) [] [] (He.ga K "check_ends") fd
  f_nexts_of : ∃ fd, FunD K "nexts_of" "nexts_of" (defArgs s_nexts_of) (defBody s_nexts_of) (defScope s_nexts_of) [] [] (He.ga K "nexts_of") fd
  f_backs_of : ∃ fd, FunD K "backs_of" "backs_of" (defArgs s_backs_of) (defBody s_backs_of) (defScope s_backs_of) [] [] (He.ga K "backs_of") fd
  f_spread : ∃ fd, FunD K "spread" "spread" (defArgs s_spread) (defBody s_spread) (defScope s_spread) [] [] (He.ga K "spread") fd
  f_components : ∃ fd, FunD K "components" "components" (defArgs s_components) (defBody s_components) (defScope s_components) [] [] (He.ga K "components") fd
  f_parts_of : ∃ fd, FunD K "parts_of" "parts_of" (defArgs s_parts_of) (defBody s_parts_of) (defScope s_parts_of) [] [] (He.ga K "parts_of") fd
  f_leaving : ∃ fd, FunD K "leaving" "leaving" (defArgs s_leaving) (defBody s_leaving) (defScope s_leaving) [] [] (He.ga K "leaving") fd
  f_entering : ∃ fd, FunD K "entering" "entering" (defArgs s_entering) (defBody s_entering) (defScope s_entering) [] [] (He.ga K "entering") fd
  f_class_numbers : ∃ fd, FunD K "class_numbers" "class_numbers" (defArgs s_class_numbers) (defBody s_class_numbers) (defScope s_class_numbers) [] [] (He.ga K "class_numbers") fd
  f_left_order : ∃ fd, FunD K "left_order" "left_order" (defArgs s_left_order) (defBody s_left_order) (defScope s_left_order) [] [] (He.ga K "left_order") fd
  f_component_of : ∃ fd, FunD K "component_of" "component_of" (defArgs s_component_of) (defBody s_component_of) (defScope s_component_of) [] [] (He.ga K "component_of") fd
  f_kinds : ∃ fd, FunD K "kinds" "kinds" (defArgs s_kinds) (defBody s_kinds) (defScope s_kinds) [] [] (He.ga K "kinds") fd
  f_kind_of : ∃ fd, FunD K "kind_of" "kind_of" (defArgs s_kind_of) (defBody s_kind_of) (defScope s_kind_of) [] [] (He.ga K "kind_of") fd
  f_internal : ∃ fd, FunD K "internal" "internal" (defArgs s_internal) (defBody s_internal) (defScope s_internal) [] [] (He.ga K "internal") fd
  f_Ring_init : ∃ fd, FunD K "__init__" "Ring.__init__" (defArgs s_Ring_init) (defBody s_Ring_init) (defScope s_Ring_init) [] [("nodes", .non)] (He.ma K (He.ga K "Ring") "__init__") fd
  f_Ring_whole : ∃ fd, FunD K "whole" "Ring.whole" (defArgs s_Ring_whole) (defBody s_Ring_whole) (defScope s_Ring_whole) [] [] (He.ma K (He.ga K "Ring") "whole") fd
  f_Ring_far : ∃ fd, FunD K "far" "Ring.far" (defArgs s_Ring_far) (defBody s_Ring_far) (defScope s_Ring_far) [] [] (He.ma K (He.ga K "Ring") "far") fd
  f_Ring_greatest_gap : ∃ fd, FunD K "greatest_gap" "Ring.greatest_gap" (defArgs s_Ring_greatest_gap) (defBody s_Ring_greatest_gap) (defScope s_Ring_greatest_gap) [] [("doors", .non)] (He.ma K (He.ga K "Ring") "greatest_gap") fd
  f_Ring_cost : ∃ fd, FunD K "cost" "Ring.cost" (defArgs s_Ring_cost) (defBody s_Ring_cost) (defScope s_Ring_cost) [] [("doors", .non)] (He.ma K (He.ga K "Ring") "cost") fd
  f_Ring_chosen : ∃ fd, FunD K "_chosen" "Ring._chosen" (defArgs s_Ring_chosen) (defBody s_Ring_chosen) (defScope s_Ring_chosen) [] [] (He.ma K (He.ga K "Ring") "_chosen") fd
  f_Ring_gap : ∃ fd, FunD K "_gap" "Ring._gap" (defArgs s_Ring_gap) (defBody s_Ring_gap) (defScope s_Ring_gap) [] [] (He.ma K (He.ga K "Ring") "_gap") fd
  f_check_ring : ∃ fd, FunD K "check_ring" "check_ring" (defArgs s_check_ring) (defBody s_check_ring) (defScope s_check_ring) [] [] (He.ga K "check_ring") fd
  f_sums_of : ∃ fd, FunD K "sums_of" "sums_of" (defArgs s_sums_of) (defBody s_sums_of) (defScope s_sums_of) [] [] (He.ga K "sums_of") fd
  f_rings : ∃ fd, FunD K "rings" "rings" (defArgs s_rings) (defBody s_rings) (defScope s_rings) [] [] (He.ga K "rings") fd
  f_ring_table : ∃ fd, FunD K "ring_table" "ring_table" (defArgs s_ring_table) (defBody s_ring_table) (defScope s_ring_table) [] [] (He.ga K "ring_table") fd
  f_made_ring : ∃ fd, FunD K "made_ring" "made_ring" (defArgs s_made_ring) (defBody s_made_ring) (defScope s_made_ring) [] [] (He.ga K "made_ring") fd
  f_entered_nodes : ∃ fd, FunD K "entered_nodes" "entered_nodes" (defArgs s_entered_nodes) (defBody s_entered_nodes) (defScope s_entered_nodes) [] [] (He.ga K "entered_nodes") fd
  f_worth : ∃ fd, FunD K "worth" "worth" (defArgs s_worth) (defBody s_worth) (defScope s_worth) [] [] (He.ga K "worth") fd
  f_with_price : ∃ fd, FunD K "with_price" "with_price" (defArgs s_with_price) (defBody s_with_price) (defScope s_with_price) [] [] (He.ga K "with_price") fd
  f_with_successor : ∃ fd, FunD K "with_successor" "with_successor" (defArgs s_with_successor) (defBody s_with_successor) (defScope s_with_successor) [] [] (He.ga K "with_successor") fd
  f_with_row : ∃ fd, FunD K "with_row" "with_row" (defArgs s_with_row) (defBody s_with_row) (defScope s_with_row) [] [] (He.ga K "with_row") fd
  f_l_cell : ∃ fd, FunD K "_law_cell" "_law_cell" (defArgs s_l_cell) (defBody s_l_cell) (defScope s_l_cell) [] [] (He.ga K "_law_cell") fd
  f_l_digits : ∃ fd, FunD K "_law_digits" "_law_digits" (defArgs s_l_digits) (defBody s_l_digits) (defScope s_l_digits) [] [] (He.ga K "_law_digits") fd
  f_l_seed : ∃ fd, FunD K "_law_seed" "_law_seed" (defArgs s_l_seed) (defBody s_l_seed) (defScope s_l_seed) [] [] (He.ga K "_law_seed") fd
  f_l_word : ∃ fd, FunD K "_law_word" "_law_word" (defArgs s_l_word) (defBody s_l_word) (defScope s_l_word) [] [] (He.ga K "_law_word") fd
  f_l_price : ∃ fd, FunD K "_law_price" "_law_price" (defArgs s_l_price) (defBody s_l_price) (defScope s_l_price) [] [] (He.ga K "_law_price") fd
  f_l_open : ∃ fd, FunD K "_law_open" "_law_open" (defArgs s_l_open) (defBody s_l_open) (defScope s_l_open) [] [] (He.ga K "_law_open") fd
  f_l_block : ∃ fd, FunD K "_law_block" "_law_block" (defArgs s_l_block) (defBody s_l_block) (defScope s_l_block) [] [] (He.ga K "_law_block") fd
  f_l_exit : ∃ fd, FunD K "_law_exit" "_law_exit" (defArgs s_l_exit) (defBody s_l_exit) (defScope s_l_exit) [] [] (He.ga K "_law_exit") fd
  f_l_tame : ∃ fd, FunD K "_law_tame" "_law_tame" (defArgs s_l_tame) (defBody s_l_tame) (defScope s_l_tame) [] [] (He.ga K "_law_tame") fd
  f_l_numbered : ∃ fd, FunD K "_law_numbered" "_law_numbered" (defArgs s_l_numbered) (defBody s_l_numbered) (defScope s_l_numbered) [] [] (He.ga K "_law_numbered") fd
  f_l_any : ∃ fd, FunD K "_law_any" "_law_any" (defArgs s_l_any) (defBody s_l_any) (defScope s_l_any) [] [] (He.ga K "_law_any") fd
  f_l_reach : ∃ fd, FunD K "_law_reach" "_law_reach" (defArgs s_l_reach) (defBody s_l_reach) (defScope s_l_reach) [] [] (He.ga K "_law_reach") fd
  f_l_parts : ∃ fd, FunD K "_law_parts" "_law_parts" (defArgs s_l_parts) (defBody s_l_parts) (defScope s_l_parts) [] [] (He.ga K "_law_parts") fd
  f_l_inner : ∃ fd, FunD K "_law_inner" "_law_inner" (defArgs s_l_inner) (defBody s_l_inner) (defScope s_l_inner) [] [] (He.ga K "_law_inner") fd
  f_l_kind : ∃ fd, FunD K "_law_kind" "_law_kind" (defArgs s_l_kind) (defBody s_l_kind) (defScope s_l_kind) [] [] (He.ga K "_law_kind") fd
  f_l_around : ∃ fd, FunD K "_law_around" "_law_around" (defArgs s_l_around) (defBody s_l_around) (defScope s_l_around) [] [] (He.ga K "_law_around") fd
  f_l_doors : ∃ fd, FunD K "_law_doors" "_law_doors" (defArgs s_l_doors) (defBody s_l_doors) (defScope s_l_doors) [] [] (He.ga K "_law_doors") fd
  f_l_far : ∃ fd, FunD K "_law_far" "_law_far" (defArgs s_l_far) (defBody s_l_far) (defScope s_l_far) [] [] (He.ga K "_law_far") fd
  f_l_gap : ∃ fd, FunD K "_law_gap" "_law_gap" (defArgs s_l_gap) (defBody s_l_gap) (defScope s_l_gap) [] [] (He.ga K "_law_gap") fd
  f_l_cost : ∃ fd, FunD K "_law_cost" "_law_cost" (defArgs s_l_cost) (defBody s_l_cost) (defScope s_l_cost) [] [] (He.ga K "_law_cost") fd
  f_l_is_int : ∃ fd, FunD K "_law_is_int" "_law_is_int" (defArgs s_l_is_int) (defBody s_l_is_int) (defScope s_l_is_int) [] [] (He.ga K "_law_is_int") fd
  f_l_value : ∃ fd, FunD K "_law_value" "_law_value" (defArgs s_l_value) (defBody s_l_value) (defScope s_l_value) [] [] (He.ga K "_law_value") fd
  f_l_is_worth : ∃ fd, FunD K "_law_is_worth" "_law_is_worth" (defArgs s_l_is_worth) (defBody s_l_is_worth) (defScope s_l_is_worth) [] [] (He.ga K "_law_is_worth") fd
  f_l_dearer : ∃ fd, FunD K "_law_dearer" "_law_dearer" (defArgs s_l_dearer) (defBody s_l_dearer) (defScope s_l_dearer) [] [] (He.ga K "_law_dearer") fd
  f_l_wider : ∃ fd, FunD K "_law_wider" "_law_wider" (defArgs s_l_wider) (defBody s_l_wider) (defScope s_l_wider) [] [] (He.ga K "_law_wider") fd
  f_l_free : ∃ fd, FunD K "_law_free" "_law_free" (defArgs s_l_free) (defBody s_l_free) (defScope s_l_free) [] [] (He.ga K "_law_free") fd
  f_l_later : ∃ fd, FunD K "_law_later" "_law_later" (defArgs s_l_later) (defBody s_l_later) (defScope s_l_later) [] [] (He.ga K "_law_later") fd
  f_l_rises : ∃ fd, FunD K "_law_rises" "_law_rises" (defArgs s_l_rises) (defBody s_l_rises) (defScope s_l_rises) [] [] (He.ga K "_law_rises") fd
  f_l_not_lower : ∃ fd, FunD K "_law_not_lower" "_law_not_lower" (defArgs s_l_not_lower) (defBody s_l_not_lower) (defScope s_l_not_lower) [] [] (He.ga K "_law_not_lower") fd
  f_law : ∃ fd, FunD K "law" "law" (defArgs s_law) (defBody s_law) (defScope s_law) [] [] (He.ga K "law") fd
theorem txt_of {K : PySem.W.Frag} {mg : Str → Option Value} {h : Heap} (X : K.In h) (G : h.Ns mainGlobals mg) (c : He.SaysD fa fn K) : Txt K mg where
  g_is_name := He.glo_ok X G (c.fact 0 (f := .glo "is_name") rfl)
  g_distinct := He.glo_ok X G (c.fact 1 (f := .glo "distinct") rfl)
  g_check_rows := He.glo_ok X G (c.fact 2 (f := .glo "check_rows") rfl)
  g_is_good_row := He.glo_ok X G (c.fact 3 (f := .glo "is_good_row") rfl)
  g_check_reached := He.glo_ok X G (c.fact 4 (f := .glo "check_reached") rfl)
  g_check_ends := He.glo_ok X G (c.fact 5 (f := .glo "check_ends") rfl)
  g_nexts_of := He.glo_ok X G (c.fact 6 (f := .glo "nexts_of") rfl)
  g_backs_of := He.glo_ok X G (c.fact 7 (f := .glo "backs_of") rfl)
  g_spread := He.glo_ok X G (c.fact 8 (f := .glo "spread") rfl)
  g_components := He.glo_ok X G (c.fact 9 (f := .glo "components") rfl)
  g_parts_of := He.glo_ok X G (c.fact 10 (f := .glo "parts_of") rfl)
  g_leaving := He.glo_ok X G (c.fact 11 (f := .glo "leaving") rfl)
  g_entering := He.glo_ok X G (c.fact 12 (f := .glo "entering") rfl)
  g_class_numbers := He.glo_ok X G (c.fact 13 (f := .glo "class_numbers") rfl)
  g_left_order := He.glo_ok X G (c.fact 14 (f := .glo "left_order") rfl)
  g_component_of := He.glo_ok X G (c.fact 15 (f := .glo "component_of") rfl)
  g_kinds := He.glo_ok X G (c.fact 16 (f := .glo "kinds") rfl)
  g_kind_of := He.glo_ok X G (c.fact 17 (f := .glo "kind_of") rfl)
  g_internal := He.glo_ok X G (c.fact 18 (f := .glo "internal") rfl)
  g_check_ring := He.glo_ok X G (c.fact 19 (f := .glo "check_ring") rfl)
  g_sums_of := He.glo_ok X G (c.fact 20 (f := .glo "sums_of") rfl)
  g_rings := He.glo_ok X G (c.fact 21 (f := .glo "rings") rfl)
  g_ring_table := He.glo_ok X G (c.fact 22 (f := .glo "ring_table") rfl)
  g_made_ring := He.glo_ok X G (c.fact 23 (f := .glo "made_ring") rfl)
  g_entered_nodes := He.glo_ok X G (c.fact 24 (f := .glo "entered_nodes") rfl)
  g_worth := He.glo_ok X G (c.fact 25 (f := .glo "worth") rfl)
  g_with_price := He.glo_ok X G (c.fact 26 (f := .glo "with_price") rfl)
  g_with_successor := He.glo_ok X G (c.fact 27 (f := .glo "with_successor") rfl)
  g_with_row := He.glo_ok X G (c.fact 28 (f := .glo "with_row") rfl)
  g_l_cell := He.glo_ok X G (c.fact 29 (f := .glo "_law_cell") rfl)
  g_l_digits := He.glo_ok X G (c.fact 30 (f := .glo "_law_digits") rfl)
  g_l_seed := He.glo_ok X G (c.fact 31 (f := .glo "_law_seed") rfl)
  g_l_word := He.glo_ok X G (c.fact 32 (f := .glo "_law_word") rfl)
  g_l_price := He.glo_ok X G (c.fact 33 (f := .glo "_law_price") rfl)
  g_l_open := He.glo_ok X G (c.fact 34 (f := .glo "_law_open") rfl)
  g_l_block := He.glo_ok X G (c.fact 35 (f := .glo "_law_block") rfl)
  g_l_exit := He.glo_ok X G (c.fact 36 (f := .glo "_law_exit") rfl)
  g_l_tame := He.glo_ok X G (c.fact 37 (f := .glo "_law_tame") rfl)
  g_l_numbered := He.glo_ok X G (c.fact 38 (f := .glo "_law_numbered") rfl)
  g_l_any := He.glo_ok X G (c.fact 39 (f := .glo "_law_any") rfl)
  g_l_reach := He.glo_ok X G (c.fact 40 (f := .glo "_law_reach") rfl)
  g_l_parts := He.glo_ok X G (c.fact 41 (f := .glo "_law_parts") rfl)
  g_l_inner := He.glo_ok X G (c.fact 42 (f := .glo "_law_inner") rfl)
  g_l_kind := He.glo_ok X G (c.fact 43 (f := .glo "_law_kind") rfl)
  g_l_around := He.glo_ok X G (c.fact 44 (f := .glo "_law_around") rfl)
  g_l_doors := He.glo_ok X G (c.fact 45 (f := .glo "_law_doors") rfl)
  g_l_far := He.glo_ok X G (c.fact 46 (f := .glo "_law_far") rfl)
  g_l_gap := He.glo_ok X G (c.fact 47 (f := .glo "_law_gap") rfl)
  g_l_cost := He.glo_ok X G (c.fact 48 (f := .glo "_law_cost") rfl)
  g_l_is_int := He.glo_ok X G (c.fact 49 (f := .glo "_law_is_int") rfl)
  g_l_value := He.glo_ok X G (c.fact 50 (f := .glo "_law_value") rfl)
  g_l_is_worth := He.glo_ok X G (c.fact 51 (f := .glo "_law_is_worth") rfl)
  g_l_dearer := He.glo_ok X G (c.fact 52 (f := .glo "_law_dearer") rfl)
  g_l_wider := He.glo_ok X G (c.fact 53 (f := .glo "_law_wider") rfl)
  g_l_free := He.glo_ok X G (c.fact 54 (f := .glo "_law_free") rfl)
  g_l_later := He.glo_ok X G (c.fact 55 (f := .glo "_law_later") rfl)
  g_l_rises := He.glo_ok X G (c.fact 56 (f := .glo "_law_rises") rfl)
  g_l_not_lower := He.glo_ok X G (c.fact 57 (f := .glo "_law_not_lower") rfl)
  g_law := He.glo_ok X G (c.fact 58 (f := .glo "law") rfl)
  g_ForeworthError := He.glo_ok X G (c.fact 59 (f := .glo "ForeworthError") rfl)
  g_BadNode := He.glo_ok X G (c.fact 60 (f := .glo "BadNode") rfl)
  g_Unreachable := He.glo_ok X G (c.fact 61 (f := .glo "Unreachable") rfl)
  g_NoEnd := He.glo_ok X G (c.fact 62 (f := .glo "NoEnd") rfl)
  g_BadRing := He.glo_ok X G (c.fact 63 (f := .glo "BadRing") rfl)
  g_Graph := He.glo_ok X G (c.fact 64 (f := .glo "Graph") rfl)
  g_Ring := He.glo_ok X G (c.fact 65 (f := .glo "Ring") rfl)
  z_len := He.free_ok X G (c.fact 66 (f := .free "len") rfl)
  z_abs := He.free_ok X G (c.fact 67 (f := .free "abs") rfl)
  z_range := He.free_ok X G (c.fact 68 (f := .free "range") rfl)
  z_int := He.free_ok X G (c.fact 69 (f := .free "int") rfl)
  z_sorted := He.free_ok X G (c.fact 70 (f := .free "sorted") rfl)
  z_set := He.free_ok X G (c.fact 71 (f := .free "set") rfl)
  z_max := He.free_ok X G (c.fact 72 (f := .free "max") rfl)
  z_sum := He.free_ok X G (c.fact 73 (f := .free "sum") rfl)
  z_min := He.free_ok X G (c.fact 74 (f := .free "min") rfl)
  z_tuple := He.free_ok X G (c.fact 75 (f := .free "tuple") rfl)
  z_isinstance := He.free_ok X G (c.fact 76 (f := .free "isinstance") rfl)
  z_bool := He.free_ok X G (c.fact 77 (f := .free "bool") rfl)
  z_list := He.free_ok X G (c.fact 78 (f := .free "list") rfl)
  z_reversed := He.free_ok X G (c.fact 79 (f := .free "reversed") rfl)
  z_super := He.free_ok X G (c.fact 80 (f := .free "super") rfl)
  z_ValueError := He.free_ok X G (c.fact 81 (f := .free "ValueError") rfl)
  k_END := He.int_ok X G (c.fact 82 (f := .int "END" (-1)) rfl)
  cl_Ring := He.cls_ok (c.fact 83 (f := .cls "Ring") rfl)
  mk_Ring := He.mkr_ok (c.fact 84 (f := .mkr "Ring") rfl)
  na_Ring_size := He.noat_ok (c.fact 85 (f := .noat "Ring" "size") rfl)
  na_Ring_prices := He.noat_ok (c.fact 86 (f := .noat "Ring" "prices") rfl)
  na_Ring_doors := He.noat_ok (c.fact 87 (f := .noat "Ring" "doors") rfl)
  na_Ring_nodes := He.noat_ok (c.fact 88 (f := .noat "Ring" "nodes") rfl)
  na_Ring_sums := He.noat_ok (c.fact 89 (f := .noat "Ring" "_sums") rfl)
  me_Ring_chosen := He.meth_ok (c.fact 90 (f := .meth "Ring" "_chosen") rfl)
  me_Ring_gap := He.meth_ok (c.fact 91 (f := .meth "Ring" "_gap") rfl)
  me_Ring_cost := He.meth_ok (c.fact 92 (f := .meth "Ring" "cost") rfl)
  me_Ring_far := He.meth_ok (c.fact 93 (f := .meth "Ring" "far") rfl)
  me_Ring_greatest_gap := He.meth_ok (c.fact 94 (f := .meth "Ring" "greatest_gap") rfl)
  me_Ring_whole := He.meth_ok (c.fact 95 (f := .meth "Ring" "whole") rfl)
  cl_Graph := He.cls_ok (c.fact 96 (f := .cls "Graph") rfl)
  mk_Graph := He.mkr_ok (c.fact 97 (f := .mkr "Graph") rfl)
  na_Graph_size := He.noat_ok (c.fact 98 (f := .noat "Graph" "size") rfl)
  na_Graph_rows := He.noat_ok (c.fact 99 (f := .noat "Graph" "_rows") rfl)
  me_Graph_price := He.meth_ok (c.fact 100 (f := .meth "Graph" "price") rfl)
  me_Graph_rows := He.meth_ok (c.fact 101 (f := .meth "Graph" "rows") rfl)
  me_Graph_successors := He.meth_ok (c.fact 102 (f := .meth "Graph" "successors") rfl)
  me_Graph_word := He.meth_ok (c.fact 103 (f := .meth "Graph" "word") rfl)
  f_is_name := c.def_ 0 (d := d_is_name) rfl
  f_distinct := c.def_ 1 (d := d_distinct) rfl
  f_Graph_init := c.def_ 2 (d := d_Graph_init) rfl
  f_Graph_rows := c.def_ 3 (d := d_Graph_rows) rfl
  f_Graph_word := c.def_ 4 (d := d_Graph_word) rfl
  f_Graph_price := c.def_ 5 (d := d_Graph_price) rfl
  f_Graph_successors := c.def_ 6 (d := d_Graph_successors) rfl
  f_check_rows := c.def_ 7 (d := d_check_rows) rfl
  f_is_good_row := c.def_ 8 (d := d_is_good_row) rfl
  f_check_reached := c.def_ 9 (d := d_check_reached) rfl
  f_check_ends := c.def_ 10 (d := d_check_ends) rfl
  f_nexts_of := c.def_ 11 (d := d_nexts_of) rfl
  f_backs_of := c.def_ 12 (d := d_backs_of) rfl
  f_spread := c.def_ 13 (d := d_spread) rfl
  f_components := c.def_ 14 (d := d_components) rfl
  f_parts_of := c.def_ 15 (d := d_parts_of) rfl
  f_leaving := c.def_ 16 (d := d_leaving) rfl
  f_entering := c.def_ 17 (d := d_entering) rfl
  f_class_numbers := c.def_ 18 (d := d_class_numbers) rfl
  f_left_order := c.def_ 19 (d := d_left_order) rfl
  f_component_of := c.def_ 20 (d := d_component_of) rfl
  f_kinds := c.def_ 21 (d := d_kinds) rfl
  f_kind_of := c.def_ 22 (d := d_kind_of) rfl
  f_internal := c.def_ 23 (d := d_internal) rfl
  f_Ring_init := c.def_ 24 (d := d_Ring_init) rfl
  f_Ring_whole := c.def_ 25 (d := d_Ring_whole) rfl
  f_Ring_far := c.def_ 26 (d := d_Ring_far) rfl
  f_Ring_greatest_gap := c.def_ 27 (d := d_Ring_greatest_gap) rfl
  f_Ring_cost := c.def_ 28 (d := d_Ring_cost) rfl
  f_Ring_chosen := c.def_ 29 (d := d_Ring_chosen) rfl
  f_Ring_gap := c.def_ 30 (d := d_Ring_gap) rfl
  f_check_ring := c.def_ 31 (d := d_check_ring) rfl
  f_sums_of := c.def_ 32 (d := d_sums_of) rfl
  f_rings := c.def_ 33 (d := d_rings) rfl
  f_ring_table := c.def_ 34 (d := d_ring_table) rfl
  f_made_ring := c.def_ 35 (d := d_made_ring) rfl
  f_entered_nodes := c.def_ 36 (d := d_entered_nodes) rfl
  f_worth := c.def_ 37 (d := d_worth) rfl
  f_with_price := c.def_ 38 (d := d_with_price) rfl
  f_with_successor := c.def_ 39 (d := d_with_successor) rfl
  f_with_row := c.def_ 40 (d := d_with_row) rfl
  f_l_cell := c.def_ 41 (d := d_l_cell) rfl
  f_l_digits := c.def_ 42 (d := d_l_digits) rfl
  f_l_seed := c.def_ 43 (d := d_l_seed) rfl
  f_l_word := c.def_ 44 (d := d_l_word) rfl
  f_l_price := c.def_ 45 (d := d_l_price) rfl
  f_l_open := c.def_ 46 (d := d_l_open) rfl
  f_l_block := c.def_ 47 (d := d_l_block) rfl
  f_l_exit := c.def_ 48 (d := d_l_exit) rfl
  f_l_tame := c.def_ 49 (d := d_l_tame) rfl
  f_l_numbered := c.def_ 50 (d := d_l_numbered) rfl
  f_l_any := c.def_ 51 (d := d_l_any) rfl
  f_l_reach := c.def_ 52 (d := d_l_reach) rfl
  f_l_parts := c.def_ 53 (d := d_l_parts) rfl
  f_l_inner := c.def_ 54 (d := d_l_inner) rfl
  f_l_kind := c.def_ 55 (d := d_l_kind) rfl
  f_l_around := c.def_ 56 (d := d_l_around) rfl
  f_l_doors := c.def_ 57 (d := d_l_doors) rfl
  f_l_far := c.def_ 58 (d := d_l_far) rfl
  f_l_gap := c.def_ 59 (d := d_l_gap) rfl
  f_l_cost := c.def_ 60 (d := d_l_cost) rfl
  f_l_is_int := c.def_ 61 (d := d_l_is_int) rfl
  f_l_value := c.def_ 62 (d := d_l_value) rfl
  f_l_is_worth := c.def_ 63 (d := d_l_is_worth) rfl
  f_l_dearer := c.def_ 64 (d := d_l_dearer) rfl
  f_l_wider := c.def_ 65 (d := d_l_wider) rfl
  f_l_free := c.def_ 66 (d := d_l_free) rfl
  f_l_later := c.def_ 67 (d := d_l_later) rfl
  f_l_rises := c.def_ 68 (d := d_l_rises) rfl
  f_l_not_lower := c.def_ 69 (d := d_l_not_lower) rfl
  f_law := c.def_ 70 (d := d_law) rfl

end K62

/-! Least layings: the mathematics, without any program. -/
namespace Lay
/-! ### sums -/
def cost (w : Int → Int) (T : List Int) : Int := (T.map w).sum
theorem cost_nil (w : Int → Int) : cost w [] = 0 := rfl
theorem cost_cons (w : Int → Int) (t : Int) (T : List Int) : cost w (t :: T) = w t + cost w T := by
  unfold cost; rw [List.map_cons, List.sum_cons]
theorem cost_nonneg {w : Int → Int} (hw : ∀ c, 0 ≤ w c) : ∀ T : List Int, 0 ≤ cost w T
  | [] => by rw [cost_nil]; omega
  | t :: T => by have h1 := hw t; have h2 := cost_nonneg hw T; rw [cost_cons]; omega
theorem cost_erase {w : Int → Int} {x : Int} : ∀ {T : List Int}, x ∈ T → cost w T = w x + cost w (T.erase x)
  | [], h => by cases h
  | t :: T, h => by
    by_cases e : t = x
    · subst e
      rw [List.erase_cons_head, cost_cons]
    · have hx : x ∈ T := by
        rcases List.mem_cons.mp h with q | q
        · exact absurd q.symm e
        · exact q
      have ih := cost_erase (w := w) hx
      rw [List.erase_cons_tail (by simpa using e), cost_cons, cost_cons, ih]
      omega
theorem cost_sub {w : Int → Int} (hw : ∀ c, 0 ≤ w c) : ∀ {l T : List Int}, l.Nodup → (∀ x ∈ l, x ∈ T) → cost w l ≤ cost w T
  | [], T, _, _ => by rw [cost_nil]; exact cost_nonneg hw T
  | x :: l, T, hn, hs => by
    have hx : x ∈ T := hs x (List.mem_cons_self ..)
    have hn2 := List.nodup_cons.mp hn
    have ih := cost_sub hw (l := l) (T := T.erase x) hn2.2 (fun y hy => (List.mem_erase_of_ne (fun e => hn2.1 (by rw [← e]; exact hy))).mpr (hs y (List.mem_cons_of_mem _ hy)))
    rw [cost_cons, cost_erase hx]
    omega
theorem cost_map {w : Int → Int} {f : Int → Int} (h : ∀ c, w (f c) = w c) (T : List Int) : cost w (T.map f) = cost w T := by
  unfold cost
  rw [List.map_map]
  exact congrArg List.sum (List.map_congr_left fun c _ => h c)
theorem cost_append (w : Int → Int) (S T : List Int) : cost w (S ++ T) = cost w S + cost w T := by
  unfold cost; rw [List.map_append, List.sum_append]
theorem emod_le_self {a k : Int} (ha : 0 ≤ a) (hk : 0 ≤ k) : a % k ≤ a := by
  have h1 := Int.mul_ediv_add_emod a k
  have h2 := Int.mul_nonneg hk (Int.ediv_nonneg ha hk)
  omega
/-! ### lines, coordinates -/
/-- the positions of a stay -/
def line (k : Int) (d : Int) : Nat → List Int
  | 0 => []
  | l + 1 => d % k :: line k (d + 1) l
theorem line_eq (k d : Int) : ∀ l, line k d l = (List.range l).map fun j : Nat => (d + j) % k
  | 0 => rfl
  | l + 1 => by
    rw [List.range_succ_eq_map, List.map_cons, List.map_map]
    show d % k :: line k (d + 1) l = _
    rw [line_eq k (d + 1) l]
    have e0 : d + ((0 : Nat) : Int) = d := by omega
    rw [e0]
    refine congrArg _ (List.map_congr_left fun j _ => ?_)
    show (d + 1 + (j : Int)) % k = (d + ((j + 1 : Nat) : Int)) % k
    congr 1
    omega
def at_ (k b : Int) (c : Int) : Bool := decide (c % k = b % k)
def coords (k : Int) : List Int → List Int
  | [] => []
  | b :: S => (match (coords k S).find? (at_ k (b + 1)) with | some c => c - 1 | none => b) :: coords k S
def co1 (k b : Int) (cs : List Int) : Int := match cs.find? (at_ k (b + 1)) with | some c => c - 1 | none => b
theorem coords_cons (k b : Int) (S : List Int) : coords k (b :: S) = co1 k b (coords k S) :: coords k S := rfl
theorem co1_mod (k b : Int) (cs : List Int) : co1 k b cs % k = b % k := by
  unfold co1
  split
  · rename_i c h
    have h2 : at_ k (b + 1) c = true := List.find?_some h
    have h3 : c % k = (b + 1) % k := of_decide_eq_true h2
    have h4 : (c - 1) % k = (b + 1 - 1) % k := (Int.emod_sub_cancel_right 1).mpr h3
    rw [h4, Int.add_sub_cancel]
  · rfl
theorem coords_mod (k : Int) : ∀ S : List Int, (coords k S).map (· % k) = S.map (· % k)
  | [] => rfl
  | b :: S => by
    rw [coords_cons, List.map_cons, List.map_cons, coords_mod k S]
    show co1 k b (coords k S) % k :: _ = _
    rw [co1_mod]
theorem coords_cost {k : Int} {w : Int → Int} (hw : ∀ c, w (c % k) = w c) (S : List Int) : cost w (coords k S) = cost w S := by
  have e := congrArg (cost w) (coords_mod k S)
  rw [cost_map (f := (· % k)) hw, cost_map (f := (· % k)) hw] at e
  exact e
theorem at_self {k b c : Int} (h : c % k = b % k) : at_ k b c = true := decide_eq_true h
theorem coords_line {k : Int} : ∀ (S : List Int) (d : Int) (l : Nat), (∀ b ∈ S, b % k = b) → (line k d (l + 1)).Sublist S →
    ∃ x, (coords k S).find? (at_ k d) = some x ∧ ∀ j : Nat, j < l + 1 → x + j ∈ coords k S
  | [], d, l, _, h => by
    have h2 := h.length_le
    simp [line] at h2
  | b :: S, d, l, hb, h => by
    have hb2 : ∀ c ∈ S, c % k = c := fun c hc => hb c (List.mem_cons_of_mem _ hc)
    have hbb : b % k = b := hb b (List.mem_cons_self ..)
    rw [coords_cons]
    by_cases e : b = d % k
    · have ebd : b % k = d % k := by rw [e, Int.emod_emod]
      have hat : at_ k d (co1 k b (coords k S)) = true := at_self (by rw [co1_mod, ebd])
      refine ⟨co1 k b (coords k S), by rw [List.find?_cons, hat], fun j hj => ?_⟩
      cases j with
      | zero =>
        have e0 : co1 k b (coords k S) + ((0 : Nat) : Int) = co1 k b (coords k S) := by omega
        rw [e0]
        exact List.mem_cons_self ..
      | succ j =>
        obtain ⟨l, rfl⟩ : ∃ m, l = m + 1 := ⟨l - 1, by omega⟩
        have hs : (line k (d + 1) (l + 1)).Sublist S := by
          have h3 : (d % k :: line k (d + 1) (l + 1)).Sublist (b :: S) := h
          rw [← e] at h3
          exact h3.of_cons_cons
        obtain ⟨x, hx, hm⟩ := coords_line S (d + 1) l hb2 hs
        have e1 : at_ k (b + 1) = at_ k (d + 1) := by
          funext c
          unfold at_
          have e2 : (b + 1) % k = (d + 1) % k := by rw [Int.add_emod, ebd, ← Int.add_emod]
          rw [e2]
        have e3 : co1 k b (coords k S) = x - 1 := by
          unfold co1
          rw [e1, hx]
        refine List.mem_cons_of_mem _ ?_
        have h4 := hm j (by omega)
        rw [e3]
        have e5 : x - 1 + ((j + 1 : Nat) : Int) = x + (j : Int) := by omega
        rw [e5]
        exact h4
    · have hs : (line k d (l + 1)).Sublist S := by
        have h3 : (d % k :: line k (d + 1) l).Sublist (b :: S) := h
        cases h3 with
        | cons _ q => exact q
        | cons_cons _ q => exact absurd rfl e
      obtain ⟨x, hx, hm⟩ := coords_line S d l hb2 hs
      have hat : at_ k d (co1 k b (coords k S)) = false := by
        refine decide_eq_false ?_
        rw [co1_mod, hbb]
        exact e
      exact ⟨x, by rw [List.find?_cons, hat]; exact hx, fun j hj => List.mem_cons_of_mem _ (hm j hj)⟩
/-! ### moving the upper part -/
abbrev Pl := List (Int × Nat)
def Cov (pl : Pl) (T : List Int) : Prop := ∀ q ∈ pl, ∀ j : Nat, j < q.2 → q.1 + j ∈ T
theorem below (T : List Int) (a : Int) : ∃ B, B < a ∧ ∀ t ∈ T, B < t := by
  induction T with
  | nil => exact ⟨a - 1, by omega, fun t ht => by cases ht⟩
  | cons t T ih =>
    obtain ⟨B, h1, h2⟩ := ih
    refine ⟨min B (t - 1), by omega, fun u hu => ?_⟩
    rcases List.mem_cons.mp hu with e | e
    · subst e; omega
    · have := h2 u e; omega
theorem gap_at {T : List Int} {B : Int} (hB : ∀ t ∈ T, B < t) : ∀ (n : Nat) (M : Int), M - B ≤ n → B < M → ∃ g, g < M ∧ g ∉ T ∧ ∀ x, g < x → x < M → x ∈ T
  | 0, M, h1, h2 => by omega
  | n + 1, M, h1, h2 => by
    by_cases h : M - 1 ∈ T
    · have h3 := hB _ h
      obtain ⟨g, g1, g2, g3⟩ := gap_at hB n (M - 1) (by omega) h3
      refine ⟨g, by omega, g2, fun x x1 x2 => ?_⟩
      by_cases e : x = M - 1
      · rw [e]; exact h
      · exact g3 x x1 (by omega)
    · exact ⟨M - 1, by omega, h, fun x x1 x2 => by omega⟩
theorem max_of : ∀ pl : Pl, pl ≠ [] → ∃ q ∈ pl, ∀ r ∈ pl, r.1 ≤ q.1
  | [], h => absurd rfl h
  | [q], _ => ⟨q, List.mem_cons_self .., fun r hr => by
    rw [List.mem_singleton.mp hr]
    exact Int.le_refl _⟩
  | q :: r :: pl, _ => by
    obtain ⟨m, hm, h⟩ := max_of (r :: pl) (List.cons_ne_nil _ _)
    by_cases e : m.1 ≤ q.1
    · refine ⟨q, List.mem_cons_self .., fun z hz => ?_⟩
      rcases List.mem_cons.mp hz with e2 | e2
      · rw [e2]; exact Int.le_refl _
      · exact Int.le_trans (h z e2) e
    · refine ⟨m, List.mem_cons_of_mem _ hm, fun z hz => ?_⟩
      rcases List.mem_cons.mp hz with e2 | e2
      · rw [e2]; omega
      · exact h z e2
theorem min_over (g : Int) : ∀ pl : Pl, (∃ q ∈ pl, g < q.1) → ∃ q ∈ pl, g < q.1 ∧ ∀ r ∈ pl, g < r.1 → q.1 ≤ r.1
  | [], ⟨q, hq, _⟩ => by cases hq
  | q :: pl, h => by
    by_cases hpl : ∃ r ∈ pl, g < r.1
    · obtain ⟨m, hm, hg, hmin⟩ := min_over g pl hpl
      by_cases e : g < q.1 ∧ q.1 ≤ m.1
      · refine ⟨q, List.mem_cons_self .., e.1, fun r hr hr2 => ?_⟩
        rcases List.mem_cons.mp hr with e2 | e2
        · rw [e2]; exact Int.le_refl _
        · exact Int.le_trans e.2 (hmin r e2 hr2)
      · refine ⟨m, List.mem_cons_of_mem _ hm, hg, fun r hr hr2 => ?_⟩
        rcases List.mem_cons.mp hr with e2 | e2
        · subst e2
          by_cases e3 : r.1 ≤ m.1
          · exact absurd ⟨hr2, e3⟩ e
          · omega
        · exact hmin r e2 hr2
    · obtain ⟨r, hr, hr2⟩ := h
      rcases List.mem_cons.mp hr with e2 | e2
      · subst e2
        refine ⟨r, List.mem_cons_self .., hr2, fun z hz hz2 => ?_⟩
        rcases List.mem_cons.mp hz with e3 | e3
        · rw [e3]; exact Int.le_refl _
        · exact absurd ⟨z, e3, hz2⟩ hpl
      · exact absurd ⟨r, e2, hr2⟩ hpl
/-- how far the starts lie above a -/
def span (a : Int) : Pl → Nat
  | [] => 0
  | q :: pl => (q.1 - a).toNat + span a pl
def down (g k : Int) (q : Int × Nat) : Int × Nat := if g < q.1 then (q.1 - k, q.2) else q
theorem span_down {a g k : Int} (hk : 0 < k) : ∀ pl : Pl, span a (pl.map (down g k)) ≤ span a pl
  | [] => Nat.le_refl _
  | q :: pl => by
    have ih := span_down (a := a) (g := g) hk pl
    show ((down g k q).1 - a).toNat + span a (pl.map (down g k)) ≤ (q.1 - a).toNat + span a pl
    unfold down
    by_cases e : g < q.1
    · rw [if_pos e]
      show (q.1 - k - a).toNat + _ ≤ _
      unfold down at ih
      omega
    · rw [if_neg e]
      unfold down at ih
      omega
theorem span_down_lt {a g k : Int} (hk : 0 < k) : ∀ pl : Pl, (∃ q ∈ pl, g < q.1 ∧ a < q.1) → span a (pl.map (down g k)) < span a pl
  | [], ⟨q, hq, _⟩ => by cases hq
  | q :: pl, h => by
    have hle := span_down (a := a) (g := g) hk pl
    show ((down g k q).1 - a).toNat + span a (pl.map (down g k)) < (q.1 - a).toNat + span a pl
    obtain ⟨r, hr, h1, h2⟩ := h
    by_cases hq : g < q.1 ∧ a < q.1
    · have e : down g k q = (q.1 - k, q.2) := if_pos hq.1
      rw [e]
      show (q.1 - k - a).toNat + _ < _
      have := hq.2
      omega
    · have hr2 : r ∈ pl := by
        rcases List.mem_cons.mp hr with e2 | e2
        · subst e2; exact absurd ⟨h1, h2⟩ hq
        · exact e2
      have ih := span_down_lt (a := a) (g := g) hk pl ⟨r, hr2, h1, h2⟩
      have h3 : ((down g k q).1 - a).toNat ≤ (q.1 - a).toNat := by
        unfold down
        by_cases e : g < q.1
        · rw [if_pos e]
          show (q.1 - k - a).toNat ≤ _
          omega
        · rw [if_neg e]
          exact Nat.le_refl _
      omega
theorem cov_low {pl : Pl} {T : List Int} {g : Int} (hc : Cov pl T) (hg : g ∉ T) {q : Int × Nat} (hq : q ∈ pl) (h : q.1 ≤ g) {j : Nat} (hj : j < q.2) : q.1 + j ≤ g := by
  by_cases e : q.1 + j ≤ g
  · exact e
  · exfalso
    have h2 := hc q hq (g - q.1).toNat (by omega)
    have e2 : q.1 + ((g - q.1).toNat : Int) = g := by omega
    rw [e2] at h2
    exact hg h2
theorem together {k : Int} (hk : 0 < k) {w : Int → Int} (hw : ∀ c, w (c + k) = w c) (a : Int) : ∀ (n : Nat) (pl : Pl) (T : List Int), span a pl ≤ n → pl ≠ [] → (∀ q ∈ pl, a ≤ q.1) → Cov pl T →
    ∃ (z : Int) (T2 : List Int), (∃ q ∈ pl, q.1 % k = z % k) ∧ cost w T2 = cost w T ∧ ∀ q ∈ pl, ∀ j : Nat, j < q.2 → z + (q.1 - z) % k + j ∈ T2 := by
  intro n
  induction n with
  | zero => exact fun pl T h hne ha hc => core hk hw a 0 (fun pl2 T2 h2 => absurd h2 (Nat.not_lt_zero _)) pl T h hne ha hc
  | succ n ih => exact fun pl T h hne ha hc => core hk hw a (n + 1) (fun pl2 T2 h2 => ih pl2 T2 (Nat.le_of_lt_succ h2)) pl T h hne ha hc
where
  core {k : Int} (hk : 0 < k) {w : Int → Int} (hw : ∀ c, w (c + k) = w c) (a : Int) (n : Nat)
      (ih : ∀ (pl : Pl) (T : List Int), span a pl < n → pl ≠ [] → (∀ q ∈ pl, a ≤ q.1) → Cov pl T →
        ∃ (z : Int) (T2 : List Int), (∃ q ∈ pl, q.1 % k = z % k) ∧ cost w T2 = cost w T ∧ ∀ q ∈ pl, ∀ j : Nat, j < q.2 → z + (q.1 - z) % k + j ∈ T2)
      (pl : Pl) (T : List Int) (h : span a pl ≤ n) (hne : pl ≠ []) (ha : ∀ q ∈ pl, a ≤ q.1) (hc : Cov pl T) :
      ∃ (z : Int) (T2 : List Int), (∃ q ∈ pl, q.1 % k = z % k) ∧ cost w T2 = cost w T ∧ ∀ q ∈ pl, ∀ j : Nat, j < q.2 → z + (q.1 - z) % k + j ∈ T2 := by
    obtain ⟨m, hm, hmax⟩ := max_of pl hne
    obtain ⟨B, hB1, hB2⟩ := below T m.1
    obtain ⟨g, g1, g2, g3⟩ := gap_at hB2 (m.1 - B).toNat m.1 (by omega) hB1
    obtain ⟨r, hr, hr1, hr2⟩ := min_over g pl ⟨m, hm, g1⟩
    by_cases hlow : ∀ q ∈ pl, q.1 ≤ g → r.1 - k ≤ q.1
    · refine ⟨r.1, T.map (fun t => if t ≤ g then t + k else t), ⟨r, hr, rfl⟩, ?_, fun q hq j hj => ?_⟩
      · refine cost_map (fun c => ?_) T
        by_cases e : c ≤ g
        · rw [if_pos e, hw]
        · rw [if_neg e]
      · by_cases e : q.1 ≤ g
        · have h1 := hlow q hq e
          have h2 := cov_low hc g2 hq e hj
          have e2 : (q.1 - r.1) % k = q.1 - r.1 + k := by
            have e3 : (q.1 - r.1 + k) % k = (q.1 - r.1) % k := by rw [Int.add_emod_right]
            rw [← e3]
            exact Int.emod_eq_of_lt (by omega) (by omega)
          rw [e2]
          refine List.mem_map.mpr ⟨q.1 + j, hc q hq j hj, ?_⟩
          rw [if_pos h2]
          omega
        · have h1 := hr2 q hq (by omega)
          have h2 : (q.1 - r.1) % k ≤ q.1 - r.1 := emod_le_self (by omega) (by omega)
          have h3 : 0 ≤ (q.1 - r.1) % k := Int.emod_nonneg _ (by omega)
          have hin : r.1 + (q.1 - r.1) % k + j ∈ T := by
            by_cases e3 : r.1 + (q.1 - r.1) % k + j < m.1
            · exact g3 _ (by omega) e3
            · have h4 := hmax q hq
              have h5 := hc q hq (r.1 + (q.1 - r.1) % k + j - q.1).toNat (by omega)
              have e4 : q.1 + ((r.1 + (q.1 - r.1) % k + j - q.1).toNat : Int) = r.1 + (q.1 - r.1) % k + j := by omega
              rw [e4] at h5
              exact h5
          refine List.mem_map.mpr ⟨_, hin, ?_⟩
          rw [if_neg (by omega)]
    · have hlow2 : ∃ q ∈ pl, q.1 ≤ g ∧ q.1 < r.1 - k := by
        refine Classical.byContradiction fun hn => hlow fun q hq h1 => ?_
        refine Classical.byContradiction fun h2 => hn ⟨q, hq, h1, by omega⟩
      obtain ⟨y, hy, hy1, hy2⟩ := hlow2
      have hya := ha y hy
      have hc2 : Cov (pl.map (down g k)) (T.map (fun t => if g < t then t - k else t)) := by
        intro q2 hq2 j hj
        obtain ⟨q, hq, rfl⟩ := List.mem_map.mp hq2
        unfold down at hj ⊢
        by_cases e : g < q.1
        · rw [if_pos e] at hj ⊢
          refine List.mem_map.mpr ⟨q.1 + j, hc q hq j hj, ?_⟩
          rw [if_pos (by omega)]
          show q.1 + j - k = q.1 - k + j
          omega
        · rw [if_neg e] at hj ⊢
          have h2 := cov_low hc g2 hq (by omega) hj
          refine List.mem_map.mpr ⟨q.1 + j, hc q hq j hj, ?_⟩
          rw [if_neg (by omega)]
      have ha2 : ∀ q ∈ pl.map (down g k), a ≤ q.1 := by
        intro q2 hq2
        obtain ⟨q, hq, rfl⟩ := List.mem_map.mp hq2
        have := ha q hq
        unfold down
        by_cases e : g < q.1
        · rw [if_pos e]
          show a ≤ q.1 - k
          have := hr2 q hq e
          omega
        · rw [if_neg e]
          exact this
      have hlt := span_down_lt (a := a) (g := g) hk pl ⟨r, hr, hr1, by omega⟩
      obtain ⟨z, T2, ⟨q0, hq0, hz⟩, hcost, hcov⟩ := ih (pl.map (down g k)) _ (by omega) (fun e => hne (List.map_eq_nil_iff.mp e)) ha2 hc2
      have hmod : ∀ q : Int × Nat, (down g k q).1 % k = q.1 % k := fun q => by
        unfold down
        by_cases e : g < q.1
        · rw [if_pos e]
          show (q.1 - k) % k = _
          exact Int.sub_emod_right q.1 k
        · rw [if_neg e]
      have hmod2 : ∀ q : Int × Nat, ((down g k q).1 - z) % k = (q.1 - z) % k := fun q => (Int.emod_sub_cancel_right z).mpr (hmod q)
      have hlen : ∀ q : Int × Nat, (down g k q).2 = q.2 := fun q => by
        unfold down
        by_cases e : g < q.1
        · rw [if_pos e]
        · rw [if_neg e]
      obtain ⟨q1, hq1, rfl⟩ := List.mem_map.mp hq0
      refine ⟨z, T2, ⟨q1, hq1, by rw [← hmod]; exact hz⟩, ?_, fun q hq j hj => ?_⟩
      · rw [hcost]
        refine cost_map (fun c => ?_) T
        by_cases e : g < c
        · rw [if_pos e]
          have := hw (c - k)
          rw [Int.sub_add_cancel] at this
          exact this.symm
        · rw [if_neg e]
      · have := hcov (down g k q) (List.mem_map_of_mem hq) j (by rw [hlen]; exact hj)
        rw [hmod2] at this
        exact this
end Lay

namespace Lay
/-! ### the price of the union from a door -/
def covd (k : Int) (st : Pl) (d : Int) (y : Nat) : Bool := st.any fun s => decide ((s.1 - d) % k ≤ (y : Int) ∧ (y : Int) < (s.1 - d) % k + s.2)
def ulist (k : Int) (st : Pl) (d : Int) (B : Nat) : List Int := ((List.range B).filter (covd k st d)).map fun y : Nat => d + y
def usum (w : Int → Int) (k : Int) (st : Pl) (d : Int) (B : Nat) : Int := cost w (ulist k st d B)
def Has (rests : List (List Int)) (S : List Int) : Prop := ∀ r ∈ rests, r.Sublist S
theorem ulist_nodup (k : Int) (st : Pl) (d : Int) (B : Nat) : (ulist k st d B).Nodup := by
  unfold ulist
  refine List.Pairwise.map _ (R := fun a b : Nat => a ≠ b) (fun a b h e => h ?_) ((List.nodup_range).filter _)
  omega
theorem mod_shift {k a b c : Int} (h : a % k = b % k) : (c + (a - b)) % k = c % k := by
  have h1 : (a - b) % k = (b - b) % k := (Int.emod_sub_cancel_right b).mpr h
  rw [Int.sub_self] at h1
  rw [Int.add_emod, h1, Int.zero_emod, Int.add_zero, Int.emod_emod]
theorem union_low {k : Int} (hk : 0 < k) {w : Int → Int} (hw0 : ∀ c, 0 ≤ w c) (hw : ∀ c, w (c % k) = w c) {st : Pl} (hne : st ≠ []) (hl : ∀ s ∈ st, 0 < s.2) {S : List Int} (hS : ∀ b ∈ S, b % k = b)
    (h : ∀ s ∈ st, (line k s.1 s.2).Sublist S) (B : Nat) : ∃ s ∈ st, usum w k st s.1 B ≤ cost w S := by
  have hper : ∀ c, w (c + k) = w c := fun c => by rw [← hw (c + k), Int.add_emod_right, hw]
  let f : Int × Nat → Int × Nat := fun s => (((coords k S).find? (at_ k s.1)).getD 0, s.2)
  have hf : ∀ s ∈ st, (f s).1 % k = s.1 % k ∧ ∀ j : Nat, j < s.2 → (f s).1 + j ∈ coords k S := by
    intro s hs
    obtain ⟨d, l⟩ := s
    have h1 := h _ hs
    have h2 := hl _ hs
    obtain ⟨m, rfl⟩ : ∃ m, l = m + 1 := ⟨l - 1, by have : 0 < l := h2; omega⟩
    obtain ⟨x, hx, hm⟩ := coords_line S d m hS h1
    have e : (f (d, m + 1)).1 = x := by
      show ((coords k S).find? (at_ k d)).getD 0 = x
      rw [hx]
      rfl
    rw [e]
    have hx2 : at_ k d x = true := List.find?_some hx
    exact ⟨of_decide_eq_true hx2, hm⟩
  obtain ⟨a, ha1, ha2⟩ := below ((st.map f).map (·.1)) 0
  obtain ⟨z, T2, ⟨q0, hq0, hz⟩, hcost, hcov⟩ := together hk hper a (span a (st.map f)) (st.map f) (coords k S) (Nat.le_refl _) (fun e => hne (List.map_eq_nil_iff.mp e))
    (fun q hq => Int.le_of_lt (ha2 q.1 (List.mem_map_of_mem hq))) (fun q hq j hj => by
      obtain ⟨s, hs, rfl⟩ := List.mem_map.mp hq
      exact (hf s hs).2 j hj)
  obtain ⟨s0, hs0, rfl⟩ := List.mem_map.mp hq0
  have hzs : s0.1 % k = z % k := by rw [← (hf s0 hs0).1]; exact hz
  refine ⟨s0, hs0, ?_⟩
  have e3 : cost w (T2.map (fun c => c + (s0.1 - z))) = cost w S := by
    rw [cost_map (fun c => ?_), hcost, coords_cost hw]
    rw [← hw (c + (s0.1 - z)), mod_shift hzs, hw]
  rw [← e3]
  refine cost_sub hw0 (ulist_nodup k st s0.1 B) fun x hx => ?_
  obtain ⟨y, hy, rfl⟩ := List.mem_map.mp hx
  have hy2 := (List.mem_filter.mp hy).2
  obtain ⟨s, hs, hs2⟩ := List.any_eq_true.mp hy2
  have hs3 := of_decide_eq_true hs2
  have e4 : ((f s).1 - z) % k = (s.1 - s0.1) % k := by
    rw [Int.sub_emod, (hf s hs).1, ← hzs, ← Int.sub_emod]
  have h5 := hcov (f s) (List.mem_map_of_mem hs) ((y : Int) - (s.1 - s0.1) % k).toNat (by
    show ((y : Int) - (s.1 - s0.1) % k).toNat < s.2
    omega)
  rw [e4] at h5
  refine List.mem_map.mpr ⟨_, h5, ?_⟩
  omega
theorem range_mid (o l B : Nat) (h : o + l ≤ B) : (List.range' o l).Sublist (List.range B) := by
  rw [List.range_eq_range']
  have e : List.range' 0 B = List.range' 0 o ++ (List.range' o l ++ List.range' (o + l) (B - (o + l))) := by
    have e1 : List.range' o l ++ List.range' (o + l) (B - (o + l)) = List.range' o (l + (B - (o + l))) := by
      have := List.range'_append (s := o) (m := l) (n := B - (o + l)) (step := 1)
      rw [Nat.one_mul] at this
      exact this
    have e2 : List.range' 0 o ++ List.range' o (l + (B - (o + l))) = List.range' 0 (o + (l + (B - (o + l)))) := by
      have := List.range'_append (s := 0) (m := o) (n := l + (B - (o + l))) (step := 1)
      rw [Nat.one_mul, Nat.zero_add] at this
      exact this
    rw [e1, e2]
    congr 1
    omega
  rw [e]
  exact (List.sublist_append_left _ _).trans (List.sublist_append_right _ _)
theorem union_has {k : Int} (hk : 0 < k) (st : Pl) (d : Int) (B : Nat) {s : Int × Nat} (hs : s ∈ st) (hB : (s.1 - d) % k + s.2 ≤ (B : Int)) : (line k s.1 s.2).Sublist ((ulist k st d B).map (· % k)) := by
  have h0 : 0 ≤ (s.1 - d) % k := Int.emod_nonneg _ (by omega)
  obtain ⟨o, ho⟩ : ∃ o : Nat, (s.1 - d) % k = o := ⟨((s.1 - d) % k).toNat, by omega⟩
  have e1 : line k s.1 s.2 = (List.range' o s.2).map fun y : Nat => (d + y) % k := by
    rw [line_eq, List.range'_eq_map_range, List.map_map]
    refine List.map_congr_left fun j _ => ?_
    show (s.1 + (j : Int)) % k = (d + ((o + j : Nat) : Int)) % k
    have e2 : d + ((o + j : Nat) : Int) = d + j + (s.1 - d) % k := by omega
    rw [e2, Int.add_emod (d + j), Int.emod_emod, ← Int.add_emod]
    congr 1
    omega
  rw [e1]
  unfold ulist
  rw [List.map_map]
  refine List.Sublist.map _ ?_
  have e3 : (List.range' o s.2).filter (covd k st d) = List.range' o s.2 := by
    refine List.filter_eq_self.mpr fun y hy => ?_
    have hy2 := List.mem_range'_1.mp hy
    refine List.any_eq_true.mpr ⟨s, hs, decide_eq_true ?_⟩
    omega
  rw [← e3]
  exact (range_mid o s.2 B (by omega)).filter _
/-! ### the least price of a list that contains all rows -/
def Least (w : Int → Int) (rests : List (List Int)) (v : Int) : Prop := (∃ S, Has rests S ∧ cost w S = v) ∧ ∀ S, Has rests S → v ≤ cost w S
theorem Least.eq {w : Int → Int} {rests : List (List Int)} {u v : Int} (a : Least w rests u) (b : Least w rests v) : u = v := by
  obtain ⟨⟨S, h1, h2⟩, h3⟩ := a
  obtain ⟨⟨T, h4, h5⟩, h6⟩ := b
  have := h3 T h4
  have := h6 S h1
  omega
def adv (b : Int) : List Int → List Int
  | [] => []
  | x :: r => if x = b then r else x :: r
theorem adv_cons (b x : Int) (r : List Int) : adv b (x :: r) = if x = b then r else x :: r := rfl
theorem least_end {w : Int → Int} (hw : ∀ c, 0 ≤ w c) {rests : List (List Int)} (h : ∀ r ∈ rests, r = []) : Least w rests 0 :=
  ⟨⟨[], fun r hr => by rw [h r hr]; exact List.Sublist.refl _, cost_nil w⟩, fun S _ => cost_nonneg hw S⟩
theorem adv_has {b : Int} {rests : List (List Int)} {S : List Int} (h : Has rests (b :: S)) : Has (rests.map (adv b)) S := by
  intro r hr
  obtain ⟨q, hq, rfl⟩ := List.mem_map.mp hr
  have h1 := h q hq
  cases q with
  | nil => exact List.nil_sublist _
  | cons x q =>
    rw [adv_cons]
    by_cases e : x = b
    · rw [if_pos e]
      rw [e] at h1
      exact h1.of_cons_cons
    · rw [if_neg e]
      cases h1 with
      | cons _ z => exact z
      | cons_cons _ z => exact absurd rfl e
theorem has_adv {b : Int} {rests : List (List Int)} {S : List Int} (h : Has (rests.map (adv b)) S) : Has rests (b :: S) := by
  intro q hq
  have h1 := h (adv b q) (List.mem_map_of_mem hq)
  cases q with
  | nil => exact List.nil_sublist _
  | cons x q =>
    rw [adv_cons] at h1
    by_cases e : x = b
    · rw [if_pos e] at h1
      rw [e]
      exact h1.cons_cons b
    · rw [if_neg e] at h1
      exact h1.cons b
theorem least_step {w : Int → Int} (hw : ∀ c, 0 ≤ w c) {rests : List (List Int)} {v : Int}
    (h1 : ∃ r ∈ rests, ∃ b q u, r = b :: q ∧ Least w (rests.map (adv b)) u ∧ v = w b + u)
    (h2 : ∀ r ∈ rests, ∀ b q, r = b :: q → ∃ u, Least w (rests.map (adv b)) u ∧ v ≤ w b + u) : Least w rests v := by
  obtain ⟨r0, hr0, b0, q0, u0, e0, L0, ev⟩ := h1
  constructor
  · obtain ⟨S, hS, hc⟩ := L0.1
    exact ⟨b0 :: S, has_adv hS, by rw [cost_cons, hc, ev]⟩
  · intro S
    induction S with
    | nil =>
      intro h
      have := (h r0 hr0).length_le
      rw [e0] at this
      simp at this
    | cons c S ih =>
      intro h
      by_cases hc : ∃ r ∈ rests, ∃ q, r = c :: q
      · obtain ⟨r, hr, q, e⟩ := hc
        obtain ⟨u, Lu, hu⟩ := h2 r hr c q e
        have := Lu.2 S (adv_has h)
        rw [cost_cons]
        omega
      · have hS : Has rests S := fun r hr => by
          have h3 := h r hr
          cases r with
          | nil => exact List.nil_sublist _
          | cons x q =>
            cases h3 with
            | cons _ z => exact z
            | cons_cons _ z => exact absurd ⟨_, hr, _, rfl⟩ hc
        have := ih hS
        have := hw c
        rw [cost_cons]
        omega
theorem line_mod (k : Int) : ∀ (l : Nat) (d : Int), (line k d l).map (· % k) = line k d l
  | 0, _ => rfl
  | l + 1, d => by
    show (d % k) % k :: (line k (d + 1) l).map (· % k) = _
    rw [line_mod k l, Int.emod_emod]
    rfl
/-- the least price of a list that contains all stays is the least price of a union from one of their doors -/
theorem laying_least {k : Int} (hk : 0 < k) {w : Int → Int} (hw0 : ∀ c, 0 ≤ w c) (hw : ∀ c, w (c % k) = w c) {st : Pl} (hne : st ≠ []) (hl : ∀ s ∈ st, 0 < s.2) {v : Int} (L : Least w (st.map fun s => line k s.1 s.2) v)
    (B : Nat) (hB : ∀ s ∈ st, k + s.2 ≤ (B : Int)) : (∃ s ∈ st, usum w k st s.1 B ≤ v) ∧ ∀ s ∈ st, v ≤ usum w k st s.1 B := by
  constructor
  · obtain ⟨S, hS, hc⟩ := L.1
    have hS2 : ∀ s ∈ st, (line k s.1 s.2).Sublist (S.map (· % k)) := fun s hs => by
      have h1 := (hS _ (List.mem_map_of_mem hs)).map (· % k)
      rw [line_mod] at h1
      exact h1
    obtain ⟨s, hs, h⟩ := union_low hk hw0 hw hne hl (S := S.map (· % k)) (fun b hb => by
      obtain ⟨c, _, rfl⟩ := List.mem_map.mp hb
      exact Int.emod_emod _ _) hS2 B
    refine ⟨s, hs, ?_⟩
    rw [cost_map hw, hc] at h
    exact h
  · intro s hs
    have h := L.2 ((ulist k st s.1 B).map (· % k)) (fun r hr => by
      obtain ⟨q, hq, rfl⟩ := List.mem_map.mp hr
      refine union_has hk st s.1 B hq ?_
      have h1 := hB q hq
      have h2 := Int.emod_lt_of_pos (q.1 - s.1) hk
      omega)
    rw [cost_map hw] at h
    exact h
end Lay

namespace Lay
/-! ### sums over stretches of whole numbers -/
def seg (w : Int → Int) (a b : Int) : Int := ((List.range (b - a).toNat).map fun i : Nat => w (a + i)).sum
theorem seg_nil (w : Int → Int) {a b : Int} (h : b ≤ a) : seg w a b = 0 := by
  unfold seg
  have e : (b - a).toNat = 0 := by omega
  rw [e]
  rfl
theorem seg_snoc (w : Int → Int) {a b : Int} (h : a ≤ b) : seg w a (b + 1) = seg w a b + w b := by
  unfold seg
  have e : (b + 1 - a).toNat = (b - a).toNat + 1 := by omega
  rw [e, List.range_succ, List.map_append, List.sum_append]
  have e2 : a + ((b - a).toNat : Int) = b := by omega
  simp only [List.map_cons, List.map_nil, List.sum_cons, List.sum_nil, e2, Int.add_zero]
theorem seg_split (w : Int → Int) {a b : Int} (h1 : a ≤ b) : ∀ (n : Nat), seg w a (b + n) = seg w a b + seg w b (b + n)
  | 0 => by
    have e : b + ((0 : Nat) : Int) = b := by omega
    rw [e, seg_nil w (Int.le_refl b)]
    omega
  | n + 1 => by
    have e : b + ((n + 1 : Nat) : Int) = b + n + 1 := by omega
    rw [e, seg_snoc w (by omega), seg_snoc w (by omega), seg_split w h1 n]
    omega
theorem seg_add (w : Int → Int) {a b c : Int} (h1 : a ≤ b) (h2 : b ≤ c) : seg w a c = seg w a b + seg w b c := by
  have h := seg_split w h1 (c - b).toNat
  have e : b + ((c - b).toNat : Int) = c := by omega
  rw [e] at h
  exact h
theorem seg_congr {w u : Int → Int} {a b : Int} (h : ∀ c, a ≤ c → c < b → w c = u c) : seg w a b = seg u a b := by
  unfold seg
  refine congrArg List.sum (List.map_congr_left fun i hi => ?_)
  have := List.mem_range.mp hi
  exact h _ (by omega) (by omega)
theorem seg_zero {w : Int → Int} {a b : Int} (h : ∀ c, a ≤ c → c < b → w c = 0) : seg w a b = 0 := by
  rw [seg_congr (u := fun _ => 0) h]
  unfold seg
  induction (b - a).toNat with
  | zero => rfl
  | succ n ih => rw [List.range_succ, List.map_append, List.sum_append, ih]; rfl
theorem seg_shift (w : Int → Int) (d a b : Int) : seg w (d + a) (d + b) = seg (fun y => w (d + y)) a b := by
  unfold seg
  have e : (d + b - (d + a)).toNat = (b - a).toNat := by omega
  rw [e]
  refine congrArg List.sum (List.map_congr_left fun i _ => ?_)
  show w (d + a + i) = w (d + (a + i))
  congr 1
  omega
/-- one round -/
theorem seg_round {w : Int → Int} {k : Int} (hk : 0 ≤ k) (hw : ∀ c, w (c + k) = w c) (a : Int) : seg w a (a + k) = seg w 0 k := by
  have step : ∀ c, seg w (c + 1) (c + 1 + k) = seg w c (c + k) := fun c => by
    have h1 := seg_snoc w (a := c) (b := c + k) (by omega)
    have h2 := seg_add w (a := c) (b := c + 1) (c := c + k + 1) (by omega) (by omega)
    have h3 := seg_snoc w (a := c) (b := c) (by omega)
    have h4 := seg_nil w (Int.le_refl c)
    have h5 := hw c
    have e : c + k + 1 = c + 1 + k := by omega
    rw [e] at h1 h2
    omega
  have up : ∀ n : Nat, seg w (n : Int) ((n : Int) + k) = seg w 0 k := fun n => by
    induction n with
    | zero =>
      have e : ((0 : Nat) : Int) + k = k := by omega
      rw [e]
      rfl
    | succ n ih =>
      have e : ((n + 1 : Nat) : Int) = (n : Int) + 1 := by omega
      rw [e, step, ih]
  have dn : ∀ n : Nat, seg w (-(n : Int)) (-(n : Int) + k) = seg w 0 k := fun n => by
    induction n with
    | zero =>
      have e : -((0 : Nat) : Int) + k = k := by omega
      rw [e]
      rfl
    | succ n ih =>
      have h := step (-((n + 1 : Nat) : Int))
      have e : -((n + 1 : Nat) : Int) + 1 = -(n : Int) := by omega
      rw [e] at h
      rw [← h, ih]
  by_cases h : 0 ≤ a
  · have := up a.toNat
    have e : (a.toNat : Int) = a := by omega
    rw [e] at this
    exact this
  · have := dn (-a).toNat
    have e : -((-a).toNat : Int) = a := by omega
    rw [e] at this
    exact this
theorem seg_rounds {w : Int → Int} {k : Int} (hk : 0 ≤ k) (hw : ∀ c, w (c + k) = w c) (a : Int) : ∀ q : Nat, seg w a (a + q * k) = q * seg w 0 k
  | 0 => by
    have e : a + ((0 : Nat) : Int) * k = a := by simp
    rw [e, seg_nil w (Int.le_refl a)]
    simp
  | q + 1 => by
    have e : a + ((q + 1 : Nat) : Int) * k = a + q * k + k := by
      rw [Int.natCast_succ, Int.add_mul]
      omega
    have h0 : 0 ≤ (q : Int) * k := Int.mul_nonneg (by omega) hk
    rw [e, seg_add w (a := a) (b := a + q * k) (by omega) (by omega), seg_rounds hk hw a q, seg_round hk hw, Int.natCast_succ, Int.add_mul]
    omega
/-- whole rounds at once, then the rest -/
theorem seg_piece {w : Int → Int} {k : Int} (hk : 0 < k) (hw : ∀ c, w (c + k) = w c) {a b : Int} (h : a ≤ b) : (b - a) / k * seg w 0 k + seg w (a + (b - a) / k * k) b = seg w a b := by
  have h0 : 0 ≤ (b - a) / k := Int.ediv_nonneg (by omega) (by omega)
  obtain ⟨q, hq⟩ : ∃ q : Nat, (b - a) / k = q := ⟨((b - a) / k).toNat, by omega⟩
  have h1 : 0 ≤ (q : Int) * k := Int.mul_nonneg (by omega) (by omega)
  have h2 : (q : Int) * k ≤ b - a := by
    rw [← hq]
    exact Int.ediv_mul_le _ (by omega)
  rw [hq, ← seg_rounds (by omega) hw a q, ← seg_add w (by omega) (by omega)]
/-! ### the union, stretch by stretch -/
abbrev Sp2 := List (Int × Int)
def uni (w : Int → Int) : Int → Sp2 → Int
  | _, [] => 0
  | r, q :: ss => seg w (max q.1 r) q.2 + uni w (max r q.2) ss
def inS (ss : Sp2) (y : Int) : Bool := ss.any fun q => decide (q.1 ≤ y ∧ y < q.2)
theorem inS_cons (q : Int × Int) (ss : Sp2) (y : Int) : inS (q :: ss) y = (decide (q.1 ≤ y ∧ y < q.2) || inS ss y) := rfl
theorem uni_eq (w : Int → Int) (B : Int) : ∀ (ss : Sp2) (r : Int), ss.Pairwise (fun a b => a.1 ≤ b.1) → (∀ q ∈ ss, q.2 ≤ B) → r ≤ B → uni w r ss = seg (fun y => if inS ss y = true then w y else 0) r B
  | [], r, _, _, _ => by
    exact (seg_zero fun c _ _ => rfl).symm
  | q :: ss, r, hp, hB, hr => by
    have hp2 := List.pairwise_cons.mp hp
    have hqB := hB q (List.mem_cons_self ..)
    have ih := uni_eq w B ss (max r q.2) hp2.2 (fun z hz => hB z (List.mem_cons_of_mem _ hz)) (by omega)
    show seg w (max q.1 r) q.2 + uni w (max r q.2) ss = _
    rw [ih, seg_add (fun y => if inS (q :: ss) y = true then w y else 0) (a := r) (b := max r q.2) (c := B) (by omega) (by omega)]
    have e2 : seg (fun y => if inS (q :: ss) y = true then w y else 0) (max r q.2) B = seg (fun y => if inS ss y = true then w y else 0) (max r q.2) B := seg_congr fun c h1 _ => by
      have e3 : inS (q :: ss) c = inS ss c := by
        rw [inS_cons, decide_eq_false (by omega), Bool.false_or]
      simp only [e3]
    rw [e2]
    have e4 : seg (fun y => if inS (q :: ss) y = true then w y else 0) r (max r q.2) = seg w (max q.1 r) q.2 := by
      by_cases h1 : q.2 ≤ r
      · rw [seg_nil _ (by omega), seg_nil _ (by omega)]
      · by_cases h2 : q.2 ≤ q.1
        · rw [seg_nil w (by omega)]
          refine seg_zero fun c c1 c2 => if_neg fun hc => ?_
          rw [inS_cons, decide_eq_false (by omega), Bool.false_or] at hc
          obtain ⟨z, hz, hz2⟩ := List.any_eq_true.mp hc
          have h3 := of_decide_eq_true hz2
          have h4 := hp2.1 z hz
          omega
        · have hm : max r q.2 = q.2 := by omega
          rw [hm, seg_add _ (a := r) (b := max q.1 r) (c := q.2) (by omega) (by omega)]
          have e5 : seg (fun y => if inS (q :: ss) y = true then w y else 0) r (max q.1 r) = 0 := seg_zero fun c c1 c2 => if_neg fun hc => by
            rw [inS_cons, decide_eq_false (by omega), Bool.false_or] at hc
            obtain ⟨z, hz, hz2⟩ := List.any_eq_true.mp hc
            have h3 := of_decide_eq_true hz2
            have h4 := hp2.1 z hz
            omega
          have e6 : seg (fun y => if inS (q :: ss) y = true then w y else 0) (max q.1 r) q.2 = seg w (max q.1 r) q.2 := seg_congr fun c c1 c2 => if_pos (by
            rw [inS_cons, decide_eq_true (by omega), Bool.true_or])
          rw [e5, e6]
          omega
    rw [e4]
/-- the union's price as a sum over a stretch -/
theorem usum_seg (w : Int → Int) (k : Int) (st : Pl) (d : Int) : ∀ B : Nat, usum w k st d B = seg (fun y => if covd k st d y.toNat = true then w (d + y) else 0) 0 B
  | 0 => rfl
  | B + 1 => by
    have ih := usum_seg w k st d B
    have e : ((B + 1 : Nat) : Int) = (B : Int) + 1 := by omega
    rw [e, seg_snoc _ (by omega), ← ih]
    have e2 : ((B : Int)).toNat = B := by omega
    rw [e2]
    unfold usum ulist
    rw [List.range_succ, List.filter_append, List.map_append, cost_append]
    by_cases h : covd k st d B = true
    · rw [if_pos h, List.filter_cons_of_pos h]
      simp [cost]
    · rw [if_neg h, List.filter_cons_of_neg h]
      simp [cost]
/-- what the law reckons: stretches from 0 on -/
theorem uni_law {w : Int → Int} {k : Int} (hk : 0 < k) {st : Pl} {d : Int} {ss : Sp2} (hp : ss.Pairwise (fun a b => a.1 ≤ b.1)) (hm : ∀ o b, (o, b) ∈ ss ↔ ∃ s ∈ st, o = (s.1 - d) % k ∧ b = o + s.2) {B : Nat} (hB : ∀ s ∈ st, k + s.2 ≤ (B : Int)) :
    uni (fun y => w (d + y)) 0 ss = usum w k st d B := by
  have hB2 : ∀ q ∈ ss, q.2 ≤ (B : Int) := fun q hq => by
    obtain ⟨s, hs, h1, h2⟩ := (hm q.1 q.2).mp hq
    have h3 := hB s hs
    have h4 := Int.emod_lt_of_pos (s.1 - d) hk
    omega
  rw [uni_eq _ B ss 0 hp hB2 (by omega), usum_seg]
  refine seg_congr fun c h1 h2 => ?_
  have e : inS ss c = covd k st d c.toNat := by
    have ec : (c.toNat : Int) = c := by omega
    cases h : covd k st d c.toNat with
    | true =>
      obtain ⟨s, hs, hs2⟩ := List.any_eq_true.mp h
      have h3 := of_decide_eq_true hs2
      exact List.any_eq_true.mpr ⟨((s.1 - d) % k, (s.1 - d) % k + s.2), (hm _ _).mpr ⟨s, hs, rfl, rfl⟩, decide_eq_true (by show (s.1 - d) % k ≤ c ∧ c < (s.1 - d) % k + s.2; omega)⟩
    | false =>
      refine Bool.eq_false_iff.mpr fun h3 => ?_
      obtain ⟨q, hq, hq2⟩ := List.any_eq_true.mp h3
      have h4 := of_decide_eq_true hq2
      obtain ⟨s, hs, h5, h6⟩ := (hm q.1 q.2).mp hq
      have h7 : covd k st d c.toNat = true := List.any_eq_true.mpr ⟨s, hs, decide_eq_true (by omega)⟩
      rw [h] at h7
      cases h7
  rw [e]
/-! ### the program's pieces -/
def pstep (f : Sp2) (q : Int × Int) : Sp2 := match f.getLast? with
  | some z => if q.1 ≤ z.2 then f.dropLast ++ [(z.1, max q.2 z.2)] else f ++ [q]
  | none => [q]
def ptot (w : Int → Int) (f : Sp2) : Int := (f.map fun z => seg w z.1 z.2).sum
theorem ptot_snoc (w : Int → Int) (f : Sp2) (z : Int × Int) : ptot w (f ++ [z]) = ptot w f + seg w z.1 z.2 := by
  unfold ptot
  rw [List.map_append, List.sum_append]
  simp
theorem pieces_tot (w : Int → Int) : ∀ (ss : Sp2) (f : Sp2) (r : Int), ss.Pairwise (fun a b => a.1 ≤ b.1) → (∀ q ∈ ss, q.1 ≤ q.2) →
    ((f = [] ∧ ∀ q ∈ ss, r ≤ q.1) ∨ ∃ g z, f = g ++ [z] ∧ z.1 ≤ z.2 ∧ z.2 = r ∧ ∀ q ∈ ss, z.1 ≤ q.1) → ptot w (ss.foldl pstep f) = ptot w f + uni w r ss
  | [], f, r, _, _, _ => by
    show ptot w f = ptot w f + 0
    omega
  | q :: ss, f, r, hp, hle, hf => by
    have hp2 := List.pairwise_cons.mp hp
    have hq := hle q (List.mem_cons_self ..)
    have hle2 : ∀ z ∈ ss, z.1 ≤ z.2 := fun z hz => hle z (List.mem_cons_of_mem _ hz)
    show ptot w (ss.foldl pstep (pstep f q)) = ptot w f + (seg w (max q.1 r) q.2 + uni w (max r q.2) ss)
    rcases hf with ⟨rfl, h0⟩ | ⟨g, z, rfl, hz, hr, h0⟩
    · have h1 := h0 q (List.mem_cons_self ..)
      have e : pstep [] q = [] ++ [q] := rfl
      have hm : max r q.2 = q.2 := by omega
      have hm2 : max q.1 r = q.1 := by omega
      rw [e, pieces_tot w ss ([] ++ [q]) q.2 hp2.2 hle2 (.inr ⟨[], q, rfl, hq, rfl, hp2.1⟩), ptot_snoc, hm, hm2]
      omega
    · have h1 := h0 q (List.mem_cons_self ..)
      subst hr
      have e : pstep (g ++ [z]) q = if q.1 ≤ z.2 then g ++ [(z.1, max q.2 z.2)] else g ++ [z] ++ [q] := by
        unfold pstep
        rw [List.getLast?_concat, List.dropLast_concat]
      rw [e]
      by_cases h2 : q.1 ≤ z.2
      · rw [if_pos h2, pieces_tot w ss (g ++ [(z.1, max q.2 z.2)]) (max q.2 z.2) hp2.2 hle2 (.inr ⟨g, _, rfl, by show z.1 ≤ max q.2 z.2; omega, rfl, fun y hy => h0 y (List.mem_cons_of_mem _ hy)⟩), ptot_snoc, ptot_snoc]
        have h3 := seg_add w (a := z.1) (b := z.2) (c := max q.2 z.2) hz (by omega)
        have h4 : seg w z.2 (max q.2 z.2) = seg w (max q.1 z.2) q.2 := by
          have e5 : max q.1 z.2 = z.2 := by omega
          rw [e5]
          by_cases h6 : q.2 ≤ z.2
          · rw [seg_nil w (by omega), seg_nil w h6]
          · have e6 : max q.2 z.2 = q.2 := by omega
            rw [e6]
        have e7 : max q.2 z.2 = max z.2 q.2 := by omega
        show ptot w g + seg w z.1 (max q.2 z.2) + uni w (max q.2 z.2) ss = _
        rw [h3, h4, e7]
        omega
      · rw [if_neg h2, pieces_tot w ss (g ++ [z] ++ [q]) q.2 hp2.2 hle2 (.inr ⟨g ++ [z], q, rfl, hq, rfl, hp2.1⟩), ptot_snoc]
        have e5 : max q.1 z.2 = q.1 := by omega
        have e6 : max z.2 q.2 = q.2 := by omega
        rw [e5, e6]
        omega
/-- what the program reckons: stretches from the door on -/
theorem uni_prog {w : Int → Int} {k : Int} (hk : 0 < k) {st : Pl} {d : Int} {ss : Sp2} (hp : ss.Pairwise (fun a b => a.1 ≤ b.1)) (hm : ∀ o b, (o, b) ∈ ss ↔ ∃ s ∈ st, o = d + (s.1 - d) % k ∧ b = o + s.2) {B : Nat} (hB : ∀ s ∈ st, k + s.2 ≤ (B : Int)) :
    ptot w (ss.foldl pstep []) = usum w k st d B := by
  have h0 : ∀ q ∈ ss, d ≤ q.1 ∧ q.1 ≤ q.2 ∧ q.2 ≤ d + B := fun q hq => by
    obtain ⟨s, hs, h1, h2⟩ := (hm q.1 q.2).mp hq
    have h3 := hB s hs
    have h4 := Int.emod_lt_of_pos (s.1 - d) hk
    have h5 := Int.emod_nonneg (s.1 - d) (show k ≠ 0 by omega)
    omega
  rw [pieces_tot w ss [] d hp (fun q hq => (h0 q hq).2.1) (.inl ⟨rfl, fun q hq => (h0 q hq).1⟩)]
  rw [uni_eq w (d + B) ss d hp (fun q hq => (h0 q hq).2.2) (by omega), usum_seg]
  have e0 : seg (fun y => if inS ss y = true then w y else 0) d (d + B) = seg (fun y => if inS ss y = true then w y else 0) (d + 0) (d + B) := by rw [Int.add_zero]
  rw [e0, seg_shift]
  show (0 : Int) + _ = _
  rw [Int.zero_add]
  refine seg_congr fun c h1 h2 => ?_
  have e : inS ss (d + c) = covd k st d c.toNat := by
    have ec : (c.toNat : Int) = c := by omega
    cases h : covd k st d c.toNat with
    | true =>
      obtain ⟨s, hs, hs2⟩ := List.any_eq_true.mp h
      have h3 := of_decide_eq_true hs2
      exact List.any_eq_true.mpr ⟨(d + (s.1 - d) % k, d + (s.1 - d) % k + s.2), (hm _ _).mpr ⟨s, hs, rfl, rfl⟩, decide_eq_true (by show d + (s.1 - d) % k ≤ d + c ∧ d + c < d + (s.1 - d) % k + s.2; omega)⟩
    | false =>
      refine Bool.eq_false_iff.mpr fun h3 => ?_
      obtain ⟨q, hq, hq2⟩ := List.any_eq_true.mp h3
      have h4 := of_decide_eq_true hq2
      obtain ⟨s, hs, h5, h6⟩ := (hm q.1 q.2).mp hq
      have h7 : covd k st d c.toNat = true := List.any_eq_true.mpr ⟨s, hs, decide_eq_true (by omega)⟩
      rw [h] at h7
      cases h7
  rw [e]
end Lay

namespace Lay
/-! ### fronts as numbers -/
abbrev Ls := List (List Int)
def prodL : Ls → Nat
  | [] => 1
  | l :: ls => (l.length + 1) * prodL ls
def frontL : Ls → Nat → List Nat
  | [], _ => []
  | l :: ls, c => c % (l.length + 1) :: frontL ls (c / (l.length + 1))
def restsL : Ls → Nat → Ls
  | [], _ => []
  | l :: ls, c => l.drop (c % (l.length + 1)) :: restsL ls (c / (l.length + 1))
def due (l : List Int) (f : Nat) (b : Int) : Bool := decide (l[f]? = some b)
def bumpL (b : Int) : Ls → Nat → Nat → Nat
  | [], _, _ => 0
  | l :: ls, c, s => (if due l (c % (l.length + 1)) b = true then s else 0) + bumpL b ls (c / (l.length + 1)) (s * (l.length + 1))
theorem prodL_pos : ∀ ls : Ls, 0 < prodL ls
  | [] => Nat.one_pos
  | l :: ls => Nat.mul_pos (Nat.succ_pos _) (prodL_pos ls)
theorem frontL_length : ∀ (ls : Ls) (c : Nat), (frontL ls c).length = ls.length
  | [], _ => rfl
  | l :: ls, c => by
    show (frontL ls _).length + 1 = ls.length + 1
    rw [frontL_length ls]
theorem bumpL_scale (b : Int) : ∀ (ls : Ls) (c s : Nat), bumpL b ls c s = s * bumpL b ls c 1
  | [], _, _ => rfl
  | l :: ls, c, s => by
    unfold bumpL
    rw [bumpL_scale b ls (c / (l.length + 1)) (s * (l.length + 1)), bumpL_scale b ls (c / (l.length + 1)) (1 * (l.length + 1)), Nat.one_mul, Nat.mul_assoc]
    generalize (l.length + 1) * bumpL b ls (c / (l.length + 1)) 1 = R
    rw [Nat.mul_add]
    congr 1
    by_cases h : due l (c % (l.length + 1)) b = true
    · rw [if_pos h, if_pos h, Nat.mul_one]
    · rw [if_neg h, if_neg h, Nat.mul_zero]
theorem drop_adv (l : List Int) (f : Nat) (b : Int) : adv b (l.drop f) = l.drop (f + if due l f b = true then 1 else 0) := by
  by_cases h : f < l.length
  · rw [List.drop_eq_getElem_cons h, adv_cons]
    by_cases e : l[f] = b
    · have hd : due l f b = true := decide_eq_true (by rw [List.getElem?_eq_getElem h, e])
      rw [if_pos e, if_pos hd]
    · have hd : ¬ due l f b = true := fun q => e (by
        have q2 : l[f]? = some b := of_decide_eq_true q
        rw [List.getElem?_eq_getElem h] at q2
        exact Option.some.inj q2)
      rw [if_neg e, if_neg hd, ← List.drop_eq_getElem_cons h]
      rfl
  · have hd : ¬ due l f b = true := fun q => by
      have q2 : l[f]? = some b := of_decide_eq_true q
      rw [List.getElem?_eq_none (by omega)] at q2
      cases q2
    rw [if_neg hd, Nat.add_zero, List.drop_eq_nil_of_le (by omega)]
    rfl
theorem due_lt {l : List Int} {f : Nat} {b : Int} (h : due l f b = true) : f < l.length := by
  have q2 : l[f]? = some b := of_decide_eq_true h
  exact (List.getElem?_eq_some_iff.mp q2).1
theorem bump_digit (l : List Int) (c R : Nat) (b : Int) : (c + ((if due l (c % (l.length + 1)) b = true then 1 else 0) + (l.length + 1) * R)) % (l.length + 1) = c % (l.length + 1) + (if due l (c % (l.length + 1)) b = true then 1 else 0) ∧
    (c + ((if due l (c % (l.length + 1)) b = true then 1 else 0) + (l.length + 1) * R)) / (l.length + 1) = c / (l.length + 1) + R := by
  have hz : 0 < l.length + 1 := Nat.succ_pos _
  have hlt := Nat.mod_lt c hz
  have hdm := Nat.div_add_mod c (l.length + 1)
  have hb : c % (l.length + 1) + (if due l (c % (l.length + 1)) b = true then 1 else 0) < l.length + 1 := by
    by_cases h : due l (c % (l.length + 1)) b = true
    · rw [if_pos h]
      have := due_lt h
      omega
    · rw [if_neg h]
      omega
  generalize hi : (if due l (c % (l.length + 1)) b = true then 1 else 0 : Nat) = i at hb ⊢
  generalize hq : c % (l.length + 1) = m at *
  generalize hp : c / (l.length + 1) = q at *
  have e : c + (i + (l.length + 1) * R) = (m + i) + (l.length + 1) * (q + R) := by
    rw [← hdm, Nat.mul_add]
    omega
  rw [e, Nat.add_mul_mod_self_left, Nat.mod_eq_of_lt hb, Nat.add_mul_div_left _ _ hz, Nat.div_eq_of_lt hb]
  exact ⟨rfl, by omega⟩
theorem rests_bump (b : Int) : ∀ (ls : Ls) (c : Nat), restsL ls (c + bumpL b ls c 1) = (restsL ls c).map (adv b)
  | [], _ => rfl
  | l :: ls, c => by
    show l.drop ((c + bumpL b (l :: ls) c 1) % (l.length + 1)) :: restsL ls ((c + bumpL b (l :: ls) c 1) / (l.length + 1)) = adv b (l.drop (c % (l.length + 1))) :: (restsL ls (c / (l.length + 1))).map (adv b)
    have e : bumpL b (l :: ls) c 1 = (if due l (c % (l.length + 1)) b = true then 1 else 0) + (l.length + 1) * bumpL b ls (c / (l.length + 1)) 1 := by
      show _ + bumpL b ls (c / (l.length + 1)) (1 * (l.length + 1)) = _
      rw [bumpL_scale b ls _ (1 * (l.length + 1)), Nat.one_mul]
    obtain ⟨h1, h2⟩ := bump_digit l c (bumpL b ls (c / (l.length + 1)) 1) b
    rw [e, h1, h2, rests_bump b ls, drop_adv]
theorem bump_lt (b : Int) : ∀ (ls : Ls) (c : Nat), c < prodL ls → c + bumpL b ls c 1 < prodL ls
  | [], c, h => h
  | l :: ls, c, h => by
    have hz : 0 < l.length + 1 := Nat.succ_pos _
    have e : bumpL b (l :: ls) c 1 = (if due l (c % (l.length + 1)) b = true then 1 else 0) + (l.length + 1) * bumpL b ls (c / (l.length + 1)) 1 := by
      show _ + bumpL b ls (c / (l.length + 1)) (1 * (l.length + 1)) = _
      rw [bumpL_scale b ls _ (1 * (l.length + 1)), Nat.one_mul]
    obtain ⟨h1, h2⟩ := bump_digit l c (bumpL b ls (c / (l.length + 1)) 1) b
    rw [← e] at h2
    have h3 : c / (l.length + 1) < prodL ls := Nat.div_lt_of_lt_mul h
    have h4 := bump_lt b ls _ h3
    rw [← h2] at h4
    have h5 := (Nat.div_lt_iff_lt_mul hz).mp h4
    show c + bumpL b (l :: ls) c 1 < (l.length + 1) * prodL ls
    rw [Nat.mul_comm]
    exact h5
/-- a row's digit -/
theorem front_get : ∀ (ls : Ls) (c j : Nat) (l : List Int), ls[j]? = some l → ∃ f, (frontL ls c)[j]? = some f ∧ f ≤ l.length ∧ (restsL ls c)[j]? = some (l.drop f)
  | [], _, _, _, h => by simp at h
  | l :: ls, c, 0, m, h => by
    obtain rfl : l = m := Option.some.inj h
    exact ⟨_, rfl, Nat.le_of_lt_succ (Nat.mod_lt c (Nat.succ_pos _)), rfl⟩
  | l :: ls, c, j + 1, m, h => front_get ls (c / (l.length + 1)) j m h
theorem rests_length : ∀ (ls : Ls) (c : Nat), (restsL ls c).length = ls.length
  | [], _ => rfl
  | l :: ls, c => by
    show (restsL ls _).length + 1 = ls.length + 1
    rw [rests_length ls]
theorem rests_last : ∀ (ls : Ls), ∀ r ∈ restsL ls (prodL ls - 1), r = []
  | [], r, h => by cases h
  | l :: ls, r, h => by
    have hp := prodL_pos ls
    have hz : 0 < l.length + 1 := Nat.succ_pos _
    obtain ⟨m, hm⟩ : ∃ m, prodL ls = m + 1 := ⟨prodL ls - 1, by omega⟩
    have e : prodL (l :: ls) - 1 = l.length + (l.length + 1) * m := by
      show (l.length + 1) * prodL ls - 1 = _
      rw [hm, Nat.mul_add]
      omega
    have h1 : (l.length + (l.length + 1) * m) % (l.length + 1) = l.length := by
      rw [Nat.add_mul_mod_self_left, Nat.mod_eq_of_lt (Nat.lt_succ_self _)]
    have h2 : (l.length + (l.length + 1) * m) / (l.length + 1) = m := by
      rw [Nat.add_mul_div_left _ _ hz, Nat.div_eq_of_lt (Nat.lt_succ_self _), Nat.zero_add]
    rw [e] at h
    have h3 : r ∈ l.drop ((l.length + (l.length + 1) * m) % (l.length + 1)) :: restsL ls ((l.length + (l.length + 1) * m) / (l.length + 1)) := h
    rw [h1, h2] at h3
    rcases List.mem_cons.mp h3 with e2 | e2
    · rw [e2, List.drop_length]
    · have e3 : m = prodL ls - 1 := by omega
      rw [e3] at e2
      exact rests_last ls r e2
theorem rests_due : ∀ (ls : Ls) (c : Nat), c + 1 < prodL ls → ∃ r ∈ restsL ls c, r ≠ []
  | [], c, h => by
    have h2 : c + 1 < 1 := h
    omega
  | l :: ls, c, h => by
    have hz : 0 < l.length + 1 := Nat.succ_pos _
    by_cases h1 : c % (l.length + 1) < l.length
    · refine ⟨l.drop (c % (l.length + 1)), List.mem_cons_self .., fun e => ?_⟩
      have := List.drop_eq_nil_iff.mp e
      omega
    · have hlt := Nat.mod_lt c hz
      have hdm := Nat.div_add_mod c (l.length + 1)
      have h2 : c % (l.length + 1) = l.length := by omega
      have h3 : c / (l.length + 1) + 1 < prodL ls := by
        have h4 : (l.length + 1) * (c / (l.length + 1) + 1) < (l.length + 1) * prodL ls := by
          have h5 : c + 1 < (l.length + 1) * prodL ls := h
          rw [Nat.mul_add]
          omega
        exact Nat.lt_of_mul_lt_mul_left h4
      obtain ⟨r, hr, hne⟩ := rests_due ls _ h3
      exact ⟨r, List.mem_cons_of_mem _ hr, hne⟩
theorem rests_zero : ∀ ls : Ls, restsL ls 0 = ls
  | [] => rfl
  | l :: ls => by
    show l.drop (0 % (l.length + 1)) :: restsL ls (0 / (l.length + 1)) = l :: ls
    rw [Nat.zero_mod, Nat.zero_div, rests_zero ls]
    rfl
theorem front_le : ∀ (ls : Ls) (c : Nat), ∀ (j f : Nat) (l : List Int), (frontL ls c)[j]? = some f → ls[j]? = some l → f ≤ l.length := fun ls c j f l h1 h2 => by
  obtain ⟨g, h3, h4, _⟩ := front_get ls c j l h2
  rw [h1] at h3
  rw [Option.some.inj h3]
  exact h4
end Lay

/-! Lists of pairs and of lists, as the heap holds them; sorting of pairs. -/
namespace Fw
open PySem PySem.Spec PyProof.Rows L2 Lay
/-- a list of pairs of whole numbers: the tuples' addresses and what they hold -/
abbrev Zs := List (Addr × Int × Int)
def TL (H : Hp) (zs : Zs) : Prop := ∀ z ∈ zs, H z.1 = some (.tup [.int z.2.1, .int z.2.2])
abbrev refT (zs : Zs) : List V := zs.map fun z => V.ref z.1
/-- a list of lists of whole numbers -/
abbrev Ws := List (Addr × List Int)
def LL (K : PySem.W.Frag) (H : Hp) (zs : Ws) : Prop := ∀ z ∈ zs, SqL K H z.1 (z.2.map V.int)
abbrev refL (zs : Ws) : List V := zs.map fun z => V.ref z.1
theorem TL.same {H H2 : Hp} {zs : Zs} (h : TL H zs) (s : Same H H2) : TL H2 zs := fun z hz => s _ _ (h z hz)
theorem LL.same {K : PySem.W.Frag} {H H2 : Hp} {zs : Ws} (h : LL K H zs) (s : Same H H2) : LL K H2 zs := fun z hz => s.seq (h z hz)
abbrev ilst (ns : List Int) : HO := .lst (ns.map V.int)
abbrev itup (ns : List Int) : HO := .tup (ns.map V.int)
/-- the price of a number on the line -/
def pw (pr : List Int) (c : Int) : Int := pr.getD (c % (pr.length : Int)).toNat 0
/-- the stays as the mathematics has them -/
def stOf (ss : Sp2) : Pl := ss.map fun s => (s.1, s.2.toNat)
def U (pr : List Int) (ss : Sp2) (d : Int) : Int := usum (pw pr) pr.length (stOf ss) d 3000
def sumsL (pr : List Int) : List Int := (List.range (pr.length + 1)).map fun i => (pr.take i).sum

theorem TL.nil {H : Hp} : TL H [] := fun z hz => by cases hz
theorem LL.nil {K : PySem.W.Frag} {H : Hp} : LL K H [] := fun z hz => by cases hz
theorem TL.push {H : Hp} {ys : Zs} {l t : Addr} {xs : List V} {o : HO} {a b : Int} (h : TL H ys) (hl : H l = some (.lst xs)) (nt : H t = none) : TL (upd (upd H t (.tup [.int a, .int b])) l o) (ys ++ [(t, a, b)]) := by
  have nlt : t ≠ l := (ne_of_none hl nt).symm
  intro z hz
  rcases List.mem_append.mp hz with hz | hz
  · have h1 := h z hz
    rw [upd_ne (ne_of h1 hl (fun e => by cases e)), upd_ne (ne_of_none h1 nt)]
    exact h1
  · rw [List.mem_singleton.mp hz]
    show upd (upd H t _) l o t = _
    rw [upd_ne nlt, upd_same]
theorem refT_snoc (ys : Zs) (t : Addr) (a b : Int) : refT ys ++ [V.ref t] = refT (ys ++ [(t, a, b)]) := by
  unfold refT
  rw [List.map_append]
  rfl
theorem refT_get {zs : Zs} {i : Nat} {x : V} (h : (refT zs)[i]? = some x) : ∃ z, zs[i]? = some z ∧ z ∈ zs ∧ x = .ref z.1 := by
  unfold refT at h
  rw [List.getElem?_map] at h
  cases e : zs[i]? with
  | none =>
    rw [e] at h
    cases h
  | some z =>
    rw [e] at h
    exact ⟨z, rfl, List.mem_of_getElem? e, (Option.some.inj h).symm⟩
theorem refL_get {zs : Ws} {i : Nat} {x : V} (h : (refL zs)[i]? = some x) : ∃ z, zs[i]? = some z ∧ z ∈ zs ∧ x = .ref z.1 := by
  unfold refL at h
  rw [List.getElem?_map] at h
  cases e : zs[i]? with
  | none =>
    rw [e] at h
    cases h
  | some z =>
    rw [e] at h
    exact ⟨z, rfl, List.mem_of_getElem? e, (Option.some.inj h).symm⟩
theorem prodL_snoc (ls : Ls) (l : List Int) : prodL (ls ++ [l]) = prodL ls * (l.length + 1) := by
  induction ls with
  | nil =>
    show (l.length + 1) * 1 = 1 * (l.length + 1)
    omega
  | cons x ls ih =>
    show (x.length + 1) * prodL (ls ++ [l]) = (x.length + 1) * prodL ls * (l.length + 1)
    rw [ih, Nat.mul_assoc]
theorem pw_at {pr : List Int} (h : 0 < pr.length) (c : Int) : atI (pr.map V.int) (c % (pr.length : Int)) = some (.int (pw pr c)) := by
  have h1 := Int.emod_nonneg c (show (pr.length : Int) ≠ 0 by omega)
  have h2 := Int.emod_lt_of_pos c (show (0 : Int) < (pr.length : Int) by omega)
  have e : c % (pr.length : Int) = ((c % (pr.length : Int)).toNat : Int) := by omega
  have hlt : (c % (pr.length : Int)).toNat < pr.length := by omega
  have g : (pr.map V.int)[(c % (pr.length : Int)).toNat]? = some (.int (pw pr c)) := by
    rw [List.getElem?_map, List.getElem?_eq_getElem hlt]
    unfold pw
    rw [List.getD_eq_getElem?_getD, List.getElem?_eq_getElem hlt]
    rfl
  rw [e]
  exact atI_nat g
theorem pw_mod (pr : List Int) (c : Int) : pw pr (c % (pr.length : Int)) = pw pr c := by
  unfold pw
  rw [Int.emod_emod]
theorem pw_per (pr : List Int) (c : Int) : pw pr (c + (pr.length : Int)) = pw pr c := by
  unfold pw
  rw [Int.add_emod_right]
theorem pw_nonneg {pr : List Int} (h : ∀ x ∈ pr, 1 ≤ x) (c : Int) : 0 ≤ pw pr c := by
  unfold pw
  rw [List.getD_eq_getElem?_getD]
  cases e : pr[(c % (pr.length : Int)).toNat]? with
  | none => exact Int.le_refl _
  | some x =>
    have := h x (List.mem_of_getElem? e)
    show 0 ≤ x
    omega
theorem stOf_mem {ss : Sp2} (h : ∀ s ∈ ss, 1 ≤ s.2) {P : Int → Int → Prop} : (∃ s ∈ stOf ss, P s.1 s.2) ↔ ∃ s ∈ ss, P s.1 s.2 := by
  constructor
  · rintro ⟨s, hs, hp⟩
    obtain ⟨t, ht, rfl⟩ := List.mem_map.mp hs
    have h1 := h t ht
    have e : ((t.2.toNat : Nat) : Int) = t.2 := by omega
    refine ⟨t, ht, ?_⟩
    have hp2 : P t.1 ((t.2.toNat : Nat) : Int) := hp
    rw [e] at hp2
    exact hp2
  · rintro ⟨t, ht, hp⟩
    have h1 := h t ht
    have e : ((t.2.toNat : Nat) : Int) = t.2 := by omega
    refine ⟨(t.1, t.2.toNat), List.mem_map_of_mem (f := fun s : Int × Int => (s.1, s.2.toNat)) ht, ?_⟩
    show P t.1 ((t.2.toNat : Nat) : Int)
    rw [e]
    exact hp
theorem yes_then {σ : L2.St} {H : Hp} {t e : Hp → Prop} (h : t H) : tYes σ H (fun b H3 => if b = true then t H3 else e H3) := by
  show (if true = true then t H else e H)
  rw [if_pos rfl]
  exact h
theorem max_if (i j : Int) : (if j > i then j else i) = max i j := by
  split <;> omega
theorem mem_le_prod : ∀ {ls : Ls} {l : List Int}, l ∈ ls → l.length + 1 ≤ prodL ls
  | x :: ls, l, h => by
    have hp := prodL_pos ls
    show l.length + 1 ≤ (x.length + 1) * prodL ls
    rcases List.mem_cons.mp h with e | e
    · rw [e]
      exact Nat.le_mul_of_pos_right _ hp
    · have h1 := mem_le_prod e
      exact Nat.le_trans h1 (Nat.le_mul_of_pos_left _ (Nat.succ_pos _))
theorem ixN_nat {n c : Nat} (h : c < n) : ixN n (c : Int) = some c := by
  unfold ixN
  rw [if_pos (by omega), if_pos (by omega)]
  rfl
theorem pw_sym {pr : List Int} {s : Int} (h0 : 0 ≤ s) (h1 : s < (pr.length : Int)) : atI (pr.map V.int) s = some (.int (pw pr s)) := by
  have h := pw_at (pr := pr) (by omega) s
  rw [Int.emod_eq_of_lt h0 h1] at h
  exact h
/-- the front's places from the j-th on are those of the rest -/
def Ahead (ls : Ls) (c j r : Nat) : Prop := ∀ m, (frontL (ls.drop j) r)[m]? = (frontL ls c)[j + m]?
theorem Ahead.zero (ls : Ls) (c : Nat) : Ahead ls c 0 c := fun m => by rw [List.drop_zero, Nat.zero_add]
theorem Ahead.step {ls : Ls} {c j r : Nat} {l : List Int} (h : Ahead ls c j r) (hl : ls[j]? = some l) : (frontL ls c)[j]? = some (r % (l.length + 1)) ∧ Ahead ls c (j + 1) (r / (l.length + 1)) := by
  have e : ls.drop j = l :: ls.drop (j + 1) := by
    have hlt := (List.getElem?_eq_some_iff.mp hl).1
    rw [List.drop_eq_getElem_cons hlt, (List.getElem?_eq_some_iff.mp hl).2]
  unfold Ahead at h
  rw [e] at h
  refine ⟨(h 0).symm, fun m => ?_⟩
  have h1 := h (m + 1)
  rw [Nat.add_assoc, Nat.add_comm 1 m]
  exact h1
theorem bump_pos {b : Int} {q : List Int} : ∀ (ls : Ls) (c s k : Nat), 0 < s → (restsL ls c)[k]? = some (b :: q) → 0 < bumpL b ls c s
  | [], _, _, _, _, h => by simp [restsL] at h
  | l :: ls, c, s, 0, hs, h => by
    have e : l.drop (c % (l.length + 1)) = b :: q := Option.some.inj h
    have hd : due l (c % (l.length + 1)) b = true := decide_eq_true (by
      have h2 := congrArg (fun z => z[0]?) e
      simpa using h2)
    show 0 < (if due l (c % (l.length + 1)) b = true then s else 0) + _
    rw [if_pos hd]
    omega
  | l :: ls, c, s, k + 1, hs, h => by
    have h1 := bump_pos ls (c / (l.length + 1)) (s * (l.length + 1)) k (Nat.mul_pos hs (Nat.succ_pos _)) h
    show 0 < _ + bumpL b ls (c / (l.length + 1)) (s * (l.length + 1))
    omega
theorem drop_at {ls : Ls} {j : Nat} {l : List Int} (h : ls[j]? = some l) : ls.drop j = l :: ls.drop (j + 1) := by
  have hlt := (List.getElem?_eq_some_iff.mp h).1
  rw [List.drop_eq_getElem_cons hlt, (List.getElem?_eq_some_iff.mp h).2]
theorem atI0 {xs : List V} {k : Nat} {v : V} (h : xs[k]? = some v) : atI xs (0 + (k : Int)) = some v := by
  rw [Int.zero_add]
  exact atI_nat h
def nmap (fs : List Nat) : List Int := fs.map fun f : Nat => (f : Int)
theorem nmap_get {fs : List Nat} {k f : Nat} (h : fs[k]? = some f) : ((nmap fs).map V.int)[k]? = some (.int (f : Int)) := by
  unfold nmap
  rw [List.getElem?_map, List.getElem?_map, h]
  rfl
theorem putF_new (f : Str) (v : V) : ∀ fs : List (Str × V), fs.lookup f = none → putF f v fs = fs ++ [(f, v)]
  | [], _ => rfl
  | (g, x) :: r, h => by
    rw [List.lookup_cons] at h
    cases e : (f == g) with
    | true =>
      rw [e] at h
      cases h
    | false =>
      rw [e] at h
      have ne : ¬ g = f := fun z => by
        rw [z, beq_self_eq_true] at e
        cases e
      show (if g = f then (g, v) :: r else (g, x) :: putF f v r) = _
      rw [if_neg ne, putF_new f v r h]
      rfl
/-- all but the object at r is as it was -/
def But (r : Addr) (H H2 : Hp) : Prop := ∀ c o, c ≠ r → H c = some o → H2 c = some o
theorem But.refl {r : Addr} {H : Hp} : But r H H := fun _ _ _ h => h
theorem But.new {r p : Addr} {H H2 : Hp} {o : HO} (h : But r H H2) (np : H2 p = none) : But r H (upd H2 p o) := fun c u n e => same_new np _ _ (h c u n e)
theorem But.own {r : Addr} {H H2 : Hp} {o : HO} (h : But r H H2) : But r H (upd H2 r o) := fun c u n e => by
  rw [upd_ne n]
  exact h c u n e
theorem But.then {r : Addr} {H H2 H3 : Hp} (h : But r H H2) (s : Same H2 H3) : But r H H3 := fun c u n e => s _ _ (h c u n e)
theorem But.seq {K : PySem.W.Frag} {r a C dx : Addr} {H H2 : Hp} {fs : List (Str × V)} {xs : List V} (h : But r H H2) (hr : H r = some (.ins C dx fs)) (hS : SqL K H a xs) : SqL K H2 a xs := by
  rcases hS with (e | ⟨o, e⟩) | e
  · exact .inl (.inl (h a _ (ne_of e hr (fun z => by cases z)) e))
  · exact .inl (.inr ⟨o, h a _ (ne_of e hr (fun z => by cases z)) e⟩)
  · exact .inr e
theorem TL.keep {H : Hp} {zs : Zs} {l : Addr} {xs : List V} {o : HO} (h : TL H zs) (hl : H l = some (.lst xs)) : TL (upd H l o) zs := fun z hz => by
  rw [upd_ne (ne_of (h z hz) hl (fun e => by cases e))]
  exact h z hz
theorem atIe {xs : List V} {i : Int} {k : Nat} {v : V} (h : xs[k]? = some v) (e : i = (k : Int)) : atI xs i = some v := by
  rw [e]
  exact atI_nat h
theorem at_mod {ds : List Int} (h : ds ≠ []) (x : Int) : ∃ d ∈ ds, atI (ds.map V.int) (x % ((ds.map V.int).length : Int)) = some (.int d) := by
  have hl : 0 < ds.length := List.length_pos_iff.mpr h
  rw [List.length_map]
  have h1 := Int.emod_nonneg x (show (ds.length : Int) ≠ 0 by omega)
  have h2 := Int.emod_lt_of_pos x (show (0 : Int) < (ds.length : Int) by omega)
  have hlt : (x % (ds.length : Int)).toNat < ds.length := by omega
  exact ⟨_, List.getElem_mem hlt, atIe (get_map (List.getElem?_eq_getElem hlt)) (by omega)⟩
theorem pstep_snoc (g : Sp2) (z q : Int × Int) : pstep (g ++ [z]) q = if q.1 ≤ z.2 then g ++ [(z.1, max q.2 z.2)] else g ++ [z] ++ [q] := by
  unfold pstep
  rw [List.getLast?_concat, List.dropLast_concat]
theorem perm_back {α β : Type} {f : α → β} {ys xs : List β} (p : ys.Perm xs) : ∀ l : List α, xs = l.map f → ∃ m : List α, m.Perm l ∧ ys = m.map f := by
  induction p with
  | nil => intro l h; exact ⟨l, List.Perm.refl _, h⟩
  | cons x p ih =>
    intro l h
    cases l with
    | nil => cases h
    | cons a l =>
      rw [List.map_cons] at h
      injection h with h1 h2
      obtain ⟨m, hm, e⟩ := ih l h2
      exact ⟨a :: m, hm.cons a, by rw [List.map_cons, ← e, h1]⟩
  | swap x y l0 =>
    intro l h
    cases l with
    | nil => cases h
    | cons a l =>
      cases l with
      | nil => cases h
      | cons b l =>
        rw [List.map_cons, List.map_cons] at h
        injection h with h1 h2
        injection h2 with h2 h3
        exact ⟨b :: a :: l, List.Perm.swap _ _ _, by rw [List.map_cons, List.map_cons, ← h1, ← h2, ← h3]⟩
  | trans _ _ ih1 ih2 =>
    intro l h
    obtain ⟨m, hm, e⟩ := ih2 l h
    obtain ⟨n, hn, e2⟩ := ih1 m e
    exact ⟨n, hn.trans hm, e2⟩
/-- the pair that a value stands for -/
def kOf (H : Hp) (v : V) : Int × Int := match v with
  | .ref t => (match H t with
    | some (.tup [.int a, .int b]) => (a, b)
    | _ => (0, 0))
  | _ => (0, 0)
theorem kOf_ref {H : Hp} {t : Addr} {a b : Int} (h : H t = some (.tup [.int a, .int b])) : kOf H (.ref t) = (a, b) := by
  show (match H t with
    | some (.tup [.int a, .int b]) => (a, b)
    | _ => (0, 0)) = (a, b)
  rw [h]
theorem TL.key {H : Hp} {zs : Zs} (h : TL H zs) {z : Addr × Int × Int} (hz : z ∈ zs) : kOf H (.ref z.1) = z.2 := by
  rw [kOf_ref (h z hz)]
theorem sorted_tl {K : PySem.W.Frag} {H : Hp} {a : Addr} {zs : Zs} {Q : VK} (hS : SqL K H a (refT zs)) (hT : TL H zs)
    (h : ∀ (ys : Zs) (p : Addr), ys.Perm zs → (ys.map (·.2)).Pairwise (fun a b => a.1 < b.1 ∨ a.1 = b.1 ∧ a.2 ≤ b.2) → H p = none → Q (.ref p) (upd H p (.lst (refT ys)))) : rSortedPO K [.ref a] H Q := by
  refine ⟨a, refT zs, kOf H, rfl, hS, fun x hx => ?_, fun ys p srt stb np => ?_⟩
  · obtain ⟨z, hz, rfl⟩ := List.mem_map.mp hx
    refine ⟨z.1, rfl, ?_⟩
    rw [hT.key hz]
    exact hT z hz
  · obtain ⟨m, hm, rfl⟩ := perm_back stb.perm zs rfl
    refine h m p hm ?_ np
    have hT2 : TL H m := fun z hz => hT z (hm.mem_iff.mp hz)
    have s2 := List.pairwise_map.mp srt
    refine List.pairwise_map.mpr ((List.Pairwise.and_mem.mp s2).imp ?_)
    rintro x y ⟨hx, hy, e⟩
    have e2 : ¬ SrtO.lexB (kOf H (.ref y.1)) (kOf H (.ref x.1)) = true := by
      have e3 : SrtO.lexB (kOf H (.ref y.1)) (kOf H (.ref x.1)) = false := e
      rw [e3]
      exact Bool.false_ne_true
    rw [hT2.key hx, hT2.key hy, SrtO.lexB_iff] at e2
    omega
end Fw

/-! Graphs: rows, what is reached, what leads to the end, runs, longest beginnings. -/
namespace Lay
abbrev Nx := List (List Int)
/-- reached from S by following the lists -/
inductive Rc (g : Nx) (S : Nat → Prop) : Nat → Prop
  | base {v : Nat} : S v → Rc g S v
  | step {v u : Nat} {l : List Int} : Rc g S v → g[v]? = some l → (u : Int) ∈ l → Rc g S u
/-- leads to the end -/
inductive Ld (g : Nx) : Nat → Prop
  | fin {v : Nat} {l : List Int} : g[v]? = some l → (-1 : Int) ∈ l → Ld g v
  | step {v u : Nat} {l : List Int} : g[v]? = some l → (u : Int) ∈ l → Ld g u → Ld g v
def RowOk (n : Nat) (l : List Int) : Prop := 1 ≤ l.length ∧ l.length ≤ 4 ∧ ∀ t ∈ l, t = -1 ∨ (0 ≤ t ∧ t < (n : Int))
structure GOk (g : Nx) : Prop where
  pos : 0 < g.length
  rows : ∀ l ∈ g, RowOk g.length l
  reach : ∀ v, v < g.length → Rc g (fun s => s = 0) v
  ends : ∀ v, v < g.length → Ld g v
/-- one more beat for a run of which d nodes are done -/
def pst (r : List Int) (d : Nat) (b : Int) : Nat := if r[d]? = some b then d + 1 else d
/-- the length of the longest beginning of r that lies in S -/
def pfx (r S : List Int) : Nat := S.foldl (pst r) 0
theorem pst_le {r : List Int} {d : Nat} {b : Int} (h : d ≤ r.length) : pst r d b ≤ r.length := by
  unfold pst
  split
  · rename_i e
    exact (List.getElem?_eq_some_iff.mp e).1
  · exact h
theorem pfx_le (r S : List Int) : pfx r S ≤ r.length := by
  have : ∀ (S : List Int) (d : Nat), d ≤ r.length → S.foldl (pst r) d ≤ r.length := fun S => by
    induction S with
    | nil => exact fun d h => h
    | cons b S ih => exact fun d h => ih _ (pst_le h)
  exact this S 0 (Nat.zero_le _)
theorem pfx_snoc (r S : List Int) (b : Int) : pfx r (S ++ [b]) = pst r (pfx r S) b := by
  unfold pfx
  rw [List.foldl_append]
  rfl
theorem pfx_take {S : List Int} {i : Nat} {b : Int} (r : List Int) (h : S[i]? = some b) : pfx r (S.take (i + 1)) = pst r (pfx r (S.take i)) b := by
  rw [List.take_add_one, h]
  exact pfx_snoc r _ b
/-- where a lane stands -/
def plc (r : List Int) (d : Nat) : Int := (r[d]?).getD (-1)
/-- a run of the graph -/
structure RunOk (g : Nx) (r : List Int) : Prop where
  first : r[0]? = some 0
  rng : ∀ x ∈ r, 0 ≤ x ∧ x < (g.length : Int)
  next : ∀ i x y, r[i]? = some x → r[i + 1]? = some y → ∃ l, g[x.toNat]? = some l ∧ y ∈ l
  last : ∃ x l, r[r.length - 1]? = some x ∧ g[x.toNat]? = some l ∧ (-1 : Int) ∈ l
end Lay
namespace Fw
open PySem PySem.Spec PyProof.Rows L2 Lay
/-- a row: word, price, successors -/
abbrev Rw := Str × Int × List Int
/-- rows in the heap: the tuple's address, its successors' address -/
abbrev Rx := List (Addr × Addr × Rw)
abbrev refR (rs : Rx) : List V := rs.map fun q => V.ref q.1
abbrev rowO (q : Addr × Addr × Rw) : HO := .tup [.str q.2.2.1, .int q.2.2.2.1, .ref q.2.1]
def RwOk (H : Hp) (rs : Rx) : Prop := ∀ q ∈ rs, H q.1 = some (rowO q) ∧ H q.2.1 = some (itup q.2.2.2.2)
theorem RwOk.same {H H2 : Hp} {rs : Rx} (h : RwOk H rs) (s : Same H H2) : RwOk H2 rs := fun q hq => ⟨s _ _ (h q hq).1, s _ _ (h q hq).2⟩
def sxr (rs : Rx) : Nx := rs.map fun q => q.2.2.2.2
def pxr (rs : Rx) : List Int := rs.map fun q => q.2.2.2.1
theorem refR_get {rs : Rx} {i : Nat} {x : V} (h : (refR rs)[i]? = some x) : ∃ q, rs[i]? = some q ∧ q ∈ rs ∧ x = .ref q.1 := by
  unfold refR at h
  rw [List.getElem?_map] at h
  cases e : rs[i]? with
  | none =>
    rw [e] at h
    cases h
  | some z =>
    rw [e] at h
    exact ⟨z, rfl, List.mem_of_getElem? e, (Option.some.inj h).symm⟩
theorem get_refR {rs : Rx} {i : Nat} {q : Addr × Addr × Rw} (h : rs[i]? = some q) : (refR rs)[i]? = some (.ref q.1) := by
  unfold refR
  rw [List.getElem?_map, h]
  rfl
theorem get_sxr {rs : Rx} {i : Nat} {q : Addr × Addr × Rw} (h : rs[i]? = some q) : (sxr rs)[i]? = some q.2.2.2.2 := by
  unfold sxr
  rw [List.getElem?_map, h]
  rfl
theorem sxr_get {rs : Rx} {i : Nat} {l : List Int} (h : (sxr rs)[i]? = some l) : ∃ q, rs[i]? = some q ∧ q.2.2.2.2 = l := by
  unfold sxr at h
  rw [List.getElem?_map] at h
  cases e : rs[i]? with
  | none =>
    rw [e] at h
    cases h
  | some z =>
    rw [e] at h
    exact ⟨z, rfl, Option.some.inj h⟩
theorem sxr_len (rs : Rx) : (sxr rs).length = rs.length := List.length_map ..
theorem get_pxr {rs : Rx} {i : Nat} {q : Addr × Addr × Rw} (h : rs[i]? = some q) : (pxr rs)[i]? = some q.2.2.2.1 := by
  unfold pxr
  rw [List.getElem?_map, h]
  rfl
def NameOk (x : Str) : Prop := 1 ≤ x.cps.size ∧ x.cps.size ≤ 8 ∧ ∀ c ∈ x.cps.toList, c ∈ ("abcdefghijklmnopqrstuvwxyz" : Str).cps.toList
structure RsOk (rs : Rx) : Prop where
  few : rs.length ≤ 1000
  g : GOk (sxr rs)
  nm : ∀ q ∈ rs, NameOk q.2.2.1 ∧ 1 ≤ q.2.2.2.1
/-- a graph stands at a -/
def GrAt (K : PySem.W.Frag) (H : Hp) (a : Addr) (rs : Rx) : Prop := ∃ dx ra, H a = some (.ins (He.ga K "Graph") dx [("size", .int rs.length), ("_rows", .ref ra)]) ∧ H ra = some (.tup (refR rs)) ∧ RwOk H rs
theorem GrAt.same {K : PySem.W.Frag} {H H2 : Hp} {a : Addr} {rs : Rx} (h : GrAt K H a rs) (s : Same H H2) : GrAt K H2 a rs := by
  obtain ⟨dx, ra, h1, h2, h3⟩ := h
  exact ⟨dx, ra, s _ _ h1, s _ _ h2, h3.same s⟩
theorem neg_in {ls : List Int} {t : Int} (h : t ∈ ls) : inV (.int t) (ls.map V.int) = true := by
  unfold inV
  rw [List.any_map]
  exact List.any_eq_true.mpr ⟨t, h, decide_eq_true rfl⟩
theorem inV_int {ls : List Int} {t : Int} : inV (.int t) (ls.map V.int) = decide (t ∈ ls) := by
  by_cases h : t ∈ ls
  · rw [neg_in h, decide_eq_true h]
  · rw [decide_eq_false h]
    unfold inV
    rw [List.any_map, List.any_eq_false]
    intro y hy e
    exact h (by
      have e2 : (y == t) = true := e
      rw [← eq_of_beq e2]
      exact hy)
theorem flat_ints (ls : List Int) : (ls.map V.int).all flatV = true := by
  rw [List.all_map]
  exact List.all_eq_true.mpr fun d _ => rfl
theorem pi_tupE {X : Cx} {K : PySem.W.Frag} {tg l : Expr} {tl : TE} (h : X.K = K) (hl : PI X tg l (iTup X.K tl)) : PI X tg l (iTup K tl) := by
  subst h
  exact hl
theorem op_in_seqE {X : Cx} {K : PySem.W.Frag} (h : X.K = K) : OpR X (compareOp .In) (rIn K false) := by
  subst h
  exact op_in_seq
theorem atI_end {r : List Int} {x : Int} (h : r[r.length - 1]? = some x) : atI (r.map V.int) (-1) = some (.int x) := by
  have hlt := (List.getElem?_eq_some_iff.mp h).1
  unfold atI ixN
  rw [if_neg (by omega), if_pos (by rw [List.length_map]; omega), List.length_map]
  show (r.map V.int)[(-1 + (r.length : Int)).toNat]? = _
  have e : (-1 + (r.length : Int)).toNat = r.length - 1 := by omega
  rw [e]
  exact get_map h
end Fw

/-! Three rules that fronts need: a display with one tuple as key, sorted by key=sum from above, min with default=. -/
namespace Fw
open PySem PySem.Spec PyProof.Rows L2
section
variable {X : Cx} {pos p p2 p3 kp1 kp2 : Pos} {k v e : Expr} {tk tv te : TE}
/-- {k: v} with a tuple for a key -/
def tDisp1T (tk tv : TE) : TE := fun σ H Q => ∀ d, H d = none → tk σ (upd H d (.dT [])) fun x H1 => tv σ H1 fun y H2 => H2 d = some (.dT []) ∧
  ∃ b ks, x = .ref b ∧ H2 b = some (.tup (ks.map kV)) ∧ Q (.ref d) (upd H2 d (.dT [(ks, y)]))
theorem pe_disp1T (hu : X.A.units + 1 < cLine) (hk : PE X k tk) (hv : PE X v tv) : PE X (.Dict [some k] [v] pos) (tDisp1T tk tv) := by
  refine ⟨fun pins s σ H Q I q => ?_⟩
  have hn := I.hok.fresh (Nat.le_refl s.heap.objs.size)
  have I1 := I.laid (a := s.heap.objs.size) (o := .dT []) (h' := s.heap.push { cls := .type "dict", data := .dict #[] }) (t' := s.toks) (fun _ _ q => Heap.get?_push_of_some _ q) (Nat.le_refl _) (dt_empty s.heap I.big)
  rw [arm_eval_Dict, zip_pairTrees [some k] [v] X.env pos rfl rfl, dictDisplay_pairs (pairTrees [some k] [v] X.env pos) (by intro h; cases h) (by show 1 < 17; decide)]
  refine wpAny_bind (wpAny_standAt (wpAny_bind (wpAny_subDictH (knd := tupleKind (mixKind X.prog X.w)) (show X.A.units < cLine by omega) (by show 1 ≤ 15; decide) ?_)))
  refine pairTrees_cons_walk (thn (hk.run pins _ σ _ _ I1 (q _ hn)) fun u s1 ⟨x, H1, I2, rx, q1⟩ => thn (hv.run pins s1 σ H1 _ I2 q1) fun u2 s2 ⟨y, H2, I3, ry, e, b, ks, ex, eb, q2⟩ => ?_)
  refine pairTrees_nil_walk ?_
  subst ex
  obtain rfl : u = Value.ref b := rx
  obtain ⟨z, hd, xs, rel, dd⟩ := dt_of I3.hok e
  cases rel
  refine ⟨[(ks, b, u2)], ⟨rfl, rfl, key_of I3.hok eb, True.intro⟩, dd, fun h' tk2 dd' hs => wpAny_pure ⟨.ref s.heap.objs.size, _, ?_, rfl, q2⟩⟩
  obtain ⟨o, es, ep, hq, h2, h3, h4, _, h5⟩ := dd'
  have ne : b ≠ s.heap.objs.size := ne_of eb e (fun z => nomatch z)
  refine d_write I3 (by rw [e]; exact True.intro) hs ⟨o, hq⟩ ⟨by show 1 ≤ sizeLine; decide, hd, _, .cons ⟨rfl, ?_, ry⟩ .nil, o, es, ep, hq, h2, h3, h4, h5⟩
  show upd H2 _ _ b = _
  rw [upd_ne ne]
  exact eb
end
section
variable {P : Program} {w : World} {A : Around} {E : Value → Shared → Prop} {s : Shared}
theorem sum_tup {t : Addr} {vs : List Value} {ns : List Int} {Q : Value → Shared → Prop} (hh : A.handled = none) (hl : s.heap.IsTuple t vs.toArray) (hi : IntsAre vs ns)
    (h : ∀ h' tk t', (∀ b o, s.heap.get? b = some o → h'.get? b = some o) → Q (.int ns.sum t') { s with heap := h', toks := tk }) : wpAny (model P w) A (call (.builtin "sum") [.ref t]) Q E s := by
  obtain ⟨xs, hx⟩ := hi.allInts.items
  have hn : numsOf vs.toArray.toList = ns := by rw [show vs.toArray.toList = vs from rfl, hi.numsOf]
  rw [hx] at hl hn
  rw [nums_intItems] at hn
  refine PySem.W.ktm_sumG hh hl fun h' tk t' hk => ?_
  have := h h' tk t' hk
  rw [preSum_eq, List.take_of_length_le (by simp), hn]
  exact this
end
section
variable {X : Cx} {pos p p2 p3 kp1 kp2 : Pos} {j : Nat} {e : Expr} {t : TA}
/-- sorted(xs, key=sum, reverse=True), xs a list of tuples of whole numbers -/
def rSortSum (K : PySem.W.Frag) : List V → Hp → VK → Prop := fun vs H Q => ∃ (a : Addr) (fs : List (Addr × List Int)), vs = [.ref a] ∧ SqL K H a (fs.map fun f => V.ref f.1) ∧ (∀ f ∈ fs, H f.1 = some (.tup (f.2.map V.int))) ∧
  ∀ (gs : List (Addr × List Int)) (p : Addr), gs.Perm fs → gs.Pairwise (fun f g => g.2.sum ≤ f.2.sum) → H p = none → Q (.ref p) (upd H p (.lst (gs.map fun f => V.ref f.1)))
def tSortSum (K : PySem.W.Frag) (t : TA) : TE := fun σ H Q => t σ H fun vs H1 => rSortSum K vs H1 Q
theorem refs_eq : ∀ (fs : List (Addr × List Int)) (us : List Value), Vals (fs.map fun f => V.ref f.1) us → us = fs.map fun f => Value.ref f.1
  | [], _, r => by
    cases r
    rfl
  | f :: fs, _, r => by
    cases r with
    | cons h t =>
      rw [refs_eq fs _ t]
      cases h
      rfl
theorem vals_refs : ∀ (fs : List (Addr × List Int)), Vals (fs.map fun f => V.ref f.1) (fs.map fun f => Value.ref f.1)
  | [] => .nil
  | f :: fs => .cons rfl (vals_refs fs)
theorem each_refs {R : Value → (Addr × List Int) → Prop} : ∀ (fs : List (Addr × List Int)), (∀ f ∈ fs, R (.ref f.1) f) → PySem.W.EachIs R (fs.map fun f => Value.ref f.1) fs
  | [], _ => .nil
  | f :: fs, h => .cons (h f (List.mem_cons_self ..)) (each_refs fs fun g hg => h g (List.mem_cons_of_mem _ hg))
theorem each_eq {R : Value → (Addr × List Int) → Prop} (hR : ∀ v f, R v f → v = .ref f.1) {out : List Value} {gs : List (Addr × List Int)} (h : PySem.W.EachIs R out gs) : out = gs.map fun f => Value.ref f.1 := by
  induction h with
  | nil => rfl
  | cons h t ih =>
    rw [List.map_cons, ← ih, hR _ _ h]
theorem pe_sortSum (hc : X.calm = true) (hu : X.A.units + 64 < cLine) (hg : Gl X "sorted") (hm : X.mg "sorted" = none) (hg2 : Gl X "sum") (hm2 : X.mg "sum" = none) (ha : PA X [e] t)
    (hst : backTo pos (starEach [e] X.env) = (false, eval e X.env) :: backTo pos (starEach [] X.env) := by rfl) (hpl : (backTo pos (starEach [e] X.env)).any (·.1) = false := by rfl) :
    PE X (.Call (.Name "sorted" p) [e] [⟨some "key", .Name "sum" p2, kp1⟩, ⟨some "reverse", .Constant (.bool true) j p3, kp2⟩] pos) (tSortSum X.K t) := by
  refine ⟨fun pins s σ H Q I h => ?_⟩
  have hv1 : bootBuiltins ("sorted" : Str) = some (.builtin "sorted") := by decide +kernel
  have hv2 : bootBuiltins ("sum" : Str) = some (.builtin "sum") := by decide +kernel
  refine wpAny_Call_Name_kw (ld_blt I hg hm hv1 ?_)
  refine PyProof.Rows.callWith_kw (thn (ha.run pos pins s σ H _ I h) fun us s1 ⟨vs, H1, I1, r1, q1⟩ => ?_) hst hpl rfl rfl
  show wpAny _ _ (evalAll ((do let v ← eval (.Name "sum" p2) X.env; standAt pos; pure v) :: (do let v ← eval (.Constant (.bool true) j p3) X.env; standAt pos; pure v) :: [])) _ _ s1
  refine wpAny_evalAll_cons (wpAny_bind (ld_blt I1 hg2 hm2 hv2 (wpAny_bind (wpAny_standAt (wpAny_pure ?_)))))
  refine wpAny_evalAll_cons (wpAny_bind (Constant_bool (wpAny_bind (wpAny_standAt (wpAny_pure ?_)))))
  refine wpAny_evalAll_nil ?_
  obtain ⟨a, fs, rfl, hS, hF, q⟩ := q1
  obtain rfl := Vals.ref1 r1
  obtain ⟨its, rv, hl, hz⟩ := I1.list hS
  obtain rfl := refs_eq fs its rv
  rw [List.length_map] at hz
  show wpAny _ _ (call (.builtin "sorted") [.ref a] [(Str.ofString "key", .builtin "sum"), (Str.ofString "reverse", .bool true)]) _ _ s1
  have hA : X.A.in1.in1.handled = none := (I1.ok.hd hc)
  refine PySem.W.sorted_key_data (β := Addr × List Int) (R := fun v f => v = .ref f.1 ∧ f ∈ fs) (b := true) (fun f => .int f.2.sum) hl.isList (each_refs fs fun f hf => ⟨rfl, hf⟩) ?al ?so hz ?hu (PyProof.Rows.ksk_s2 _ _ _) (fun _ => PyProof.Rows.ksk_l2 _ _ _) (fun x => PyProof.Rows.ksk_t5 "sum" x true) ?turn ?out
  case al =>
    intro d hd d2 hd2
    obtain ⟨f, _, rfl⟩ := List.mem_map.mp hd
    obtain ⟨g, _, rfl⟩ := List.mem_map.mp hd2
    rfl
  case so =>
    refine .inr fun d hd => (?_ : d ≠ PyData.none ∧ ∀ xs, d ≠ PyData.tuple xs)
    obtain ⟨f, _, rfl⟩ := List.mem_map.mp hd
    exact ⟨fun e => PyData.noConfusion e, fun xs e => PyData.noConfusion e⟩
  case hu =>
    intro f _
    show X.A.units + 2 + 0 < cLine
    omega
  case turn =>
    rintro v f ⟨rfl, hf⟩ hf2 h tk kp
    obtain ⟨_, its, rt, ht⟩ := (show ObjOk X.prog X.w H1 s1.heap f.1 (.tup (f.2.map V.int)) from I1.hok _ _ (hF f hf))
    refine sum_tup (s := { s1 with heap := h, toks := tk }) (vs := its) (ns := f.2) hA (IsTup.keeps ht kp) (ints_of_vals rt) fun h' tk2 t' k2 => ⟨h', tk2, rfl, k2, .int _ _⟩
  case out =>
    intro out c h' tk kp fr ho hlen hE
    obtain rfl := each_eq (fun v f h => h.1) hE
    refine ⟨.ref (s1.heap.objs.size + 1), upd H1 (s1.heap.objs.size + 1) (.lst ((fs.mergeSort (PySem.W.dataLe true fun f => .int f.2.sum)).map fun f => V.ref f.1)), I1.laid (t' := tk) kp (Nat.le_succ _) ⟨?_, _, c, vals_refs _, ho⟩, rfl, ?_⟩
    · rw [List.length_map, (List.mergeSort_perm fs _).length_eq]
      exact hz
    · refine q _ _ (List.mergeSort_perm fs _) ?_ (I1.hok.fresh (Nat.le_succ _))
      rw [PySem.W.dataGe_int]
      have := List.pairwise_mergeSort (le := fun (a b : Addr × List Int) => decide (b.2.sum ≤ a.2.sum)) (fun a b c h1 h2 => by
        have := of_decide_eq_true h1
        have := of_decide_eq_true h2
        exact decide_eq_true (by omega)) (fun a b => by
        by_cases h : b.2.sum ≤ a.2.sum
        · rw [decide_eq_true h]
          rfl
        · rw [decide_eq_true (show a.2.sum ≤ b.2.sum by omega), Bool.or_true]) fs
      exact this.imp fun h => of_decide_eq_true h
end
/-! min(xs, default=d) of whole numbers -/
theorem reads_all {h : Heap} : ∀ {ns : List Int} {us : List Value}, Vals (ns.map V.int) us → ReadsAll h us (ns.map PyData.int) []
  | [], _, r => by
    cases r
    exact .nil
  | n :: ns, _, r => by
    cases r with
    | cons h t =>
      obtain ⟨t', rfl⟩ := h
      exact ReadsAll.cons (as := []) (bs := []) (.int n t') (reads_all t)
theorem fold_min : ∀ (ns : List Int) (n : Int), ns.foldl min n ∈ n :: ns ∧ ∀ y ∈ n :: ns, ns.foldl min n ≤ y
  | [], n => ⟨List.mem_cons_self .., fun y hy => by
    rw [List.mem_singleton.mp hy]
    exact Int.le_refl _⟩
  | k :: ns, n => by
    obtain ⟨h1, h2⟩ := fold_min ns (min n k)
    have hm : min n k = n ∨ min n k = k := by omega
    have hle := h2 _ (List.mem_cons_self ..)
    refine ⟨?_, fun y hy => ?_⟩
    · show ns.foldl min (min n k) ∈ _
      rcases List.mem_cons.mp h1 with e | e
      · rw [e]
        rcases hm with e2 | e2
        · rw [e2]
          exact List.mem_cons_self ..
        · rw [e2]
          exact List.mem_cons_of_mem _ (List.mem_cons_self ..)
      · exact List.mem_cons_of_mem _ (List.mem_cons_of_mem _ e)
    · show ns.foldl min (min n k) ≤ y
      rcases List.mem_cons.mp hy with e | hy
      · omega
      · rcases List.mem_cons.mp hy with e | hy
        · omega
        · exact h2 y (List.mem_cons_of_mem _ hy)
def rMinD (K : PySem.W.Frag) : List V → List V → Hp → VK → Prop := fun vs zs H Q => ∃ (a : Addr) (ns : List Int) (d : Int), vs = [V.ref a] ∧ zs = [V.int d] ∧ SqL K H a (ns.map V.int) ∧ (ns = [] → Q (.int d) H) ∧ ∀ m ∈ ns, (∀ y ∈ ns, m ≤ y) → Q (.int m) H
theorem cr_minD {X : Cx} (hc : X.calm = true) (hu : X.A.units + 1 < cLine) : CallRK X (.builtin "min") [Str.ofString "default"] (rMinD X.K) := by
  intro pins s σ H vs zs us ws Q I r rz h
  obtain ⟨a, ns, d, rfl, rfl, hS, q0, q⟩ := h
  obtain rfl := Vals.ref1 r
  obtain ⟨w1, rfl, t1, rfl⟩ := vals1 rz
  obtain ⟨its, rv, hl, hz⟩ := I.list hS
  have dep : ∀ ns : List Int, PySem.PyData.depthAll (ns.map PyData.int) = 0 := fun ns => by
    induction ns with
    | nil => rfl
    | cons n ns ih =>
      show max (PyData.depth (.int n)) (PyData.depthAll (ns.map PyData.int)) = 0
      rw [ih]
      rfl
  show wpAny _ _ (call (.builtin "min") [.ref a] [(Str.ofString "default", .int d t1)]) _ _ s
  refine PySem.W.min_list_default (I.ok.hd hc) hl.isList (reads_all rv) ⟨?_, ?_⟩ ?_ (fun e h' tk k => ?_) (fun y ys i v h' tk bs e hv hr k => ?_)
  · intro x hx y hy
    obtain ⟨n, _, rfl⟩ := List.mem_map.mp hx
    obtain ⟨m, _, rfl⟩ := List.mem_map.mp hy
    rfl
  · intro x hx
    obtain ⟨n, _, rfl⟩ := List.mem_map.mp hx
    exact fun e => PyData.noConfusion e
  · rw [dep]
    omega
  · exact ⟨.int d, H, I.kept k, ⟨_, rfl⟩, q0 (List.map_eq_nil_iff.mp e)⟩
  · cases ns with
    | nil => cases e
    | cons n ns =>
      rw [List.map_cons] at e
      injection e with e1 e2
      subst e1 e2
      rw [PySem.W.minD_ints] at hr
      cases hr
      exact ⟨.int _, H, I.kept k, ⟨_, rfl⟩, q _ (fold_min ns n).1 (fold_min ns n).2⟩
theorem call_tuple_ofE {X : Cx} {K : PySem.W.Frag} (h : X.K = K) : CallR X (.type "tuple") (fun xs H Q => ∃ p ys, xs = [.ref p] ∧ ((SqL K H p ys ∧ ∀ l, H l = none → Q (.ref l) (upd H l (.tup ys))) ∨ (SqT K H p ys ∧ Q (.ref p) H))) := by
  subst h
  exact call_tuple_of
theorem call_list_ofE {X : Cx} {K : PySem.W.Frag} (h : X.K = K) : CallR X (.type "list") (fun xs H Q => ∃ p ys, xs = [.ref p] ∧ (SqL K H p ys ∨ SqT K H p ys) ∧ ∀ l, H l = none → Q (.ref l) (upd H l (.lst ys))) := by
  subst h
  exact call_list_of
end Fw

/-! t + u and t[lo:hi] of tuples: some tuple with these items, new or not. -/
namespace Fw
open PySem PySem.Spec PyProof.Rows L2
section
variable {X : Cx}
def rCatX : R2 := fun x y H Q => ∃ a b xs ys, x = .ref a ∧ y = .ref b ∧ H a = some (.tup xs) ∧ H b = some (.tup ys) ∧ xs.length + ys.length ≤ sizeLine ∧ ∀ (H2 : Hp) (p : Addr), Same H H2 → H2 p = some (.tup (xs ++ ys)) → Q (.ref p) H2
theorem op_catX : OpR X (binaryOp .Add) rCatX := by
  intro pins s σ H x y v u Q I rx ry h
  obtain ⟨a, b, xs, ys, rfl, rfl, ha, hb, hz, q⟩ := h
  refine op_catA pins s σ H _ _ v u Q I rx ry ⟨a, b, xs, ys, rfl, rfl, SqT.of ha, SqT.of hb, hz, fun e => ?_, fun _ e => ?_, fun _ _ p np => q _ p (same_new np) upd_same⟩
  · subst e
    exact q H b (Same.refl _) hb
  · subst e
    exact q H a (Same.refl _) (by rw [List.append_nil]; exact ha)
def rSlX : V → Option Int → Option Int → Hp → VK → Prop := fun x lo hi H Q => ∃ a xs, x = .ref a ∧ H a = some (.tup xs) ∧ ∀ (H2 : Hp) (p : Addr), Same H H2 → H2 p = some (.tup (cutV xs lo hi)) → Q (.ref p) H2
theorem sl_tupX : SlR X rSlX := by
  intro pins s σ H x v vl vu lo hi sl Q I rx hs pl pu h
  obtain ⟨a, xs, rfl, hx, q⟩ := h
  refine sl_tupA pins s σ H _ v vl vu lo hi sl Q I rx hs pl pu ⟨a, xs, rfl, SqT.of hx, fun e => ?_, fun _ p np => q _ p (same_new np) upd_same⟩
  refine q H a (Same.refl _) ?_
  unfold cutV
  rw [e.1, e.2, List.drop_zero, Nat.sub_zero, List.take_length]
  exact hx
theorem cutV_map (ns : List Int) (lo hi : Option Int) : cutV (ns.map V.int) lo hi = ((ns.drop (HT.sIx ns.length 0 lo)).take (HT.sIx ns.length ns.length hi - HT.sIx ns.length 0 lo)).map V.int := by
  unfold cutV
  rw [List.length_map, List.map_take, List.map_drop]
theorem op_eqDE {K : PySem.W.Frag} (h : X.K = K) (hu : X.A.units + 64 < cLine) : OpR X (compareOp .Eq) (rEqD K) := by
  subst h
  exact op_eqD hu
theorem cr_sumE {K : PySem.W.Frag} (h : X.K = K) (hc : X.calm = true) : CallR X (.builtin "sum") (rSum K) := by
  subst h
  exact cr_sum hc
theorem sl_listE {K : PySem.W.Frag} (h : X.K = K) : SlR X (rSlL K) := by
  subst h
  exact sl_list
end
end Fw

/-! A head with properties; a property read; a method called with a keyword. -/
namespace Fw
open PySem PySem.Spec PyProof.Rows L2
/-- the getter of the property f of the class C -/
def propAt (K : PySem.W.Frag) (C f : Str) : Addr := match PySem.W.findIn K (.ref (He.ga K C)) f with
  | some (some (.ref p)) => (match PySem.W.recIn K p "property" with
    | some (.ref g :: _) => g
    | _ => 0)
  | _ => 0
def propB (K : PySem.W.Frag) (q : Str × Str) : Bool := match PySem.W.findIn K (.ref (He.ga K q.1)) q.2 with
  | some (some (.ref p)) => decide (PySem.W.specialIn K (.ref p) "__get__" = some (some (.builtin "property.__get__"))) && (decide (PySem.W.takesIn K (.ref p) = some true) && (match PySem.W.recIn K p "property" with
    | some (.ref _ :: _) => true
    | _ => false))
  | _ => false
theorem propB_ok {K : PySem.W.Frag} {C f : Str} (h : propB K (C, f) = true) : ∃ p, PropOf K (He.ga K C) f p (propAt K C f) := by
  unfold propB at h
  cases q : PySem.W.findIn K (.ref (He.ga K C)) f with
  | none =>
    rw [q] at h
    cases h
  | some o =>
    cases o with
    | none =>
      rw [q] at h
      cases h
    | some v =>
      cases v with
      | ref p =>
        rw [q] at h
        obtain ⟨h1, h2⟩ := He.ba (show (decide (PySem.W.specialIn K (.ref p) "__get__" = some (some (.builtin "property.__get__"))) && (decide (PySem.W.takesIn K (.ref p) = some true) && (match PySem.W.recIn K p "property" with
          | some (.ref _ :: _) => true
          | _ => false))) = true from h)
        obtain ⟨h3, h4⟩ := He.ba h2
        refine ⟨p, q, of_decide_eq_true h1, of_decide_eq_true h3, ?_⟩
        unfold propAt
        rw [q]
        cases r : PySem.W.recIn K p "property" with
        | none =>
          rw [r] at h4
          cases h4
        | some l =>
          rw [r] at h4
          cases l with
          | nil => cases h4
          | cons v l =>
            cases v with
            | ref g => exact ⟨l, by simp [r]⟩
            | _ => cases h4
      | _ =>
        rw [q] at h
        cases h
def obsP (fa : List He.Fa) (fn : List He5.DefA) (pr : List (Str × Str)) (K : PySem.W.Frag) : He.AlD := (((fa.all fun f => f.ok K) && fn.all fun d => d.ok K) && pr.all fun q => propB K q, fn.map fun d => He5.fnA K (d.at_ K))
def SaysP (fa : List He.Fa) (fn : List He5.DefA) (pr : List (Str × Str)) (K : PySem.W.Frag) : Prop := obsP fa fn pr K = He5.valA fn
def obsPG (n : Nat) (fa : List He.Fa) (fn : List He5.DefA) (pr : List (Str × Str)) (g : Addr → Option Obj) : He.AlD := obsP fa fn pr (He.frG g (He.asD g n))
def hookP (n : Nat) (fa : List He.Fa) (fn : List He5.DefA) (pr : List (Str × Str)) : PySem.W.Hook where
  α := He.AlD
  obs := fun s => obsPG n fa fn pr s.heap.get?
  val := fun _ => He5.valA fn
  says := fun _ h => ∃ K : PySem.W.Frag, K.In h ∧ SaysP fa fn pr K
  of := fun _ _ e => ⟨_, He.frG_in, e⟩
  keeps := fun _ _ _ ⟨K, hK, c⟩ k => ⟨K, PySem.W.Frag.In.keeps hK k, c⟩
theorem obsPG_eq {n : Nat} {fa : List He.Fa} {fn : List He5.DefA} {pr : List (Str × Str)} {g : Addr → Option Obj} {s : Shared} (h : ∀ a, g a = s.heap.get? a) : obsPG n fa fn pr g = (hookP n fa fn pr).obs s := by
  have e : g = s.heap.get? := funext h
  rw [e] <;> rfl
section
variable {fa : List He.Fa} {fn : List He5.DefA} {pr : List (Str × Str)} {K : PySem.W.Frag}
theorem SaysP.fact (c : SaysP fa fn pr K) (i : Nat) {f : He.Fa} (h : fa[i]? = some f := by rfl) : f.ok K = true := by
  have c1 := (He.ba (He.ba (show (((fa.all fun f => f.ok K) && fn.all fun d => d.ok K) && pr.all fun q => propB K q) = true from congrArg (fun z : He.AlD => z.1) c)).1).1
  exact List.all_eq_true.mp c1 f (List.mem_of_getElem? h)
theorem SaysP.prop (c : SaysP fa fn pr K) (i : Nat) {C f : Str} (h : pr[i]? = some (C, f) := by rfl) : ∃ p, PropOf K (He.ga K C) f p (propAt K C f) := by
  have c1 := (He.ba (show (((fa.all fun f => f.ok K) && fn.all fun d => d.ok K) && pr.all fun q => propB K q) = true from congrArg (fun z : He.AlD => z.1) c)).2
  exact propB_ok (List.all_eq_true.mp c1 (C, f) (List.mem_of_getElem? h))
theorem SaysP.def_ (c : SaysP fa fn pr K) (i : Nat) {d : He5.DefA} (h : fn[i]? = some d := by rfl) : ∃ fd, L2.FunD K d.name d.qual d.params d.body d.scope (d.dvs K) (d.kws K) (d.at_ K) fd := by
  have c2 := (He.ba (He.ba (show (((fa.all fun f => f.ok K) && fn.all fun d => d.ok K) && pr.all fun q => propB K q) = true from congrArg (fun z : He.AlD => z.1) c)).1).2
  have e : fn.map (fun d => He5.fnA K (d.at_ K)) = fn.map He5.DefA.val := congrArg (fun z : He.AlD => z.2) c
  have e2 : (fn.map fun d => He5.fnA K (d.at_ K))[i]? = (fn.map He5.DefA.val)[i]? := by rw [e]
  rw [List.getElem?_map, List.getElem?_map, h] at e2
  exact He5.DefA.funD (Option.some.inj e2) (List.all_eq_true.mp c2 d (List.mem_of_getElem? h))
end
/-! ### rules -/
/-- a def that is called with its keyword-only parameters written, too -/
structure GoodK (P : Program) (w : World) (K : PySem.W.Frag) (mg : Str → Option Value) (base : Heap) (k : Nat) (f : Addr) (ps : List Str) (dvs : List V) (n : Nat) (ks : List Str) (sp : Sp) : Prop where
  ex : ∃ fd ds, FnOk P w K mg base CX0 k f fd ps sp ∧ Binds K fd ps ds ∧ Vals dvs ds ∧ KBn K fd ps n ks (fun us ws => us ++ ws) (fun vs zs => vs ++ zs)
  kp : PySem.W.keepIn K (.ref f) = true
theorem GoodK.good {P : Program} {w : World} {K : PySem.W.Frag} {mg : Str → Option Value} {base : Heap} {k : Nat} {f : Addr} {ps : List Str} {dvs : List V} {n : Nat} {ks : List Str} {sp : Sp} (G : GoodK P w K mg base k f ps dvs n ks sp) : Good P w K mg base k f ps dvs sp := by
  obtain ⟨⟨fd, ds, a, b, c, _⟩, kp⟩ := G
  exact ⟨⟨fd, ds, a, b, c⟩, kp⟩
section
variable {P : Program} {w : World} {K : PySem.W.Frag} {mg : Str → Option Value} {base : Heap} {k : Nat} {f : Addr} {N ps : List Str} {sp : Sp} {x q : Str} {pa : Arguments} {bd : List Stmt} {sc : Scope}
theorem good_kwK {kws : List (Str × V)} {n : Nat} (hF : ∃ fd, FunD K x q pa bd sc [] kws f fd) (S : FnScope N ps sc) (len : ∀ vs H Q E, sp vs H Q E → vs.length = ps.length) (hk : kws ≠ []) (hn : n + kws.length = ps.length)
    (hb : ∀ (D : Addr) (doc pm : Value) (an : Option Addr) (cdv ct : Value) (us ks : List Value), us.length = n → ks.length = kws.length →
      KwChain D ((kws.map (·.1)).zip ks) (bindArgs (PySem.W.fnOf x q pa bd sc .none (.ref D) doc pm an cdv ct) ⟨us, []⟩) (ps.zip (us ++ ks)))
    (hb2 : ∀ (kV doc pm : Value) (an : Option Addr) (cdv ct : Value) (us ws : List Value), us.length = n → ws.length = (kws.map (·.1)).length →
      ∀ s : Shared, BindsTo s (PySem.W.fnOf x q pa bd sc .none kV doc pm an cdv ct) ⟨us, (kws.map (·.1)).zip ws⟩ (ps.zip (us ++ ws)))
    (hbody : ∀ (cdv : Value) (A : Around) (outer : List Env) (s : Shared) (H : Hp) (vs : List V) (Q : VK) (E : XK), Room k (A.deeper (envOfC q sc s.heap.objs.size f cdv)) → sp vs H Q E →
      ∃ t, PSs (cxOf CX0 P w K mg base N q sc f cdv A outer s H E).nox bd t ∧ t { nx := fun _ H2 => Q .non H2, rt := Q } (start N vs) H) : GoodK P w K mg base (k + 1) f ps (kws.map (·.2)) n (kws.map (·.1)) sp := by
  obtain ⟨fd, F⟩ := hF
  obtain ⟨ds, hd, hB⟩ := F.binds0 n hk hn hb
  refine ⟨⟨fd, ds, F.ok S len fun cdv A outer s H vs Q E hr h => ?_, hB, hd, ?_⟩, F.kp⟩
  · obtain ⟨t, h1, h2⟩ := hbody cdv A outer s H vs Q E hr h
    exact ⟨t, h1.nox, h2⟩
  · obtain ⟨oc, od, dV, kV, doc, pm, an, cdv, ct, osl, rfl, lk, hcd, hD, hK⟩ := F.ex
    rcases hD with ⟨_, rfl⟩ | ⟨e, _⟩
    · exact ⟨fun s us ws _ l1 l2 => hb2 kV doc pm an cdv ct us ws l1 l2 s, fun r1 r2 => r1.append r2⟩
    · exact absurd rfl e
end
section
variable {X : Cx} {k n : Nat} {f C p : Addr} {ps ks : List Str} {dvs : List V} {sp : Sp} {m : Str} {pos apos : Pos} {e o : Expr} {es : List Expr} {kws : List Keyword} {t tk : TA} {ta : TE}
/-- o.f, a property -/
theorem pe_propG (he : PE X o ta) (c : Cls X.K C) (hp : ∃ p, PropOf X.K C m p f) (G : Good X.prog X.w X.K X.mg X.base k f ps dvs sp) (hr : Room (k + 1) X.A)
    (hab : attributeBase o m X.env (eval o X.env) = eval o X.env) : PE X (.Attribute o m pos) (tProp C sp dvs E0 ta) := by
  obtain ⟨fd, ds, F, b, d⟩ := G.ex
  obtain ⟨p, hp⟩ := hp
  exact pe_prop he c hp F hr b d pass0 hab
/-- o.m(e, .., k = v): its reading -/
def tMethK (C : Addr) (m : Str) (n l : Nat) (sp : Sp) (E : XK) (ta : TE) (t tk : TA) : TE := fun σ H Q => ta σ H fun x H1 => ∃ a dx fs, x = .ref a ∧ H1 a = some (.ins C dx fs) ∧ fs.lookup m = none ∧ t σ H1 fun vs H2 => tk σ H2 fun zs H3 => vs.length + 1 = n ∧ zs.length = l ∧ sp (.ref a :: vs ++ zs) H3 Q E
theorem pe_mtgK {pl : Sem Bool} (ho : PE X o ta) (c : Cls X.K C) (hm : Meth X.K C m f) (G : GoodK X.prog X.w X.K X.mg X.base k f ps dvs n ks sp) (hr : Room k X.A) (ha : PA X (e :: es) t) (hkw : PK X kws tk)
    (hall : (backToKw pos (keywordEach kws X.env)).all (·.1.isSome) = true := by rfl) (hks : (backToKw pos (keywordEach kws X.env)).filterMap (·.1) = ks := by rfl)
    (hst : starEach (e :: es) X.env = (false, eval e X.env) :: starEach es X.env := by rfl) (hpl : ((backTo pos (starEach (e :: es) X.env)).any (·.1) || (backToKw pos (keywordEach kws X.env)).any (·.1.isNone)) = false := by rfl)
    (ht : eval (.Call (.Attribute o m apos) (e :: es) kws pos) X.env = (do
      let ov ← eval o X.env
      standAt apos.atName
      let (g, first) ← holding [ov] (getMethod ov m pl)
      callWith pos g first (backTo pos (starEach (e :: es) X.env)) (backToKw pos (keywordEach kws X.env))) := by rfl) : PE X (.Call (.Attribute o m apos) (e :: es) kws pos) (tMethK C m n ks.length sp E0 ta t tk) := by
  obtain ⟨fd, ds, F, b, d, kb⟩ := G.ex
  refine ⟨fun pins s σ H Q I h => ?_⟩
  refine PySem.W.methodCall_KW (pl := pl) (thn (ho.run pins s σ H _ I h) fun u s1 ⟨x, H1, I1, rx, a, dx, fs, ex, ea, l, q⟩ => ?_) ht
  subst ex
  obtain rfl : u = Value.ref a := rx
  refine getmeth_ok I1 ea c hm l ?_
  refine PySem.W.callWith_KW (first := [.ref a]) (h₀ := X.base) I.ok.mod.kin hm.kp hall (thn (ha.run pos pins s1 σ H1 _ I1 q) fun us s2 ⟨vs, H2, I2, r, q2⟩ => ?_) hpl hst
  refine thn (hkw.run pos pins s2 σ H2 _ I2 q2) fun ws s3 ⟨zs, H3, I3, rz, l1, l2, q3⟩ => ⟨I3.kIn, ?_⟩
  rw [hks]
  exact run_fnN (us := .ref a :: us) (vs := .ref a :: vs) F hr kb pass0 I3 (.cons rfl r) rz l1 l2 q3
end
end Fw

/-! A new instance by a call with keywords, and o.m(k = v). -/
namespace Fw
open PySem PySem.Spec PyProof.Rows L2
section
variable {X : Cx} {k n : Nat} {f C p : Addr} {ps ks : List Str} {dvs : List V} {sp : Sp} {x m : Str} {pos apos cp : Pos} {e o : Expr} {es : List Expr} {kws : List Keyword} {t tk : TA} {ta : TE}
theorem pe_mkgK (M : Mk X.K C f) (G : GoodK X.prog X.w X.K X.mg X.base k f ps dvs (n + 1) ks sp) (hr : Room (k + 1) X.A) (hg : Gl X x) (hm : X.mg x = some (.ref C)) (ha : PA X (e :: es) t) (hkw : PK X kws tk)
    (hall : (backToKw pos (keywordEach kws X.env)).all (·.1.isSome) = true := by rfl) (hks : (backToKw pos (keywordEach kws X.env)).filterMap (·.1) = ks := by rfl)
    (hdb : (x == ("__debug__" : Str)) = false := by decide) (he : starEach (e :: es) X.env = (false, eval e X.env) :: starEach es X.env := by rfl)
    (hpl : ((backTo pos (starEach (e :: es) X.env)).any (·.1) || (backToKw pos (keywordEach kws X.env)).any (·.1.isNone)) = false := by rfl) :
    PE X (.Call (.Name x cp) (e :: es) kws pos) (tMakeN C n ks.length sp (fun vs zs => vs ++ zs) E0 t tk) := by
  obtain ⟨fd, ds, F, b, d, kb⟩ := G.ex
  exact pe_makeN M F hr hg hm kb pass0 ha hkw hall hks hdb he hpl
theorem pe_mtgK0 {pl : Sem Bool} (ho : PE X o ta) (c : Cls X.K C) (hm : Meth X.K C m f) (G : GoodK X.prog X.w X.K X.mg X.base k f ps dvs n ks sp) (hr : Room k X.A) (hkw : PK X kws tk)
    (hall : (backToKw pos (keywordEach kws X.env)).all (·.1.isSome) = true := by rfl) (hks : (backToKw pos (keywordEach kws X.env)).filterMap (·.1) = ks := by rfl)
    (hpl : ((backTo pos (starEach [] X.env)).any (·.1) || (backToKw pos (keywordEach kws X.env)).any (·.1.isNone)) = false := by rfl)
    (ht : eval (.Call (.Attribute o m apos) [] kws pos) X.env = (do
      let ov ← eval o X.env
      standAt apos.atName
      let (g, first) ← holding [ov] (getMethod ov m pl)
      callWith pos g first (backTo pos (starEach [] X.env)) (backToKw pos (keywordEach kws X.env))) := by rfl) : PE X (.Call (.Attribute o m apos) [] kws pos) (tMethK C m n ks.length sp E0 ta tNil tk) := by
  obtain ⟨fd, ds, F, b, d, kb⟩ := G.ex
  refine ⟨fun pins s σ H Q I h => ?_⟩
  refine PySem.W.methodCall_KW (pl := pl) (thn (ho.run pins s σ H _ I h) fun u s1 ⟨x, H1, I1, rx, a, dx, fs, ex, ea, l, q⟩ => ?_) ht
  subst ex
  obtain rfl : u = Value.ref a := rx
  refine getmeth_ok I1 ea c hm l ?_
  refine PySem.W.callWith_KW0 (first := [.ref a]) (h₀ := X.base) I.ok.mod.kin hm.kp hall (thn (hkw.run pos pins s1 σ H1 _ I1 q) fun ws s3 ⟨zs, H3, I3, rz, l1, l2, q3⟩ => ⟨I3.kIn, ?_⟩) hpl
  rw [hks]
  exact run_fnN (us := [.ref a]) (vs := [.ref a]) F hr kb pass0 I3 (.cons rfl .nil) rz l1 l2 q3
/-- xs[i] in xs[i] op= v -/
theorem get_list : PGet X (rIxL X.K) := by
  intro pins s σ H x y v u Q I rx ry h
  obtain ⟨p, xs, i, z, rfl, rfl, hq, he, q⟩ := h
  cases rx
  obtain ⟨t, rfl⟩ := ry
  obtain ⟨its, r, pl, hz⟩ := I.list hq
  obtain ⟨j, h1, h2, h3, h4, h5⟩ := atI_get he
  obtain ⟨w, ew, rw'⟩ := r.get h2
  have hl := r.length
  have hn := line63
  have fin : EP X pins σ Q w s := ⟨z, H, I, rw', q⟩
  by_cases h0 : 0 ≤ i
  · have hj : i.toNat = j := by
      rw [seqIndex_of h0 h5] at h1
      exact Option.some.inj h1
    exact wpAny_mono (wpAny_getItem_list (Q := fun r s' => r = w ∧ EP X pins σ Q r s') pl.isList h0 (by omega) (by rw [hj]; simpa using ew) ⟨rfl, fin⟩) (fun _ _ h => h.2) fun _ _ h => h
  · have hj : (i + (its.toArray.size : Int)).toNat = j := by
      rw [seqIndex_neg (by omega) h4] at h1
      rw [List.size_toArray, ← hl]
      exact Option.some.inj h1
    exact wpAny_mono (wpAny_getItem_list_neg (Q := fun r s' => r = w ∧ EP X pins σ Q r s') pl.isList (by omega) (by rw [List.size_toArray] <;> omega) (by omega) (by rw [hj]; simpa using ew) ⟨rfl, fin⟩) (fun _ _ h => h.2) fun _ _ h => h
end
end Fw

/-! Components: what leads where, the order of leaving, classes. -/
namespace Lay
def Ed (g : Nx) (u v : Nat) : Prop := ∃ l, g[u]? = some l ∧ (v : Int) ∈ l
/-- leads to -/
inductive To (g : Nx) : Nat → Nat → Prop
  | refl (u : Nat) : To g u u
  | head {u v w : Nat} : Ed g u v → To g v w → To g u w
theorem To.one {g : Nx} {u v : Nat} (h : Ed g u v) : To g u v := .head h (.refl v)
theorem To.trans {g : Nx} {u v w : Nat} (h : To g u v) (h2 : To g v w) : To g u w := by
  induction h with
  | refl => exact h2
  | head e _ ih => exact .head e (ih h2)
theorem To.of_rc {g : Nx} {u v : Nat} (h : Rc g (fun s => s = u) v) : To g u v := by
  induction h with
  | base h =>
    subst h
    exact .refl _
  | step _ h1 h2 ih => exact ih.trans (.one ⟨_, h1, h2⟩)
theorem To.mono {g h : Nx} (hE : ∀ u v, Ed g u v → Ed h u v) {u v : Nat} (t : To g u v) : To h u v := by
  induction t with
  | refl => exact .refl _
  | head e _ ih => exact .head (hE _ _ e) ih
theorem To.rng {g : Nx} (hE : ∀ u v, Ed g u v → v < g.length) {u v : Nat} (t : To g u v) (hu : u < g.length) : v < g.length := by
  induction t with
  | refl => exact hu
  | head e _ ih => exact ih (hE _ _ e)
/-- lead to each other -/
def Mt (g : Nx) (u v : Nat) : Prop := To g u v ∧ To g v u
theorem Mt.refl {g : Nx} (u : Nat) : Mt g u u := ⟨.refl u, .refl u⟩
theorem Mt.symm {g : Nx} {u v : Nat} (h : Mt g u v) : Mt g v u := ⟨h.2, h.1⟩
theorem Mt.trans {g : Nx} {u v w : Nat} (h : Mt g u v) (h2 : Mt g v w) : Mt g u w := ⟨h.1.trans h2.1, h2.2.trans h.2⟩
/-! ### the order of leaving -/
structure OdOk (g : Nx) (od : List Nat) : Prop where
  nd : od.Nodup
  lt : ∀ v ∈ od, v < g.length
  all : ∀ v, To g 0 v → v ∈ od
  fin : ∀ (i u v : Nat), od[i]? = some u → Ed g u v → ∃ j, od[j]? = some v ∧ (j < i ∨ ∀ k w, i ≤ k → k ≤ j → od[k]? = some w → To g v w)
theorem nd_ix {l : List Nat} (h : l.Nodup) {i j v : Nat} (hi : l[i]? = some v) (hj : l[j]? = some v) : i = j := by
  obtain ⟨a, e1⟩ := List.getElem?_eq_some_iff.mp hi
  obtain ⟨b, e2⟩ := List.getElem?_eq_some_iff.mp hj
  exact (List.getElem_inj h (h₀ := a) (h₁ := b)).mp (e1.trans e2.symm)
theorem kos_path {g : Nx} {od : List Nat} (h : OdOk g od) {first x f i : Nat} (hf : od[f]? = some first) (hx : od[i]? = some x) (hif : i ≤ f) {y : Nat} (t : To g y first) :
    To g first y → ∀ j, od[j]? = some y → j < i → To g first x := by
  induction t with
  | refl =>
    intro _ j hj hlt
    have := nd_ix h.nd hj hf
    omega
  | @head y z w e t ih =>
    intro hfy j hj hlt
    have hfz := hfy.trans (.one e)
    obtain ⟨j', hj', hc⟩ := h.fin j y z hj e
    by_cases hlt2 : j' < i
    · exact ih hf hfz j' hj' hlt2
    · rcases hc with hc | hc
      · omega
      · exact hfz.trans (hc i x (by omega) (by omega) hx)
theorem kos {g : Nx} {od : List Nat} (h : OdOk g od) {first x q f i : Nat} (hf : od[f]? = some first) (hx : od[i]? = some x) (hif : i ≤ f) (e : Ed g x q) (m : Mt g first q) : Mt g first x := by
  refine ⟨?_, .head e m.2⟩
  obtain ⟨j, hj, hc⟩ := h.fin i x q hx e
  rcases hc with hc | hc
  · exact kos_path h hf hx hif m.2 m.1 j hj hc
  · by_cases hji : j < i
    · exact kos_path h hf hx hif m.2 m.1 j hj hji
    · exact m.1.trans (hc i x (Nat.le_refl _) (by omega) hx)
/-- while they are left -/
structure Dfs (g : Nx) (lk : List Nat) (sn : List Bool) (st od : List Nat) : Prop where
  ll : lk.length = g.length
  sl : sn.length = g.length
  se : ∀ v : Nat, sn[v]? = some true ↔ v ∈ st ∨ v ∈ od
  nd : (od ++ st).Nodup
  ch : ∀ (i j u v : Nat), i ≤ j → st[i]? = some u → st[j]? = some v → To g u v
  lkd : ∀ (v k : Nat) (l : List Int), lk[v]? = some k → g[v]? = some l → k ≤ l.length ∧ ∀ t ∈ l.take k, ∃ n : Nat, t = n ∧ (n ∈ st ∨ n ∈ od)
  fin : ∀ (i u v : Nat), od[i]? = some u → Ed g u v → (∃ j, od[j]? = some v ∧ (j < i ∨ ∀ k w, i ≤ k → k ≤ j → od[k]? = some w → To g v w)) ∨ (v ∈ st ∧ ∀ k w, i ≤ k → od[k]? = some w → To g v w)
  z : 0 ∈ st ∨ 0 ∈ od
theorem Dfs.lt {g : Nx} {lk : List Nat} {sn : List Bool} {st od : List Nat} (h : Dfs g lk sn st od) {v : Nat} (hv : v ∈ st ∨ v ∈ od) : v < g.length := by
  have := (List.getElem?_eq_some_iff.mp ((h.se v).mpr hv)).1
  rw [h.sl] at this
  exact this
theorem snoc_get {l : List Nat} {x k w : Nat} (h : (l ++ [x])[k]? = some w) : (k < l.length ∧ l[k]? = some w) ∨ (k = l.length ∧ w = x) := by
  have hk := (List.getElem?_eq_some_iff.mp h).1
  rw [List.length_append] at hk
  have hk2 : k < l.length + 1 := hk
  by_cases hlt : k < l.length
  · rw [List.getElem?_append_left hlt] at h
    exact .inl ⟨hlt, h⟩
  · have e : k = l.length := by omega
    rw [e, List.getElem?_concat_length] at h
    exact .inr ⟨e, (Option.some.inj h).symm⟩
/-- the top is left -/
theorem Dfs.leave {g : Nx} {lk : List Nat} {sn : List Bool} {st od : List Nat} {t : Nat} {l : List Int} (h : Dfs g lk sn (st ++ [t]) od) (hl : g[t]? = some l) (hk : lk[t]? = some l.length) : Dfs g lk sn st (od ++ [t]) := by
  have hnd := h.nd
  rw [← List.append_assoc] at hnd
  have htn : t ∉ od ++ st := fun hm => (List.nodup_append.mp hnd).2.2 t hm t (List.mem_singleton.mpr rfl) rfl
  have htst : (st ++ [t])[st.length]? = some t := List.getElem?_concat_length ..
  have hto : ∀ v, v ∈ st ++ [t] → To g v t := fun v hv => by
    obtain ⟨i, hi, e⟩ := List.mem_iff_getElem.mp hv
    have hi2 : i < st.length + 1 := by
      rw [List.length_append] at hi
      exact hi
    exact h.ch i st.length v t (by omega) (by rw [List.getElem?_eq_getElem hi, e]) htst
  refine ⟨h.ll, h.sl, fun v => ?_, ?_, fun i j u v hij hu hv => ?_, fun v k m hk2 hm => ?_, fun i u v hu he => ?_, ?_⟩
  · rw [h.se v, List.mem_append, List.mem_append, or_assoc, or_comm (a := v ∈ [t])]
  · refine List.Perm.nodup ?_ hnd
    rw [List.append_assoc, List.append_assoc]
    exact List.Perm.append_left od List.perm_append_comm
  · exact h.ch i j u v hij (by rw [List.getElem?_append_left (List.getElem?_eq_some_iff.mp hu).1]; exact hu) (by rw [List.getElem?_append_left (List.getElem?_eq_some_iff.mp hv).1]; exact hv)
  · obtain ⟨h1, h2⟩ := h.lkd v k m hk2 hm
    refine ⟨h1, fun x hx => ?_⟩
    obtain ⟨n, e, h3⟩ := h2 x hx
    refine ⟨n, e, ?_⟩
    rw [List.mem_append, or_assoc, or_comm (a := n ∈ [t])] at h3
    rw [List.mem_append]
    exact h3
  · rcases snoc_get hu with ⟨hi, hu⟩ | ⟨hi, rfl⟩
    · rcases h.fin i u v hu he with ⟨j, hj, hc⟩ | ⟨hv, hc⟩
      · refine .inl ⟨j, by rw [List.getElem?_append_left (List.getElem?_eq_some_iff.mp hj).1]; exact hj, hc.imp id fun hc k w h1 h2 hw => ?_⟩
        refine hc k w h1 h2 ?_
        rw [List.getElem?_append_left (by have := (List.getElem?_eq_some_iff.mp hj).1; omega)] at hw
        exact hw
      · have hall : ∀ k w, i ≤ k → (od ++ [t])[k]? = some w → To g v w := fun k w h1 hw => by
          rcases snoc_get hw with ⟨_, hw⟩ | ⟨_, rfl⟩
          · exact hc k w h1 hw
          · exact hto v hv
        rcases List.mem_append.mp hv with hv | hv
        · exact .inr ⟨hv, hall⟩
        · rw [List.mem_singleton.mp hv] at hall ⊢
          exact .inl ⟨od.length, List.getElem?_concat_length .., .inr fun k w h1 _ hw => hall k w h1 hw⟩
    · obtain ⟨m, hm, hvm⟩ := he
      rw [hl] at hm
      rw [← Option.some.inj hm] at hvm
      have h2 := (h.lkd u l.length l hk hl).2 v (by rw [List.take_length]; exact hvm)
      obtain ⟨n, e, h3⟩ := h2
      have e : v = n := Int.ofNat.inj e
      rw [← e] at h3
      rcases h3 with h3 | h3
      · have hall : ∀ k w, i ≤ k → (od ++ [u])[k]? = some w → To g v w := fun k w h1 hw => by
          rcases snoc_get hw with ⟨hk, _⟩ | ⟨_, rfl⟩
          · omega
          · exact hto v h3
        rcases List.mem_append.mp h3 with h3 | h3
        · exact .inr ⟨h3, hall⟩
        · rw [List.mem_singleton.mp h3] at hall ⊢
          exact .inl ⟨od.length, List.getElem?_concat_length .., .inr fun k w h1 _ hw => hall k w h1 hw⟩
      · obtain ⟨j, hj, e2⟩ := List.mem_iff_getElem.mp h3
        exact .inl ⟨j, by rw [List.getElem?_append_left hj, List.getElem?_eq_getElem hj, e2], .inl (by omega)⟩
  · have hz := h.z
    rw [List.mem_append, or_assoc, or_comm (a := 0 ∈ [t])] at hz
    rw [List.mem_append]
    exact hz
/-- one more entry of the top is looked at -/
theorem Dfs.look {g : Nx} {lk : List Nat} {sn : List Bool} {st od : List Nat} {t k n : Nat} {l : List Int} (h : Dfs g lk sn (st ++ [t]) od) (hl : g[t]? = some l) (hk : lk[t]? = some k) (hn : l[k]? = some (n : Int)) (hng : n < g.length) :
    (sn[n]? = some true → Dfs g (lk.set t (k + 1)) sn (st ++ [t]) od) ∧ (sn[n]? = some false → Dfs g (lk.set t (k + 1)) (sn.set n true) (st ++ [t] ++ [n]) od) := by
  have htl := (List.getElem?_eq_some_iff.mp hk).1
  have hkl := (List.getElem?_eq_some_iff.mp hn).1
  have hlkd : ∀ (S : List Nat), (∀ v, v ∈ st ++ [t] → v ∈ S) → (n ∈ S ∨ n ∈ od) → ∀ (v k' : Nat) (m : List Int), (lk.set t (k + 1))[v]? = some k' → g[v]? = some m → k' ≤ m.length ∧ ∀ x ∈ m.take k', ∃ n : Nat, x = n ∧ (n ∈ S ∨ n ∈ od) := fun S hS hnS v k' m hv hm => by
    rw [List.getElem?_set] at hv
    by_cases e : t = v
    · subst e
      rw [if_pos rfl, if_pos htl] at hv
      rw [hl] at hm
      rw [← Option.some.inj hv, ← Option.some.inj hm]
      refine ⟨hkl, fun x hx => ?_⟩
      rw [List.take_add_one, hn] at hx
      rcases List.mem_append.mp hx with hx | hx
      · obtain ⟨n', e, h3⟩ := (h.lkd t k l hk hl).2 x hx
        exact ⟨n', e, h3.imp (hS n') id⟩
      · exact ⟨n, List.mem_singleton.mp hx, hnS⟩
    · rw [if_neg e] at hv
      obtain ⟨h1, h2⟩ := h.lkd v k' m hv hm
      refine ⟨h1, fun x hx => ?_⟩
      obtain ⟨n', e, h3⟩ := h2 x hx
      exact ⟨n', e, h3.imp (hS n') id⟩
  refine ⟨fun hs => ⟨by rw [List.length_set]; exact h.ll, h.sl, h.se, h.nd, h.ch, hlkd _ (fun _ hv => hv) ((h.se n).mp hs), h.fin, h.z⟩, fun hs => ?_⟩
  have hnn : ¬ (n ∈ st ++ [t] ∨ n ∈ od) := fun hm => by
    have := (h.se n).mpr hm
    rw [this] at hs
    cases hs
  have hto : ∀ v, v ∈ st ++ [t] → To g v n := fun v hv => by
    obtain ⟨i, hi, e⟩ := List.mem_iff_getElem.mp hv
    have hi2 : i < st.length + 1 := by
      rw [List.length_append] at hi
      exact hi
    exact (h.ch i st.length v t (by omega) (by rw [List.getElem?_eq_getElem hi, e]) (List.getElem?_concat_length ..)).trans (.one ⟨l, hl, List.mem_of_getElem? hn⟩)
  refine ⟨by rw [List.length_set]; exact h.ll, by rw [List.length_set]; exact h.sl, fun v => ?_, ?_, fun i j u v hij hu hv => ?_, hlkd _ (fun _ hv => List.mem_append_left _ hv) (.inl (List.mem_append_right _ (List.mem_singleton.mpr rfl))), fun i u v hu he => ?_, ?_⟩
  · rw [List.getElem?_set]
    by_cases e : n = v
    · subst e
      rw [if_pos rfl, if_pos (by rw [h.sl]; exact hng)]
      exact ⟨fun _ => .inl (List.mem_append_right _ (List.mem_singleton.mpr rfl)), fun _ => rfl⟩
    · rw [if_neg e, h.se v, List.mem_append (s := st ++ [t])]
      exact ⟨fun hm => hm.imp .inl id, fun hm => hm.imp (fun hm => hm.elim id fun hm => absurd (List.mem_singleton.mp hm).symm e) id⟩
  · rw [← List.append_assoc]
    refine List.nodup_append.mpr ⟨h.nd, List.pairwise_singleton _ _, fun x hx y hy e => ?_⟩
    rw [List.mem_singleton.mp hy] at e
    rw [e] at hx
    exact hnn ((List.mem_append.mp hx).symm)
  · rcases snoc_get hu with ⟨hi, hu⟩ | ⟨hi, rfl⟩
    · rcases snoc_get hv with ⟨hj, hv⟩ | ⟨hj, hv⟩
      · exact h.ch i j u v hij hu hv
      · rw [hv]
        exact hto u (List.mem_of_getElem? hu)
    · rcases snoc_get hv with ⟨hj, hv⟩ | ⟨hj, hv⟩
      · omega
      · rw [hv]
        exact .refl _
  · rcases h.fin i u v hu he with hc | ⟨hv, hc⟩
    · exact .inl hc
    · exact .inr ⟨List.mem_append_left _ hv, hc⟩
  · exact h.z.imp (List.mem_append_left _) id
theorem Dfs.done {g : Nx} {lk : List Nat} {sn : List Bool} {od : List Nat} (h : Dfs g lk sn [] od) : OdOk g od := by
  have hfin : ∀ (i u v : Nat), od[i]? = some u → Ed g u v → ∃ j, od[j]? = some v ∧ (j < i ∨ ∀ k w, i ≤ k → k ≤ j → od[k]? = some w → To g v w) := fun i u v hu he => by
    rcases h.fin i u v hu he with hc | ⟨hv, _⟩
    · exact hc
    · cases hv
  have hall : ∀ u v, To g u v → u ∈ od → v ∈ od := fun u v t => by
    induction t with
    | refl => exact id
    | head e _ ih =>
      intro hu
      obtain ⟨i, hi, e2⟩ := List.mem_iff_getElem.mp hu
      obtain ⟨j, hj, _⟩ := hfin i _ _ (by rw [List.getElem?_eq_getElem hi, e2]) e
      exact ih (List.mem_of_getElem? hj)
  refine ⟨?_, fun v hv => h.lt (.inr hv), fun v t => hall 0 v t (h.z.elim (fun h => nomatch h) id), hfin⟩
  have := h.nd
  rw [List.append_nil] at this
  exact this
/-! ### the numbers of the classes -/
structure Num (g : Nx) (nm : List Int) (c : Nat) : Prop where
  len : nm.length = g.length
  rng : ∀ (v : Nat) (x : Int), nm[v]? = some x → -1 ≤ x ∧ x < (c : Int)
  mt : ∀ (u v : Nat) (x y : Int), nm[u]? = some x → nm[v]? = some y → 0 ≤ x → (Mt g u v ↔ x = y)
  used : ∀ j : Nat, j < c → ∃ v : Nat, nm[v]? = some (j : Int)
theorem Num.start (g : Nx) : Num g (List.replicate g.length (-1)) 0 := by
  refine ⟨List.length_replicate .., fun v x hx => ?_, fun u v x y hx _ h0 => ?_, fun j hj => absurd hj (Nat.not_lt_zero _)⟩
  · rw [List.getElem?_replicate] at hx
    split at hx
    · have := Option.some.inj hx
      omega
    · cases hx
  · rw [List.getElem?_replicate] at hx
    split at hx
    · have := Option.some.inj hx
      omega
    · cases hx
/-- while one class is found, from first on -/
structure Bfs (g : Nx) (nm0 nm : List Int) (c first : Nat) (q : List Nat) (p : Nat) : Prop where
  len : nm.length = g.length
  nd : q.Nodup
  cl : ∀ v ∈ q, Mt g first v ∧ v < g.length
  new : ∀ v ∈ q, nm[v]? = some (c : Int)
  old : ∀ v, v ∉ q → nm[v]? = nm0[v]?
  fq : first ∈ q
  seen : ∀ (v x : Nat), v ∈ q.take p → Ed g x v → ∃ y, nm[x]? = some y ∧ 0 ≤ y
  ple : p ≤ q.length
theorem Bfs.start {g : Nx} {nm0 : List Int} {c first : Nat} (h : nm0.length = g.length) (hf : first < g.length) : Bfs g nm0 (nm0.set first (c : Int)) c first [first] 0 := by
  refine ⟨by rw [List.length_set]; exact h, List.pairwise_singleton _ _, fun v hv => ?_, fun v hv => ?_, fun v hv => ?_, List.mem_singleton.mpr rfl, fun v x hv => (nomatch hv), Nat.zero_le _⟩
  · rw [List.mem_singleton.mp hv]
    exact ⟨.refl _, hf⟩
  · rw [List.mem_singleton.mp hv, List.getElem?_set, if_pos rfl, if_pos (by omega)]
  · rw [List.getElem?_set, if_neg fun e => hv (List.mem_singleton.mpr e.symm)]
theorem Bfs.done {g : Nx} {nm0 nm : List Int} {c first : Nat} {q : List Nat} (N : Num g nm0 c) (h : Bfs g nm0 nm c first q q.length) (hE : ∀ u v, Ed g u v → u < g.length) (h1 : ∃ x, nm0[first]? = some x ∧ x < 0) : Num g nm (c + 1) ∧ ∀ (v : Nat) (x : Int), nm0[v]? = some x → 0 ≤ x → nm[v]? = some x := by
  obtain ⟨x1, hx1, hx10⟩ := h1
  have hfl : first < g.length := (h.cl first h.fq).2
  -- the queue is the class
  have hq0 : ∀ v, v ∈ q → ∃ x, nm0[v]? = some x ∧ x < 0 := fun v hv => by
    have hvl : v < nm0.length := by
      rw [N.len]
      exact (h.cl v hv).2
    refine ⟨_, List.getElem?_eq_getElem hvl, ?_⟩
    by_cases h0 : nm0[v] < 0
    · exact h0
    · have e := (N.mt v first _ _ (List.getElem?_eq_getElem hvl) hx1 (by omega)).mp (h.cl v hv).1.symm
      omega
  have hback : ∀ u v, To g u v → v ∈ q → Mt g first u → u ∈ q := fun u v t => by
    induction t with
    | refl => exact fun hv _ => hv
    | @head u w v e t ih =>
      intro hv hm
      have hmw : Mt g first w := ⟨hm.1.trans (.one e), t.trans (h.cl v hv).1.2⟩
      have hw := ih hv hmw
      obtain ⟨y, hy, hy0⟩ := h.seen w u (by rw [List.take_length]; exact hw) e
      by_cases hu : u ∈ q
      · exact hu
      · exfalso
        rw [h.old u hu] at hy
        have e2 := (N.mt u first y x1 hy hx1 hy0).mp hm.symm
        omega
  have hcl : ∀ u, Mt g first u → u ∈ q := fun u hm => hback u first hm.2 h.fq hm
  refine ⟨⟨h.len, fun v x hx => ?_, fun u v x y hx hy h0 => ?_, fun j hj => ?_⟩, fun v x hx h0 => ?_⟩
  · by_cases hv : v ∈ q
    · rw [h.new v hv] at hx
      have := Option.some.inj hx
      omega
    · rw [h.old v hv] at hx
      have := N.rng v x hx
      omega
  · by_cases hu : u ∈ q
    · rw [h.new u hu] at hx
      have ex := Option.some.inj hx
      by_cases hv : v ∈ q
      · rw [h.new v hv] at hy
        have ey := Option.some.inj hy
        exact ⟨fun _ => by omega, fun _ => (h.cl u hu).1.symm.trans (h.cl v hv).1⟩
      · rw [h.old v hv] at hy
        have := N.rng v y hy
        exact ⟨fun m => absurd (hcl v ((h.cl u hu).1.trans m)) hv, fun e => by omega⟩
    · rw [h.old u hu] at hx
      by_cases hv : v ∈ q
      · rw [h.new v hv] at hy
        have := N.rng u x hx
        have ey := Option.some.inj hy
        exact ⟨fun m => absurd (hcl u ((h.cl v hv).1.trans m.symm)) hu, fun e => by omega⟩
      · rw [h.old v hv] at hy
        exact N.mt u v x y hx hy h0
  · by_cases e : j = c
    · exact ⟨first, by rw [e]; exact h.new first h.fq⟩
    · obtain ⟨v, hv⟩ := N.used j (by omega)
      refine ⟨v, ?_⟩
      by_cases hq : v ∈ q
      · obtain ⟨x, hx, hx0⟩ := hq0 v hq
        rw [hv] at hx
        have := Option.some.inj hx
        omega
      · rw [h.old v hq]
        exact hv
  · by_cases hq : v ∈ q
    · obtain ⟨y, hy, hy0⟩ := hq0 v hq
      rw [hx] at hy
      have := Option.some.inj hy
      omega
    · rw [h.old v hq]
      exact hx
end Lay

/-! Components as lists of nodes: internal successors, kinds, going round, doors, costs. -/
namespace Lay
def sx (g : Nx) (v : Nat) : List Int := g.getD v []
theorem sx_of {g : Nx} {v : Nat} {l : List Int} (h : g[v]? = some l) : sx g v = l := by
  unfold sx
  rw [List.getD_eq_getElem?_getD, h]
  rfl
theorem sx_ed {g : Nx} {u v : Nat} : (v : Int) ∈ sx g u ↔ Ed g u v := by
  unfold sx Ed
  rw [List.getD_eq_getElem?_getD]
  cases e : g[u]? with
  | none => exact ⟨fun h => (nomatch h), fun ⟨l, h, _⟩ => (nomatch h)⟩
  | some l => exact ⟨fun h => ⟨l, rfl, h⟩, fun ⟨m, h1, h2⟩ => by rw [← Option.some.inj h1] at h2; exact h2⟩
/-- the internal successors of a node of the component P -/
def inn (g : Nx) (P : List Nat) (v : Nat) : List Nat := P.filter fun u => decide ((u : Int) ∈ sx g v)
theorem inn_mem {g : Nx} {P : List Nat} {u v : Nat} : u ∈ inn g P v ↔ u ∈ P ∧ Ed g v u := by
  unfold inn
  rw [List.mem_filter, decide_eq_true_iff, sx_ed]
def mxN (l : List Nat) : Nat := l.foldr max 0
theorem le_mxN : ∀ {l : List Nat} {y : Nat}, y ∈ l → y ≤ mxN l
  | x :: l, y, h => by
    show y ≤ max x (mxN l)
    rcases List.mem_cons.mp h with h | h
    · omega
    · have := le_mxN h
      omega
theorem mxN_le : ∀ {l : List Nat} {m : Nat}, (∀ y ∈ l, y ≤ m) → mxN l ≤ m
  | [], _, _ => Nat.zero_le _
  | x :: l, m, h => by
    show max x (mxN l) ≤ m
    have := h x (List.mem_cons_self ..)
    have := mxN_le fun y hy => h y (List.mem_cons_of_mem x hy)
    omega
theorem mxN_eq {l : List Nat} {m : Nat} (hm : m ∈ l) (h : ∀ y ∈ l, y ≤ m) : mxN l = m := Nat.le_antisymm (mxN_le h) (le_mxN hm)
/-- the greatest number of internal successors -/
def knd (g : Nx) (P : List Nat) : Nat := mxN (P.map fun v => (inn g P v).length)
theorem le_knd {g : Nx} {P : List Nat} {v : Nat} (h : v ∈ P) : (inn g P v).length ≤ knd g P := le_mxN (List.mem_map_of_mem (f := fun v => (inn g P v).length) h)
def mxI (l : List Int) : Int := l.foldr max (l.headD 0)
theorem foldr_max : ∀ (l : List Int) (b : Int), b ≤ l.foldr max b ∧ (∀ y ∈ l, y ≤ l.foldr max b) ∧ (l.foldr max b = b ∨ l.foldr max b ∈ l)
  | [], b => ⟨Int.le_refl _, fun y hy => (nomatch hy), .inl rfl⟩
  | x :: l, b => by
    obtain ⟨h1, h2, h3⟩ := foldr_max l b
    show b ≤ max x (l.foldr max b) ∧ (∀ y ∈ x :: l, y ≤ max x (l.foldr max b)) ∧ (max x (l.foldr max b) = b ∨ max x (l.foldr max b) ∈ x :: l)
    refine ⟨by omega, fun y hy => ?_, ?_⟩
    · rcases List.mem_cons.mp hy with h | h
      · omega
      · have := h2 y h
        omega
    · by_cases h : x ≤ l.foldr max b
      · have e : max x (l.foldr max b) = l.foldr max b := by omega
        rw [e]
        exact h3.imp id (List.mem_cons_of_mem x)
      · have e : max x (l.foldr max b) = x := by omega
        rw [e]
        exact .inr (List.mem_cons_self ..)
theorem mxI_mem {l : List Int} (h : l ≠ []) : mxI l ∈ l := by
  obtain ⟨x, t, rfl⟩ := List.exists_cons_of_ne_nil h
  rcases (foldr_max (x :: t) x).2.2 with e | e
  · show (x :: t).foldr max x ∈ _
    rw [e]
    exact List.mem_cons_self ..
  · exact e
theorem le_mxI {l : List Int} {y : Int} (h : y ∈ l) : y ≤ mxI l := (foldr_max l _).2.1 y h
theorem mxI_eq {l : List Int} {m : Int} (hm : m ∈ l) (h : ∀ y ∈ l, y ≤ m) : mxI l = m := Int.le_antisymm (h _ (mxI_mem fun e => by rw [e] at hm; cases hm)) (le_mxI hm)
/-- going round from the least node -/
def aro (g : Nx) (P : List Nat) : Nat → List Nat
  | 0 => [P.headD 0]
  | k + 1 => aro g P k ++ [(inn g P ((aro g P k).getLastD 0)).headD 0]
theorem aro_len (g : Nx) (P : List Nat) : ∀ k, (aro g P k).length = k + 1
  | 0 => rfl
  | k + 1 => by
    show (aro g P k ++ [_]).length = _
    rw [List.length_append, aro_len g P k]
    rfl
def aroP (g : Nx) (P : List Nat) : List Nat := aro g P (P.length - 1)
def cyc (pr : List Int) (s d : Nat) : Int := ((List.range d).map fun i => pr.getD ((s + i) % pr.length) 0).sum
def gapP (pr : List Int) (D : List Nat) (k : Nat) : Int := if D.length = 1 then pr.sum else cyc pr (D.getD k 0) ((D.getD ((k + 1) % D.length) 0 + pr.length - D.getD k 0) % pr.length)
def costP (pr : List Int) (D : List Nat) : Int := pr.sum - mxI ((List.range D.length).map (gapP pr D))
def isDoor (g : Nx) (A : List Nat) (v : Nat) : Prop := v = 0 ∨ ∃ o, o ∉ A ∧ Ed g o v
noncomputable def drs (g : Nx) (A : List Nat) : List Nat := (List.range A.length).filter fun p => @decide (isDoor g A (A.getD p 0)) (Classical.propDecidable _)
def prA (pr : List Int) (A : List Nat) : List Int := A.map fun v => pr.getD v 0
noncomputable def cst (g : Nx) (pr : List Int) (P : List Nat) : Int := if knd g P = 1 then costP (prA pr (aroP g P)) (drs g (aroP g P)) else 0
/-- the nodes of the class of v -/
noncomputable def cls (g : Nx) (v : Nat) : List Nat := (List.range g.length).filter fun u => @decide (Mt g v u) (Classical.propDecidable _)
theorem cls_mem {g : Nx} {u v : Nat} : u ∈ cls g v ↔ u < g.length ∧ Mt g v u := by
  unfold cls
  rw [List.mem_filter, List.mem_range, @decide_eq_true_iff _ (Classical.propDecidable _)]
theorem cls_asc (g : Nx) (v : Nat) : (cls g v).Pairwise (· < ·) := (List.pairwise_lt_range (n := g.length)).sublist List.filter_sublist
theorem cls_eq {g : Nx} {u v : Nat} (h : Mt g u v) : cls g u = cls g v := by
  unfold cls
  refine List.filter_congr fun x _ => ?_
  have e : Mt g u x ↔ Mt g v x := ⟨fun h2 => h.symm.trans h2, fun h2 => h.trans h2⟩
  by_cases hx : Mt g u x
  · rw [@decide_eq_true _ (Classical.propDecidable _) hx, @decide_eq_true _ (Classical.propDecidable _) (e.mp hx)]
  · rw [@decide_eq_false _ (Classical.propDecidable _) hx, @decide_eq_false _ (Classical.propDecidable _) fun h2 => hx (e.mpr h2)]
/-- the nodes bs stand for all classes, each once -/
structure Cover (g : Nx) (bs : List Nat) : Prop where
  lt : ∀ b ∈ bs, b < g.length
  pw : bs.Pairwise fun a b => ¬ Mt g a b
  all : ∀ v, v < g.length → ∃ b ∈ bs, Mt g b v
theorem Cover.perm {g : Nx} {bs cs : List Nat} (h : Cover g bs) (h2 : Cover g cs) : (bs.map (cls g)).Perm (cs.map (cls g)) := by
  have hnd : ∀ {bs : List Nat}, Cover g bs → (bs.map (cls g)).Nodup := fun {bs} h => by
    refine List.pairwise_map.mpr (List.Pairwise.imp_of_mem (fun {a b} ha hb hn e => ?_) h.pw)
    have h1 : b ∈ cls g b := cls_mem.mpr ⟨h.lt b hb, .refl b⟩
    rw [← e] at h1
    exact hn (cls_mem.mp h1).2
  have hsub : ∀ {bs cs : List Nat}, Cover g bs → Cover g cs → ∀ x, x ∈ bs.map (cls g) → x ∈ cs.map (cls g) := fun {bs cs} h h2 x hx => by
    obtain ⟨b, hb, rfl⟩ := List.mem_map.mp hx
    obtain ⟨c, hc, hm⟩ := h2.all b (h.lt b hb)
    exact List.mem_map.mpr ⟨c, hc, cls_eq hm⟩
  exact (List.perm_ext_iff_of_nodup (hnd h) (hnd h2)).mpr fun x => ⟨hsub h h2 x, hsub h2 h x⟩
/-- what a class is -/
structure ClP (g : Nx) (P : List Nat) : Prop where
  asc : P.Pairwise (· < ·)
  lt : ∀ v ∈ P, v < g.length
  ne : P ≠ []
  mt : ∀ u v, u ∈ P → v < g.length → (v ∈ P ↔ Mt g u v)
theorem ClP.cls {g : Nx} {b : Nat} (hb : b < g.length) : ClP g (cls g b) :=
  ⟨cls_asc g b, fun v hv => (cls_mem.mp hv).1, fun e => (by
    have : b ∈ Lay.cls g b := cls_mem.mpr ⟨hb, .refl b⟩
    rw [e] at this
    cases this), fun u v hu hv => ⟨fun h => (cls_mem.mp hu).2.symm.trans (cls_mem.mp h).2, fun h => cls_mem.mpr ⟨hv, (cls_mem.mp hu).2.trans h⟩⟩⟩
theorem ClP.nd {g : Nx} {P : List Nat} (h : ClP g P) : P.Nodup := h.asc.imp fun h => Nat.ne_of_lt h
/-- a ring: each node has exactly one internal successor -/
theorem ClP.ring {g : Nx} {P : List Nat} (h : ClP g P) (hE : ∀ u v, Ed g u v → v < g.length) (hk : knd g P = 1) : ∀ v ∈ P, ∃ u, inn g P v = [u] := by
  intro v hv
  have hle := le_knd (g := g) hv
  have hne : inn g P v ≠ [] := fun e0 => by
    -- some node has one
    obtain ⟨w, hw, hw1⟩ : ∃ w ∈ P, (inn g P w).length = 1 := by
      have h0 : ∃ w ∈ P, (inn g P w).length ≠ 0 := by
        refine Classical.byContradiction fun hn => ?_
        have : knd g P ≤ 0 := mxN_le fun y hy => by
          obtain ⟨w, hw, e⟩ := List.mem_map.mp hy
          by_cases h1 : (inn g P w).length = 0
          · omega
          · exact absurd ⟨w, hw, h1⟩ hn
        omega
      obtain ⟨w, hw, h1⟩ := h0
      have := le_knd (g := g) hw
      exact ⟨w, hw, by omega⟩
    by_cases e : w = v
    · rw [e, e0] at hw1
      cases hw1
    · have hm : Mt g v w := (h.mt v w hv (h.lt w hw)).mp hw
      have ht := hm.1
      cases ht with
      | refl => exact e rfl
      | @head _ z _ e1 t =>
        have hz : z ∈ P := (h.mt v z hv (hE _ _ e1)).mpr ⟨.one e1, t.trans hm.2⟩
        have : z ∈ inn g P v := inn_mem.mpr ⟨hz, e1⟩
        rw [e0] at this
        cases this
  have : (inn g P v).length ≠ 0 := fun e => hne (List.length_eq_zero_iff.mp e)
  exact List.length_eq_one_iff.mp (by omega)
end Lay

/-! How far each node is from the end. -/
namespace Lay
/-- leads to the end in at most so many steps -/
def Dl (g : Nx) : Nat → Nat → Prop
  | 0, _ => False
  | k + 1, v => ∃ l, g[v]? = some l ∧ ((-1 : Int) ∈ l ∨ ∃ u : Nat, (u : Int) ∈ l ∧ Dl g k u)
theorem Dl.more {g : Nx} : ∀ {k v : Nat}, Dl g k v → Dl g (k + 1) v
  | 0, _, h => h.elim
  | k + 1, v, ⟨l, h1, h2⟩ => ⟨l, h1, h2.imp id fun ⟨u, h3, h4⟩ => ⟨u, h3, h4.more⟩⟩
theorem filter_lt {p q : Nat → Prop} [DecidablePred p] [DecidablePred q] : ∀ (l : List Nat), (∀ x ∈ l, p x → q x) → (∃ x ∈ l, q x ∧ ¬ p x) → (l.filter fun x => decide (p x)).length < (l.filter fun x => decide (q x)).length
  | [], _, ⟨x, hx, _⟩ => nomatch hx
  | y :: l, h, ⟨x, hx, hq, hp⟩ => by
    have hle : ∀ l : List Nat, (∀ x ∈ l, p x → q x) → (l.filter fun x => decide (p x)).length ≤ (l.filter fun x => decide (q x)).length := fun l => by
      induction l with
      | nil => exact fun _ => Nat.le_refl _
      | cons z l ih =>
        intro h
        have := ih fun x hx => h x (List.mem_cons_of_mem _ hx)
        by_cases hz : p z
        · rw [List.filter_cons_of_pos (p := fun x => decide (p x)) (decide_eq_true hz), List.filter_cons_of_pos (p := fun x => decide (q x)) (decide_eq_true (h z (List.mem_cons_self ..) hz)), List.length_cons, List.length_cons]
          omega
        · rw [List.filter_cons_of_neg (p := fun x => decide (p x)) (by simp [hz])]
          by_cases hz2 : q z
          · rw [List.filter_cons_of_pos (p := fun x => decide (q x)) (decide_eq_true hz2), List.length_cons]
            omega
          · rw [List.filter_cons_of_neg (p := fun x => decide (q x)) (by simp [hz2])]
            exact this
    have hl := fun x hx => h x (List.mem_cons_of_mem y hx)
    rcases List.mem_cons.mp hx with e | hx
    · subst e
      rw [List.filter_cons_of_neg (p := fun x => decide (p x)) (by simp [hp]), List.filter_cons_of_pos (p := fun x => decide (q x)) (decide_eq_true hq), List.length_cons]
      have := hle l hl
      omega
    · have ih := filter_lt l hl ⟨x, hx, hq, hp⟩
      by_cases hz : p y
      · rw [List.filter_cons_of_pos (p := fun x => decide (p x)) (decide_eq_true hz), List.filter_cons_of_pos (p := fun x => decide (q x)) (decide_eq_true (h y (List.mem_cons_self ..) hz)), List.length_cons, List.length_cons]
        omega
      · rw [List.filter_cons_of_neg (p := fun x => decide (p x)) (by simp [hz])]
        by_cases hz2 : q y
        · rw [List.filter_cons_of_pos (p := fun x => decide (q x)) (decide_eq_true hz2), List.length_cons]
          omega
        · rw [List.filter_cons_of_neg (p := fun x => decide (q x)) (by simp [hz2])]
          exact ih
theorem dl_all {g : Nx} (h : GOk g) : ∀ v, v < g.length → Dl g g.length v := by
  classical
  have hP : ∀ k, (∀ v, v < g.length → Dl g k v) ∨ k ≤ ((List.range g.length).filter fun x => decide (Dl g k x)).length := fun k => by
    induction k with
    | zero => exact .inr (Nat.zero_le _)
    | succ k ih =>
      by_cases hall : ∀ v, v < g.length → Dl g (k + 1) v
      · exact .inl hall
      · right
        rcases ih with ih | ih
        · exact absurd (fun v hv => (ih v hv).more) hall
        · have hne : ∃ x ∈ List.range g.length, Dl g (k + 1) x ∧ ¬ Dl g k x := by
            by_cases hex : ∃ x ∈ List.range g.length, Dl g (k + 1) x ∧ ¬ Dl g k x
            · exact hex
            · exfalso
              have hcl : ∀ x, x < g.length → Dl g (k + 1) x → Dl g k x := fun x hx hd => by
                by_cases hk : Dl g k x
                · exact hk
                · exact absurd ⟨x, List.mem_range.mpr hx, hd, hk⟩ hex
              have hld : ∀ v, Ld g v → Dl g k v := fun v hv => by
                induction hv with
                | fin h1 h2 => exact hcl _ (List.getElem?_eq_some_iff.mp h1).1 ⟨_, h1, .inl h2⟩
                | step h1 h2 _ ih => exact hcl _ (List.getElem?_eq_some_iff.mp h1).1 ⟨_, h1, .inr ⟨_, h2, ih⟩⟩
              exact hall fun v hv => (hld v (h.ends v hv)).more
          have := filter_lt (List.range g.length) (fun x _ hx => hx.more) hne
          omega
  rcases hP g.length with h1 | h1
  · exact h1
  · intro v hv
    have hle := List.length_filter_le (fun x => decide (Dl g g.length x)) (List.range g.length)
    rw [List.length_range] at hle
    have e : ((List.range g.length).filter fun x => decide (Dl g g.length x)).length = (List.range g.length).length := by
      rw [List.length_range]
      omega
    have h2 := List.length_filter_eq_length_iff.mp e v (List.mem_range.mpr hv)
    exact of_decide_eq_true h2
/-- the numbers while they are found -/
structure Hm (g : Nx) (t i : Nat) (hs : List Nat) : Prop where
  len : hs.length = g.length
  jv : ∀ (v h : Nat) (l : List Int), hs[v]? = some h → g[v]? = some l → 1 ≤ h ∧ (h = 2 * g.length ∨ (h = 1 ∧ (-1 : Int) ∈ l) ∨ ∃ u h2 : Nat, (u : Int) ∈ l ∧ hs[u]? = some h2 ∧ h2 + 1 ≤ h)
  b1 : ∀ v h : Nat, Dl g t v → hs[v]? = some h → h ≤ t
  b2 : ∀ v h : Nat, v < i → Dl g (t + 1) v → hs[v]? = some h → h ≤ t + 1
theorem Hm.set {g : Nx} {t i v h h' : Nat} {hs : List Nat} {l : List Int} (H : Hm g t i hs) (hv : hs[v]? = some h) (hl : g[v]? = some l) (h1 : h' ≤ h) (h2 : 1 ≤ h') (h3 : (h' = 1 ∧ (-1 : Int) ∈ l) ∨ ∃ u hu : Nat, (u : Int) ∈ l ∧ u ≠ v ∧ hs[u]? = some hu ∧ hu + 1 ≤ h') : Hm g t i (hs.set v h') := by
  have hvl := (List.getElem?_eq_some_iff.mp hv).1
  have hget : ∀ (u x : Nat), hs[u]? = some x → ∃ y, (hs.set v h')[u]? = some y ∧ y ≤ x := fun u x hu => by
    rw [List.getElem?_set]
    by_cases e : v = u
    · subst e
      rw [if_pos rfl, if_pos hvl]
      rw [hv] at hu
      exact ⟨h', rfl, by rw [← Option.some.inj hu]; exact h1⟩
    · rw [if_neg e]
      exact ⟨x, hu, Nat.le_refl _⟩
  have hold : ∀ (u y : Nat), (hs.set v h')[u]? = some y → ∃ x, hs[u]? = some x ∧ y ≤ x := fun u y hu => by
    rw [List.getElem?_set] at hu
    by_cases e : v = u
    · subst e
      rw [if_pos rfl, if_pos hvl] at hu
      exact ⟨h, hv, by rw [← Option.some.inj hu]; exact h1⟩
    · rw [if_neg e] at hu
      exact ⟨y, hu, Nat.le_refl _⟩
  refine ⟨by rw [List.length_set]; exact H.len, fun w y m hw hm => ?_, fun w y hd hw => ?_, fun w y hwi hd hw => ?_⟩
  · by_cases e : v = w
    · subst e
      rw [List.getElem?_set, if_pos rfl, if_pos hvl] at hw
      rw [hl] at hm
      rw [← Option.some.inj hw, ← Option.some.inj hm]
      refine ⟨h2, .inr ?_⟩
      rcases h3 with h3 | ⟨u, hu, h4, h5, h6, h7⟩
      · exact .inl h3
      · refine .inr ⟨u, hu, h4, ?_, h7⟩
        rw [List.getElem?_set, if_neg fun e => h5 e.symm]
        exact h6
    · rw [List.getElem?_set, if_neg e] at hw
      obtain ⟨h4, h5⟩ := H.jv w y m hw hm
      refine ⟨h4, ?_⟩
      rcases h5 with h5 | h5 | ⟨u, x, h6, h7, h8⟩
      · exact .inl h5
      · exact .inr (.inl h5)
      · obtain ⟨z, h9, h10⟩ := hget u x h7
        exact .inr (.inr ⟨u, z, h6, h9, by omega⟩)
  · obtain ⟨x, h4, h5⟩ := hold w y hw
    have := H.b1 w x hd h4
    omega
  · obtain ⟨x, h4, h5⟩ := hold w y hw
    have := H.b2 w x hwi hd h4
    omega
theorem Hm.turn {g : Nx} {t : Nat} {hs : List Nat} (H : Hm g t g.length hs) : Hm g (t + 1) 0 hs :=
  ⟨H.len, H.jv, fun v h hd hv => H.b2 v h (by have := (List.getElem?_eq_some_iff.mp hv).1; have := H.len; omega) hd hv, fun v h hv => absurd hv (Nat.not_lt_zero _)⟩
/-- within a row: what the targets seen ask -/
structure Hin (g : Nx) (t v : Nat) (pre : List Int) (hs : List Nat) : Prop where
  hm : Hm g t v hs
  fin : (-1 : Int) ∈ pre → ∀ h, hs[v]? = some h → h ≤ 1
  nxt : ∀ (u hu hv : Nat), (u : Int) ∈ pre → hs[u]? = some hu → hs[v]? = some hv → hv ≤ hu + 1
theorem Hin.row {g : Nx} {t v : Nat} {l : List Int} {hs : List Nat} (H : Hin g t v l hs) (hl : g[v]? = some l) (hr : ∀ u : Nat, (u : Int) ∈ l → u < g.length) : Hm g t (v + 1) hs := by
  refine ⟨H.hm.len, H.hm.jv, H.hm.b1, fun w h hw hd hh => ?_⟩
  by_cases e : w = v
  · subst e
    obtain ⟨m, h1, h2⟩ := hd
    rw [hl] at h1
    rw [← Option.some.inj h1] at h2
    rcases h2 with h2 | ⟨u, h2, h3⟩
    · have := H.fin h2 h hh
      omega
    · have hul : u < hs.length := by
        rw [H.hm.len]
        exact hr u h2
      have h4 := H.nxt u _ h h2 (List.getElem?_eq_getElem hul) hh
      have h5 := H.hm.b1 u _ h3 (List.getElem?_eq_getElem hul)
      omega
  · exact H.hm.b2 w h (by omega) hd hh
theorem Hin.skip {g : Nx} {t v : Nat} {pre : List Int} {x : Int} {hs : List Nat} (H : Hin g t v pre hs) (h1 : x = -1 → ∀ h, hs[v]? = some h → h ≤ 1) (h2 : ∀ u hu hv : Nat, x = (u : Int) → hs[u]? = some hu → hs[v]? = some hv → hv ≤ hu + 1) : Hin g t v (pre ++ [x]) hs := by
  refine ⟨H.hm, fun hm => ?_, fun u hu hv hm => ?_⟩
  · rcases List.mem_append.mp hm with hm | hm
    · exact H.fin hm
    · exact h1 (List.mem_singleton.mp hm).symm
  · rcases List.mem_append.mp hm with hm | hm
    · exact H.nxt u hu hv hm
    · exact h2 u hu hv (List.mem_singleton.mp hm).symm
theorem Hin.set {g : Nx} {t v h h' : Nat} {pre l : List Int} {x : Int} {hs : List Nat} (H : Hin g t v pre hs) (hv : hs[v]? = some h) (hl : g[v]? = some l) (h1 : h' ≤ h) (h2 : 1 ≤ h')
    (h3 : (h' = 1 ∧ x = -1 ∧ x ∈ l) ∨ ∃ u hu : Nat, x = (u : Int) ∧ x ∈ l ∧ u ≠ v ∧ hs[u]? = some hu ∧ hu + 1 = h') : Hin g t v (pre ++ [x]) (hs.set v h') := by
  have hvl := (List.getElem?_eq_some_iff.mp hv).1
  have hself : (hs.set v h')[v]? = some h' := by rw [List.getElem?_set, if_pos rfl, if_pos hvl]
  have hne : ∀ u, u ≠ v → (hs.set v h')[u]? = hs[u]? := fun u hu => by rw [List.getElem?_set, if_neg fun e => hu e.symm]
  have hbase : Hin g t v pre (hs.set v h') := by
    refine ⟨H.hm.set hv hl h1 h2 ?_, fun hm k hk => ?_, fun u hu w hm hk hw => ?_⟩
    · rcases h3 with ⟨h4, h5, h6⟩ | ⟨u, hu, h4, h5, h6, h7, h8⟩
      · exact .inl ⟨h4, by rw [← h5]; exact h6⟩
      · exact .inr ⟨u, hu, by rw [← h4]; exact h5, h6, h7, Nat.le_of_eq h8⟩
    · rw [hself] at hk
      have := H.fin hm h hv
      rw [← Option.some.inj hk]
      omega
    · rw [hself] at hw
      rw [← Option.some.inj hw]
      by_cases e : u = v
      · rw [e, hself] at hk
        rw [← Option.some.inj hk]
        omega
      · rw [hne u e] at hk
        have := H.nxt u hu h hm hk hv
        omega
  refine hbase.skip (fun e k hk => ?_) (fun u hu w e hk hw => ?_)
  · rw [hself] at hk
    rw [← Option.some.inj hk]
    rcases h3 with ⟨h4, _⟩ | ⟨u, hu, h4, _⟩
    · omega
    · omega
  · rw [hself] at hw
    rw [← Option.some.inj hw]
    rcases h3 with ⟨h4, h5, _⟩ | ⟨u2, hu2, h4, h5, h6, h7, h8⟩
    · omega
    · have e2 : u2 = u := by omega
      rw [e2] at h6 h7
      rw [hne u h6, h7] at hk
      rw [← Option.some.inj hk]
      omega
theorem Hin.start {g : Nx} {t v : Nat} {hs : List Nat} (H : Hm g t v hs) : Hin g t v [] hs := ⟨H, fun h => (nomatch h), fun _ _ _ h => (nomatch h)⟩
/-- the numbers found -/
def HomeOk (g : Nx) (hs : List Nat) : Prop := hs.length = g.length ∧ ∀ (v h : Nat) (l : List Int), hs[v]? = some h → g[v]? = some l → 1 ≤ h ∧ h ≤ g.length ∧ ((-1 : Int) ∈ l ∨ ∃ u h2 : Nat, (u : Int) ∈ l ∧ hs[u]? = some h2 ∧ h2 < h)
theorem Hm.done {g : Nx} {hs : List Nat} (hg : GOk g) (H : Hm g g.length 0 hs) : HomeOk g hs := by
  refine ⟨H.len, fun v h l hv hl => ?_⟩
  have hvl := (List.getElem?_eq_some_iff.mp hl).1
  obtain ⟨h1, h2⟩ := H.jv v h l hv hl
  have h3 := H.b1 v h (dl_all hg v hvl) hv
  refine ⟨h1, h3, ?_⟩
  rcases h2 with h2 | ⟨_, h2⟩ | ⟨u, x, h4, h5, h6⟩
  · have := hg.pos
    omega
  · exact .inl h2
  · exact .inr ⟨u, x, h4, h5, by omega⟩
theorem Hm.start (g : Nx) : Hm g 0 0 (List.replicate g.length (2 * g.length)) := by
  refine ⟨List.length_replicate .., fun v h l hv hl => ?_, fun v h hd => hd.elim, fun v h hv => absurd hv (Nat.not_lt_zero _)⟩
  have hvl := (List.getElem?_eq_some_iff.mp hl).1
  rw [List.getElem?_replicate, if_pos hvl] at hv
  have := Option.some.inj hv
  exact ⟨by omega, .inl (by omega)⟩
/-- a row of nodes that goes along the graph from node 0 -/
structure PRun (g : Nx) (r : List Int) : Prop where
  first : r[0]? = some 0
  rng : ∀ x ∈ r, 0 ≤ x ∧ x < (g.length : Int)
  next : ∀ (i : Nat) (x y : Int), r[i]? = some x → r[i + 1]? = some y → ∃ l, g[x.toNat]? = some l ∧ y ∈ l
theorem PRun.snoc {g : Nx} {r : List Int} {w : Nat} {l : List Int} {y : Int} (h : PRun g r) (hw : r[r.length - 1]? = some (w : Int)) (hl : g[w]? = some l) (hy : y ∈ l) (h0 : 0 ≤ y) (h1 : y < (g.length : Int)) : PRun g (r ++ [y]) := by
  have hp : 0 < r.length := (List.getElem?_eq_some_iff.mp h.first).1
  refine ⟨by rw [List.getElem?_append_left hp]; exact h.first, fun x hx => ?_, fun i x z hx hz => ?_⟩
  · rcases List.mem_append.mp hx with hx | hx
    · exact h.rng x hx
    · rw [List.mem_singleton.mp hx]
      exact ⟨h0, h1⟩
  · have hi := (List.getElem?_eq_some_iff.mp hz).1
    rw [List.length_append] at hi
    have hi2 : i + 1 < r.length + 1 := hi
    rw [List.getElem?_append_left (by omega)] at hx
    by_cases hlt : i + 1 < r.length
    · rw [List.getElem?_append_left hlt] at hz
      exact h.next i x z hx hz
    · have e : i + 1 = r.length := by omega
      rw [e, List.getElem?_concat_length] at hz
      rw [show i = r.length - 1 by omega, hw] at hx
      rw [← Option.some.inj hx, ← Option.some.inj hz]
      exact ⟨l, by rw [Int.toNat_natCast]; exact hl, hy⟩
end Lay

/-! One class is found: the queue grows. -/
namespace Lay
theorem OdOk.conv {g h : Nx} {od : List Nat} (O : OdOk h od) (hl : h.length = g.length) (hE : ∀ u v, Ed h u v ↔ Ed g u v) : OdOk g od :=
  ⟨O.nd, fun v hv => by rw [← hl]; exact O.lt v hv, fun v t => O.all v (t.mono fun u v e => (hE u v).mpr e), fun i u v hu e => by
    obtain ⟨j, hj, hc⟩ := O.fin i u v hu ((hE u v).mpr e)
    exact ⟨j, hj, hc.imp id fun hc k w h1 h2 hw => (hc k w h1 h2 hw).mono fun u v e => (hE u v).mp e⟩⟩
theorem Bfs.push {g : Nx} {nm0 nm : List Int} {c first x p : Nat} {q : List Nat} (h : Bfs g nm0 nm c first q p) (hx : x ∉ q) (hm : Mt g first x) (hl : x < g.length) : Bfs g nm0 (nm.set x (c : Int)) c first (q ++ [x]) p := by
  have hself : (nm.set x (c : Int))[x]? = some (c : Int) := by rw [List.getElem?_set, if_pos rfl, if_pos (by rw [h.len]; exact hl)]
  have hne : ∀ v, v ≠ x → (nm.set x (c : Int))[v]? = nm[v]? := fun v hv => by rw [List.getElem?_set, if_neg fun e => hv e.symm]
  refine ⟨by rw [List.length_set]; exact h.len, ?_, fun v hv => ?_, fun v hv => ?_, fun v hv => ?_, List.mem_append_left _ h.fq, fun v y hv e => ?_, by rw [List.length_append]; have := h.ple; omega⟩
  · refine List.nodup_append.mpr ⟨h.nd, List.pairwise_singleton _ _, fun a ha b hb e => ?_⟩
    rw [e, List.mem_singleton.mp hb] at ha
    exact hx ha
  · rcases List.mem_append.mp hv with hv | hv
    · exact h.cl v hv
    · rw [List.mem_singleton.mp hv]
      exact ⟨hm, hl⟩
  · rcases List.mem_append.mp hv with hv | hv
    · rw [hne v fun e => hx (by rw [← e]; exact hv)]
      exact h.new v hv
    · rw [List.mem_singleton.mp hv]
      exact hself
  · rw [hne v fun e => hv (by rw [e]; exact List.mem_append_right _ (List.mem_singleton.mpr rfl))]
    exact h.old v fun h2 => hv (List.mem_append_left _ h2)
  · rw [List.take_append_of_le_length h.ple] at hv
    by_cases e2 : y = x
    · rw [e2]
      exact ⟨_, hself, Int.natCast_nonneg _⟩
    · rw [hne y e2]
      exact h.seen v y hv e
theorem Bfs.next {g : Nx} {nm0 nm : List Int} {c first p v : Nat} {q : List Nat} (h : Bfs g nm0 nm c first q p) (hv : q[p]? = some v) (hs : ∀ x, Ed g x v → ∃ y, nm[x]? = some y ∧ 0 ≤ y) : Bfs g nm0 nm c first q (p + 1) :=
  { h with
    seen := fun w x hw e => by
      rw [List.take_add_one, hv] at hw
      rcases List.mem_append.mp hw with hw | hw
      · exact h.seen w x hw e
      · rw [List.mem_singleton.mp hw] at e
        exact hs x e
    ple := (List.getElem?_eq_some_iff.mp hv).1 }
/-- a node that is not yet in the queue, but leads into it, is of the class -/
theorem Bfs.new_cl {g : Nx} {nm0 nm : List Int} {c first x v p f : Nat} {q od : List Nat} {y : Int} (O : OdOk g od) (h : Bfs g nm0 nm c first q p) (hf : od[f]? = some first) (hlate : ∀ (k w : Nat), f < k → od[k]? = some w → ∃ z, nm0[w]? = some z ∧ 0 ≤ z)
    (hv : v ∈ q) (e : Ed g x v) (hx : nm[x]? = some y) (hy : y < 0) (hxo : x ∈ od) : x ∉ q ∧ Mt g first x := by
  have hxq : x ∉ q := fun hq => by
    rw [h.new x hq] at hx
    have := Option.some.inj hx
    omega
  refine ⟨hxq, ?_⟩
  obtain ⟨i, hi, e2⟩ := List.mem_iff_getElem.mp hxo
  have hxi : od[i]? = some x := by rw [List.getElem?_eq_getElem hi, e2]
  by_cases hif : i ≤ f
  · exact kos O hf hxi hif e (h.cl v hv).1
  · obtain ⟨z, hz, hz0⟩ := hlate i x (by omega) hxi
    rw [h.old x hxq, hz] at hx
    have := Option.some.inj hx
    omega
end Lay

/-! Classes by their numbers; which class may be listed next. -/
namespace Lay
def cn (nm : List Int) (v : Nat) : Nat := (nm.getD v 0).toNat
def pt (nm : List Int) (j : Nat) : List Nat := (List.range nm.length).filter fun v => decide (cn nm v = j)
structure NumOk (g : Nx) (nm : List Int) (c : Nat) : Prop where
  num : Num g nm c
  all : ∀ (v : Nat) (x : Int), nm[v]? = some x → 0 ≤ x
theorem NumOk.at {g : Nx} {nm : List Int} {c v : Nat} (h : NumOk g nm c) (hv : v < g.length) : nm[v]? = some (cn nm v : Int) ∧ cn nm v < c := by
  have hl : v < nm.length := by
    rw [h.num.len]
    exact hv
  have e : nm[v]? = some nm[v] := List.getElem?_eq_getElem hl
  have h0 := h.all v _ e
  have h1 := h.num.rng v _ e
  have e2 : cn nm v = nm[v].toNat := by
    unfold cn
    rw [List.getD_eq_getElem?_getD, e]
    rfl
  rw [e2, e]
  exact ⟨by rw [Int.toNat_of_nonneg h0], by omega⟩
theorem NumOk.mt {g : Nx} {nm : List Int} {c u v : Nat} (h : NumOk g nm c) (hu : u < g.length) (hv : v < g.length) : Mt g u v ↔ cn nm u = cn nm v := by
  rw [h.num.mt u v _ _ (h.at hu).1 (h.at hv).1 (Int.natCast_nonneg _)]
  exact ⟨fun e => Int.ofNat.inj e, fun e => by rw [e]⟩
theorem NumOk.used {g : Nx} {nm : List Int} {c j : Nat} (h : NumOk g nm c) (hj : j < c) : ∃ v, v < g.length ∧ cn nm v = j := by
  obtain ⟨v, hv⟩ := h.num.used j hj
  have hl := (List.getElem?_eq_some_iff.mp hv).1
  rw [h.num.len] at hl
  have := (h.at hl).1
  rw [hv] at this
  exact ⟨v, hl, (Int.ofNat.inj (Option.some.inj this)).symm⟩
theorem pt_mem {nm : List Int} {j v : Nat} : v ∈ pt nm j ↔ v < nm.length ∧ cn nm v = j := by
  unfold pt
  rw [List.mem_filter, List.mem_range, decide_eq_true_iff]
theorem NumOk.pt_cls {g : Nx} {nm : List Int} {c j b : Nat} (h : NumOk g nm c) (hb : b ∈ pt nm j) : pt nm j = cls g b := by
  obtain ⟨h1, h2⟩ := pt_mem.mp hb
  rw [h.num.len] at h1
  unfold pt cls
  rw [h.num.len]
  refine List.filter_congr fun u hu => ?_
  have hul := List.mem_range.mp hu
  have e := h.mt h1 hul
  by_cases hm : Mt g b u
  · rw [@decide_eq_true _ (Classical.propDecidable _) hm, decide_eq_true (by rw [← e.mp hm, h2])]
  · rw [@decide_eq_false _ (Classical.propDecidable _) hm, decide_eq_false fun e2 => hm (e.mpr (by rw [e2, h2]))]
/-- the least node of a class -/
def hd (nm : List Int) (j : Nat) : Nat := (pt nm j).headD 0
theorem NumOk.hd {g : Nx} {nm : List Int} {c j : Nat} (h : NumOk g nm c) (hj : j < c) : Lay.hd nm j ∈ pt nm j ∧ (pt nm j)[0]? = some (Lay.hd nm j) := by
  obtain ⟨v, hv, e⟩ := h.used hj
  have hm : v ∈ pt nm j := pt_mem.mpr ⟨by rw [h.num.len]; exact hv, e⟩
  unfold Lay.hd
  cases e2 : pt nm j with
  | nil =>
    rw [e2] at hm
    cases hm
  | cons x l => exact ⟨List.mem_cons_self .., rfl⟩
/-- the entries of the nodes P that leave their classes -/
def lvg (g : Nx) (nm : List Int) (P : List Nat) : List Int := P.flatMap fun v => (sx g v).filter fun t => decide (t ≠ -1 ∧ nm.getD t.toNat 0 ≠ nm.getD v 0)
def tg (g : Nx) (nm : List Int) (P : List Nat) : List Nat := (lvg g nm P).map fun t => cn nm t.toNat
theorem lvg_append (g : Nx) (nm : List Int) (P Q : List Nat) : lvg g nm (P ++ Q) = lvg g nm P ++ lvg g nm Q := List.flatMap_append
theorem tg_append (g : Nx) (nm : List Int) (P Q : List Nat) : tg g nm (P ++ Q) = tg g nm P ++ tg g nm Q := by
  unfold tg
  rw [lvg_append, List.map_append]
theorem NumOk.lvg_mem {g : Nx} {nm : List Int} {c : Nat} {P : List Nat} {t : Int} (h : NumOk g nm c) (hg : GOk g) (hP : ∀ v ∈ P, v < g.length) (ht : t ∈ lvg g nm P) : ∃ u v : Nat, t = v ∧ v < g.length ∧ u ∈ P ∧ Ed g u v ∧ cn nm v ≠ cn nm u := by
  obtain ⟨u, hu, h1⟩ := List.mem_flatMap.mp ht
  obtain ⟨h2, h3⟩ := List.mem_filter.mp h1
  obtain ⟨h4, h5⟩ := of_decide_eq_true h3
  have hul := hP u hu
  have hl : g[u]? = some (sx g u) := by rw [List.getElem?_eq_getElem hul, sx_of (List.getElem?_eq_getElem hul)]
  have hr := (hg.rows _ (List.mem_of_getElem? hl)).2.2 t h2
  have hr : 0 ≤ t ∧ t < (g.length : Int) := hr.resolve_left h4
  refine ⟨u, t.toNat, by omega, by omega, hu, ⟨_, hl, by rw [Int.toNat_of_nonneg hr.1]; exact h2⟩, fun e => h5 ?_⟩
  have e1 := (h.at (v := t.toNat) (by omega)).1
  have e2 := (h.at hul).1
  rw [List.getD_eq_getElem?_getD, List.getD_eq_getElem?_getD, e1, e2, e]
theorem NumOk.tg_of {g : Nx} {nm : List Int} {c u v : Nat} {P : List Nat} (h : NumOk g nm c) (hu : u ∈ P) (hul : u < g.length) (hvl : v < g.length) (e : Ed g u v) (hn : cn nm v ≠ cn nm u) : cn nm v ∈ tg g nm P := by
  refine List.mem_map.mpr ⟨(v : Int), List.mem_flatMap.mpr ⟨u, hu, List.mem_filter.mpr ⟨sx_ed.mpr e, ?_⟩⟩, by rw [Int.toNat_natCast]⟩
  refine decide_eq_true ⟨by omega, fun e2 => hn ?_⟩
  have e3 := (h.at hvl).1
  have e4 := (h.at hul).1
  rw [Int.toNat_natCast, List.getD_eq_getElem?_getD, List.getD_eq_getElem?_getD, e3, e4] at e2
  exact Int.ofNat.inj e2
/-- how many entries of the classes rest come into the class j from elsewhere -/
def wt (g : Nx) (nm : List Int) (rest : List Nat) (j : Nat) : Nat := (rest.map fun k => (tg g nm (pt nm k)).count j).sum
theorem sum_perm {l m : List Nat} (h : l.Perm m) : l.sum = m.sum := by
  induction h with
  | nil => rfl
  | cons x _ ih =>
    rw [List.sum_cons, List.sum_cons, ih]
  | swap x y l =>
    rw [List.sum_cons, List.sum_cons, List.sum_cons, List.sum_cons]
    omega
  | trans _ _ ih1 ih2 => exact ih1.trans ih2
theorem wt_erase {g : Nx} {nm : List Int} {rest : List Nat} {k : Nat} (h : k ∈ rest) (j : Nat) : wt g nm rest j = (tg g nm (pt nm k)).count j + wt g nm (rest.erase k) j := by
  unfold wt
  rw [sum_perm ((List.perm_cons_erase h).map fun k => (tg g nm (pt nm k)).count j)]
  rfl
theorem wt_le {g : Nx} {nm : List Int} {rest : List Nat} {k : Nat} (h : k ∈ rest) (j : Nat) : (tg g nm (pt nm k)).count j ≤ wt g nm rest j := by
  rw [wt_erase h]
  exact Nat.le_add_right _ _
theorem sum_zero : ∀ {l : List Nat}, (∀ x ∈ l, x = 0) → l.sum = 0
  | [], _ => rfl
  | x :: l, h => by
    rw [List.sum_cons, h x (List.mem_cons_self ..), sum_zero fun y hy => h y (List.mem_cons_of_mem x hy)]
theorem wt_zero {g : Nx} {nm : List Int} {rest : List Nat} {j : Nat} (h : ∀ k ∈ rest, j ∉ tg g nm (pt nm k)) : wt g nm rest j = 0 :=
  sum_zero fun x hx => by
    obtain ⟨k, hk, rfl⟩ := List.mem_map.mp hx
    exact List.count_eq_zero.mpr (h k hk)
/-- all entries, class by class -/
theorem sum_add : ∀ (l : List Nat) (f f2 : Nat → Nat), (l.map fun k => f k + f2 k).sum = (l.map f).sum + (l.map f2).sum
  | [], _, _ => rfl
  | x :: l, f, f2 => by
    rw [List.map_cons, List.map_cons, List.map_cons, List.sum_cons, List.sum_cons, List.sum_cons, sum_add l f f2]
    omega
theorem sum_one : ∀ (c k y : Nat), k < c → ((List.range c).map fun i => if i = k then y else 0).sum = y
  | 0, k, _, h => absurd h (Nat.not_lt_zero _)
  | c + 1, k, y, h => by
    rw [List.range_succ, List.map_append, List.sum_append]
    by_cases e : k = c
    · have e2 : ((List.range c).map fun i => if i = k then y else 0).sum = 0 := sum_zero fun x hx => by
        obtain ⟨i, hi, rfl⟩ := List.mem_map.mp hx
        have := List.mem_range.mp hi
        rw [if_neg (by omega)]
      rw [e2]
      show 0 + ((if c = k then y else 0) + 0) = y
      rw [if_pos e.symm]
      omega
    · rw [sum_one c k y (by omega)]
      show y + ((if c = k then y else 0) + 0) = y
      rw [if_neg fun e2 => e e2.symm]
      omega
theorem split_sum (nm : List Int) (c : Nat) (f : Nat → Nat) : ∀ (xs : List Nat), (∀ v ∈ xs, cn nm v < c) → (xs.map f).sum = ((List.range c).map fun k => ((xs.filter fun v => decide (cn nm v = k)).map f).sum).sum
  | [], _ => (sum_zero fun x hx => by
      obtain ⟨k, _, rfl⟩ := List.mem_map.mp hx
      rfl).symm
  | x :: xs, h => by
    have ih := split_sum nm c f xs fun v hv => h v (List.mem_cons_of_mem x hv)
    rw [List.map_cons, List.sum_cons, ih]
    have e : (List.range c).map (fun k => (((x :: xs).filter fun v => decide (cn nm v = k)).map f).sum) = (List.range c).map fun k => (if k = cn nm x then f x else 0) + ((xs.filter fun v => decide (cn nm v = k)).map f).sum := by
      refine List.map_congr_left fun k _ => ?_
      by_cases hk : k = cn nm x
      · rw [if_pos hk, List.filter_cons_of_pos (by rw [hk]; exact decide_eq_true rfl), List.map_cons, List.sum_cons]
      · rw [if_neg hk, List.filter_cons_of_neg (by rw [decide_eq_true_iff]; exact fun e => hk e.symm)]
        omega
    rw [e, sum_add, sum_one c (cn nm x) (f x) (h x (List.mem_cons_self ..))]
theorem count_tg (g : Nx) (nm : List Int) (j : Nat) : ∀ P : List Nat, (tg g nm P).count j = (P.map fun v => (tg g nm [v]).count j).sum
  | [] => rfl
  | x :: P => by
    have e : tg g nm (x :: P) = tg g nm [x] ++ tg g nm P := tg_append g nm [x] P
    rw [e, List.count_append, List.map_cons, List.sum_cons, count_tg g nm j P]
theorem NumOk.wt_all {g : Nx} {nm : List Int} {c : Nat} (h : NumOk g nm c) (j : Nat) : (tg g nm (List.range g.length)).count j = wt g nm (List.range c) j := by
  rw [count_tg, split_sum nm c _ _ fun v hv => (h.at (List.mem_range.mp hv)).2]
  unfold wt
  refine congrArg List.sum (List.map_congr_left fun k _ => ?_)
  rw [count_tg g nm j (pt nm k)]
  unfold pt
  rw [h.num.len]
theorem min_at : ∀ (l : List Nat) (f : Nat → Nat), l ≠ [] → ∃ x ∈ l, ∀ y ∈ l, f x ≤ f y
  | [x], f, _ => ⟨x, List.mem_cons_self .., fun y hy => by rw [List.mem_singleton.mp hy]; exact Nat.le_refl _⟩
  | x :: y :: l, f, _ => by
    obtain ⟨z, hz, h⟩ := min_at (y :: l) f (List.cons_ne_nil _ _)
    by_cases e : f x ≤ f z
    · exact ⟨x, List.mem_cons_self .., fun w hw => (List.mem_cons.mp hw).elim (fun e2 => by rw [e2]; exact Nat.le_refl _) fun hw => Nat.le_trans e (h w hw)⟩
    · exact ⟨z, List.mem_cons_of_mem x hz, fun w hw => (List.mem_cons.mp hw).elim (fun e2 => by rw [e2]; omega) fun hw => h w hw⟩
/-- a first one under a relation that is reflexive and transitive -/
theorem src {R : Nat → Nat → Prop} (hr : ∀ x, R x x) (ht : ∀ x y z, R x y → R y z → R x z) (l : List Nat) (hl : l ≠ []) : ∃ x ∈ l, ∀ y ∈ l, R y x → R x y := by
  classical
  obtain ⟨x, hx, hm⟩ := min_at l (fun x => (l.filter fun y => decide (R y x)).length) hl
  refine ⟨x, hx, fun y hy hyx => Classical.byContradiction fun hn => ?_⟩
  have h1 := filter_lt (p := fun z => R z y) (q := fun z => R z x) l (fun z _ hz => ht z y x hz hyx) ⟨x, hx, hr x, hn⟩
  have h2 := hm y hy
  omega
/-- some class of rest is entered from no other class of rest -/
theorem NumOk.source {g : Nx} {nm : List Int} {c : Nat} (h : NumOk g nm c) (hg : GOk g) {rest : List Nat} (hr : rest ≠ []) (hc : ∀ k ∈ rest, k < c) : ∃ j ∈ rest, wt g nm rest j = 0 := by
  obtain ⟨j, hj, hm⟩ := src (R := fun a b => To g (Lay.hd nm a) (Lay.hd nm b)) (fun x => .refl _) (fun x y z h1 h2 => h1.trans h2) rest hr
  refine ⟨j, hj, wt_zero fun k hk hin => ?_⟩
  have hkl : ∀ v ∈ pt nm k, v < g.length := fun v hv => by
    have := (pt_mem.mp hv).1
    rw [h.num.len] at this
    exact this
  obtain ⟨t, ht, e⟩ := List.mem_map.mp hin
  obtain ⟨u, v, rfl, hv, hu, he, hne⟩ := h.lvg_mem hg hkl ht
  rw [Int.toNat_natCast] at e
  have hcu := (pt_mem.mp hu).2
  have hjh := pt_mem.mp (h.hd (hc j hj)).1
  have hkh := pt_mem.mp (h.hd (hc k hk)).1
  rw [h.num.len] at hjh hkh
  have m1 : Mt g (Lay.hd nm k) u := (h.mt hkh.1 (hkl u hu)).mpr (by rw [hkh.2, hcu])
  have m2 : Mt g v (Lay.hd nm j) := (h.mt hv hjh.1).mpr (by rw [hjh.2, e])
  have hkj : To g (Lay.hd nm k) (Lay.hd nm j) := m1.1.trans ((To.one he).trans m2.1)
  have := hm k hk hkj
  have e3 := (h.mt hkh.1 hjh.1).mp ⟨hkj, this⟩
  rw [hkh.2, hjh.2] at e3
  exact hne (by rw [e, hcu, e3])
end Lay

/-! The classes are listed one by one. -/
namespace Lay
structure Kahn (g : Nx) (nm : List Int) (c : Nat) (ls rest rd tl : List Nat) : Prop where
  pm : (ls ++ rest).Perm (List.range c)
  rd1 : rd.Nodup
  rd2 : ∀ j ∈ rest, (j ∈ rd ↔ wt g nm rest j + tl.count j = 0)
  rd3 : ∀ j ∈ rd, j ∈ rest
  ls0 : ∀ j ∈ ls, wt g nm rest j + tl.count j = 0
theorem Kahn.nd {g : Nx} {nm : List Int} {c : Nat} {ls rest rd tl : List Nat} (h : Kahn g nm c ls rest rd tl) : (ls ++ rest).Nodup := h.pm.nodup_iff.mpr List.nodup_range
theorem Kahn.lt {g : Nx} {nm : List Int} {c j : Nat} {ls rest rd tl : List Nat} (h : Kahn g nm c ls rest rd tl) (hj : j ∈ ls ∨ j ∈ rest) : j < c := List.mem_range.mp (h.pm.mem_iff.mp (List.mem_append.mpr hj))
theorem Kahn.pick {g : Nx} {nm : List Int} {c i k : Nat} {ls rest rd : List Nat} (h : Kahn g nm c ls rest rd []) (hk : rd[i]? = some k) : Kahn g nm c (ls ++ [k]) (rest.erase k) (rd.eraseIdx i) (tg g nm (pt nm k)) := by
  have hkm := h.rd3 k (List.mem_of_getElem? hk)
  have hw : ∀ j, wt g nm rest j = (tg g nm (pt nm k)).count j + wt g nm (rest.erase k) j := fun j => wt_erase hkm j
  have hrn : rest.Nodup := (List.nodup_append.mp h.nd).2.1
  have hmem : ∀ j, j ≠ k → (j ∈ rd.eraseIdx i ↔ j ∈ rd) := fun j hj => by
    rw [List.mem_eraseIdx_iff_getElem?]
    constructor
    · rintro ⟨a, _, ha⟩
      exact List.mem_of_getElem? ha
    · intro hm
      obtain ⟨a, ha, e⟩ := List.mem_iff_getElem.mp hm
      refine ⟨a, fun e2 => hj ?_, by rw [List.getElem?_eq_getElem ha, e]⟩
      subst e2
      rw [List.getElem?_eq_getElem ha] at hk
      rw [← e, Option.some.inj hk]
  refine ⟨?_, h.rd1.sublist (List.eraseIdx_sublist ..), fun j hj => ?_, fun j hj => ?_, fun j hj => ?_⟩
  · refine List.Perm.trans ?_ h.pm
    rw [List.append_assoc]
    exact List.Perm.append_left ls (List.perm_cons_erase hkm).symm
  · obtain ⟨h1, h2⟩ := (hrn.mem_erase_iff).mp hj
    rw [hmem j h1, h.rd2 j h2, hw j]
    show _ + 0 = 0 ↔ _
    omega
  · have h1 : j ∈ rd := (List.eraseIdx_sublist ..).subset hj
    refine (hrn.mem_erase_iff).mpr ⟨fun e => ?_, h.rd3 j h1⟩
    rw [e, List.mem_eraseIdx_iff_getElem?] at hj
    obtain ⟨a, ha, e2⟩ := hj
    have h3 := (List.getElem?_eq_some_iff.mp e2)
    have h4 := (List.getElem?_eq_some_iff.mp hk)
    obtain ⟨h5, h6⟩ := h3
    obtain ⟨h7, h8⟩ := h4
    exact ha ((List.getElem_inj h.rd1 (h₀ := h5) (h₁ := h7)).mp (h6.trans h8.symm))
  · rcases List.mem_append.mp hj with hj | hj
    · have := h.ls0 j hj
      rw [hw j] at this
      have e : (List.count j ([] : List Nat)) = 0 := rfl
      rw [e] at this
      omega
    · rw [List.mem_singleton.mp hj]
      have := (h.rd2 k hkm).mp (List.mem_of_getElem? hk)
      rw [hw k] at this
      omega
theorem Kahn.take {g : Nx} {nm : List Int} {c t : Nat} {ls rest rd tl : List Nat} (h : Kahn g nm c ls rest rd (t :: tl)) (ht : t < c) :
    (wt g nm rest t + tl.count t = 0 → Kahn g nm c ls rest (rd ++ [t]) tl) ∧ (wt g nm rest t + tl.count t ≠ 0 → Kahn g nm c ls rest rd tl) := by
  have hne : ∀ j, j ≠ t → (t :: tl).count j = tl.count j := fun j hj => List.count_cons_of_ne fun e => hj e.symm
  have hse : (t :: tl).count t = tl.count t + 1 := List.count_cons_self
  have htl : t ∉ ls := fun hm => by
    have := h.ls0 t hm
    omega
  have htr : t ∈ rest := (List.mem_append.mp (h.pm.mem_iff.mpr (List.mem_range.mpr ht))).resolve_left htl
  have htd : t ∉ rd := fun hm => by
    have := (h.rd2 t htr).mp hm
    omega
  have hls : ∀ j ∈ ls, wt g nm rest j + tl.count j = 0 := fun j hj => by
    have := h.ls0 j hj
    by_cases e : j = t
    · rw [e] at hj
      exact absurd hj htl
    · rw [hne j e] at this
      exact this
  refine ⟨fun hz => ⟨h.pm, ?_, fun j hj => ?_, fun j hj => ?_, hls⟩, fun hz => ⟨h.pm, h.rd1, fun j hj => ?_, h.rd3, hls⟩⟩
  · refine List.nodup_append.mpr ⟨h.rd1, List.pairwise_singleton _ _, fun x hx y hy e => ?_⟩
    rw [e, List.mem_singleton.mp hy] at hx
    exact htd hx
  · rw [List.mem_append]
    by_cases e : j = t
    · rw [e]
      exact ⟨fun _ => hz, fun _ => .inr (List.mem_singleton.mpr rfl)⟩
    · have h1 := h.rd2 j hj
      rw [hne j e] at h1
      rw [← h1]
      exact ⟨fun hm => hm.elim id fun hm => absurd (List.mem_singleton.mp hm) e, .inl⟩
  · rcases List.mem_append.mp hj with hj | hj
    · exact h.rd3 j hj
    · rw [List.mem_singleton.mp hj]
      exact htr
  · by_cases e : j = t
    · rw [e]
      exact ⟨fun hm => absurd hm htd, fun e2 => absurd e2 hz⟩
    · rw [h.rd2 j hj, hne j e]
theorem Kahn.fin {g : Nx} {nm : List Int} {c : Nat} {ls rest : List Nat} (hN : NumOk g nm c) (hg : GOk g) (h : Kahn g nm c ls rest [] []) : rest = [] := by
  refine Classical.byContradiction fun hr => ?_
  obtain ⟨j, hj, hw⟩ := hN.source hg hr fun k hk => h.lt (.inr hk)
  have := (h.rd2 j hj).mpr (by rw [hw]; rfl)
  cases this
theorem NumOk.mt_hd {g : Nx} {nm : List Int} {c i j : Nat} (h : NumOk g nm c) (hi : i < c) (hj : j < c) : Mt g (Lay.hd nm i) (Lay.hd nm j) ↔ i = j := by
  have h1 := pt_mem.mp (h.hd hi).1
  have h2 := pt_mem.mp (h.hd hj).1
  rw [h.num.len] at h1 h2
  rw [h.mt h1.1 h2.1, h1.2, h2.2]
theorem NumOk.cover {g : Nx} {nm : List Int} {c : Nat} {ls : List Nat} (h : NumOk g nm c) (hp : ls.Perm (List.range c)) : Cover g (ls.map (Lay.hd nm)) := by
  have hlt : ∀ j ∈ ls, j < c := fun j hj => List.mem_range.mp (hp.mem_iff.mp hj)
  refine ⟨fun b hb => ?_, ?_, fun v hv => ?_⟩
  · obtain ⟨j, hj, rfl⟩ := List.mem_map.mp hb
    have := (pt_mem.mp (h.hd (hlt j hj)).1).1
    rw [h.num.len] at this
    exact this
  · refine List.pairwise_map.mpr (List.Pairwise.imp_of_mem (fun {a b} ha hb hn hm => hn ((h.mt_hd (hlt a ha) (hlt b hb)).mp hm)) (hp.nodup_iff.mpr List.nodup_range))
  · have hc := (h.at hv).2
    have hm := pt_mem.mp (h.hd hc).1
    rw [h.num.len] at hm
    exact ⟨_, List.mem_map_of_mem (hp.mem_iff.mpr (List.mem_range.mpr hc)), (h.mt hm.1 hv).mpr hm.2⟩
/-- the first class: node 0's -/
theorem NumOk.first {g : Nx} {nm : List Int} {c : Nat} (h : NumOk g nm c) (hg : GOk g) : Kahn g nm c [] (List.range c) [cn nm 0] [] ∧ Lay.hd nm (cn nm 0) = 0 := by
  have hc := (h.at hg.pos).2
  have hreach : ∀ v, v < g.length → To g 0 v := fun v hv => To.of_rc (hg.reach v hv)
  refine ⟨⟨List.Perm.refl _, List.pairwise_singleton _ _, fun j hj => ?_, fun j hj => ?_, fun j hj => nomatch hj⟩, ?_⟩
  · have hjc := List.mem_range.mp hj
    rw [List.mem_singleton]
    constructor
    · rintro rfl
      refine wt_zero fun k hk hin => ?_
      have hkl : ∀ v ∈ pt nm k, v < g.length := fun v hv => by
        have := (pt_mem.mp hv).1
        rw [h.num.len] at this
        exact this
      obtain ⟨t, ht, e⟩ := List.mem_map.mp hin
      obtain ⟨u, v, rfl, hv, hu, he, hne⟩ := h.lvg_mem hg hkl ht
      rw [Int.toNat_natCast] at e
      have m0 : Mt g v 0 := (h.mt hv hg.pos).mpr e
      have mu : Mt g u 0 := ⟨.head he m0.1, hreach u (hkl u hu)⟩
      have := (h.mt (hkl u hu) hg.pos).mp mu
      exact hne (by rw [e, this])
    · intro hw
      refine Classical.byContradiction fun hn => ?_
      -- some edge enters the class from elsewhere on the way from node 0
      have hjh := pt_mem.mp (h.hd hjc).1
      rw [h.num.len] at hjh
      have step : ∀ u v, To g u v → u < g.length → cn nm u ≠ j → cn nm v = j → ∃ x y, x < g.length ∧ y < g.length ∧ Ed g x y ∧ cn nm x ≠ j ∧ cn nm y = j := fun u v t => by
        induction t with
        | refl => exact fun _ h1 h2 => absurd h2 h1
        | @head u w v e t ih =>
          intro hu h1 h2
          have hw : w < g.length := by
            obtain ⟨l, e1, e2⟩ := e
            rcases (hg.rows l (List.mem_of_getElem? e1)).2.2 w e2 with h | h
            · omega
            · omega
          by_cases hc2 : cn nm w = j
          · exact ⟨u, w, hu, hw, e, h1, hc2⟩
          · exact ih hw hc2 h2
      obtain ⟨x, y, hx, hy, he, h1, h2⟩ := step 0 _ (hreach _ hjh.1) hg.pos (fun e => hn e.symm) hjh.2
      have hin := h.tg_of (P := pt nm (cn nm x)) (pt_mem.mpr ⟨by rw [h.num.len]; exact hx, rfl⟩) hx hy he (by rw [h2]; exact fun e => h1 e.symm)
      rw [h2] at hin
      have h3 := wt_le (g := g) (nm := nm) (rest := List.range c) (List.mem_range.mpr (h.at hx).2) j
      have h4 := List.count_pos_iff.mpr hin
      have : wt g nm (List.range c) j + 0 = 0 := hw
      omega
  · rw [List.mem_singleton.mp hj]
    exact List.mem_range.mpr hc
  · unfold Lay.hd pt
    obtain ⟨n, hn⟩ : ∃ n, nm.length = n + 1 := ⟨nm.length - 1, by have := hg.pos; rw [← h.num.len] at this; omega⟩
    rw [hn, List.range_succ_eq_map, List.filter_cons_of_pos (p := fun v => decide (cn nm v = cn nm 0)) (decide_eq_true rfl)]
    rfl
theorem map_eraseIdx {α β : Type} (f : α → β) : ∀ (l : List α) (i : Nat), (l.map f).eraseIdx i = (l.eraseIdx i).map f
  | [], i => by simp
  | a :: l, 0 => rfl
  | a :: l, i + 1 => by
    show f a :: (l.map f).eraseIdx i = f a :: (l.eraseIdx i).map f
    rw [map_eraseIdx f l i]
end Lay

/-! The order of the components. -/
namespace Lay
/-- b is the least node of a component that may be listed next behind ls -/
structure Rdy (g : Nx) (ls : List Nat) (b : Nat) : Prop where
  lt : b < g.length
  least : ∀ u, u < g.length → Mt g b u → b ≤ u
  new : ∀ a ∈ ls, ¬ Mt g a b
  src : ∀ u v, Ed g u v → Mt g b v → Mt g b u ∨ ∃ a ∈ ls, Mt g a u
def Ord (g : Nx) (bs : List Nat) : Prop := ∀ i b, bs[i]? = some b → Rdy g (bs.take i) b ∧ ∀ c, Rdy g (bs.take i) c → b ≤ c
theorem Ord.nil (g : Nx) : Ord g [] := fun i b h => by
  rw [List.getElem?_nil] at h
  cases h
theorem Ord.push {g : Nx} {bs : List Nat} {b : Nat} (h : Ord g bs) (h1 : Rdy g bs b) (h2 : ∀ c, Rdy g bs c → b ≤ c) : Ord g (bs ++ [b]) := fun i x hx => by
  rcases snoc_get hx with ⟨hi, hx⟩ | ⟨hi, hx⟩
  · have e : (bs ++ [b]).take i = bs.take i := List.take_append_of_le_length (by omega)
    rw [e]
    exact h i x hx
  · have e : (bs ++ [b]).take i = bs := by rw [hi, List.take_left']; rfl
    rw [e, hx]
    exact ⟨h1, h2⟩
theorem Ord.closed {g : Nx} {bs : List Nat} {u v : Nat} (h : Ord g bs) (e : Ed g u v) (hv : ∃ b ∈ bs, Mt g b v) : ∃ b ∈ bs, Mt g b u := by
  obtain ⟨b, hb, hm⟩ := hv
  obtain ⟨i, hi, eb⟩ := List.mem_iff_getElem.mp hb
  have hg : bs[i]? = some b := by rw [List.getElem?_eq_getElem hi, eb]
  rcases (h i b hg).1.src u v e hm with h2 | ⟨a, ha, h2⟩
  · exact ⟨b, hb, h2⟩
  · exact ⟨a, List.mem_of_mem_take ha, h2⟩
structure COrd (g : Nx) (bs : List Nat) : Prop where
  cov : Cover g bs
  ord : Ord g bs
theorem COrd.eq {g : Nx} {bs cs : List Nat} (h : COrd g bs) (h2 : COrd g cs) : bs = cs := by
  have hl : bs.length = cs.length := by
    have := (h.cov.perm h2.cov).length_eq
    rw [List.length_map, List.length_map] at this
    exact this
  have key : ∀ i, i ≤ bs.length → bs.take i = cs.take i := fun i => by
    induction i with
    | zero => exact fun _ => rfl
    | succ i ih =>
      intro hi
      have ih := ih (by omega)
      have h3 : bs[i]? = some (bs[i]'(by omega)) := List.getElem?_eq_getElem (by omega)
      have h4 : cs[i]? = some (cs[i]'(by omega)) := List.getElem?_eq_getElem (by omega)
      obtain ⟨h5, h6⟩ := h.ord i _ h3
      obtain ⟨h7, h8⟩ := h2.ord i _ h4
      rw [ih] at h5 h6
      have e1 := h6 _ h7
      have e2 := h8 _ h5
      have e3 : bs[i]'(by omega) = cs[i]'(by omega) := by omega
      rw [List.take_add_one, List.take_add_one, ih, h3, h4, e3]
  have := key bs.length (Nat.le_refl _)
  rw [List.take_length, hl, List.take_length] at this
  exact this
theorem NumOk.hd_le {g : Nx} {nm : List Int} {c k u : Nat} (h : NumOk g nm c) (hk : k < c) (hu : u ∈ pt nm k) : Lay.hd nm k ≤ u := by
  have h1 := (h.hd hk).2
  have hp : (pt nm k).Pairwise (· < ·) := (List.pairwise_lt_range (n := nm.length)).sublist List.filter_sublist
  obtain ⟨i, hi, e⟩ := List.mem_iff_getElem.mp hu
  have h0 : 0 < (pt nm k).length := by omega
  have e0 : (pt nm k)[0] = Lay.hd nm k := by
    rw [List.getElem?_eq_getElem h0] at h1
    exact Option.some.inj h1
  by_cases hz : i = 0
  · subst hz
    omega
  · have := List.pairwise_iff_getElem.mp hp 0 i h0 hi (by omega)
    omega
theorem NumOk.hd_lt {g : Nx} {nm : List Int} {c k : Nat} (h : NumOk g nm c) (hk : k < c) : Lay.hd nm k < g.length ∧ cn nm (Lay.hd nm k) = k := by
  have := pt_mem.mp (h.hd hk).1
  rw [h.num.len] at this
  exact this
theorem Kahn.rdy {g : Nx} {nm : List Int} {c k : Nat} {ls rest rd : List Nat} (hN : NumOk g nm c) (hg : GOk g) (h : Kahn g nm c ls rest rd []) (hk : k ∈ rd) : Rdy g (ls.map (Lay.hd nm)) (Lay.hd nm k) := by
  have hkr := h.rd3 k hk
  have hkc := h.lt (.inr hkr)
  obtain ⟨h1, h2⟩ := hN.hd_lt hkc
  have hwt := (h.rd2 k hkr).mp hk
  refine ⟨h1, fun u hu hm => hN.hd_le hkc (pt_mem.mpr ⟨by rw [hN.num.len]; exact hu, ?_⟩), fun a ha hm => ?_, fun u v e hm => ?_⟩
  · rw [← (hN.mt h1 hu).mp hm, h2]
  · obtain ⟨j, hj, rfl⟩ := List.mem_map.mp ha
    have := (hN.mt_hd (h.lt (.inl hj)) hkc).mp hm
    rw [this] at hj
    exact (List.nodup_append.mp h.nd).2.2 k hj k hkr rfl
  · obtain ⟨hu, hv⟩ : u < g.length ∧ v < g.length := by
      obtain ⟨l, h3, h4⟩ := e
      refine ⟨(List.getElem?_eq_some_iff.mp h3).1, ?_⟩
      have := (hg.rows l (List.mem_of_getElem? h3)).2.2 v h4
      omega
    have hcv : cn nm v = k := by rw [← (hN.mt h1 hv).mp hm, h2]
    by_cases hcu : cn nm u = k
    · exact .inl ((hN.mt h1 hu).mpr (by rw [h2, hcu]))
    · right
      have hcc := (hN.at hu).2
      have hin := hN.tg_of (P := pt nm (cn nm u)) (pt_mem.mpr ⟨by rw [hN.num.len]; exact hu, rfl⟩) hu hv e (by rw [hcv]; exact fun e2 => hcu e2.symm)
      rw [hcv] at hin
      have hm2 := h.pm.mem_iff.mpr (List.mem_range.mpr hcc)
      rcases List.mem_append.mp hm2 with hm2 | hm2
      · refine ⟨_, List.mem_map_of_mem hm2, (hN.mt (hN.hd_lt hcc).1 hu).mpr (hN.hd_lt hcc).2⟩
      · exfalso
        have h3 := wt_le (g := g) (nm := nm) hm2 k
        have h4 := List.count_pos_iff.mpr hin
        have h5 : wt g nm rest k + 0 = 0 := hwt
        omega
theorem Kahn.rdy_all {g : Nx} {nm : List Int} {c b : Nat} {ls rest rd : List Nat} (hN : NumOk g nm c) (hg : GOk g) (h : Kahn g nm c ls rest rd []) (hb : Rdy g (ls.map (Lay.hd nm)) b) : ∃ k ∈ rd, b = Lay.hd nm k := by
  obtain ⟨_, hkc⟩ := hN.at hb.lt
  obtain ⟨h1, h2⟩ := hN.hd_lt hkc
  have hbk : b = Lay.hd nm (cn nm b) := by
    have h3 := hb.least _ h1 ((hN.mt hb.lt h1).mpr h2.symm)
    have h4 := hN.hd_le hkc (pt_mem.mpr ⟨by rw [hN.num.len]; exact hb.lt, rfl⟩)
    omega
  have hnl : cn nm b ∉ ls := fun hm => hb.new _ (List.mem_map_of_mem hm) ((hN.mt h1 hb.lt).mpr h2)
  have hkr : cn nm b ∈ rest := (List.mem_append.mp (h.pm.mem_iff.mpr (List.mem_range.mpr hkc))).resolve_left hnl
  refine ⟨_, (h.rd2 _ hkr).mpr (wt_zero fun k hk hin => ?_), hbk⟩
  have hkl : ∀ v ∈ pt nm k, v < g.length := fun v hv => by
    have := (pt_mem.mp hv).1
    rw [hN.num.len] at this
    exact this
  obtain ⟨t, ht, e⟩ := List.mem_map.mp hin
  obtain ⟨u, v, rfl, hv, hu, he, hne⟩ := hN.lvg_mem hg hkl ht
  rw [Int.toNat_natCast] at e
  have hcu := (pt_mem.mp hu).2
  rcases hb.src u v he ((hN.mt hb.lt hv).mpr e.symm) with h3 | ⟨a, ha, h3⟩
  · exact hne (by rw [e, (hN.mt hb.lt (hkl u hu)).mp h3])
  · obtain ⟨j, hj, rfl⟩ := List.mem_map.mp ha
    have hjc := h.lt (.inl hj)
    have := (hN.mt (hN.hd_lt hjc).1 (hkl u hu)).mp h3
    rw [(hN.hd_lt hjc).2, hcu] at this
    rw [this] at hj
    exact (List.nodup_append.mp h.nd).2.2 k hj k hk rfl
/-! ### the same, said by what leads where -/
/-- what is not listed -/
noncomputable def lft (g : Nx) (bs : List Nat) : List Nat := (List.range g.length).filter fun v => @decide (¬ ∃ b ∈ bs, Mt g b v) (Classical.propDecidable _)
theorem lft_mem {g : Nx} {bs : List Nat} {v : Nat} : v ∈ lft g bs ↔ v < g.length ∧ ¬ ∃ b ∈ bs, Mt g b v := by
  unfold lft
  rw [List.mem_filter, List.mem_range, @decide_eq_true_iff _ (Classical.propDecidable _)]
theorem lft_asc (g : Nx) (bs : List Nat) : (lft g bs).Pairwise (· < ·) := (List.pairwise_lt_range (n := g.length)).sublist List.filter_sublist
def Free (g : Nx) (bs : List Nat) (v : Nat) : Prop := ∀ o ∈ lft g bs, To g o v → To g v o
theorem Free.mt {g : Nx} {bs : List Nat} {u v : Nat} (h : Free g bs u) (m : Mt g u v) : Free g bs v := fun o ho t => m.2.trans (h o ho (t.trans m.2))
theorem Free.rdy {g : Nx} {bs : List Nat} {b : Nat} (hE : ∀ u v, Ed g u v → u < g.length) (hb : b ∈ lft g bs) (h : Free g bs b) (hf : ∀ u, u < b → u ∈ lft g bs → ¬ Free g bs u) : Rdy g bs b := by
  obtain ⟨h1, h2⟩ := lft_mem.mp hb
  refine ⟨h1, fun u hu m => Classical.byContradiction fun hn => ?_, fun a ha m => h2 ⟨a, ha, m⟩, fun u v e m => ?_⟩
  · refine hf u (by omega) (lft_mem.mpr ⟨hu, fun ⟨a, ha, m2⟩ => h2 ⟨a, ha, m2.trans m.symm⟩⟩) (h.mt m)
  · by_cases hl : ∃ a ∈ bs, Mt g a u
    · exact .inr hl
    · have t : To g u b := .head e m.2
      exact .inl ⟨h u (lft_mem.mpr ⟨hE u v e, hl⟩) t, t⟩
theorem Rdy.free {g : Nx} {bs : List Nat} {c : Nat} (h : Ord g bs) (hc : Rdy g bs c) : c ∈ lft g bs ∧ Free g bs c := by
  refine ⟨lft_mem.mpr ⟨hc.lt, fun ⟨a, ha, m⟩ => hc.new a ha m⟩, fun o ho t => ?_⟩
  have key : ∀ o, To g o c → (¬ ∃ b ∈ bs, Mt g b o) → Mt g c o := fun o t => by
    have hcc := hc
    generalize hz : c = z at t
    induction t with
    | refl =>
      rw [← hz]
      exact fun _ => .refl _
    | @head u w v e t ih =>
      intro hn
      have hw : ¬ ∃ b ∈ bs, Mt g b w := fun hw => hn (h.closed e hw)
      have m := ih hz hw
      rw [← hz] at m ⊢
      exact (hc.src u w e m).resolve_right hn
  exact (key o t (lft_mem.mp ho).2).1
/-- some node of what is left may be listed next -/
theorem lft_free {g : Nx} {bs : List Nat} (h : lft g bs ≠ []) : ∃ v ∈ lft g bs, Free g bs v := by
  obtain ⟨x, hx, hm⟩ := src (R := To g) (fun x => .refl x) (fun x y z h1 h2 => h1.trans h2) (lft g bs) h
  exact ⟨x, hx, hm⟩
theorem Ord.cover {g : Nx} {bs : List Nat} (h : Ord g bs) (hl : lft g bs = []) : Cover g bs := by
  refine ⟨fun b hb => ?_, ?_, fun v hv => Classical.byContradiction fun hn => ?_⟩
  · obtain ⟨i, hi, e⟩ := List.mem_iff_getElem.mp hb
    exact (h i b (by rw [List.getElem?_eq_getElem hi, e])).1.lt
  · refine List.pairwise_iff_getElem.mpr fun i j hi hj hij m => ?_
    exact (h j _ (List.getElem?_eq_getElem hj)).1.new _ (List.mem_take_iff_getElem.mpr ⟨i, by omega, rfl⟩) m
  · have : v ∈ lft g bs := lft_mem.mpr ⟨hv, hn⟩
    rw [hl] at this
    cases this
theorem lft_push {g : Nx} {bs : List Nat} {b : Nat} : lft g (bs ++ [b]) = (lft g bs).filter fun v => @decide (¬ Mt g b v) (Classical.propDecidable _) := by
  unfold lft
  rw [List.filter_filter]
  refine List.filter_congr fun v _ => ?_
  by_cases h1 : ∃ a ∈ bs, Mt g a v
  · have : ∃ a ∈ bs ++ [b], Mt g a v := h1.elim fun a h => ⟨a, List.mem_append_left _ h.1, h.2⟩
    rw [@decide_eq_false _ (Classical.propDecidable _) (fun hn => hn this), @decide_eq_false (¬ ∃ a ∈ bs, Mt g a v) (Classical.propDecidable _) (fun hn => hn h1), Bool.and_false]
  · rw [@decide_eq_true (¬ ∃ a ∈ bs, Mt g a v) (Classical.propDecidable _) h1, Bool.and_true]
    by_cases h2 : Mt g b v
    · rw [@decide_eq_false _ (Classical.propDecidable _) fun hn => hn ⟨b, List.mem_append_right _ (List.mem_singleton.mpr rfl), h2⟩, @decide_eq_false _ (Classical.propDecidable _) fun hn => hn h2]
    · rw [@decide_eq_true _ (Classical.propDecidable _) fun hn => (hn.elim fun a h => (List.mem_append.mp h.1).elim (fun h3 => h1 ⟨a, h3, h.2⟩) fun h3 => h2 (by rw [← List.mem_singleton.mp h3]; exact h.2)), @decide_eq_true _ (Classical.propDecidable _) h2]
theorem lft_len {g : Nx} {bs : List Nat} {b : Nat} (hb : b ∈ lft g bs) : (lft g (bs ++ [b])).length < (lft g bs).length := by
  rw [lft_push]
  refine Nat.lt_of_le_of_ne (List.length_filter_le _ _) fun e => ?_
  have := List.length_filter_eq_length_iff.mp e b hb
  exact (@of_decide_eq_true _ (Classical.propDecidable _) this) (.refl b)
end Lay

/-! The promises of the program's defs. -/
namespace K62
open PySem PySem.Spec PyProof.Rows L2 Fw Lay
def sp_is_name (K : PySem.W.Frag) : Sp := fun vs H Q _ => ∃ x : Str, vs = [.str x] ∧ NameOk x ∧ Q (.bl true) H
def sp_distinct (K : PySem.W.Frag) : Sp := fun vs H Q _ => ∃ (a : Addr) (ns : List Int), vs = [.ref a] ∧ SqL K H a (ns.map V.int) ∧ ns.length < 64 ∧
  ∀ (H2 : Hp) (p : Addr) (ds : List Int), Same H H2 → H p = none → H2 p = some (ilst ds) → ds.Pairwise (· < ·) → (∀ x, x ∈ ds ↔ x ∈ ns) → Q (.ref p) H2
def sp_Graph_price (K : PySem.W.Frag) : Sp := fun vs H Q _ => ∃ (g : Addr) (rs : Rx) (i : Nat) (q : Addr × Addr × Rw), vs = [.ref g, .int (i : Int)] ∧ GrAt K H g rs ∧ rs[i]? = some q ∧ Q (.int q.2.2.2.1) H
def sp_Graph_successors (K : PySem.W.Frag) : Sp := fun vs H Q _ => ∃ (g : Addr) (rs : Rx) (i : Nat) (q : Addr × Addr × Rw), vs = [.ref g, .int (i : Int)] ∧ GrAt K H g rs ∧ rs[i]? = some q ∧ Q (.ref q.2.1) H
def sp_nexts_of (K : PySem.W.Frag) : Sp := fun vs H Q _ => ∃ (a : Addr) (rs : Rx), vs = [.ref a] ∧ SqL K H a (refR rs) ∧ RwOk H rs ∧ rs.length ≤ 1000 ∧ (∀ q ∈ rs, q.2.2.2.2.length ≤ 4) ∧
  ∀ (H2 : Hp) (p : Addr) (ns : Ws), Same H H2 → H p = none → H2 p = some (.lst (refL ns)) → (∀ z ∈ ns, H2 z.1 = some (ilst z.2)) → ns.map (·.2) = (sxr rs).map (fun l => l.filter fun t => decide (t ≠ -1)) → Q (.ref p) H2
def sp_backs_of (K : PySem.W.Frag) : Sp := fun vs H Q _ => ∃ (a : Addr) (rs : Rx), vs = [.ref a] ∧ SqL K H a (refR rs) ∧ RwOk H rs ∧ rs.length ≤ 1000 ∧ (∀ l ∈ sxr rs, RowOk rs.length l) ∧
  ∀ (H2 : Hp) (p : Addr) (ns : Ws), Same H H2 → H p = none → H2 p = some (.lst (refL ns)) → (∀ z ∈ ns, H2 z.1 = some (ilst z.2)) → ns.length = rs.length → (∀ z ∈ ns, ∀ t ∈ z.2, 0 ≤ t ∧ t < (rs.length : Int)) →
    (∀ (v u : Nat) (l : List Int), (sxr rs)[v]? = some l → (u : Int) ∈ l → ∃ b, (ns.map (·.2))[u]? = some b ∧ (v : Int) ∈ b) → (∀ (u : Nat) (b : List Int) (x : Int), (ns.map (·.2))[u]? = some b → x ∈ b → ∃ l, (sxr rs)[x.toNat]? = some l ∧ (u : Int) ∈ l) → Q (.ref p) H2
def sp_spread (K : PySem.W.Frag) : Sp := fun vs H Q _ => ∃ (a b : Addr) (ns : Ws) (ss : List Nat), vs = [.ref a, .ref b] ∧ SqL K H a (refL ns) ∧ LL K H ns ∧ (∀ z ∈ ns, ∀ t ∈ z.2, 0 ≤ t ∧ t < (ns.length : Int)) ∧ ns.length ≤ 1000 ∧ SqL K H b ((nmap ss).map V.int) ∧ ss.Nodup ∧ (∀ s ∈ ss, s < ns.length) ∧
  ∀ (H2 : Hp) (p : Addr) (bs : List Bool), Same H H2 → H p = none → H2 p = some (.lst (bs.map V.bl)) → bs.length = ns.length → (∀ v, Rc (ns.map (·.2)) (fun s => s ∈ ss) v → bs[v]? = some true) → Q (.ref p) H2
def sp_is_good_row (K : PySem.W.Frag) : Sp := fun vs H Q _ => ∃ (q : Addr × Addr × Rw) (n : Nat), vs = [.ref q.1, .int (n : Int)] ∧ RwOk H [q] ∧ NameOk q.2.2.1 ∧ 1 ≤ q.2.2.2.1 ∧ RowOk n q.2.2.2.2 ∧ Q (.bl true) H
def sp_check_rows (K : PySem.W.Frag) : Sp := fun vs H Q _ => ∃ (a : Addr) (rs : Rx), vs = [.ref a] ∧ SqL K H a (refR rs) ∧ RwOk H rs ∧ RsOk rs ∧ Q .non H
def sp_check_reached (K : PySem.W.Frag) : Sp := fun vs H Q _ => ∃ (a : Addr) (rs : Rx), vs = [.ref a] ∧ SqL K H a (refR rs) ∧ RwOk H rs ∧ RsOk rs ∧ ∀ H2 : Hp, Same H H2 → Q .non H2
def sp_check_ends (K : PySem.W.Frag) : Sp := fun vs H Q _ => ∃ (a : Addr) (rs : Rx), vs = [.ref a] ∧ SqL K H a (refR rs) ∧ RwOk H rs ∧ RsOk rs ∧ ∀ H2 : Hp, Same H H2 → Q .non H2
def sp_Graph_init (K : PySem.W.Frag) : Sp := fun vs H Q _ => ∃ (g dx a : Addr) (rs : Rx), vs = [.ref g, .ref a] ∧ H g = some (.ins (He.ga K "Graph") dx []) ∧ SqL K H a (refR rs) ∧ RwOk H rs ∧ RsOk rs ∧
  ∀ (H2 : Hp) (rs2 : Rx), But g H H2 → GrAt K H2 g rs2 → rs2.map (·.2.2) = rs.map (·.2.2) → Q .non H2
def sp_Graph_rows (K : PySem.W.Frag) : Sp := fun vs H Q _ => ∃ (g : Addr) (rs : Rx), vs = [.ref g] ∧ GrAt K H g rs ∧ ∀ (p : Addr), H p = none → Q (.ref p) (upd H p (.lst (refR rs)))
def sp_Graph_word (K : PySem.W.Frag) : Sp := fun vs H Q _ => ∃ (g : Addr) (rs : Rx) (i : Nat) (q : Addr × Addr × Rw), vs = [.ref g, .int (i : Int)] ∧ GrAt K H g rs ∧ rs[i]? = some q ∧ Q (.str q.2.2.1) H
def sp_left_order (K : PySem.W.Frag) : Sp := fun vs H Q _ => ∃ (a : Addr) (ws : Ws), vs = [.ref a] ∧ SqL K H a (refL ws) ∧ LL K H ws ∧ 0 < ws.length ∧ ws.length ≤ 1000 ∧ (∀ z ∈ ws, z.2.length ≤ 4 ∧ ∀ t ∈ z.2, 0 ≤ t ∧ t < (ws.length : Int)) ∧
  ∀ (H2 : Hp) (p : Addr) (od : List Nat), Same H H2 → H p = none → H2 p = some (ilst (nmap od)) → OdOk (ws.map (·.2)) od → Q (.ref p) H2
def sp_class_numbers (K : PySem.W.Frag) : Sp := fun vs H Q _ => ∃ (g : Addr) (rs : Rx), vs = [.ref g] ∧ GrAt K H g rs ∧ RsOk rs ∧
  ∀ (H2 : Hp) (p : Addr) (nm : List Int) (c : Nat), Same H H2 → H p = none → H2 p = some (ilst nm) → NumOk (sxr rs) nm c → Q (.ref p) H2
def sp_parts_of (K : PySem.W.Frag) : Sp := fun vs H Q _ => ∃ (a : Addr) (g : Nx) (nm : List Int) (c : Nat), vs = [.ref a] ∧ SqL K H a (nm.map V.int) ∧ nm.length < 64 ∧ NumOk g nm c ∧
  ∀ (H2 : Hp) (p : Addr) (ws : Ws), Same H H2 → H p = none → H2 p = some (.lst (refL ws)) → ws.map (·.2) = (List.range c).map (fun j => nmap (pt nm j)) → (∀ z ∈ ws, H z.1 = none ∧ z.1 ≠ p ∧ H2 z.1 = some (ilst z.2)) → Q (.ref p) H2
def sp_leaving (K : PySem.W.Frag) : Sp := fun vs H Q _ => ∃ (g a b : Addr) (rs : Rx) (nm : List Int) (P : List Nat), vs = [.ref g, .ref a, .ref b] ∧ GrAt K H g rs ∧ SqL K H a (nm.map V.int) ∧ nm.length = rs.length ∧ SqL K H b ((nmap P).map V.int) ∧ (∀ v ∈ P, v < rs.length) ∧ P.length ≤ 1000 ∧ (∀ l ∈ sxr rs, RowOk rs.length l) ∧
  ∀ (H2 : Hp) (p : Addr), Same H H2 → H p = none → H2 p = some (ilst (lvg (sxr rs) nm P)) → Q (.ref p) H2
def sp_entering (K : PySem.W.Frag) : Sp := fun vs H Q _ => ∃ (g a : Addr) (rs : Rx) (nm : List Int) (c : Nat), vs = [.ref g, .ref a] ∧ GrAt K H g rs ∧ SqL K H a (nm.map V.int) ∧ NumOk (sxr rs) nm c ∧ RsOk rs ∧ rs.length < 64 ∧
  ∀ (H2 : Hp) (p : Addr), Same H H2 → H p = none → H2 p = some (ilst (nmap ((List.range c).map fun j => (tg (sxr rs) nm (List.range rs.length)).count j))) → Q (.ref p) H2
def sp_components (K : PySem.W.Frag) : Sp := fun vs H Q _ => ∃ (g : Addr) (rs : Rx), vs = [.ref g] ∧ GrAt K H g rs ∧ RsOk rs ∧ rs.length < 64 ∧
  ∀ (H2 : Hp) (p : Addr) (ws : Ws) (bs : List Nat), Same H H2 → H p = none → H2 p = some (.lst (refL ws)) → ws.map (·.2) = bs.map (fun b => nmap (cls (sxr rs) b)) → COrd (sxr rs) bs → (∀ z ∈ ws, H z.1 = none ∧ z.1 ≠ p ∧ H2 z.1 = some (ilst z.2)) → Q (.ref p) H2
end K62

/-! The drawn graph while it is drawn: a list of lists in the heap; what a block and an exit add. -/
namespace Fw
open PySem PySem.Spec PyProof.Rows L2 Lay
def cts (zs : Ws) : Nx := zs.map fun z : Addr × List Int => z.2
theorem cts_get {zs : Ws} {v : Nat} {z : Addr × List Int} (h : zs[v]? = some z) : (cts zs)[v]? = some z.2 := by
  unfold cts
  rw [List.getElem?_map, h]
  rfl
theorem get_cts {zs : Ws} {v : Nat} {l : List Int} (h : (cts zs)[v]? = some l) : ∃ z, zs[v]? = some z ∧ z.2 = l := by
  unfold cts at h
  rw [List.getElem?_map] at h
  exact Option.map_eq_some_iff.mp h
theorem cts_len (zs : Ws) : (cts zs).length = zs.length := List.length_map ..
theorem cts_set (zs : Ws) (v : Nat) (a : Addr) (l : List Int) : cts (zs.set v (a, l)) = (cts zs).set v l := by
  unfold cts
  rw [List.map_set]
theorem get_refL {zs : Ws} {v : Nat} {z : Addr × List Int} (h : zs[v]? = some z) : (refL zs)[v]? = some (.ref z.1) := by
  unfold refL
  rw [List.getElem?_map, h]
  rfl
/-- the list of lists at a, all of it new since H0 -/
structure NxIn (H0 H : Hp) (a : Addr) (zs : Ws) : Prop where
  same : Same H0 H
  new : H0 a = none
  at_ : H a = some (.lst (refL zs))
  els : ∀ z ∈ zs, H0 z.1 = none ∧ z.1 ≠ a ∧ H z.1 = some (ilst z.2)
  nd : (zs.map fun z : Addr × List Int => z.1).Nodup
theorem NxIn.alloc {H0 H : Hp} {a p : Addr} {zs : Ws} {o : HO} (h : NxIn H0 H a zs) (np : H p = none) : NxIn H0 (upd H p o) a zs :=
  ⟨h.same.trans (same_new np), h.new, same_new np _ _ h.at_, fun z hz => ⟨(h.els z hz).1, (h.els z hz).2.1, same_new np _ _ (h.els z hz).2.2⟩, h.nd⟩
theorem NxIn.then {H0 H H2 : Hp} {a : Addr} {zs : Ws} (h : NxIn H0 H a zs) (s : Same H H2) : NxIn H0 H2 a zs :=
  ⟨h.same.trans s, h.new, s _ _ h.at_, fun z hz => ⟨(h.els z hz).1, (h.els z hz).2.1, s _ _ (h.els z hz).2.2⟩, h.nd⟩
theorem NxIn.push {H0 H : Hp} {a l : Addr} {zs : Ws} {c : List Int} (h : NxIn H0 H a zs) (nl : H l = none) : NxIn H0 (upd (upd H l (.lst (c.map V.int))) a (.lst (refL zs ++ [.ref l]))) a (zs ++ [(l, c)]) := by
  have hla : l ≠ a := (ne_of_none h.at_ nl).symm
  refine ⟨same_mut (h.same.trans (same_new nl)) h.new, h.new, ?_, fun z hz => ?_, ?_⟩
  · rw [upd_same]
    unfold refL
    rw [List.map_append]
    rfl
  · rcases List.mem_append.mp hz with hz | hz
    · obtain ⟨h1, h2, h3⟩ := h.els z hz
      refine ⟨h1, h2, ?_⟩
      rw [upd_ne h2]
      exact same_new nl _ _ h3
    · rw [List.mem_singleton.mp hz]
      refine ⟨h.same.free nl, hla, ?_⟩
      show upd (upd H l _) a _ l = _
      rw [upd_ne hla, upd_same]
  · rw [List.map_append]
    refine List.nodup_append.mpr ⟨h.nd, List.pairwise_singleton _ _, fun x hx y hy e => ?_⟩
    obtain ⟨z, hz, rfl⟩ := List.mem_map.mp hx
    have h3 := (h.els z hz).2.2
    rw [e, List.mem_singleton.mp (show y ∈ [l] from hy), nl] at h3
    cases h3
theorem NxIn.app {H0 H : Hp} {a : Addr} {zs : Ws} {v : Nat} {z : Addr × List Int} {x : Int} (h : NxIn H0 H a zs) (hz : zs[v]? = some z) : NxIn H0 (upd H z.1 (.lst (z.2.map V.int ++ [.int x]))) a (zs.set v (z.1, z.2 ++ [x])) := by
  have hzm := List.mem_of_getElem? hz
  have hv := (List.getElem?_eq_some_iff.mp hz).1
  obtain ⟨h1, h2, h3⟩ := h.els z hzm
  have hmap : (zs.set v (z.1, z.2 ++ [x])).map (fun z : Addr × List Int => z.1) = zs.map fun z : Addr × List Int => z.1 := by
    rw [List.map_set]
    refine List.ext_getElem? fun j => ?_
    rw [List.getElem?_set]
    split
    · rename_i e
      subst e
      rw [if_pos (by rw [List.length_map]; exact hv), List.getElem?_map, hz]
      rfl
    · rfl
  refine ⟨same_mut h.same h1, h.new, ?_, fun w hw => ?_, by rw [hmap]; exact h.nd⟩
  · rw [upd_ne h2.symm, h.at_]
    have e : refL (zs.set v (z.1, z.2 ++ [x])) = refL zs := by
      have e2 := congrArg (List.map V.ref) hmap
      rw [List.map_map, List.map_map] at e2
      exact e2
    rw [e]
  · by_cases hwz : w.1 = z.1
    · obtain ⟨j, hj, e⟩ := List.mem_iff_getElem.mp hw
      rw [List.length_set] at hj
      have hjv : j = v := by
        refine (List.getElem_inj h.nd (h₀ := by rw [List.length_map]; exact hj) (h₁ := by rw [List.length_map]; exact hv)).mp ?_
        have e3 : ((zs.set v (z.1, z.2 ++ [x])).map (fun z : Addr × List Int => z.1))[j]? = some w.1 := by
          rw [List.getElem?_map, List.getElem?_eq_getElem (by rw [List.length_set]; exact hj), e]
          rfl
        rw [hmap] at e3
        have e4 : (zs.map fun z : Addr × List Int => z.1)[v]? = some z.1 := by
          rw [List.getElem?_map, hz]
          rfl
        rw [(List.getElem?_eq_some_iff.mp e3).2, (List.getElem?_eq_some_iff.mp e4).2, hwz]
      subst hjv
      rw [List.getElem_set_self] at e
      rw [← e]
      refine ⟨h1, h2, ?_⟩
      show upd H z.1 _ z.1 = _
      rw [upd_same]
      unfold ilst
      rw [List.map_append]
      rfl
    · rcases List.mem_or_eq_of_mem_set hw with hw | hw
      · obtain ⟨q1, q2, q3⟩ := h.els w hw
        refine ⟨q1, q2, ?_⟩
        rw [upd_ne hwz]
        exact q3
      · rw [hw] at hwz
        exact absurd rfl hwz
end Fw
namespace Lay
/-- what a block of s nodes adds to a graph of n nodes -/
structure BlkR (g g2 : Nx) (n s : Nat) : Prop where
  len : g2.length = n + s
  old : ∀ (v : Nat) (l : List Int), g[v]? = some l → ∃ more, g2[v]? = some (l ++ more) ∧ (∀ t ∈ more, (n : Int) ≤ t ∧ t < (n : Int) + s) ∧ (l.length ≤ 4 → (l ++ more).length ≤ 4)
  ring : ∀ p, p < s → ∃ l, g2[n + p]? = some l ∧ (1 < s → l = [((n + (p + 1) % s : Nat) : Int)]) ∧ (s = 1 → l = [] ∨ l = [(n : Int)])
  ent : 0 < n → (∃ l ∈ g, l.length < 4) → ∃ (v : Nat) (l : List Int) (t : Int), v < n ∧ g2[v]? = some l ∧ t ∈ l ∧ (n : Int) ≤ t ∧ t < (n : Int) + s
/-- what an exit of the block of s nodes from b on adds -/
def ExitR (g g2 : Nx) (b s : Nat) : Prop := (g2 = g ∧ ∃ (v : Nat) (l : List Int) (t : Int), b ≤ v ∧ v < b + s ∧ g[v]? = some l ∧ t ∈ l ∧ (t < (b : Int) ∨ (b : Int) + s ≤ t)) ∨
  ∃ (v : Nat) (l : List Int), b ≤ v ∧ v < b + s ∧ g[v]? = some l ∧ l.length < 4 ∧ g2 = g.set v (l ++ [-1])
end Lay

/-! Lists of lists of whole numbers, compared place by place. -/
namespace Fw
open PySem PySem.Spec PyProof.Rows L2 Lay
def dI (ns : List Int) : PyData := .list (ns.map PyData.int)
def dL (ls : Ls) : PyData := .list (ls.map dI)
theorem lay_ints : ∀ ns : List Int, PyData.canLayAll0 (ns.map PyData.int) = true
  | [] => rfl
  | n :: ns => by
    show (PyData.canLay0 (.int n) && PyData.canLayAll0 (ns.map PyData.int)) = true
    rw [lay_ints ns]
    rfl
theorem lay_rows : ∀ ls : Ls, PyData.canLayAll0 (ls.map dI) = true
  | [] => rfl
  | l :: ls => by
    show (PyData.canLayAll0 (l.map PyData.int) && PyData.canLayAll0 (ls.map dI)) = true
    rw [lay_rows ls, lay_ints l]
    rfl
theorem dep_ints : ∀ ns : List Int, PyData.depthAll (ns.map PyData.int) = 0
  | [] => rfl
  | n :: ns => by
    show max (PyData.depth (.int n)) (PyData.depthAll (ns.map PyData.int)) = 0
    rw [dep_ints ns]
    rfl
theorem dep_rows : ∀ ls : Ls, PyData.depthAll (ls.map dI) ≤ 1
  | [] => Nat.zero_le _
  | l :: ls => by
    show max (PyData.depthAll (l.map PyData.int) + 1) (PyData.depthAll (ls.map dI)) ≤ 1
    have := dep_rows ls
    rw [dep_ints l]
    omega
theorem dI_shaped (ns : List Int) : SeqAt.shaped (dI ns) = true := by
  show (PyData.canLayAll0 (ns.map PyData.int) && decide (PyData.depthAll (ns.map PyData.int) + 1 ≤ 64)) = true
  rw [lay_ints, dep_ints]
  rfl
theorem dL_shaped (ls : Ls) : SeqAt.shaped (dL ls) = true := by
  show (PyData.canLayAll0 (ls.map dI) && decide (PyData.depthAll (ls.map dI) + 1 ≤ 64)) = true
  have := dep_rows ls
  rw [lay_rows, decide_eq_true (by omega)]
  rfl
theorem dI_eqv (ns : List Int) : PyData.eqv (dI ns) (dI ns) = true := SeqAt.eqv_refl _ (SeqAt.canLay_of_shaped (dI_shaped ns))
theorem dL_eqv (ls : Ls) : PyData.eqv (dL ls) (dL ls) = true := SeqAt.eqv_refl _ (SeqAt.canLay_of_shaped (dL_shaped ls))
theorem dp_ints {K : PySem.W.Frag} {H : Hp} : ∀ ns : List Int, DpAll K H (ns.map V.int) (ns.map PyData.int)
  | [] => .nil
  | n :: ns => .cons (.int n) (dp_ints ns)
theorem dp_row {K : PySem.W.Frag} {H : Hp} {a : Addr} {ns : List Int} (h : SqL K H a (ns.map V.int)) : Dp K H (.ref a) (dI ns) := .lst h (dp_ints ns)
theorem dp_rows {K : PySem.W.Frag} {H : Hp} : ∀ {zs : Ws}, LL K H zs → DpAll K H (refL zs) ((zs.map (·.2)).map dI)
  | [], _ => .nil
  | z :: zs, h => .cons (dp_row (h z (List.mem_cons_self ..))) (dp_rows fun x hx => h x (List.mem_cons_of_mem _ hx))
theorem dp_list {K : PySem.W.Frag} {H : Hp} {a : Addr} {zs : Ws} (hs : SqL K H a (refL zs)) (h : LL K H zs) : Dp K H (.ref a) (dL (zs.map (·.2))) := .lst hs (dp_rows h)
end Fw

/-! Fronts of rows: where each row stands, what a step does, the least price from a front. -/
namespace Lay
abbrev Ft := List Nat
def rst : Ls → Ft → Ls
  | l :: ls, k :: f => l.drop k :: rst ls f
  | _, _ => []
def fstep (b : Int) : Ls → Ft → Ft
  | l :: ls, k :: f => (k + if due l k b = true then 1 else 0) :: fstep b ls f
  | _, _ => []
def FOk : Ls → Ft → Prop
  | [], [] => True
  | l :: ls, k :: f => k ≤ l.length ∧ FOk ls f
  | _, _ => False
/-- b is the next symbol of a row -/
def Sym : Ls → Ft → Int → Prop
  | l :: ls, k :: f, b => l[k]? = some b ∨ Sym ls f b
  | _, _, _ => False
def f0 (ls : Ls) : Ft := ls.map fun _ => 0
theorem FOk.len : ∀ {ls : Ls} {f : Ft}, FOk ls f → f.length = ls.length
  | [], [], _ => rfl
  | _ :: _, _ :: _, h => by rw [List.length_cons, List.length_cons, FOk.len h.2]
  | [], _ :: _, h => h.elim
  | _ :: _, [], h => h.elim
theorem FOk.zero : ∀ ls : Ls, FOk ls (f0 ls)
  | [] => trivial
  | l :: ls => ⟨Nat.zero_le _, FOk.zero ls⟩
theorem rst_zero : ∀ ls : Ls, rst ls (f0 ls) = ls
  | [] => rfl
  | l :: ls => by
    show l.drop 0 :: rst ls (f0 ls) = _
    rw [rst_zero ls]
    rfl
theorem rst_step (b : Int) : ∀ (ls : Ls) (f : Ft), rst ls (fstep b ls f) = (rst ls f).map (adv b)
  | l :: ls, k :: f => by
    show l.drop (k + if due l k b = true then 1 else 0) :: rst ls (fstep b ls f) = adv b (l.drop k) :: (rst ls f).map (adv b)
    rw [rst_step b ls f, drop_adv]
  | [], _ => rfl
  | _ :: _, [] => rfl
theorem FOk.step (b : Int) : ∀ {ls : Ls} {f : Ft}, FOk ls f → FOk ls (fstep b ls f)
  | [], [], _ => trivial
  | l :: ls, k :: f, h => by
    refine ⟨?_, FOk.step b h.2⟩
    have h1 := h.1
    split
    · rename_i e
      have := due_lt e
      omega
    · omega
  | [], _ :: _, h => h.elim
  | _ :: _, [], h => h.elim
theorem sum_step (b : Int) : ∀ {ls : Ls} {f : Ft}, FOk ls f → f.sum ≤ (fstep b ls f).sum ∧ (Sym ls f b → f.sum < (fstep b ls f).sum)
  | [], [], _ => ⟨Nat.le_refl _, fun h => h.elim⟩
  | l :: ls, k :: f, h => by
    obtain ⟨h1, h2⟩ := sum_step b h.2
    show (k :: f).sum ≤ ((k + if due l k b = true then 1 else 0) :: fstep b ls f).sum ∧ (_ → (k :: f).sum < ((k + if due l k b = true then 1 else 0) :: fstep b ls f).sum)
    rw [List.sum_cons, List.sum_cons]
    refine ⟨by split <;> omega, fun s => ?_⟩
    rcases s with s | s
    · rw [if_pos (show due l k b = true from decide_eq_true s)]
      omega
    · have := h2 s
      split <;> omega
  | [], _ :: _, h => h.elim
  | _ :: _, [], h => h.elim
theorem sum_le : ∀ {ls : Ls} {f : Ft}, FOk ls f → f.sum ≤ (ls.map List.length).sum
  | [], [], _ => Nat.le_refl _
  | l :: ls, k :: f, h => by
    have := sum_le h.2
    have := h.1
    rw [List.map_cons, List.sum_cons, List.sum_cons]
    omega
  | [], _ :: _, h => h.elim
  | _ :: _, [], h => h.elim
theorem sym_rest : ∀ {ls : Ls} {f : Ft} {b : Int}, Sym ls f b ↔ ∃ r ∈ rst ls f, ∃ q, r = b :: q
  | l :: ls, k :: f, b => by
    constructor
    · rintro (h | h)
      · have hlt := (List.getElem?_eq_some_iff.mp h).1
        refine ⟨l.drop k, List.mem_cons_self .., l.drop (k + 1), ?_⟩
        rw [List.drop_eq_getElem_cons hlt, (List.getElem?_eq_some_iff.mp h).2]
      · obtain ⟨r, hr, q, e⟩ := sym_rest.mp h
        exact ⟨r, List.mem_cons_of_mem _ hr, q, e⟩
    · rintro ⟨r, hr, q, e⟩
      rcases List.mem_cons.mp hr with h | h
      · left
        have h2 : (l.drop k)[0]? = some b := by rw [← h, e]; rfl
        rw [List.getElem?_drop] at h2
        simpa using h2
      · exact .inr (sym_rest.mpr ⟨r, h, q, e⟩)
  | [], _, b => ⟨fun h => h.elim, fun ⟨r, hr, _⟩ => nomatch hr⟩
  | _ :: _, [], b => ⟨fun h => h.elim, fun ⟨r, hr, _⟩ => nomatch hr⟩
theorem least_of {w : Int → Int} (hw : ∀ c, 0 ≤ w c) {ls : Ls} {f : Ft} {u : Int → Int} (L : ∀ b, Sym ls f b → Least w (rst ls (fstep b ls f)) (u b)) {v : Int}
    (h0 : (∀ b, ¬ Sym ls f b) → v = 0) (h1 : (∃ b, Sym ls f b) → ∃ b, Sym ls f b ∧ v = w b + u b) (h2 : ∀ b, Sym ls f b → v ≤ w b + u b) : Least w (rst ls f) v := by
  by_cases h : ∃ b, Sym ls f b
  · obtain ⟨b, hb, e⟩ := h1 h
    refine least_step hw ?_ ?_
    · obtain ⟨r, hr, q, e2⟩ := sym_rest.mp hb
      have := L b hb
      rw [rst_step] at this
      exact ⟨r, hr, b, q, u b, e2, this, e⟩
    · intro r hr b2 q e2
      have hs := sym_rest.mpr ⟨r, hr, q, e2⟩
      have := L b2 hs
      rw [rst_step] at this
      exact ⟨u b2, this, h2 b2 hs⟩
  · rw [h0 fun b hb => h ⟨b, hb⟩]
    refine least_end hw fun r hr => ?_
    cases r with
    | nil => rfl
    | cons b q => exact absurd ⟨b, sym_rest.mpr ⟨_, hr, q, rfl⟩⟩ h
/-- a code below the product, different for different fronts -/
def code : Ls → Ft → Nat
  | l :: ls, k :: f => k + (l.length + 1) * code ls f
  | _, _ => 0
theorem code_lt : ∀ {ls : Ls} {f : Ft}, FOk ls f → code ls f < prodL ls
  | [], [], _ => Nat.one_pos
  | l :: ls, k :: f, h => by
    have h1 := code_lt h.2
    have h2 := h.1
    show k + (l.length + 1) * code ls f < (l.length + 1) * prodL ls
    have h3 : (l.length + 1) * (code ls f + 1) ≤ (l.length + 1) * prodL ls := Nat.mul_le_mul_left _ h1
    rw [Nat.mul_add] at h3
    omega
  | [], _ :: _, h => h.elim
  | _ :: _, [], h => h.elim
theorem code_inj : ∀ {ls : Ls} {f g : Ft}, FOk ls f → FOk ls g → code ls f = code ls g → f = g
  | [], [], [], _, _, _ => rfl
  | l :: ls, k :: f, m :: g, hf, hg, e => by
    have e2 : k + (l.length + 1) * code ls f = m + (l.length + 1) * code ls g := e
    have h1 := hf.1
    have h2 := hg.1
    have a : (k + (l.length + 1) * code ls f) % (l.length + 1) = k := by
      rw [Nat.add_mul_mod_self_left, Nat.mod_eq_of_lt (by omega)]
    have b : (m + (l.length + 1) * code ls g) % (l.length + 1) = m := by
      rw [Nat.add_mul_mod_self_left, Nat.mod_eq_of_lt (by omega)]
    have km : k = m := by rw [← a, e2, b]
    subst km
    have e3 : (l.length + 1) * code ls f = (l.length + 1) * code ls g := by omega
    have e4 := Nat.eq_of_mul_eq_mul_left (Nat.succ_pos _) e3
    rw [code_inj hf.2 hg.2 e4]
  | [], _ :: _, _, h, _, _ => h.elim
  | [], [], _ :: _, _, h, _ => h.elim
  | _ :: _, [], _, h, _, _ => h.elim
  | _ :: _, _ :: _, [], _, h, _ => h.elim
theorem nodup_lt : ∀ (n : Nat) (l : List Nat), l.Nodup → (∀ x ∈ l, x < n) → l.length ≤ n
  | 0, l, _, h => by
    cases l with
    | nil => exact Nat.le_refl _
    | cons x l => exact absurd (h x (List.mem_cons_self ..)) (Nat.not_lt_zero _)
  | n + 1, l, nd, h => by
    have h1 := nodup_lt n (l.erase n) (nd.erase n) fun x hx => by
      have h2 := h x (List.mem_of_mem_erase hx)
      have h3 : x ≠ n := fun e => by
        rw [e] at hx
        exact (nd.not_mem_erase) hx
      omega
    have h4 := List.length_erase_le (a := n) (l := l)
    have h5 : l.length ≤ (l.erase n).length + 1 := by
      rw [List.length_erase]
      split <;> omega
    omega
theorem few_fronts {ls : Ls} {fs : List Ft} (nd : fs.Nodup) (ok : ∀ f ∈ fs, FOk ls f) : fs.length ≤ prodL ls := by
  have h1 : (fs.map (code ls)).Nodup := by
    refine List.pairwise_map.mpr ((List.Pairwise.and_mem.mp nd).imp ?_)
    rintro f g ⟨hf, hg, ne⟩ e
    exact ne (code_inj (ok f hf) (ok g hg) e)
  have h2 := nodup_lt (prodL ls) _ h1 fun x hx => by
    obtain ⟨f, hf, rfl⟩ := List.mem_map.mp hx
    exact code_lt (ok f hf)
  rw [List.length_map] at h2
  exact h2
end Lay

/-! Fronts by place; keys of dicts. -/
namespace Lay
theorem step_len (b : Int) : ∀ {ls : Ls} {f : Ft}, FOk ls f → (fstep b ls f).length = ls.length := fun h => (h.step b).len
theorem step_get (b : Int) : ∀ {ls : Ls} {f : Ft} {j : Nat} {l : List Int} {k : Nat}, ls[j]? = some l → f[j]? = some k → (fstep b ls f)[j]? = some (k + if due l k b = true then 1 else 0)
  | l0 :: ls, k0 :: f, 0, l, k, h1, h2 => by
    obtain rfl := Option.some.inj h1
    obtain rfl := Option.some.inj h2
    rfl
  | l0 :: ls, k0 :: f, j + 1, l, k, h1, h2 => step_get b (ls := ls) (f := f) (j := j) h1 h2
  | [], _, _, _, _, h1, _ => by simp at h1
  | _ :: _, [], _, _, _, _, h2 => by simp at h2
theorem sym_get : ∀ {ls : Ls} {f : Ft} {b : Int}, Sym ls f b ↔ ∃ (j : Nat) (l : List Int) (k : Nat), ls[j]? = some l ∧ f[j]? = some k ∧ l[k]? = some b
  | l0 :: ls, k0 :: f, b => by
    constructor
    · rintro (h | h)
      · exact ⟨0, l0, k0, rfl, rfl, h⟩
      · obtain ⟨j, l, k, h1, h2, h3⟩ := sym_get.mp h
        exact ⟨j + 1, l, k, h1, h2, h3⟩
    · rintro ⟨j, l, k, h1, h2, h3⟩
      cases j with
      | zero =>
        obtain rfl := Option.some.inj h1
        obtain rfl := Option.some.inj h2
        exact .inl h3
      | succ j => exact .inr (sym_get.mpr ⟨j, l, k, h1, h2, h3⟩)
  | [], f, b => ⟨fun h => h.elim, fun ⟨j, l, k, h1, _⟩ => by simp at h1⟩
  | _ :: _, [], b => ⟨fun h => h.elim, fun ⟨j, l, k, _, h2, _⟩ => by simp at h2⟩
theorem FOk.at : ∀ {ls : Ls} {f : Ft} {j : Nat} {l : List Int}, FOk ls f → ls[j]? = some l → ∃ k, f[j]? = some k ∧ k ≤ l.length
  | l0 :: ls, k0 :: f, 0, l, h, h1 => by
    obtain rfl := Option.some.inj h1
    exact ⟨k0, rfl, h.1⟩
  | l0 :: ls, k0 :: f, j + 1, l, h, h1 => FOk.at (ls := ls) (f := f) (j := j) h.2 h1
  | [], _, _, _, _, h1 => by simp at h1
  | _ :: _, [], _, _, h, _ => h.elim
/-- the step of b, done in the first i rows -/
def pfs (b : Int) (ls : Ls) (f : Ft) (i : Nat) : Ft := (fstep b ls f).take i ++ f.drop i
def SymB (ls : Ls) (f : Ft) (i : Nat) (b : Int) : Prop := ∃ (j : Nat) (l : List Int) (k : Nat), j < i ∧ ls[j]? = some l ∧ f[j]? = some k ∧ l[k]? = some b
theorem pfs_len {b : Int} {ls : Ls} {f : Ft} (h : FOk ls f) (i : Nat) : (pfs b ls f i).length = ls.length := by
  have h1 := h.len
  have h2 := step_len b h
  unfold pfs
  rw [List.length_append, List.length_take, List.length_drop]
  omega
theorem pfs_get {b : Int} {ls : Ls} {f : Ft} (h : FOk ls f) (i j : Nat) : (pfs b ls f i)[j]? = if j < i then (fstep b ls f)[j]? else f[j]? := by
  have h1 := h.len
  have h2 := step_len b h
  unfold pfs
  by_cases hj : j < i
  · rw [if_pos hj]
    by_cases h3 : j < (fstep b ls f).length
    · rw [List.getElem?_append_left (by rw [List.length_take]; omega), List.getElem?_take, if_pos hj]
    · rw [List.getElem?_eq_none (by rw [List.length_append, List.length_take, List.length_drop]; omega), List.getElem?_eq_none (by omega)]
  · rw [if_neg hj]
    by_cases h3 : j < f.length
    · rw [List.getElem?_append_right (by rw [List.length_take]; omega), List.length_take, List.getElem?_drop]
      congr 1
      omega
    · rw [List.getElem?_eq_none (by rw [List.length_append, List.length_take, List.length_drop]; omega), List.getElem?_eq_none (by omega)]
theorem pfs_fresh {b : Int} {ls : Ls} {f : Ft} (h : FOk ls f) {i : Nat} (hn : ¬ SymB ls f i b) : pfs b ls f i = f := by
  refine List.ext_getElem? fun j => ?_
  rw [pfs_get h]
  split
  · rename_i hj
    by_cases hl : j < ls.length
    · obtain ⟨k, hk, _⟩ := h.at (List.getElem?_eq_getElem hl)
      rw [step_get b (List.getElem?_eq_getElem hl) hk, if_neg, hk]
      · rfl
      · exact fun e => hn ⟨j, _, k, hj, List.getElem?_eq_getElem hl, hk, of_decide_eq_true e⟩
    · have h1 := h.len
      have h2 := step_len b h
      rw [List.getElem?_eq_none (by omega), List.getElem?_eq_none (by omega)]
  · rfl
theorem pfs_due {b : Int} {ls : Ls} {f : Ft} (h : FOk ls f) {i k : Nat} {l : List Int} (hl : ls[i]? = some l) (hk : f[i]? = some k) (e : l[k]? = some b) : (pfs b ls f i).set i (k + 1) = pfs b ls f (i + 1) := by
  have hi := (List.getElem?_eq_some_iff.mp hl).1
  refine List.ext_getElem? fun j => ?_
  rw [List.getElem?_set, pfs_get h, pfs_get h, pfs_len h]
  by_cases hj : i = j
  · subst hj
    rw [if_pos rfl, if_pos hi, if_pos (Nat.lt_succ_self _), step_get b hl hk, if_pos (show due l k b = true from decide_eq_true e)]
  · rw [if_neg hj]
    by_cases h2 : j < i
    · rw [if_pos h2, if_pos (by omega)]
    · rw [if_neg h2, if_neg (by omega)]
theorem pfs_other {b : Int} {ls : Ls} {f : Ft} (h : FOk ls f) {i k : Nat} {l : List Int} (hl : ls[i]? = some l) (hk : f[i]? = some k) (e : ¬ l[k]? = some b) : pfs b ls f i = pfs b ls f (i + 1) := by
  refine List.ext_getElem? fun j => ?_
  rw [pfs_get h, pfs_get h]
  by_cases hj : j = i
  · subst hj
    rw [if_neg (Nat.lt_irrefl _), if_pos (Nat.lt_succ_self _), step_get b hl hk, if_neg (show ¬ due l k b = true from fun z => e (of_decide_eq_true z)), hk]
    rfl
  · by_cases h2 : j < i
    · rw [if_pos h2, if_pos (by omega)]
    · rw [if_neg h2, if_neg (by omega)]
theorem pfs_end {b : Int} {ls : Ls} {f : Ft} (h : FOk ls f) : pfs b ls f ls.length = fstep b ls f := by
  refine List.ext_getElem? fun j => ?_
  rw [pfs_get h]
  have h1 := h.len
  have h2 := step_len b h
  by_cases hj : j < ls.length
  · rw [if_pos hj]
  · rw [if_neg hj, List.getElem?_eq_none (by omega), List.getElem?_eq_none (by omega)]
theorem symB_end {b : Int} {ls : Ls} {f : Ft} : SymB ls f ls.length b ↔ Sym ls f b := by
  rw [sym_get]
  constructor
  · rintro ⟨j, l, k, _, h⟩
    exact ⟨j, l, k, h⟩
  · rintro ⟨j, l, k, h⟩
    exact ⟨j, l, k, (List.getElem?_eq_some_iff.mp h.1).1, h⟩
theorem symB_succ {b : Int} {ls : Ls} {f : Ft} {i k : Nat} {l : List Int} (hl : ls[i]? = some l) (hk : f[i]? = some k) : SymB ls f (i + 1) b ↔ SymB ls f i b ∨ l[k]? = some b := by
  constructor
  · rintro ⟨j, m, n, hj, h1, h2, h3⟩
    by_cases e : j = i
    · subst e
      rw [hl] at h1
      rw [hk] at h2
      obtain rfl := Option.some.inj h1
      obtain rfl := Option.some.inj h2
      exact .inr h3
    · exact .inl ⟨j, m, n, by omega, h1, h2, h3⟩
  · rintro (⟨j, m, n, hj, h⟩ | h)
    · exact ⟨j, m, n, by omega, h⟩
    · exact ⟨i, l, k, Nat.lt_succ_self _, hl, hk, h⟩
end Lay
namespace Fw
open PySem PySem.Spec PyProof.Rows L2 Lay
/-- a front as a dict's key -/
def fkey (f : Ft) : List L2.Key := (nmap f).map Sum.inl
theorem fkey_kV (f : Ft) : (fkey f).map kV = (nmap f).map V.int := by
  unfold fkey
  rw [List.map_map]
  rfl
theorem nmap_inj {f g : Ft} (h : nmap f = nmap g) : f = g := by
  unfold nmap at h
  induction f generalizing g with
  | nil =>
    cases g with
    | nil => rfl
    | cons k g => cases h
  | cons k f ih =>
    cases g with
    | nil => cases h
    | cons m g =>
      rw [List.map_cons, List.map_cons] at h
      injection h with h1 h2
      rw [ih h2, Int.ofNat.inj h1]
theorem fkey_inj {f g : Ft} (h : fkey f = fkey g) : f = g := by
  refine nmap_inj ?_
  have h2 := congrArg (List.map (fun k : L2.Key => (match k with | .inl i => i | .inr _ => 0))) h
  unfold fkey at h2
  rw [List.map_map, List.map_map] at h2
  exact (List.map_id (nmap f)).symm.trans (h2.trans (List.map_id (nmap g)))
/-- pairs of a symbol and a front -/
abbrev Ps := List (Addr × Int × Addr)
abbrev refP (ps : Ps) : List V := ps.map fun q => V.ref q.1
def PsOk (H : Hp) (ls : Ls) (f : Ft) (ps : Ps) : Prop := (∀ q ∈ ps, H q.1 = some (.tup [.int q.2.1, .ref q.2.2]) ∧ H q.2.2 = some (itup (nmap (fstep q.2.1 ls f)))) ∧ ∀ b, b ∈ ps.map (·.2.1) ↔ Sym ls f b
abbrev Fs := List (Addr × Ft)
abbrev refF (fs : Fs) : List V := fs.map fun q => V.ref q.1
def FsOk (H : Hp) (ls : Ls) (fs : Fs) : Prop := (∀ q ∈ fs, H q.1 = some (itup (nmap q.2)) ∧ FOk ls q.2) ∧ (fs.map (·.2)).Nodup
/-- heights of fronts, in a dict -/
def Hts (w : Int → Int) (ls : Ls) (kvs : List (List L2.Key × V)) (f : Ft) : Prop := ∃ v, valV kvs (fkey f) = some (.int v) ∧ Least w (rst ls f) v
def SyOk (n : Nat) (ls : Ls) : Prop := ∀ l ∈ ls, ∀ s ∈ l, 0 ≤ s ∧ s < (n : Int)
/-- symbols and the lists of their moved fronts, as a dict -/
abbrev Ms := List (Int × Addr)
def kvM (ms : Ms) : List (L2.Key × V) := ms.map fun q => (Sum.inl q.1, V.ref q.2)
theorem kvM_none : ∀ {ms : Ms} {b : Int}, ¬ b ∈ ms.map (·.1) → valV (kvM ms) (Sum.inl b) = none
  | [], _, _ => rfl
  | q :: ms, b, h => by
    rw [List.map_cons, List.mem_cons, not_or] at h
    show valV ((Sum.inl q.1, V.ref q.2) :: kvM ms) (Sum.inl b) = none
    rw [valV_neg (fun e => h.1 (Sum.inl.inj e).symm)]
    exact kvM_none h.2
theorem kvM_some : ∀ {ms : Ms} {q : Int × Addr}, (ms.map (·.1)).Nodup → q ∈ ms → valV (kvM ms) (Sum.inl q.1) = some (.ref q.2)
  | m :: ms, q, nd, h => by
    rw [List.map_cons, List.nodup_cons] at nd
    show valV ((Sum.inl m.1, V.ref m.2) :: kvM ms) (Sum.inl q.1) = _
    rcases List.mem_cons.mp h with e | h
    · subst e
      exact valV_pos rfl
    · have hne : m.1 ≠ q.1 := fun e => nd.1 (by rw [e]; exact List.mem_map_of_mem (f := fun z : Int × Addr => z.1) h)
      rw [valV_neg (fun e => hne (Sum.inl.inj e))]
      exact kvM_some nd.2 h
theorem kvM_keys (ms : Ms) : (kvM ms).map (·.1) = (ms.map (·.1)).map Sum.inl := by
  unfold kvM
  rw [List.map_map, List.map_map]
  rfl
theorem nmap_set (f : Ft) (i k : Nat) : ((nmap f).map V.int).set i (.int (k : Int)) = (nmap (f.set i k)).map V.int := by
  unfold nmap
  rw [List.map_set, List.map_set]
theorem prodL_take : ∀ (ls : Ls) (i : Nat), prodL (ls.take i) ≤ prodL ls
  | [], i => by rw [List.take_nil]; exact Nat.le_refl _
  | l :: ls, 0 => prodL_pos (l :: ls)
  | l :: ls, i + 1 => Nat.mul_le_mul_left _ (prodL_take ls i)
/-- known fronts, as a dict -/
def kvF (fs : Fs) : List (List L2.Key × V) := fs.map fun q => (fkey q.2, V.bl true)
theorem kvF_none : ∀ {fs : Fs} {f : Ft}, ¬ f ∈ fs.map (·.2) → valV (kvF fs) (fkey f) = none
  | [], _, _ => rfl
  | q :: fs, f, h => by
    rw [List.map_cons, List.mem_cons, not_or] at h
    show valV ((fkey q.2, V.bl true) :: kvF fs) (fkey f) = none
    rw [valV_neg (fun e => h.1 (fkey_inj e).symm)]
    exact kvF_none h.2
theorem kvF_some : ∀ {fs : Fs} {f : Ft}, f ∈ fs.map (·.2) → valV (kvF fs) (fkey f) = some (.bl true)
  | [], _, h => nomatch h
  | q :: fs, f, h => by
    show valV ((fkey q.2, V.bl true) :: kvF fs) (fkey f) = _
    by_cases e : q.2 = f
    · exact valV_pos (by rw [← e])
    · rw [valV_neg (fun z => e (fkey_inj z))]
      rcases List.mem_cons.mp h with h | h
      · exact absurd h.symm e
      · exact kvF_some h
def But2 (l d : Addr) (H H2 : Hp) : Prop := ∀ c o, c ≠ l → c ≠ d → H c = some o → H2 c = some o
theorem tup_key {H : Hp} {t : Addr} {f : Ft} (h : H t = some (itup (nmap f))) : H t = some (.tup ((fkey f).map kV)) := by
  rw [fkey_kV]
  exact h
theorem pw_pos {pr : List Int} (h0 : 0 < pr.length) (h : ∀ x ∈ pr, 1 ≤ x) (c : Int) : 1 ≤ pw pr c := by
  have h1 := Int.emod_nonneg c (show (pr.length : Int) ≠ 0 by omega)
  have h2 := Int.emod_lt_of_pos c (show (0 : Int) < (pr.length : Int) by omega)
  have hlt : (c % (pr.length : Int)).toNat < pr.length := by omega
  unfold pw
  rw [List.getD_eq_getElem?_getD, List.getElem?_eq_getElem hlt]
  exact h _ (List.getElem_mem hlt)
theorem cost_long {w : Int → Int} (hw : ∀ c, 1 ≤ w c) : ∀ T : List Int, (T.length : Int) ≤ cost w T
  | [] => Int.le_refl _
  | t :: T => by
    have h1 := cost_long hw T
    have h2 := hw t
    rw [cost_cons, List.length_cons]
    omega
/-- a front from which something is left to pay has a step that the height follows -/
theorem least_follow {w : Int → Int} (hw : ∀ c, 0 ≤ w c) {ls : Ls} {f : Ft} {u : Int → Int} (L : ∀ b, Sym ls f b → Least w (rst ls (fstep b ls f)) (u b)) {v : Int} (hL : Least w (rst ls f) v) (hv : 0 < v)
    {bs : List Int} (hbs : ∀ b, b ∈ bs ↔ Sym ls f b) : ∃ b, Sym ls f b ∧ v = w b + u b := by
  cases bs with
  | nil =>
    have h1 : Least w (rst ls f) 0 := least_of hw L (fun _ => rfl) (fun ⟨b, hb⟩ => nomatch (hbs b).mpr hb) (fun b hb => nomatch (hbs b).mpr hb)
    have := h1.eq hL
    omega
  | cons b0 bs =>
    have h1 : ∀ cs : List Int, ∃ m ∈ b0 :: cs, ∀ b ∈ b0 :: cs, w m + u m ≤ w b + u b := fun cs => by
      induction cs with
      | nil => exact ⟨b0, List.mem_cons_self .., fun b hb => by rw [List.mem_singleton.mp hb]; exact Int.le_refl _⟩
      | cons c cs ih =>
        obtain ⟨m, hm, hle⟩ := ih
        by_cases e : w m + u m ≤ w c + u c
        · refine ⟨m, ?_, fun b hb => ?_⟩
          · rcases List.mem_cons.mp hm with h | h
            · rw [h]
              exact List.mem_cons_self ..
            · exact List.mem_cons_of_mem _ (List.mem_cons_of_mem _ h)
          · rcases List.mem_cons.mp hb with h | h
            · exact hle b (by rw [h]; exact List.mem_cons_self ..)
            · rcases List.mem_cons.mp h with h | h
              · rw [h]
                exact e
              · exact hle b (List.mem_cons_of_mem _ h)
        · refine ⟨c, List.mem_cons_of_mem _ (List.mem_cons_self ..), fun b hb => ?_⟩
          rcases List.mem_cons.mp hb with h | h
          · have := hle b (by rw [h]; exact List.mem_cons_self ..)
            omega
          · rcases List.mem_cons.mp h with h | h
            · rw [h]
              exact Int.le_refl _
            · have := hle b (List.mem_cons_of_mem _ h)
              omega
    obtain ⟨m, hm, hle⟩ := h1 bs
    have hs := (hbs m).mp hm
    have h2 : Least w (rst ls f) (w m + u m) := least_of hw L (fun hn => absurd hs (hn m)) (fun _ => ⟨m, hs, rfl⟩) (fun b hb => hle b ((hbs b).mpr hb))
    exact ⟨m, hs, hL.eq h2⟩
theorem rows_sum : ∀ {zs : Ws}, (∀ z ∈ zs, z.2.length ≤ 1000) → ((zs.map (·.2)).map List.length).sum ≤ 1000 * zs.length
  | [], _ => Nat.le_refl _
  | z :: zs, h => by
    have h1 := rows_sum (zs := zs) fun x hx => h x (List.mem_cons_of_mem _ hx)
    have h2 := h z (List.mem_cons_self ..)
    rw [List.map_cons, List.map_cons, List.sum_cons, List.length_cons]
    omega
end Fw

/-! Lists of whole numbers, compared. -/
namespace Fw
open PySem PySem.Spec PyProof.Rows L2 Lay
theorem dI_eqvD (ns ms : List Int) : PyData.eqv (dI ns) (dI ms) = decide (ns = ms) := by
  rw [← SeqAt.same_eq_eqv _ _ (by unfold dI; simp only [SeqAt.noMix]; exact PySem.W.noMix_ints ns ms)]
  unfold dI
  simp only [PySem.Spec.same]
  exact PySem.W.same_ints ns ms
/-- the two lists of whole numbers that are compared -/
theorem eqL {K : PySem.W.Frag} {H : Hp} {a b : Addr} {ns ms : List Int} {Q : VK} (ha : SqL K H a (ns.map V.int)) (hb : SqL K H b (ms.map V.int)) (q : Q (.bl (decide (ns = ms))) H) : rEqD K (.ref a) (.ref b) H Q :=
  ⟨dI ns, dI ms, dp_row ha, dp_row hb, dI_shaped ns, dI_shaped ms, by rw [dI_eqvD]; exact q⟩
theorem neL {K : PySem.W.Frag} {H : Hp} {a b : Addr} {ns ms : List Int} {Q : VK} (ha : SqL K H a (ns.map V.int)) (hb : SqL K H b (ms.map V.int)) (q : Q (.bl (!decide (ns = ms))) H) : rNeD K (.ref a) (.ref b) H Q :=
  ⟨dI ns, dI ms, dp_row ha, dp_row hb, dI_shaped ns, dI_shaped ms, by rw [dI_eqvD]; exact q⟩
end Fw

/-! The promises of the law's defs. -/
namespace K62
open PySem PySem.Spec PyProof.Rows L2 Fw Lay
def sp_l_cell (K : PySem.W.Frag) : Sp := fun vs H Q _ => ∃ (a : Addr) (ns : List Int) (k : Nat), vs = [.ref a, .int k] ∧ SqL K H a (ns.map V.int) ∧ ∀ c : Int, 0 ≤ c → Q (.int c) H
def sp_l_digits (K : PySem.W.Frag) : Sp := fun vs H Q _ => ∃ (c m : Int) (n : Nat), vs = [.int c, .int n, .int m] ∧ 0 ≤ c ∧ n ≤ 100000 ∧ 0 < m ∧ m < 1073741824 ∧
  ∀ (H2 : Hp) (p : Addr) (ds : List Int), Same H H2 → H p = none → H2 p = some (ilst ds) → ds.length = n → (∀ d ∈ ds, 0 ≤ d ∧ d < m) → Q (.ref p) H2
def sp_l_seed (K : PySem.W.Frag) : Sp := fun vs H Q _ => ∃ (a : Addr) (ns : List Int) (k : Nat), vs = [.ref a, .int k] ∧ SqL K H a (ns.map V.int) ∧ k ≤ 1000 ∧ ∀ (c : Int) (H2 : Hp), 0 ≤ c → Same H H2 → Q (.int c) H2
def sp_l_word (K : PySem.W.Frag) : Sp := fun vs H Q _ => ∃ d : Int, vs = [.int d] ∧ 0 ≤ d ∧ ∀ (H2 : Hp) (x : Str), Same H H2 → NameOk x → Q (.str x) H2
def sp_l_price (K : PySem.W.Frag) : Sp := fun vs H Q _ => ∃ d : Int, vs = [.int d] ∧ 0 ≤ d ∧ ∀ p : Int, 1 ≤ p → Q (.int p) H
def sp_l_open (K : PySem.W.Frag) : Sp := fun vs H Q _ => ∃ (a : Addr) (zs : Ws) (s : Int), vs = [.ref a, .int s] ∧ 0 ≤ s ∧ SqL K H a (refL zs) ∧ LL K H zs ∧ zs.length ≤ 1000 ∧
  ∀ r : Int, ((∃ (n : Nat) (z : Addr × List Int), r = n ∧ zs[n]? = some z ∧ z.2.length < 4) ∨ (r = -1 ∧ ∀ z ∈ zs, 4 ≤ z.2.length)) → Q (.int r) H
def sp_l_block (K : PySem.W.Frag) : Sp := fun vs H Q _ => ∃ (a r : Addr) (H0 : Hp) (zs : Ws) (d : Int) (f : Nat) (ds : List Int), vs = [.ref a, .int d, .ref r, .int (f : Int)] ∧ 0 ≤ d ∧ NxIn H0 H a zs ∧ zs.length ≤ 500 ∧ H0 r = some (ilst ds) ∧ f + 4 ≤ ds.length ∧ (∀ x ∈ ds, 0 ≤ x) ∧
  ∀ (H2 : Hp) (zs2 : Ws) (s : Nat), NxIn H0 H2 a zs2 → BlkR (cts zs) (cts zs2) zs.length s → 1 ≤ s → s ≤ 13 → Q (.int (s : Int)) H2
def sp_l_exit (K : PySem.W.Frag) : Sp := fun vs H Q _ => ∃ (a : Addr) (H0 : Hp) (zs : Ws) (b s : Nat) (d : Int), vs = [.ref a, .int (b : Int), .int (s : Int), .int d] ∧ 0 ≤ d ∧ NxIn H0 H a zs ∧ zs.length ≤ 500 ∧ b + s ≤ zs.length ∧ (∀ z ∈ zs, z.2.length ≤ 4) ∧
  ((∀ (v : Nat) (l : List Int), b ≤ v → v < b + s → (cts zs)[v]? = some l → ∀ t ∈ l, (b : Int) ≤ t ∧ t < (b : Int) + s) → ∃ (v : Nat) (l : List Int), b ≤ v ∧ v < b + s ∧ (cts zs)[v]? = some l ∧ l.length < 4) ∧
  ∀ (H2 : Hp) (zs2 : Ws) (c : Bool), NxIn H0 H2 a zs2 → ExitR (cts zs) (cts zs2) b s → Q (.bl c) H2
def sp_l_numbered (K : PySem.W.Frag) : Sp := fun vs H Q _ => ∃ (a r : Addr) (zs : Ws) (ds : List Int), vs = [.ref a, .ref r] ∧ SqL K H a (refL zs) ∧ LL K H zs ∧ GOk (cts zs) ∧ zs.length ≤ 200 ∧ SqL K H r (ds.map V.int) ∧ ds.length = 3 * zs.length ∧ (∀ x ∈ ds, 0 ≤ x) ∧
  ∀ (H2 : Hp) (p : Addr) (rs : Rx), Same H H2 → H p = none → H2 p = some (.lst (refR rs)) → RwOk H2 rs → RsOk rs → rs.length = zs.length → Q (.ref p) H2
def sp_l_tame (K : PySem.W.Frag) : Sp := fun vs H Q _ => ∃ (c : Int) (B : Nat), vs = [.int c, .int (B : Int)] ∧ 0 ≤ c ∧ B ≤ 10 ∧
  ∀ (H2 : Hp) (p : Addr) (rs : Rx), Same H H2 → H p = none → H2 p = some (.lst (refR rs)) → RwOk H2 rs → RsOk rs → rs.length ≤ 13 * (B + 1) → Q (.ref p) H2
def sp_l_any (K : PySem.W.Frag) : Sp := fun vs H Q _ => ∃ (c : Int) (B : Nat), vs = [.int c, .int (B : Int)] ∧ 0 ≤ c ∧ B ≤ 10 ∧
  ∀ (H2 : Hp) (p : Addr) (rs : Rx), Same H H2 → H p = none → H2 p = some (.lst (refR rs)) → RwOk H2 rs → RsOk rs → rs.length ≤ 13 * (B + 1) → Q (.ref p) H2
def sp_l_is_int (K : PySem.W.Frag) : Sp := fun vs H Q _ => ∃ i : Int, vs = [.int i] ∧ Q (.bl true) H
end K62

/-! Going round covers the ring; sums going round; what a component's kind and cost are. -/
namespace Lay
theorem sub_len : ∀ {l m : List Nat}, l.Nodup → (∀ x ∈ l, x ∈ m) → l.length ≤ m.length
  | [], _, _, _ => Nat.zero_le _
  | x :: l, m, h, hs => by
    have hx := hs x (List.mem_cons_self ..)
    have hn := List.nodup_cons.mp h
    have ih := sub_len (m := m.erase x) hn.2 fun y hy => (List.mem_erase_of_ne fun e => hn.1 (by rw [← e]; exact hy)).mpr (hs y (List.mem_cons_of_mem x hy))
    have := List.length_erase_of_mem hx
    have := List.length_pos_of_mem hx
    rw [List.length_cons]
    omega
theorem sub_all {l m : List Nat} (h : l.Nodup) (hs : ∀ x ∈ l, x ∈ m) (hl : m.length ≤ l.length) : ∀ x ∈ m, x ∈ l := fun x hx => Classical.byContradiction fun hn => by
  have := sub_len (l := x :: l) (m := m) (List.nodup_cons.mpr ⟨hn, h⟩) fun y hy => (List.mem_cons.mp hy).elim (fun e => by rw [e]; exact hx) (hs y)
  rw [List.length_cons] at this
  omega
def orb (g : Nx) (P : List Nat) : Nat → Nat
  | 0 => P.headD 0
  | k + 1 => (inn g P (orb g P k)).headD 0
theorem aro_eq (g : Nx) (P : List Nat) : ∀ k, aro g P k = (List.range (k + 1)).map (orb g P) ∧ (aro g P k).getLastD 0 = orb g P k
  | 0 => ⟨rfl, rfl⟩
  | k + 1 => by
    obtain ⟨h1, h2⟩ := aro_eq g P k
    have e : aro g P (k + 1) = aro g P k ++ [orb g P (k + 1)] := by
      show aro g P k ++ [(inn g P ((aro g P k).getLastD 0)).headD 0] = _
      rw [h2]
      rfl
    refine ⟨?_, ?_⟩
    · rw [e, h1, List.range_succ (n := k + 1), List.map_append]
      rfl
    · rw [e]
      simp
theorem aroP_eq {g : Nx} {P : List Nat} (h : P ≠ []) : aroP g P = (List.range P.length).map (orb g P) := by
  unfold aroP
  rw [(aro_eq g P _).1]
  have : P.length - 1 + 1 = P.length := by
    have := List.length_pos_iff.mpr h
    omega
  rw [this]
theorem aroP_len {g : Nx} {P : List Nat} (h : P ≠ []) : (aroP g P).length = P.length := by
  rw [aroP_eq h, List.length_map, List.length_range]
theorem orb_mem {g : Nx} {P : List Nat} (h : P ≠ []) (hr : ∀ v ∈ P, ∃ u, inn g P v = [u]) : ∀ k, orb g P k ∈ P
  | 0 => by
    obtain ⟨x, t, rfl⟩ := List.exists_cons_of_ne_nil h
    exact List.mem_cons_self ..
  | k + 1 => by
    obtain ⟨u, hu⟩ := hr _ (orb_mem h hr k)
    have : u ∈ inn g P (orb g P k) := by rw [hu]; exact List.mem_singleton.mpr rfl
    show (inn g P (orb g P k)).headD 0 ∈ P
    rw [hu]
    exact (inn_mem.mp this).1
theorem orb_per {g : Nx} {P : List Nat} {a b : Nat} (e : orb g P a = orb g P b) : ∀ m, orb g P (a + m) = orb g P (b + m)
  | 0 => e
  | m + 1 => by
    show (inn g P (orb g P (a + m))).headD 0 = (inn g P (orb g P (b + m))).headD 0
    rw [orb_per e m]
theorem orb_back {g : Nx} {P : List Nat} {a b : Nat} (hab : a < b) (e : orb g P a = orb g P b) : ∀ j, ∃ i, i < b ∧ orb g P j = orb g P i := fun j => by
  induction j using Nat.strongRecOn with
  | _ j ih =>
    by_cases h : j < b
    · exact ⟨j, h, rfl⟩
    · obtain ⟨i, h1, h2⟩ := ih (j - (b - a)) (by omega)
      refine ⟨i, h1, ?_⟩
      rw [← h2]
      have := orb_per e (j - b)
      have e1 : b + (j - b) = j := by omega
      have e2 : a + (j - b) = j - (b - a) := by omega
      rw [e1, e2] at this
      exact this.symm
theorem ClP.orb_all {g : Nx} {P : List Nat} (h : ClP g P) (hE : ∀ u v, Ed g u v → v < g.length) (hr : ∀ v ∈ P, ∃ u, inn g P v = [u]) : ∀ v ∈ P, ∃ j, v = orb g P j := fun v hv => by
  have key : ∀ x v, To g x v → v ∈ P → x ∈ P → (∃ i, x = orb g P i) → ∃ j, v = orb g P j := fun x v t => by
    induction t with
    | refl => exact fun _ _ h => h
    | @head x w v e t ih =>
      rintro hv hx ⟨i, hi⟩
      have hm : Mt g x v := (h.mt x v hx (h.lt v hv)).mp hv
      have hw : w ∈ P := (h.mt x w hx (hE _ _ e)).mpr ⟨.one e, t.trans hm.2⟩
      refine ih hv hw ⟨i + 1, ?_⟩
      obtain ⟨u, hu⟩ := hr x hx
      have hwi : w ∈ inn g P x := inn_mem.mpr ⟨hw, e⟩
      show w = (inn g P (orb g P i)).headD 0
      rw [← hi, hu]
      rw [hu] at hwi
      exact List.mem_singleton.mp hwi
  have h0 := orb_mem h.ne hr 0
  exact key _ _ ((h.mt _ v h0 (h.lt v hv)).mp hv).1 hv h0 ⟨0, rfl⟩
theorem ClP.aro {g : Nx} {P : List Nat} (h : ClP g P) (hE : ∀ u v, Ed g u v → v < g.length) (hk : knd g P = 1) : (aroP g P).Nodup ∧ ∀ v, v ∈ aroP g P ↔ v ∈ P := by
  have hr := h.ring hE hk
  have hnd : (aroP g P).Nodup := by
    rw [aroP_eq h.ne]
    refine List.pairwise_map.mpr (List.Pairwise.imp_of_mem (fun {a b} ha hb hlt e => ?_) List.pairwise_lt_range)
    have hbl := List.mem_range.mp hb
    have := sub_len (l := P) (m := (List.range b).map (orb g P)) h.nd fun v hv => by
      obtain ⟨j, rfl⟩ := h.orb_all hE hr v hv
      obtain ⟨i, hi, e2⟩ := orb_back hlt e j
      exact List.mem_map.mpr ⟨i, List.mem_range.mpr hi, e2.symm⟩
    rw [List.length_map, List.length_range] at this
    omega
  have hsub : ∀ v ∈ aroP g P, v ∈ P := fun v hv => by
    rw [aroP_eq h.ne] at hv
    obtain ⟨k, _, rfl⟩ := List.mem_map.mp hv
    exact orb_mem h.ne hr k
  exact ⟨hnd, fun v => ⟨hsub v, sub_all hnd hsub (by rw [aroP_len h.ne]; exact Nat.le_refl _) v⟩⟩
/-! ### sums going round -/
theorem cyc_succ (pr : List Int) (s d : Nat) : cyc pr s (d + 1) = cyc pr s d + pr.getD ((s + d) % pr.length) 0 := by
  unfold cyc
  rw [List.range_succ, List.map_append, List.sum_append]
  simp
theorem cyc_add (pr : List Int) (s a : Nat) : ∀ b, cyc pr s (a + b) = cyc pr s a + cyc pr (s + a) b
  | 0 => by
    show cyc pr s a = cyc pr s a + cyc pr (s + a) 0
    have : cyc pr (s + a) 0 = 0 := rfl
    omega
  | b + 1 => by
    rw [← Nat.add_assoc, cyc_succ, cyc_add pr s a b, cyc_succ, Nat.add_assoc s a b]
    omega
theorem cyc_mod (pr : List Int) (s d : Nat) : cyc pr (s % pr.length) d = cyc pr s d := by
  unfold cyc
  refine congrArg List.sum (List.map_congr_left fun i _ => ?_)
  rw [Nat.mod_add_mod]
theorem take_one {pr : List Int} {j : Nat} (h : j < pr.length) : (pr.take (j + 1)).sum = (pr.take j).sum + pr.getD j 0 := by
  rw [List.take_add_one, List.sum_append, List.getD_eq_getElem?_getD, List.getElem?_eq_getElem h]
  simp
theorem cyc_up {pr : List Int} {s : Nat} : ∀ d, s + d ≤ pr.length → cyc pr s d = (pr.take (s + d)).sum - (pr.take s).sum
  | 0, _ => by
    show (0 : Int) = _
    rw [Nat.add_zero]
    omega
  | d + 1, h => by
    rw [cyc_succ, cyc_up d (by omega), ← Nat.add_assoc, take_one (by omega), Nat.mod_eq_of_lt (by omega)]
    omega
theorem cyc_far {pr : List Int} {i j : Nat} (hi : i < pr.length) (hj : j < pr.length) : cyc pr i ((j + pr.length - i) % pr.length) = if i ≤ j then (pr.take j).sum - (pr.take i).sum else pr.sum - (pr.take i).sum + (pr.take j).sum := by
  by_cases h : i ≤ j
  · rw [if_pos h]
    have e : (j + pr.length - i) % pr.length = j - i := by
      have : j + pr.length - i = (j - i) + pr.length := by omega
      rw [this, Nat.add_mod_right, Nat.mod_eq_of_lt (by omega)]
    rw [e, cyc_up _ (by omega)]
    have : i + (j - i) = j := by omega
    rw [this]
  · rw [if_neg h]
    have e : (j + pr.length - i) % pr.length = (pr.length - i) + j := by
      rw [Nat.mod_eq_of_lt (by omega)]
      omega
    rw [e, cyc_add, cyc_up _ (by omega)]
    have e1 : i + (pr.length - i) = pr.length := by omega
    rw [e1, List.take_length]
    have e2 : cyc pr pr.length j = cyc pr 0 j := by
      rw [← cyc_mod, Nat.mod_self]
    rw [e2, cyc_up _ (by omega)]
    show pr.sum - (pr.take i).sum + ((pr.take (0 + j)).sum - (pr.take 0).sum) = _
    rw [Nat.zero_add]
    show pr.sum - (pr.take i).sum + ((pr.take j).sum - 0) = _
    omega
/-- the path into a set of nodes -/
theorem To.enter {g : Nx} {P : List Nat} {u v : Nat} (t : To g u v) : u ∉ P → v ∈ P → ∃ x y, Ed g x y ∧ x ∉ P ∧ y ∈ P := by
  induction t with
  | refl => exact fun h1 h2 => absurd h2 h1
  | @head u w v e t ih =>
    intro h1 h2
    by_cases hw : w ∈ P
    · exact ⟨u, w, e, h1, hw⟩
    · exact ih hw h2
theorem Ed.lt {g : Nx} (hg : GOk g) {u v : Nat} (h : Ed g u v) : u < g.length ∧ v < g.length := by
  obtain ⟨l, h1, h2⟩ := h
  refine ⟨(List.getElem?_eq_some_iff.mp h1).1, ?_⟩
  have := (hg.rows l (List.mem_of_getElem? h1)).2.2 v h2
  omega
theorem drs_mem {g : Nx} {A : List Nat} {p : Nat} : p ∈ drs g A ↔ p < A.length ∧ isDoor g A (A.getD p 0) := by
  unfold drs
  rw [List.mem_filter, List.mem_range, @decide_eq_true_iff _ (Classical.propDecidable _)]
theorem drs_asc (g : Nx) (A : List Nat) : (drs g A).Pairwise (· < ·) := (List.pairwise_lt_range (n := A.length)).sublist List.filter_sublist
theorem ClP.drs_ne {g : Nx} {P : List Nat} (hg : GOk g) (h : ClP g P) (hk : knd g P = 1) : drs g (aroP g P) ≠ [] := by
  obtain ⟨hnd, hm⟩ := h.aro (fun u v e => (e.lt hg).2) hk
  have hgo : ∃ v ∈ P, isDoor g (aroP g P) v := by
    by_cases h0 : 0 ∈ P
    · exact ⟨0, h0, .inl rfl⟩
    · obtain ⟨x, t, e⟩ := List.exists_cons_of_ne_nil h.ne
      have hx : x ∈ P := by rw [e]; exact List.mem_cons_self ..
      obtain ⟨a, b, h1, h2, h3⟩ := (To.of_rc (hg.reach x (h.lt x hx))).enter h0 hx
      exact ⟨b, h3, .inr ⟨a, fun h4 => h2 ((hm a).mp h4), h1⟩⟩
  obtain ⟨v, hv, hd⟩ := hgo
  obtain ⟨p, hp, e⟩ := List.mem_iff_getElem.mp ((hm v).mpr hv)
  have : p ∈ drs g (aroP g P) := drs_mem.mpr ⟨hp, by rw [List.getD_eq_getElem?_getD, List.getElem?_eq_getElem hp, e]; exact hd⟩
  exact fun e => by rw [e] at this; cases this
end Lay

/-! The promises of the ring defs, of worth and of the changes. -/
namespace K62
open PySem PySem.Spec PyProof.Rows L2 Fw Lay
/-- a ring stands at r: prices, doors, nodes -/
def RingAt (K : PySem.W.Frag) (H : Hp) (r : Addr) (pr : List Int) (D A : List Nat) : Prop := ∃ dx pa da na sa, H r = some (.ins (He.ga K "Ring") dx [("size", .int pr.length), ("prices", .ref pa), ("doors", .ref da), ("nodes", .ref na), ("_sums", .ref sa)]) ∧
  H pa = some (itup pr) ∧ H da = some (itup (nmap D)) ∧ H na = some (itup (nmap A)) ∧ H sa = some (itup (sumsL pr))
theorem RingAt.same {K : PySem.W.Frag} {H H2 : Hp} {r : Addr} {pr : List Int} {D A : List Nat} (h : RingAt K H r pr D A) (s : Same H H2) : RingAt K H2 r pr D A := by
  obtain ⟨dx, pa, da, na, sa, h1, h2, h3, h4, h5⟩ := h
  exact ⟨dx, pa, da, na, sa, s _ _ h1, s _ _ h2, s _ _ h3, s _ _ h4, s _ _ h5⟩
/-- the set of doors that is meant -/
def Chs (H : Hp) (x : V) (ds D : List Nat) : Prop := (x = .non ∧ D = ds) ∨ ∃ b, x = .ref b ∧ H b = some (itup (nmap D))
def PrN (pr : List Int) : Prop := 0 < pr.length ∧ pr.length ≤ 1000 ∧ ∀ x ∈ pr, 1 ≤ x
def DsN (n : Nat) (D : List Nat) : Prop := D ≠ [] ∧ D.length ≤ 1000 ∧ ∀ d ∈ D, d < n
def kindS (k : Nat) : Str := if k = 0 then "single" else if k = 1 then "ring" else "wild"
/-- the index of the component of each node -/
def CoOk (g : Nx) (bs : List Nat) (ds : List Int) : Prop := ds.length = g.length ∧ ∀ (j b v : Nat), bs[j]? = some b → v < g.length → Mt g b v → ds[v]? = some (j : Int)
def EntOk (g : Nx) (es : List Bool) : Prop := es.length = g.length ∧ ∀ v : Nat, v < g.length → ∃ c, es[v]? = some c ∧ (c = true ↔ v = 0 ∨ ∃ u, Ed g u v ∧ ¬ Mt g u v)
noncomputable def RgAt (K : PySem.W.Frag) (H : Hp) (r : Addr) (g : Nx) (pr : List Int) (P : List Nat) : Prop := RingAt K H r (prA pr (aroP g P)) (drs g (aroP g P)) (aroP g P)
def sp_internal (K : PySem.W.Frag) : Sp := fun vs H Q _ => ∃ (g a : Addr) (rs : Rx) (P : List Nat) (v : Nat), vs = [.ref g, .ref a, .int (v : Int)] ∧ GrAt K H g rs ∧ SqL K H a ((nmap P).map V.int) ∧ P.Pairwise (· < ·) ∧ v < rs.length ∧ (∀ l ∈ sxr rs, l.length ≤ 4) ∧
  ∀ (H2 : Hp) (p : Addr), Same H H2 → H p = none → H2 p = some (ilst (nmap (inn (sxr rs) P v))) → Q (.ref p) H2
def sp_kind_of (K : PySem.W.Frag) : Sp := fun vs H Q _ => ∃ (g a : Addr) (rs : Rx) (P : List Nat), vs = [.ref g, .ref a] ∧ GrAt K H g rs ∧ SqL K H a ((nmap P).map V.int) ∧ P.Pairwise (· < ·) ∧ P ≠ [] ∧ P.length ≤ 1000 ∧ (∀ v ∈ P, v < rs.length) ∧ (∀ l ∈ sxr rs, l.length ≤ 4) ∧
  ∀ H2 : Hp, Same H H2 → Q (.str (kindS (knd (sxr rs) P))) H2
def sp_kinds (K : PySem.W.Frag) : Sp := fun vs H Q _ => ∃ (g : Addr) (rs : Rx), vs = [.ref g] ∧ GrAt K H g rs ∧ RsOk rs ∧ rs.length < 64 ∧
  ∀ (H2 : Hp) (p : Addr) (bs : List Nat), Same H H2 → H p = none → H2 p = some (.lst (bs.map fun b => V.str (kindS (knd (sxr rs) (cls (sxr rs) b))))) → COrd (sxr rs) bs → Q (.ref p) H2
def sp_component_of (K : PySem.W.Frag) : Sp := fun vs H Q _ => ∃ (g : Addr) (rs : Rx), vs = [.ref g] ∧ GrAt K H g rs ∧ RsOk rs ∧ rs.length < 64 ∧
  ∀ (H2 : Hp) (p : Addr) (bs : List Nat) (ds : List Int), Same H H2 → H p = none → H2 p = some (ilst ds) → COrd (sxr rs) bs → CoOk (sxr rs) bs ds → Q (.ref p) H2
def sp_entered_nodes (K : PySem.W.Frag) : Sp := fun vs H Q _ => ∃ (g : Addr) (rs : Rx), vs = [.ref g] ∧ GrAt K H g rs ∧ RsOk rs ∧ rs.length < 64 ∧
  ∀ (H2 : Hp) (p : Addr) (es : List Bool), Same H H2 → H p = none → H2 p = some (.lst (es.map V.bl)) → EntOk (sxr rs) es → Q (.ref p) H2
def sp_check_ring (K : PySem.W.Frag) : Sp := fun vs H Q _ => ∃ (a b c : Addr) (pr : List Int) (D A : List Nat), vs = [.ref a, .ref b, .ref c] ∧ SqL K H a (pr.map V.int) ∧ SqL K H b ((nmap D).map V.int) ∧ SqL K H c ((nmap A).map V.int) ∧ PrN pr ∧ DsN pr.length D ∧ D.Pairwise (· < ·) ∧ A.length = pr.length ∧ Q .non H
def sp_sums_of (K : PySem.W.Frag) : Sp := fun vs H Q _ => ∃ (a : Addr) (pr : List Int), vs = [.ref a] ∧ SqL K H a (pr.map V.int) ∧ pr.length ≤ 1000 ∧
  ∀ (H2 : Hp) (p : Addr), Same H H2 → H p = none → H2 p = some (itup (sumsL pr)) → Q (.ref p) H2
def sp_Ring_init (K : PySem.W.Frag) : Sp := fun vs H Q _ => ∃ (r dx a b c : Addr) (pr : List Int) (D A : List Nat), vs = [.ref r, .ref a, .ref b, .ref c] ∧ H r = some (.ins (He.ga K "Ring") dx []) ∧ SqL K H a (pr.map V.int) ∧ SqL K H b ((nmap D).map V.int) ∧ SqL K H c ((nmap A).map V.int) ∧ PrN pr ∧ DsN pr.length D ∧ D.Pairwise (· < ·) ∧ A.length = pr.length ∧
  ∀ H2 : Hp, (∀ c o, c ≠ r → H c = some o → H2 c = some o) → RingAt K H2 r pr D A → Q .non H2
def sp_Ring_whole (K : PySem.W.Frag) : Sp := fun vs H Q _ => ∃ (r : Addr) (pr : List Int) (D A : List Nat), vs = [.ref r] ∧ RingAt K H r pr D A ∧ Q (.int pr.sum) H
def sp_Ring_far (K : PySem.W.Frag) : Sp := fun vs H Q _ => ∃ (r : Addr) (pr : List Int) (D A : List Nat) (i j : Nat), vs = [.ref r, .int (i : Int), .int (j : Int)] ∧ RingAt K H r pr D A ∧ i < pr.length ∧ j < pr.length ∧ Q (.int (cyc pr i ((j + pr.length - i) % pr.length))) H
def sp_Ring_chosen (K : PySem.W.Frag) : Sp := fun vs H Q _ => ∃ (r : Addr) (x : V) (pr : List Int) (ds A D : List Nat), vs = [.ref r, x] ∧ RingAt K H r pr ds A ∧ Chs H x ds D ∧ ∀ b, H b = some (itup (nmap D)) → Q (.ref b) H
def sp_Ring_gap (K : PySem.W.Frag) : Sp := fun vs H Q _ => ∃ (r b : Addr) (pr : List Int) (ds A D : List Nat) (k : Nat), vs = [.ref r, .ref b, .int (k : Int)] ∧ RingAt K H r pr ds A ∧ H b = some (itup (nmap D)) ∧ DsN pr.length D ∧ k < D.length ∧ Q (.int (gapP pr D k)) H
def sp_Ring_greatest_gap (K : PySem.W.Frag) : Sp := fun vs H Q _ => ∃ (r : Addr) (x : V) (pr : List Int) (ds A D : List Nat), vs = [.ref r, x] ∧ RingAt K H r pr ds A ∧ Chs H x ds D ∧ DsN pr.length D ∧ ∀ H2 : Hp, Same H H2 → Q (.int (mxI ((List.range D.length).map (gapP pr D)))) H2
def sp_Ring_cost (K : PySem.W.Frag) : Sp := fun vs H Q _ => ∃ (r : Addr) (x : V) (pr : List Int) (ds A D : List Nat), vs = [.ref r, x] ∧ RingAt K H r pr ds A ∧ Chs H x ds D ∧ DsN pr.length D ∧ ∀ H2 : Hp, Same H H2 → Q (.int (costP pr D)) H2
def sp_made_ring (K : PySem.W.Frag) : Sp := fun vs H Q _ => ∃ (g a e : Addr) (rs : Rx) (P : List Nat) (es : List Bool), vs = [.ref g, .ref a, .ref e] ∧ GrAt K H g rs ∧ RsOk rs ∧ SqL K H a ((nmap P).map V.int) ∧ ClP (sxr rs) P ∧ knd (sxr rs) P = 1 ∧ SqL K H e (es.map V.bl) ∧ EntOk (sxr rs) es ∧
  ∀ (H2 : Hp) (r : Addr), Same H H2 → H r = none → RgAt K H2 r (sxr rs) (pxr rs) P → Q (.ref r) H2
/-- a ring or None for each component -/
def TabOk (K : PySem.W.Frag) (H : Hp) (rs : Rx) (bs : List Nat) (xs : List V) : Prop := xs.length = bs.length ∧ ∀ (j b : Nat), bs[j]? = some b → (knd (sxr rs) (cls (sxr rs) b) = 1 ∧ ∃ r, xs[j]? = some (.ref r) ∧ RgAt K H r (sxr rs) (pxr rs) (cls (sxr rs) b)) ∨ (knd (sxr rs) (cls (sxr rs) b) ≠ 1 ∧ xs[j]? = some .non)
def sp_ring_table (K : PySem.W.Frag) : Sp := fun vs H Q _ => ∃ (g : Addr) (rs : Rx), vs = [.ref g] ∧ GrAt K H g rs ∧ RsOk rs ∧ rs.length < 64 ∧
  ∀ (H2 : Hp) (p : Addr) (bs : List Nat) (xs : List V), Same H H2 → H p = none → H2 p = some (.lst xs) → COrd (sxr rs) bs → TabOk K H2 rs bs xs → Q (.ref p) H2
def sp_rings (K : PySem.W.Frag) : Sp := fun vs H Q _ => ∃ (g : Addr) (rs : Rx), vs = [.ref g] ∧ GrAt K H g rs ∧ RsOk rs ∧ rs.length < 64 ∧
  ∀ (H2 : Hp) (p : Addr) (bs : List Nat) (zs : List (Addr × Nat)), Same H H2 → H p = none → H2 p = some (.lst (zs.map fun z => V.ref z.1)) → COrd (sxr rs) bs → zs.map (·.2) = bs.filter (fun b => decide (knd (sxr rs) (cls (sxr rs) b) = 1)) → (∀ z ∈ zs, RgAt K H2 z.1 (sxr rs) (pxr rs) (cls (sxr rs) z.2)) → Q (.ref p) H2
def Wld (g : Nx) (bs : List Nat) : Prop := ∃ b ∈ bs, 2 ≤ knd g (cls g b)
noncomputable def tot (g : Nx) (pr : List Int) (bs : List Nat) : Int := (bs.map fun b => cst g pr (cls g b)).sum
/-- what worth tells -/
noncomputable def wor (g : Nx) (pr : List Int) (bs : List Nat) : Int := @ite _ (Wld g bs) (Classical.propDecidable _) (-1) (tot g pr bs)
def WorV (x : V) (w : Int) : Prop := (w < 0 ∧ x = .non) ∨ (0 ≤ w ∧ x = .int w)
def sp_worth (K : PySem.W.Frag) : Sp := fun vs H Q _ => ∃ (g : Addr) (rs : Rx), vs = [.ref g] ∧ GrAt K H g rs ∧ RsOk rs ∧ rs.length < 64 ∧
  ∀ (H2 : Hp) (x : V) (bs : List Nat), Same H H2 → COrd (sxr rs) bs → WorV x (wor (sxr rs) (pxr rs) bs) → Q x H2
/-! ### changes -/
def sp_with_row (K : PySem.W.Frag) : Sp := fun vs H Q _ => ∃ (g : Addr) (rs : Rx) (i : Nat) (q : Addr × Addr × Rw), vs = [.ref g, .int (i : Int), .ref q.1] ∧ GrAt K H g rs ∧ i < rs.length ∧ RwOk H [q] ∧ RsOk (rs.set i q) ∧
  ∀ (H2 : Hp) (h : Addr) (rs2 : Rx), Same H H2 → H h = none → GrAt K H2 h rs2 → rs2.map (·.2.2) = (rs.set i q).map (·.2.2) → Q (.ref h) H2
def sp_with_price (K : PySem.W.Frag) : Sp := fun vs H Q _ => ∃ (g : Addr) (rs : Rx) (i : Nat) (q : Addr × Addr × Rw) (x : Int), vs = [.ref g, .int (i : Int), .int x] ∧ GrAt K H g rs ∧ RsOk rs ∧ rs[i]? = some q ∧ 1 ≤ x ∧
  ∀ (H2 : Hp) (h : Addr) (rs2 : Rx), Same H H2 → H h = none → GrAt K H2 h rs2 → rs2.map (·.2.2) = (rs.map (·.2.2)).set i (q.2.2.1, x, q.2.2.2.2) → Q (.ref h) H2
def sp_with_successor (K : PySem.W.Frag) : Sp := fun vs H Q _ => ∃ (g : Addr) (rs : Rx) (i : Nat) (q : Addr × Addr × Rw) (x : Int), vs = [.ref g, .int (i : Int), .int x] ∧ GrAt K H g rs ∧ RsOk rs ∧ rs[i]? = some q ∧ q.2.2.2.2.length < 4 ∧ (x = -1 ∨ (0 ≤ x ∧ x < (rs.length : Int))) ∧
  ∀ (H2 : Hp) (h : Addr) (rs2 : Rx), Same H H2 → H h = none → GrAt K H2 h rs2 → rs2.map (·.2.2) = (rs.map (·.2.2)).set i (q.2.2.1, q.2.2.2.1, q.2.2.2.2 ++ [x]) → Q (.ref h) H2
end K62

/-! The drawn graph is a graph: each node is reached, each leads to the end. -/
namespace Lay
theorem Rc.mono {g g2 : Nx} {S : Nat → Prop} (hg : ∀ (v u : Nat) (l : List Int), g[v]? = some l → (u : Int) ∈ l → ∃ l2, g2[v]? = some l2 ∧ (u : Int) ∈ l2) {v : Nat} (h : Rc g S v) : Rc g2 S v := by
  induction h with
  | base h => exact .base h
  | step _ h1 h2 ih =>
    obtain ⟨l2, h3, h4⟩ := hg _ _ _ h1 h2
    exact .step ih h3 h4
theorem Ld.mono {g g2 : Nx} (hg : ∀ (v : Nat) (l : List Int) (t : Int), g[v]? = some l → t ∈ l → ∃ l2, g2[v]? = some l2 ∧ t ∈ l2) {v : Nat} (h : Ld g v) : Ld g2 v := by
  induction h with
  | fin h1 h2 =>
    obtain ⟨l2, h3, h4⟩ := hg _ _ _ h1 h2
    exact .fin h3 h4
  | step h1 h2 _ ih =>
    obtain ⟨l2, h3, h4⟩ := hg _ _ _ h1 h2
    exact .step h3 h4 ih
/-- one more target at a node -/
theorem set_grow {g : Nx} {v : Nat} {l : List Int} {x : Int} (h : g[v]? = some l) (w : Nat) (m : List Int) (hm : g[w]? = some m) : ∃ m2, (g.set v (l ++ [x]))[w]? = some m2 ∧ ∀ t ∈ m, t ∈ m2 := by
  have hv := (List.getElem?_eq_some_iff.mp h).1
  rw [List.getElem?_set]
  by_cases e : v = w
  · subst e
    rw [if_pos rfl, if_pos hv]
    rw [h] at hm
    rw [← Option.some.inj hm]
    exact ⟨_, rfl, fun t ht => List.mem_append_left _ ht⟩
  · rw [if_neg e]
    exact ⟨m, hm, fun t ht => ht⟩
structure BI (g : Nx) (b s : Nat) : Prop where
  s1 : 1 ≤ s
  nodes : ∀ p, p < s → ∃ i more : List Int, g[b + p]? = some (i ++ more) ∧ i.length ≤ 1 ∧ (1 < s → i = [((b + (p + 1) % s : Nat) : Int)]) ∧ (∀ t ∈ i, (b : Int) ≤ t ∧ t < (b : Int) + s) ∧ ∀ t ∈ more, t = -1 ∨ (b : Int) + s ≤ t
structure TI (g : Nx) (ss : List Nat) : Prop where
  len : g.length = ss.sum
  rng : ∀ l ∈ g, l.length ≤ 4 ∧ ∀ t ∈ l, t = -1 ∨ (0 ≤ t ∧ t < (g.length : Int))
  blk : ∀ (j s : Nat), ss[j]? = some s → BI g (ss.take j).sum s
  rch : ∀ v, v < g.length → Rc g (fun s => s = 0) v
theorem take_sum_le {ss : List Nat} {j s : Nat} (h : ss[j]? = some s) : (ss.take j).sum + s ≤ ss.sum := by
  have e : ss.take (j + 1) = ss.take j ++ [s] := by rw [List.take_add_one, h]; rfl
  have h1 : (ss.take (j + 1)).sum + (ss.drop (j + 1)).sum = ss.sum := by
    rw [← List.sum_append, List.take_append_drop]
  rw [e, List.sum_append] at h1
  simp at h1
  omega
theorem ring_rc {g : Nx} {S : Nat → Prop} {b s : Nat} (h : ∀ p, p < s → ∃ l, g[b + p]? = some l ∧ (1 < s → ((b + (p + 1) % s : Nat) : Int) ∈ l)) (hs : 1 < s) {p : Nat} (hp : p < s) (hr : Rc g S (b + p)) : ∀ k, Rc g S (b + (p + k) % s)
  | 0 => by rw [Nat.add_zero, Nat.mod_eq_of_lt hp]; exact hr
  | k + 1 => by
    have ih := ring_rc h hs hp hr k
    have hlt : (p + k) % s < s := Nat.mod_lt _ (by omega)
    obtain ⟨l, h1, h2⟩ := h _ hlt
    have e : ((p + k) % s + 1) % s = (p + (k + 1)) % s := by
      rw [Nat.mod_add_mod]
      rfl
    have h3 := h2 hs
    rw [e] at h3
    exact .step ih h1 h3
theorem ring_all {g : Nx} {S : Nat → Prop} {b s : Nat} (h : ∀ p, p < s → ∃ l, g[b + p]? = some l ∧ (1 < s → ((b + (p + 1) % s : Nat) : Int) ∈ l)) {p : Nat} (hp : p < s) (hr : Rc g S (b + p)) (q : Nat) (hq : q < s) : Rc g S (b + q) := by
  by_cases hs : 1 < s
  · have h1 := ring_rc h hs hp hr (q + s - p)
    have e : (p + (q + s - p)) % s = q := by
      have e2 : p + (q + s - p) = q + s := by omega
      rw [e2, Nat.add_mod_right, Nat.mod_eq_of_lt hq]
    rw [e] at h1
    exact h1
  · have e : q = p := by omega
    rw [e]
    exact hr
theorem ring_ld {g : Nx} {b s : Nat} (h : ∀ p, p < s → ∃ l, g[b + p]? = some l ∧ (1 < s → ((b + (p + 1) % s : Nat) : Int) ∈ l)) (hs : 1 < s) {q : Nat} (hl : Ld g (b + q)) : ∀ (k p : Nat), p < s → (p + k) % s = q → Ld g (b + p)
  | 0, p, hp, e => by
    rw [Nat.add_zero, Nat.mod_eq_of_lt hp] at e
    rw [e]
    exact hl
  | k + 1, p, hp, e => by
    obtain ⟨l, h1, h2⟩ := h p hp
    refine .step h1 (h2 hs) (ring_ld h hs hl k _ (Nat.mod_lt _ (by omega)) ?_)
    rw [Nat.mod_add_mod, ← e]
    congr 1
    omega
theorem ring_lds {g : Nx} {b s : Nat} (h : ∀ p, p < s → ∃ l, g[b + p]? = some l ∧ (1 < s → ((b + (p + 1) % s : Nat) : Int) ∈ l)) {q : Nat} (hq : q < s) (hl : Ld g (b + q)) (p : Nat) (hp : p < s) : Ld g (b + p) := by
  by_cases hs : 1 < s
  · refine ring_ld h hs hl (q + s - p) p hp ?_
    have e2 : p + (q + s - p) = q + s := by omega
    rw [e2, Nat.add_mod_right, Nat.mod_eq_of_lt hq]
  · have e : p = q := by omega
    rw [e]
    exact hl
theorem BI.ring {g : Nx} {b s : Nat} (h : BI g b s) : ∀ p, p < s → ∃ l, g[b + p]? = some l ∧ (1 < s → ((b + (p + 1) % s : Nat) : Int) ∈ l) := fun p hp => by
  obtain ⟨i, more, h1, _, h3, _, _⟩ := h.nodes p hp
  exact ⟨_, h1, fun hs => List.mem_append_left _ (by rw [h3 hs]; exact List.mem_singleton.mpr rfl)⟩
theorem TI.nil : TI [] [] := ⟨rfl, fun l hl => (nomatch hl), fun j s h => by simp at h, fun v hv => absurd hv (Nat.not_lt_zero _)⟩
/-- a block more -/
theorem TI.block {g g2 : Nx} {ss : List Nat} {s : Nat} (h : TI g ss) (hB : BlkR g g2 g.length s) (hs : 1 ≤ s) (hf : 0 < g.length → ∃ l ∈ g, l.length < 4) : TI g2 (ss ++ [s]) ∧ ∃ l ∈ g2, l.length < 4 := by
  have hgrow : ∀ (v : Nat) (l : List Int), g[v]? = some l → ∃ l2, g2[v]? = some l2 ∧ ∀ t ∈ l, t ∈ l2 := fun v l hv => by
    obtain ⟨more, h1, _⟩ := hB.old v l hv
    exact ⟨_, h1, fun t ht => List.mem_append_left _ ht⟩
  have hlen : g2.length = (ss ++ [s]).sum := by
    rw [hB.len, h.len, List.sum_append]
    simp
  have hring : ∀ p, p < s → ∃ l, g2[g.length + p]? = some l ∧ (1 < s → ((g.length + (p + 1) % s : Nat) : Int) ∈ l) := fun p hp => by
    obtain ⟨l, h1, h2, _⟩ := hB.ring p hp
    exact ⟨l, h1, fun hs => by rw [h2 hs]; exact List.mem_singleton.mpr rfl⟩
  have hnew : ∀ p, p < s → ∃ l, g2[g.length + p]? = some l ∧ l.length ≤ 1 ∧ ∀ t ∈ l, (g.length : Int) ≤ t ∧ t < (g.length : Int) + s := fun p hp => by
    obtain ⟨l, h1, h2, h3⟩ := hB.ring p hp
    by_cases hs1 : 1 < s
    · have := Nat.mod_lt (p + 1) (show 0 < s by omega)
      refine ⟨l, h1, by rw [h2 hs1]; exact Nat.le_refl _, fun t ht => ?_⟩
      rw [h2 hs1] at ht
      rw [List.mem_singleton.mp ht]
      omega
    · rcases h3 (by omega) with e | e
      · exact ⟨l, h1, by rw [e]; exact Nat.zero_le _, fun t ht => by rw [e] at ht; cases ht⟩
      · refine ⟨l, h1, by rw [e]; exact Nat.le_refl _, fun t ht => ?_⟩
        rw [e] at ht
        rw [List.mem_singleton.mp ht]
        omega
  refine ⟨⟨hlen, fun l hl => ?_, fun j s' hj => ?_, fun v hv => ?_⟩, ?_⟩
  · obtain ⟨v, hv, e⟩ := List.mem_iff_getElem.mp hl
    have hl2 := hB.len
    by_cases hvn : v < g.length
    · have hg : g[v]? = some g[v] := List.getElem?_eq_getElem hvn
      have hgm := List.getElem_mem hvn
      obtain ⟨more, h1, h2, h3⟩ := hB.old v _ hg
      rw [List.getElem?_eq_getElem hv, e] at h1
      have h4 := Option.some.inj h1
      obtain ⟨h5, h6⟩ := h.rng _ hgm
      rw [h4]
      refine ⟨h3 h5, fun t ht => ?_⟩
      rcases List.mem_append.mp ht with ht | ht
      · rcases h6 t ht with h7 | h7
        · exact .inl h7
        · exact .inr (by omega)
      · have := h2 t ht
        exact .inr (by omega)
    · obtain ⟨l2, h1, h2, h3⟩ := hnew (v - g.length) (by omega)
      rw [show g.length + (v - g.length) = v by omega, List.getElem?_eq_getElem hv, e] at h1
      rw [Option.some.inj h1]
      refine ⟨by omega, fun t ht => .inr ?_⟩
      have := h3 t ht
      omega
  · by_cases hjl : j < ss.length
    · rw [List.getElem?_append_left hjl] at hj
      rw [List.take_append_of_le_length (by omega)]
      have hb := h.blk j s' hj
      have hle := take_sum_le hj
      refine ⟨hb.s1, fun p hp => ?_⟩
      obtain ⟨i, more, h1, h2, h3, h4, h5⟩ := hb.nodes p hp
      obtain ⟨more2, h6, h7, _⟩ := hB.old _ _ h1
      refine ⟨i, more ++ more2, by rw [← List.append_assoc]; exact h6, h2, h3, h4, fun t ht => ?_⟩
      rcases List.mem_append.mp ht with ht | ht
      · exact h5 t ht
      · have := h7 t ht
        have := h.len
        exact .inr (by omega)
    · have hjl2 : j < (ss ++ [s]).length := (List.getElem?_eq_some_iff.mp hj).1
      rw [List.length_append] at hjl2
      have ej : j = ss.length := by
        have : j < ss.length + 1 := hjl2
        omega
      subst ej
      rw [List.getElem?_concat_length] at hj
      rw [← Option.some.inj hj, List.take_left, ← h.len]
      refine ⟨hs, fun p hp => ?_⟩
      obtain ⟨l, h1, h2, h3⟩ := hB.ring p hp
      obtain ⟨l', h1', h4, h5⟩ := hnew p hp
      rw [h1] at h1'
      rw [← Option.some.inj h1'] at h4 h5
      exact ⟨l, [], by rw [List.append_nil]; exact h1, h4, h2, h5, fun t ht => (nomatch ht)⟩
  · have hold : ∀ v, v < g.length → Rc g2 (fun s => s = 0) v := fun v hv => (h.rch v hv).mono fun w u l hw hu => by
      obtain ⟨l2, h1, h2⟩ := hgrow w l hw
      exact ⟨l2, h1, h2 _ hu⟩
    by_cases hvn : v < g.length
    · exact hold v hvn
    · have hl2 := hB.len
      have hent : ∃ p, p < s ∧ Rc g2 (fun s => s = 0) (g.length + p) := by
        by_cases hn : 0 < g.length
        · obtain ⟨w, l, t, h1, h2, h3, h4, h5⟩ := hB.ent hn (hf hn)
          refine ⟨(t - g.length).toNat, by omega, .step (hold w h1) h2 ?_⟩
          have e : ((g.length + (t - g.length).toNat : Nat) : Int) = t := by omega
          rw [e]
          exact h3
        · exact ⟨0, by omega, .base (by omega)⟩
      obtain ⟨p, hp, hr⟩ := hent
      have := ring_all hring hp hr (v - g.length) (by omega)
      rw [show g.length + (v - g.length) = v by omega] at this
      exact this
  · obtain ⟨l, h1, h2, _⟩ := hnew 0 (by omega)
    exact ⟨l, List.mem_of_getElem? h1, by omega⟩
/-- an end more -/
theorem TI.fin {g : Nx} {ss : List Nat} {v : Nat} {l : List Int} (h : TI g ss) (hv : g[v]? = some l) (hl : l.length < 4) : TI (g.set v (l ++ [-1])) ss := by
  have hvl := (List.getElem?_eq_some_iff.mp hv).1
  have hlm := List.mem_of_getElem? hv
  refine ⟨by rw [List.length_set]; exact h.len, fun m hm => ?_, fun j s hj => ?_, fun w hw => ?_⟩
  · rw [List.length_set]
    rcases List.mem_or_eq_of_mem_set hm with hm | hm
    · exact h.rng m hm
    · rw [hm, List.length_append]
      refine ⟨by show l.length + 1 ≤ 4; omega, fun t ht => ?_⟩
      rcases List.mem_append.mp ht with ht | ht
      · exact (h.rng l hlm).2 t ht
      · exact .inl (List.mem_singleton.mp ht)
  · have hb := h.blk j s hj
    refine ⟨hb.s1, fun p hp => ?_⟩
    obtain ⟨i, more, h1, h2, h3, h4, h5⟩ := hb.nodes p hp
    rw [List.getElem?_set]
    by_cases e : v = (ss.take j).sum + p
    · subst e
      rw [h1] at hv
      rw [if_pos rfl, if_pos hvl, ← Option.some.inj hv]
      refine ⟨i, more ++ [-1], by rw [List.append_assoc], h2, h3, h4, fun t ht => ?_⟩
      rcases List.mem_append.mp ht with ht | ht
      · exact h5 t ht
      · exact .inl (List.mem_singleton.mp ht)
    · rw [if_neg e]
      exact ⟨i, more, h1, h2, h3, h4, h5⟩
  · rw [List.length_set] at hw
    refine (h.rch w hw).mono fun x u m hx hu => ?_
    obtain ⟨m2, h1, h2⟩ := set_grow (x := -1) hv x m hx
    exact ⟨m2, h1, h2 _ hu⟩
/-- something leads out of the block -/
def EX (g : Nx) (b s : Nat) : Prop := ∃ (v : Nat) (l : List Int) (t : Int), b ≤ v ∧ v < b + s ∧ g[v]? = some l ∧ t ∈ l ∧ (t < (b : Int) ∨ (b : Int) + s ≤ t)
theorem EX.fin {g : Nx} {b s v : Nat} {l : List Int} (h : EX g b s) (hv : g[v]? = some l) : EX (g.set v (l ++ [-1])) b s := by
  obtain ⟨w, m, t, h1, h2, h3, h4, h5⟩ := h
  obtain ⟨m2, h6, h7⟩ := set_grow (x := -1) hv w m h3
  exact ⟨w, m2, t, h1, h2, h6, h7 t h4, h5⟩
theorem TI.open_ {g : Nx} {ss : List Nat} {j s : Nat} (h : TI g ss) (hj : ss[j]? = some s) (hin : ∀ (v : Nat) (l : List Int), (ss.take j).sum ≤ v → v < (ss.take j).sum + s → g[v]? = some l → ∀ t ∈ l, ((ss.take j).sum : Int) ≤ t ∧ t < ((ss.take j).sum : Int) + s) :
    ∃ (v : Nat) (l : List Int), (ss.take j).sum ≤ v ∧ v < (ss.take j).sum + s ∧ g[v]? = some l ∧ l.length < 4 := by
  have hb := h.blk j s hj
  have hs := hb.s1
  obtain ⟨i, more, h1, h2, h3, h4, h5⟩ := hb.nodes 0 (by omega)
  refine ⟨(ss.take j).sum, i ++ more, Nat.le_refl _, by omega, h1, ?_⟩
  cases more with
  | nil =>
    rw [List.append_nil]
    omega
  | cons t more =>
    have h6 := hin _ _ (Nat.le_refl _) (by omega) h1 t (List.mem_append_right _ (List.mem_cons_self ..))
    rcases h5 t (List.mem_cons_self ..) with h7 | h7 <;> omega
theorem TI.exit {g g2 : Nx} {ss : List Nat} {j s : Nat} (h : TI g ss) (hE : ExitR g g2 (ss.take j).sum s) : TI g2 ss ∧ EX g2 (ss.take j).sum s ∧ ∀ b s', EX g b s' → EX g2 b s' := by
  rcases hE with ⟨rfl, he⟩ | ⟨v, l, h1, h2, h3, h4, rfl⟩
  · exact ⟨h, he, fun b s' h => h⟩
  · have hvl := (List.getElem?_eq_some_iff.mp h3).1
    refine ⟨h.fin h3 h4, ⟨v, l ++ [-1], -1, h1, h2, ?_, List.mem_append_right _ (List.mem_singleton.mpr rfl), .inl (by omega)⟩, fun b s' he => he.fin h3⟩
    rw [List.getElem?_set, if_pos rfl, if_pos hvl]
theorem TI.ok {g : Nx} {ss : List Nat} (h : TI g ss) (hp : 0 < g.length) (hE : ∀ j s, ss[j]? = some s → EX g (ss.take j).sum s) : GOk g := by
  have hall : ∀ (k j : Nat), j + k = ss.length → ∀ v, (ss.take j).sum ≤ v → v < g.length → Ld g v := fun k => by
    induction k with
    | zero =>
      intro j hj v h1 h2
      rw [List.take_of_length_le (by omega), ← h.len] at h1
      omega
    | succ k ih =>
      intro j hj v h1 h2
      have hs : ss[j]? = some ss[j] := List.getElem?_eq_getElem (by omega)
      generalize ss[j]'(by omega) = s at hs
      have e : (ss.take (j + 1)).sum = (ss.take j).sum + s := by
        rw [List.take_add_one, hs, List.sum_append]
        simp
      by_cases hv : (ss.take j).sum + s ≤ v
      · exact ih (j + 1) (by omega) v (by rw [e]; exact hv) h2
      · have hb := h.blk j s hs
        obtain ⟨w, l, t, w1, w2, w3, w4, w5⟩ := hE j s hs
        have hw : Ld g w := by
          obtain ⟨i, more, b1, b2, b3, b4, b5⟩ := hb.nodes (w - (ss.take j).sum) (by omega)
          rw [show (ss.take j).sum + (w - (ss.take j).sum) = w by omega, w3] at b1
          have b6 := Option.some.inj b1
          rw [b6] at w4
          have ht : t = -1 ∨ ((ss.take j).sum : Int) + s ≤ t := by
            rcases List.mem_append.mp w4 with w4 | w4
            · have := b4 t w4
              omega
            · exact b5 t w4
          rw [← b6] at w4
          rcases ht with ht | ht
          · rw [ht] at w4
            exact .fin w3 w4
          · have hr := (h.rng l (List.mem_of_getElem? w3)).2 t w4
            have e3 : ((t.toNat : Nat) : Int) = t := by omega
            refine .step w3 (u := t.toNat) (by rw [e3]; exact w4) (ih (j + 1) (by omega) _ (by rw [e]; omega) (by omega))
        have := ring_lds hb.ring (q := w - (ss.take j).sum) (by omega) (by rw [show (ss.take j).sum + (w - (ss.take j).sum) = w by omega]; exact hw) (v - (ss.take j).sum) (by omega)
        rw [show (ss.take j).sum + (v - (ss.take j).sum) = v by omega] at this
        exact this
  have hends : ∀ v, v < g.length → Ld g v := fun v hv => hall ss.length 0 (by omega) v (Nat.zero_le _) hv
  refine ⟨hp, fun l hl => ?_, h.rch, hends⟩
  obtain ⟨v, hv, e⟩ := List.mem_iff_getElem.mp hl
  refine ⟨?_, h.rng l hl⟩
  have hne : ∀ {m : List Int}, g[v]? = some m → m ≠ [] → 1 ≤ l.length := fun {m} hm hne => by
    rw [List.getElem?_eq_getElem hv, e] at hm
    rw [Option.some.inj hm]
    exact List.length_pos_iff.mpr hne
  cases hends v hv with
  | fin h1 h2 => exact hne h1 (fun e => by rw [e] at h2; cases h2)
  | step h1 h2 _ => exact hne h1 (fun e => by rw [e] at h2; cases h2)
/-- an edge more -/
theorem GOk.grow {g : Nx} {v : Nat} {l : List Int} {x : Int} (h : GOk g) (hv : g[v]? = some l) (hl : l.length < 4) (h0 : 0 ≤ x) (h1 : x < (g.length : Int)) : GOk (g.set v (l ++ [x])) := by
  have hvl := (List.getElem?_eq_some_iff.mp hv).1
  have hlm := List.mem_of_getElem? hv
  refine ⟨by rw [List.length_set]; exact h.pos, fun m hm => ?_, fun w hw => ?_, fun w hw => ?_⟩
  · rw [List.length_set]
    rcases List.mem_or_eq_of_mem_set hm with hm | hm
    · exact h.rows m hm
    · rw [hm]
      obtain ⟨r1, r2, r3⟩ := h.rows l hlm
      refine ⟨by rw [List.length_append]; omega, by rw [List.length_append]; show l.length + 1 ≤ 4; omega, fun t ht => ?_⟩
      rcases List.mem_append.mp ht with ht | ht
      · exact r3 t ht
      · rw [List.mem_singleton.mp ht]
        exact .inr ⟨h0, h1⟩
  · rw [List.length_set] at hw
    refine (h.reach w hw).mono fun y u m hy hu => ?_
    obtain ⟨m2, h3, h4⟩ := set_grow (x := x) hv y m hy
    exact ⟨m2, h3, h4 _ hu⟩
  · rw [List.length_set] at hw
    refine (h.ends w hw).mono fun y m t hy ht => ?_
    obtain ⟨m2, h3, h4⟩ := set_grow (x := x) hv y m hy
    exact ⟨m2, h3, h4 _ ht⟩
/-- the nodes numbered anew -/
theorem GOk.number {g g2 : Nx} {od : List Nat} (h : GOk g) (hl : od.length = g.length) (nd : od.Nodup) (hall : ∀ v, v < g.length → v ∈ od) (h0 : od[0]? = some 0) (hl2 : g2.length = g.length)
    (hr : ∀ (i v : Nat) (l2 : List Int), od[i]? = some v → g2[i]? = some l2 → ∃ l, g[v]? = some l ∧ l2.length = l.length ∧ ∀ t : Int, t ∈ l2 ↔ (t = -1 ∧ (-1 : Int) ∈ l) ∨ ∃ j u : Nat, t = (j : Int) ∧ od[j]? = some u ∧ (u : Int) ∈ l) : GOk g2 := by
  have hinj : ∀ {i j v : Nat}, od[i]? = some v → od[j]? = some v → i = j := fun {i j v} h1 h2 => by
    have e1 := List.getElem?_eq_some_iff.mp h1
    have e2 := List.getElem?_eq_some_iff.mp h2
    exact (List.getElem_inj nd (h₀ := e1.1) (h₁ := e2.1)).mp (e1.2.trans e2.2.symm)
  have hat : ∀ {v : Nat} {l : List Int}, g[v]? = some l → ∀ i, od[i]? = some v → ∃ l2, g2[i]? = some l2 ∧ ∀ t : Int, t ∈ l2 ↔ (t = -1 ∧ (-1 : Int) ∈ l) ∨ ∃ j u : Nat, t = (j : Int) ∧ od[j]? = some u ∧ (u : Int) ∈ l := fun {v l} hv i hi => by
    have hil := (List.getElem?_eq_some_iff.mp hi).1
    have h2 : g2[i]? = some g2[i] := List.getElem?_eq_getElem (by omega)
    obtain ⟨l', e1, _, e3⟩ := hr i v _ hi h2
    rw [hv] at e1
    rw [← Option.some.inj e1] at e3
    exact ⟨_, h2, e3⟩
  have hpos : ∀ v, v < g.length → ∃ i, od[i]? = some v := fun v hv => by
    obtain ⟨i, hi, e⟩ := List.mem_iff_getElem.mp (hall v hv)
    exact ⟨i, by rw [List.getElem?_eq_getElem hi, e]⟩
  have hlt : ∀ {i v : Nat}, od[i]? = some v → v < g.length := fun {i v} hi => by
    have hil := (List.getElem?_eq_some_iff.mp hi).1
    obtain ⟨l, e1, _⟩ := hr i v _ hi (List.getElem?_eq_getElem (by omega))
    exact (List.getElem?_eq_some_iff.mp e1).1
  have hrc : ∀ v, Rc g (fun s => s = 0) v → ∀ i, od[i]? = some v → Rc g2 (fun s => s = 0) i := fun v hv => by
    induction hv with
    | base e =>
      intro i hi
      rw [e] at hi
      exact .base (hinj hi h0)
    | @step v u l _ h1 h2 ih =>
      intro i hi
      obtain ⟨k, hk⟩ := hpos v (List.getElem?_eq_some_iff.mp h1).1
      obtain ⟨l2, e1, e2⟩ := hat h1 k hk
      exact .step (ih k hk) e1 ((e2 i).mpr (.inr ⟨i, u, rfl, hi, h2⟩))
  have hld : ∀ v, Ld g v → ∀ i, od[i]? = some v → Ld g2 i := fun v hv => by
    induction hv with
    | fin h1 h2 =>
      intro i hi
      obtain ⟨l2, e1, e2⟩ := hat h1 i hi
      exact .fin e1 ((e2 (-1)).mpr (.inl ⟨rfl, h2⟩))
    | @step v u l h1 h2 h3 ih =>
      intro i hi
      have hu : u < g.length := by
        have := (h.rows l (List.mem_of_getElem? h1)).2.2 u h2
        omega
      obtain ⟨k, hk⟩ := hpos u hu
      obtain ⟨l2, e1, e2⟩ := hat h1 i hi
      exact .step e1 ((e2 k).mpr (.inr ⟨k, u, rfl, hk, h2⟩)) (ih k hk)
  refine ⟨by rw [hl2]; exact h.pos, fun l2 hm => ?_, fun i hi => ?_, fun i hi => ?_⟩
  · obtain ⟨i, hi, e⟩ := List.mem_iff_getElem.mp hm
    have hod : od[i]? = some od[i] := List.getElem?_eq_getElem (by omega)
    obtain ⟨l, e1, e2, e3⟩ := hr i _ l2 hod (by rw [List.getElem?_eq_getElem hi, e])
    obtain ⟨r1, r2, r3⟩ := h.rows l (List.mem_of_getElem? e1)
    refine ⟨by omega, by omega, fun t ht => ?_⟩
    rcases (e3 t).mp ht with ⟨h1, _⟩ | ⟨j, u, h1, h2, _⟩
    · exact .inl h1
    · have := (List.getElem?_eq_some_iff.mp h2).1
      exact .inr (by omega)
  · have hod : od[i]? = some od[i] := List.getElem?_eq_getElem (by omega)
    exact hrc _ (h.reach _ (hlt hod)) i hod
  · have hod : od[i]? = some od[i] := List.getElem?_eq_getElem (by omega)
    exact hld _ (h.ends _ (hlt hod)) i hod
end Lay

/-! Bounds of sums going round, of gaps and of costs. -/
namespace Lay
theorem getD_nn {pr : List Int} (h : ∀ x ∈ pr, 0 ≤ x) (i : Nat) : 0 ≤ pr.getD i 0 := by
  rw [List.getD_eq_getElem?_getD]
  cases e : pr[i]? with
  | none => exact Int.le_refl _
  | some x => exact h x (List.mem_of_getElem? e)
theorem cyc_mono {pr : List Int} (h : ∀ x ∈ pr, 0 ≤ x) (s d : Nat) : ∀ k, cyc pr s d ≤ cyc pr s (d + k)
  | 0 => Int.le_refl _
  | k + 1 => by
    rw [← Nat.add_assoc, cyc_succ]
    have := cyc_mono h s d k
    have := getD_nn h ((s + (d + k)) % pr.length)
    omega
theorem cyc_full {pr : List Int} {s : Nat} (hs : s < pr.length) : cyc pr s pr.length = pr.sum := by
  have e : pr.length = (pr.length - s) + s := by omega
  have h1 : cyc pr s ((pr.length - s) + s) = pr.sum := by
    rw [cyc_add, cyc_up _ (by omega)]
    have e1 : s + (pr.length - s) = pr.length := by omega
    rw [e1, List.take_length]
    have e2 : cyc pr pr.length s = cyc pr 0 s := by
      rw [← cyc_mod, Nat.mod_self]
    rw [e2, cyc_up _ (by omega), Nat.zero_add]
    show pr.sum - (pr.take s).sum + ((pr.take s).sum - 0) = _
    omega
  rw [← e] at h1
  exact h1
theorem gapP_le {pr : List Int} {D : List Nat} {k : Nat} (h : ∀ x ∈ pr, 0 ≤ x) (hD : ∀ d ∈ D, d < pr.length) (hk : k < D.length) : gapP pr D k ≤ pr.sum := by
  unfold gapP
  split
  · exact Int.le_refl _
  · have g1 : D[k]? = some D[k] := List.getElem?_eq_getElem hk
    have m1 := hD _ (List.mem_of_getElem? g1)
    rw [List.getD_eq_getElem?_getD, g1]
    show cyc pr D[k] _ ≤ _
    have hm : ((D.getD ((k + 1) % D.length) 0 + pr.length - D[k]) % pr.length) < pr.length := Nat.mod_lt _ (by omega)
    have := cyc_mono h D[k] ((D.getD ((k + 1) % D.length) 0 + pr.length - D[k]) % pr.length) (pr.length - (D.getD ((k + 1) % D.length) 0 + pr.length - D[k]) % pr.length)
    have e : (D.getD ((k + 1) % D.length) 0 + pr.length - D[k]) % pr.length + (pr.length - (D.getD ((k + 1) % D.length) 0 + pr.length - D[k]) % pr.length) = pr.length := by omega
    rw [e, cyc_full m1] at this
    exact this
theorem costP_nn {pr : List Int} {D : List Nat} (h : ∀ x ∈ pr, 0 ≤ x) (hD : ∀ d ∈ D, d < pr.length) (hne : D ≠ []) : 0 ≤ costP pr D := by
  unfold costP
  have hl := List.length_pos_iff.mpr hne
  have hm := mxI_mem (l := (List.range D.length).map (gapP pr D)) (fun e => by
    have := congrArg List.length e
    rw [List.length_map, List.length_range] at this
    exact absurd this (by show D.length ≠ 0; omega))
  obtain ⟨k, hk, e⟩ := List.mem_map.mp hm
  have := gapP_le h hD (List.mem_range.mp hk)
  omega
theorem filter_sum {p : Nat → Bool} {f : Nat → Int} : ∀ bs : List Nat, ((bs.filter p).map f).sum = (bs.map fun b => if p b = true then f b else 0).sum
  | [] => rfl
  | b :: bs => by
    rw [List.map_cons, List.sum_cons, ← filter_sum bs]
    by_cases e : p b = true
    · rw [List.filter_cons_of_pos e, List.map_cons, List.sum_cons, if_pos e]
    · rw [List.filter_cons_of_neg e, if_neg e, Int.zero_add]
theorem sum_nn {f : Nat → Int} : ∀ {l : List Nat}, (∀ b ∈ l, 0 ≤ f b) → 0 ≤ (l.map f).sum
  | [], _ => Int.le_refl _
  | b :: l, h => by
    rw [List.map_cons, List.sum_cons]
    have := h b (List.mem_cons_self ..)
    have := sum_nn (f := f) (l := l) fun x hx => h x (List.mem_cons_of_mem b hx)
    omega
end Lay

/-! A dearer node, an edge more: what becomes of the costs. -/
namespace Lay
theorem gok_more {g : Nx} {v : Nat} {l : List Int} {x : Int} (h : GOk g) (hv : g[v]? = some l) (hl : l.length < 4) (hx : x = -1 ∨ (0 ≤ x ∧ x < (g.length : Int))) : GOk (g.set v (l ++ [x])) := by
  have hvl := (List.getElem?_eq_some_iff.mp hv).1
  have hlm := List.mem_of_getElem? hv
  refine ⟨by rw [List.length_set]; exact h.pos, fun m hm => ?_, fun w hw => ?_, fun w hw => ?_⟩
  · rw [List.length_set]
    rcases List.mem_or_eq_of_mem_set hm with hm | hm
    · exact h.rows m hm
    · rw [hm]
      obtain ⟨r1, r2, r3⟩ := h.rows l hlm
      refine ⟨by rw [List.length_append]; omega, by rw [List.length_append]; show l.length + 1 ≤ 4; omega, fun t ht => ?_⟩
      rcases List.mem_append.mp ht with ht | ht
      · exact r3 t ht
      · rw [List.mem_singleton.mp ht]
        exact hx
  · rw [List.length_set] at hw
    refine (h.reach w hw).mono fun y u m hy hu => ?_
    obtain ⟨m2, h3, h4⟩ := set_grow (x := x) hv y m hy
    exact ⟨m2, h3, h4 _ hu⟩
  · rw [List.length_set] at hw
    refine (h.ends w hw).mono fun y m t hy ht => ?_
    obtain ⟨m2, h3, h4⟩ := set_grow (x := x) hv y m hy
    exact ⟨m2, h3, h4 _ ht⟩
/-! ### the greatest of bounded rows -/
theorem mxI_le_map {f f2 : Nat → Int} {m : Nat} {x : Int} (hm : 0 < m) (h : ∀ k, k < m → f2 k ≤ f k + x) : mxI ((List.range m).map f2) ≤ mxI ((List.range m).map f) + x := by
  have hne : (List.range m).map f2 ≠ [] := fun e => by
    have := congrArg List.length e
    rw [List.length_map, List.length_range] at this
    exact absurd this (by show m ≠ 0; omega)
  obtain ⟨k, hk, e⟩ := List.mem_map.mp (mxI_mem hne)
  have h1 := h k (List.mem_range.mp hk)
  have h2 := le_mxI (List.mem_map_of_mem (f := f) hk)
  omega
/-! ### a dearer node -/
theorem set_getD {q : List Int} {p i : Nat} {x : Int} (hp : p < q.length) : (q.set p (q.getD p 0 + x)).getD i 0 = q.getD i 0 + if i = p then x else 0 := by
  rw [List.getD_eq_getElem?_getD, List.getElem?_set]
  by_cases e : p = i
  · subst e
    rw [if_pos rfl, if_pos hp, if_pos rfl]
    rfl
  · rw [if_neg e, if_neg fun h => e h.symm, Int.add_zero, List.getD_eq_getElem?_getD]
theorem cyc_ge {q q2 : List Int} (hl : q2.length = q.length) (h : ∀ i, q.getD i 0 ≤ q2.getD i 0) (s : Nat) : ∀ d, cyc q s d ≤ cyc q2 s d
  | 0 => Int.le_refl _
  | d + 1 => by
    rw [cyc_succ, cyc_succ, hl]
    have := cyc_ge hl h s d
    have := h ((s + d) % q.length)
    omega
theorem sum_set {q : List Int} {p : Nat} {x : Int} (hp : p < q.length) : (q.set p (q.getD p 0 + x)).sum = q.sum + x := by
  induction q generalizing p with
  | nil => exact absurd hp (Nat.not_lt_zero _)
  | cons y q ih =>
    cases p with
    | zero =>
      show (y + x) + q.sum = (y + q.sum) + x
      omega
    | succ p =>
      have hp2 : p < q.length := Nat.lt_of_succ_lt_succ hp
      have := ih hp2
      show y + (q.set p (q.getD p 0 + x)).sum = (y + q.sum) + x
      omega
theorem cyc_set {q : List Int} {p s d : Nat} {x : Int} (hp : p < q.length) (hx : 0 ≤ x) (hs : s < q.length) (hd : d ≤ q.length) :
    cyc q s d ≤ cyc (q.set p (q.getD p 0 + x)) s d ∧ cyc (q.set p (q.getD p 0 + x)) s d ≤ cyc q s d + x := by
  have hl : (q.set p (q.getD p 0 + x)).length = q.length := List.length_set ..
  have hge : ∀ i, q.getD i 0 ≤ (q.set p (q.getD p 0 + x)).getD i 0 := fun i => by
    rw [set_getD hp]
    split <;> omega
  refine ⟨cyc_ge hl hge s d, ?_⟩
  have h1 := cyc_full (pr := q.set p (q.getD p 0 + x)) (s := s) (by omega)
  rw [hl, sum_set hp] at h1
  have h2 := cyc_full hs
  have e : q.length = d + (q.length - d) := by omega
  have h3 := cyc_add (q.set p (q.getD p 0 + x)) s d (q.length - d)
  have h4 := cyc_add q s d (q.length - d)
  rw [← e] at h3 h4
  have h5 := cyc_ge hl hge (s + d) (q.length - d)
  omega
theorem costP_set {q : List Int} {D : List Nat} {p : Nat} {x : Int} (hp : p < q.length) (hx : 0 ≤ x) (hD : ∀ d ∈ D, d < q.length) (hne : D ≠ []) :
    costP q D ≤ costP (q.set p (q.getD p 0 + x)) D ∧ costP (q.set p (q.getD p 0 + x)) D ≤ costP q D + x := by
  have hl : (q.set p (q.getD p 0 + x)).length = q.length := List.length_set ..
  have hgap : ∀ k, k < D.length → gapP q D k ≤ gapP (q.set p (q.getD p 0 + x)) D k ∧ gapP (q.set p (q.getD p 0 + x)) D k ≤ gapP q D k + x := fun k hk => by
    unfold gapP
    rw [hl]
    split
    · rw [sum_set hp]
      omega
    · have g1 : D[k]? = some D[k] := List.getElem?_eq_getElem hk
      have m1 := hD _ (List.mem_of_getElem? g1)
      have eg : D.getD k 0 = D[k] := by rw [List.getD_eq_getElem?_getD, g1]; rfl
      exact cyc_set hp hx (by rw [eg]; exact m1) (Nat.le_of_lt (Nat.mod_lt _ (by omega)))
  have hDl := List.length_pos_iff.mpr hne
  have h1 := mxI_le_map (f := gapP q D) (f2 := gapP (q.set p (q.getD p 0 + x)) D) (x := x) hDl fun k hk => (hgap k hk).2
  have h2 := mxI_le_map (f := gapP (q.set p (q.getD p 0 + x)) D) (f2 := gapP q D) (x := 0) hDl fun k hk => by have := (hgap k hk).1; omega
  unfold costP
  rw [sum_set hp]
  omega
theorem prA_out {pr : List Int} {A : List Nat} {i : Nat} {y : Int} (h : i ∉ A) : prA (pr.set i y) A = prA pr A := by
  unfold prA
  refine List.map_congr_left fun v hv => ?_
  rw [List.getD_eq_getElem?_getD, List.getD_eq_getElem?_getD, List.getElem?_set, if_neg fun e => h (by rw [e]; exact hv)]
theorem prA_in {pr : List Int} {A : List Nat} {i p : Nat} {x : Int} (hA : A.Nodup) (hp : A[p]? = some i) (hi : i < pr.length) : prA (pr.set i (pr.getD i 0 + x)) A = (prA pr A).set p ((prA pr A).getD p 0 + x) := by
  have hpl := (List.getElem?_eq_some_iff.mp hp).1
  have e0 : (prA pr A).getD p 0 = pr.getD i 0 := by
    unfold prA
    rw [List.getD_eq_getElem?_getD, List.getElem?_map, hp]
    rfl
  rw [e0]
  refine List.ext_getElem? fun j => ?_
  unfold prA
  rw [List.getElem?_map, List.getElem?_set, List.length_map, List.getElem?_map]
  by_cases e : p = j
  · subst e
    rw [if_pos rfl, if_pos hpl, hp]
    show some ((pr.set i (pr.getD i 0 + x)).getD i 0) = _
    rw [set_getD hi, if_pos rfl]
  · rw [if_neg e]
    cases hj : A[j]? with
    | none => rfl
    | some v =>
      show some ((pr.set i (pr.getD i 0 + x)).getD v 0) = some (pr.getD v 0)
      rw [set_getD hi, if_neg, Int.add_zero]
      intro e2
      rw [e2] at hj
      exact e (nd_ix hA hp hj)
/-- one class with a dearer node -/
theorem cst_set {g : Nx} {pr : List Int} {P : List Nat} {i : Nat} {x : Int} (hg : GOk g) (hP : ClP g P) (hl : pr.length = g.length) (hi : i < g.length) (hx : 0 ≤ x) :
    (i ∉ P → cst g (pr.set i (pr.getD i 0 + x)) P = cst g pr P) ∧ cst g pr P ≤ cst g (pr.set i (pr.getD i 0 + x)) P ∧ cst g (pr.set i (pr.getD i 0 + x)) P ≤ cst g pr P + x := by
  unfold cst
  by_cases hk : knd g P = 1
  · rw [if_pos hk, if_pos hk]
    obtain ⟨hAn, hAm⟩ := hP.aro (fun u v e => (e.lt hg).2) hk
    have hAl := aroP_len (g := g) hP.ne
    have hpl : (prA pr (aroP g P)).length = (aroP g P).length := by unfold prA; rw [List.length_map]
    by_cases hm : i ∈ P
    · refine ⟨fun h => absurd hm h, ?_⟩
      obtain ⟨p, hp, e⟩ := List.mem_iff_getElem.mp ((hAm i).mpr hm)
      rw [prA_in hAn (p := p) (by rw [List.getElem?_eq_getElem hp, e]) (by omega)]
      exact costP_set (by omega) hx (fun d hd => by have := (drs_mem.mp hd).1; omega) (hP.drs_ne hg hk)
    · rw [prA_out fun h => hm ((hAm i).mp h)]
      exact ⟨fun _ => rfl, Int.le_refl _, by omega⟩
  · rw [if_neg hk, if_neg hk]
    exact ⟨fun _ => rfl, Int.le_refl _, by omega⟩
theorem sum_one_more {f f2 : Nat → Int} {x : Int} {q : Nat → Prop} (hx : 0 ≤ x) : ∀ {bs : List Nat}, (∀ b ∈ bs, (¬ q b → f2 b = f b) ∧ f b ≤ f2 b ∧ f2 b ≤ f b + x) → bs.Pairwise (fun a b => ¬ (q a ∧ q b)) → (bs.map f).sum ≤ (bs.map f2).sum ∧ (bs.map f2).sum ≤ (bs.map f).sum + x
  | [], _, _ => by
    show (0 : Int) ≤ 0 ∧ (0 : Int) ≤ 0 + x
    omega
  | b :: bs, h, hp => by
    rw [List.map_cons, List.map_cons, List.sum_cons, List.sum_cons]
    obtain ⟨h1, h2, h3⟩ := h b (List.mem_cons_self ..)
    obtain ⟨hp1, hp2⟩ := List.pairwise_cons.mp hp
    by_cases hb : q b
    · have : (bs.map f2).sum = (bs.map f).sum := congrArg List.sum (List.map_congr_left fun c hc => (h c (List.mem_cons_of_mem b hc)).1 fun hqc => hp1 c hc ⟨hb, hqc⟩)
      omega
    · have h4 := sum_one_more hx (fun c hc => h c (List.mem_cons_of_mem b hc)) hp2
      have := h1 hb
      omega
/-! ### doors more -/
/-- how far it is from d to x, at least 1 -/
def ds1 (n d x : Nat) : Nat := if d < x then x - d else x + n - d
theorem gapP_min {pr : List Int} {D : List Nat} {k : Nat} (hA : D.Pairwise (· < ·)) (hD : ∀ d ∈ D, d < pr.length) (hk : k < D.length) :
    ∃ m d, D[k]? = some d ∧ gapP pr D k = cyc pr d m ∧ m ≤ pr.length ∧ (∃ x ∈ D, m = ds1 pr.length d x) ∧ ∀ x ∈ D, m ≤ ds1 pr.length d x := by
  have g1 : D[k]? = some D[k] := List.getElem?_eq_getElem hk
  have m1 := hD _ (List.mem_of_getElem? g1)
  have eg : D.getD k 0 = D[k] := by rw [List.getD_eq_getElem?_getD, g1]; rfl
  have hlt : ∀ {i j : Nat} (hi : i < D.length) (hj : j < D.length), i < j → D[i] < D[j] := fun hi hj h => List.pairwise_iff_getElem.mp hA _ _ hi hj h
  unfold gapP
  by_cases h1 : D.length = 1
  · rw [if_pos h1]
    refine ⟨pr.length, D[k], g1, (cyc_full m1).symm, Nat.le_refl _, ⟨D[k], List.mem_of_getElem? g1, ?_⟩, fun x hx => ?_⟩
    · unfold ds1
      rw [if_neg (by omega)]
      omega
    · obtain ⟨j, hj, e⟩ := List.mem_iff_getElem.mp hx
      have ej : j = k := by omega
      subst ej
      unfold ds1
      rw [if_neg (by omega)]
      omega
  · rw [if_neg h1, eg]
    by_cases hk2 : k + 1 < D.length
    · have em : (k + 1) % D.length = k + 1 := Nat.mod_eq_of_lt hk2
      have g2 : D[k + 1]? = some D[k + 1] := List.getElem?_eq_getElem hk2
      have m2 := hD _ (List.mem_of_getElem? g2)
      have h3 := hlt hk hk2 (Nat.lt_succ_self k)
      rw [em, List.getD_eq_getElem?_getD, g2]
      have e2 : (D[k + 1] + pr.length - D[k]) % pr.length = D[k + 1] - D[k] := by
        have : D[k + 1] + pr.length - D[k] = (D[k + 1] - D[k]) + pr.length := by omega
        rw [this, Nat.add_mod_right, Nat.mod_eq_of_lt (by omega)]
      refine ⟨D[k + 1] - D[k], D[k], g1, by show cyc pr D[k] ((D[k + 1] + pr.length - D[k]) % pr.length) = _; rw [e2], by omega, ⟨D[k + 1], List.mem_of_getElem? g2, by unfold ds1; rw [if_pos h3]⟩, fun x hx => ?_⟩
      obtain ⟨j, hj, e⟩ := List.mem_iff_getElem.mp hx
      unfold ds1
      by_cases hjk : j ≤ k
      · have : D[j] ≤ D[k] := by
          by_cases e3 : j = k
          · subst e3
            exact Nat.le_refl _
          · exact Nat.le_of_lt (hlt hj hk (by omega))
        rw [if_neg (by omega)]
        omega
      · have : D[k + 1] ≤ D[j] := by
          by_cases e3 : j = k + 1
          · subst e3
            exact Nat.le_refl _
          · exact Nat.le_of_lt (hlt hk2 hj (by omega))
        rw [if_pos (by omega)]
        omega
    · have ek : k + 1 = D.length := by omega
      have em : (k + 1) % D.length = 0 := by rw [ek, Nat.mod_self]
      have h0 : 0 < D.length := by omega
      have g2 : D[0]? = some D[0] := List.getElem?_eq_getElem h0
      have m2 := hD _ (List.mem_of_getElem? g2)
      have h3 := hlt h0 hk (by omega)
      rw [em, List.getD_eq_getElem?_getD, g2]
      have e2 : (D[0] + pr.length - D[k]) % pr.length = D[0] + pr.length - D[k] := Nat.mod_eq_of_lt (by omega)
      refine ⟨D[0] + pr.length - D[k], D[k], g1, by show cyc pr D[k] ((D[0] + pr.length - D[k]) % pr.length) = _; rw [e2], by omega, ⟨D[0], List.mem_of_getElem? g2, by unfold ds1; rw [if_neg (by omega)]⟩, fun x hx => ?_⟩
      obtain ⟨j, hj, e⟩ := List.mem_iff_getElem.mp hx
      have h4 : D[0] ≤ D[j] := by
        by_cases e3 : j = 0
        · subst e3
          exact Nat.le_refl _
        · exact Nat.le_of_lt (hlt h0 hj (by omega))
      have h5 : D[j] ≤ D[k] := by
        by_cases e3 : j = k
        · subst e3
          exact Nat.le_refl _
        · exact Nat.le_of_lt (hlt hj hk (by omega))
      unfold ds1
      rw [if_neg (by omega)]
      omega
/-- with more doors the cost is not lower -/
theorem costP_doors {pr : List Int} {D D2 : List Nat} (hpr : ∀ x ∈ pr, 0 ≤ x) (hA : D.Pairwise (· < ·)) (hA2 : D2.Pairwise (· < ·)) (hD : ∀ d ∈ D2, d < pr.length) (hne : D ≠ []) (hs : ∀ d ∈ D, d ∈ D2) : costP pr D ≤ costP pr D2 := by
  have hl := List.length_pos_iff.mpr hne
  obtain ⟨d0, t0, e0⟩ := List.exists_cons_of_ne_nil hne
  have hd0 : d0 ∈ D := by rw [e0]; exact List.mem_cons_self ..
  have hl2 := List.length_pos_of_mem (hs d0 hd0)
  unfold costP
  have hne2 : (List.range D2.length).map (gapP pr D2) ≠ [] := fun e => by
    have := congrArg List.length e
    rw [List.length_map, List.length_range] at this
    exact absurd this (by show D2.length ≠ 0; omega)
  obtain ⟨k2, hk2, e2⟩ := List.mem_map.mp (mxI_mem hne2)
  have hk2 := List.mem_range.mp hk2
  obtain ⟨m2, d2, g2, h2, hm2, ⟨x2, hx2, ex2⟩, hmin2⟩ := gapP_min (pr := pr) hA2 hD hk2
  have hd2 := hD d2 (List.mem_of_getElem? g2)
  -- the nearest door of D behind d2
  obtain ⟨d, hd, hdm⟩ := min_at D (fun d => if d ≤ d2 then d2 - d else d2 + pr.length - d) hne
  have hdl := hD d (hs d hd)
  obtain ⟨k, hk, ek⟩ := List.mem_iff_getElem.mp hd
  obtain ⟨m, d', g1, h1, hm, ⟨x, hx, ex⟩, hmin⟩ := gapP_min (pr := pr) hA (fun d hd => hD d (hs d hd)) hk
  have ed : d' = d := by
    rw [List.getElem?_eq_getElem hk, ek] at g1
    exact (Option.some.inj g1).symm
  subst ed
  have hxl := hD x (hs x hx)
  have hxm := hdm x hx
  have hx2' := hmin2 x (hs x hx)
  have hkey : (if d' ≤ d2 then d2 - d' else d2 + pr.length - d') + m2 ≤ m := by
    unfold ds1 at ex hx2'
    split at hxm <;> split at hxm <;> split at ex <;> split at hx2' <;> (try split) <;> omega
  have h3 := le_mxI (List.mem_map_of_mem (f := gapP pr D) (List.mem_range.mpr hk))
  rw [h1] at h3
  have h4 := cyc_mono hpr d' ((if d' ≤ d2 then d2 - d' else d2 + pr.length - d') + m2) (m - ((if d' ≤ d2 then d2 - d' else d2 + pr.length - d') + m2))
  have e5 : (if d' ≤ d2 then d2 - d' else d2 + pr.length - d') + m2 + (m - ((if d' ≤ d2 then d2 - d' else d2 + pr.length - d') + m2)) = m := by omega
  rw [e5, cyc_add] at h4
  have e6 : cyc pr (d' + (if d' ≤ d2 then d2 - d' else d2 + pr.length - d')) m2 = cyc pr d2 m2 := by
    rw [← cyc_mod]
    congr 1
    split
    · have : d' + (d2 - d') = d2 := by omega
      rw [this, Nat.mod_eq_of_lt hd2]
    · have : d' + (d2 + pr.length - d') = d2 + pr.length := by omega
      rw [this, Nat.add_mod_right, Nat.mod_eq_of_lt hd2]
  rw [e6] at h4
  have h7 := cyc_mono hpr d' 0 (if d' ≤ d2 then d2 - d' else d2 + pr.length - d')
  rw [Nat.zero_add] at h7
  have e8 : cyc pr d' 0 = 0 := rfl
  rw [h2] at e2
  omega
end Lay

/-! An edge more never makes the sum of the costs lower, or a component becomes wild. -/
namespace Lay
theorem To.exit {g : Nx} {P : List Nat} {u v : Nat} (t : To g u v) : u ∈ P → v ∉ P → ∃ x y, Ed g x y ∧ x ∈ P ∧ y ∉ P ∧ To g u x ∧ To g y v := by
  induction t with
  | refl => exact fun h1 h2 => absurd h1 h2
  | @head u w v e t ih =>
    intro h1 h2
    by_cases hw : w ∈ P
    · obtain ⟨x, y, h3, h4, h5, h6, h7⟩ := ih hw h2
      exact ⟨x, y, h3, h4, h5, .head e h6, h7⟩
    · exact ⟨u, w, e, h1, hw, .refl _, t⟩
theorem two_le {l : List Nat} {u v : Nat} (hu : u ∈ l) (hv : v ∈ l) (h : u ≠ v) : 2 ≤ l.length := by
  have := sub_len (l := [u, v]) (m := l) (List.nodup_cons.mpr ⟨fun hm => h (List.mem_singleton.mp hm), List.pairwise_singleton _ _⟩) fun x hx => by
    rcases List.mem_cons.mp hx with e | e
    · rw [e]; exact hu
    · rw [List.mem_singleton.mp e]; exact hv
  exact this
theorem le_two {l : List Nat} (hn : l.Nodup) (h : 2 ≤ l.length) : ∃ u v, u ∈ l ∧ v ∈ l ∧ u ≠ v := by
  have h0 : l[0]? = some (l[0]'(by omega)) := List.getElem?_eq_getElem _
  have h1 : l[1]? = some (l[1]'(by omega)) := List.getElem?_eq_getElem _
  refine ⟨_, _, List.mem_of_getElem? h0, List.mem_of_getElem? h1, fun e => ?_⟩
  rw [e] at h0
  have := nd_ix hn h0 h1
  omega
theorem knd_at {g : Nx} {P : List Nat} (h : 1 ≤ knd g P) : ∃ v ∈ P, (inn g P v).length = knd g P := by
  refine Classical.byContradiction fun hn => ?_
  have : knd g P ≤ knd g P - 1 := mxN_le fun y hy => by
    obtain ⟨w, hw, e⟩ := List.mem_map.mp hy
    have h1 := le_knd (g := g) hw
    by_cases h2 : (inn g P w).length = knd g P
    · exact absurd ⟨w, hw, h2⟩ hn
    · omega
  omega
theorem Mt.mono {g h : Nx} (hE : ∀ u v, Ed g u v → Ed h u v) {u v : Nat} (m : Mt g u v) : Mt h u v := ⟨m.1.mono hE, m.2.mono hE⟩
def Wild (g : Nx) (bs : List Nat) : Prop := ∃ b ∈ bs, 2 ≤ knd g (cls g b)
theorem wild_at {g : Nx} {bs : List Nat} (hC : Cover g bs) {x u v : Nat} (hx : x < g.length) (hu : u < g.length) (hv : v < g.length) (e1 : Ed g x u) (e2 : Ed g x v) (m1 : Mt g x u) (m2 : Mt g x v) (hn : u ≠ v) : Wild g bs := by
  obtain ⟨b, hb, hm⟩ := hC.all x hx
  have hxb : x ∈ cls g b := cls_mem.mpr ⟨hx, hm⟩
  exact ⟨b, hb, Nat.le_trans (two_le (inn_mem.mpr ⟨cls_mem.mpr ⟨hu, hm.trans m1⟩, e1⟩) (inn_mem.mpr ⟨cls_mem.mpr ⟨hv, hm.trans m2⟩, e2⟩) hn) (le_knd hxb)⟩
theorem Cover.nd {g : Nx} {bs : List Nat} (h : Cover g bs) : (bs.map (cls g)).Nodup := by
  refine List.pairwise_map.mpr (List.Pairwise.imp_of_mem (fun {a b} ha hb hn e => ?_) h.pw)
  have h1 : b ∈ cls g b := cls_mem.mpr ⟨h.lt b hb, .refl b⟩
  rw [← e] at h1
  exact hn (cls_mem.mp h1).2
section
variable {g h : Nx} {bs cs : List Nat} (hg : GOk g) (hh : GOk h) (hl : h.length = g.length) (hE : ∀ u v, Ed g u v → Ed h u v) (hB : Cover g bs) (hC : Cover h cs)
include hg hh hl hE hB hC
theorem wild_more (hw : Wild g bs) : Wild h cs := by
  obtain ⟨b, hb, hk⟩ := hw
  obtain ⟨x, hx, e⟩ := knd_at (g := g) (P := cls g b) (by omega)
  have hin : (inn g (cls g b) x).Nodup := (List.Pairwise.sublist List.filter_sublist ((cls_asc g b).imp fun h => Nat.ne_of_lt h))
  obtain ⟨u, v, hu, hv, hn⟩ := le_two hin (by omega)
  obtain ⟨hu1, hu2⟩ := inn_mem.mp hu
  obtain ⟨hv1, hv2⟩ := inn_mem.mp hv
  obtain ⟨x1, x2⟩ := cls_mem.mp hx
  obtain ⟨u1, u2⟩ := cls_mem.mp hu1
  obtain ⟨v1, v2⟩ := cls_mem.mp hv1
  exact wild_at hC (x := x) (u := u) (v := v) (by omega) (by omega) (by omega) (hE _ _ hu2) (hE _ _ hv2) ((x2.symm.trans u2).mono hE) ((x2.symm.trans v2).mono hE) hn
/-- a ring stays the same component, or one becomes wild -/
theorem ring_stays (hw : ¬ Wild h cs) {b : Nat} (hb : b < g.length) (hk : knd g (cls g b) = 1) : cls h b = cls g b := by
  have hP := ClP.cls hb
  have hr := hP.ring (fun u v e => (e.lt hg).2) hk
  have key : ∀ w, w < h.length → Mt h b w → w ∈ cls g b := fun w hw1 m => Classical.byContradiction fun hn => by
    have hbm : b ∈ cls g b := cls_mem.mpr ⟨hb, .refl b⟩
    obtain ⟨x, y, e, hx, hy, t1, t2⟩ := m.1.exit hbm hn
    obtain ⟨u, hu⟩ := hr x hx
    have hui : u ∈ inn g (cls g b) x := by rw [hu]; exact List.mem_singleton.mpr rfl
    obtain ⟨h1, h2⟩ := inn_mem.mp hui
    obtain ⟨x1, x2⟩ := cls_mem.mp hx
    obtain ⟨u1, u2⟩ := cls_mem.mp h1
    have mxy : Mt h x y := ⟨.one e, t2.trans (m.2.trans (x2.1.mono hE))⟩
    exact hw (wild_at hC (x := x) (u := u) (v := y) (by omega) (by omega) (e.lt hh).2 (hE _ _ h2) e ((x2.symm.trans u2).mono hE) mxy fun e2 => hy (by rw [← e2]; exact h1))
  unfold cls
  rw [hl]
  refine List.filter_congr fun w hw1 => ?_
  have hwl := List.mem_range.mp hw1
  by_cases hm : Mt g b w
  · rw [@decide_eq_true _ (Classical.propDecidable _) hm, @decide_eq_true _ (Classical.propDecidable _) (hm.mono hE)]
  · rw [@decide_eq_false _ (Classical.propDecidable _) hm, @decide_eq_false _ (Classical.propDecidable _) fun hm2 => hm (cls_mem.mp (key w (by omega) hm2)).2]
theorem ring_cost (hw : ¬ Wild h cs) {b : Nat} {pr : List Int} (hb : b < g.length) (hk : knd g (cls g b) = 1) (hpl : pr.length = g.length) (hpr : ∀ x ∈ pr, 1 ≤ x) : cst g pr (cls g b) ≤ cst h pr (cls g b) := by
  have hP := ClP.cls hb
  have hr := hP.ring (fun u v e => (e.lt hg).2) hk
  have ec := ring_stays hg hh hl hE hB hC hw hb hk
  have hP2 : ClP h (cls g b) := by rw [← ec]; exact ClP.cls (by omega)
  have hk2 : knd h (cls g b) = 1 := by
    obtain ⟨c, hc, m⟩ := hC.all b (by omega)
    have h1 : cls h c = cls g b := by rw [cls_eq m, ec]
    have h2 : ¬ 2 ≤ knd h (cls g b) := fun h3 => hw ⟨c, hc, by rw [h1]; exact h3⟩
    have hbm : b ∈ cls g b := cls_mem.mpr ⟨hb, .refl b⟩
    obtain ⟨u, hu⟩ := hr b hbm
    have hui : u ∈ inn g (cls g b) b := by rw [hu]; exact List.mem_singleton.mpr rfl
    obtain ⟨h4, h5⟩ := inn_mem.mp hui
    have h6 : u ∈ inn h (cls g b) b := inn_mem.mpr ⟨h4, hE _ _ h5⟩
    have := List.length_pos_of_mem h6
    have := le_knd (g := h) hbm
    omega
  have hr2 := hP2.ring (fun u v e => (e.lt hh).2) hk2
  have hin : ∀ v ∈ cls g b, inn h (cls g b) v = inn g (cls g b) v := fun v hv => by
    obtain ⟨u, hu⟩ := hr v hv
    obtain ⟨w, hw⟩ := hr2 v hv
    have hui : u ∈ inn g (cls g b) v := by rw [hu]; exact List.mem_singleton.mpr rfl
    obtain ⟨h4, h5⟩ := inn_mem.mp hui
    have h6 : u ∈ inn h (cls g b) v := inn_mem.mpr ⟨h4, hE _ _ h5⟩
    rw [hw] at h6
    rw [hw, hu, List.mem_singleton.mp h6]
  have horb : ∀ k, orb h (cls g b) k = orb g (cls g b) k := fun k => by
    induction k with
    | zero => rfl
    | succ k ih =>
      show (inn h (cls g b) (orb h (cls g b) k)).headD 0 = (inn g (cls g b) (orb g (cls g b) k)).headD 0
      rw [ih, hin _ (orb_mem hP.ne hr k)]
  have haro : aroP h (cls g b) = aroP g (cls g b) := by
    rw [aroP_eq hP.ne, aroP_eq hP.ne]
    exact List.map_congr_left fun k _ => horb k
  unfold cst
  rw [if_pos hk, if_pos hk2, haro]
  have hpl2 : (prA pr (aroP g (cls g b))).length = (aroP g (cls g b)).length := by unfold prA; rw [List.length_map]
  refine costP_doors (fun x hx => ?_) (drs_asc _ _) (drs_asc _ _) (fun d hd => by have := (drs_mem.mp hd).1; omega) (hP.drs_ne hg hk) fun d hd => ?_
  · obtain ⟨v, hv, rfl⟩ := List.mem_map.mp hx
    exact getD_nn (fun x hx => by have := hpr x hx; omega) v
  · obtain ⟨h1, h2⟩ := drs_mem.mp hd
    exact drs_mem.mpr ⟨h1, h2.imp id fun ⟨o, h3, h4⟩ => ⟨o, h3, hE _ _ h4⟩⟩
end
theorem sub_sum {f : List Nat → Int} : ∀ {l m : List (List Nat)}, l.Nodup → (∀ x ∈ l, x ∈ m) → (∀ x ∈ m, 0 ≤ f x) → (l.map f).sum ≤ (m.map f).sum
  | [], m, _, _, h => by
    show (0 : Int) ≤ _
    induction m with
    | nil => exact Int.le_refl _
    | cons x m ih =>
      rw [List.map_cons, List.sum_cons]
      have := h x (List.mem_cons_self ..)
      have := ih (fun x hx => nomatch hx) fun y hy => h y (List.mem_cons_of_mem x hy)
      omega
  | x :: l, m, hn, hs, h => by
    have hn2 := List.nodup_cons.mp hn
    have hx := hs x (List.mem_cons_self ..)
    have ih := sub_sum (f := f) (l := l) (m := m.erase x) hn2.2 (fun y hy => (List.mem_erase_of_ne fun e => hn2.1 (by rw [← e]; exact hy)).mpr (hs y (List.mem_cons_of_mem x hy))) fun y hy => h y (List.mem_of_mem_erase hy)
    have hp := (List.perm_cons_erase hx).map f
    have e : (m.map f).sum = ((x :: m.erase x).map f).sum := by
      have : ∀ {a b : List Int}, a.Perm b → a.sum = b.sum := fun h => by
        induction h with
        | nil => rfl
        | cons x _ ih => rw [List.sum_cons, List.sum_cons, ih]
        | swap x y l => rw [List.sum_cons, List.sum_cons, List.sum_cons, List.sum_cons]; omega
        | trans _ _ ih1 ih2 => exact ih1.trans ih2
      exact this hp
    rw [e, List.map_cons, List.map_cons, List.sum_cons, List.sum_cons]
    omega
theorem cst_nn {g : Nx} {pr : List Int} {P : List Nat} (hg : GOk g) (hP : ClP g P) (hpl : pr.length = g.length) (hpr : ∀ x ∈ pr, 1 ≤ x) : 0 ≤ cst g pr P := by
  unfold cst
  split
  · rename_i hk
    have hpl2 : (prA pr (aroP g P)).length = (aroP g P).length := by unfold prA; rw [List.length_map]
    refine costP_nn (fun x hx => ?_) (fun d hd => by have := (drs_mem.mp hd).1; omega) (hP.drs_ne hg hk)
    obtain ⟨v, hv, rfl⟩ := List.mem_map.mp hx
    exact getD_nn (fun x hx => by have := hpr x hx; omega) v
  · exact Int.le_refl _
theorem tot_more {g h : Nx} {bs cs : List Nat} {pr : List Int} (hg : GOk g) (hh : GOk h) (hl : h.length = g.length) (hE : ∀ u v, Ed g u v → Ed h u v) (hB : Cover g bs) (hC : Cover h cs) (hw : ¬ Wild h cs) (hpl : pr.length = g.length) (hpr : ∀ x ∈ pr, 1 ≤ x) :
    (bs.map fun b => cst g pr (cls g b)).sum ≤ (cs.map fun c => cst h pr (cls h c)).sum := by
  have e1 : (bs.map fun b => cst g pr (cls g b)).sum = ((bs.filter fun b => decide (knd g (cls g b) = 1)).map fun b => cst g pr (cls g b)).sum := by
    rw [filter_sum]
    refine congrArg List.sum (List.map_congr_left fun b _ => ?_)
    by_cases hk : knd g (cls g b) = 1
    · rw [if_pos (decide_eq_true hk)]
    · rw [if_neg (by rw [decide_eq_false hk]; decide)]
      unfold cst
      rw [if_neg hk]
  have hbl : ∀ b ∈ bs.filter fun b => decide (knd g (cls g b) = 1), b < g.length ∧ knd g (cls g b) = 1 := fun b hb => by
    obtain ⟨h1, h2⟩ := List.mem_filter.mp hb
    exact ⟨hB.lt b h1, of_decide_eq_true h2⟩
  have e2 : ((bs.filter fun b => decide (knd g (cls g b) = 1)).map fun b => cst g pr (cls g b)).sum ≤ ((bs.filter fun b => decide (knd g (cls g b) = 1)).map fun b => cst h pr (cls g b)).sum := by
    generalize (bs.filter fun b => decide (knd g (cls g b) = 1)) = l at hbl
    induction l with
    | nil => exact Int.le_refl _
    | cons b l ih =>
      rw [List.map_cons, List.map_cons, List.sum_cons, List.sum_cons]
      obtain ⟨h1, h2⟩ := hbl b (List.mem_cons_self ..)
      have := ring_cost hg hh hl hE hB hC hw h1 h2 hpl hpr
      have := ih fun c hc => hbl c (List.mem_cons_of_mem b hc)
      omega
  have e3 : ((bs.filter fun b => decide (knd g (cls g b) = 1)).map fun b => cst h pr (cls g b)).sum ≤ (cs.map fun c => cst h pr (cls h c)).sum := by
    have h1 : ((bs.filter fun b => decide (knd g (cls g b) = 1)).map fun b => cst h pr (cls g b)) = ((bs.filter fun b => decide (knd g (cls g b) = 1)).map (cls g)).map (cst h pr) := by
      rw [List.map_map]
      rfl
    have h2 : (cs.map fun c => cst h pr (cls h c)) = (cs.map (cls h)).map (cst h pr) := by
      rw [List.map_map]
      rfl
    rw [h1, h2]
    refine sub_sum (List.Pairwise.sublist (List.filter_sublist.map _) hB.nd) (fun P hP => ?_) fun P hP => ?_
    · obtain ⟨b, hb, rfl⟩ := List.mem_map.mp hP
      obtain ⟨h3, h4⟩ := hbl b hb
      obtain ⟨c, hc, m⟩ := hC.all b (by omega)
      rw [← ring_stays hg hh hl hE hB hC hw h3 h4, ← cls_eq m]
      exact List.mem_map_of_mem hc
    · obtain ⟨c, hc, rfl⟩ := List.mem_map.mp hP
      exact cst_nn hh (ClP.cls (hC.lt c hc)) (by omega) hpr
  omega
theorem tot_price {g : Nx} {bs : List Nat} {pr : List Int} {i : Nat} {x : Int} (hg : GOk g) (hB : Cover g bs) (hpl : pr.length = g.length) (hi : i < g.length) (hx : 0 ≤ x) :
    (bs.map fun b => cst g pr (cls g b)).sum ≤ (bs.map fun b => cst g (pr.set i (pr.getD i 0 + x)) (cls g b)).sum ∧ (bs.map fun b => cst g (pr.set i (pr.getD i 0 + x)) (cls g b)).sum ≤ (bs.map fun b => cst g pr (cls g b)).sum + x :=
  sum_one_more (q := fun b => i ∈ cls g b) hx (fun b hb => cst_set hg (ClP.cls (hB.lt b hb)) hpl hi hx) (hB.pw.imp fun {a b} hn h => hn ((cls_mem.mp h.1).2.trans (cls_mem.mp h.2).2.symm))
end Lay

/-! The promises of the law's own components, rings and sums. -/
namespace K62
open PySem PySem.Spec PyProof.Rows L2 Fw Lay
/-- what leads where, as a table -/
def RchOk (g : Nx) (ms : List (List Bool)) : Prop := ms.length = g.length ∧ ∀ i : Nat, i < g.length → ∃ m, ms[i]? = some m ∧ ∀ j : Nat, j < g.length → ∃ c, m[j]? = some c ∧ (c = true ↔ To g i j)
abbrev Bs := List (Addr × List Bool)
abbrev refB (zs : Bs) : List V := zs.map fun z => V.ref z.1
def sp_l_reach (K : PySem.W.Frag) : Sp := fun vs H Q _ => ∃ (a : Addr) (rs : Rx), vs = [.ref a] ∧ SqL K H a (refR rs) ∧ RwOk H rs ∧ RsOk rs ∧ rs.length < 64 ∧
  ∀ (H2 : Hp) (p : Addr) (ms : Bs), Same H H2 → H p = none → H2 p = some (.lst (refB ms)) → (∀ z ∈ ms, H2 z.1 = some (.lst (z.2.map V.bl))) → RchOk (sxr rs) (ms.map (·.2)) → Q (.ref p) H2
def sp_l_parts (K : PySem.W.Frag) : Sp := fun vs H Q _ => ∃ (a : Addr) (rs : Rx), vs = [.ref a] ∧ SqL K H a (refR rs) ∧ RwOk H rs ∧ RsOk rs ∧ rs.length < 64 ∧
  ∀ (H2 : Hp) (p : Addr) (ws : Ws) (bs : List Nat), Same H H2 → H p = none → H2 p = some (.lst (refL ws)) → ws.map (·.2) = bs.map (fun b => nmap (cls (sxr rs) b)) → COrd (sxr rs) bs → (∀ z ∈ ws, H2 z.1 = some (ilst z.2)) → Q (.ref p) H2
def sp_l_inner (K : PySem.W.Frag) : Sp := fun vs H Q _ => ∃ (a b : Addr) (rs : Rx) (P : List Nat) (v : Nat), vs = [.ref a, .ref b, .int (v : Int)] ∧ SqL K H a (refR rs) ∧ RwOk H rs ∧ SqL K H b ((nmap P).map V.int) ∧ P.Pairwise (· < ·) ∧ v < rs.length ∧ (∀ l ∈ sxr rs, l.length ≤ 4) ∧
  ∀ (H2 : Hp) (p : Addr), Same H H2 → H p = none → H2 p = some (ilst (nmap (inn (sxr rs) P v))) → Q (.ref p) H2
def sp_l_kind (K : PySem.W.Frag) : Sp := fun vs H Q _ => ∃ (a b : Addr) (rs : Rx) (P : List Nat), vs = [.ref a, .ref b] ∧ SqL K H a (refR rs) ∧ RwOk H rs ∧ SqL K H b ((nmap P).map V.int) ∧ P.Pairwise (· < ·) ∧ P ≠ [] ∧ P.length ≤ 1000 ∧ (∀ v ∈ P, v < rs.length) ∧ (∀ l ∈ sxr rs, l.length ≤ 4) ∧
  ∀ H2 : Hp, Same H H2 → Q (.str (kindS (knd (sxr rs) P))) H2
def sp_l_around (K : PySem.W.Frag) : Sp := fun vs H Q _ => ∃ (a b : Addr) (rs : Rx) (P : List Nat), vs = [.ref a, .ref b] ∧ SqL K H a (refR rs) ∧ RwOk H rs ∧ RsOk rs ∧ SqL K H b ((nmap P).map V.int) ∧ ClP (sxr rs) P ∧ knd (sxr rs) P = 1 ∧
  ∀ (H2 : Hp) (p : Addr), Same H H2 → H p = none → H2 p = some (ilst (nmap (aroP (sxr rs) P))) → Q (.ref p) H2
def sp_l_doors (K : PySem.W.Frag) : Sp := fun vs H Q _ => ∃ (a b : Addr) (rs : Rx) (A : List Nat), vs = [.ref a, .ref b] ∧ SqL K H a (refR rs) ∧ RwOk H rs ∧ rs.length ≤ 1000 ∧ SqL K H b ((nmap A).map V.int) ∧ A.length ≤ 1000 ∧
  ∀ (H2 : Hp) (p : Addr), Same H H2 → H p = none → H2 p = some (ilst (nmap (drs (sxr rs) A))) → Q (.ref p) H2
def sp_l_far (K : PySem.W.Frag) : Sp := fun vs H Q _ => ∃ (a : Addr) (pr : List Int) (i j : Nat), vs = [.ref a, .int (i : Int), .int (j : Int)] ∧ SqL K H a (pr.map V.int) ∧ pr.length ≤ 1000 ∧ i < pr.length ∧ j < pr.length ∧ Q (.int (cyc pr i ((j + pr.length - i) % pr.length))) H
def sp_l_gap (K : PySem.W.Frag) : Sp := fun vs H Q _ => ∃ (a b : Addr) (pr : List Int) (D : List Nat) (k : Nat), vs = [.ref a, .ref b, .int (k : Int)] ∧ SqL K H a (pr.map V.int) ∧ pr.length ≤ 1000 ∧ SqL K H b ((nmap D).map V.int) ∧ DsN pr.length D ∧ k < D.length ∧ Q (.int (gapP pr D k)) H
def sp_l_cost (K : PySem.W.Frag) : Sp := fun vs H Q _ => ∃ (a b : Addr) (pr : List Int) (D : List Nat), vs = [.ref a, .ref b] ∧ SqL K H a (pr.map V.int) ∧ pr.length ≤ 1000 ∧ SqL K H b ((nmap D).map V.int) ∧ DsN pr.length D ∧ ∀ H2 : Hp, Same H H2 → Q (.int (costP pr D)) H2
def sp_l_value (K : PySem.W.Frag) : Sp := fun vs H Q _ => ∃ (a b : Addr) (rs : Rx) (ws : Ws) (bs : List Nat), vs = [.ref a, .ref b] ∧ SqL K H a (refR rs) ∧ RwOk H rs ∧ RsOk rs ∧ rs.length < 64 ∧ SqL K H b (refL ws) ∧ (∀ z ∈ ws, H z.1 = some (ilst z.2)) ∧ ws.map (·.2) = bs.map (fun b => nmap (cls (sxr rs) b)) ∧ Cover (sxr rs) bs ∧
  ∀ H2 : Hp, Same H H2 → Q (.int (wor (sxr rs) (pxr rs) bs)) H2
def sp_l_is_worth (K : PySem.W.Frag) : Sp := fun vs H Q _ => ∃ (x : V) (w : Int), vs = [x, .int w] ∧ WorV x w ∧ Q (.bl true) H
def sp_l_dearer (K : PySem.W.Frag) : Sp := fun vs H Q _ => ∃ (a : Addr) (rs : Rx) (i : Nat) (q : Addr × Addr × Rw) (x : Int), vs = [.ref a, .int (i : Int), .int x] ∧ SqL K H a (refR rs) ∧ RwOk H rs ∧ rs[i]? = some q ∧ rs.length ≤ 1000 ∧
  ∀ (H2 : Hp) (p t : Addr), Same H H2 → H p = none → H2 p = some (.lst (refR (rs.set i (t, q.2.1, q.2.2.1, q.2.2.2.1 + x, q.2.2.2.2)))) → RwOk H2 (rs.set i (t, q.2.1, q.2.2.1, q.2.2.2.1 + x, q.2.2.2.2)) → Q (.ref p) H2
def sp_l_wider (K : PySem.W.Frag) : Sp := fun vs H Q _ => ∃ (a : Addr) (rs : Rx) (i : Nat) (q : Addr × Addr × Rw) (x : Int), vs = [.ref a, .int (i : Int), .int x] ∧ SqL K H a (refR rs) ∧ RwOk H rs ∧ rs[i]? = some q ∧ rs.length ≤ 1000 ∧ q.2.2.2.2.length ≤ 4 ∧
  ∀ (H2 : Hp) (p t u : Addr), Same H H2 → H p = none → H2 p = some (.lst (refR (rs.set i (t, u, q.2.2.1, q.2.2.2.1, q.2.2.2.2 ++ [x])))) → RwOk H2 (rs.set i (t, u, q.2.2.1, q.2.2.2.1, q.2.2.2.2 ++ [x])) → Q (.ref p) H2
def sp_l_free (K : PySem.W.Frag) : Sp := fun vs H Q _ => ∃ (a : Addr) (rs : Rx) (f : Int), vs = [.ref a, .int f] ∧ SqL K H a (refR rs) ∧ RwOk H rs ∧ 0 ≤ f ∧ rs.length ≤ 1000 ∧
  ∀ r : Int, ((∃ (n : Nat) (q : Addr × Addr × Rw), r = n ∧ rs[n]? = some q ∧ q.2.2.2.2.length < 4) ∨ r = -1) → Q (.int r) H
def sp_l_later (K : PySem.W.Frag) : Sp := fun vs H Q _ => ∃ (a : Addr) (ws : Ws) (s : Nat) (n : Nat), vs = [.ref a, .int (s : Int)] ∧ SqL K H a (refL ws) ∧ (∀ z ∈ ws, H z.1 = some (ilst z.2)) ∧ (∀ z ∈ ws, (z.2.length ≤ 100 ∧ ∀ t ∈ z.2, 0 ≤ t ∧ t < (n : Int))) ∧ ws.length ≤ 64 ∧
  ∀ (H2 : Hp) (p : Addr) (ts : List Int), Same H H2 → H p = none → H2 p = some (ilst ts) → ts ≠ [] → (∀ t ∈ ts, t = -1 ∨ (0 ≤ t ∧ t < (n : Int))) → Q (.ref p) H2
def sp_l_rises (K : PySem.W.Frag) : Sp := fun vs H Q _ => ∃ b a x : Int, vs = [.int b, .int a, .int x] ∧ ((b < 0 ∧ a < 0) ∨ (0 ≤ b ∧ b ≤ a ∧ a ≤ b + x)) ∧ Q (.bl true) H
def sp_l_not_lower (K : PySem.W.Frag) : Sp := fun vs H Q _ => ∃ b a : Int, vs = [.int b, .int a] ∧ ((b < 0 ∧ a < 0) ∨ (0 ≤ b ∧ (a < 0 ∨ b ≤ a))) ∧ Q (.bl true) H
def sp_law (K : PySem.W.Frag) : Sp := fun vs H Q _ => ∃ (a : Addr) (ns : List Int), vs = [.ref a] ∧ SqL K H a (ns.map V.int) ∧ ns.length ≤ 63 ∧ ∀ H2 : Hp, Q (.bl true) H2
end K62

namespace K62
open PySem PySem.Spec PyProof.Rows L2 Fw Lay
section
variable {P : Program} {w : World} {K : PySem.W.Frag} {mg : Str → Option Value} {base : Heap}
theorem ok_is_name (T : Txt K mg) : Good P w K mg base 1 (He.ga K "is_name") ["text"] [] (sp_is_name K) := by
  refine good_of T.f_is_name sc_is_name (fun vs H Q E h => ?_) (fun _ _ _ _ _ _ us hl => match us, hl with | [_], _ => rfl) (fun cdv A outer s H vs Q E hr h => ?_)
  · obtain ⟨_, rfl, _⟩ := h
    rfl
  refine ⟨_, (pss_cons (ps_if (pt_not (pt_chain op_le op_le pe_int (pe_callB call_len_str (by rfl) T.z_len (by decide +kernel) (pa_cons (pv 0) pa_nil)) pe_int))
    (pss_one (ps_ret pe_bl))
    pss_nil)
  (pss_cons (ps_for PassesOwn.never rfl (pi_str (pv 0)) (pg_name (i := 1) sc_is_name.nd rfl (Or.inl rfl))
    (pss_one (ps_if (pt_cmpR op_notIn_sign (pv 1) pe_str (by rfl))
    (pss_one (ps_ret pe_bl))
    pss_nil)))
  (pss_one (ps_ret pe_bl)))), ?_⟩
  obtain ⟨x, rfl, ⟨h1, h2, h3⟩, q⟩ := h
  have hl : x.length = (x.cps.size : Nat) := rfl
  refine ⟨_, rfl, x, rfl, Nat.le_trans (show x.length ≤ 8 by rw [hl]; omega) (by decide), _, _, rfl, rfl, _, rfl, ifT (by rw [hl]; omega) ⟨_, _, rfl, rfl, _, rfl, ?_⟩⟩
  refine ifNF (show (x.length : Int) ≤ 8 by rw [hl]; omega) ?_
  refine ⟨_, rfl, x, rfl, for_it (walk_str (z := x)) (fun i σ H2 => H2 = H ∧ ∃ y, σ = [some (.str x), y]) ⟨rfl, none, rfl⟩ (fun _ _ _ _ _ => trivial) ?_ ?_⟩
  · rintro i v σ H2 H3 hi ⟨rfl, y, rfl⟩ ⟨rfl, c, hc, rfl⟩
    have hcm : c ∈ x.cps.toList := by
      rw [Array.mem_toList_iff]
      exact Array.mem_of_getElem? hc
    refine ⟨_, rfl, c, _, rfl, rfl, _, rfl, ?_⟩
    exact ifNF (h3 c hcm) ⟨rfl, _, rfl⟩
  · rintro σ H2 ⟨rfl, y, rfl⟩
    exact q
theorem ok_distinct (T : Txt K mg) : Good P w K mg base 1 (He.ga K "distinct") ["row"] [] (sp_distinct K) := by
  refine good_of T.f_distinct sc_distinct (fun vs H Q E h => ?_) (fun _ _ _ _ _ _ us hl => match us, hl with | [_], _ => rfl) (fun cdv A outer s H vs Q E hr h => ?_)
  · obtain ⟨_, _, rfl, _⟩ := h
    rfl
  refine ⟨_, (pss_one (ps_ret (pe_callB (cr_sortedSet rfl) (by rfl) T.z_sorted (by decide +kernel) (pa_cons (pe_callTy (cr_setL rfl) (by rfl) T.z_set (by decide +kernel) (pa_cons (pv 0) pa_nil)) pa_nil)))), ?_⟩
  obtain ⟨a, ns, rfl, hS, hl, q⟩ := h
  refine ⟨.ref a, rfl, a, ns, rfl, hS, ?_, fun b c nb hc => ?_⟩
  · have : scanBound = 4096 := rfl
    omega
  refine ⟨b, _, c, rfl, upd_same, by omega, fun ds p pw mem _ np => ?_⟩
  refine q _ p ds ?_ ?_ upd_same pw fun x => ?_
  · exact (same_new nb).trans (same_new np)
  · exact (same_new nb).free np
  · rw [mem]
    exact decide_eq_true_iff
theorem ok_Graph_price (T : Txt K mg) : Good P w K mg base 1 (He.ma K (He.ga K "Graph") "price") ["self", "node"] [] (sp_Graph_price K) := by
  refine good_of T.f_Graph_price sc_Graph_price (fun vs H Q E h => ?_) (fun _ _ _ _ _ _ us hl => match us, hl with | [_, _], _ => rfl) (fun cdv A outer s H vs Q E hr h => ?_)
  · obtain ⟨_, _, _, _, rfl, _⟩ := h
    rfl
  refine ⟨_, (pss_one (ps_ret (pe_ix ix_tup (pe_ix ix_tup (pe_fld (pv 0) rfl) (pv 1) (fun _ _ => rfl)) pe_int (fun _ _ => rfl)))), ?_⟩
  obtain ⟨g, rs, i, qr, rfl, ⟨dx, ra, h1, h2, h3⟩, hq, q⟩ := h
  exact ⟨_, rfl, g, _, dx, _, _, rfl, h1, T.cl_Graph, T.na_Graph_rows, rfl, _, rfl, ra, _, _, _, rfl, rfl, SqT.of h2, atI_nat (get_refR hq), qr.1, _, 1, _, rfl, rfl, SqT.of (h3 qr (List.mem_of_getElem? hq)).1, rfl, q⟩
theorem ok_Graph_successors (T : Txt K mg) : Good P w K mg base 1 (He.ma K (He.ga K "Graph") "successors") ["self", "node"] [] (sp_Graph_successors K) := by
  refine good_of T.f_Graph_successors sc_Graph_successors (fun vs H Q E h => ?_) (fun _ _ _ _ _ _ us hl => match us, hl with | [_, _], _ => rfl) (fun cdv A outer s H vs Q E hr h => ?_)
  · obtain ⟨_, _, _, _, rfl, _⟩ := h
    rfl
  refine ⟨_, (pss_one (ps_ret (pe_ix ix_tup (pe_ix ix_tup (pe_fld (pv 0) rfl) (pv 1) (fun _ _ => rfl)) pe_int (fun _ _ => rfl)))), ?_⟩
  obtain ⟨g, rs, i, qr, rfl, ⟨dx, ra, h1, h2, h3⟩, hq, q⟩ := h
  exact ⟨_, rfl, g, _, dx, _, _, rfl, h1, T.cl_Graph, T.na_Graph_rows, rfl, _, rfl, ra, _, _, _, rfl, rfl, SqT.of h2, atI_nat (get_refR hq), qr.1, _, 2, _, rfl, rfl, SqT.of (h3 qr (List.mem_of_getElem? hq)).1, rfl, q⟩
end
end K62

namespace K62
open PySem PySem.Spec PyProof.Rows L2 Fw Lay
section
variable {P : Program} {w : World} {K : PySem.W.Frag} {mg : Str → Option Value} {base : Heap}
theorem ok_is_good_row (T : Txt K mg) : Good P w K mg base 2 (He.ga K "is_good_row") ["row", "size"] [] (sp_is_good_row K) := by
  refine good_of T.f_is_good_row sc_is_good_row (fun vs H Q E h => ?_) (fun _ _ _ _ _ _ us hl => match us, hl with | [_, _], _ => rfl) (fun cdv A outer s H vs Q E hr h => ?_)
  · obtain ⟨_, _, rfl, _⟩ := h
    rfl
  refine ⟨_, (pss_cons (ps_if (pw_or (pt_not (pt_val (pe_cg (ok_is_name T) (hr.mono (j := 1) (by decide)) (by rfl) T.g_is_name (pa_cons (pe_ix ix_tup (pv 0) pe_int (fun _ _ => rfl)) pa_nil)))) (pw_or1 (pt_cmpR op_lt (pe_ix ix_tup (pv 0) pe_int (fun _ _ => rfl)) pe_int (nomark _)))).pt
    (pss_one (ps_ret pe_bl))
    pss_nil)
  (pss_cons (ps_if (pt_not (pt_chain op_le op_le pe_int (pe_callB call_len_seq (by rfl) T.z_len (by decide +kernel) (pa_cons (pe_ix ix_tup (pv 0) pe_int (fun _ _ => rfl)) pa_nil)) pe_int))
    (pss_one (ps_ret pe_bl))
    pss_nil)
  (pss_cons (ps_for PassesOwn.never rfl (pi_tup (pe_ix ix_tup (pv 0) pe_int (fun _ _ => rfl))) (pg_name (i := 2) sc_is_good_row.nd rfl (Or.inl rfl))
    (pss_one (ps_if (pw_and (pt_cmpR op_ne (pv 2) (pe_glob (v := .int (-1)) (by rfl) T.k_END.choose_spec ⟨_, rfl⟩) (nomark _)) (pw_and1 (pt_not (pt_chain op_le op_lt pe_int (pv 2) (pv 1))))).pt
    (pss_one (ps_ret pe_bl))
    pss_nil)))
  (pss_one (ps_ret pe_bl))))), ?_⟩
  obtain ⟨qr, n, rfl, hrw, hnm, hp, ⟨hr1, hr2, hr3⟩, q⟩ := h
  obtain ⟨h1, h2⟩ := hrw qr (List.mem_singleton.mpr rfl)
  have hT : SqT K H qr.1 [.str qr.2.2.1, .int qr.2.2.2.1, .ref qr.2.1] := SqT.of h1
  have hU : SqT K H qr.2.1 (qr.2.2.2.2.map V.int) := SqT.of h2
  refine ⟨_, rfl, qr.1, _, 0, _, rfl, rfl, hT, rfl, qr.2.2.1, rfl, hnm, true, rfl, iteF ⟨_, rfl, qr.1, _, 1, _, rfl, rfl, hT, rfl, _, _, rfl, rfl, _, rfl, ifF (by omega) ?_⟩⟩
  refine ⟨_, rfl, qr.1, _, 2, _, rfl, rfl, hT, rfl, qr.2.1, _, rfl, .inr hU, _, _, rfl, rfl, _, rfl, ifT (by rw [List.length_map]; omega) ⟨_, _, rfl, rfl, _, rfl, ifNF (show (((qr.2.2.2.2.map V.int).length : Nat) : Int) ≤ 4 by rw [List.length_map]; omega) ?_⟩⟩
  refine ⟨_, rfl, qr.1, _, 2, _, rfl, rfl, hT, rfl, qr.2.1, rfl, ⟨_, hU⟩, for_it (walk_tup (K := K) (a := qr.2.1) (xs := qr.2.2.2.2.map V.int)) (fun i σ H2 => H2 = H ∧ ∃ y, σ = [some (.ref qr.1), some (.int (n : Int)), y]) ⟨rfl, none, rfl⟩ (fun i σ H2 _ h => by rw [h.1]; exact hU) ?_ ?_⟩
  · rintro i x σ H2 H3 hi ⟨rfl, y, rfl⟩ ⟨rfl, hx⟩
    obtain ⟨t, ht, rfl⟩ := map_get hx
    have h3 := hr3 t (List.mem_of_getElem? ht)
    by_cases he : t = -1
    · exact ⟨_, rfl, rfl, _, rfl, ifNF (by rw [he]) ⟨rfl, _, rfl⟩⟩
    · refine ⟨_, rfl, rfl, _, rfl, ifNT (int_ne he) ⟨_, rfl, _, _, rfl, rfl, _, rfl, ifT (by omega) ⟨_, rfl, _, _, rfl, rfl, _, rfl, ifNF (show t < (n : Int) by omega) ⟨rfl, _, rfl⟩⟩⟩⟩
  · rintro σ H2 ⟨rfl, y, rfl⟩
    exact q
theorem ok_check_rows (T : Txt K mg) : Good P w K mg base 3 (He.ga K "check_rows") ["rows"] [] (sp_check_rows K) := by
  refine good_of T.f_check_rows sc_check_rows (fun vs H Q E h => ?_) (fun _ _ _ _ _ _ us hl => match us, hl with | [_], _ => rfl) (fun cdv A outer s H vs Q E hr h => ?_)
  · obtain ⟨_, _, rfl, _⟩ := h
    rfl
  refine ⟨_, (pss_cons (ps_if (pt_cmpR op_eq (pe_callB call_len_seq (by rfl) T.z_len (by decide +kernel) (pa_cons (pv 0) pa_nil)) pe_int (nomark _))
    (pss_one ps_never)
    pss_nil)
  (pss_one (ps_for PassesOwn.never rfl (pi_range1 (by rfl) T.z_range (pa_cons (pe_callB call_len_seq (by rfl) T.z_len (by decide +kernel) (pa_cons (pv 0) pa_nil)) pa_nil)) (pg_name (i := 1) sc_check_rows.nd rfl (Or.inl rfl))
    (pss_one (ps_if (pt_not (pt_val (pe_cg (ok_is_good_row T) (hr.mono (j := 2) (by decide)) (by rfl) T.g_is_good_row (pa_cons (pe_ix ix_list (pv 0) (pv 1) (fun _ _ => rfl)) (pa_cons (pe_callB call_len_seq (by rfl) T.z_len (by decide +kernel) (pa_cons (pv 0) pa_nil)) pa_nil)))))
    (pss_one ps_never)
    pss_nil))))), ?_⟩
  obtain ⟨a, rs, rfl, hS, hrw, hok, q⟩ := h
  have hlen : (refR rs).length = rs.length := List.length_map ..
  have hpos : 0 < rs.length := by rw [← sxr_len]; exact hok.g.pos
  have hfew := hok.few
  refine ⟨.ref a, rfl, a, _, rfl, .inl hS, rfl, _, rfl, ifF (int_ne (by omega)) ?_⟩
  refine ⟨.ref a, rfl, a, _, rfl, .inl hS, ((refR rs).length : Nat), rfl, by omega, by omega, for_range (n := (refR rs).length) (fun i σ H2 => H2 = H ∧ ∃ y, σ = [some (.ref a), y]) ⟨rfl, none, rfl⟩ ?_ ?_⟩
  · rintro i σ H2 hi ⟨rfl, y, rfl⟩
    have hi2 : i < rs.length := by omega
    have hq : rs[i]? = some rs[i] := List.getElem?_eq_getElem hi2
    have hqm := List.getElem_mem hi2
    refine ⟨_, rfl, _, rfl, a, _, _, _, rfl, rfl, hS, atI0 (get_refR hq), .ref a, rfl, a, _, rfl, .inl hS, rs[i], (refR rs).length, rfl, fun z hz => by rw [List.mem_singleton.mp hz]; exact hrw _ hqm, (hok.nm _ hqm).1, (hok.nm _ hqm).2, ?_, true, rfl, iteF ⟨rfl, _, rfl⟩⟩
    have := hok.g.rows _ (List.mem_of_getElem? (get_sxr hq))
    rw [sxr_len] at this
    rw [hlen]
    exact this
  · rintro σ H2 ⟨rfl, y, rfl⟩
    exact q
end
end K62

/-! What a queue finds. -/
namespace Lay
/-- going through the graph from f: qs found, k of them looked at -/
structure Bq (g : Nx) (f : Nat) (m : List Bool) (qs : List Nat) (k : Nat) : Prop where
  len : m.length = g.length
  nd : qs.Nodup
  ok : ∀ v ∈ qs, v < g.length ∧ To g f v
  mks : ∀ v, v < g.length → ∃ c, m[v]? = some c ∧ (c = true ↔ v ∈ qs)
  cl : ∀ v ∈ qs.take k, ∀ u, Ed g v u → u ∈ qs
  fq : f ∈ qs
theorem Bq.few {g : Nx} {f k : Nat} {m : List Bool} {qs : List Nat} (h : Bq g f m qs k) : qs.length ≤ g.length := by
  have := sub_len (l := qs) (m := List.range g.length) h.nd fun v hv => List.mem_range.mpr (h.ok v hv).1
  rw [List.length_range] at this
  exact this
theorem Bq.start {g : Nx} {f : Nat} (hf : f < g.length) : Bq g f ((List.replicate g.length false).set f true) [f] 0 := by
  refine ⟨by rw [List.length_set, List.length_replicate], List.pairwise_singleton _ _, fun v hv => ?_, fun v hv => ?_, fun v hv => (nomatch hv), List.mem_singleton.mpr rfl⟩
  · rw [List.mem_singleton.mp hv]
    exact ⟨hf, .refl _⟩
  · rw [List.getElem?_set, List.length_replicate]
    by_cases e : f = v
    · rw [if_pos e, if_pos hf]
      exact ⟨true, rfl, fun _ => List.mem_singleton.mpr e.symm, fun _ => rfl⟩
    · rw [if_neg e, List.getElem?_replicate, if_pos hv]
      exact ⟨false, rfl, fun h => (nomatch h), fun h => absurd (List.mem_singleton.mp h).symm e⟩
theorem Bq.push {g : Nx} {f k x v : Nat} {m : List Bool} {qs : List Nat} (h : Bq g f m qs k) (hk : k ≤ qs.length) (hv : v ∈ qs) (e : Ed g v x) (hx : x < g.length) (hn : x ∉ qs) : Bq g f (m.set x true) (qs ++ [x]) k := by
  refine ⟨by rw [List.length_set]; exact h.len, List.nodup_append.mpr ⟨h.nd, List.pairwise_singleton _ _, fun a ha b hb e => hn (by rw [← List.mem_singleton.mp hb, ← e]; exact ha)⟩, fun u hu => ?_, fun u hu => ?_, fun u hu w hw => ?_, List.mem_append_left _ h.fq⟩
  · rcases List.mem_append.mp hu with hu | hu
    · exact h.ok u hu
    · rw [List.mem_singleton.mp hu]
      exact ⟨hx, (h.ok v hv).2.trans (.one e)⟩
  · rw [List.getElem?_set]
    by_cases e2 : x = u
    · rw [if_pos e2, if_pos (by rw [h.len]; exact hx)]
      exact ⟨true, rfl, fun _ => List.mem_append_right _ (List.mem_singleton.mpr e2.symm), fun _ => rfl⟩
    · rw [if_neg e2]
      obtain ⟨c, h1, h2⟩ := h.mks u hu
      refine ⟨c, h1, h2.trans ⟨fun h => List.mem_append_left _ h, fun h => (List.mem_append.mp h).elim id fun h => absurd (List.mem_singleton.mp h).symm e2⟩⟩
  · rw [List.take_append_of_le_length hk] at hu
    exact List.mem_append_left _ (h.cl u hu w hw)
theorem Bq.done {g : Nx} {f : Nat} {m : List Bool} {qs : List Nat} (h : Bq g f m qs g.length) : ∀ v, v < g.length → ∃ c, m[v]? = some c ∧ (c = true ↔ To g f v) := fun v hv => by
  obtain ⟨c, h1, h2⟩ := h.mks v hv
  refine ⟨c, h1, h2.trans ⟨fun h3 => (h.ok v h3).2, fun t => ?_⟩⟩
  have hcl : ∀ v ∈ qs, ∀ u, Ed g v u → u ∈ qs := fun v hv u e => h.cl v (by rw [List.take_of_length_le h.few]; exact hv) u e
  have key : ∀ u v, To g u v → u ∈ qs → v ∈ qs := fun u v t => by
    induction t with
    | refl => exact id
    | head e _ ih => exact fun hu => ih (hcl _ hu _ e)
  exact key f v t h.fq
end Lay

namespace K62
open PySem PySem.Spec PyProof.Rows L2 Fw Lay
section
variable {P : Program} {w : World} {K : PySem.W.Frag} {mg : Str → Option Value} {base : Heap}
theorem nmL (l : List Nat) : ((nmap l).map V.int).length = l.length := by unfold nmap; rw [List.length_map, List.length_map]
theorem nmG {l : List Nat} {i k : Nat} (h : l[i]? = some k) : ((nmap l).map V.int)[i]? = some (.int (k : Int)) := by
  unfold nmap
  rw [List.map_map, List.getElem?_map, h]
  rfl
theorem ok_l_reach (T : Txt K mg) : Good P w K mg base 1 (He.ga K "_law_reach") ["_law_rows"] [] (sp_l_reach K) := by
  refine good_of T.f_l_reach sc_l_reach (fun vs H Q E h => ?_) (fun _ _ _ _ _ _ us hl => match us, hl with | [_], _ => rfl) (fun cdv A outer s H vs Q E hr h => ?_)
  · obtain ⟨_, _, rfl, _⟩ := h
    rfl
  refine ⟨_, (pss_cons (ps_set (i := 1) sc_l_reach.nd rfl (Or.inl rfl) (pe_lst pa_nil))
  (pss_cons (ps_for PassesOwn.never rfl (pi_range1 (by rfl) T.z_range (pa_cons (pe_callB call_len_seq (by rfl) T.z_len (by decide +kernel) (pa_cons (pv 0) pa_nil)) pa_nil)) (pg_name (i := 2) sc_l_reach.nd rfl (Or.inl rfl))
    (pss_cons (ps_set (i := 3) sc_l_reach.nd rfl (Or.inl rfl) (pe_op op_rep (pe_lst (pa_cons pe_bl pa_nil)) (pe_callB call_len_seq (by rfl) T.z_len (by decide +kernel) (pa_cons (pv 0) pa_nil))))
  (pss_cons (ps_asg pe_bl (pg_sub (pv 3) (pv 2) set_list))
  (pss_cons (ps_set (i := 4) sc_l_reach.nd rfl (Or.inl rfl) (pe_lst (pa_cons (pv 2) pa_nil)))
  (pss_cons (ps_for PassesOwn.never rfl (pi_range1 (by rfl) T.z_range (pa_cons (pe_callB call_len_seq (by rfl) T.z_len (by decide +kernel) (pa_cons (pv 0) pa_nil)) pa_nil)) (pg_name (i := 5) sc_l_reach.nd rfl (Or.inl rfl))
    (pss_one (ps_if (pt_cmpR op_lt (pv 5) (pe_callB call_len_seq (by rfl) T.z_len (by decide +kernel) (pa_cons (pv 4) pa_nil)) (nomark _))
    (pss_one (ps_for PassesOwn.never rfl (pi_tup (pe_ix ix_tup (pe_ix ix_list (pv 0) (pe_ix ix_list (pv 4) (pv 5) (fun _ _ => rfl)) (fun _ _ => rfl)) pe_int (fun _ _ => rfl))) (pg_name (i := 6) sc_l_reach.nd rfl (Or.inl rfl))
    (pss_one (ps_if (pw_and (pt_cmpR op_ge (pv 6) pe_int (nomark _)) (pw_and1 (pt_not (pt_val (pe_ix ix_list (pv 3) (pv 6) (fun _ _ => rfl)))))).pt
    (pss_cons (ps_asg pe_bl (pg_sub (pv 3) (pv 6) set_list))
  (pss_one (ps_expr (pe_bm PySem.F.plainAttrs_list PySem.F.slot_list_append PySem.F.type_list_append mt_append (pv 4) (pa_cons (pv 6) pa_nil)))))
    pss_nil))))
    pss_nil)))
  (pss_one (ps_expr (pe_bm PySem.F.plainAttrs_list PySem.F.slot_list_append PySem.F.type_list_append mt_append (pv 1) (pa_cons (pv 3) pa_nil)))))))))
  (pss_one (ps_ret (pv 1))))), ?_⟩
  obtain ⟨a, rs, rfl, hA, hrw, hok, hl, q⟩ := h
  have hgl := sxr_len rs
  have erl : (refR rs).length = rs.length := List.length_map ..
  refine ⟨Nat.zero_le _, fun tp ntp => ?_⟩
  have s1 := same_new (o := .lst []) ntp
  have htp1 : upd H tp (.lst []) tp = some (.lst []) := upd_same
  generalize upd H tp (.lst []) = H1 at s1 htp1 ⊢
  have hf : ∀ {H4 : Hp}, But tp H1 H4 → Same H H4 := fun {H4} b z o e => b z o (ne_of_none e ntp) (s1 _ _ e)
  refine ⟨.ref a, rfl, a, _, rfl, .inl (s1.seq hA), (((refR rs).length : Nat) : Int), rfl, by omega, by omega, for_range (n := (refR rs).length) (fun i σ H4 => But tp H1 H4 ∧ ∃ ms : Bs, H4 tp = some (.lst (refB ms)) ∧ (∀ z ∈ ms, H4 z.1 = some (.lst (z.2.map V.bl)) ∧ z.1 ≠ tp) ∧ ms.length = i ∧ (∀ i2 : Nat, i2 < i → ∃ m, (ms.map (·.2))[i2]? = some m ∧ ∀ j : Nat, j < rs.length → ∃ c, m[j]? = some c ∧ (c = true ↔ To (sxr rs) i2 j)) ∧ ∃ y2 y3 y4 y5 y6, σ = [some (.ref a), some (.ref tp), y2, y3, y4, y5, y6])
    ⟨But.refl, [], htp1, fun z hz => (nomatch hz), rfl, fun i2 h => absurd h (Nat.not_lt_zero _), none, none, none, none, none, rfl⟩ ?_ ?_⟩
  · rintro i σ H4 hi ⟨b4, ms, hms, hmz, hml, hmo, y2, y3, y4, y5, y6, rfl⟩
    rw [erl] at hi
    have ei : (0 + (i : Int)) = (i : Int) := by omega
    have hA4 := (hf b4).seq hA
    refine ⟨(by show 1 ≤ sizeLine; decide), fun o no => ?_⟩
    have s5 := same_new (o := .lst [.bl false]) no
    refine ⟨.ref a, rfl, a, _, rfl, .inl (s5.seq hA4), o, _, _, rfl, rfl, upd_same, by omega, by omega, ?_, fun mp nmp => ?_⟩
    · rw [erl]
      exact Nat.le_trans (show 1 * (rs.length : Int).toNat ≤ 1000 by omega) (by decide)
    have e1 : (List.replicate ((refR rs).length : Int).toNat [V.bl false]).flatten = (List.replicate rs.length false).map V.bl := by
      rw [List.flatten_replicate_singleton, Int.toNat_natCast, List.map_replicate, erl]
    dsimp only
    rw [e1]
    have s6 := s5.trans (same_new (o := .lst ((List.replicate rs.length false).map V.bl)) nmp)
    have nmp4 : H4 mp = none := s5.free nmp
    have hmp6 : upd (upd H4 o (.lst [.bl false])) mp (.lst ((List.replicate rs.length false).map V.bl)) mp = some (.lst ((List.replicate rs.length false).map V.bl)) := upd_same
    clear s5 no
    generalize upd (upd H4 o (.lst [.bl false])) mp (.lst ((List.replicate rs.length false).map V.bl)) = H6 at s6 hmp6 ⊢
    refine ⟨_, rfl, _, rfl, mp, _, _, i, rfl, congrArg V.int ei, hmp6, ixN_nat (by rw [List.length_map, List.length_replicate]; exact hi), ?_⟩
    have s7 : Same H4 (upd H6 mp (.lst (((List.replicate rs.length false).map V.bl).set i (.bl true)))) := same_mut s6 nmp4
    have hmp7 : upd H6 mp (.lst (((List.replicate rs.length false).map V.bl).set i (.bl true))) mp = some (.lst (((List.replicate rs.length false).set i true).map V.bl)) := by
      rw [upd_same, List.map_set]
    generalize upd H6 mp (.lst (((List.replicate rs.length false).map V.bl).set i (.bl true))) = H7 at s7 hmp7 ⊢
    refine ⟨_, rfl, (by show 1 ≤ sizeLine; decide), fun qp nqp => ?_⟩
    rw [ei]
    have s8 := s7.trans (same_new (o := .lst [.int (i : Int)]) nqp)
    have nqp4 : H4 qp = none := s7.free nqp
    have hqm : qp ≠ mp := (ne_of_none hmp7 nqp).symm
    have hmp8 := same_new (o := .lst [.int (i : Int)]) nqp _ _ hmp7
    have hqp8 : upd H7 qp (.lst [.int (i : Int)]) qp = some (ilst (nmap [i])) := upd_same
    generalize upd H7 qp (.lst [.int (i : Int)]) = H8 at s8 hmp8 hqp8 ⊢
    have hB0 := Bq.start (g := sxr rs) (f := i) (by omega)
    rw [hgl] at hB0
    have hmt : mp ≠ tp := (ne_of_none hms nmp4).symm
    have hqt : qp ≠ tp := (ne_of_none hms nqp4).symm
    have hn : ∀ {z : Addr} {o : HO}, H4 z = some o → z ≠ mp ∧ z ≠ qp := fun e => ⟨ne_of_none e nmp4, ne_of_none e nqp4⟩
    refine ⟨.ref a, rfl, a, _, rfl, .inl (s8.seq hA4), (((refR rs).length : Nat) : Int), rfl, by omega, by omega, for_range (n := (refR rs).length) (fun k σ H9 => (∀ z o, z ≠ mp → z ≠ qp → H4 z = some o → H9 z = some o) ∧ ∃ m qs, H9 mp = some (.lst (m.map V.bl)) ∧ H9 qp = some (ilst (nmap qs)) ∧ Bq (sxr rs) i m qs k ∧ ∃ y5 y6, σ = [some (.ref a), some (.ref tp), some (.int (i : Int)), some (.ref mp), some (.ref qp), y5, y6])
      ⟨fun z o _ _ e => s8 _ _ e, _, [i], hmp8, hqp8, hB0, _, _, rfl⟩ ?_ ?_⟩
    · rintro k σ H9 hk ⟨k9, m, qs, hmp9, hqp9, hB, y5, y6, rfl⟩
      rw [erl] at hk
      have ek : (0 + (k : Int)) = (k : Int) := by omega
      have hf9 : Same H4 H9 → True := fun _ => trivial
      refine ⟨_, rfl, _, rfl, qp, _, rfl, .inl (SqL.of hqp9), _, _, rfl, rfl, _, rfl, if2 (fun e => ?_) (fun e => ?_)⟩
      · rw [nmL] at e
        have hkq : k < qs.length := by omega
        have hv : qs[k]? = some qs[k] := List.getElem?_eq_getElem hkq
        generalize qs[k] = v at hv
        have hvm := List.mem_of_getElem? hv
        have hvl := (hB.ok v hvm).1
        rw [hgl] at hvl
        have hq : rs[v]? = some rs[v] := List.getElem?_eq_getElem hvl
        have hqm2 := List.getElem_mem hvl
        generalize rs[v] = qr at hq hqm2
        have hlg := get_sxr hq
        obtain ⟨r1, r2, r3⟩ := hok.g.rows _ (List.mem_of_getElem? hlg)
        have hkp : ∀ {z : Addr} {o : HO}, H z = some o → H9 z = some o := fun e => by
          have e4 := hf b4 _ _ e
          exact k9 _ _ (hn e4).1 (hn e4).2 e4
        obtain ⟨t1, t2⟩ := hrw qr hqm2
        have hA9 : SqL K H9 a (refR rs) := Same.seq (H := H) (fun z o e => hkp e) hA
        refine ⟨_, rfl, _, rfl, _, rfl, qp, _, _, _, rfl, rfl, SqL.of hqp9, atI0 (nmG hv), a, _, _, _, rfl, rfl, hA9, atI_nat (get_refR hq), qr.1, _, 2, _, rfl, rfl, SqT.of (hkp t1), rfl, qr.2.1, rfl, ⟨_, SqT.of (hkp t2)⟩, for_it (walk_tup (K := K) (a := qr.2.1) (xs := qr.2.2.2.2.map V.int)) (fun j σ H10 => (∀ z o, z ≠ mp → z ≠ qp → H4 z = some o → H10 z = some o) ∧ ∃ m qs, H10 mp = some (.lst (m.map V.bl)) ∧ H10 qp = some (ilst (nmap qs)) ∧ Bq (sxr rs) i m qs k ∧ qs[k]? = some v ∧ (∀ u : Nat, (u : Int) ∈ qr.2.2.2.2.take j → u ∈ qs) ∧ ∃ y6, σ = [some (.ref a), some (.ref tp), some (.int (i : Int)), some (.ref mp), some (.ref qp), some (.int (0 + (k : Int))), y6])
          ⟨k9, m, qs, hmp9, hqp9, hB, hv, fun u hu => (nomatch hu), _, rfl⟩ (fun j σ H10 _ h => ?_) ?_ ?_⟩
        · have e4 := hf b4 _ _ t2
          exact SqT.of (h.1 _ _ (hn e4).1 (hn e4).2 e4)
        · clear k9 hmp9 hqp9 hB hv hvm e hkq hkp hA9
          rintro j x σ H10 H11 hj ⟨k10, m, qs, hmp10, hqp10, hB, hv, hsn, y6, rfl⟩ ⟨rfl, hx⟩
          obtain ⟨t, ht, rfl⟩ := map_get hx
          have htm := List.mem_of_getElem? ht
          have htk : ∀ u : Nat, (u : Int) ∈ qr.2.2.2.2.take (j + 1) → (u : Int) ∈ qr.2.2.2.2.take j ∨ (u : Int) = t := fun u hu => by
            rw [List.take_add_one, ht] at hu
            rcases List.mem_append.mp hu with h | h
            · exact .inl h
            · exact .inr (List.mem_singleton.mp h)
          by_cases h0 : 0 ≤ t
          · have hrg := (r3 t htm).resolve_left (by omega)
            obtain ⟨x, rfl⟩ : ∃ x : Nat, t = x := ⟨t.toNat, by omega⟩
            have hxl : x < rs.length := by omega
            obtain ⟨c, hc, hiff⟩ := hB.mks x (by omega)
            have hec : (m.map V.bl)[x]? = some (.bl c) := by
              rw [List.getElem?_map, hc]
              rfl
            refine ⟨_, rfl, _, _, rfl, rfl, _, rfl, ifT h0 ⟨_, rfl, _, rfl, mp, _, _, _, rfl, rfl, SqL.of hmp10, atI_nat hec, c, rfl, ?_⟩⟩
            cases c with
            | true =>
              refine iteF ⟨k10, m, qs, hmp10, hqp10, hB, hv, fun u hu => ?_, _, rfl⟩
              rcases htk u hu with h | h
              · exact hsn u h
              · rw [Int.ofNat.inj h]
                exact hiff.mp rfl
            | false =>
              have hnq : x ∉ qs := fun h => by
                have := hiff.mpr h
                cases this
              have hB2 := hB.push (Nat.le_of_lt (List.getElem?_eq_some_iff.mp hv).1) (List.mem_of_getElem? hv) ⟨_, hlg, htm⟩ (by omega) hnq
              have hfew := hB.few
              have hq12 : upd H11 mp (.lst ((m.map V.bl).set x (.bl true))) qp = some (ilst (nmap qs)) := by
                rw [upd_ne hqm]
                exact hqp10
              refine iteT ⟨_, rfl, _, rfl, mp, _, _, x, rfl, rfl, hmp10, ixN_nat (by rw [List.length_map, hB.len]; omega), _, rfl, .inl ⟨rfl, _, SqL.of hq12⟩, _, rfl, qp, _, _, rfl, rfl, hq12, small1000 (by rw [nmL]; omega), fun z o n1 n2 e => ?_, _, _, ?_, ?_, hB2, ?_, fun u hu => ?_, _, rfl⟩
              · rw [upd_ne n2, upd_ne n1]
                exact k10 z o n1 n2 e
              · rw [upd_ne hqm.symm, upd_same, List.map_set]
              · rw [upd_same]
                unfold ilst nmap
                rw [List.map_append, List.map_append]
                rfl
              · rw [List.getElem?_append_left (List.getElem?_eq_some_iff.mp hv).1]
                exact hv
              · rcases htk u hu with h | h
                · exact List.mem_append_left _ (hsn u h)
                · rw [Int.ofNat.inj h]
                  exact List.mem_append_right _ (List.mem_singleton.mpr rfl)
          · refine ⟨_, rfl, _, _, rfl, rfl, _, rfl, ifF h0 (iteF ⟨k10, m, qs, hmp10, hqp10, hB, hv, fun u hu => ?_, _, rfl⟩)⟩
            rcases htk u hu with h | h
            · exact hsn u h
            · omega
        · rintro σ H10 ⟨k10, m, qs, hmp10, hqp10, hB, hv, hsn, y6, rfl⟩
          rw [List.length_map, List.take_length] at hsn
          refine ⟨k10, m, qs, hmp10, hqp10, { hB with cl := fun w hw u e => ?_ }, _, _, rfl⟩
          rw [List.take_add_one, hv] at hw
          rcases List.mem_append.mp hw with hw | hw
          · exact hB.cl w hw u e
          · rw [List.mem_singleton.mp hw] at e
            obtain ⟨l, h1, h2⟩ := e
            rw [hlg] at h1
            rw [← Option.some.inj h1] at h2
            exact hsn u h2
      · rw [nmL] at e
        refine ⟨k9, m, qs, hmp9, hqp9, { hB with cl := fun w hw u e2 => hB.cl w ?_ u e2 }, _, _, rfl⟩
        rw [List.take_of_length_le (by omega)] at hw ⊢
        exact hw
    · rintro σ H9 ⟨k9, m, qs, hmp9, hqp9, hB, y5, y6, rfl⟩
      rw [erl, ← hgl] at hB
      have hd := hB.done
      have htp9 : H9 tp = some (.lst (refB ms)) := k9 _ _ hmt.symm hqt.symm hms
      refine ⟨_, rfl, .inl ⟨rfl, _, SqL.of htp9⟩, _, rfl, tp, _, _, rfl, rfl, htp9, small1000 (by unfold refB; rw [List.length_map]; omega), fun z o nz e => ?_, ms ++ [(mp, m)], ?_, fun z hz => ?_, by rw [List.length_append, hml]; rfl, fun i2 h2 => ?_, _, _, _, _, _, rfl⟩
      · rw [upd_ne nz]
        have e4 := b4 z o nz e
        exact k9 _ _ (hn e4).1 (hn e4).2 e4
      · rw [upd_same]
        unfold refB
        rw [List.map_append]
        rfl
      · rcases List.mem_append.mp hz with hz | hz
        · obtain ⟨h1, h2⟩ := hmz z hz
          refine ⟨?_, h2⟩
          rw [upd_ne h2]
          exact k9 _ _ (hn h1).1 (hn h1).2 h1
        · rw [List.mem_singleton.mp hz]
          refine ⟨?_, hmt⟩
          show upd H9 tp _ mp = _
          rw [upd_ne hmt]
          exact hmp9
      · by_cases e : i2 < i
        · obtain ⟨m2, h3, h4⟩ := hmo i2 e
          refine ⟨m2, ?_, h4⟩
          rw [List.map_append, List.getElem?_append_left (by rw [List.length_map]; omega)]
          exact h3
        · have e : i2 = i := by omega
          subst e
          refine ⟨m, ?_, fun j hj => hd j (by omega)⟩
          rw [List.map_append, List.getElem?_append_right (by rw [List.length_map]; omega), List.length_map, hml, Nat.sub_self]
          rfl
  · rintro σ H4 ⟨b4, ms, hms, hmz, hml, hmo, y2, y3, y4, y5, y6, rfl⟩
    rw [erl] at hml hmo
    refine ⟨_, rfl, q H4 tp ms (hf b4) ntp hms (fun z hz => (hmz z hz).1) ⟨by rw [List.length_map]; omega, fun i hi => ?_⟩⟩
    obtain ⟨m, h1, h2⟩ := hmo i (by omega)
    exact ⟨m, h1, fun j hj => h2 j (by omega)⟩
end
end K62

namespace K62
open PySem PySem.Spec PyProof.Rows L2 Fw Lay
section
variable {P : Program} {w : World} {K : PySem.W.Frag} {mg : Str → Option Value} {base : Heap}
theorem Rc_mono {g g2 : Nx} {S S2 : Nat → Prop} (hg : ∀ (v u : Nat) (l : List Int), g[v]? = some l → (u : Int) ∈ l → ∃ l2, g2[v]? = some l2 ∧ (u : Int) ∈ l2) (hS : ∀ v, S v → S2 v) {v : Nat} (h : Rc g S v) : Rc g2 S2 v := by
  induction h with
  | base h => exact .base (hS _ h)
  | step _ h1 h2 ih =>
    obtain ⟨l2, h3, h4⟩ := hg _ _ _ h1 h2
    exact .step ih h3 h4
theorem all_marks {n : Nat} {bs : List Bool} (hl : bs.length = n) (h : ∀ v, v < n → bs[v]? = some true) : inV (.bl false) (bs.map V.bl) = false := by
  unfold inV
  rw [List.any_map, List.any_eq_false]
  intro b hb
  obtain ⟨j, hj, e⟩ := List.mem_iff_getElem.mp hb
  have h1 := h j (by omega)
  rw [List.getElem?_eq_getElem hj, e] at h1
  rw [Option.some.inj h1]
  decide
theorem flat_bls (bs : List Bool) : (bs.map V.bl).all flatV = true := by
  rw [List.all_map]
  exact List.all_eq_true.mpr fun d _ => rfl
theorem filter_take {f : Int → Bool} {ts : List Int} {j : Nat} {t : Int} (h : ts[j]? = some t) : (ts.take (j + 1)).filter f = (ts.take j).filter f ++ if f t = true then [t] else [] := by
  rw [List.take_add_one, h, List.filter_append]
  congr 1
  show List.filter f [t] = _
  by_cases hf : f t = true
  · rw [if_pos hf, List.filter_cons_of_pos hf, List.filter_nil]
  · rw [if_neg hf, List.filter_cons_of_neg hf, List.filter_nil]
theorem ok_nexts_of (T : Txt K mg) : Good P w K mg base 1 (He.ga K "nexts_of") ["rows"] [] (sp_nexts_of K) := by
  refine good_of T.f_nexts_of sc_nexts_of (fun vs H Q E h => ?_) (fun _ _ _ _ _ _ us hl => match us, hl with | [_], _ => rfl) (fun cdv A outer s H vs Q E hr h => ?_)
  · obtain ⟨_, _, rfl, _⟩ := h
    rfl
  refine ⟨_, (pss_one (ps_ret (pe_lc (own := [("row", 1)]) (g := (gName 1)) (tt := tYes) rfl sc_nexts_of.nd (pi_list (pv 0)) (blkOk_by (own := [("row", 1)]) (N := ["rows", "row", "target"]) (sc := defScope s_nexts_of) (by decide +kernel)) (fun _ _ _ _ _ => (pg_name (i := 1) sc_nexts_of.nd rfl (Or.inl rfl))) (fun _ _ _ _ _ => pts_nil) (fun _ _ _ _ _ => (pe_lc (own := [("target", 2)]) (g := (gName 2)) rfl sc_nexts_of.nd (pi_tupE (K := K) rfl (pi_tup (pe_ix (ix_tupE (K := K) rfl) (pv 1) pe_int (fun _ _ => rfl)))) (blkOk_by (own := [("target", 2)]) (N := ["rows", "row", "target"]) (sc := { kind := .function, names := [(".0", .local), ("row", .local)], isGenerator := false, isCoroutine := false }) (by decide +kernel)) (fun _ _ _ _ _ => (pg_name (i := 2) sc_nexts_of.nd rfl (Or.inl rfl))) (fun _ _ _ _ _ => (pts_one (pt_cmpR op_ne (pv 2) (pe_glob (v := .int (-1)) (by rfl) T.k_END.choose_spec ⟨_, rfl⟩) (nomark _)))) (fun _ _ _ _ _ => (pv 2))))))), ?_⟩
  obtain ⟨a, rs, rfl, hS, hrw, hl, h4, q⟩ := h
  have hlen : (refR rs).length = rs.length := List.length_map ..
  refine ⟨.ref a, rfl, a, rfl, ⟨_, hS⟩, fun D hD => lc_list (K := K) (a := a) (xs := refR rs) (fun i H3 => Same H H3 ∧ ∃ ns : Ws, H3 D = some (.lst (refL ns)) ∧ (∀ z ∈ ns, z.1 ≠ D ∧ H3 z.1 = some (ilst z.2)) ∧ ns.map (·.2) = (rs.take i).map (fun q : Addr × Addr × Rw => q.2.2.2.2.filter fun t => decide (t ≠ -1)))
    ⟨same_new hD, [], upd_same, fun u hu => (nomatch hu), rfl⟩ (fun i H2 _ h => h.1.seq hS) ?_ ?_⟩
  · rintro i x H3 hi ⟨s3, ns, h3, hn3, em⟩
    obtain ⟨qr, hq, hqm, rfl⟩ := refR_get hi
    have hilt := (List.getElem?_eq_some_iff.mp hq).1
    have hnl : ns.length ≤ i := by
      have e := congrArg List.length em
      rw [List.length_map, List.length_map, List.length_take] at e
      omega
    obtain ⟨q1, q2⟩ := hrw qr hqm
    have hU : ∀ {H4 : Hp}, Same H3 H4 → SqT K H4 qr.2.1 (qr.2.2.2.2.map V.int) := fun s => SqT.of (s _ _ (s3 _ _ q2))
    have hq4 := h4 qr hqm
    refine ⟨rfl, yes_then ?_⟩
    refine ⟨_, rfl, qr.1, _, 2, _, rfl, rfl, SqT.of (s3 _ _ q1), rfl, qr.2.1, rfl, ⟨_, hU (Same.refl _)⟩, fun D2 hD2 => lc_tup (K := K) (a := qr.2.1) (xs := qr.2.2.2.2.map V.int) (fun j H4 => Same H3 H4 ∧ H4 D2 = some (ilst ((qr.2.2.2.2.take j).filter fun t => decide (t ≠ -1)))) ⟨same_new hD2, upd_same⟩ (fun j H4 _ h => hU h.1) ?_ ?_⟩
    · rintro j x H4 hj ⟨s4, hD4⟩
      obtain ⟨t, ht, rfl⟩ := map_get hj
      have hjl := (List.getElem?_eq_some_iff.mp ht).1
      by_cases he : t = -1
      · refine ⟨rfl, _, rfl, rfl, _, rfl, ifNF (by rw [he]) ⟨s4, ?_⟩⟩
        rw [filter_take ht, if_neg (by simp [he]), List.append_nil]
        exact hD4
      · refine ⟨rfl, _, rfl, rfl, _, rfl, ifNT (int_ne he) ⟨_, rfl, _, hD4, small1000 (by rw [List.length_map]; have := List.length_filter_le (fun t : Int => decide (t ≠ -1)) (qr.2.2.2.2.take j); rw [List.length_take] at this; omega), same_mut s4 hD2, ?_⟩⟩
        rw [upd_same, filter_take ht, if_pos (by simp [he])]
        unfold ilst
        rw [List.map_append]
        rfl
    · rintro H4 ⟨s4, hD4⟩
      rw [List.length_map, List.take_length] at hD4
      have hlD : D2 ≠ D := (ne_of_none h3 hD2).symm
      refine ⟨_, s4 _ _ h3, small1000 (by unfold refL; rw [List.length_map]; omega), same_mut (s3.trans s4) hD, ns ++ [(D2, qr.2.2.2.2.filter fun t => decide (t ≠ -1))], ?_, fun w' h => ?_, ?_⟩
      · rw [upd_same]
        unfold refL
        rw [List.map_append]
        rfl
      · rcases List.mem_append.mp h with h | h
        · refine ⟨(hn3 w' h).1, ?_⟩
          rw [upd_ne (hn3 w' h).1]
          exact s4 _ _ (hn3 w' h).2
        · rw [List.mem_singleton.mp h]
          refine ⟨hlD, ?_⟩
          show upd H4 D _ D2 = _
          rw [upd_ne hlD]
          exact hD4
      · rw [List.map_append, em, List.take_add_one, hq, List.map_append]
        rfl
  · rintro H3 ⟨s3, ns, h3, hn3, em⟩
    rw [hlen, List.take_length] at em
    refine q H3 D ns s3 hD h3 (fun z hz => (hn3 z hz).2) ?_
    rw [em]
    unfold sxr
    rw [List.map_map]
    rfl
def BkOk (rs : Rx) (cs : List (List Int)) : Prop := ∀ (u : Nat) (c : List Int) (t : Int), cs[u]? = some c → t ∈ c → ∃ l, (sxr rs)[t.toNat]? = some l ∧ (u : Int) ∈ l
theorem ok_backs_of (T : Txt K mg) : Good P w K mg base 1 (He.ga K "backs_of") ["rows"] [] (sp_backs_of K) := by
  refine good_of T.f_backs_of sc_backs_of (fun vs H Q E h => ?_) (fun _ _ _ _ _ _ us hl => match us, hl with | [_], _ => rfl) (fun cdv A outer s H vs Q E hr h => ?_)
  · obtain ⟨_, _, rfl, _⟩ := h
    rfl
  refine ⟨_, (pss_cons (ps_setLc (i := 1) (own := [("row", 4)]) (g := (gName 4)) (tt := tYes) rfl sc_backs_of.nd rfl rfl (sw_true rfl rfl rfl (by decide +kernel)) (pi_list (pv 0)) (blkOk_by (own := [("row", 4)]) (N := ["rows", "backs", "node", "target", "row"]) (sc := defScope s_backs_of) (by decide +kernel)) (fun _ _ _ _ _ => (pg_name (i := 4) sc_backs_of.nd rfl (Or.inl rfl))) (fun _ _ _ _ _ => pts_nil) (fun _ _ _ _ _ => (pe_lst pa_nil)))
  (pss_cons (ps_for PassesOwn.never rfl (pi_range1 (by rfl) T.z_range (pa_cons (pe_callB call_len_seq (by rfl) T.z_len (by decide +kernel) (pa_cons (pv 0) pa_nil)) pa_nil)) (pg_name (i := 2) sc_backs_of.nd rfl (Or.inl rfl))
    (pss_one (ps_for PassesOwn.never rfl (pi_tup (pe_ix ix_tup (pe_ix ix_list (pv 0) (pv 2) (fun _ _ => rfl)) pe_int (fun _ _ => rfl))) (pg_name (i := 3) sc_backs_of.nd rfl (Or.inl rfl))
    (pss_one (ps_if (pt_cmpR op_ne (pv 3) (pe_glob (v := .int (-1)) (by rfl) T.k_END.choose_spec ⟨_, rfl⟩) (nomark _))
    (pss_one (ps_expr (pe_bm PySem.F.plainAttrs_list PySem.F.slot_list_append PySem.F.type_list_append mt_append (pe_ix ix_list (pv 1) (pv 3) (fun _ _ => rfl)) (pa_cons (pv 2) pa_nil))))
    pss_nil)))))
  (pss_one (ps_ret (pv 1))))), ?_⟩
  obtain ⟨a, rs, rfl, hS, hrw, hl, hrow, q⟩ := h
  have hlen : (refR rs).length = rs.length := List.length_map ..
  refine ⟨.ref a, rfl, a, rfl, ⟨_, hS⟩, fun D hD => lc_list (K := K) (a := a) (xs := refR rs) (fun i H3 => Same H H3 ∧ ∃ as : List Addr, H3 D = some (.lst (as.map V.ref)) ∧ (∀ z ∈ as, H z = none ∧ z ≠ D ∧ H3 z = some (ilst [])) ∧ as.Nodup ∧ as.length = i)
    ⟨same_new hD, [], upd_same, fun u hu => (nomatch hu), List.nodup_nil, rfl⟩ (fun i H2 _ h => h.1.seq hS) ?_ ?_⟩
  · rintro i x H3 hi ⟨s3, as, h3, ha3, nd, hal⟩
    obtain ⟨qr, hq, hqm, rfl⟩ := refR_get hi
    have hilt := (List.getElem?_eq_some_iff.mp hq).1
    refine ⟨rfl, yes_then ⟨Nat.zero_le _, fun l nl => ?_⟩⟩
    have hlD : l ≠ D := (ne_of_none h3 nl).symm
    refine ⟨_, same_new nl _ _ h3, small1000 (by rw [List.length_map]; omega), same_mut (s3.trans (same_new nl)) hD, as ++ [l], ?_, fun z hz => ?_, ?_, by rw [List.length_append, hal]; rfl⟩
    · rw [upd_same, List.map_append]
      rfl
    · rcases List.mem_append.mp hz with hz | hz
      · obtain ⟨z1, z2, z3⟩ := ha3 z hz
        refine ⟨z1, z2, ?_⟩
        rw [upd_ne z2]
        exact same_new nl _ _ z3
      · rw [List.mem_singleton.mp hz]
        refine ⟨s3.free nl, hlD, ?_⟩
        rw [upd_ne hlD, upd_same]
        rfl
    · refine List.nodup_append.mpr ⟨nd, List.pairwise_singleton _ _, fun x hx y hy e => ?_⟩
      have h1 := (ha3 x hx).2.2
      rw [e, List.mem_singleton.mp (show y ∈ [l] from hy), nl] at h1
      cases h1
  rintro H2 ⟨s2, as, h2, ha2, nd, hal⟩
  rw [hlen] at hal
  dsimp only
  have hAD : ∀ z ∈ as, z ≠ D := fun z hz => (ha2 z hz).2.1
  refine ⟨.ref a, rfl, a, _, rfl, .inl (s2.seq hS), ((refR rs).length : Nat), rfl, by omega, by omega, for_range (n := (refR rs).length) (fun i σ H5 => Same H H5 ∧ H5 D = some (.lst (as.map V.ref)) ∧ (∃ cs : List (List Int), cs.length = rs.length ∧ (∀ (j : Nat) (z : Addr) (c : List Int), as[j]? = some z → cs[j]? = some c → H5 z = some (ilst c)) ∧ (∀ c ∈ cs, c.length ≤ 4 * i ∧ ∀ t ∈ c, 0 ≤ t ∧ t < (rs.length : Int)) ∧ BkOk rs cs ∧
      ∀ (v u : Nat) (l : List Int), v < i → (sxr rs)[v]? = some l → (u : Int) ∈ l → ∃ c, cs[u]? = some c ∧ (v : Int) ∈ c) ∧ ∃ y2 y3, σ = [some (.ref a), some (.ref D), y2, y3, none])
    ⟨s2, h2, ⟨List.replicate rs.length [], List.length_replicate .., fun j z c hz hc => ?_, fun c hc => ?_, fun u c t hc ht => ?_, fun v u l hv => absurd hv (Nat.not_lt_zero _)⟩, none, none, rfl⟩ ?_ ?_⟩
  · rw [List.getElem?_replicate] at hc
    split at hc
    · rw [← Option.some.inj hc]
      exact (ha2 z (List.mem_of_getElem? hz)).2.2
    · cases hc
  · rw [List.eq_of_mem_replicate hc]
    exact ⟨Nat.zero_le _, fun t ht => nomatch ht⟩
  · rw [List.getElem?_replicate] at hc
    split at hc
    · rw [← Option.some.inj hc] at ht
      cases ht
    · cases hc
  · rintro i σ H5 hi ⟨s5, h5, ⟨cs, hcl, hcs, hcb, hce, hcd⟩, y2, y3, rfl⟩
    have hi2 : i < rs.length := by omega
    have hq : rs[i]? = some rs[i] := List.getElem?_eq_getElem hi2
    have hqm : rs[i] ∈ rs := List.getElem_mem hi2
    generalize rs[i] = qr at hq hqm
    obtain ⟨q1, q2⟩ := hrw qr hqm
    obtain ⟨r1, r2, r3⟩ := hrow _ (List.mem_of_getElem? (get_sxr hq))
    refine ⟨_, rfl, _, rfl, a, _, _, _, rfl, rfl, s5.seq hS, atI0 (get_refR hq), qr.1, _, 2, _, rfl, rfl, SqT.of (s5 _ _ q1), rfl, qr.2.1, rfl, ⟨_, SqT.of (s5 _ _ q2)⟩, for_it (walk_tup (K := K) (a := qr.2.1) (xs := qr.2.2.2.2.map V.int)) (fun j σ H6 => Same H H6 ∧ H6 D = some (.lst (as.map V.ref)) ∧ (∃ cs : List (List Int), cs.length = rs.length ∧ (∀ (j : Nat) (z : Addr) (c : List Int), as[j]? = some z → cs[j]? = some c → H6 z = some (ilst c)) ∧ (∀ c ∈ cs, c.length ≤ 4 * i + j ∧ ∀ t ∈ c, 0 ≤ t ∧ t < (rs.length : Int)) ∧ BkOk rs cs ∧
        (∀ (v u : Nat) (l : List Int), v < i → (sxr rs)[v]? = some l → (u : Int) ∈ l → ∃ c, cs[u]? = some c ∧ (v : Int) ∈ c) ∧ ∀ u : Nat, (u : Int) ∈ qr.2.2.2.2.take j → ∃ c, cs[u]? = some c ∧ (i : Int) ∈ c) ∧ ∃ y3, σ = [some (.ref a), some (.ref D), some (.int (0 + (i : Int))), y3, none])
      ⟨s5, h5, ⟨cs, hcl, hcs, fun c hc => ⟨by have := (hcb c hc).1; omega, (hcb c hc).2⟩, hce, hcd, fun u hu => (nomatch hu)⟩, y3, rfl⟩ (fun j σ H6 _ h => SqT.of (h.1 _ _ q2)) ?_ ?_⟩
    · rintro j x σ H6 H7 hj ⟨s6, h6, ⟨cs, hcl, hcs, hcb, hce, hcd, hcj⟩, y3, rfl⟩ ⟨rfl, hx⟩
      obtain ⟨t, ht, rfl⟩ := map_get hx
      have hjl := (List.getElem?_eq_some_iff.mp ht).1
      have htk : ∀ u : Nat, (u : Int) ∈ qr.2.2.2.2.take (j + 1) → (u : Int) ∈ qr.2.2.2.2.take j ∨ (u : Int) = t := fun u hu => by
        rw [List.take_add_one, ht] at hu
        rcases List.mem_append.mp hu with h | h
        · exact .inl h
        · exact .inr (List.mem_singleton.mp h)
      by_cases he : t = -1
      · refine ⟨_, rfl, rfl, _, rfl, ifNF (by rw [he]) ⟨s6, h6, ⟨cs, hcl, hcs, fun c hc => ⟨by have := (hcb c hc).1; omega, (hcb c hc).2⟩, hce, hcd, fun u hu => ?_⟩, _, rfl⟩⟩
        rcases htk u hu with h | h
        · exact hcj u h
        · omega
      · have h3 := r3 t (List.mem_of_getElem? ht)
        obtain ⟨tn, rfl⟩ : ∃ tn : Nat, t = tn := ⟨t.toNat, by omega⟩
        have htl : tn < rs.length := by omega
        have hz : as[tn]? = some as[tn] := List.getElem?_eq_getElem (by omega)
        have hc : cs[tn]? = some cs[tn] := List.getElem?_eq_getElem (by omega)
        have hzm : as[tn] ∈ as := List.getElem_mem _
        have hcm : cs[tn] ∈ cs := List.getElem_mem _
        generalize as[tn]'(by omega) = z at hz hzm
        generalize cs[tn]'(by omega) = c at hc hcm
        have hzc := hcs tn z c hz hc
        have hz2 : (as.map V.ref)[tn]? = some (.ref z) := by rw [List.getElem?_map, hz]; rfl
        have hcl4 := (hcb c hcm).1
        refine ⟨_, rfl, rfl, _, rfl, ifNT (int_ne he) ⟨_, rfl, _, rfl, D, _, _, _, rfl, rfl, SqL.of h6, atI_nat hz2, .inl ⟨rfl, _, SqL.of hzc⟩, _, rfl, z, _, _, rfl, rfl, hzc, ?_, ?_⟩⟩
        · rw [List.length_map]
          exact Nat.lt_of_le_of_lt (show c.length ≤ 5000 by omega) (by decide)
        have ei : (0 + (i : Int)) = (i : Int) := by omega
        rw [ei]
        refine ⟨same_mut s6 (ha2 z hzm).1, ?_, ⟨cs.set tn (c ++ [(i : Int)]), by rw [List.length_set]; exact hcl, fun k z2 c2 hz2 hc2 => ?_, fun c2 hc2 => ?_, fun u c2 t2 hc2 ht2 => ?_, fun v u l hv hl hu => ?_, fun u hu => ?_⟩, _, by rfl⟩
        · rw [upd_ne (hAD z hzm).symm]
          exact h6
        · rw [List.getElem?_set] at hc2
          by_cases hk : tn = k
          · subst hk
            rw [if_pos rfl, if_pos (by omega)] at hc2
            rw [hz] at hz2
            rw [← Option.some.inj hz2, ← Option.some.inj hc2, upd_same]
            unfold ilst
            rw [List.map_append]
            rfl
          · rw [if_neg hk] at hc2
            have hne : z2 ≠ z := fun e => by
              rw [e] at hz2
              have h1 := (List.getElem?_eq_some_iff.mp hz).1
              have h2 := (List.getElem?_eq_some_iff.mp hz2).1
              exact hk ((List.getElem_inj nd (h₀ := h1) (h₁ := h2)).mp (by rw [(List.getElem?_eq_some_iff.mp hz).2, (List.getElem?_eq_some_iff.mp hz2).2]))
            rw [upd_ne hne]
            exact hcs k z2 c2 hz2 hc2
        · rcases List.mem_or_eq_of_mem_set hc2 with h | h
          · exact ⟨by have := (hcb c2 h).1; omega, (hcb c2 h).2⟩
          · rw [h, List.length_append]
            refine ⟨by show c.length + 1 ≤ _; omega, fun t ht => ?_⟩
            rcases List.mem_append.mp ht with ht | ht
            · exact (hcb c hcm).2 t ht
            · rw [List.mem_singleton.mp ht]
              omega
        · rw [List.getElem?_set] at hc2
          by_cases hk : tn = u
          · subst hk
            rw [if_pos rfl, if_pos (by omega)] at hc2
            rw [← Option.some.inj hc2] at ht2
            rcases List.mem_append.mp ht2 with h | h
            · exact hce _ c t2 hc h
            · rw [List.mem_singleton.mp h]
              exact ⟨_, by rw [Int.toNat_natCast]; exact get_sxr hq, List.mem_of_getElem? ht⟩
          · rw [if_neg hk] at hc2
            exact hce u c2 t2 hc2 ht2
        · obtain ⟨c2, h1, h2⟩ := hcd v u l hv hl hu
          by_cases hk : tn = u
          · subst hk
            rw [hc] at h1
            refine ⟨_, by rw [List.getElem?_set, if_pos rfl, if_pos (by omega)], ?_⟩
            rw [Option.some.inj h1]
            exact List.mem_append_left _ h2
          · exact ⟨c2, by rw [List.getElem?_set, if_neg hk]; exact h1, h2⟩
        · rcases htk u hu with h | h
          · obtain ⟨c2, h1, h2⟩ := hcj u h
            by_cases hk : tn = u
            · subst hk
              rw [hc] at h1
              refine ⟨_, by rw [List.getElem?_set, if_pos rfl, if_pos (by omega)], ?_⟩
              rw [Option.some.inj h1]
              exact List.mem_append_left _ h2
            · exact ⟨c2, by rw [List.getElem?_set, if_neg hk]; exact h1, h2⟩
          · have hk : tn = u := by omega
            subst hk
            exact ⟨_, by rw [List.getElem?_set, if_pos rfl, if_pos (by omega)], List.mem_append_right _ (List.mem_singleton.mpr rfl)⟩
    · rintro σ H6 ⟨s6, h6, ⟨cs, hcl, hcs, hcb, hce, hcd, hcj⟩, y3, rfl⟩
      rw [List.length_map] at hcb hcj
      rw [List.take_length] at hcj
      refine ⟨s6, h6, ⟨cs, hcl, hcs, fun c hc => ⟨by have := (hcb c hc).1; omega, (hcb c hc).2⟩, hce, fun v u l hv hl hu => ?_⟩, _, _, rfl⟩
      by_cases hvi : v = i
      · subst hvi
        rw [get_sxr hq] at hl
        rw [← Option.some.inj hl] at hu
        exact hcj u hu
      · exact hcd v u l (by omega) hl hu
  · rintro σ H5 ⟨s5, h5, ⟨cs, hcl, hcs, hcb, hce, hcd⟩, y2, y3, rfl⟩
    have hle : as.length ≤ cs.length := by omega
    have hle2 : cs.length ≤ as.length := by omega
    refine ⟨_, rfl, q H5 D (as.zip cs) s5 hD ?_ (fun z hz => ?_) (by rw [List.length_zip]; omega) (fun z hz => ?_) (fun v u l hl hu => ?_) ?_⟩
    · rw [h5]
      have e : (as.zip cs).map Prod.fst = as := List.map_fst_zip hle
      unfold refL
      rw [← e, List.map_map, List.map_fst_zip hle]
      rfl
    · obtain ⟨j, hj, e⟩ := List.mem_iff_getElem.mp hz
      rw [List.length_zip] at hj
      rw [List.getElem_zip] at e
      rw [← e]
      exact hcs j _ _ (List.getElem?_eq_getElem (by omega)) (List.getElem?_eq_getElem (by omega))
    · exact (hcb z.2 (List.of_mem_zip (a := z.1) (b := z.2) hz).2).2
    · rw [List.map_snd_zip hle2]
      have hv : v < rs.length := by
        have := (List.getElem?_eq_some_iff.mp hl).1
        rw [sxr_len] at this
        exact this
      exact hcd v u l (by omega) hl hu
    · rw [List.map_snd_zip hle2]
      exact hce
end
end K62

namespace K62
open PySem PySem.Spec PyProof.Rows L2 Fw Lay
section
variable {P : Program} {w : World} {K : PySem.W.Frag} {mg : Str → Option Value} {base : Heap}
theorem perm_few {n : Nat} {qs : List Nat} (nd : qs.Nodup) (h : ∀ v ∈ qs, v < n) : qs.length ≤ n := nodup_lt n qs nd h
theorem ok_spread (T : Txt K mg) : Good P w K mg base 1 (He.ga K "spread") ["lists", "starts"] [] (sp_spread K) := by
  refine good_of T.f_spread sc_spread (fun vs H Q E h => ?_) (fun _ _ _ _ _ _ us hl => match us, hl with | [_, _], _ => rfl) (fun cdv A outer s H vs Q E hr h => ?_)
  · obtain ⟨_, _, _, _, rfl, _⟩ := h
    rfl
  refine ⟨_, (pss_cons (ps_set (i := 2) sc_spread.nd rfl (Or.inl rfl) (pe_op op_rep (pe_lst (pa_cons pe_bl pa_nil)) (pe_callB call_len_seq (by rfl) T.z_len (by decide +kernel) (pa_cons (pv 0) pa_nil))))
  (pss_cons (ps_for PassesOwn.never rfl (pi_list (pv 1)) (pg_name (i := 3) sc_spread.nd rfl (Or.inl rfl))
    (pss_one (ps_asg pe_bl (pg_sub (pv 2) (pv 3) set_list))))
  (pss_cons (ps_set (i := 4) sc_spread.nd rfl (Or.inl rfl) (pe_callTy call_list_of (by rfl) T.z_list (by decide +kernel) (pa_cons (pv 1) pa_nil)))
  (pss_cons (ps_set (i := 5) sc_spread.nd rfl (Or.inl rfl) pe_int)
  (pss_cons (ps_while PassesOwn.never (pt_cmpR op_lt (pv 5) (pe_callB call_len_seq (by rfl) T.z_len (by decide +kernel) (pa_cons (pv 4) pa_nil)) (nomark _))
    (pss_cons (ps_for PassesOwn.never rfl (pi_list (pe_ix ix_list (pv 0) (pe_ix ix_list (pv 4) (pv 5) (fun _ _ => rfl)) (fun _ _ => rfl))) (pg_name (i := 6) sc_spread.nd rfl (Or.inl rfl))
    (pss_one (ps_if (pt_not (pt_val (pe_ix ix_list (pv 2) (pv 6) (fun _ _ => rfl))))
    (pss_cons (ps_asg pe_bl (pg_sub (pv 2) (pv 6) set_list))
  (pss_one (ps_expr (pe_bm PySem.F.plainAttrs_list PySem.F.slot_list_append PySem.F.type_list_append mt_append (pv 4) (pa_cons (pv 6) pa_nil)))))
    pss_nil)))
  (pss_one (ps_aug (i := 5) sc_spread.nd rfl (Or.inl rfl) pe_int ip_add))))
  (pss_one (ps_ret (pv 2)))))))), ?_⟩
  obtain ⟨a, b, ns, ss, rfl, hA, hL, hrg, hl, hB, hnd, hss, q⟩ := h
  have hlen : (refL ns).length = ns.length := List.length_map ..
  refine ⟨by show 1 ≤ sizeLine; decide, fun o no => ?_⟩
  refine ⟨.ref a, rfl, a, _, rfl, .inl ((same_new no).seq hA), o, _, _, rfl, rfl, upd_same, by omega, by omega, ?_, fun m nm => ?_⟩
  · rw [hlen]
    exact Nat.le_trans (show 1 * (ns.length : Int).toNat ≤ 1000 by omega) (by decide)
  have e0 : (List.replicate ((refL ns).length : Int).toNat [V.bl false]).flatten = (List.replicate ns.length false).map V.bl := by
    rw [List.flatten_replicate_singleton, List.map_replicate, hlen, Int.toNat_natCast]
  have s1 := (same_new (o := .lst [V.bl false]) no).trans (same_new (o := .lst (List.replicate ((refL ns).length : Int).toNat [V.bl false]).flatten) nm)
  have hmH : H m = none := (same_new (o := .lst [V.bl false]) no).free nm
  have hm1 : upd (upd H o (.lst [V.bl false])) m (.lst (List.replicate ((refL ns).length : Int).toNat [V.bl false]).flatten) m = some (.lst ((List.replicate ns.length false).map V.bl)) := by
    rw [upd_same, e0]
  generalize upd (upd H o (.lst [V.bl false])) m (.lst (List.replicate ((refL ns).length : Int).toNat [V.bl false]).flatten) = H1 at s1 hm1 ⊢
  refine ⟨.ref b, rfl, b, rfl, ⟨_, s1.seq hB⟩, for_list (K := K) (a := b) (xs := (nmap ss).map V.int) (fun i σ H2 => Same H H2 ∧ (∃ bs : List Bool, H2 m = some (.lst (bs.map V.bl)) ∧ bs.length = ns.length ∧ ∀ v : Nat, bs[v]? = some true ↔ v ∈ ss.take i) ∧ ∃ y3, σ = [some (.ref a), some (.ref b), some (.ref m), y3, none, none, none])
    ⟨s1, ⟨_, hm1, List.length_replicate .., fun v => ?_⟩, none, rfl⟩ (fun i σ H2 _ h => h.1.seq hB) ?_ ?_⟩
  · rw [List.getElem?_replicate]
    constructor
    · intro h
      split at h
      · cases h
      · cases h
    · intro h
      cases h
  · rintro i x σ H2 hi ⟨s2, ⟨bs, h2, hbl, hbs⟩, y3, rfl⟩
    obtain ⟨s, hs, rfl⟩ : ∃ s, ss[i]? = some s ∧ x = .int (s : Int) := by
      unfold nmap at hi
      rw [List.map_map, List.getElem?_map] at hi
      cases e : ss[i]? with
      | none =>
        rw [e] at hi
        cases hi
      | some s =>
        rw [e] at hi
        exact ⟨s, rfl, (Option.some.inj hi).symm⟩
    have hsl := hss s (List.mem_of_getElem? hs)
    refine ⟨_, rfl, _, rfl, m, _, _, s, rfl, rfl, h2, ixN_nat (by rw [List.length_map]; omega), same_mut s2 hmH, ⟨bs.set s true, ?_, by rw [List.length_set]; exact hbl, fun v => ?_⟩, _, rfl⟩
    · rw [upd_same, List.map_set]
    · rw [List.take_add_one, hs, List.getElem?_set, List.mem_append]
      by_cases hv : s = v
      · subst hv
        rw [if_pos rfl, if_pos (by omega)]
        exact ⟨fun _ => .inr (List.mem_singleton.mpr rfl), fun _ => rfl⟩
      · rw [if_neg hv, hbs]
        exact ⟨.inl, fun h => h.elim id fun h => absurd (List.mem_singleton.mp h).symm hv⟩
  rintro σ H2 ⟨s2, ⟨bs0, h2, hbl0, hbs0⟩, y3, rfl⟩
  have el : ((nmap ss).map V.int).length = ss.length := by
    unfold nmap
    rw [List.length_map, List.length_map]
  rw [el, List.take_length] at hbs0
  refine ⟨.ref b, rfl, b, _, rfl, .inl (s2.seq hB), fun qa nqa => ?_⟩
  have nqH : H qa = none := s2.free nqa
  have s3 := s2.trans (same_new (o := .lst ((nmap ss).map V.int)) nqa)
  have hmq : m ≠ qa := ne_of_none h2 nqa
  have h3m := same_new (o := .lst ((nmap ss).map V.int)) nqa _ _ h2
  have h3q : upd H2 qa (.lst ((nmap ss).map V.int)) qa = some (ilst (nmap ss)) := upd_same
  generalize upd H2 qa (.lst ((nmap ss).map V.int)) = H3 at s3 h3m h3q ⊢
  have hZn : ∀ {v : Nat} {l : List Int}, (ns.map (·.2))[v]? = some l → ∃ z, ns[v]? = some z ∧ z ∈ ns ∧ z.2 = l := fun {v l} h => by
    rw [List.getElem?_map] at h
    obtain ⟨z, h1, h2⟩ := Option.map_eq_some_iff.mp h
    exact ⟨z, h1, List.mem_of_getElem? h1, h2⟩
  refine ⟨fun k σ H5 => Same H H5 ∧ ∃ (qs : List Nat) (bs : List Bool) (i : Nat), H5 qa = some (ilst (nmap qs)) ∧ H5 m = some (.lst (bs.map V.bl)) ∧ bs.length = ns.length ∧ (∀ v : Nat, bs[v]? = some true ↔ v ∈ qs) ∧ qs.Nodup ∧ (∀ v ∈ qs, v < ns.length) ∧ (∀ s ∈ ss, s ∈ qs) ∧ i ≤ qs.length ∧
      (∀ (j v u : Nat) (l : List Int), j < i → qs[j]? = some v → (ns.map (·.2))[v]? = some l → (u : Int) ∈ l → u ∈ qs) ∧ k = ns.length - i ∧ ∃ y3 y6, σ = [some (.ref a), some (.ref b), some (.ref m), y3, some (.ref qa), some (.int (i : Nat)), y6],
    ⟨_, s3, ss, bs0, 0, h3q, h3m, hbl0, hbs0, hnd, hss, fun s hs => hs, Nat.zero_le _, fun j v u l h => absurd h (Nat.not_lt_zero _), rfl, y3, none, rfl⟩, ?_⟩
  rintro k σ H5 ⟨s5, qs, bs, i, h5q, h5m, hbl, hbs, qnd, hql, hsq, hiq, hcl, rfl, y3, y6, rfl⟩
  have hqn := perm_few qnd hql
  have enq : ((nmap qs).map V.int).length = qs.length := by
    unfold nmap
    rw [List.length_map, List.length_map]
  refine ⟨_, rfl, _, rfl, qa, _, rfl, .inl (SqL.of h5q), _, _, rfl, rfl, _, rfl, if2 (fun e => ?_) (fun e => ?_)⟩
  · refine ⟨_, fun σ' H' h => h, ?_⟩
    have hil : i < qs.length := by omega
    obtain ⟨v, hv⟩ : ∃ v, qs[i]? = some v := ⟨_, List.getElem?_eq_getElem hil⟩
    have hvl := hql v (List.mem_of_getElem? hv)
    obtain ⟨z, hz⟩ : ∃ z, ns[v]? = some z := ⟨_, List.getElem?_eq_getElem hvl⟩
    have hzm := List.mem_of_getElem? hz
    have hz2 : (refL ns)[v]? = some (.ref z.1) := by
      unfold refL
      rw [List.getElem?_map, hz]
      rfl
    have hnz : H m = none := hmH
    have hkeep : ∀ {H6 : Hp}, But2 m qa H5 H6 → SqL K H6 z.1 (z.2.map V.int) := fun {H6} b6 => by
      have hs6 : Same H H6 := fun c o e => b6 c o (fun e2 => by rw [e2, hmH] at e; cases e) (fun e2 => by rw [e2, nqH] at e; cases e) (s5 _ _ e)
      exact hs6.seq (hL z hzm)
    refine ⟨_, rfl, .ref qa, rfl, _, rfl, qa, _, _, _, rfl, rfl, SqL.of h5q, atI_nat (nmap_get hv), a, _, _, _, rfl, rfl, s5.seq hA, atI_nat hz2, z.1, rfl, ⟨_, s5.seq (hL z hzm)⟩, for_list (K := K) (a := z.1) (xs := z.2.map V.int) (fun j σ H6 => But2 m qa H5 H6 ∧ ∃ (qs2 : List Nat) (bs2 : List Bool), H6 qa = some (ilst (nmap qs2)) ∧ H6 m = some (.lst (bs2.map V.bl)) ∧ bs2.length = ns.length ∧ (∀ v : Nat, bs2[v]? = some true ↔ v ∈ qs2) ∧ qs2.Nodup ∧ (∀ v ∈ qs2, v < ns.length) ∧ qs <+: qs2 ∧
        (∀ u : Nat, (u : Int) ∈ z.2.take j → u ∈ qs2) ∧ ∃ y6, σ = [some (.ref a), some (.ref b), some (.ref m), y3, some (.ref qa), some (.int (i : Nat)), y6])
      ⟨fun c o _ _ h => h, qs, bs, h5q, h5m, hbl, hbs, qnd, hql, List.prefix_refl _, fun u hu => (nomatch hu), y6, rfl⟩ (fun j σ H6 _ h => hkeep h.1) ?_ ?_⟩
    · rintro j x σ H6 hj ⟨b6, qs2, bs2, h6q, h6m, hbl2, hbs2, qnd2, hql2, hpre, hdn, y6, rfl⟩
      obtain ⟨t, ht, rfl⟩ := map_get hj
      have hr := hrg z hzm t (List.mem_of_getElem? ht)
      obtain ⟨u, rfl⟩ : ∃ u : Nat, t = u := ⟨t.toNat, by omega⟩
      have hul : u < ns.length := by omega
      obtain ⟨c, hc⟩ : ∃ c, bs2[u]? = some c := ⟨_, List.getElem?_eq_getElem (by omega)⟩
      have hqn2 := perm_few qnd2 hql2
      have htk : ∀ w : Nat, (w : Int) ∈ z.2.take (j + 1) → (w : Int) ∈ z.2.take j ∨ w = u := fun w hw => by
        rw [List.take_add_one, ht] at hw
        rcases List.mem_append.mp hw with h | h
        · exact .inl h
        · exact .inr (by have := List.mem_singleton.mp h; omega)
      have hcb : (bs2.map V.bl)[u]? = some (.bl c) := by rw [List.getElem?_map, hc]; rfl
      refine ⟨_, rfl, _, rfl, m, _, _, _, rfl, rfl, SqL.of h6m, atI_nat hcb, c, rfl, ?_⟩
      cases c with
      | true =>
        refine iteF ⟨b6, qs2, bs2, h6q, h6m, hbl2, hbs2, qnd2, hql2, hpre, fun w hw => ?_, _, rfl⟩
        rcases htk w hw with h | h
        · exact hdn w h
        · rw [h]
          exact (hbs2 u).mp hc
      | false =>
        have hnu : ¬ u ∈ qs2 := fun h => by
          have := (hbs2 u).mpr h
          rw [hc] at this
          cases this
        refine iteT ⟨_, rfl, _, rfl, m, _, _, u, rfl, rfl, h6m, ixN_nat (by rw [List.length_map]; omega), ?_⟩
        have h7q : upd H6 m (.lst ((bs2.map V.bl).set u (.bl true))) qa = some (ilst (nmap qs2)) := by
          rw [upd_ne hmq.symm]
          exact h6q
        refine ⟨.ref qa, rfl, .inl ⟨rfl, _, SqL.of h7q⟩, _, rfl, qa, _, _, rfl, rfl, h7q, ?_, ?_⟩
        · unfold nmap
          rw [List.length_map, List.length_map]
          exact small1000 (by omega)
        refine ⟨fun c o n1 n2 e => ?_, qs2 ++ [u], bs2.set u true, ?_, ?_, by rw [List.length_set]; exact hbl2, fun w => ?_, ?_, fun w hw => ?_, ?_, fun w hw => ?_, _, rfl⟩
        · rw [upd_ne n2, upd_ne n1]
          exact b6 c o n1 n2 e
        · rw [upd_same]
          unfold ilst nmap
          rw [List.map_append, List.map_append]
          rfl
        · rw [upd_ne hmq, upd_same, List.map_set]
        · rw [List.getElem?_set, List.mem_append]
          by_cases hw : u = w
          · subst hw
            rw [if_pos rfl, if_pos (by omega)]
            exact ⟨fun _ => .inr (List.mem_singleton.mpr rfl), fun _ => rfl⟩
          · rw [if_neg hw, hbs2]
            exact ⟨.inl, fun h => h.elim id fun h => absurd (List.mem_singleton.mp h).symm hw⟩
        · exact List.nodup_append.mpr ⟨qnd2, List.pairwise_singleton _ _, fun x hx y hy e => hnu (by rw [← List.mem_singleton.mp (show y ∈ [u] from hy), ← e]; exact hx)⟩
        · rcases List.mem_append.mp hw with hw | hw
          · exact hql2 w hw
          · rw [List.mem_singleton.mp hw]
            exact hul
        · exact hpre.trans (List.prefix_append _ _)
        · rcases htk w hw with h | h
          · exact List.mem_append_left _ (hdn w h)
          · rw [h]
            exact List.mem_append_right _ (List.mem_singleton.mpr rfl)
    · rintro σ H6 ⟨b6, qs2, bs2, h6q, h6m, hbl2, hbs2, qnd2, hql2, ⟨more, rfl⟩, hdn, y6, rfl⟩
      rw [List.length_map, List.take_length] at hdn
      have s6 : Same H H6 := fun c o e => b6 c o (fun e2 => by rw [e2, hmH] at e; cases e) (fun e2 => by rw [e2, nqH] at e; cases e) (s5 _ _ e)
      refine ⟨_, rfl, _, _, rfl, rfl, ns.length - (i + 1), by omega, s6, qs ++ more, bs2, i + 1, h6q, h6m, hbl2, hbs2, qnd2, hql2, fun s hs => List.mem_append_left _ (hsq s hs), by rw [List.length_append]; omega, fun j w u l hj hw hl hu => ?_, rfl, y3, y6, ?_⟩
      · by_cases hji : j = i
        · subst hji
          rw [List.getElem?_append_left hil, hv] at hw
          rw [← Option.some.inj hw] at hl
          obtain ⟨z2, hz2', _, e2⟩ := hZn hl
          rw [hz] at hz2'
          rw [← e2, ← Option.some.inj hz2'] at hu
          exact hdn u hu
        · rw [List.getElem?_append_left (by omega)] at hw
          exact List.mem_append_left _ (hcl j w u l (by omega) hw hl hu)
      · have e4 : ((i + 1 : Nat) : Int) = (i : Int) + 1 := by omega
        rw [e4]
        rfl
  · refine ⟨_, rfl, q H5 m bs s5 hmH h5m hbl fun v hv => (hbs v).mpr ?_⟩
    induction hv with
    | base h => exact hsq _ h
    | step _ h1 h2 ih =>
      obtain ⟨j, hj, e3⟩ := List.mem_iff_getElem.mp ih
      exact hcl j _ _ _ (by omega) (by rw [List.getElem?_eq_getElem hj, e3]) h1 h2
theorem ok_check_reached (T : Txt K mg) : Good P w K mg base 2 (He.ga K "check_reached") ["rows"] [] (sp_check_reached K) := by
  refine good_of T.f_check_reached sc_check_reached (fun vs H Q E h => ?_) (fun _ _ _ _ _ _ us hl => match us, hl with | [_], _ => rfl) (fun cdv A outer s H vs Q E hr h => ?_)
  · obtain ⟨_, _, rfl, _⟩ := h
    rfl
  refine ⟨_, (pss_cons (ps_set (i := 1) sc_check_reached.nd rfl (Or.inl rfl) (pe_cg (ok_spread T) (hr.mono (j := 1) (by decide)) (by rfl) T.g_spread (pa_cons (pe_cg (ok_nexts_of T) (hr.mono (j := 1) (by decide)) (by rfl) T.g_nexts_of (pa_cons (pv 0) pa_nil)) (pa_cons (pe_lst (pa_cons pe_int pa_nil)) pa_nil))))
  (pss_one (ps_if (pt_cmpR op_in_seq pe_bl (pv 1) (by rfl))
    (pss_one ps_never)
    pss_nil))), ?_⟩
  obtain ⟨a, rs, rfl, hS, hrw, hok, q⟩ := h
  have hg := hok.g
  have hgl := sxr_len rs
  refine ⟨_, rfl, a, rs, rfl, hS, hrw, hok.few, fun z hz => (hg.rows _ (List.mem_map_of_mem (f := fun q : Addr × Addr × Rw => q.2.2.2.2) hz)).2.1, fun H2 p ns s2 np hp hns em => ⟨(by show 1 ≤ sizeLine; decide), fun o no => ?_⟩⟩
  have hnl : ns.length = rs.length := by
    have e := congrArg List.length em
    rw [List.length_map, List.length_map, hgl] at e
    exact e
  have s3 := same_new (o := .lst [.int 0]) no
  refine ⟨p, o, ns, [0], rfl, SqL.of (s3 _ _ hp), fun z hz => SqL.of (s3 _ _ (hns z hz)), fun z hz t ht => ?_, by rw [hnl]; exact hok.few, SqL.of upd_same, List.pairwise_singleton _ _, fun s hs => ?_, fun H3 mk bs s4 nmk hmk hbl hall => ?_⟩
  · have h1 : z.2 ∈ ns.map (·.2) := List.mem_map_of_mem (f := fun w : Addr × List Int => w.2) hz
    rw [em] at h1
    obtain ⟨l, hl, e⟩ := List.mem_map.mp h1
    rw [← e] at ht
    obtain ⟨ht1, ht2⟩ := List.mem_filter.mp ht
    have h3 := (hg.rows l hl).2.2 t ht1
    have h4 := of_decide_eq_true ht2
    omega
  · rw [List.mem_singleton.mp hs, hnl, ← hgl]
    exact hg.pos
  · have hin : inV (.bl false) (bs.map V.bl) = false := all_marks (n := ns.length) hbl fun v hv => hall v (Rc_mono (fun w u l hw hu => by
      refine ⟨l.filter fun t => decide (t ≠ -1), ?_, List.mem_filter.mpr ⟨hu, decide_eq_true (by omega)⟩⟩
      rw [em, List.getElem?_map, hw]
      rfl) (fun w hw => List.mem_singleton.mpr hw) (hg.reach v (by omega)))
    refine ⟨_, rfl, mk, _, rfl, .inl (SqL.of hmk), rfl, flat_bls bs, _, rfl, ?_⟩
    show (if inV (.bl false) (bs.map V.bl) = true then _ else _)
    rw [hin]
    exact iteF (q H3 ((s2.trans s3).trans s4))
theorem ok_check_ends (T : Txt K mg) : Good P w K mg base 2 (He.ga K "check_ends") ["rows"] [] (sp_check_ends K) := by
  refine good_of T.f_check_ends sc_check_ends (fun vs H Q E h => ?_) (fun _ _ _ _ _ _ us hl => match us, hl with | [_], _ => rfl) (fun cdv A outer s H vs Q E hr h => ?_)
  · obtain ⟨_, _, rfl, _⟩ := h
    rfl
  refine ⟨_, (pss_cons (ps_set (i := 1) sc_check_ends.nd rfl (Or.inl rfl) (pe_cg (ok_spread T) (hr.mono (j := 1) (by decide)) (by rfl) T.g_spread (pa_cons (pe_cg (ok_backs_of T) (hr.mono (j := 1) (by decide)) (by rfl) T.g_backs_of (pa_cons (pv 0) pa_nil)) (pa_cons (pe_lc (own := [("node", 2)]) (g := (gName 2)) rfl sc_check_ends.nd (pi_range1 (by rfl) T.z_range (pa_cons (pe_callB call_len_seq (by rfl) T.z_len (by decide +kernel) (pa_cons (pv 0) pa_nil)) pa_nil)) (blkOk_by (own := [("node", 2)]) (N := ["rows", "marks", "node"]) (sc := defScope s_check_ends) (by decide +kernel)) (fun _ _ _ _ _ => (pg_name (i := 2) sc_check_ends.nd rfl (Or.inl rfl))) (fun _ _ _ _ _ => (pts_one (pt_cmpR (op_in_seqE (K := K) rfl) (pe_glob (v := .int (-1)) (by rfl) T.k_END.choose_spec ⟨_, rfl⟩) (pe_ix (ix_tupE (K := K) rfl) (pe_ix (ix_listE (K := K) rfl) (pv 0) (pv 2) (fun _ _ => rfl)) pe_int (fun _ _ => rfl)) (by rfl)))) (fun _ _ _ _ _ => (pv 2))) pa_nil))))
  (pss_one (ps_if (pt_cmpR op_in_seq pe_bl (pv 1) (by rfl))
    (pss_one ps_never)
    pss_nil))), ?_⟩
  obtain ⟨a, rs, rfl, hS, hrw, hok, q⟩ := h
  have hg := hok.g
  have hgl := sxr_len rs
  have hfew := hok.few
  have hlen : (refR rs).length = rs.length := List.length_map ..
  refine ⟨_, rfl, a, rs, rfl, hS, hrw, hok.few, fun l hl => by rw [← hgl]; exact hg.rows l hl, fun H2 p ns s2 np hp hns hnl hrg hbk _ => ?_⟩
  refine ⟨.ref a, rfl, a, _, rfl, .inl (s2.seq hS), ((refR rs).length : Nat), rfl, by omega, by omega, fun D hD => lc_range (n := (refR rs).length) (fun i H3 => Same H2 H3 ∧ ∃ ss : List Nat, H3 D = some (ilst (nmap ss)) ∧ ss.Nodup ∧ ss.length ≤ i ∧ (∀ s ∈ ss, s < i) ∧ ∀ (v : Nat) (l : List Int), v < i → (sxr rs)[v]? = some l → (-1 : Int) ∈ l → v ∈ ss)
    ⟨same_new hD, [], upd_same, List.nodup_nil, Nat.le_refl _, fun s hs => (nomatch hs), fun v l hv => absurd hv (Nat.not_lt_zero _)⟩ ?_ ?_⟩
  · rintro i H3 hi ⟨s3, ss, h3, nd, hsl, hsi, hse⟩
    have hi2 : i < rs.length := by omega
    have hq : rs[i]? = some rs[i] := List.getElem?_eq_getElem hi2
    have hqm : rs[i] ∈ rs := List.getElem_mem hi2
    generalize rs[i] = qr at hq hqm
    obtain ⟨q1, q2⟩ := hrw qr hqm
    have s23 := s2.trans s3
    refine ⟨rfl, _, rfl, _, rfl, a, _, _, _, rfl, rfl, s23.seq hS, atI0 (get_refR hq), qr.1, _, 2, _, rfl, rfl, SqT.of (s23 _ _ q1), rfl, qr.2.1, _, rfl, .inr (SqT.of (s23 _ _ q2)), rfl, flat_ints _, _, rfl, ?_⟩
    show (if inV (.int (-1)) (qr.2.2.2.2.map V.int) = true then _ else _)
    rw [inV_int]
    by_cases he : (-1 : Int) ∈ qr.2.2.2.2
    · refine ifT he ⟨_, rfl, _, h3, small1000 (by unfold nmap; rw [List.length_map, List.length_map]; omega), same_mut s3 hD, ss ++ [i], ?_, ?_, ?_, fun s hs => ?_, fun v l hv hl hm => ?_⟩
      · have ei : (0 + (i : Int)) = (i : Int) := by omega
        rw [upd_same, ei]
        unfold ilst nmap
        rw [List.map_append, List.map_append]
        rfl
      · exact List.nodup_append.mpr ⟨nd, List.pairwise_singleton _ _, fun x hx y hy e => by
          have h1 := hsi x hx
          have h2 := List.mem_singleton.mp (show y ∈ [i] from hy)
          omega⟩
      · rw [List.length_append]
        show ss.length + 1 ≤ i + 1
        omega
      · rcases List.mem_append.mp hs with h | h
        · have := hsi s h
          omega
        · rw [List.mem_singleton.mp h]
          exact Nat.lt_succ_self _
      · by_cases hvi : v = i
        · rw [hvi]
          exact List.mem_append_right _ (List.mem_singleton.mpr rfl)
        · exact List.mem_append_left _ (hse v l (by omega) hl hm)
    · refine ifF he ⟨s3, ss, h3, nd, by omega, fun s hs => by have := hsi s hs; omega, fun v l hv hl hm => ?_⟩
      by_cases hvi : v = i
      · subst hvi
        rw [get_sxr hq] at hl
        rw [← Option.some.inj hl] at hm
        exact absurd hm he
      · exact hse v l (by omega) hl hm
  · rintro H3 ⟨s3, ss, h3, nd, hsl, hsi, hse⟩
    rw [hlen] at hsi hse
    refine tnil_go ?_
    refine ⟨p, D, ns, ss, rfl, SqL.of (s3 _ _ hp), fun z hz => SqL.of (s3 _ _ (hns z hz)), fun z hz t ht => by rw [hnl]; exact hrg z hz t ht, by rw [hnl]; exact hfew, SqL.of h3, nd, fun s hs => by rw [hnl]; exact hsi s hs, fun H4 mk bs s4 nmk hmk hbl hall => ?_⟩
    have hld : ∀ v, Ld (sxr rs) v → Rc (ns.map (·.2)) (fun s => s ∈ ss) v := fun v hv => by
      induction hv with
      | fin h1 h2 =>
        refine .base (hse _ _ ?_ h1 h2)
        have := (List.getElem?_eq_some_iff.mp h1).1
        omega
      | step h1 h2 _ ih =>
        obtain ⟨bk, h5, h6⟩ := hbk _ _ _ h1 h2
        exact .step ih h5 h6
    have hin : inV (.bl false) (bs.map V.bl) = false := all_marks (n := ns.length) hbl fun v hv => hall v (hld v (hg.ends v (by omega)))
    refine ⟨_, rfl, mk, _, rfl, .inl (SqL.of hmk), rfl, flat_bls bs, _, rfl, ?_⟩
    show (if inV (.bl false) (bs.map V.bl) = true then _ else _)
    rw [hin]
    exact iteF (q H4 ((s2.trans s3).trans s4))
theorem ok_Graph_init (T : Txt K mg) : Good P w K mg base 4 (He.ma K (He.ga K "Graph") "__init__") ["self", "rows"] [] (sp_Graph_init K) := by
  refine good_of T.f_Graph_init sc_Graph_init (fun vs H Q E h => ?_) (fun _ _ _ _ _ _ us hl => match us, hl with | [_, _], _ => rfl) (fun cdv A outer s H vs Q E hr h => ?_)
  · obtain ⟨_, _, _, _, rfl, _⟩ := h
    rfl
  refine ⟨_, (pss_cons (ps_setLc (i := 2) (own := [("row", 3)]) (g := (gName 3)) (tt := tYes) rfl sc_Graph_init.nd rfl rfl (sw_true rfl rfl rfl (by decide +kernel)) (pi_list (pv 1)) (blkOk_by (own := [("row", 3)]) (N := ["self", "rows", "kept", "row"]) (sc := defScope s_Graph_init) (by decide +kernel)) (fun _ _ _ _ _ => (pg_name (i := 3) sc_Graph_init.nd rfl (Or.inl rfl))) (fun _ _ _ _ _ => pts_nil) (fun _ _ _ _ _ => (pe_tup (pa_cons (pe_ix (ix_tupE (K := K) rfl) (pv 3) pe_int (fun _ _ => rfl)) (pa_cons (pe_ix (ix_tupE (K := K) rfl) (pv 3) pe_int (fun _ _ => rfl)) (pa_cons (pe_callTy (call_tuple_ofE (K := K) rfl) (by rfl) T.z_tuple (by decide +kernel) (pa_cons (pe_ix (ix_tupE (K := K) rfl) (pv 3) pe_int (fun _ _ => rfl)) pa_nil)) pa_nil))))))
  (pss_cons (ps_expr (pe_cg (ok_check_rows T) (hr.mono (j := 3) (by decide)) (by rfl) T.g_check_rows (pa_cons (pv 2) pa_nil)))
  (pss_cons (ps_expr (pe_cg (ok_check_reached T) (hr.mono (j := 2) (by decide)) (by rfl) T.g_check_reached (pa_cons (pv 2) pa_nil)))
  (pss_cons (ps_expr (pe_cg (ok_check_ends T) (hr.mono (j := 2) (by decide)) (by rfl) T.g_check_ends (pa_cons (pv 2) pa_nil)))
  (pss_cons (ps_fld (pv 0) (pe_callB call_len_seq (by rfl) T.z_len (by decide +kernel) (pa_cons (pv 2) pa_nil)) rfl)
  (pss_one (ps_fld (pv 0) (pe_callTy call_tuple_of (by rfl) T.z_tuple (by decide +kernel) (pa_cons (pv 2) pa_nil)) rfl))))))), ?_⟩
  obtain ⟨g, dx, a, rs, rfl, hg0, hS, hrw, hok, q⟩ := h
  have hlen : (refR rs).length = rs.length := List.length_map ..
  have hfew := hok.few
  refine ⟨.ref a, rfl, a, rfl, ⟨_, hS⟩, fun D hD => lc_list (K := K) (a := a) (xs := refR rs) (fun i H3 => Same H H3 ∧ ∃ r2 : Rx, H3 D = some (.lst (refR r2)) ∧ RwOk H3 r2 ∧ r2.map (·.2.2) = (rs.take i).map (·.2.2)) ⟨same_new hD, [], upd_same, fun z hz => (nomatch hz), rfl⟩ (fun i H3 _ h => h.1.seq hS) ?_ ?_⟩
  · rintro i x H3 hi ⟨s3, r2, h3, hr2, em⟩
    obtain ⟨qr, hq, hqm, rfl⟩ := refR_get hi
    have hilt := (List.getElem?_eq_some_iff.mp hq).1
    have hr2l : r2.length ≤ i := by
      have e := congrArg List.length em
      rw [List.length_map, List.length_map, List.length_take] at e
      omega
    obtain ⟨q1, q2⟩ := hrw qr hqm
    have hT : SqT K H3 qr.1 [.str qr.2.2.1, .int qr.2.2.2.1, .ref qr.2.1] := SqT.of (s3 _ _ q1)
    have hU : SqT K H3 qr.2.1 (qr.2.2.2.2.map V.int) := SqT.of (s3 _ _ q2)
    refine ⟨rfl, yes_then ⟨_, rfl, qr.1, _, 0, _, rfl, rfl, hT, rfl, _, rfl, qr.1, _, 1, _, rfl, rfl, hT, rfl, _, rfl, qr.1, _, 2, _, rfl, rfl, hT, rfl, qr.2.1, _, rfl, .inr ⟨hU, (by show 3 ≤ sizeLine; decide), fun t nt => ?_⟩⟩⟩
    have hp3 := same_new (o := .tup [.str qr.2.2.1, .int qr.2.2.2.1, .ref qr.2.1]) nt _ _ h3
    have htD : t ≠ D := (ne_of_none h3 nt).symm
    refine ⟨_, hp3, small1000 (by unfold refR; rw [List.length_map]; omega), same_mut (s3.trans (same_new nt)) hD, r2 ++ [(t, qr.2.1, qr.2.2)], ?_, fun z hz => ?_, ?_⟩
    · rw [upd_same]
      unfold refR
      rw [List.map_append]
      rfl
    · have hel : ∀ (c : Addr) (xs : List V), upd H3 t (.tup [.str qr.2.2.1, .int qr.2.2.2.1, .ref qr.2.1]) c = some (.tup xs) → upd (upd H3 t (.tup [.str qr.2.2.1, .int qr.2.2.2.1, .ref qr.2.1])) D (.lst (refR r2 ++ [.ref t])) c = some (.tup xs) := fun c xs h => by
        rw [upd_ne (ne_of h hp3 (fun e => nomatch e))]
        exact h
      rcases List.mem_append.mp hz with hz | hz
      · exact ⟨hel _ _ (same_new nt _ _ (hr2 z hz).1), hel _ _ (same_new nt _ _ (hr2 z hz).2)⟩
      · rw [List.mem_singleton.mp hz]
        exact ⟨hel _ _ upd_same, hel _ _ (same_new nt _ _ (s3 _ _ q2))⟩
    · rw [List.map_append, em, List.take_add_one, hq, List.map_append]
      rfl
  rintro H3 ⟨s3, r2, h3, hr2, em⟩
  rw [hlen, List.take_length] at em
  dsimp only
  have hr2l : r2.length = rs.length := by
    have e := congrArg List.length em
    rw [List.length_map, List.length_map] at e
    exact e
  have hsx : sxr r2 = sxr rs := by
    unfold sxr
    have e := congrArg (List.map fun w : Rw => w.2.2) em
    rw [List.map_map, List.map_map] at e
    exact e
  have hok2 : RsOk r2 := ⟨by omega, by rw [hsx]; exact hok.g, fun z hz => by
    have h1 : z.2.2 ∈ r2.map (·.2.2) := List.mem_map_of_mem (f := fun q : Addr × Addr × Rw => q.2.2) hz
    rw [em] at h1
    obtain ⟨w, hw, e⟩ := List.mem_map.mp h1
    rw [← e]
    exact hok.nm w hw⟩
  refine ⟨_, rfl, D, r2, rfl, SqL.of h3, hr2, hok2, ?_⟩
  refine ⟨_, rfl, D, r2, rfl, SqL.of h3, hr2, hok2, fun H4 s4 => ?_⟩
  refine ⟨_, rfl, D, r2, rfl, SqL.of (s4 _ _ h3), hr2.same s4, hok2, fun H5 s5 => ?_⟩
  have s35 := s4.trans s5
  have h5 := s35 _ _ h3
  have hg5 := s35 _ _ (s3 _ _ hg0)
  have hr5 := hr2.same s35
  have hgD : g ≠ D := ne_of hg5 h5 (fun e => nomatch e)
  have hrl : (refR r2).length = r2.length := List.length_map ..
  refine ⟨.ref D, rfl, D, _, rfl, .inl (SqL.of h5), _, rfl, g, _, dx, _, rfl, hg5, T.cl_Graph, T.na_Graph_size, by decide, ?_⟩
  have b1 : But g H (upd H5 g (.ins (He.ga K "Graph") dx (putF "size" (.int ((refR r2).length : Int)) []))) := (But.refl.then (s3.trans s35)).own
  have f1 : upd H5 g (.ins (He.ga K "Graph") dx (putF "size" (.int ((refR r2).length : Int)) [])) g = some (.ins (He.ga K "Graph") dx [("size", .int (r2.length : Int))]) := by
    rw [upd_same, putF_new _ _ _ rfl, hrl]
    rfl
  have d1 : upd H5 g (.ins (He.ga K "Graph") dx (putF "size" (.int ((refR r2).length : Int)) [])) D = some (.lst (refR r2)) := by
    rw [upd_ne hgD.symm]
    exact h5
  have r1 : RwOk (upd H5 g (.ins (He.ga K "Graph") dx (putF "size" (.int ((refR r2).length : Int)) []))) r2 := fun z hz => by
    rw [upd_ne (ne_of (hr5 z hz).1 hg5 (fun e => nomatch e)), upd_ne (ne_of (hr5 z hz).2 hg5 (fun e => nomatch e))]
    exact hr5 z hz
  generalize upd H5 g (.ins (He.ga K "Graph") dx (putF "size" (.int ((refR r2).length : Int)) [])) = H6 at b1 f1 d1 r1 ⊢
  refine ⟨.ref D, rfl, D, _, rfl, .inl ⟨SqL.of d1, fun t nt => ?_⟩⟩
  have gt : g ≠ t := ne_of_none f1 nt
  have f2 := same_new (o := .tup (refR r2)) nt _ _ f1
  refine ⟨_, rfl, g, _, dx, _, rfl, f2, T.cl_Graph, T.na_Graph_rows, (by show 1 < 1000; decide), ?_⟩
  refine q _ r2 (b1.new nt).own ⟨dx, t, ?_, ?_, fun z hz => ?_⟩ em
  · rw [upd_same, putF_new _ _ _ rfl]
    rfl
  · rw [upd_ne gt.symm, upd_same]
  · have h1 := same_new (o := .tup (refR r2)) nt _ _ (r1 z hz).1
    have h2 := same_new (o := .tup (refR r2)) nt _ _ (r1 z hz).2
    rw [upd_ne (ne_of h1 f2 (fun e => nomatch e)), upd_ne (ne_of h2 f2 (fun e => nomatch e))]
    exact ⟨h1, h2⟩
end
end K62

namespace K62
open PySem PySem.Spec PyProof.Rows L2 Fw Lay
section
variable {P : Program} {w : World} {K : PySem.W.Frag} {mg : Str → Option Value} {base : Heap}
theorem ok_Graph_rows (T : Txt K mg) : Good P w K mg base 1 (He.ma K (He.ga K "Graph") "rows") ["self"] [] (sp_Graph_rows K) := by
  refine good_of T.f_Graph_rows sc_Graph_rows (fun vs H Q E h => ?_) (fun _ _ _ _ _ _ us hl => match us, hl with | [_], _ => rfl) (fun cdv A outer s H vs Q E hr h => ?_)
  · obtain ⟨_, _, rfl, _⟩ := h
    rfl
  refine ⟨_, (pss_one (ps_ret (pe_callTy call_list_of (by rfl) T.z_list (by decide +kernel) (pa_cons (pe_fld (pv 0) rfl) pa_nil)))), ?_⟩
  obtain ⟨g, rs, rfl, ⟨dx, ra, h1, h2, h3⟩, q⟩ := h
  exact ⟨_, rfl, g, _, dx, _, _, rfl, h1, T.cl_Graph, T.na_Graph_rows, rfl, ra, _, rfl, .inr (SqT.of h2), fun p np => q p np⟩
theorem ok_Graph_word (T : Txt K mg) : Good P w K mg base 1 (He.ma K (He.ga K "Graph") "word") ["self", "node"] [] (sp_Graph_word K) := by
  refine good_of T.f_Graph_word sc_Graph_word (fun vs H Q E h => ?_) (fun _ _ _ _ _ _ us hl => match us, hl with | [_, _], _ => rfl) (fun cdv A outer s H vs Q E hr h => ?_)
  · obtain ⟨_, _, _, _, rfl, _⟩ := h
    rfl
  refine ⟨_, (pss_one (ps_ret (pe_ix ix_tup (pe_ix ix_tup (pe_fld (pv 0) rfl) (pv 1) (fun _ _ => rfl)) pe_int (fun _ _ => rfl)))), ?_⟩
  obtain ⟨g, rs, i, qr, rfl, ⟨dx, ra, h1, h2, h3⟩, hq, q⟩ := h
  exact ⟨_, rfl, g, _, dx, _, _, rfl, h1, T.cl_Graph, T.na_Graph_rows, rfl, _, rfl, ra, _, _, _, rfl, rfl, SqT.of h2, atI_nat (get_refR hq), qr.1, _, 0, _, rfl, rfl, SqT.of (h3 qr (List.mem_of_getElem? hq)).1, rfl, q⟩
theorem nmap_gv {fs : List Nat} {i f : Nat} (h : fs[i]? = some f) : ((nmap fs).map V.int)[i]? = some (.int (f : Int)) := by
  unfold nmap
  rw [List.map_map, List.getElem?_map, h]
  rfl
theorem bl_get {bs : List Bool} {i : Nat} {b : Bool} (h : bs[i]? = some b) : (bs.map V.bl)[i]? = some (.bl b) := by
  rw [List.getElem?_map, h]
  rfl
theorem sum_set {l : List Nat} {i x : Nat} (h : l[i]? = some x) : (l.set i (x + 1)).sum = l.sum + 1 := by
  induction l generalizing i with
  | nil => cases h
  | cons y l ih =>
    cases i with
    | zero =>
      have e : y = x := Option.some.inj h
      show (x + 1) + l.sum = y + l.sum + 1
      omega
    | succ i =>
      have := ih (i := i) h
      show y + (l.set i (x + 1)).sum = y + l.sum + 1
      omega
theorem sum_le : ∀ (l : List Nat) (b : Nat), (∀ x ∈ l, x ≤ b) → l.sum ≤ b * l.length
  | [], b, _ => Nat.zero_le _
  | x :: l, b, h => by
    have h1 := h x (List.mem_cons_self ..)
    have h2 := sum_le l b fun y hy => h y (List.mem_cons_of_mem x hy)
    show x + l.sum ≤ b * (l.length + 1)
    rw [Nat.mul_succ]
    omega
theorem ok_left_order (T : Txt K mg) : Good P w K mg base 1 (He.ga K "left_order") ["lists"] [] (sp_left_order K) := by
  refine good_of T.f_left_order sc_left_order (fun vs H Q E h => ?_) (fun _ _ _ _ _ _ us hl => match us, hl with | [_], _ => rfl) (fun cdv A outer s H vs Q E hr h => ?_)
  · obtain ⟨_, _, rfl, _⟩ := h
    rfl
  refine ⟨_, (pss_cons (ps_set (i := 1) sc_left_order.nd rfl (Or.inl rfl) (pe_op op_rep (pe_lst (pa_cons pe_int pa_nil)) (pe_callB call_len_seq (by rfl) T.z_len (by decide +kernel) (pa_cons (pv 0) pa_nil))))
  (pss_cons (ps_set (i := 2) sc_left_order.nd rfl (Or.inl rfl) (pe_op op_rep (pe_lst (pa_cons pe_bl pa_nil)) (pe_callB call_len_seq (by rfl) T.z_len (by decide +kernel) (pa_cons (pv 0) pa_nil))))
  (pss_cons (ps_asg pe_bl (pg_sub (pv 2) pe_int set_list))
  (pss_cons (ps_set (i := 3) sc_left_order.nd rfl (Or.inl rfl) (pe_lst (pa_cons pe_int pa_nil)))
  (pss_cons (ps_set (i := 4) sc_left_order.nd rfl (Or.inl rfl) (pe_lst pa_nil))
  (pss_cons (ps_while PassesOwn.never (pt_cmpR op_gt (pe_callB call_len_seq (by rfl) T.z_len (by decide +kernel) (pa_cons (pv 3) pa_nil)) pe_int (nomark _))
    (pss_cons (ps_set (i := 5) sc_left_order.nd rfl (Or.inl rfl) (pe_ix ix_list (pv 3) (pe_un un_neg pe_int) (fun _ _ => rfl)))
  (pss_one (ps_if (pt_cmpR op_eq (pe_ix ix_list (pv 1) (pv 5) (fun _ _ => rfl)) (pe_callB call_len_seq (by rfl) T.z_len (by decide +kernel) (pa_cons (pe_ix ix_list (pv 0) (pv 5) (fun _ _ => rfl)) pa_nil)) (nomark _))
    (pss_one (ps_expr (pe_bm PySem.F.plainAttrs_list PySem.F.slot_list_append PySem.F.type_list_append mt_append (pv 4) (pa_cons (pe_bm0 PySem.F.plainAttrs_list PySem.F.slot_list_pop PySem.F.type_list_pop mt_pop (pv 3)) pa_nil))))
    (pss_cons (ps_set (i := 6) sc_left_order.nd rfl (Or.inl rfl) (pe_ix ix_list (pe_ix ix_list (pv 0) (pv 5) (fun _ _ => rfl)) (pe_ix ix_list (pv 1) (pv 5) (fun _ _ => rfl)) (fun _ _ => rfl)))
  (pss_cons (ps_augS (pv 1) (pv 5) get_list pe_int ip_add set_list)
  (pss_one (ps_if (pt_not (pt_val (pe_ix ix_list (pv 2) (pv 6) (fun _ _ => rfl))))
    (pss_cons (ps_asg pe_bl (pg_sub (pv 2) (pv 6) set_list))
  (pss_one (ps_expr (pe_bm PySem.F.plainAttrs_list PySem.F.slot_list_append PySem.F.type_list_append mt_append (pv 3) (pa_cons (pv 6) pa_nil)))))
    pss_nil))))))))
  (pss_one (ps_ret (pv 4))))))))), ?_⟩
  obtain ⟨a, ws, rfl, hA, hL, hpos, hl, hw, q⟩ := h
  have hlen : (refL ws).length = ws.length := List.length_map ..
  have hgl : (ws.map (·.2)).length = ws.length := List.length_map ..
  -- looked
  refine ⟨(by show 1 ≤ sizeLine; decide), fun o1 no1 => ?_⟩
  have s1 := same_new (o := .lst [.int 0]) no1
  refine ⟨.ref a, rfl, a, _, rfl, .inl (s1.seq hA), o1, _, _, rfl, rfl, upd_same, by omega, by omega, ?_, fun lk nlk => ?_⟩
  · rw [hlen]
    exact Nat.le_trans (show 1 * (ws.length : Int).toNat ≤ 1000 by omega) (by decide)
  have e1 : (List.replicate ((refL ws).length : Int).toNat [V.int 0]).flatten = (nmap (List.replicate ws.length 0)).map V.int := by
    rw [List.flatten_replicate_singleton, hlen, Int.toNat_natCast]
    unfold nmap
    rw [List.map_replicate, List.map_replicate]
    rfl
  rw [e1]
  have s2 := s1.trans (same_new (o := .lst ((nmap (List.replicate ws.length 0)).map V.int)) nlk)
  have nlkH := s1.free nlk
  have hlk2 : upd (upd H o1 (.lst [.int 0])) lk (.lst ((nmap (List.replicate ws.length 0)).map V.int)) lk = some (ilst (nmap (List.replicate ws.length 0))) := upd_same
  generalize upd (upd H o1 (.lst [.int 0])) lk (.lst ((nmap (List.replicate ws.length 0)).map V.int)) = H2 at s2 hlk2 ⊢
  -- seen
  refine ⟨(by show 1 ≤ sizeLine; decide), fun o2 no2 => ?_⟩
  have s3 := same_new (o := .lst [.bl false]) no2
  refine ⟨.ref a, rfl, a, _, rfl, .inl (s3.seq (s2.seq hA)), o2, _, _, rfl, rfl, upd_same, by omega, by omega, ?_, fun sn nsn => ?_⟩
  · rw [hlen]
    exact Nat.le_trans (show 1 * (ws.length : Int).toNat ≤ 1000 by omega) (by decide)
  have e2 : (List.replicate ((refL ws).length : Int).toNat [V.bl false]).flatten = (List.replicate ws.length false).map V.bl := by
    rw [List.flatten_replicate_singleton, hlen, Int.toNat_natCast, List.map_replicate]
  rw [e2]
  have nsnH := s2.free (s3.free nsn)
  have s4 := s3.trans (same_new (o := .lst ((List.replicate ws.length false).map V.bl)) nsn)
  have hlksn : lk ≠ sn := ne_of_none (s3 _ _ hlk2) nsn
  have hsn4 : upd (upd H2 o2 (.lst [.bl false])) sn (.lst ((List.replicate ws.length false).map V.bl)) sn = some (.lst ((List.replicate ws.length false).map V.bl)) := upd_same
  have hlk4 := s4 _ _ hlk2
  have s04 := s2.trans s4
  clear s1 s3 no1 no2
  generalize upd (upd H2 o2 (.lst [.bl false])) sn (.lst ((List.replicate ws.length false).map V.bl)) = H4 at s4 s04 hsn4 hlk4 ⊢
  -- seen[0] = True
  refine ⟨_, rfl, sn, _, _, 0, rfl, rfl, hsn4, ixN_nat (by rw [List.length_map, List.length_replicate]; exact hpos), ?_⟩
  have s5 := same_mut s04 nsnH (o := .lst (((List.replicate ws.length false).map V.bl).set 0 (.bl true)))
  have hsn5 : upd H4 sn (.lst (((List.replicate ws.length false).map V.bl).set 0 (.bl true))) sn = some (.lst (((List.replicate ws.length false).set 0 true).map V.bl)) := by
    rw [upd_same, List.map_set]
  have hlk5 : upd H4 sn (.lst (((List.replicate ws.length false).map V.bl).set 0 (.bl true))) lk = some (ilst (nmap (List.replicate ws.length 0))) := by
    rw [upd_ne hlksn]
    exact hlk4
  generalize upd H4 sn (.lst (((List.replicate ws.length false).map V.bl).set 0 (.bl true))) = H5 at s5 hsn5 hlk5 ⊢
  refine ⟨(by show 1 ≤ sizeLine; decide), fun st nst => ?_⟩
  have s6 := s5.trans (same_new (o := .lst [.int 0]) nst)
  have nstH := s5.free nst
  have hst6 : upd H5 st (.lst [.int 0]) st = some (ilst (nmap [0])) := upd_same
  have hsn6 := same_new (o := .lst [.int 0]) nst _ _ hsn5
  have hlk6 := same_new (o := .lst [.int 0]) nst _ _ hlk5
  have n1 : st ≠ lk := (ne_of_none hlk5 nst).symm
  have n2 : st ≠ sn := (ne_of_none hsn5 nst).symm
  generalize upd H5 st (.lst [.int 0]) = H6 at s6 hst6 hsn6 hlk6 ⊢
  refine ⟨Nat.zero_le _, fun od nod => ?_⟩
  have s7 := s6.trans (same_new (o := .lst []) nod)
  have nodH := s6.free nod
  have hod7 : upd H6 od (.lst []) od = some (ilst (nmap [])) := upd_same
  have hst7 := same_new (o := .lst []) nod _ _ hst6
  have hsn7 := same_new (o := .lst []) nod _ _ hsn6
  have hlk7 := same_new (o := .lst []) nod _ _ hlk6
  have n3 : od ≠ lk := (ne_of_none hlk6 nod).symm
  have n4 : od ≠ sn := (ne_of_none hsn6 nod).symm
  have n5 : od ≠ st := (ne_of_none hst6 nod).symm
  generalize upd H6 od (.lst []) = H7 at s7 hod7 hst7 hsn7 hlk7 ⊢
  have hD0 : Dfs (ws.map (·.2)) (List.replicate ws.length 0) ((List.replicate ws.length false).set 0 true) [0] [] := by
    refine ⟨by rw [List.length_replicate, hgl], by rw [List.length_set, List.length_replicate, hgl], fun v => ?_, List.pairwise_singleton _ _, fun i j u v _ hu hv => ?_, fun v k l hk _ => ?_, fun i u v hu => ?_, .inl (List.mem_singleton.mpr rfl)⟩
    · rw [List.getElem?_set, List.length_replicate]
      by_cases e : 0 = v
      · subst e
        rw [if_pos rfl, if_pos hpos]
        exact ⟨fun _ => .inl (List.mem_singleton.mpr rfl), fun _ => rfl⟩
      · rw [if_neg e, List.getElem?_replicate]
        refine ⟨fun h => ?_, fun h => ?_⟩
        · split at h <;> cases h
        · rcases h with h | h
          · exact absurd (List.mem_singleton.mp h).symm e
          · cases h
    · rcases i with _ | i
      · rcases j with _ | j
        · rw [← Option.some.inj hu, ← Option.some.inj hv]
          exact .refl _
        · cases hv
      · cases hu
    · rw [List.getElem?_replicate] at hk
      split at hk
      · rw [← Option.some.inj hk]
        exact ⟨Nat.zero_le _, fun t ht => nomatch ht⟩
      · cases hk
    · cases hu
  -- the search
  refine ⟨fun m σ H8 => ∃ (lks : List Nat) (sns : List Bool) (sts ods : List Nat), m + lks.sum + ods.length = 5 * ws.length ∧ Dfs (ws.map (·.2)) lks sns sts ods ∧ (Same H H8 ∧ H8 lk = some (ilst (nmap lks)) ∧ H8 sn = some (.lst (sns.map V.bl)) ∧ H8 st = some (ilst (nmap sts)) ∧ H8 od = some (ilst (nmap ods))) ∧
    ∃ y5 y6, σ = [some (.ref a), some (.ref lk), some (.ref sn), some (.ref st), some (.ref od), y5, y6], ⟨5 * ws.length, _, _, _, _, ?_, hD0, ⟨s7, hlk7, hsn7, hst7, hod7⟩, none, none, rfl⟩, ?_⟩
  · have : ∀ n : Nat, (List.replicate n 0).sum = 0 := fun n => by
      induction n with
      | zero => rfl
      | succ n ih =>
        rw [List.replicate_succ, List.sum_cons, ih]
    rw [this]
    rfl
  rintro m σ H8 ⟨lks, sns, sts, ods, hm, hD, ⟨s8, h1, h2, h3, h4⟩, y5, y6, rfl⟩
  have enl : ∀ xs : List Nat, ((nmap xs).map V.int).length = xs.length := fun xs => by
    unfold nmap
    rw [List.length_map, List.length_map]
  have hodl : ods.length ≤ ws.length := by
    have h5 := nodup_lt ws.length ods (by have := hD.nd; exact (List.nodup_append.mp this).1) fun v hv => by
      have := hD.lt (.inr hv)
      omega
    exact h5
  have hstl : sts.length ≤ ws.length := by
    have h5 := nodup_lt ws.length sts (by have := hD.nd; exact (List.nodup_append.mp this).2.1) fun v hv => by
      have := hD.lt (.inl hv)
      omega
    exact h5
  refine ⟨_, rfl, st, _, rfl, .inl (SqL.of h3), _, _, rfl, rfl, _, rfl, ?_⟩
  dsimp only
  rw [enl]
  refine if2 (fun e => ?_) (fun e => ?_)
  · obtain ⟨s0, t, rfl⟩ : ∃ s0 t, sts = s0 ++ [t] := ⟨sts.dropLast, sts.getLast (List.ne_nil_of_length_pos (by omega)), (List.dropLast_concat_getLast _).symm⟩
    have htl := hD.lt (.inl (List.mem_append_right _ (List.mem_singleton.mpr rfl)) : t ∈ s0 ++ [t] ∨ t ∈ ods)
    rw [hgl] at htl
    have hz : ws[t]? = some ws[t] := List.getElem?_eq_getElem htl
    have hzm : ws[t] ∈ ws := List.getElem_mem htl
    generalize ws[t] = z at hz hzm
    have hgz : (ws.map (·.2))[t]? = some z.2 := by rw [List.getElem?_map, hz]; rfl
    have hkl : t < lks.length := by rw [hD.ll, hgl]; exact htl
    have hk : lks[t]? = some lks[t] := List.getElem?_eq_getElem hkl
    generalize lks[t] = k at hk
    have hkz := (hD.lkd t k z.2 hk hgz).1
    obtain ⟨hz4, hzr⟩ := hw z hzm
    have hzl := s8.seq (hL z hzm)
    have hlast : atI ((nmap (s0 ++ [t])).map V.int) (-1) = some (.int (t : Int)) := by
      refine atI_end (r := nmap (s0 ++ [t])) ?_
      unfold nmap
      rw [List.map_append, List.length_append, List.length_map]
      show (_ ++ [(t : Int)])[s0.length + 1 - 1]? = _
      rw [Nat.add_sub_cancel]
      have e6 : s0.length = (s0.map fun f : Nat => (f : Int)).length := (List.length_map ..).symm
      rw [e6, List.getElem?_concat_length]
    refine ⟨fun σ H9 => ∃ (lks : List Nat) (sns : List Bool) (sts ods : List Nat), (∃ m', m' < m ∧ m' + lks.sum + ods.length = 5 * ws.length) ∧ Dfs (ws.map (·.2)) lks sns sts ods ∧ (Same H H9 ∧ H9 lk = some (ilst (nmap lks)) ∧ H9 sn = some (.lst (sns.map V.bl)) ∧ H9 st = some (ilst (nmap sts)) ∧ H9 od = some (ilst (nmap ods))) ∧
      ∃ y5 y6, σ = [some (.ref a), some (.ref lk), some (.ref sn), some (.ref st), some (.ref od), y5, y6], ?_, ?_⟩
    · rintro σ' H' ⟨lks, sns, sts, ods, ⟨m', hlt, hm'⟩, hD', hh, y5, y6, rfl⟩
      exact ⟨m', hlt, lks, sns, sts, ods, hm', hD', hh, y5, y6, rfl⟩
    refine ⟨_, rfl, 1, rfl, st, _, _, _, rfl, rfl, SqL.of h3, hlast, ?_⟩
    refine ⟨_, rfl, _, rfl, lk, _, _, _, rfl, rfl, SqL.of h1, atI_nat (nmap_gv hk), _, rfl, _, rfl, a, _, _, _, rfl, rfl, s8.seq hA, atI_nat (get_refL hz), z.1, _, rfl, .inl hzl, rfl, _, rfl, ?_⟩
    dsimp only
    rw [List.length_map]
    have hsum : ∀ {lks : List Nat} {sns : List Bool} {sts ods : List Nat}, Dfs (ws.map (·.2)) lks sns sts ods → lks.sum ≤ 4 * ws.length := fun {lks sns sts ods} hD => by
      have h5 := sum_le lks 4 fun x hx => by
        obtain ⟨j, hj, e⟩ := List.mem_iff_getElem.mp hx
        have hj2 : j < ws.length := by
          have := hD.ll
          omega
        have hzj : ws[j]? = some ws[j] := List.getElem?_eq_getElem hj2
        have h6 := (hD.lkd j x ws[j].2 (by rw [List.getElem?_eq_getElem hj, e]) (by rw [List.getElem?_map, hzj]; rfl)).1
        have h7 := (hw ws[j] (List.getElem_mem hj2)).1
        omega
      have := hD.ll
      rw [hgl] at this
      rw [this] at h5
      exact h5
    have hs0 := hsum hD
    refine if2 (fun e2 => ?_) (fun e2 => ?_)
    · -- the top is left
      have e3 : k = z.2.length := by
        have := V.int.inj e2
        omega
      rw [e3] at hk
      have hL2 := hD.leave hgz hk
      have hgl3 : (nmap (s0 ++ [t])).map V.int = (nmap s0).map V.int ++ [V.int (t : Int)] := by
        unfold nmap
        rw [List.map_append, List.map_append]
        rfl
      have hp : ((nmap (s0 ++ [t])).map V.int)[((nmap (s0 ++ [t])).map V.int).length - 1]? = some (.int (t : Int)) := by
        rw [hgl3, List.length_append]
        show (_ ++ [V.int (t : Int)])[((nmap s0).map V.int).length + 1 - 1]? = _
        rw [Nat.add_sub_cancel, List.getElem?_concat_length]
      have hod1 : ods.length + 1 ≤ ws.length := by
        have h5 := nodup_lt ws.length (ods ++ [t]) (by have := hL2.nd; exact (List.nodup_append.mp this).1) fun v hv => by
          have := hL2.lt (.inr hv)
          omega
        rw [List.length_append] at h5
        exact h5
      refine ⟨_, rfl, .inl ⟨rfl, _, SqL.of h4⟩, _, rfl, .inl ⟨rfl, _, SqL.of h3⟩, st, _, _, rfl, rfl, h3, hp, ?_⟩
      rw [hgl3, List.dropLast_concat]
      have h4b : upd H8 st (.lst ((nmap s0).map V.int)) od = some (ilst (nmap ods)) := by
        rw [upd_ne n5]
        exact h4
      refine ⟨od, _, _, rfl, rfl, h4b, small1000 (by rw [enl]; omega), lks, sns, s0, ods ++ [t], ⟨m - 1, by omega, ?_⟩, hL2, ⟨same_mut (same_mut s8 nstH) nodH, ?_, ?_, ?_, ?_⟩, _, _, rfl⟩
      · rw [List.length_append]
        show m - 1 + lks.sum + (ods.length + 1) = _
        omega
      · rw [upd_ne n3.symm, upd_ne n1.symm]
        exact h1
      · rw [upd_ne n4.symm, upd_ne n2.symm]
        exact h2
      · rw [upd_ne n5.symm, upd_same]
      · rw [upd_same]
        unfold ilst nmap
        rw [List.map_append, List.map_append]
        rfl
    · -- one more entry
      have hklt : k < z.2.length := by
        have : k ≠ z.2.length := fun e3 => e2 (by rw [e3])
        omega
      have hx : z.2[k]? = some z.2[k] := List.getElem?_eq_getElem hklt
      have hxr := hzr _ (List.getElem_mem hklt)
      generalize z.2[k] = x at hx hxr
      obtain ⟨n, rfl⟩ : ∃ n : Nat, x = n := ⟨x.toNat, by omega⟩
      have hnl : n < ws.length := by omega
      obtain ⟨hL1, hL2⟩ := hD.look hgz hk hx (by rw [hgl]; exact hnl)
      have hsb : sns[n]? = some (sns[n]'(by rw [hD.sl, hgl]; exact hnl)) := List.getElem?_eq_getElem _
      generalize sns[n]'(by rw [hD.sl, hgl]; exact hnl) = sb at hsb
      refine ⟨_, rfl, _, rfl, a, _, _, _, rfl, rfl, s8.seq hA, atI_nat (get_refL hz), _, rfl, _, rfl, lk, _, _, _, rfl, rfl, SqL.of h1, atI_nat (nmap_gv hk), z.1, _, _, _, rfl, rfl, hzl, atI_nat (get_map hx), ?_⟩
      refine ⟨_, rfl, _, rfl, lk, _, _, _, rfl, rfl, SqL.of h1, atI_nat (nmap_gv hk), _, _, rfl, rfl, lk, _, _, t, rfl, rfl, h1, ixN_nat (by rw [enl]; exact hkl), ?_⟩
      have e4 : ((nmap lks).map V.int).set t (.int ((k : Int) + 1)) = (nmap (lks.set t (k + 1))).map V.int := by
        unfold nmap
        rw [List.map_set, List.map_set]
        rfl
      rw [e4]
      have s9 := same_mut s8 nlkH (o := .lst ((nmap (lks.set t (k + 1))).map V.int))
      have g1 : upd H8 lk (.lst ((nmap (lks.set t (k + 1))).map V.int)) lk = some (ilst (nmap (lks.set t (k + 1)))) := upd_same
      have g2 : upd H8 lk (.lst ((nmap (lks.set t (k + 1))).map V.int)) sn = some (.lst (sns.map V.bl)) := by rw [upd_ne hlksn.symm]; exact h2
      have g3 : upd H8 lk (.lst ((nmap (lks.set t (k + 1))).map V.int)) st = some (ilst (nmap (s0 ++ [t]))) := by rw [upd_ne n1]; exact h3
      have g4 : upd H8 lk (.lst ((nmap (lks.set t (k + 1))).map V.int)) od = some (ilst (nmap ods)) := by rw [upd_ne n3]; exact h4
      generalize upd H8 lk (.lst ((nmap (lks.set t (k + 1))).map V.int)) = H9 at s9 g1 g2 g3 g4 ⊢
      have hsum2 := sum_set hk
      have hs1 : (lks.set t (k + 1)).sum ≤ 4 * ws.length := by
        cases sb with
        | true => exact hsum (hL1 hsb)
        | false => exact hsum (hL2 hsb)
      have hm2 : ∃ m', m' < m ∧ m' + (lks.set t (k + 1)).sum + ods.length = 5 * ws.length := ⟨m - 1, by omega, by omega⟩
      refine ⟨_, rfl, _, rfl, sn, _, _, _, rfl, rfl, SqL.of g2, atI_nat (bl_get hsb), sb, rfl, ?_⟩
      cases sb with
      | true => exact iteF ⟨_, _, _, _, hm2, hL1 hsb, ⟨s9, g1, g2, g3, g4⟩, _, _, rfl⟩
      | false =>
        refine iteT ⟨_, rfl, _, rfl, sn, _, _, n, rfl, rfl, g2, ixN_nat (by rw [List.length_map, hD.sl, hgl]; exact hnl), ?_⟩
        have g3b : upd H9 sn (.lst ((sns.map V.bl).set n (.bl true))) st = some (ilst (nmap (s0 ++ [t]))) := by rw [upd_ne n2]; exact g3
        refine ⟨_, rfl, .inl ⟨rfl, _, SqL.of g3b⟩, _, rfl, st, _, _, rfl, rfl, g3b, small1000 (by rw [enl]; omega), _, _, _, _, hm2, hL2 hsb, ⟨same_mut (same_mut s9 nsnH) nstH, ?_, ?_, ?_, ?_⟩, _, _, rfl⟩
        · rw [upd_ne n1.symm, upd_ne hlksn]
          exact g1
        · rw [upd_ne n2.symm, upd_same, List.map_set]
        · rw [upd_same]
          unfold ilst nmap
          rw [List.map_append (l₁ := s0 ++ [t]), List.map_append (l₂ := [n].map _)]
          rfl
        · rw [upd_ne n5, upd_ne n4]
          exact g4
  · have e0 : sts = [] := List.length_eq_zero_iff.mp (by omega)
    subst e0
    exact ⟨_, rfl, q H8 od ods s8 nodH h4 hD.done⟩
end
end K62

namespace K62
open PySem PySem.Spec PyProof.Rows L2 Fw Lay
section
variable {P : Program} {w : World} {K : PySem.W.Frag} {mg : Str → Option Value} {base : Heap}
theorem ed_lt {g : Nx} {u v : Nat} (h : Ed g u v) : u < g.length := by
  obtain ⟨l, h1, _⟩ := h
  exact (List.getElem?_eq_some_iff.mp h1).1
theorem ed_lt2 {g : Nx} (hg : GOk g) {u v : Nat} (h : Ed g u v) : v < g.length := by
  obtain ⟨l, h1, h2⟩ := h
  rcases (hg.rows l (List.mem_of_getElem? h1)).2.2 v h2 with h | h
  · omega
  · omega
theorem ed_nexts {g : Nx} {u v : Nat} : Ed (g.map fun l => l.filter fun t => decide (t ≠ -1)) u v ↔ Ed g u v := by
  constructor
  · rintro ⟨l, h1, h2⟩
    rw [List.getElem?_map] at h1
    obtain ⟨m, h3, rfl⟩ := Option.map_eq_some_iff.mp h1
    exact ⟨m, h3, (List.mem_filter.mp h2).1⟩
  · rintro ⟨l, h1, h2⟩
    exact ⟨_, by rw [List.getElem?_map, h1]; rfl, List.mem_filter.mpr ⟨h2, by rw [decide_eq_true_iff]; omega⟩⟩
theorem ok_class_numbers (T : Txt K mg) : Good P w K mg base 2 (He.ga K "class_numbers") ["graph"] [] (sp_class_numbers K) := by
  refine good_of T.f_class_numbers sc_class_numbers (fun vs H Q E h => ?_) (fun _ _ _ _ _ _ us hl => match us, hl with | [_], _ => rfl) (fun cdv A outer s H vs Q E hr h => ?_)
  · obtain ⟨_, _, rfl, _⟩ := h
    rfl
  refine ⟨_, (pss_cons (ps_set (i := 1) sc_class_numbers.nd rfl (Or.inl rfl) (pe_cg (ok_backs_of T) (hr.mono (j := 1) (by decide)) (by rfl) T.g_backs_of (pa_cons (pe_mtg0 (pv 0) T.cl_Graph T.me_Graph_rows (ok_Graph_rows T) (hr.mono (j := 1) (by decide))) pa_nil)))
  (pss_cons (ps_set (i := 2) sc_class_numbers.nd rfl (Or.inl rfl) (pe_op op_rep (pe_lst (pa_cons (pe_un un_neg pe_int) pa_nil)) (pe_fld (pv 0) rfl)))
  (pss_cons (ps_set (i := 3) sc_class_numbers.nd rfl (Or.inl rfl) pe_int)
  (pss_cons (ps_for PassesOwn.never rfl (pi_reversed (by rfl) T.z_reversed (pa_cons (pe_cg (ok_left_order T) (hr.mono (j := 1) (by decide)) (by rfl) T.g_left_order (pa_cons (pe_cg (ok_nexts_of T) (hr.mono (j := 1) (by decide)) (by rfl) T.g_nexts_of (pa_cons (pe_mtg0 (pv 0) T.cl_Graph T.me_Graph_rows (ok_Graph_rows T) (hr.mono (j := 1) (by decide))) pa_nil)) pa_nil)) pa_nil)) (pg_name (i := 4) sc_class_numbers.nd rfl (Or.inl rfl))
    (pss_one (ps_if (pt_cmpR op_lt (pe_ix ix_list (pv 2) (pv 4) (fun _ _ => rfl)) pe_int (nomark _))
    (pss_cons (ps_asg (pv 3) (pg_sub (pv 2) (pv 4) set_list))
  (pss_cons (ps_set (i := 5) sc_class_numbers.nd rfl (Or.inl rfl) (pe_lst (pa_cons (pv 4) pa_nil)))
  (pss_cons (ps_set (i := 6) sc_class_numbers.nd rfl (Or.inl rfl) pe_int)
  (pss_cons (ps_while PassesOwn.never (pt_cmpR op_lt (pv 6) (pe_callB call_len_seq (by rfl) T.z_len (by decide +kernel) (pa_cons (pv 5) pa_nil)) (nomark _))
    (pss_cons (ps_for PassesOwn.never rfl (pi_list (pe_ix ix_list (pv 1) (pe_ix ix_list (pv 5) (pv 6) (fun _ _ => rfl)) (fun _ _ => rfl))) (pg_name (i := 7) sc_class_numbers.nd rfl (Or.inl rfl))
    (pss_one (ps_if (pt_cmpR op_lt (pe_ix ix_list (pv 2) (pv 7) (fun _ _ => rfl)) pe_int (nomark _))
    (pss_cons (ps_asg (pv 3) (pg_sub (pv 2) (pv 7) set_list))
  (pss_one (ps_expr (pe_bm PySem.F.plainAttrs_list PySem.F.slot_list_append PySem.F.type_list_append mt_append (pv 5) (pa_cons (pv 7) pa_nil)))))
    pss_nil)))
  (pss_one (ps_aug (i := 6) sc_class_numbers.nd rfl (Or.inl rfl) pe_int ip_add))))
  (pss_one (ps_aug (i := 3) sc_class_numbers.nd rfl (Or.inl rfl) pe_int ip_add))))))
    pss_nil)))
  (pss_one (ps_ret (pv 2))))))), ?_⟩
  obtain ⟨g, rs, rfl, hG, hok, q⟩ := h
  obtain ⟨dx, ra, h1, h2, hrw⟩ := id hG
  have hgl := sxr_len rs
  have hg := hok.g
  have hfew := hok.few
  have hpos : 0 < rs.length := by
    have := hg.pos
    omega
  have hlen : (refR rs).length = rs.length := List.length_map ..
  -- backs
  refine ⟨_, rfl, g, dx, _, rfl, h1, rfl, g, rs, rfl, hG, fun p0 np0 => ?_⟩
  have s0 := same_new (o := .lst (refR rs)) np0
  refine ⟨p0, rs, rfl, SqL.of upd_same, hrw.same s0, hfew, fun l hl => by rw [← hgl]; exact hg.rows l hl, fun H2 bp ns s2 nb hb hns hnl hrg hbk hce => ?_⟩
  have s02 := s0.trans s2
  -- numbers
  refine ⟨1, rfl, (by show 1 ≤ sizeLine; decide), fun o no => ?_⟩
  have s3 := same_new (o := .lst [.int (-1)]) no
  refine ⟨_, rfl, g, _, dx, _, _, rfl, s3 _ _ (s02 _ _ h1), T.cl_Graph, T.na_Graph_size, rfl, o, _, _, rfl, rfl, upd_same, by omega, by omega, ?_, fun p np => ?_⟩
  · exact Nat.le_trans (show 1 * (rs.length : Int).toNat ≤ 1000 by omega) (by decide)
  have e1 : (List.replicate (rs.length : Int).toNat [V.int (-1)]).flatten = (List.replicate rs.length (-1)).map V.int := by
    rw [List.flatten_replicate_singleton, Int.toNat_natCast, List.map_replicate]
  dsimp only
  rw [e1]
  have s4 := s3.trans (same_new (o := .lst ((List.replicate rs.length (-1)).map V.int)) np)
  have s04 := s02.trans s4
  have npH : H p = none := s02.free (s3.free np)
  have hp4 : upd (upd H2 o (.lst [.int (-1)])) p (.lst ((List.replicate rs.length (-1)).map V.int)) p = some (ilst (List.replicate rs.length (-1))) := upd_same
  have hb4 := s4 _ _ hb
  have hns4 : ∀ z ∈ ns, upd (upd H2 o (.lst [.int (-1)])) p (.lst ((List.replicate rs.length (-1)).map V.int)) z.1 = some (ilst z.2) := fun z hz => s4 _ _ (hns z hz)
  have hbp : bp ≠ p := ne_of_none (s3 _ _ hb) np
  have hnp : ∀ z ∈ ns, z.1 ≠ p := fun z hz => ne_of_none (s3 _ _ (hns z hz)) np
  clear s3 no
  generalize upd (upd H2 o (.lst [.int (-1)])) p (.lst ((List.replicate rs.length (-1)).map V.int)) = H4 at s4 s04 hp4 hb4 hns4 ⊢
  -- the order
  refine ⟨_, rfl, g, dx, _, rfl, s04 _ _ h1, rfl, g, rs, rfl, hG.same s04, fun p1 np1 => ?_⟩
  have s5 := same_new (o := .lst (refR rs)) np1
  refine ⟨p1, rs, rfl, SqL.of upd_same, hrw.same (s04.trans s5), hfew, fun z hz => (hg.rows _ (List.mem_map_of_mem (f := fun q : Addr × Addr × Rw => q.2.2.2.2) hz)).2.1, fun H6 xp xs s6 nx hx hxs exs => ?_⟩
  have hxl : xs.length = rs.length := by
    have e := congrArg List.length exs
    rw [List.length_map, List.length_map, hgl] at e
    exact e
  refine ⟨xp, xs, rfl, SqL.of hx, fun z hz => SqL.of (hxs z hz), by omega, by omega, fun z hz => ?_, fun H7 op od s7 nop hop hO => ?_⟩
  · have hz2 : z.2 ∈ (sxr rs).map fun l => l.filter fun t => decide (t ≠ -1) := by
      rw [← exs]
      exact List.mem_map_of_mem (f := fun z : Addr × List Int => z.2) hz
    obtain ⟨l, hl, e⟩ := List.mem_map.mp hz2
    obtain ⟨r1, r2, r3⟩ := hg.rows l hl
    rw [← e]
    refine ⟨Nat.le_trans (List.length_filter_le _ _) r2, fun t ht => ?_⟩
    obtain ⟨t1, t2⟩ := List.mem_filter.mp ht
    have t3 := of_decide_eq_true t2
    rcases r3 t t1 with h | h
    · exact absurd h t3
    · rw [hxl, ← hgl]
      exact h
  have hO2 : OdOk (sxr rs) od := hO.conv (by rw [exs, List.length_map]) fun u v => by rw [exs]; exact ed_nexts
  have hall : ∀ v, v < rs.length → v ∈ od := fun v hv => hO2.all v (To.of_rc (hg.reach v (by omega)))
  have s47 := s5.trans (s6.trans s7)
  have s07 := s04.trans s47
  have hp7 := s47 _ _ hp4
  have hb7 := s47 _ _ hb4
  have hns7 : ∀ z ∈ ns, H7 z.1 = some (ilst z.2) := fun z hz => s47 _ _ (hns4 z hz)
  have hopp : op ≠ p := (ne_of_none (s6 _ _ (s5 _ _ hp4)) nop).symm
  have eol : ((nmap od).map V.int).length = od.length := by
    unfold nmap
    rw [List.length_map, List.length_map]
  have hN0 := Num.start (sxr rs)
  rw [hgl] at hN0
  refine ⟨op, (nmap od).map V.int, rfl, SqL.of hop, for_it (walk_rev (K := K) (a := op) (xs := (nmap od).map V.int)) (fun i σ H8 => (But p H7 H8 ∧ ∃ nm c, H8 p = some (ilst nm) ∧ Num (sxr rs) nm c ∧ (∀ (k w : Nat), od.length - i ≤ k → od[k]? = some w → ∃ z, nm[w]? = some z ∧ 0 ≤ z) ∧ c ≤ i ∧
      ∃ y4 y5 y6 y7, σ = [some (.ref g), some (.ref bp), some (.ref p), some (.int (c : Int)), y4, y5, y6, y7])) ⟨But.refl, _, 0, hp7, hN0, fun k w hk hw => ?_, Nat.le_refl _, none, none, none, none, rfl⟩ (fun i σ H8 _ h => SqL.of (h.1 _ _ hopp hop)) ?_ ?_⟩
  · have := (List.getElem?_eq_some_iff.mp hw).1
    omega
  · rintro i x σ H8 H9 hi ⟨b8, nm, c, hp8, hN, hdn, hci, y4, y5, y6, y7, rfl⟩ ⟨rfl, hx⟩
    rw [eol] at hi hx
    obtain ⟨first, hf, rfl⟩ : ∃ first : Nat, od[od.length - 1 - i]? = some first ∧ x = .int (first : Int) := by
      unfold nmap at hx
      rw [List.map_map, List.getElem?_map] at hx
      obtain ⟨k, e2, e3⟩ := Option.map_eq_some_iff.mp hx
      exact ⟨k, e2, e3.symm⟩
    have hfl := hO2.lt first (List.mem_of_getElem? hf)
    have hfn : nm[first]? = some (nm[first]'(by rw [hN.len]; exact hfl)) := List.getElem?_eq_getElem _
    generalize nm[first]'(by rw [hN.len]; exact hfl) = x1 at hfn
    have hstep : ∀ {nm2 : List Int}, (∀ (v : Nat) (x : Int), nm[v]? = some x → 0 ≤ x → nm2[v]? = some x) → (∃ z, nm2[first]? = some z ∧ 0 ≤ z) → ∀ (k w : Nat), od.length - (i + 1) ≤ k → od[k]? = some w → ∃ z, nm2[w]? = some z ∧ 0 ≤ z := fun {nm2} h3 h4 k w hk hw => by
      by_cases e : k = od.length - 1 - i
      · rw [e, hf] at hw
        rw [← Option.some.inj hw]
        exact h4
      · obtain ⟨z, hz, hz0⟩ := hdn k w (by omega) hw
        exact ⟨z, h3 w z hz hz0, hz0⟩
    refine ⟨_, rfl, _, rfl, p, _, _, _, rfl, rfl, SqL.of hp8, atI_nat (get_map hfn), _, _, rfl, rfl, _, rfl, if2 (fun e => ?_) (fun e => ?_)⟩
    · have hnml : ((nm.map V.int)).length = nm.length := List.length_map ..
      refine ⟨_, rfl, _, rfl, _, rfl, p, _, _, first, rfl, rfl, hp8, ixN_nat (by rw [hnml, hN.len]; exact hfl), ?_⟩
      have b9 : But p H7 (upd H9 p (.lst ((nm.map V.int).set first (.int (c : Int))))) := b8.own
      have hp9 : upd H9 p (.lst ((nm.map V.int).set first (.int (c : Int)))) p = some (ilst (nm.set first (c : Int))) := by
        rw [upd_same]
        unfold ilst
        rw [List.map_set]
      generalize upd H9 p (.lst ((nm.map V.int).set first (.int (c : Int)))) = H10 at b9 hp9 ⊢
      refine ⟨_, rfl, (by show 1 ≤ sizeLine; decide), fun qp nqp => ?_⟩
      have hqpp : qp ≠ p := (ne_of_none hp9 nqp).symm
      have b10 := b9.new nqp (o := .lst [.int (first : Int)])
      have hp10 := same_new (o := .lst [.int (first : Int)]) nqp _ _ hp9
      have hq10 : upd H10 qp (.lst [.int (first : Int)]) qp = some (ilst (nmap [first])) := upd_same
      have nq7 : H7 qp = none := by
        cases e5 : H7 qp with
        | none => rfl
        | some o2 =>
          rw [b9 _ _ hqpp e5] at nqp
          cases nqp
      generalize upd H10 qp (.lst [.int (first : Int)]) = H11 at b10 hp10 hq10 ⊢
      have hB0 := Bfs.start (c := c) hN.len hfl
      -- the queue
      have hbq : ∀ {z : Addr} {o : HO}, H7 z = some o → z ≠ qp := fun e => ne_of_none e nq7
      refine ⟨fun m σ H12 => (∀ z o, z ≠ p → z ≠ qp → H7 z = some o → H12 z = some o) ∧ ∃ nm2 qs pl, m + pl = rs.length ∧ H12 p = some (ilst nm2) ∧ H12 qp = some (ilst (nmap qs)) ∧ Bfs (sxr rs) nm nm2 c first qs pl ∧
        ∃ y7, σ = [some (.ref g), some (.ref bp), some (.ref p), some (.int (c : Int)), some (.int (first : Int)), some (.ref qp), some (.int (pl : Int)), y7], ⟨rs.length, fun z o n1 n2 e => b10 z o n1 e, _, [first], 0, rfl, hp10, hq10, hB0, _, rfl⟩, ?_⟩
      rintro m σ H12 ⟨k12, nm2, qs, pl, hm, hp12, hq12, hB, y7, rfl⟩
      have eql : ((nmap qs).map V.int).length = qs.length := by
        unfold nmap
        rw [List.length_map, List.length_map]
      have hql : qs.length ≤ rs.length := nodup_lt rs.length qs hB.nd fun v hv => by
        have := (hB.cl v hv).2
        omega
      refine ⟨_, rfl, _, rfl, qp, _, rfl, .inl (SqL.of hq12), _, _, rfl, rfl, _, rfl, ?_⟩
      dsimp only
      rw [eql]
      refine if2 (fun e3 => ?_) (fun e3 => ?_)
      · have hpl : pl < qs.length := by omega
        have hv : qs[pl]? = some qs[pl] := List.getElem?_eq_getElem hpl
        have hvm : qs[pl] ∈ qs := List.getElem_mem hpl
        generalize qs[pl] = v at hv hvm
        have hvl := (hB.cl v hvm).2
        rw [hgl] at hvl
        have hz : ns[v]? = some (ns[v]'(by omega)) := List.getElem?_eq_getElem (by omega)
        have hzm : ns[v]'(by omega) ∈ ns := List.getElem_mem _
        generalize ns[v]'(by omega) = z at hz hzm
        have hnz : (ns.map (·.2))[v]? = some z.2 := by rw [List.getElem?_map, hz]; rfl
        refine ⟨fun σ H13 => ((∀ z o, z ≠ p → z ≠ qp → H7 z = some o → H13 z = some o) ∧ ∃ nm2 qs pl, (∃ m', m' < m ∧ m' + pl = rs.length) ∧ H13 p = some (ilst nm2) ∧ H13 qp = some (ilst (nmap qs)) ∧ Bfs (sxr rs) nm nm2 c first qs pl ∧
          ∃ y7, σ = [some (.ref g), some (.ref bp), some (.ref p), some (.int (c : Int)), some (.int (first : Int)), some (.ref qp), some (.int (pl : Int)), y7]), ?_, ?_⟩
        · rintro σ' H' ⟨k', nm2, qs, pl, ⟨m', hlt, hm'⟩, hh⟩
          exact ⟨m', hlt, k', nm2, qs, pl, hm', hh⟩
        have hbz := hbq (hns7 z hzm)
        have hnz7 := hnp z hzm
        refine ⟨_, rfl, _, rfl, _, rfl, qp, _, _, _, rfl, rfl, SqL.of hq12, atI_nat (nmap_gv hv), bp, _, _, _, rfl, rfl, SqL.of (k12 _ _ hbp (hbq hb7) hb7), atI_nat (get_refL hz), z.1, rfl, ⟨_, SqL.of (k12 _ _ hnz7 hbz (hns7 z hzm))⟩, for_list (K := K) (a := z.1) (xs := z.2.map V.int) (fun j σ H13 => (∀ z o, z ≠ p → z ≠ qp → H7 z = some o → H13 z = some o) ∧ ∃ nm2 qs, H13 p = some (ilst nm2) ∧ H13 qp = some (ilst (nmap qs)) ∧ Bfs (sxr rs) nm nm2 c first qs pl ∧ qs[pl]? = some v ∧ (∀ x : Nat, (x : Int) ∈ z.2.take j → ∃ y, nm2[x]? = some y ∧ 0 ≤ y) ∧
            ∃ y7, σ = [some (.ref g), some (.ref bp), some (.ref p), some (.int (c : Int)), some (.int (first : Int)), some (.ref qp), some (.int (pl : Int)), y7])
          ⟨k12, nm2, qs, hp12, hq12, hB, hv, fun x hx => (nomatch hx), _, rfl⟩ (fun j σ H13 _ h => SqL.of (h.1 _ _ hnz7 hbz (hns7 z hzm))) ?_ ?_⟩
        · clear hp12 hq12 hB hv hvm eql hql e3 hpl k12
          rintro j y σ H13 hj ⟨k13, nm2, qs, hp13, hq13, hB, hv, hsn, y7, rfl⟩
          obtain ⟨t, ht, rfl⟩ := map_get hj
          have htm := List.mem_of_getElem? ht
          obtain ⟨t0, t1⟩ := hrg z hzm t htm
          obtain ⟨x, rfl⟩ : ∃ x : Nat, t = x := ⟨t.toNat, by omega⟩
          have hxl2 : x < rs.length := by omega
          have hxe : Ed (sxr rs) x v := by
            obtain ⟨l, e5, e6⟩ := hce v z.2 x hnz htm
            rw [Int.toNat_natCast] at e5
            exact ⟨l, e5, e6⟩
          have hxn : nm2[x]? = some (nm2[x]'(by rw [hB.len, hgl]; exact hxl2)) := List.getElem?_eq_getElem _
          generalize nm2[x]'(by rw [hB.len, hgl]; exact hxl2) = y0 at hxn
          have htk : ∀ u : Nat, (u : Int) ∈ z.2.take (j + 1) → (u : Int) ∈ z.2.take j ∨ u = x := fun u hu => by
            rw [List.take_add_one, ht] at hu
            rcases List.mem_append.mp hu with h | h
            · exact .inl h
            · exact .inr (Int.ofNat.inj (List.mem_singleton.mp h))
          refine ⟨_, rfl, _, rfl, p, _, _, _, rfl, rfl, SqL.of hp13, atI_nat (get_map hxn), _, _, rfl, rfl, _, rfl, if2 (fun e3 => ?_) (fun e3 => ?_)⟩
          · obtain ⟨hnq, hmt⟩ := Bfs.new_cl hO2 hB hf (fun k w hk hw => hdn k w (by omega) hw) (List.mem_of_getElem? hv) hxe hxn e3 (hall x hxl2)
            have hB2 := hB.push hnq hmt (by omega)
            have hql2 : qs.length ≤ rs.length := nodup_lt rs.length qs hB.nd fun v hv => by
              have := (hB.cl v hv).2
              omega
            have hq14 : upd H13 p (.lst ((nm2.map V.int).set x (.int (c : Int)))) qp = some (ilst (nmap qs)) := by
              rw [upd_ne hqpp]
              exact hq13
            refine ⟨_, rfl, _, rfl, _, rfl, p, _, _, x, rfl, rfl, hp13, ixN_nat (by rw [List.length_map, hB.len, hgl]; exact hxl2), _, rfl, .inl ⟨rfl, _, SqL.of hq14⟩, _, rfl, qp, _, _, rfl, rfl, hq14, small1000 (by unfold nmap; rw [List.length_map, List.length_map]; omega), fun z o n1 n2 e => ?_, _, _, ?_, ?_, hB2, ?_, fun u hu => ?_, _, rfl⟩
            · rw [upd_ne n2, upd_ne n1]
              exact k13 z o n1 n2 e
            · rw [upd_ne hqpp.symm, upd_same]
              unfold ilst
              rw [List.map_set]
            · rw [upd_same]
              unfold ilst nmap
              rw [List.map_append, List.map_append]
              rfl
            · rw [List.getElem?_append_left (List.getElem?_eq_some_iff.mp hv).1]
              exact hv
            · by_cases hux : u = x
              · rw [hux]
                exact ⟨_, by rw [List.getElem?_set, if_pos rfl, if_pos (by rw [hB.len, hgl]; exact hxl2)], Int.natCast_nonneg _⟩
              · rw [List.getElem?_set, if_neg fun e => hux e.symm]
                rcases htk u hu with h | h
                · exact hsn u h
                · exact absurd h hux
          · refine ⟨k13, nm2, qs, hp13, hq13, hB, hv, fun u hu => ?_, _, rfl⟩
            rcases htk u hu with h | h
            · exact hsn u h
            · rw [h]
              exact ⟨y0, hxn, by omega⟩
        · rintro σ H13 ⟨k13, nm2, qs, hp13, hq13, hB, hv, hsn, y7, rfl⟩
          rw [List.length_map, List.take_length] at hsn
          have hB2 := hB.next hv fun x he => by
            obtain ⟨l, e5, e6⟩ := he
            obtain ⟨b, e7, e8⟩ := hbk x v l e5 e6
            rw [hnz] at e7
            rw [← Option.some.inj e7] at e8
            exact hsn x e8
          refine ⟨_, rfl, _, _, rfl, rfl, k13, nm2, qs, pl + 1, ⟨m - 1, by omega, by omega⟩, hp13, hq13, hB2, _, rfl⟩
      · -- the class is found
        have hpe : pl = qs.length := by
          have := hB.ple
          omega
        rw [hpe] at hB
        obtain ⟨hN2, hkeep⟩ := Bfs.done hN hB (fun u v e => ed_lt e) ⟨x1, hfn, e⟩
        refine ⟨_, rfl, _, _, rfl, rfl, fun z o n1 e5 => k12 z o n1 (hbq e5) e5, nm2, c + 1, hp12, hN2, hstep hkeep ⟨_, hB.new first hB.fq, Int.natCast_nonneg _⟩, by omega, _, _, _, _, rfl⟩
    · refine ⟨b8, nm, c, hp8, hN, hstep (fun v x h _ => h) ⟨x1, hfn, by omega⟩, by omega, _, _, _, _, rfl⟩
  · rintro σ H8 ⟨b8, nm, c, hp8, hN, hdn, hci, y4, y5, y6, y7, rfl⟩
    rw [eol] at hdn
    refine ⟨_, rfl, q H8 p nm c (fun z o e => ?_) npH hp8 ⟨hN, fun v x hx => ?_⟩⟩
    · exact b8 z o (ne_of_none e npH) (s07 _ _ e)
    · have hvl := (List.getElem?_eq_some_iff.mp hx).1
      rw [hN.len, hgl] at hvl
      obtain ⟨k, hk, e5⟩ := List.mem_iff_getElem.mp (hall v hvl)
      obtain ⟨z, hz, hz0⟩ := hdn k v (by omega) (by rw [List.getElem?_eq_getElem hk, e5])
      rw [hx] at hz
      rw [Option.some.inj hz]
      exact hz0
end
end K62

namespace K62
open PySem PySem.Spec PyProof.Rows L2 Fw Lay
section
variable {P : Program} {w : World} {K : PySem.W.Frag} {mg : Str → Option Value} {base : Heap}
theorem asc_eq : ∀ (xs ys : List Int), xs.Pairwise (· < ·) → ys.Pairwise (· < ·) → (∀ x, x ∈ xs ↔ x ∈ ys) → xs = ys
  | [], [], _, _, _ => rfl
  | [], y :: ys, _, _, h => absurd ((h y).mpr (List.mem_cons_self ..)) (fun e => nomatch e)
  | x :: xs, [], _, _, h => absurd ((h x).mp (List.mem_cons_self ..)) (fun e => nomatch e)
  | x :: xs, y :: ys, hx, hy, h => by
    have hx1 := List.pairwise_cons.mp hx
    have hy1 := List.pairwise_cons.mp hy
    have e : x = y := by
      rcases List.mem_cons.mp ((h x).mp (List.mem_cons_self ..)) with e | e
      · exact e
      · rcases List.mem_cons.mp ((h y).mpr (List.mem_cons_self ..)) with e2 | e2
        · exact e2.symm
        · have := hy1.1 x e
          have := hx1.1 y e2
          omega
    subst e
    rw [asc_eq xs ys hx1.2 hy1.2 fun z => ?_]
    constructor
    · intro hz
      rcases List.mem_cons.mp ((h z).mp (List.mem_cons_of_mem _ hz)) with e | e
      · have := hx1.1 z hz
        omega
      · exact e
    · intro hz
      rcases List.mem_cons.mp ((h z).mpr (List.mem_cons_of_mem _ hz)) with e | e
      · have := hy1.1 z hz
        omega
      · exact e
theorem nmap_asc {l : List Nat} (h : l.Pairwise (· < ·)) : (nmap l).Pairwise (· < ·) := List.pairwise_map.mpr (h.imp fun h => by omega)
theorem nmap_mem {l : List Nat} {x : Int} : x ∈ nmap l ↔ ∃ n ∈ l, x = (n : Int) := by
  unfold nmap
  rw [List.mem_map]
  exact ⟨fun ⟨n, h1, h2⟩ => ⟨n, h1, h2.symm⟩, fun ⟨n, h1, h2⟩ => ⟨n, h1, h2.symm⟩⟩
theorem nmap_ge {ls : List Nat} {i : Nat} {x : V} (h : ((nmap ls).map V.int)[i]? = some x) : ∃ k, ls[i]? = some k ∧ x = .int (k : Int) := by
  unfold nmap at h
  rw [List.map_map, List.getElem?_map] at h
  obtain ⟨k, h1, h2⟩ := Option.map_eq_some_iff.mp h
  exact ⟨k, h1, h2.symm⟩
theorem enl (ls : List Nat) : ((nmap ls).map V.int).length = ls.length := by
  unfold nmap
  rw [List.length_map, List.length_map]
/-- the distinct numbers are all numbers below c -/
theorem numbers_all {g : Nx} {nm ds : List Int} {c : Nat} (h : NumOk g nm c) (srt : ds.Pairwise (· < ·)) (mem : ∀ x, x ∈ ds ↔ x ∈ nm) : ds = nmap (List.range c) := by
  refine asc_eq _ _ srt (nmap_asc List.pairwise_lt_range) fun x => ?_
  rw [mem, nmap_mem]
  constructor
  · intro hx
    obtain ⟨v, hv, e⟩ := List.mem_iff_getElem.mp hx
    have hv2 : v < g.length := by
      rw [← h.num.len]
      exact hv
    obtain ⟨e1, e2⟩ := h.at hv2
    rw [List.getElem?_eq_getElem hv, e] at e1
    exact ⟨cn nm v, List.mem_range.mpr e2, Option.some.inj e1⟩
  · rintro ⟨j, hj, rfl⟩
    obtain ⟨v, hv, e⟩ := h.used (List.mem_range.mp hj)
    have e1 := (h.at hv).1
    rw [e] at e1
    exact List.mem_of_getElem? e1
theorem ok_parts_of (T : Txt K mg) : Good P w K mg base 2 (He.ga K "parts_of") ["numbers"] [] (sp_parts_of K) := by
  refine good_of T.f_parts_of sc_parts_of (fun vs H Q E h => ?_) (fun _ _ _ _ _ _ us hl => match us, hl with | [_], _ => rfl) (fun cdv A outer s H vs Q E hr h => ?_)
  · obtain ⟨_, _, _, _, rfl, _⟩ := h
    rfl
  refine ⟨_, (pss_cons (ps_setLc (i := 1) (own := [("number", 3)]) (g := (gName 3)) (tt := tYes) rfl sc_parts_of.nd rfl rfl (sw_true rfl rfl rfl (by decide +kernel)) (pi_list (pe_cg (ok_distinct T) (hr.mono (j := 1) (by decide)) (by rfl) T.g_distinct (pa_cons (pv 0) pa_nil))) (blkOk_by (own := [("number", 3)]) (N := ["numbers", "parts", "node", "number"]) (sc := defScope s_parts_of) (by decide +kernel)) (fun _ _ _ _ _ => (pg_name (i := 3) sc_parts_of.nd rfl (Or.inl rfl))) (fun _ _ _ _ _ => pts_nil) (fun _ _ _ _ _ => (pe_lst pa_nil)))
  (pss_cons (ps_for PassesOwn.never rfl (pi_range1 (by rfl) T.z_range (pa_cons (pe_callB call_len_seq (by rfl) T.z_len (by decide +kernel) (pa_cons (pv 0) pa_nil)) pa_nil)) (pg_name (i := 2) sc_parts_of.nd rfl (Or.inl rfl))
    (pss_one (ps_expr (pe_bm PySem.F.plainAttrs_list PySem.F.slot_list_append PySem.F.type_list_append mt_append (pe_ix ix_list (pv 1) (pe_ix ix_list (pv 0) (pv 2) (fun _ _ => rfl)) (fun _ _ => rfl)) (pa_cons (pv 2) pa_nil)))))
  (pss_one (ps_ret (pv 1))))), ?_⟩
  obtain ⟨a, g, nm, c, rfl, hA, hl, hN, q⟩ := h
  refine ⟨_, rfl, a, nm, rfl, hA, hl, fun H1 dp ds s1 nd hd srt mem => ?_⟩
  have eds := numbers_all hN srt mem
  rw [eds] at hd
  have hcl : c ≤ 64 := by
    have h1 : (nmap (List.range c)).length = c := by
      unfold nmap
      rw [List.length_map, List.length_range]
    have h2 := nodup_lt nm.length ((List.range c).map fun j => (Lay.hd nm j)) (by
      refine List.pairwise_map.mpr (List.Pairwise.imp_of_mem (fun {a b} ha hb hlt e => ?_) List.pairwise_lt_range)
      have h3 := (pt_mem.mp (hN.hd (List.mem_range.mp ha)).1).2
      have h4 := (pt_mem.mp (hN.hd (List.mem_range.mp hb)).1).2
      rw [e, h4] at h3
      omega) fun v hv => by
        obtain ⟨j, hj, rfl⟩ := List.mem_map.mp hv
        exact (pt_mem.mp (hN.hd (List.mem_range.mp hj)).1).1
    rw [List.length_map, List.length_range] at h2
    omega
  refine ⟨dp, rfl, ⟨_, SqL.of hd⟩, fun D hD => lc_list (K := K) (a := dp) (xs := (nmap (List.range c)).map V.int) (fun i H3 => Same H1 H3 ∧ ∃ as : List Addr, H3 D = some (.lst (as.map V.ref)) ∧ (∀ z ∈ as, H1 z = none ∧ z ≠ D ∧ H3 z = some (ilst [])) ∧ as.Nodup ∧ as.length = i)
    ⟨same_new hD, [], upd_same, fun u hu => (nomatch hu), List.nodup_nil, rfl⟩ (fun i H3 _ h => SqL.of (h.1 _ _ hd)) ?_ ?_⟩
  · rintro i x H3 hi ⟨s3, as, h3, ha3, nd2, hal⟩
    have hilt := (List.getElem?_eq_some_iff.mp hi).1
    rw [enl, List.length_range] at hilt
    refine ⟨rfl, yes_then ⟨Nat.zero_le _, fun l nl => ?_⟩⟩
    have hlD : l ≠ D := (ne_of_none h3 nl).symm
    refine ⟨_, same_new nl _ _ h3, small1000 (by rw [List.length_map]; omega), same_mut (s3.trans (same_new nl)) hD, as ++ [l], ?_, fun z hz => ?_, ?_, by rw [List.length_append, hal]; rfl⟩
    · rw [upd_same, List.map_append]
      rfl
    · rcases List.mem_append.mp hz with hz | hz
      · obtain ⟨z1, z2, z3⟩ := ha3 z hz
        refine ⟨z1, z2, ?_⟩
        rw [upd_ne z2]
        exact same_new nl _ _ z3
      · rw [List.mem_singleton.mp hz]
        refine ⟨s3.free nl, hlD, ?_⟩
        rw [upd_ne hlD, upd_same]
        rfl
    · refine List.nodup_append.mpr ⟨nd2, List.pairwise_singleton _ _, fun x hx y hy e => ?_⟩
      have h1 := (ha3 x hx).2.2
      rw [e, List.mem_singleton.mp (show y ∈ [l] from hy), nl] at h1
      cases h1
  rintro H3 ⟨s3, as, h3, ha3, nd2, hal⟩
  rw [enl, List.length_range] at hal
  have s03 := s1.trans s3
  have nml : (nm.map V.int).length = nm.length := List.length_map ..
  have hgn := hN.num.len
  refine ⟨_, rfl, a, _, rfl, .inl (s03.seq hA), ((nm.map V.int).length : Nat), rfl, by omega, by omega, for_range (n := (nm.map V.int).length) (fun i σ H5 => Same H1 H5 ∧ H5 D = some (.lst (as.map V.ref)) ∧ (∀ (j : Nat) (z : Addr), as[j]? = some z → H5 z = some (ilst (nmap ((List.range i).filter fun v => decide (cn nm v = j))))) ∧ ∃ y2, σ = [some (.ref a), some (.ref D), y2, none])
    ⟨s3, h3, fun j z hz => (ha3 z (List.mem_of_getElem? hz)).2.2, none, rfl⟩ ?_ ?_⟩
  · rintro i σ H5 hi ⟨s5, h5, hz5, y2, rfl⟩
    rw [nml, hgn] at hi
    obtain ⟨e1, e2⟩ := hN.at hi
    have hz : as[cn nm i]? = some (as[cn nm i]'(by omega)) := List.getElem?_eq_getElem (by omega)
    have hzm : as[cn nm i]'(by omega) ∈ as := List.getElem_mem _
    generalize as[cn nm i]'(by omega) = z at hz hzm
    have hzv := hz5 _ z hz
    have hz2 : (as.map V.ref)[cn nm i]? = some (.ref z) := by rw [List.getElem?_map, hz]; rfl
    have hfl := List.length_filter_le (fun v => decide (cn nm v = cn nm i)) (List.range i)
    rw [List.length_range] at hfl
    refine ⟨_, rfl, _, rfl, _, rfl, a, _, _, _, rfl, rfl, (s1.trans s5).seq hA, atI0 (get_map e1), D, _, _, _, rfl, rfl, SqL.of h5, atI_nat hz2, .inl ⟨rfl, _, SqL.of hzv⟩, _, rfl, z, _, _, rfl, rfl, hzv, small1000 (by rw [enl]; omega), same_mut s5 (ha3 z hzm).1, ?_, fun j w hw => ?_, _, rfl⟩
    · rw [upd_ne (ha3 z hzm).2.1.symm]
      exact h5
    · rw [List.range_succ, List.filter_append]
      by_cases hj : cn nm i = j
      · subst hj
        rw [hz] at hw
        rw [← Option.some.inj hw, upd_same, List.filter_cons_of_pos (p := fun v => decide (cn nm v = cn nm i)) (decide_eq_true rfl), List.filter_nil, show (0 + (i : Int)) = (i : Int) by omega]
        unfold ilst nmap
        rw [List.map_append, List.map_append]
        rfl
      · have hne : w ≠ z := fun e => by
          rw [e] at hw
          have h1 := (List.getElem?_eq_some_iff.mp hz).1
          have h2 := (List.getElem?_eq_some_iff.mp hw).1
          exact hj ((List.getElem_inj nd2 (h₀ := h1) (h₁ := h2)).mp (by rw [(List.getElem?_eq_some_iff.mp hz).2, (List.getElem?_eq_some_iff.mp hw).2]))
        rw [upd_ne hne, List.filter_cons_of_neg (by rw [decide_eq_true_iff]; exact hj), List.filter_nil, List.append_nil]
        exact hz5 j w hw
  · rintro σ H5 ⟨s5, h5, hz5, y2, rfl⟩
    rw [nml] at hz5
    obtain ⟨cs, hcs⟩ : ∃ cs : List (List Int), cs = (List.range c).map fun j => nmap (pt nm j) := ⟨_, rfl⟩
    have hcl2 : cs.length = as.length := by rw [hcs, List.length_map, List.length_range, hal]
    refine ⟨_, rfl, q H5 D (as.zip cs) (s1.trans s5) (s1.free hD) ?_ ?_ fun z hz => ?_⟩
    · rw [h5]
      have e : (as.zip cs).map Prod.fst = as := List.map_fst_zip (by omega)
      unfold refL
      rw [← e, List.map_map, List.map_fst_zip (by omega)]
      rfl
    · rw [← hcs]
      exact List.map_snd_zip (by omega)
    · obtain ⟨j, hj, e⟩ := List.mem_iff_getElem.mp hz
      rw [List.length_zip] at hj
      rw [List.getElem_zip] at e
      have hja : as[j]? = some z.1 := by
        rw [List.getElem?_eq_getElem (by omega), ← e]
      have hjc : cs[j]? = some z.2 := by
        rw [List.getElem?_eq_getElem (by omega), ← e]
      rw [hcs, List.getElem?_map, List.getElem?_range (by omega)] at hjc
      have ham := List.mem_of_getElem? hja
      refine ⟨s1.free (ha3 z.1 ham).1, (ha3 z.1 ham).2.1, ?_⟩
      rw [← Option.some.inj hjc]
      exact hz5 j z.1 hja
theorem lvg_snoc (g : Nx) (nm : List Int) (P : List Nat) (v : Nat) : lvg g nm (P ++ [v]) = lvg g nm P ++ (sx g v).filter (fun t => decide (t ≠ -1 ∧ nm.getD t.toNat 0 ≠ nm.getD v 0)) := by
  rw [lvg_append]
  show _ ++ ((sx g v).filter _ ++ []) = _
  rw [List.append_nil]
theorem lvg_len (g : Nx) (nm : List Int) (hr : ∀ l ∈ g, l.length ≤ 4) : ∀ P : List Nat, (lvg g nm P).length ≤ 4 * P.length
  | [] => Nat.zero_le _
  | v :: P => by
    have ih := lvg_len g nm hr P
    have h1 : (sx g v).length ≤ 4 := by
      unfold sx
      rw [List.getD_eq_getElem?_getD]
      cases e : g[v]? with
      | none => exact Nat.zero_le _
      | some l => exact hr l (List.mem_of_getElem? e)
    have h2 := List.length_filter_le (fun t => decide (t ≠ -1 ∧ nm.getD t.toNat 0 ≠ nm.getD v 0)) (sx g v)
    show ((sx g v).filter _ ++ lvg g nm P).length ≤ 4 * (P.length + 1)
    rw [List.length_append]
    omega
theorem ok_leaving (T : Txt K mg) : Good P w K mg base 2 (He.ga K "leaving") ["graph", "numbers", "nodes"] [] (sp_leaving K) := by
  refine good_of T.f_leaving sc_leaving (fun vs H Q E h => ?_) (fun _ _ _ _ _ _ us hl => match us, hl with | [_, _, _], _ => rfl) (fun cdv A outer s H vs Q E hr h => ?_)
  · obtain ⟨_, _, _, _, _, _, rfl, _⟩ := h
    rfl
  refine ⟨_, (pss_cons (ps_set (i := 3) sc_leaving.nd rfl (Or.inl rfl) (pe_lst pa_nil))
  (pss_cons (ps_for PassesOwn.never rfl (pi_list (pv 2)) (pg_name (i := 4) sc_leaving.nd rfl (Or.inl rfl))
    (pss_one (ps_for PassesOwn.never rfl (pi_tup (pe_mtg (pv 0) T.cl_Graph T.me_Graph_successors (ok_Graph_successors T) (hr.mono (j := 1) (by decide)) (pa_cons (pv 4) pa_nil))) (pg_name (i := 5) sc_leaving.nd rfl (Or.inl rfl))
    (pss_one (ps_if (pw_and (pt_cmpR op_ne (pv 5) (pe_glob (v := .int (-1)) (by rfl) T.k_END.choose_spec ⟨_, rfl⟩) (nomark _)) (pw_and1 (pt_cmpR op_ne (pe_ix ix_list (pv 1) (pv 5) (fun _ _ => rfl)) (pe_ix ix_list (pv 1) (pv 4) (fun _ _ => rfl)) (nomark _)))).pt
    (pss_one (ps_expr (pe_bm PySem.F.plainAttrs_list PySem.F.slot_list_append PySem.F.type_list_append mt_append (pv 3) (pa_cons (pv 5) pa_nil))))
    pss_nil)))))
  (pss_one (ps_ret (pv 3))))), ?_⟩
  obtain ⟨g, a, b, rs, nm, P, rfl, hG, hA, hnl, hB, hP, hPl, hrow, q⟩ := h
  obtain ⟨dx, ra, h1, h2, hrw⟩ := id hG
  have hgl := sxr_len rs
  refine ⟨Nat.zero_le _, fun p np => ?_⟩
  refine ⟨.ref b, rfl, b, rfl, ⟨_, (same_new np).seq hB⟩, for_list (K := K) (a := b) (xs := (nmap P).map V.int) (fun i σ H2 => Same H H2 ∧ H2 p = some (ilst (lvg (sxr rs) nm (P.take i))) ∧ ∃ y4 y5, σ = [some (.ref g), some (.ref a), some (.ref b), some (.ref p), y4, y5]) ⟨same_new np, upd_same, none, none, rfl⟩ (fun i σ H2 _ h => h.1.seq hB) ?_ ?_⟩
  · rintro i x σ H2 hi ⟨s2, hp2, y4, y5, rfl⟩
    obtain ⟨v, hv, rfl⟩ := nmap_ge hi
    have hvl := hP v (List.mem_of_getElem? hv)
    have hil := (List.getElem?_eq_some_iff.mp hv).1
    have hq : rs[v]? = some rs[v] := List.getElem?_eq_getElem hvl
    have hqm : rs[v] ∈ rs := List.getElem_mem hvl
    generalize rs[v] = qr at hq hqm
    obtain ⟨q1, q2⟩ := hrw qr hqm
    have hgv := get_sxr hq
    obtain ⟨r1, r2, r3⟩ := hrow _ (List.mem_of_getElem? hgv)
    have hnv : nm[v]? = some (nm[v]'(by omega)) := List.getElem?_eq_getElem (by omega)
    generalize nm[v]'(by omega) = kv at hnv
    have hkv : nm.getD v 0 = kv := by rw [List.getD_eq_getElem?_getD, hnv]; rfl
    have hlv : (lvg (sxr rs) nm (P.take i)).length ≤ 4 * i := by
      have := lvg_len (sxr rs) nm (fun l hl => (hrow l hl).2.1) (P.take i)
      rw [List.length_take] at this
      omega
    have htk : P.take (i + 1) = P.take i ++ [v] := by rw [List.take_add_one, hv]; rfl
    refine ⟨_, rfl, g, dx, _, rfl, s2 _ _ h1, rfl, _, rfl, g, rs, v, qr, rfl, hG.same s2, hq, qr.2.1, rfl, ⟨_, SqT.of (s2 _ _ q2)⟩, for_it (walk_tup (K := K) (a := qr.2.1) (xs := qr.2.2.2.2.map V.int)) (fun j σ H3 => Same H H3 ∧ H3 p = some (ilst (lvg (sxr rs) nm (P.take i) ++ (qr.2.2.2.2.take j).filter fun t => decide (t ≠ -1 ∧ nm.getD t.toNat 0 ≠ nm.getD v 0))) ∧ ∃ y5, σ = [some (.ref g), some (.ref a), some (.ref b), some (.ref p), some (.int (v : Int)), y5])
      ⟨s2, by rw [List.take_zero, List.filter_nil, List.append_nil]; exact hp2, _, rfl⟩ (fun j σ H3 _ h => SqT.of (h.1 _ _ q2)) ?_ ?_⟩
    · rintro j x σ H4 H3 hj ⟨s3, hp3, y5, rfl⟩ ⟨rfl, hx⟩
      obtain ⟨t, ht, rfl⟩ := map_get hx
      have hjl := (List.getElem?_eq_some_iff.mp ht).1
      have htj : qr.2.2.2.2.take (j + 1) = qr.2.2.2.2.take j ++ [t] := by rw [List.take_add_one, ht]; rfl
      rw [htj, List.filter_append]
      have skip : ¬ (t ≠ -1 ∧ nm.getD t.toNat 0 ≠ nm.getD v 0) → [t].filter (fun t => decide (t ≠ -1 ∧ nm.getD t.toNat 0 ≠ nm.getD v 0)) = [] := fun hn => by
        rw [List.filter_cons_of_neg (by rw [decide_eq_true_iff]; exact hn), List.filter_nil]
      have hfl := List.length_filter_le (fun t => decide (t ≠ -1 ∧ nm.getD t.toNat 0 ≠ nm.getD v 0)) (qr.2.2.2.2.take j)
      rw [List.length_take] at hfl
      by_cases he : t = -1
      · refine ⟨_, rfl, rfl, _, rfl, ifNF (by rw [he]) ⟨s3, ?_, _, rfl⟩⟩
        rw [skip fun h => h.1 he, List.append_nil]
        exact hp3
      · have h3 := r3 t (List.mem_of_getElem? ht)
        obtain ⟨tn, rfl⟩ : ∃ tn : Nat, t = tn := ⟨t.toNat, by omega⟩
        have htl : tn < nm.length := by omega
        have hnt : nm[tn]? = some nm[tn] := List.getElem?_eq_getElem htl
        generalize nm[tn] = kt at hnt
        have hkt : nm.getD ((tn : Int)).toNat 0 = kt := by rw [Int.toNat_natCast, List.getD_eq_getElem?_getD, hnt]; rfl
        by_cases hk : kt = kv
        · refine ⟨_, rfl, rfl, _, rfl, ifNT (int_ne he) ⟨_, rfl, _, rfl, a, _, _, _, rfl, rfl, s3.seq hA, atI_nat (get_map hnt), _, rfl, _, rfl, a, _, _, _, rfl, rfl, s3.seq hA, atI_nat (get_map hnv), rfl, _, rfl, ifNF (by rw [hk]) ⟨s3, ?_, _, rfl⟩⟩⟩
          rw [skip fun h => h.2 (by rw [hkt, hkv, hk]), List.append_nil]
          exact hp3
        · refine ⟨_, rfl, rfl, _, rfl, ifNT (int_ne he) ⟨_, rfl, _, rfl, a, _, _, _, rfl, rfl, s3.seq hA, atI_nat (get_map hnt), _, rfl, _, rfl, a, _, _, _, rfl, rfl, s3.seq hA, atI_nat (get_map hnv), rfl, _, rfl, ifNT (int_ne hk) ⟨_, rfl, .inl ⟨rfl, _, SqL.of hp3⟩, _, rfl, p, _, _, rfl, rfl, hp3, ?_, same_mut s3 np, ?_, _, rfl⟩⟩⟩
          · rw [List.length_map, List.length_append]
            exact Nat.lt_of_le_of_lt (show _ ≤ 5000 by omega) (by decide)
          · rw [upd_same, List.filter_cons_of_pos (by rw [decide_eq_true_iff]; exact ⟨he, by rw [hkt, hkv]; exact hk⟩), List.filter_nil, ← List.append_assoc]
            unfold ilst
            rw [List.map_append (l₂ := [(tn : Int)])]
            rfl
    · rintro σ H3 ⟨s3, hp3, y5, rfl⟩
      rw [List.length_map, List.take_length] at hp3
      refine ⟨s3, ?_, _, _, rfl⟩
      rw [htk, lvg_snoc, sx_of hgv]
      exact hp3
  · rintro σ H2 ⟨s2, hp2, y4, y5, rfl⟩
    rw [enl, List.take_length] at hp2
    exact ⟨_, rfl, q H2 p s2 np hp2⟩
end
end K62

namespace K62
open PySem PySem.Spec PyProof.Rows L2 Fw Lay
section
variable {P : Program} {w : World} {K : PySem.W.Frag} {mg : Str → Option Value} {base : Heap}
theorem rgV_nat (n : Nat) : rgV 0 (n : Int) = (nmap (List.range n)).map V.int := by
  unfold rgV nmap
  rw [List.map_map]
  have e : ((n : Int) - 0).toNat = n := by omega
  rw [e]
  refine List.map_congr_left fun i _ => ?_
  show V.int (0 + (i : Int)) = V.int (i : Int)
  rw [Int.zero_add]
theorem inc_set {f : Nat → Nat} {c k : Nat} {f2 : Nat → Nat} (h : f2 k = f k + 1) (h2 : ∀ j, j ≠ k → f2 j = f j) : ((nmap ((List.range c).map f)).map V.int).set k (.int ((f k : Int) + 1)) = (nmap ((List.range c).map f2)).map V.int := by
  refine List.ext_getElem? fun j => ?_
  unfold nmap
  rw [List.map_map, List.map_map, List.map_map, List.map_map, List.getElem?_set, List.getElem?_map, List.getElem?_map, List.length_map, List.length_range]
  by_cases e : k = j
  · subst e
    rw [if_pos rfl]
    by_cases hk : k < c
    · rw [if_pos hk, List.getElem?_range hk]
      show some (V.int ((f k : Int) + 1)) = some (V.int ((f2 k : Nat) : Int))
      rw [h]
      rfl
    · rw [if_neg hk, List.getElem?_eq_none (by rw [List.length_range]; omega)]
      rfl
  · rw [if_neg e]
    by_cases hj : j < c
    · rw [List.getElem?_range hj]
      show some (V.int ((f j : Nat) : Int)) = some (V.int ((f2 j : Nat) : Int))
      rw [h2 j fun e2 => e e2.symm]
    · rw [List.getElem?_eq_none (by rw [List.length_range]; omega)]
      rfl
theorem dec_set {f : Nat → Nat} {c k : Nat} {f2 : Nat → Nat} (h : f k = f2 k + 1) (h2 : ∀ j, j ≠ k → f2 j = f j) : ((nmap ((List.range c).map f)).map V.int).set k (.int ((f k : Int) - 1)) = (nmap ((List.range c).map f2)).map V.int := by
  refine List.ext_getElem? fun j => ?_
  unfold nmap
  rw [List.map_map, List.map_map, List.map_map, List.map_map, List.getElem?_set, List.getElem?_map, List.getElem?_map, List.length_map, List.length_range]
  by_cases e : k = j
  · subst e
    rw [if_pos rfl]
    by_cases hk : k < c
    · rw [if_pos hk, List.getElem?_range hk]
      show some (V.int ((f k : Int) - 1)) = some (V.int ((f2 k : Nat) : Int))
      rw [h]
      congr 2
      omega
    · rw [if_neg hk, List.getElem?_eq_none (by rw [List.length_range]; omega)]
      rfl
  · rw [if_neg e]
    by_cases hj : j < c
    · rw [List.getElem?_range hj]
      show some (V.int ((f j : Nat) : Int)) = some (V.int ((f2 j : Nat) : Int))
      rw [h2 j fun e2 => e e2.symm]
    · rw [List.getElem?_eq_none (by rw [List.length_range]; omega)]
      rfl
theorem fn_get {f : Nat → Nat} {c k : Nat} (h : k < c) : ((nmap ((List.range c).map f)).map V.int)[k]? = some (.int (f k : Int)) := by
  refine nmap_gv ?_
  rw [List.getElem?_map, List.getElem?_range h]
  rfl
/-- the number of classes is small -/
theorem cls_few {g : Nx} {nm : List Int} {c : Nat} (hN : NumOk g nm c) : c ≤ g.length := by
  have h2 := nodup_lt nm.length ((List.range c).map fun j => (Lay.hd nm j)) (by
    refine List.pairwise_map.mpr (List.Pairwise.imp_of_mem (fun {a b} ha hb hlt e => ?_) List.pairwise_lt_range)
    have h3 := (pt_mem.mp (hN.hd (List.mem_range.mp ha)).1).2
    have h4 := (pt_mem.mp (hN.hd (List.mem_range.mp hb)).1).2
    rw [e, h4] at h3
    omega) fun v hv => by
      obtain ⟨j, hj, rfl⟩ := List.mem_map.mp hv
      exact (pt_mem.mp (hN.hd (List.mem_range.mp hj)).1).1
  rw [List.length_map, List.length_range, hN.num.len] at h2
  exact h2
theorem ok_entering (T : Txt K mg) : Good P w K mg base 3 (He.ga K "entering") ["graph", "numbers"] [] (sp_entering K) := by
  refine good_of T.f_entering sc_entering (fun vs H Q E h => ?_) (fun _ _ _ _ _ _ us hl => match us, hl with | [_, _], _ => rfl) (fun cdv A outer s H vs Q E hr h => ?_)
  · obtain ⟨_, _, _, _, _, rfl, _⟩ := h
    rfl
  refine ⟨_, (pss_cons (ps_set (i := 2) sc_entering.nd rfl (Or.inl rfl) (pe_op op_rep (pe_lst (pa_cons pe_int pa_nil)) (pe_callB call_len_seq (by rfl) T.z_len (by decide +kernel) (pa_cons (pe_cg (ok_distinct T) (hr.mono (j := 1) (by decide)) (by rfl) T.g_distinct (pa_cons (pv 1) pa_nil)) pa_nil))))
  (pss_cons (ps_for PassesOwn.never rfl (pi_list (pe_cg (ok_leaving T) (hr.mono (j := 2) (by decide)) (by rfl) T.g_leaving (pa_cons (pv 0) (pa_cons (pv 1) (pa_cons (pe_listRg rfl (by rfl) T.z_list (prg_1 (by rfl) T.z_range (pe_fld (pv 0) rfl))) pa_nil))))) (pg_name (i := 3) sc_entering.nd rfl (Or.inl rfl))
    (pss_one (ps_augS (pv 2) (pe_ix ix_list (pv 1) (pv 3) (fun _ _ => rfl)) get_list pe_int ip_add set_list)))
  (pss_one (ps_ret (pv 2))))), ?_⟩
  obtain ⟨g, a, rs, nm, c, rfl, hG, hA, hN, hok, hl, q⟩ := h
  obtain ⟨dx, ra, h1, h2, hrw⟩ := id hG
  have hgl := sxr_len rs
  have hnl := hN.num.len
  have hcf := cls_few hN
  refine ⟨(by show 1 ≤ sizeLine; decide), fun o no => ?_⟩
  have s1 := same_new (o := .lst [.int 0]) no
  refine ⟨_, rfl, a, nm, rfl, s1.seq hA, by omega, fun H2 dp ds s2 nd hd srt mem => ?_⟩
  have eds := numbers_all hN srt mem
  have edl : (ds.map V.int).length = c := by
    rw [eds, enl, List.length_range]
  have ho2 := s2 _ _ (upd_same (H := H) (a := o) (o := .lst [.int 0]))
  refine ⟨dp, _, rfl, .inl (SqL.of hd), o, _, _, rfl, rfl, ho2, by omega, by omega, ?_, fun p np => ?_⟩
  · rw [edl]
    exact Nat.le_trans (show 1 * (c : Int).toNat ≤ 1000 by omega) (by decide)
  have s12 := s1.trans s2
  have ez : (List.replicate ((ds.map V.int).length : Int).toNat [V.int 0]).flatten = (nmap ((List.range c).map fun _ => 0)).map V.int := by
    rw [edl, List.flatten_replicate_singleton, Int.toNat_natCast]
    unfold nmap
    rw [List.map_map, List.map_map]
    show List.replicate c (V.int 0) = (List.range c).map fun _ => V.int 0
    rw [List.map_const', List.length_range]
  rw [ez]
  have s3 := s12.trans (same_new (o := .lst ((nmap ((List.range c).map fun _ => 0)).map V.int)) np)
  have npH := s12.free np
  have hp3 : upd H2 p (.lst ((nmap ((List.range c).map fun _ => 0)).map V.int)) p = some (ilst (nmap ((List.range c).map fun _ => 0))) := upd_same
  generalize upd H2 p (.lst ((nmap ((List.range c).map fun _ => 0)).map V.int)) = H3 at s3 hp3 ⊢
  refine ⟨_, rfl, _, rfl, _, rfl, g, _, dx, _, _, rfl, s3 _ _ h1, T.cl_Graph, T.na_Graph_size, rfl, rs.length, rfl, RgOk.of_le (by omega) (by omega) (by omega) (by omega), fun lp nlp => ?_⟩
  rw [rgV_nat]
  have s4 := s3.trans (same_new (o := .lst ((nmap (List.range rs.length)).map V.int)) nlp)
  have hp4 := same_new (o := .lst ((nmap (List.range rs.length)).map V.int)) nlp _ _ hp3
  refine ⟨g, a, lp, rs, nm, List.range rs.length, rfl, hG.same s4, s4.seq hA, by omega, SqL.of upd_same, fun v hv => List.mem_range.mp hv, by rw [List.length_range]; omega, fun l hl2 => by have := hok.g.rows l hl2; rw [hgl] at this; exact this, fun H5 tp s5 ntp htp => ?_⟩
  have s05 := s4.trans s5
  have hp5 := s5 _ _ hp4
  have htpp : tp ≠ p := (ne_of_none hp4 ntp).symm
  have hel := lvg_len (sxr rs) nm (fun l hl => (hok.g.rows l hl).2.1) (List.range rs.length)
  rw [List.length_range] at hel
  refine ⟨tp, rfl, ⟨_, SqL.of htp⟩, for_list (K := K) (a := tp) (xs := (lvg (sxr rs) nm (List.range rs.length)).map V.int) (fun i σ H6 => But p H5 H6 ∧ H6 p = some (ilst (nmap ((List.range c).map fun j => (((lvg (sxr rs) nm (List.range rs.length)).take i).map fun t => cn nm t.toNat).count j))) ∧ ∃ y3, σ = [some (.ref g), some (.ref a), some (.ref p), y3]) ⟨But.refl, hp5, none, rfl⟩ (fun i σ H6 _ h => SqL.of (h.1 _ _ htpp htp)) ?_ ?_⟩
  · rintro i x σ H6 hi ⟨b6, hp6, y3, rfl⟩
    obtain ⟨t, ht, rfl⟩ := map_get hi
    obtain ⟨u, v, rfl, hv, hu, he, hne⟩ := hN.lvg_mem hok.g (fun v hv => by rw [hgl]; exact List.mem_range.mp hv) (List.mem_of_getElem? ht)
    obtain ⟨e1, e2⟩ := hN.at hv
    have s06 : Same H H6 := fun z o e => b6 z o (ne_of_none e npH) (s05 _ _ e)
    have ha6 : SqL K H6 a (nm.map V.int) := s06.seq hA
    have hk := fn_get (f := fun j => (((lvg (sxr rs) nm (List.range rs.length)).take i).map fun t => cn nm t.toNat).count j) e2
    refine ⟨_, rfl, _, rfl, _, rfl, a, _, _, _, rfl, rfl, ha6, atI_nat (get_map e1), p, _, _, _, rfl, rfl, SqL.of hp6, atI_nat hk, _, _, rfl, rfl, p, _, _, cn nm v, rfl, rfl, hp6, ixN_nat (by rw [enl, List.length_map, List.length_range]; exact e2), b6.own, ?_, _, rfl⟩
    rw [upd_same, List.take_add_one, ht]
    unfold ilst
    rw [inc_set (f := fun j => (((lvg (sxr rs) nm (List.range rs.length)).take i).map fun t => cn nm t.toNat).count j) (f2 := fun j => (((lvg (sxr rs) nm (List.range rs.length)).take i ++ [(v : Int)]).map fun t => cn nm t.toNat).count j) ?_ fun j hj => ?_]
    · rfl
    · show List.count _ (List.map _ (_ ++ [(v : Int)])) = _
      rw [List.map_append, List.count_append]
      show _ + List.count (cn nm v) [cn nm ((v : Int)).toNat] = _
      rw [Int.toNat_natCast, List.count_singleton_self]
    · show List.count _ (List.map _ (_ ++ [(v : Int)])) = _
      rw [List.map_append, List.count_append]
      show _ + List.count j [cn nm ((v : Int)).toNat] = _
      rw [Int.toNat_natCast, List.count_eq_zero.mpr fun hm => hj (List.mem_singleton.mp hm), Nat.add_zero]
  · rintro σ H6 ⟨b6, hp6, y3, rfl⟩
    rw [List.length_map, List.take_length] at hp6
    refine ⟨_, rfl, q H6 p (fun z o e => b6 z o (ne_of_none e npH) (s05 _ _ e)) npH ?_⟩
    exact hp6
end
end K62

namespace K62
open PySem PySem.Spec PyProof.Rows L2 Fw Lay
section
variable {P : Program} {w : World} {K : PySem.W.Frag} {mg : Str → Option Value} {base : Heap}
theorem nmap_len2 (l : List Nat) : ((nmap l).map V.int).length = l.length := by unfold nmap; rw [List.length_map, List.length_map]
theorem ws_len3 {ws : Ws} {g : Nx} {bs : List Nat} (e : ws.map (·.2) = bs.map (fun b => nmap (cls g b))) : ws.length = bs.length := by
  have := congrArg List.length e
  rw [List.length_map, List.length_map] at this
  exact this
theorem cls_lft {g : Nx} {bs : List Nat} {b : Nat} (hb : b ∈ lft g bs) : ((lft g bs).filter fun v => @decide (Mt g b v) (Classical.propDecidable _)) = cls g b := by
  unfold lft cls
  rw [List.filter_filter]
  refine List.filter_congr fun v _ => ?_
  by_cases h1 : Mt g b v
  · have : ¬ ∃ a ∈ bs, Mt g a v := fun ⟨a, ha, m⟩ => (lft_mem.mp hb).2 ⟨a, ha, m.trans h1.symm⟩
    rw [@decide_eq_true _ (Classical.propDecidable _) h1, @decide_eq_true _ (Classical.propDecidable _) this]
    rfl
  · rw [@decide_eq_false _ (Classical.propDecidable _) h1]
    rfl
theorem rch_get {K : PySem.W.Frag} {g : Nx} {ms : Bs} {i j : Nat} (h : RchOk g (ms.map (·.2))) (hi : i < g.length) (hj : j < g.length) : ∃ z, z ∈ ms ∧ (refB ms)[i]? = some (.ref z.1) ∧ ∃ c, (z.2.map V.bl)[j]? = some (.bl c) ∧ (c = true ↔ To g i j) := by
  obtain ⟨m, h1, h2⟩ := h.2 i hi
  rw [List.getElem?_map] at h1
  obtain ⟨z, hz, rfl⟩ := Option.map_eq_some_iff.mp h1
  obtain ⟨c, h3, h4⟩ := h2 j hj
  refine ⟨z, List.mem_of_getElem? hz, ?_, c, ?_, h4⟩
  · unfold refB
    rw [List.getElem?_map, hz]
    rfl
  · rw [List.getElem?_map, h3]
    rfl
theorem flt_snoc {p : Nat → Prop} {l : List Nat} {i v : Nat} (h : l[i]? = some v) : (p v → ((l.take (i + 1)).filter fun v => @decide (p v) (Classical.propDecidable _)) = ((l.take i).filter fun v => @decide (p v) (Classical.propDecidable _)) ++ [v]) ∧
    (¬ p v → ((l.take (i + 1)).filter fun v => @decide (p v) (Classical.propDecidable _)) = ((l.take i).filter fun v => @decide (p v) (Classical.propDecidable _))) := by
  rw [List.take_add_one, h, List.filter_append]
  refine ⟨fun hp => ?_, fun hp => ?_⟩
  · show _ ++ List.filter _ [v] = _
    rw [List.filter_cons_of_pos (p := fun v => @decide (p v) (Classical.propDecidable _)) (@decide_eq_true _ (Classical.propDecidable _) hp), List.filter_nil]
  · show _ ++ List.filter _ [v] = _
    rw [List.filter_cons_of_neg (p := fun v => @decide (p v) (Classical.propDecidable _)) (by rw [@decide_eq_false _ (Classical.propDecidable _) hp]; decide), List.filter_nil, List.append_nil]
theorem flt_len (p : Nat → Prop) (l : List Nat) (i : Nat) : ((l.take i).filter fun v => @decide (p v) (Classical.propDecidable _)).length ≤ l.length := by
  have := List.length_filter_le (fun v => @decide (p v) (Classical.propDecidable _)) (l.take i)
  rw [List.length_take] at this
  omega
theorem ok_l_parts (T : Txt K mg) : Good P w K mg base 2 (He.ga K "_law_parts") ["_law_rows"] [] (sp_l_parts K) := by
  refine good_of T.f_l_parts sc_l_parts (fun vs H Q E h => ?_) (fun _ _ _ _ _ _ us hl => match us, hl with | [_], _ => rfl) (fun cdv A outer s H vs Q E hr h => ?_)
  · obtain ⟨_, _, rfl, _⟩ := h
    rfl
  refine ⟨_, (pss_cons (ps_set (i := 1) sc_l_parts.nd rfl (Or.inr rfl) (pe_cg (ok_l_reach T) (hr.mono (j := 1) (by decide)) (by rfl) T.g_l_reach (pa_cons (pv 0) pa_nil)))
  (pss_cons (ps_set (i := 2) sc_l_parts.nd rfl (Or.inl rfl) (pe_listRg rfl (by rfl) T.z_list (prg_1 (by rfl) T.z_range (pe_callB call_len_seq (by rfl) T.z_len (by decide +kernel) (pa_cons (pv 0) pa_nil)))))
  (pss_cons (ps_set (i := 3) sc_l_parts.nd rfl (Or.inl rfl) (pe_lst pa_nil))
  (pss_cons (ps_for PassesOwn.never rfl (pi_range1 (by rfl) T.z_range (pa_cons (pe_callB call_len_seq (by rfl) T.z_len (by decide +kernel) (pa_cons (pv 0) pa_nil)) pa_nil)) (pg_name (i := 4) sc_l_parts.nd rfl (Or.inl rfl))
    (pss_cons (ps_set (i := 5) sc_l_parts.nd rfl (Or.inr rfl) (pe_un un_neg pe_int))
  (pss_cons (ps_for PassesOwn.never rfl (pi_list (pv 2)) (pg_name (i := 6) sc_l_parts.nd rfl (Or.inl rfl))
    (pss_one (ps_if (pt_cmpR op_lt (pv 5) pe_int (nomark _))
    (pss_cons (ps_set (i := 7) sc_l_parts.nd rfl (Or.inl rfl) pe_bl)
  (pss_cons (ps_for PassesOwn.never rfl (pi_list (pv 2)) (pg_name (i := 8) sc_l_parts.nd rfl (Or.inl rfl))
    (pss_one (ps_if (pw_and (pt_val (pe_ix ix_list (pe_ix ix_list (pv 1) (pv 8) (fun _ _ => rfl)) (pv 6) (fun _ _ => rfl))) (pw_and1 (pt_not (pt_val (pe_ix ix_list (pe_ix ix_list (pv 1) (pv 6) (fun _ _ => rfl)) (pv 8) (fun _ _ => rfl)))))).pt
    (pss_one (ps_set (i := 7) sc_l_parts.nd rfl (Or.inl rfl) pe_bl))
    pss_nil)))
  (pss_one (ps_if (pt_val (pv 7))
    (pss_one (ps_set (i := 5) sc_l_parts.nd rfl (Or.inr rfl) (pv 6)))
    pss_nil))))
    pss_nil)))
  (pss_one (ps_if (pt_cmpR op_ge (pv 5) pe_int (nomark _))
    (pss_cons (ps_expr (pe_bm PySem.F.plainAttrs_list PySem.F.slot_list_append PySem.F.type_list_append mt_append (pv 3) (pa_cons (pe_lc (own := [("_law_node", 6)]) (g := (gName 6)) rfl sc_l_parts.nd (pi_list (pv 2)) (blkOk_by (own := [("_law_node", 6)]) (N := ["_law_rows", "_law_reach_here", "_law_left", "_law_parts_here", "_law_turn", "_law_best", "_law_node", "_law_free_here", "_law_other"]) (sc := defScope s_l_parts) (by decide +kernel)) (fun _ _ _ _ _ => (pg_name (i := 6) sc_l_parts.nd rfl (Or.inl rfl))) (fun _ _ _ _ _ => (pts_one (pw_and (pt_val (pe_ix (ix_listE (K := K) rfl) (pe_ix (ix_listE (K := K) rfl) (pv 1) (pv 5) (fun _ _ => rfl)) (pv 6) (fun _ _ => rfl))) (pw_and1 (pt_val (pe_ix (ix_listE (K := K) rfl) (pe_ix (ix_listE (K := K) rfl) (pv 1) (pv 6) (fun _ _ => rfl)) (pv 5) (fun _ _ => rfl))))).pt)) (fun _ _ _ _ _ => (pv 6))) pa_nil)))
  (pss_one (ps_setLc (i := 2) (own := [("_law_node", 6)]) (g := (gName 6)) rfl sc_l_parts.nd rfl rfl (sw_true rfl rfl rfl (by decide +kernel)) (pi_list (pv 2)) (blkOk_by (own := [("_law_node", 6)]) (N := ["_law_rows", "_law_reach_here", "_law_left", "_law_parts_here", "_law_turn", "_law_best", "_law_node", "_law_free_here", "_law_other"]) (sc := defScope s_l_parts) (by decide +kernel)) (fun _ _ _ _ _ => (pg_name (i := 6) sc_l_parts.nd rfl (Or.inl rfl))) (fun _ _ _ _ _ => (pts_one (pt_not (pw_and (pt_val (pe_ix (ix_listE (K := K) rfl) (pe_ix (ix_listE (K := K) rfl) (pv 1) (pv 5) (fun _ _ => rfl)) (pv 6) (fun _ _ => rfl))) (pw_and1 (pt_val (pe_ix (ix_listE (K := K) rfl) (pe_ix (ix_listE (K := K) rfl) (pv 1) (pv 6) (fun _ _ => rfl)) (pv 5) (fun _ _ => rfl))))).pt))) (fun _ _ _ _ _ => (pv 6)))))
    pss_nil)))))
  (pss_one (ps_ret (pv 3))))))), ?_⟩
  obtain ⟨a, rs, rfl, hA, hrw, hok, hl, q⟩ := h
  have hgl := sxr_len rs
  have erl : (refR rs).length = rs.length := List.length_map ..
  have hEd : ∀ u v, Ed (sxr rs) u v → u < (sxr rs).length := fun u v e => (e.lt hok.g).1
  refine ⟨.ref a, rfl, a, rs, rfl, hA, hrw, hok, hl, fun H1 rp ms s1 nrp hrp hmz hR => ?_⟩
  refine ⟨.ref a, rfl, a, _, rfl, .inl (s1.seq hA), _, rfl, RgOk.of_le (by omega) (by omega) (by omega) (by omega), fun lp nlp => ?_⟩
  rw [erl, rgV_nat]
  have s2 := s1.trans (same_new (o := .lst ((nmap (List.range rs.length)).map V.int)) nlp)
  have hrp2 := same_new (o := .lst ((nmap (List.range rs.length)).map V.int)) nlp _ _ hrp
  have hmz2 : ∀ z ∈ ms, upd H1 lp (.lst ((nmap (List.range rs.length)).map V.int)) z.1 = some (.lst (z.2.map V.bl)) := fun z hz => same_new (o := .lst ((nmap (List.range rs.length)).map V.int)) nlp _ _ (hmz z hz)
  have hlp2 : upd H1 lp (.lst ((nmap (List.range rs.length)).map V.int)) lp = some (ilst (nmap (List.range rs.length))) := upd_same
  generalize upd H1 lp (.lst ((nmap (List.range rs.length)).map V.int)) = H2 at s2 hrp2 hmz2 hlp2 ⊢
  refine ⟨Nat.zero_le _, fun pp npp => ?_⟩
  have s3 := s2.trans (same_new (o := .lst []) npp)
  have nppH : H pp = none := s2.free npp
  have hrp3 := same_new (o := .lst []) npp _ _ hrp2
  have hmz3 : ∀ z ∈ ms, upd H2 pp (.lst []) z.1 = some (.lst (z.2.map V.bl)) := fun z hz => same_new (o := .lst []) npp _ _ (hmz2 z hz)
  have hlp3 := same_new (o := .lst []) npp _ _ hlp2
  have hpp3 : upd H2 pp (.lst []) pp = some (.lst []) := upd_same
  have hrpp : rp ≠ pp := ne_of_none hrp2 npp
  have hmpp : ∀ z ∈ ms, z.1 ≠ pp := fun z hz => ne_of_none (hmz2 z hz) npp
  have hlpp : lp ≠ pp := ne_of_none hlp2 npp
  generalize upd H2 pp (.lst []) = H3 at s3 hrp3 hmz3 hlp3 hpp3 ⊢
  have hf : ∀ {H4 : Hp}, But pp H3 H4 → Same H H4 := fun {H4} b z o e => b z o (ne_of_none e nppH) (s3 _ _ e)
  have hl0 : lft (sxr rs) [] = List.range rs.length := by
    unfold lft
    rw [hgl]
    refine List.filter_eq_self.mpr fun v _ => @decide_eq_true _ (Classical.propDecidable _) fun ⟨b, hb, _⟩ => nomatch hb
  have hcov : ∀ {bs : List Nat}, Ord (sxr rs) bs → bs.length ≤ rs.length := fun {bs} hO => by
    have := sub_len (l := bs) (m := List.range rs.length) ?_ fun b hb => ?_
    · rw [List.length_range] at this
      exact this
    · refine List.pairwise_iff_getElem.mpr fun i j hi hj hij e => ?_
      exact (hO j _ (List.getElem?_eq_getElem hj)).1.new _ (List.mem_take_iff_getElem.mpr ⟨i, by omega, rfl⟩) (by rw [e]; exact .refl _)
    · obtain ⟨i, hi, e⟩ := List.mem_iff_getElem.mp hb
      have := (hO i b (by rw [List.getElem?_eq_getElem hi, e])).1.lt
      exact List.mem_range.mpr (by omega)
  refine ⟨.ref a, rfl, a, _, rfl, .inl (s3.seq hA), (((refR rs).length : Nat) : Int), rfl, by omega, by omega, for_range (n := (refR rs).length) (fun i σ H4 => But pp H3 H4 ∧ ∃ (bs : List Nat) (ws : Ws) (lq : Addr), Ord (sxr rs) bs ∧ (lft (sxr rs) bs).length ≤ rs.length - i ∧ H4 pp = some (.lst (refL ws)) ∧ ws.map (·.2) = bs.map (fun b => nmap (cls (sxr rs) b)) ∧ (∀ z ∈ ws, H4 z.1 = some (ilst z.2) ∧ z.1 ≠ pp) ∧ H4 lq = some (ilst (nmap (lft (sxr rs) bs))) ∧ lq ≠ pp ∧ ∃ y4 y5 y6 y7 y8, σ = [some (.ref a), some (.ref rp), some (.ref lq), some (.ref pp), y4, y5, y6, y7, y8])
    ⟨But.refl, [], [], lp, Ord.nil _, by rw [hl0, List.length_range]; omega, hpp3, rfl, fun z hz => (nomatch hz), by rw [hl0]; exact hlp3, hlpp, none, none, none, none, none, rfl⟩ ?_ ?_⟩
  · rintro i σ H4 hi ⟨b4, bs, ws, lq, hO, hlf, hpp4, ews, hws, hlq, hlqp, y4, y5, y6, y7, y8, rfl⟩
    rw [erl] at hi
    have hrp4 := b4 _ _ hrpp hrp3
    have hmz4 : ∀ z ∈ ms, H4 z.1 = some (.lst (z.2.map V.bl)) := fun z hz => b4 _ _ (hmpp z hz) (hmz3 z hz)
    have hlm : ∀ v ∈ lft (sxr rs) bs, v < (sxr rs).length := fun v hv => (lft_mem.mp hv).1
    refine ⟨1, rfl, _, rfl, lq, rfl, ⟨_, SqL.of hlq⟩, for_list (K := K) (a := lq) (xs := (nmap (lft (sxr rs) bs)).map V.int) (fun i2 σ H5 => H5 = H4 ∧ ∃ b : Int, ((b = -1 ∧ ∀ v ∈ (lft (sxr rs) bs).take i2, ¬ Free (sxr rs) bs v) ∨ ∃ n : Nat, b = n ∧ n ∈ lft (sxr rs) bs ∧ Free (sxr rs) bs n ∧ ∀ u, u < n → u ∈ lft (sxr rs) bs → ¬ Free (sxr rs) bs u) ∧ ∃ y6 y7 y8, σ = [some (.ref a), some (.ref rp), some (.ref lq), some (.ref pp), some (.int (0 + (i : Int))), some (.int b), y6, y7, y8])
      ⟨rfl, -1, .inl ⟨rfl, fun v hv => nomatch hv⟩, _, _, _, rfl⟩ (fun i2 σ H5 _ h => by rw [h.1]; exact SqL.of hlq) ?_ ?_⟩
    · rintro i2 x σ H5 hi2 ⟨rfl, b, hb, z6, z7, z8, rfl⟩
      obtain ⟨v, hv, rfl⟩ := nmap_ge hi2
      have hvm := List.mem_of_getElem? hv
      have hvl := hlm v hvm
      refine ⟨_, rfl, _, _, rfl, rfl, _, rfl, if2 (fun e => ?_) (fun e => ?_)⟩
      · rcases hb with ⟨rfl, hb⟩ | ⟨n, rfl, _⟩
        · refine ⟨_, rfl, lq, rfl, ⟨_, SqL.of hlq⟩, for_list (K := K) (a := lq) (xs := (nmap (lft (sxr rs) bs)).map V.int) (fun j σ H6 => H6 = H5 ∧ ∃ f : Bool, (f = true ↔ ∀ o ∈ (lft (sxr rs) bs).take j, To (sxr rs) o v → To (sxr rs) v o) ∧ ∃ y8, σ = [some (.ref a), some (.ref rp), some (.ref lq), some (.ref pp), some (.int (0 + (i : Int))), some (.int (-1)), some (.int (v : Int)), some (.bl f), y8])
            ⟨rfl, true, ⟨fun _ o ho => (nomatch ho), fun _ => rfl⟩, _, rfl⟩ (fun j σ H6 _ h => by rw [h.1]; exact SqL.of hlq) ?_ ?_⟩
          · rintro j x σ H6 hj ⟨rfl, f, hfr, w8, rfl⟩
            obtain ⟨o, ho, rfl⟩ := nmap_ge hj
            have hol := hlm o (List.mem_of_getElem? ho)
            obtain ⟨z1, hz1, g1, c1, k1, e1⟩ := rch_get (K := K) hR hol hvl
            obtain ⟨z2, hz2, g2, c2, k2, e2⟩ := rch_get (K := K) hR hvl hol
            have htk : (lft (sxr rs) bs).take (j + 1) = (lft (sxr rs) bs).take j ++ [o] := by
              rw [List.take_add_one, ho]
              rfl
            have hnew : ∀ f2 : Bool, (f2 = true ↔ f = true ∧ (To (sxr rs) o v → To (sxr rs) v o)) → (f2 = true ↔ ∀ o ∈ (lft (sxr rs) bs).take (j + 1), To (sxr rs) o v → To (sxr rs) v o) := fun f2 h2 => by
              rw [h2, hfr, htk]
              refine ⟨fun ⟨h3, h4⟩ o2 ho2 => ?_, fun h3 => ⟨fun o2 ho2 => h3 o2 (List.mem_append_left _ ho2), h3 o (List.mem_append_right _ (List.mem_singleton.mpr rfl))⟩⟩
              rcases List.mem_append.mp ho2 with h5 | h5
              · exact h3 o2 h5
              · rw [List.mem_singleton.mp h5]
                exact h4
            refine ⟨_, rfl, _, rfl, rp, _, _, _, rfl, rfl, SqL.of hrp4, atI_nat g1, _, rfl, z1.1, _, _, _, rfl, rfl, SqL.of (hmz4 z1 hz1), atI_nat k1, c1, rfl, ?_⟩
            cases c1 with
            | false => exact iteF (iteF ⟨rfl, f, hnew f ⟨fun h => ⟨h, fun t => absurd (e1.mpr t) (by decide)⟩, fun h => h.1⟩, _, rfl⟩)
            | true =>
              refine iteT ⟨_, rfl, _, rfl, rp, _, _, _, rfl, rfl, SqL.of hrp4, atI_nat g2, _, rfl, z2.1, _, _, _, rfl, rfl, SqL.of (hmz4 z2 hz2), atI_nat k2, c2, rfl, ?_⟩
              cases c2 with
              | true => exact iteF ⟨rfl, f, hnew f ⟨fun h => ⟨h, fun _ => e2.mp rfl⟩, fun h => h.1⟩, _, rfl⟩
              | false => exact iteT ⟨rfl, false, hnew false ⟨fun h => (nomatch h), fun h => absurd (e2.mpr (h.2 (e1.mp rfl))) (by decide)⟩, _, rfl⟩
          · rintro σ H6 ⟨rfl, f, hfr, w8, rfl⟩
            rw [nmap_len2, List.take_length] at hfr
            refine ⟨_, rfl, f, rfl, ?_⟩
            have htk : (lft (sxr rs) bs).take (i2 + 1) = (lft (sxr rs) bs).take i2 ++ [v] := by
              rw [List.take_add_one, hv]
              rfl
            cases f with
            | true =>
              refine iteT ⟨_, rfl, rfl, (v : Int), .inr ⟨v, rfl, hvm, hfr.mp rfl, fun u hu hum hfu => ?_⟩, _, _, _, rfl⟩
              obtain ⟨j, hj, ej⟩ := List.mem_iff_getElem.mp hum
              have hiv := List.getElem?_eq_some_iff.mp hv
              have hji : j < i2 := by
                have hp := List.pairwise_iff_getElem.mp (lft_asc (sxr rs) bs)
                by_cases h1 : j < i2
                · exact h1
                · by_cases h2 : j = i2
                  · subst h2
                    have := hiv.2
                    omega
                  · have := hp i2 j hiv.1 hj (by omega)
                    have := hiv.2
                    omega
              exact hb u (List.mem_take_iff_getElem.mpr ⟨j, by omega, ej⟩) hfu
            | false =>
              refine iteF ⟨rfl, -1, .inl ⟨rfl, fun u hu => ?_⟩, _, _, _, rfl⟩
              rw [htk] at hu
              rcases List.mem_append.mp hu with h5 | h5
              · exact hb u h5
              · rw [List.mem_singleton.mp h5]
                exact fun h => absurd (hfr.mpr h) (by decide)
        · omega
      · rcases hb with ⟨rfl, hb⟩ | hb
        · exact absurd (by decide) e
        · exact ⟨rfl, b, .inr hb, _, _, _, rfl⟩
    · rintro σ H5 ⟨rfl, b, hb, z6, z7, z8, rfl⟩
      rw [nmap_len2, List.take_length] at hb
      refine ⟨_, rfl, _, _, rfl, rfl, _, rfl, if2 (fun e => ?_) (fun e => ?_)⟩
      · obtain ⟨n, rfl, hnm, hnf, hnl⟩ := hb.resolve_left (fun h => by have := h.1; omega)
        have hnl2 := hlm n hnm
        have hrdy := hnf.rdy hEd hnm hnl
        have hO2 := hO.push hrdy fun c hc => by
          obtain ⟨h1, h2⟩ := hc.free hO
          by_cases h3 : c < n
          · exact absurd h2 (hnl c h3 h1)
          · omega
        have hll := lft_len hnm
        have hlfl := List.length_filter_le (fun v => @decide (¬ ∃ b ∈ bs, Mt (sxr rs) b v) (Classical.propDecidable _)) (List.range (sxr rs).length)
        rw [List.length_range] at hlfl
        have hlfl : (lft (sxr rs) bs).length ≤ rs.length := by
          unfold lft
          omega
        have hmt : ∀ v, Mt (sxr rs) n v ↔ To (sxr rs) n v ∧ To (sxr rs) v n := fun v => Iff.rfl
        refine ⟨_, rfl, .inl ⟨rfl, _, SqL.of hpp4⟩, _, rfl, lq, rfl, ⟨_, SqL.of hlq⟩, fun D hD => lc_list (K := K) (a := lq) (xs := (nmap (lft (sxr rs) bs)).map V.int) (fun j H6 => Same H5 H6 ∧ H6 D = some (ilst (nmap (((lft (sxr rs) bs).take j).filter fun v => @decide (Mt (sxr rs) n v) (Classical.propDecidable _))))) ⟨same_new hD, upd_same⟩ (fun j H6 _ h => SqL.of (h.1 _ _ hlq)) ?_ ?_⟩
        · rintro j x H6 hj ⟨s6, h6⟩
          obtain ⟨v, hv, rfl⟩ := nmap_ge hj
          have hvl := hlm v (List.mem_of_getElem? hv)
          obtain ⟨z1, hz1, g1, c1, k1, e1⟩ := rch_get (K := K) hR hnl2 hvl
          obtain ⟨z2, hz2, g2, c2, k2, e2⟩ := rch_get (K := K) hR hvl hnl2
          obtain ⟨f1, f2⟩ := flt_snoc (p := Mt (sxr rs) n) hv
          have hfl := flt_len (Mt (sxr rs) n) (lft (sxr rs) bs) j
          refine ⟨rfl, _, rfl, _, rfl, rp, _, _, _, rfl, rfl, SqL.of (s6 _ _ hrp4), atI_nat g1, _, rfl, z1.1, _, _, _, rfl, rfl, SqL.of (s6 _ _ (hmz4 z1 hz1)), atI_nat k1, c1, rfl, ?_⟩
          cases c1 with
          | false =>
            refine iteF (iteF ⟨s6, ?_⟩)
            rw [f2 fun h => absurd (e1.mpr h.1) (by decide)]
            exact h6
          | true =>
            refine iteT ⟨_, rfl, _, rfl, rp, _, _, _, rfl, rfl, SqL.of (s6 _ _ hrp4), atI_nat g2, _, rfl, z2.1, _, _, _, rfl, rfl, SqL.of (s6 _ _ (hmz4 z2 hz2)), atI_nat k2, c2, rfl, ?_⟩
            cases c2 with
            | false =>
              refine iteF ⟨s6, ?_⟩
              rw [f2 fun h => absurd (e2.mpr h.2) (by decide)]
              exact h6
            | true =>
              refine iteT ⟨_, rfl, _, h6, small1000 (by rw [nmap_len2]; omega), same_mut s6 hD, ?_⟩
              rw [upd_same, f1 ⟨e1.mp rfl, e2.mp rfl⟩]
              unfold ilst nmap
              rw [List.map_append, List.map_append]
              rfl
        rintro H6 ⟨s6, h6⟩
        rw [nmap_len2, List.take_length, cls_lft hnm] at h6
        have hpp6 := s6 _ _ hpp4
        have hDpp : D ≠ pp := (ne_of_none hpp4 hD).symm
        have hwl : ws.length = bs.length := ws_len3 ews
        have hbl := hcov hO
        refine ⟨pp, _, _, rfl, rfl, hpp6, small1000 (by unfold refL; rw [List.length_map]; omega), ?_⟩
        have b7 : But pp H3 (upd H6 pp (.lst (refL ws ++ [.ref D]))) := (b4.then s6).own
        have hpp7 : upd H6 pp (.lst (refL ws ++ [.ref D])) pp = some (.lst (refL (ws ++ [(D, nmap (cls (sxr rs) n))]))) := by
          rw [upd_same]
          unfold refL
          rw [List.map_append]
          rfl
        have k7 : ∀ z o, z ≠ pp → H6 z = some o → upd H6 pp (.lst (refL ws ++ [.ref D])) z = some o := fun z o nz e => by
          rw [upd_ne nz]
          exact e
        generalize upd H6 pp (.lst (refL ws ++ [.ref D])) = H7 at b7 hpp7 k7 ⊢
        have hD7 := k7 _ _ hDpp h6
        have hlq7 := k7 _ _ hlqp (s6 _ _ hlq)
        have hrp7 := k7 _ _ hrpp (s6 _ _ hrp4)
        have hmz7 : ∀ z ∈ ms, H7 z.1 = some (.lst (z.2.map V.bl)) := fun z hz => k7 _ _ (hmpp z hz) (s6 _ _ (hmz4 z hz))
        refine ⟨_, rfl, lq, rfl, ⟨_, SqL.of hlq7⟩, fun D2 hD2 => lc_list (K := K) (a := lq) (xs := (nmap (lft (sxr rs) bs)).map V.int) (fun j H8 => Same H7 H8 ∧ H8 D2 = some (ilst (nmap (((lft (sxr rs) bs).take j).filter fun v => @decide (¬ Mt (sxr rs) n v) (Classical.propDecidable _))))) ⟨same_new hD2, upd_same⟩ (fun j H8 _ h => SqL.of (h.1 _ _ hlq7)) ?_ ?_⟩
        · rintro j x H8 hj ⟨s8, h8⟩
          obtain ⟨v, hv, rfl⟩ := nmap_ge hj
          have hvl := hlm v (List.mem_of_getElem? hv)
          obtain ⟨z1, hz1, g1, c1, k1, e1⟩ := rch_get (K := K) hR hnl2 hvl
          obtain ⟨z2, hz2, g2, c2, k2, e2⟩ := rch_get (K := K) hR hvl hnl2
          obtain ⟨f1, f2⟩ := flt_snoc (p := fun v => ¬ Mt (sxr rs) n v) hv
          have hfl := flt_len (fun v => ¬ Mt (sxr rs) n v) (lft (sxr rs) bs) j
          have hadd : ¬ Mt (sxr rs) n v → ∃ acc, H8 D2 = some (.lst acc) ∧ acc.length < sizeLine ∧ Same H7 (upd H8 D2 (.lst (acc ++ [.int (v : Int)]))) ∧ upd H8 D2 (.lst (acc ++ [.int (v : Int)])) D2 = some (ilst (nmap (((lft (sxr rs) bs).take (j + 1)).filter fun v => @decide (¬ Mt (sxr rs) n v) (Classical.propDecidable _)))) := fun hn => by
            refine ⟨_, h8, small1000 (by rw [nmap_len2]; omega), same_mut s8 hD2, ?_⟩
            rw [upd_same, f1 hn]
            unfold ilst nmap
            rw [List.map_append, List.map_append]
            rfl
          refine ⟨rfl, _, rfl, _, rfl, rp, _, _, _, rfl, rfl, SqL.of (s8 _ _ hrp7), atI_nat g1, _, rfl, z1.1, _, _, _, rfl, rfl, SqL.of (s8 _ _ (hmz7 z1 hz1)), atI_nat k1, c1, rfl, ?_⟩
          cases c1 with
          | false => exact iteF (iteT ⟨_, rfl, hadd fun h => absurd (e1.mpr h.1) (by decide)⟩)
          | true =>
            refine iteT ⟨_, rfl, _, rfl, rp, _, _, _, rfl, rfl, SqL.of (s8 _ _ hrp7), atI_nat g2, _, rfl, z2.1, _, _, _, rfl, rfl, SqL.of (s8 _ _ (hmz7 z2 hz2)), atI_nat k2, c2, rfl, ?_⟩
            cases c2 with
            | false => exact iteT ⟨_, rfl, hadd fun h => absurd (e2.mpr h.2) (by decide)⟩
            | true =>
              refine iteF ⟨s8, ?_⟩
              rw [f2 fun h => h ⟨e1.mp rfl, e2.mp rfl⟩]
              exact h8
        rintro H8 ⟨s8, h8⟩
        rw [nmap_len2, List.take_length, ← lft_push] at h8
        refine ⟨b7.then s8, bs ++ [n], ws ++ [(D, nmap (cls (sxr rs) n))], D2, hO2, by omega, s8 _ _ hpp7, ?_, fun z hz => ?_, h8, (ne_of_none hpp7 hD2).symm, _, _, _, _, _, rfl⟩
        · rw [List.map_append, List.map_append, ews]
          rfl
        · rcases List.mem_append.mp hz with hz | hz
          · obtain ⟨h1, h2⟩ := hws z hz
            exact ⟨s8 _ _ (k7 _ _ h2 (s6 _ _ h1)), h2⟩
          · rw [List.mem_singleton.mp hz]
            exact ⟨s8 _ _ hD7, hDpp⟩
      · have hb1 := hb.resolve_right (fun ⟨n, h1, _⟩ => by omega)
        have hnil : lft (sxr rs) bs = [] := Classical.byContradiction fun hne => by
          obtain ⟨v, hv, hfv⟩ := lft_free hne
          exact hb1.2 v hv hfv
        refine ⟨b4, bs, ws, lq, hO, ?_, hpp4, ews, hws, hlq, hlqp, _, _, _, _, _, rfl⟩
        rw [hnil]
        exact Nat.zero_le _
  · rintro σ H4 ⟨b4, bs, ws, lq, hO, hlf, hpp4, ews, hws, hlq, hlqp, y4, y5, y6, y7, y8, rfl⟩
    rw [erl, Nat.sub_self] at hlf
    exact ⟨_, rfl, q H4 pp ws bs (hf b4) nppH hpp4 ews ⟨hO.cover (List.length_eq_zero_iff.mp (by omega)), hO⟩ fun z hz => (hws z hz).1⟩
end
end K62

namespace K62
open PySem PySem.Spec PyProof.Rows L2 Fw Lay
section
variable {P : Program} {w : World} {K : PySem.W.Frag} {mg : Str → Option Value} {base : Heap}
theorem ok_components (T : Txt K mg) : Good P w K mg base 4 (He.ga K "components") ["graph"] [] (sp_components K) := by
  refine good_of T.f_components sc_components (fun vs H Q E h => ?_) (fun _ _ _ _ _ _ us hl => match us, hl with | [_], _ => rfl) (fun cdv A outer s H vs Q E hr h => ?_)
  · obtain ⟨_, _, rfl, _⟩ := h
    rfl
  refine ⟨_, (pss_cons (ps_set (i := 1) sc_components.nd rfl (Or.inl rfl) (pe_cg (ok_class_numbers T) (hr.mono (j := 2) (by decide)) (by rfl) T.g_class_numbers (pa_cons (pv 0) pa_nil)))
  (pss_cons (ps_set (i := 2) sc_components.nd rfl (Or.inl rfl) (pe_cg (ok_parts_of T) (hr.mono (j := 2) (by decide)) (by rfl) T.g_parts_of (pa_cons (pv 1) pa_nil)))
  (pss_cons (ps_set (i := 3) sc_components.nd rfl (Or.inl rfl) (pe_cg (ok_entering T) (hr.mono (j := 3) (by decide)) (by rfl) T.g_entering (pa_cons (pv 0) (pa_cons (pv 1) pa_nil))))
  (pss_cons (ps_set (i := 4) sc_components.nd rfl (Or.inl rfl) (pe_lst (pa_cons pe_int pa_nil)))
  (pss_cons (ps_set (i := 5) sc_components.nd rfl (Or.inl rfl) (pe_lst pa_nil))
  (pss_cons (ps_while PassesOwn.never (pt_cmpR op_gt (pe_callB call_len_seq (by rfl) T.z_len (by decide +kernel) (pa_cons (pv 4) pa_nil)) pe_int (nomark _))
    (pss_cons (ps_set (i := 6) sc_components.nd rfl (Or.inl rfl) (pe_callB (cr_min rfl) (by rfl) T.z_min (by decide +kernel) (pa_cons (pv 4) pa_nil)))
  (pss_cons (ps_expr (pe_bm PySem.F.plainAttrs_list PySem.F.slot_list_remove PySem.F.type_list_remove mt_remove (pv 4) (pa_cons (pv 6) pa_nil)))
  (pss_cons (ps_expr (pe_bm PySem.F.plainAttrs_list PySem.F.slot_list_append PySem.F.type_list_append mt_append (pv 5) (pa_cons (pe_ix ix_list (pv 2) (pe_ix ix_list (pv 1) (pv 6) (fun _ _ => rfl)) (fun _ _ => rfl)) pa_nil)))
  (pss_one (ps_for PassesOwn.never rfl (pi_list (pe_cg (ok_leaving T) (hr.mono (j := 2) (by decide)) (by rfl) T.g_leaving (pa_cons (pv 0) (pa_cons (pv 1) (pa_cons (pe_ix ix_list (pv 2) (pe_ix ix_list (pv 1) (pv 6) (fun _ _ => rfl)) (fun _ _ => rfl)) pa_nil))))) (pg_name (i := 7) sc_components.nd rfl (Or.inl rfl))
    (pss_cons (ps_augS (pv 3) (pe_ix ix_list (pv 1) (pv 7) (fun _ _ => rfl)) get_list pe_int ip_sub set_list)
  (pss_one (ps_if (pt_cmpR op_eq (pe_ix ix_list (pv 3) (pe_ix ix_list (pv 1) (pv 7) (fun _ _ => rfl)) (fun _ _ => rfl)) pe_int (nomark _))
    (pss_one (ps_expr (pe_bm PySem.F.plainAttrs_list PySem.F.slot_list_append PySem.F.type_list_append mt_append (pv 4) (pa_cons (pe_ix ix_list (pe_ix ix_list (pv 2) (pe_ix ix_list (pv 1) (pv 7) (fun _ _ => rfl)) (fun _ _ => rfl)) pe_int (fun _ _ => rfl)) pa_nil))))
    pss_nil)))))))))
  (pss_one (ps_ret (pv 5))))))))), ?_⟩
  obtain ⟨g, rs, rfl, hG, hok, hl, q⟩ := h
  obtain ⟨dx, ra, h1, h2, hrw⟩ := id hG
  have hgl := sxr_len rs
  have hg := hok.g
  have hpos := hg.pos
  refine ⟨_, rfl, g, rs, rfl, hG, hok, fun H1 a nm c s1 na ha hN => ?_⟩
  have hnl := hN.num.len
  have hcf := cls_few hN
  refine ⟨_, rfl, a, sxr rs, nm, c, rfl, SqL.of ha, by omega, hN, fun H2 pp ws s2 npp hpp ews hws => ?_⟩
  have s02 := s1.trans s2
  refine ⟨_, rfl, _, rfl, g, a, rs, nm, c, rfl, hG.same s02, SqL.of (s2 _ _ ha), hN, hok, hl, fun H3 wp s3 nwp hwp => ?_⟩
  have s03 := s02.trans s3
  have ha3 := s3 _ _ (s2 _ _ ha)
  have hpp3 := s3 _ _ hpp
  have hws3 : ∀ z ∈ ws, H3 z.1 = some (ilst z.2) := fun z hz => s3 _ _ (hws z hz).2.2
  have hawp : a ≠ wp := ne_of_none (s2 _ _ ha) nwp
  have hppwp : pp ≠ wp := ne_of_none hpp nwp
  have hwswp : ∀ z ∈ ws, z.1 ≠ wp := fun z hz => ne_of_none (hws z hz).2.2 nwp
  have nwpH : H wp = none := s02.free nwp
  refine ⟨(by show 1 ≤ sizeLine; decide), fun rp nrp => ?_⟩
  have nrpH : H rp = none := s03.free nrp
  have b4 := same_new (o := .lst [.int 0]) nrp
  have hrp4 : upd H3 rp (.lst [.int 0]) rp = some (.lst [.int 0]) := upd_same
  generalize upd H3 rp (.lst [.int 0]) = H4 at b4 hrp4 ⊢
  refine ⟨Nat.zero_le _, fun op nop => ?_⟩
  have nopH : H op = none := s03.free (b4.free nop)
  have b5 := b4.trans (same_new (o := .lst []) nop)
  have hrp5 := same_new (o := .lst []) nop _ _ hrp4
  have hop5 : upd H4 op (.lst []) op = some (.lst []) := upd_same
  have hrw1 : rp ≠ wp := (ne_of_none hwp nrp).symm
  have how1 : op ≠ wp := (ne_of_none (b4 _ _ hwp) nop).symm
  have hor1 : op ≠ rp := (ne_of_none hrp4 nop).symm
  have harp : a ≠ rp := ne_of_none ha3 nrp
  have hpprp : pp ≠ rp := ne_of_none hpp3 nrp
  have hwsrp : ∀ z ∈ ws, z.1 ≠ rp := fun z hz => ne_of_none (hws3 z hz) nrp
  have haop : a ≠ op := ne_of_none (b4 _ _ ha3) nop
  have hppop : pp ≠ op := ne_of_none (b4 _ _ hpp3) nop
  have hwsop : ∀ z ∈ ws, z.1 ≠ op := fun z hz => ne_of_none (b4 _ _ (hws3 z hz)) nop
  generalize upd H4 op (.lst []) = H5 at b5 hrp5 hop5 ⊢
  obtain ⟨hK0, hh0⟩ := hN.first hg
  have hwl : ws.length = c := by
    have e := congrArg List.length ews
    rw [List.length_map, List.length_map, List.length_range] at e
    exact e
  have hwj : ∀ {j : Nat}, j < c → ∃ z, z ∈ ws ∧ ws[j]? = some z ∧ z.2 = nmap (pt nm j) := fun {j} hj => by
    have hz : ws[j]? = some (ws[j]'(by omega)) := List.getElem?_eq_getElem (by omega)
    refine ⟨_, List.getElem_mem (show j < ws.length by omega), hz, ?_⟩
    have e := congrArg (fun l => l[j]?) ews
    simp only [List.getElem?_map] at e
    rw [hz, List.getElem?_range hj] at e
    exact Option.some.inj e
  have hwt0 : (List.range c).map (fun j => (tg (sxr rs) nm (List.range rs.length)).count j) = (List.range c).map fun j => wt (sxr rs) nm (List.range c) j + ([] : List Nat).count j := by
    refine List.map_congr_left fun j _ => ?_
    rw [← hgl, hN.wt_all]
    rfl
  rw [hwt0] at hwp
  have hrow : ∀ l ∈ sxr rs, RowOk rs.length l := fun l hl2 => by
    have := hg.rows l hl2
    rw [hgl] at this
    exact this
  refine ⟨fun m σ H8 => (∀ z o, z ≠ wp → z ≠ rp → z ≠ op → H3 z = some o → H8 z = some o) ∧ ∃ ls rest rd : List Nat, m = rest.length ∧ Kahn (sxr rs) nm c ls rest rd [] ∧ Ord (sxr rs) (ls.map (Lay.hd nm)) ∧ H8 wp = some (ilst (nmap ((List.range c).map fun j => wt (sxr rs) nm rest j + ([] : List Nat).count j))) ∧ H8 rp = some (ilst (nmap (rd.map (Lay.hd nm)))) ∧ H8 op = some (.lst (refL (ls.map fun j => ws.getD j (a, [])))) ∧
    ∃ y6 y7, σ = [some (.ref g), some (.ref a), some (.ref pp), some (.ref wp), some (.ref rp), some (.ref op), y6, y7], ⟨_, fun z o _ _ _ e => b5 z o e, [], List.range c, [cn nm 0], rfl, hK0, Ord.nil _, b5 _ _ hwp, ?_, hop5, none, none, rfl⟩, ?_⟩
  · rw [hrp5, List.map_cons, hh0]
    rfl
  rintro m σ H8 ⟨k8, ls, rest, rd, rfl, hK, hO, hw8, hr8, ho8, y6, y7, rfl⟩
  have hnd := hK.nd
  have hrdl : rd.length ≤ c := nodup_lt c rd hK.rd1 fun j hj => hK.lt (.inr (hK.rd3 j hj))
  have hlsl : ls.length ≤ c := nodup_lt c ls (List.nodup_append.mp hnd).1 fun j hj => hK.lt (.inl hj)
  refine ⟨_, rfl, rp, _, rfl, .inl (SqL.of hr8), _, _, rfl, rfl, _, rfl, ?_⟩
  dsimp only
  rw [enl, List.length_map]
  refine if2 (fun e => ?_) (fun e => ?_)
  · refine ⟨fun σ H9 => (∀ z o, z ≠ wp → z ≠ rp → z ≠ op → H3 z = some o → H9 z = some o) ∧ ∃ ls rest2 rd : List Nat, rest2.length < rest.length ∧ Kahn (sxr rs) nm c ls rest2 rd [] ∧ Ord (sxr rs) (ls.map (Lay.hd nm)) ∧ H9 wp = some (ilst (nmap ((List.range c).map fun j => wt (sxr rs) nm rest2 j + ([] : List Nat).count j))) ∧ H9 rp = some (ilst (nmap (rd.map (Lay.hd nm)))) ∧ H9 op = some (.lst (refL (ls.map fun j => ws.getD j (a, [])))) ∧
      ∃ y6 y7, σ = [some (.ref g), some (.ref a), some (.ref pp), some (.ref wp), some (.ref rp), some (.ref op), y6, y7], ?_, ?_⟩
    · rintro σ' H' ⟨k', ls, rest2, rd, hlt, hh⟩
      exact ⟨_, hlt, k', ls, rest2, rd, rfl, hh⟩
    refine ⟨_, rfl, rp, _, rfl, SqL.of hr8, by unfold nmap; rw [List.length_map, List.length_map]; omega, fun mn hmn hle => ?_⟩
    obtain ⟨i, hi, emn⟩ := List.mem_iff_getElem.mp hmn
    have hi2 : i < rd.length := by
      unfold nmap at hi
      rw [List.length_map, List.length_map] at hi
      exact hi
    have hk : rd[i]? = some rd[i] := List.getElem?_eq_getElem hi2
    generalize rd[i] = k at hk
    have hkc : k < c := hK.lt (.inr (hK.rd3 k (List.mem_of_getElem? hk)))
    have hgk : (nmap (rd.map (Lay.hd nm)))[i]? = some (Lay.hd nm k : Int) := by
      unfold nmap
      rw [List.map_map, List.getElem?_map, hk]
      rfl
    have emn2 : mn = (Lay.hd nm k : Int) := by
      rw [List.getElem?_eq_getElem hi, emn] at hgk
      exact Option.some.inj hgk
    rw [emn2] at hle ⊢
    have hO2 : Ord (sxr rs) ((ls ++ [k]).map (Lay.hd nm)) := by
      rw [List.map_append]
      refine hO.push (hK.rdy hN hg (List.mem_of_getElem? hk)) fun c2 hc2 => ?_
      obtain ⟨k2, hk2, rfl⟩ := hK.rdy_all hN hg hc2
      have h5 := hle (Lay.hd nm k2 : Int) (List.mem_map.mpr ⟨_, List.mem_map_of_mem hk2, rfl⟩)
      omega
    have hhk := pt_mem.mp (hN.hd hkc).1
    have hk2 := hK.pick hk
    -- remove
    have hfirst : ∀ m : Nat, m < i → (nmap (rd.map (Lay.hd nm)))[m]? ≠ some (Lay.hd nm k : Int) := fun m hm he => by
      unfold nmap at he
      rw [List.map_map, List.getElem?_map] at he
      obtain ⟨k2, e5, e6⟩ := Option.map_eq_some_iff.mp he
      have e7 : Lay.hd nm k2 = Lay.hd nm k := Int.ofNat.inj e6
      have hk2c : k2 < c := hK.lt (.inr (hK.rd3 k2 (List.mem_of_getElem? e5)))
      have h3 := (pt_mem.mp (hN.hd hk2c).1).2
      rw [e7, hhk.2] at h3
      rw [← h3] at e5
      have := Lay.nd_ix hK.rd1 e5 hk
      omega
    refine ⟨_, rfl, .inl ⟨rfl, _, SqL.of hr8⟩, _, rfl, rp, _, _, i, rfl, rfl, hr8, hgk, hfirst, ?_⟩
    have er : (nmap (rd.map (Lay.hd nm))).eraseIdx i = nmap ((rd.eraseIdx i).map (Lay.hd nm)) := by
      unfold nmap
      rw [Lay.map_eraseIdx, Lay.map_eraseIdx]
    rw [er]
    have k9 : ∀ z o, z ≠ wp → z ≠ rp → z ≠ op → H3 z = some o → upd H8 rp (.lst ((nmap ((rd.eraseIdx i).map (Lay.hd nm))).map V.int)) z = some o := fun z o n1 n2 n3 e => by
      rw [upd_ne n2]
      exact k8 z o n1 n2 n3 e
    have hr9 : upd H8 rp (.lst ((nmap ((rd.eraseIdx i).map (Lay.hd nm))).map V.int)) rp = some (ilst (nmap ((rd.eraseIdx i).map (Lay.hd nm)))) := upd_same
    have hw9 : upd H8 rp (.lst ((nmap ((rd.eraseIdx i).map (Lay.hd nm))).map V.int)) wp = some (ilst (nmap ((List.range c).map fun j => wt (sxr rs) nm rest j + ([] : List Nat).count j))) := by
      rw [upd_ne hrw1.symm]
      exact hw8
    have ho9 : upd H8 rp (.lst ((nmap ((rd.eraseIdx i).map (Lay.hd nm))).map V.int)) op = some (.lst (refL (ls.map fun j => ws.getD j (a, [])))) := by
      rw [upd_ne hor1]
      exact ho8
    generalize upd H8 rp (.lst ((nmap ((rd.eraseIdx i).map (Lay.hd nm))).map V.int)) = H9 at k9 hr9 hw9 ho9 ⊢
    -- ordered
    obtain ⟨z, hzm, hz, hz2⟩ := hwj hkc
    have hgz : ws.getD k (a, []) = z := by rw [List.getD_eq_getElem?_getD, hz]; rfl
    have hcn : (nm.map V.int)[Lay.hd nm k]? = some (.int (k : Int)) := by
      have := (hN.at (v := Lay.hd nm k) (by rw [← hnl]; exact hhk.1)).1
      rw [hhk.2] at this
      exact get_map this
    refine ⟨_, rfl, .inl ⟨rfl, _, SqL.of ho9⟩, _, rfl, _, rfl, _, rfl, a, _, _, _, rfl, rfl, SqL.of (k9 _ _ hawp harp haop ha3), atI_nat hcn, pp, _, _, _, rfl, rfl, SqL.of (k9 _ _ hppwp hpprp hppop hpp3), atI_nat (get_refL hz), op, _, _, rfl, rfl, ho9, small1000 (by unfold refL; rw [List.length_map, List.length_map]; omega), ?_⟩
    have eo : refL (ls.map fun j => ws.getD j (a, [])) ++ [V.ref z.1] = refL ((ls ++ [k]).map fun j => ws.getD j (a, [])) := by
      unfold refL
      rw [List.map_append, List.map_append]
      show _ = _ ++ [V.ref (ws.getD k (a, [])).1]
      rw [hgz]
    rw [eo]
    have k10 : ∀ z o, z ≠ wp → z ≠ rp → z ≠ op → H3 z = some o → upd H9 op (.lst (refL ((ls ++ [k]).map fun j => ws.getD j (a, [])))) z = some o := fun z o n1 n2 n3 e => by
      rw [upd_ne n3]
      exact k9 z o n1 n2 n3 e
    have hr10 : upd H9 op (.lst (refL ((ls ++ [k]).map fun j => ws.getD j (a, [])))) rp = some (ilst (nmap ((rd.eraseIdx i).map (Lay.hd nm)))) := by
      rw [upd_ne hor1.symm]
      exact hr9
    have hw10 : upd H9 op (.lst (refL ((ls ++ [k]).map fun j => ws.getD j (a, [])))) wp = some (ilst (nmap ((List.range c).map fun j => wt (sxr rs) nm rest j + ([] : List Nat).count j))) := by
      rw [upd_ne how1.symm]
      exact hw9
    have ho10 : upd H9 op (.lst (refL ((ls ++ [k]).map fun j => ws.getD j (a, [])))) op = some (.lst (refL ((ls ++ [k]).map fun j => ws.getD j (a, [])))) := upd_same
    generalize upd H9 op (.lst (refL ((ls ++ [k]).map fun j => ws.getD j (a, [])))) = H10 at k10 hr10 hw10 ho10 ⊢
    -- what leaves it
    have hG10 : GrAt K H10 g rs := by
      have hf : ∀ y o, H y = some o → H10 y = some o := fun y o e => k10 y o (ne_of_none e nwpH) (ne_of_none e nrpH) (ne_of_none e nopH) (s03 _ _ e)
      exact hG.same hf
    have hptl : ∀ v ∈ pt nm k, v < rs.length := fun v hv => by
      have := (pt_mem.mp hv).1
      omega
    have hptn : (pt nm k).length ≤ 1000 := by
      have : (pt nm k).length ≤ nm.length := by
        unfold pt
        have := List.length_filter_le (fun v => decide (cn nm v = k)) (List.range nm.length)
        rw [List.length_range] at this
        exact this
      omega
    obtain ⟨g10dx, _⟩ := id hG10
    refine ⟨_, rfl, _, rfl, _, rfl, _, rfl, _, rfl, a, _, _, _, rfl, rfl, SqL.of (k10 _ _ hawp harp haop ha3), atI_nat hcn, pp, _, _, _, rfl, rfl, SqL.of (k10 _ _ hppwp hpprp hppop hpp3), atI_nat (get_refL hz), g, a, z.1, rs, nm, pt nm k, rfl, hG10, SqL.of (k10 _ _ hawp harp haop ha3), by omega, ?_, hptl, hptn, hrow, fun H11 tp s11 ntp htp => ?_⟩
    · rw [← hz2]
      exact SqL.of (k10 _ _ (hwswp z hzm) (hwsrp z hzm) (hwsop z hzm) (hws3 z hzm))
    have htw : tp ≠ wp := (ne_of_none hw10 ntp).symm
    have htr : tp ≠ rp := (ne_of_none hr10 ntp).symm
    have htg : tg (sxr rs) nm (pt nm k) = (lvg (sxr rs) nm (pt nm k)).map fun t => cn nm t.toNat := rfl
    rw [htg] at hk2
    have hw11 : H11 wp = some (ilst (nmap ((List.range c).map fun j => wt (sxr rs) nm (rest.erase k) j + ((lvg (sxr rs) nm (pt nm k)).map fun t => cn nm t.toNat).count j))) := by
      rw [s11 _ _ hw10]
      refine congrArg (fun l => some (ilst (nmap l))) (List.map_congr_left fun j _ => ?_)
      rw [wt_erase (hK.rd3 k (List.mem_of_getElem? hk)), ← htg]
      show _ + 0 = _
      omega
    have hto : tp ≠ op := (ne_of_none ho10 ntp).symm
    have ho11 := s11 _ _ ho10
    have hrel : (rest.erase k).length < rest.length := by
      have := List.length_erase_of_mem (hK.rd3 k (List.mem_of_getElem? hk))
      have h5 := List.length_pos_of_mem (hK.rd3 k (List.mem_of_getElem? hk))
      omega
    refine ⟨tp, rfl, ⟨_, SqL.of htp⟩, for_list (K := K) (a := tp) (xs := (lvg (sxr rs) nm (pt nm k)).map V.int) (fun i2 σ H12 => (∀ z o, z ≠ wp → z ≠ rp → H11 z = some o → H12 z = some o) ∧ ∃ rd2, Kahn (sxr rs) nm c (ls ++ [k]) (rest.erase k) rd2 (((lvg (sxr rs) nm (pt nm k)).drop i2).map fun t => cn nm t.toNat) ∧ H12 wp = some (ilst (nmap ((List.range c).map fun j => wt (sxr rs) nm (rest.erase k) j + (((lvg (sxr rs) nm (pt nm k)).drop i2).map fun t => cn nm t.toNat).count j))) ∧ H12 rp = some (ilst (nmap (rd2.map (Lay.hd nm)))) ∧
        ∃ y7, σ = [some (.ref g), some (.ref a), some (.ref pp), some (.ref wp), some (.ref rp), some (.ref op), some (.int (Lay.hd nm k : Int)), y7])
      ⟨fun z o _ _ e => e, _, hk2, hw11, s11 _ _ hr10, _, rfl⟩ (fun i2 σ H12 _ h => SqL.of (h.1 _ _ htw htr htp)) ?_ ?_⟩
    · rintro i2 x σ H12 hi2 ⟨k12, rd2, hK2, hw12, hr12, y7, rfl⟩
      obtain ⟨t, ht, rfl⟩ := map_get hi2
      have hi2l := (List.getElem?_eq_some_iff.mp ht).1
      obtain ⟨u, v, rfl, hv, hu, he, hne⟩ := hN.lvg_mem hg (fun v hv => by rw [hgl]; exact hptl v hv) (List.mem_of_getElem? ht)
      obtain ⟨e1, e2⟩ := hN.at hv
      have edr : (lvg (sxr rs) nm (pt nm k)).drop i2 = (v : Int) :: (lvg (sxr rs) nm (pt nm k)).drop (i2 + 1) := by
        rw [List.drop_eq_getElem_cons hi2l, (List.getElem?_eq_some_iff.mp ht).2]
      rw [edr, List.map_cons, Int.toNat_natCast] at hK2 hw12
      obtain ⟨hT1, hT2⟩ := hK2.take e2
      have k312 : ∀ z o, z ≠ wp → z ≠ rp → z ≠ op → H3 z = some o → H12 z = some o := fun z o n1 n2 n3 e => k12 z o n1 n2 (s11 _ _ (k10 z o n1 n2 n3 e))
      have ha12 := k312 _ _ hawp harp haop ha3
      have hfk := fn_get (f := fun j => wt (sxr rs) nm (rest.erase k) j + (cn nm v :: ((lvg (sxr rs) nm (pt nm k)).drop (i2 + 1)).map fun t => cn nm t.toNat).count j) e2
      refine ⟨_, rfl, _, rfl, _, rfl, a, _, _, _, rfl, rfl, SqL.of ha12, atI_nat (get_map e1), wp, _, _, _, rfl, rfl, SqL.of hw12, atI_nat hfk, _, _, rfl, rfl, wp, _, _, cn nm v, rfl, rfl, hw12, ixN_nat (by rw [enl, List.length_map, List.length_range]; exact e2), ?_⟩
      rw [dec_set (f := fun j => wt (sxr rs) nm (rest.erase k) j + (cn nm v :: ((lvg (sxr rs) nm (pt nm k)).drop (i2 + 1)).map fun t => cn nm t.toNat).count j) (f2 := fun j => wt (sxr rs) nm (rest.erase k) j + (((lvg (sxr rs) nm (pt nm k)).drop (i2 + 1)).map fun t => cn nm t.toNat).count j) (by show _ + List.count _ (_ :: _) = _; rw [List.count_cons_self]; omega) fun j hj => by show _ = _ + List.count _ (_ :: _); rw [List.count_cons_of_ne fun e => hj e.symm]]
      have k13 : ∀ z o, z ≠ wp → z ≠ rp → H11 z = some o → upd H12 wp (.lst ((nmap ((List.range c).map fun j => wt (sxr rs) nm (rest.erase k) j + (((lvg (sxr rs) nm (pt nm k)).drop (i2 + 1)).map fun t => cn nm t.toNat).count j)).map V.int)) z = some o := fun z o n1 n2 e => by
        rw [upd_ne n1]
        exact k12 z o n1 n2 e
      have hw13 : upd H12 wp (.lst ((nmap ((List.range c).map fun j => wt (sxr rs) nm (rest.erase k) j + (((lvg (sxr rs) nm (pt nm k)).drop (i2 + 1)).map fun t => cn nm t.toNat).count j)).map V.int)) wp = some (ilst (nmap ((List.range c).map fun j => wt (sxr rs) nm (rest.erase k) j + (((lvg (sxr rs) nm (pt nm k)).drop (i2 + 1)).map fun t => cn nm t.toNat).count j))) := upd_same
      have hr13 : upd H12 wp (.lst ((nmap ((List.range c).map fun j => wt (sxr rs) nm (rest.erase k) j + (((lvg (sxr rs) nm (pt nm k)).drop (i2 + 1)).map fun t => cn nm t.toNat).count j)).map V.int)) rp = some (ilst (nmap (rd2.map (Lay.hd nm)))) := by
        rw [upd_ne hrw1]
        exact hr12
      generalize upd H12 wp (.lst ((nmap ((List.range c).map fun j => wt (sxr rs) nm (rest.erase k) j + (((lvg (sxr rs) nm (pt nm k)).drop (i2 + 1)).map fun t => cn nm t.toNat).count j)).map V.int)) = H13 at k13 hw13 hr13 ⊢
      have k313 : ∀ z o, z ≠ wp → z ≠ rp → z ≠ op → H3 z = some o → H13 z = some o := fun z o n1 n2 n3 e => k13 z o n1 n2 (s11 _ _ (k10 z o n1 n2 n3 e))
      have ha13 := k313 _ _ hawp harp haop ha3
      have hpp13 := k313 _ _ hppwp hpprp hppop hpp3
      have hfk2 := fn_get (f := fun j => wt (sxr rs) nm (rest.erase k) j + (((lvg (sxr rs) nm (pt nm k)).drop (i2 + 1)).map fun t => cn nm t.toNat).count j) e2
      refine ⟨_, rfl, _, rfl, _, rfl, a, _, _, _, rfl, rfl, SqL.of ha13, atI_nat (get_map e1), wp, _, _, _, rfl, rfl, SqL.of hw13, atI_nat hfk2, rfl, _, rfl, if2 (fun e5 => ?_) (fun e5 => ?_)⟩
      · obtain ⟨z2, hz2m, hz2g, hz2e⟩ := hwj e2
        have hrd2 : rd2.length ≤ c := nodup_lt c rd2 hK2.rd1 fun j hj => hK2.lt (.inr (hK2.rd3 j hj))
        have hz13 := k313 _ _ (hwswp z2 hz2m) (hwsrp z2 hz2m) (hwsop z2 hz2m) (hws3 z2 hz2m)
        have h00 : (z2.2.map V.int)[0]? = some (.int (Lay.hd nm (cn nm v) : Int)) := by
          rw [hz2e]
          exact nmap_gv (hN.hd e2).2
        refine ⟨_, rfl, .inl ⟨rfl, _, SqL.of hr13⟩, _, rfl, _, rfl, _, rfl, a, _, _, _, rfl, rfl, SqL.of ha13, atI_nat (get_map e1), pp, _, _, _, rfl, rfl, SqL.of hpp13, atI_nat (get_refL hz2g), z2.1, _, 0, _, rfl, rfl, SqL.of hz13, atI_nat (j := 0) h00, rp, _, _, rfl, rfl, hr13, small1000 (by rw [enl, List.length_map]; omega), fun y o n1 n2 e => ?_, rd2 ++ [cn nm v], hT1 (by have := V.int.inj e5; omega), ?_, ?_, _, rfl⟩
        · rw [upd_ne n2]
          exact k13 y o n1 n2 e
        · rw [upd_ne hrw1.symm]
          exact hw13
        · rw [upd_same]
          unfold ilst nmap
          rw [List.map_append, List.map_append, List.map_append]
          rfl
      · exact ⟨k13, rd2, hT2 (fun e6 => e5 (by rw [e6]; rfl)), hw13, hr13, _, rfl⟩
    · rintro σ H12 ⟨k12, rd2, hK2, hw12, hr12, y7, rfl⟩
      rw [List.length_map, List.drop_length] at hK2 hw12
      refine ⟨fun y o n1 n2 n3 e => k12 y o n1 n2 (s11 _ _ (k10 y o n1 n2 n3 e)), ls ++ [k], rest.erase k, rd2, hrel, hK2, hO2, hw12, hr12, k12 _ _ how1 hor1 ho11, _, _, rfl⟩
  · have e0 : rd = [] := List.length_eq_zero_iff.mp (by omega)
    subst e0
    have er := Kahn.fin hN hg hK
    subst er
    have hpm := hK.pm
    rw [List.append_nil] at hpm
    have hlc : ∀ j ∈ ls, j < c := fun j hj => List.mem_range.mp (hpm.mem_iff.mp hj)
    refine ⟨_, rfl, q H8 op _ (ls.map (Lay.hd nm)) (fun y o e => k8 y o (ne_of_none e nwpH) (ne_of_none e nrpH) (ne_of_none e nopH) (s03 _ _ e)) nopH ho8 ?_ ⟨hN.cover hpm, hO⟩ fun z hz => ?_⟩
    · rw [List.map_map, List.map_map]
      refine List.map_congr_left fun j hj => ?_
      obtain ⟨z, hzm, hz, hz2⟩ := hwj (hlc j hj)
      show (ws.getD j (a, [])).2 = nmap (cls (sxr rs) (Lay.hd nm j))
      rw [List.getD_eq_getElem?_getD, hz]
      show z.2 = _
      rw [hz2, hN.pt_cls (hN.hd (hlc j hj)).1]
    · obtain ⟨j, hj, e3⟩ := List.mem_map.mp hz
      obtain ⟨z2, hzm, hz2, _⟩ := hwj (hlc j hj)
      rw [List.getD_eq_getElem?_getD, hz2] at e3
      have e3 : z2 = z := e3
      rw [← e3]
      exact ⟨s1.free (hws z2 hzm).1, hwsop z2 hzm, k8 _ _ (hwswp z2 hzm) (hwsrp z2 hzm) (hwsop z2 hzm) (hws3 z2 hzm)⟩
end
end K62

namespace K62
open PySem PySem.Spec PyProof.Rows L2 Fw Lay
section
variable {P : Program} {w : World} {K : PySem.W.Frag} {mg : Str → Option Value} {base : Heap}
theorem inn_asc {g : Nx} {P : List Nat} (h : P.Pairwise (· < ·)) (v : Nat) : (inn g P v).Pairwise (· < ·) := h.sublist List.filter_sublist
theorem mem_nmap {l : List Nat} {k : Nat} : (k : Int) ∈ nmap l ↔ k ∈ l := by
  rw [nmap_mem]
  exact ⟨fun ⟨n, h, e⟩ => by rw [Int.ofNat.inj e]; exact h, fun h => ⟨k, h, rfl⟩⟩
theorem inn_eq {g : Nx} {P : List Nat} {v : Nat} {l ds : List Int} (hP : P.Pairwise (· < ·)) (hl : g[v]? = some l) (srt : ds.Pairwise (· < ·)) (mem : ∀ x, x ∈ ds ↔ x ∈ l.filter fun t => decide (t ∈ nmap P)) : ds = nmap (inn g P v) := by
  refine asc_eq _ _ srt (nmap_asc (inn_asc hP v)) fun x => ?_
  rw [mem, List.mem_filter, decide_eq_true_iff]
  constructor
  · rintro ⟨h1, h2⟩
    obtain ⟨n, h3, rfl⟩ := nmap_mem.mp h2
    exact nmap_mem.mpr ⟨n, inn_mem.mpr ⟨h3, l, hl, h1⟩, rfl⟩
  · intro hx
    obtain ⟨n, h1, rfl⟩ := nmap_mem.mp hx
    obtain ⟨h2, m, h3, h4⟩ := inn_mem.mp h1
    rw [hl] at h3
    rw [← Option.some.inj h3] at h4
    exact ⟨h4, mem_nmap.mpr h2⟩
theorem filter_snoc {p : Int → Bool} {l : List Int} {i : Nat} {t : Int} (h : l[i]? = some t) : (l.take (i + 1)).filter p = (l.take i).filter p ++ if p t = true then [t] else [] := by
  rw [List.take_add_one, h, List.filter_append]
  congr 1
  show List.filter p [t] = _
  cases e : p t with
  | true => rw [List.filter_cons_of_pos e, if_pos rfl]; rfl
  | false => rw [List.filter_cons_of_neg (by rw [e]; decide), if_neg (by decide)]; rfl
theorem ok_internal (T : Txt K mg) : Good P w K mg base 2 (He.ga K "internal") ["graph", "nodes", "node"] [] (sp_internal K) := by
  refine good_of T.f_internal sc_internal (fun vs H Q E h => ?_) (fun _ _ _ _ _ _ us hl => match us, hl with | [_, _, _], _ => rfl) (fun cdv A outer s H vs Q E hr h => ?_)
  · obtain ⟨_, _, _, _, _, rfl, _⟩ := h
    rfl
  refine ⟨_, (pss_one (ps_ret (pe_cg (ok_distinct T) (hr.mono (j := 1) (by decide)) (by rfl) T.g_distinct (pa_cons (pe_lc (own := [("target", 3)]) (g := (gName 3)) rfl sc_internal.nd (pi_tup (pe_mtg (pv 0) T.cl_Graph T.me_Graph_successors (ok_Graph_successors T) (hr.mono (j := 1) (by decide)) (pa_cons (pv 2) pa_nil))) (blkOk_by (own := [("target", 3)]) (N := ["graph", "nodes", "node", "target"]) (sc := defScope s_internal) (by decide +kernel)) (fun _ _ _ _ _ => (pg_name (i := 3) sc_internal.nd rfl (Or.inl rfl))) (fun _ _ _ _ _ => (pts_one (pt_cmpR (op_in_seqE (K := K) rfl) (pv 3) (pv 1) (by rfl)))) (fun _ _ _ _ _ => (pv 3))) pa_nil)))), ?_⟩
  obtain ⟨g, a, rs, P, v, rfl, hG, hA, hP, hv, h4, q⟩ := h
  obtain ⟨dx, ra, h1, h2, hrw⟩ := id hG
  have hq : rs[v]? = some rs[v] := List.getElem?_eq_getElem hv
  obtain ⟨qr, eq⟩ : ∃ qr, qr = rs[v] := ⟨_, rfl⟩
  rw [← eq] at hq
  obtain ⟨t1, t2⟩ := hrw qr (List.mem_of_getElem? hq)
  have hlq := h4 _ (List.mem_of_getElem? (get_sxr hq))
  refine ⟨_, rfl, g, dx, _, rfl, h1, rfl, _, rfl, g, rs, v, qr, rfl, hG, hq, qr.2.1, rfl, ⟨_, SqT.of t2⟩, fun D hD => lc_tup (K := K) (a := qr.2.1) (xs := qr.2.2.2.2.map V.int) (fun i H3 => Same H H3 ∧ H3 D = some (ilst ((qr.2.2.2.2.take i).filter fun t => decide (t ∈ nmap P)))) ⟨same_new hD, upd_same⟩ (fun i H3 _ h => SqT.of (h.1 _ _ t2)) ?_ ?_⟩
  · rintro i x H3 hi ⟨s3, h3⟩
    obtain ⟨t, ht, rfl⟩ := map_get hi
    have hfl := List.length_filter_le (fun t => decide (t ∈ nmap P)) (qr.2.2.2.2.take i)
    rw [List.length_take] at hfl
    rw [filter_snoc ht]
    refine ⟨rfl, _, rfl, _, rfl, a, _, rfl, .inl (s3.seq hA), rfl, flat_ints _, _, rfl, ?_⟩
    show if inV (.int t) ((nmap P).map V.int) = true then _ else _
    rw [inV_int]
    refine if2 (fun e => ?_) (fun e => ?_)
    · rw [decide_eq_true e, if_pos rfl]
      refine ⟨_, rfl, _, h3, small1000 (by rw [List.length_map]; omega), same_mut s3 hD, ?_⟩
      rw [upd_same]
      unfold ilst
      rw [List.map_append]
      rfl
    · rw [decide_eq_false e, if_neg (by decide), List.append_nil]
      exact ⟨s3, h3⟩
  rintro H3 ⟨s3, h3⟩
  rw [List.length_map, List.take_length] at h3
  have hfl := List.length_filter_le (fun t => decide (t ∈ nmap P)) qr.2.2.2.2
  refine ⟨D, _, rfl, SqL.of h3, by omega, fun H4 p ds s4 np hp srt mem => q H4 p (s3.trans s4) (s3.free np) ?_⟩
  rw [hp, inn_eq hP (get_sxr hq) srt mem]
theorem ok_kind_of (T : Txt K mg) : Good P w K mg base 3 (He.ga K "kind_of") ["graph", "nodes"] [] (sp_kind_of K) := by
  refine good_of T.f_kind_of sc_kind_of (fun vs H Q E h => ?_) (fun _ _ _ _ _ _ us hl => match us, hl with | [_, _], _ => rfl) (fun cdv A outer s H vs Q E hr h => ?_)
  · obtain ⟨_, _, _, _, rfl, _⟩ := h
    rfl
  refine ⟨_, (pss_cons (ps_set (i := 2) sc_kind_of.nd rfl (Or.inl rfl) (pe_callB (cr_max rfl) (by rfl) T.z_max (by decide +kernel) (pa_cons (pe_lc (own := [("node", 3)]) (g := (gName 3)) (tt := tYes) rfl sc_kind_of.nd (pi_list (pv 1)) (blkOk_by (own := [("node", 3)]) (N := ["graph", "nodes", "most", "node"]) (sc := defScope s_kind_of) (by decide +kernel)) (fun _ _ _ _ _ => (pg_name (i := 3) sc_kind_of.nd rfl (Or.inl rfl))) (fun _ _ _ _ _ => pts_nil) (fun _ _ _ _ _ => (pe_callB (call_lenE (K := K) rfl) (by rfl) T.z_len (by decide +kernel) (pa_cons (pe_cg (ok_internal T) (hr.mono (j := 2) (by decide)) (by rfl) T.g_internal (pa_cons (pv 0) (pa_cons (pv 1) (pa_cons (pv 3) pa_nil)))) pa_nil)))) pa_nil)))
  (pss_cons (ps_if (pt_cmpR op_eq (pv 2) pe_int (nomark _))
    (pss_one (ps_ret pe_str))
    pss_nil)
  (pss_cons (ps_if (pt_cmpR op_eq (pv 2) pe_int (nomark _))
    (pss_one (ps_ret pe_str))
    pss_nil)
  (pss_one (ps_ret pe_str))))), ?_⟩
  obtain ⟨g, a, rs, P, rfl, hG, hA, hP, hne, hl, hv, h4, q⟩ := h
  have hpl := List.length_pos_iff.mpr hne
  have hlen : ((nmap P).map V.int).length = P.length := by unfold nmap; rw [List.length_map, List.length_map]
  refine ⟨.ref a, rfl, a, rfl, ⟨_, hA⟩, fun D hD => lc_list (K := K) (a := a) (xs := (nmap P).map V.int) (fun i H3 => Same H H3 ∧ H3 D = some (ilst (nmap ((P.take i).map fun v => (inn (sxr rs) P v).length)))) ⟨same_new hD, upd_same⟩ (fun i H3 _ h => h.1.seq hA) ?_ ?_⟩
  · rintro i x H3 hi ⟨s3, h3⟩
    obtain ⟨v, hv2, rfl⟩ := nmap_ge hi
    have hvi := hv v (List.mem_of_getElem? hv2)
    refine ⟨rfl, yes_then ⟨_, rfl, _, rfl, _, rfl, g, a, rs, P, v, rfl, hG.same s3, s3.seq hA, hP, hvi, h4, fun H4 p s4 np hp => ⟨p, _, rfl, .inl (SqL.of hp), ?_⟩⟩⟩
    have h34 := s4 _ _ h3
    refine ⟨_, h34, small1000 (by unfold nmap; rw [List.length_map, List.length_map, List.length_map, List.length_take]; omega), same_mut (s3.trans s4) hD, ?_⟩
    rw [upd_same, List.take_add_one, hv2, List.map_append]
    unfold ilst nmap
    rw [List.map_append, List.map_append, List.length_map, List.length_map]
    rfl
  rintro H3 ⟨s3, h3⟩
  rw [hlen, List.take_length] at h3
  refine ⟨D, _, rfl, SqL.of h3, by unfold nmap; rw [List.length_map, List.length_map]; omega, fun m hm hle => ?_⟩
  have em : m = (knd (sxr rs) P : Int) := by
    obtain ⟨k, hk, rfl⟩ := nmap_mem.mp hm
    have : knd (sxr rs) P = k := mxN_eq hk fun y hy => by
      have := hle (y : Int) (mem_nmap.mpr hy)
      omega
    rw [this]
  rw [em]
  have q := q H3 s3
  unfold kindS at q
  refine ⟨_, rfl, rfl, _, rfl, if2 (fun e => ?_) (fun e => ⟨_, rfl, rfl, _, rfl, if2 (fun e2 => ?_) (fun e2 => ?_)⟩)⟩
  · have e := V.int.inj e
    rw [if_pos (by omega)] at q
    exact q
  · have e2 := V.int.inj e2
    rw [if_neg (by omega), if_pos (by omega)] at q
    exact q
  · rw [if_neg (fun h => e (congrArg V.int (by omega))), if_neg (fun h => e2 (congrArg V.int (by omega)))] at q
    exact q
end
end K62

namespace K62
open PySem PySem.Spec PyProof.Rows L2 Fw Lay
section
variable {P : Program} {w : World} {K : PySem.W.Frag} {mg : Str → Option Value} {base : Heap}
theorem cls_len (g : Nx) (v : Nat) : (cls g v).length ≤ g.length := by
  unfold cls
  have := List.length_filter_le (fun u => @decide (Mt g v u) (Classical.propDecidable _)) (List.range g.length)
  rw [List.length_range] at this
  exact this
theorem ws_cls {ws : Ws} {g : Nx} {bs : List Nat} {i : Nat} {z : Addr × List Int} (e : ws.map (·.2) = bs.map (fun b => nmap (cls g b))) (hz : ws[i]? = some z) : ∃ b, bs[i]? = some b ∧ z.2 = nmap (cls g b) := by
  have h := congrArg (fun l => l[i]?) e
  simp only [List.getElem?_map] at h
  rw [hz] at h
  cases hb : bs[i]? with
  | none =>
    rw [hb] at h
    cases h
  | some b =>
    rw [hb] at h
    exact ⟨b, rfl, Option.some.inj h⟩
theorem ws_len {ws : Ws} {g : Nx} {bs : List Nat} (e : ws.map (·.2) = bs.map (fun b => nmap (cls g b))) : ws.length = bs.length := by
  have := congrArg List.length e
  rw [List.length_map, List.length_map] at this
  exact this
theorem cov_len {g : Nx} {bs : List Nat} (h : Cover g bs) : bs.length ≤ g.length := by
  have := sub_len (l := bs) (m := List.range g.length) (h.pw.imp fun {a b} hn e => hn (by rw [e]; exact .refl _)) fun b hb => List.mem_range.mpr (h.lt b hb)
  rw [List.length_range] at this
  exact this
theorem ok_kinds (T : Txt K mg) : Good P w K mg base 5 (He.ga K "kinds") ["graph"] [] (sp_kinds K) := by
  refine good_of T.f_kinds sc_kinds (fun vs H Q E h => ?_) (fun _ _ _ _ _ _ us hl => match us, hl with | [_], _ => rfl) (fun cdv A outer s H vs Q E hr h => ?_)
  · obtain ⟨_, _, rfl, _⟩ := h
    rfl
  refine ⟨_, (pss_one (ps_ret (pe_lc (own := [("nodes", 1)]) (g := (gName 1)) (tt := tYes) rfl sc_kinds.nd (pi_list (pe_cg (ok_components T) (hr.mono (j := 4) (by decide)) (by rfl) T.g_components (pa_cons (pv 0) pa_nil))) (blkOk_by (own := [("nodes", 1)]) (N := ["graph", "nodes"]) (sc := defScope s_kinds) (by decide +kernel)) (fun _ _ _ _ _ => (pg_name (i := 1) sc_kinds.nd rfl (Or.inl rfl))) (fun _ _ _ _ _ => pts_nil) (fun _ _ _ _ _ => (pe_cg (ok_kind_of T) (hr.mono (j := 3) (by decide)) (by rfl) T.g_kind_of (pa_cons (pv 0) (pa_cons (pv 1) pa_nil))))))), ?_⟩
  obtain ⟨g, rs, rfl, hG, hok, hl, q⟩ := h
  have hgl := sxr_len rs
  refine ⟨_, rfl, g, rs, rfl, hG, hok, hl, fun H1 a ws bs s1 na ha ews hC hws => ?_⟩
  have hbl := cov_len hC.cov
  refine ⟨a, rfl, ⟨_, SqL.of ha⟩, fun D hD => lc_list (K := K) (a := a) (xs := refL ws) (fun i H3 => Same H1 H3 ∧ H3 D = some (.lst ((bs.take i).map fun b => V.str (kindS (knd (sxr rs) (cls (sxr rs) b)))))) ⟨same_new hD, upd_same⟩ (fun i H3 _ h => SqL.of (h.1 _ _ ha)) ?_ ?_⟩
  · rintro i x H3 hi ⟨s3, h3⟩
    obtain ⟨z, hz, hzm, rfl⟩ := refL_get hi
    obtain ⟨b, hb, ez⟩ := ws_cls ews hz
    have hbm := List.mem_of_getElem? hb
    have hcl := ClP.cls (hC.cov.lt b hbm)
    have hcln := cls_len (sxr rs) b
    have hz3 := s3 _ _ (hws z hzm).2.2
    rw [ez] at hz3
    refine ⟨rfl, yes_then ⟨_, rfl, _, rfl, g, z.1, rs, cls (sxr rs) b, rfl, hG.same (s1.trans s3), SqL.of hz3, hcl.asc, hcl.ne, by omega, fun v hv => by have := hcl.lt v hv; omega, fun l hl => (hok.g.rows l hl).2.1, fun H4 s4 => ⟨_, s4 _ _ h3, small1000 (by rw [List.length_map, List.length_take]; omega), same_mut (s3.trans s4) hD, ?_⟩⟩⟩
    rw [upd_same, List.take_add_one, hb, List.map_append]
    rfl
  rintro H3 ⟨s3, h3⟩
  have e : (refL ws).length = bs.length := by unfold refL; rw [List.length_map, ws_len ews]
  rw [e, List.take_length] at h3
  refine q H3 D bs (s1.trans s3) (s1.free hD) h3 hC
theorem ok_component_of (T : Txt K mg) : Good P w K mg base 5 (He.ga K "component_of") ["graph"] [] (sp_component_of K) := by
  refine good_of T.f_component_of sc_component_of (fun vs H Q E h => ?_) (fun _ _ _ _ _ _ us hl => match us, hl with | [_], _ => rfl) (fun cdv A outer s H vs Q E hr h => ?_)
  · obtain ⟨_, _, rfl, _⟩ := h
    rfl
  refine ⟨_, (pss_cons (ps_set (i := 1) sc_component_of.nd rfl (Or.inl rfl) (pe_op op_rep (pe_lst (pa_cons pe_int pa_nil)) (pe_fld (pv 0) rfl)))
  (pss_cons (ps_set (i := 2) sc_component_of.nd rfl (Or.inl rfl) (pe_cg (ok_components T) (hr.mono (j := 4) (by decide)) (by rfl) T.g_components (pa_cons (pv 0) pa_nil)))
  (pss_cons (ps_for PassesOwn.never rfl (pi_range1 (by rfl) T.z_range (pa_cons (pe_callB call_len_seq (by rfl) T.z_len (by decide +kernel) (pa_cons (pv 2) pa_nil)) pa_nil)) (pg_name (i := 3) sc_component_of.nd rfl (Or.inl rfl))
    (pss_one (ps_for PassesOwn.never rfl (pi_list (pe_ix ix_list (pv 2) (pv 3) (fun _ _ => rfl))) (pg_name (i := 4) sc_component_of.nd rfl (Or.inl rfl))
    (pss_one (ps_asg (pv 3) (pg_sub (pv 1) (pv 4) set_list))))))
  (pss_one (ps_ret (pv 1)))))), ?_⟩
  obtain ⟨g, rs, rfl, hG, hok, hl, q⟩ := h
  obtain ⟨dx, ra, h1, h2, hrw⟩ := id hG
  have hgl := sxr_len rs
  refine ⟨(by show 1 ≤ sizeLine; decide), fun o no => ?_⟩
  have s3 := same_new (o := .lst [.int 0]) no
  refine ⟨_, rfl, g, _, dx, _, _, rfl, s3 _ _ h1, T.cl_Graph, T.na_Graph_size, rfl, o, _, _, rfl, rfl, upd_same, by omega, by omega, ?_, fun p np => ?_⟩
  · exact Nat.le_trans (show 1 * (rs.length : Int).toNat ≤ 1000 by omega) (by decide)
  have e1 : (List.replicate (rs.length : Int).toNat [V.int 0]).flatten = (List.replicate rs.length 0).map V.int := by
    rw [List.flatten_replicate_singleton, Int.toNat_natCast, List.map_replicate]
  dsimp only
  rw [e1]
  have s4 := s3.trans (same_new (o := .lst ((List.replicate rs.length 0).map V.int)) np)
  have npH : H p = none := s3.free np
  have hp4 : upd (upd H o (.lst [.int 0])) p (.lst ((List.replicate rs.length 0).map V.int)) p = some (ilst (List.replicate rs.length 0)) := upd_same
  clear s3 no
  generalize upd (upd H o (.lst [.int 0])) p (.lst ((List.replicate rs.length 0).map V.int)) = H4 at s4 hp4 ⊢
  refine ⟨_, rfl, g, rs, rfl, hG.same s4, hok, hl, fun H5 a ws bs s5 na ha ews hC hws => ?_⟩
  have s05 := s4.trans s5
  have hp5 := s5 _ _ hp4
  have hap : a ≠ p := (ne_of_none hp4 na).symm
  have hwl := ws_len ews
  have hbl := cov_len hC.cov
  have erl : (refL ws).length = ws.length := by unfold refL; rw [List.length_map]
  refine ⟨_, rfl, a, _, rfl, .inl (SqL.of ha), ((refL ws).length : Nat), rfl, by omega, by omega, for_range (n := (refL ws).length) (fun i σ H6 => But p H5 H6 ∧ ∃ ds, H6 p = some (ilst ds) ∧ ds.length = rs.length ∧ (∀ (j b v : Nat), j < i → bs[j]? = some b → v < rs.length → Mt (sxr rs) b v → ds[v]? = some (j : Int)) ∧ ∃ y3 y4, σ = [some (.ref g), some (.ref p), some (.ref a), y3, y4])
    ⟨But.refl, _, hp5, List.length_replicate .., fun j b v hj => absurd hj (Nat.not_lt_zero _), none, none, rfl⟩ ?_ ?_⟩
  · rintro i σ H6 hi ⟨b6, ds, hp6, hdl, hds, y3, y4, rfl⟩
    rw [erl] at hi
    have hz : ws[i]? = some ws[i] := List.getElem?_eq_getElem hi
    have hzm := List.getElem_mem hi
    generalize ws[i] = z at hz hzm
    obtain ⟨b, hb, ez⟩ := ws_cls ews hz
    obtain ⟨nz, nza, hz5⟩ := hws z hzm
    have hzp : z.1 ≠ p := (ne_of_none hp4 nz).symm
    rw [ez] at hz5
    refine ⟨_, rfl, _, rfl, a, _, _, _, rfl, rfl, SqL.of (b6 _ _ hap ha), atI0 (get_refL hz), z.1, rfl, ⟨_, SqL.of (b6 _ _ hzp hz5)⟩, for_list (K := K) (a := z.1) (xs := (nmap (cls (sxr rs) b)).map V.int) (fun i2 σ H7 => But p H5 H7 ∧ ∃ ds, H7 p = some (ilst ds) ∧ ds.length = rs.length ∧ (∀ (j b v : Nat), j < i → bs[j]? = some b → v < rs.length → Mt (sxr rs) b v → ds[v]? = some (j : Int)) ∧ (∀ v ∈ (cls (sxr rs) b).take i2, ds[v]? = some (i : Int)) ∧ ∃ y4, σ = [some (.ref g), some (.ref p), some (.ref a), some (.int (0 + (i : Int))), y4])
      ⟨b6, ds, hp6, hdl, hds, fun v hv => (nomatch hv), _, rfl⟩ (fun i2 σ H7 _ h => SqL.of (h.1 _ _ hzp hz5)) ?_ ?_⟩
    · rintro i2 x σ H7 hi2 ⟨b7, ds, hp7, hdl, hds, hds2, y4, rfl⟩
      obtain ⟨v, hv, rfl⟩ := nmap_ge hi2
      have hvc := cls_mem.mp (List.mem_of_getElem? hv)
      have hvl : v < rs.length := by omega
      refine ⟨_, rfl, _, rfl, _, rfl, p, _, _, v, rfl, rfl, hp7, ixN_nat (by rw [List.length_map]; omega), b7.own, ds.set v (i : Int), ?_, by rw [List.length_set]; exact hdl, fun j c u hj hc hu hm => ?_, fun u hu => ?_, _, rfl⟩
      · rw [upd_same]
        unfold ilst
        rw [List.map_set, Int.zero_add]
      · rw [List.getElem?_set, if_neg]
        · exact hds j c u hj hc hu hm
        · rintro rfl
          have hp := List.pairwise_iff_getElem.mp hC.cov.pw j i (List.getElem?_eq_some_iff.mp hc).1 (List.getElem?_eq_some_iff.mp hb).1 hj
          rw [(List.getElem?_eq_some_iff.mp hc).2, (List.getElem?_eq_some_iff.mp hb).2] at hp
          exact hp (hm.trans hvc.2.symm)
      · rw [List.getElem?_set]
        by_cases e : v = u
        · rw [if_pos e, if_pos (by omega)]
        · rw [if_neg e]
          rw [List.take_add_one, hv] at hu
          rcases List.mem_append.mp hu with hu | hu
          · exact hds2 u hu
          · exact absurd (List.mem_singleton.mp hu).symm e
    · rintro σ H7 ⟨b7, ds, hp7, hdl, hds, hds2, y4, rfl⟩
      have e : ((nmap (cls (sxr rs) b)).map V.int).length = (cls (sxr rs) b).length := by unfold nmap; rw [List.length_map, List.length_map]
      rw [e, List.take_length] at hds2
      refine ⟨b7, ds, hp7, hdl, fun j c v hj hc hv hm => ?_, _, _, rfl⟩
      by_cases e : j < i
      · exact hds j c v e hc hv hm
      · have e : j = i := by omega
        subst e
        rw [hb] at hc
        rw [← Option.some.inj hc] at hm
        exact hds2 v (cls_mem.mpr ⟨by omega, hm⟩)
  · rintro σ H6 ⟨b6, ds, hp6, hdl, hds, y3, y4, rfl⟩
    refine ⟨_, rfl, q H6 p bs ds (fun z o e => b6 z o (ne_of_none e npH) (s05 _ _ e)) npH hp6 hC ⟨by omega, fun j b v hj hv hm => hds j b v ?_ hj (by omega) hm⟩⟩
    have := (List.getElem?_eq_some_iff.mp hj).1
    omega
theorem CoOk.iff {g : Nx} {bs : List Nat} {ds : List Int} (hC : Cover g bs) (h : CoOk g bs ds) {u v : Nat} (hu : u < g.length) (hv : v < g.length) : ∃ i j : Nat, ds[u]? = some (i : Int) ∧ ds[v]? = some (j : Int) ∧ (i = j ↔ Mt g u v) := by
  obtain ⟨b, hb, hm⟩ := hC.all u hu
  obtain ⟨c, hc, hn⟩ := hC.all v hv
  obtain ⟨i, hi, e1⟩ := List.mem_iff_getElem.mp hb
  obtain ⟨j, hj, e2⟩ := List.mem_iff_getElem.mp hc
  refine ⟨i, j, h.2 i b u (by rw [List.getElem?_eq_getElem hi, e1]) hu hm, h.2 j c v (by rw [List.getElem?_eq_getElem hj, e2]) hv hn, fun e => ?_, fun e => ?_⟩
  · subst e
    have : b = c := by rw [← e1, ← e2]
    rw [this] at hm
    exact hm.symm.trans hn
  · have hbc : Mt g b c := hm.trans (e.trans hn.symm)
    rcases Nat.lt_trichotomy i j with h3 | h3 | h3
    · have := List.pairwise_iff_getElem.mp hC.pw i j hi hj h3
      rw [e1, e2] at this
      exact absurd hbc this
    · exact h3
    · have := List.pairwise_iff_getElem.mp hC.pw j i hj hi h3
      rw [e1, e2] at this
      exact absurd hbc.symm this
theorem ok_entered_nodes (T : Txt K mg) : Good P w K mg base 6 (He.ga K "entered_nodes") ["graph"] [] (sp_entered_nodes K) := by
  refine good_of T.f_entered_nodes sc_entered_nodes (fun vs H Q E h => ?_) (fun _ _ _ _ _ _ us hl => match us, hl with | [_], _ => rfl) (fun cdv A outer s H vs Q E hr h => ?_)
  · obtain ⟨_, _, rfl, _⟩ := h
    rfl
  refine ⟨_, (pss_cons (ps_set (i := 1) sc_entered_nodes.nd rfl (Or.inl rfl) (pe_cg (ok_component_of T) (hr.mono (j := 5) (by decide)) (by rfl) T.g_component_of (pa_cons (pv 0) pa_nil)))
  (pss_cons (ps_set (i := 2) sc_entered_nodes.nd rfl (Or.inl rfl) (pe_op op_rep (pe_lst (pa_cons pe_bl pa_nil)) (pe_fld (pv 0) rfl)))
  (pss_cons (ps_asg pe_bl (pg_sub (pv 2) pe_int set_list))
  (pss_cons (ps_for PassesOwn.never rfl (pi_range1 (by rfl) T.z_range (pa_cons (pe_fld (pv 0) rfl) pa_nil)) (pg_name (i := 3) sc_entered_nodes.nd rfl (Or.inl rfl))
    (pss_one (ps_for PassesOwn.never rfl (pi_tup (pe_mtg (pv 0) T.cl_Graph T.me_Graph_successors (ok_Graph_successors T) (hr.mono (j := 1) (by decide)) (pa_cons (pv 3) pa_nil))) (pg_name (i := 4) sc_entered_nodes.nd rfl (Or.inl rfl))
    (pss_one (ps_if (pw_and (pt_cmpR op_ne (pv 4) (pe_glob (v := .int (-1)) (by rfl) T.k_END.choose_spec ⟨_, rfl⟩) (nomark _)) (pw_and1 (pt_cmpR op_ne (pe_ix ix_list (pv 1) (pv 4) (fun _ _ => rfl)) (pe_ix ix_list (pv 1) (pv 3) (fun _ _ => rfl)) (nomark _)))).pt
    (pss_one (ps_asg pe_bl (pg_sub (pv 2) (pv 4) set_list)))
    pss_nil)))))
  (pss_one (ps_ret (pv 2))))))), ?_⟩
  obtain ⟨g, rs, rfl, hG, hok, hl, q⟩ := h
  obtain ⟨dx, ra, h1, h2, hrw⟩ := id hG
  have hgl := sxr_len rs
  have hpos : 0 < rs.length := by
    have := hok.g.pos
    omega
  refine ⟨_, rfl, g, rs, rfl, hG, hok, hl, fun H1 np0 bs ds s1 nn hds hC hCo => ?_⟩
  refine ⟨(by show 1 ≤ sizeLine; decide), fun o no => ?_⟩
  have s3 := same_new (o := .lst [.bl false]) no
  refine ⟨_, rfl, g, _, dx, _, _, rfl, s3 _ _ (s1 _ _ h1), T.cl_Graph, T.na_Graph_size, rfl, o, _, _, rfl, rfl, upd_same, by omega, by omega, ?_, fun p np => ?_⟩
  · exact Nat.le_trans (show 1 * (rs.length : Int).toNat ≤ 1000 by omega) (by decide)
  have e1 : (List.replicate (rs.length : Int).toNat [V.bl false]).flatten = (List.replicate rs.length false).map V.bl := by
    rw [List.flatten_replicate_singleton, Int.toNat_natCast, List.map_replicate]
  dsimp only
  rw [e1]
  have s4 := s3.trans (same_new (o := .lst ((List.replicate rs.length false).map V.bl)) np)
  have np1 : H1 p = none := s3.free np
  have npH : H p = none := s1.free np1
  have hp4 : upd (upd H1 o (.lst [.bl false])) p (.lst ((List.replicate rs.length false).map V.bl)) p = some (.lst ((List.replicate rs.length false).map V.bl)) := upd_same
  clear s3 no
  generalize upd (upd H1 o (.lst [.bl false])) p (.lst ((List.replicate rs.length false).map V.bl)) = H4 at s4 hp4 ⊢
  refine ⟨_, rfl, p, _, _, 0, rfl, rfl, hp4, ixN_nat (by rw [List.length_map, List.length_replicate]; exact hpos), ?_⟩
  have s14 : But p H1 H4 := fun z o _ e => s4 z o e
  have b5 := s14.own (o := .lst (((List.replicate rs.length false).map V.bl).set 0 (.bl true)))
  have hp5 : upd H4 p (.lst (((List.replicate rs.length false).map V.bl).set 0 (.bl true))) p = some (.lst (((List.replicate rs.length false).set 0 true).map V.bl)) := by
    rw [upd_same, List.map_set]
  generalize upd H4 p (.lst (((List.replicate rs.length false).map V.bl).set 0 (.bl true))) = H5 at b5 hp5 ⊢
  have hnp : ∀ {z : Addr} {o : HO}, H1 z = some o → z ≠ p := fun e => ne_of_none e np1
  have hf1 : ∀ {H6 : Hp}, But p H1 H6 → Same H H6 := fun {H6} b z o e => b z o (ne_of_none e npH) (s1 _ _ e)
  refine ⟨_, rfl, g, _, dx, _, _, rfl, hf1 b5 _ _ h1, T.cl_Graph, T.na_Graph_size, rfl, (rs.length : Nat), rfl, by omega, by omega, for_range (n := rs.length) (fun i σ H6 => But p H1 H6 ∧ ∃ es : List Bool, H6 p = some (.lst (es.map V.bl)) ∧ es.length = rs.length ∧ (∀ v : Nat, v < rs.length → ∃ c, es[v]? = some c ∧ (c = true ↔ v = 0 ∨ ∃ u, u < i ∧ Ed (sxr rs) u v ∧ ¬ Mt (sxr rs) u v)) ∧ ∃ y3 y4, σ = [some (.ref g), some (.ref np0), some (.ref p), y3, y4])
    ⟨b5, _, hp5, by rw [List.length_set, List.length_replicate], fun v hv => ?_, none, none, rfl⟩ ?_ ?_⟩
  · rw [List.getElem?_set, List.length_replicate]
    by_cases e : 0 = v
    · rw [if_pos e, if_pos hpos]
      exact ⟨true, rfl, fun _ => .inl e.symm, fun _ => rfl⟩
    · rw [if_neg e, List.getElem?_replicate, if_pos hv]
      exact ⟨false, rfl, fun h => (nomatch h), fun h => h.elim (fun h => absurd h.symm e) fun ⟨u, hu, _⟩ => absurd hu (Nat.not_lt_zero _)⟩
  · rintro i σ H6 hi ⟨b6, es, hp6, hel, hes, y3, y4, rfl⟩
    have hq : rs[i]? = some rs[i] := List.getElem?_eq_getElem hi
    have hqm := List.getElem_mem hi
    generalize rs[i] = qr at hq hqm
    have hlg := get_sxr hq
    obtain ⟨r1, r2, r3⟩ := hok.g.rows _ (List.mem_of_getElem? hlg)
    have ht2 := (hrw qr hqm).2
    have ei : (0 + (i : Int)) = (i : Int) := by omega
    refine ⟨_, rfl, g, dx, _, rfl, hf1 b6 _ _ h1, rfl, _, rfl, g, rs, i, qr, congrArg (fun z => [V.ref g, V.int z]) ei, hG.same (hf1 b6), hq, qr.2.1, rfl, ⟨_, SqT.of (hf1 b6 _ _ ht2)⟩, for_it (walk_tup (K := K) (a := qr.2.1) (xs := qr.2.2.2.2.map V.int)) (fun j σ H7 => But p H1 H7 ∧ ∃ es : List Bool, H7 p = some (.lst (es.map V.bl)) ∧ es.length = rs.length ∧ (∀ v : Nat, v < rs.length → ∃ c, es[v]? = some c ∧ (c = true ↔ v = 0 ∨ (∃ u, u < i ∧ Ed (sxr rs) u v ∧ ¬ Mt (sxr rs) u v) ∨ ((v : Int) ∈ qr.2.2.2.2.take j ∧ ¬ Mt (sxr rs) i v))) ∧ ∃ y4, σ = [some (.ref g), some (.ref np0), some (.ref p), some (.int (0 + (i : Int))), y4])
      ⟨b6, es, hp6, hel, fun v hv => ?_, _, rfl⟩ (fun j σ H7 _ h => SqT.of (hf1 h.1 _ _ ht2)) ?_ ?_⟩
    · obtain ⟨c, h3, h4⟩ := hes v hv
      refine ⟨c, h3, h4.trans ⟨fun h => h.imp id .inl, fun h => h.imp id fun h => h.elim id fun h => (nomatch h.1)⟩⟩
    · rintro j x σ H7 H8 hj ⟨b7, es, hp7, hel, hes, y4, rfl⟩ ⟨rfl, hx⟩
      obtain ⟨t, ht, rfl⟩ := map_get hx
      have htm := List.mem_of_getElem? ht
      have htk : qr.2.2.2.2.take (j + 1) = qr.2.2.2.2.take j ++ [t] := by
        rw [List.take_add_one, ht]
        rfl
      by_cases he : t = -1
      · refine ⟨_, rfl, rfl, _, rfl, ifNF (by rw [he]) ⟨b7, es, hp7, hel, fun v hv => ?_, _, rfl⟩⟩
        obtain ⟨c, h3, h4⟩ := hes v hv
        refine ⟨c, h3, h4.trans ⟨fun h => h.imp id (.imp id fun h => ⟨by rw [htk]; exact List.mem_append_left _ h.1, h.2⟩), fun h => h.imp id (.imp id fun h => ⟨?_, h.2⟩)⟩⟩
        have h5 := h.1
        rw [htk] at h5
        rcases List.mem_append.mp h5 with h5 | h5
        · exact h5
        · have := List.mem_singleton.mp h5
          omega
      · have hrg := (r3 t htm).resolve_left he
        obtain ⟨x, rfl⟩ : ∃ x : Nat, t = x := ⟨t.toNat, by omega⟩
        have hxl : x < rs.length := by omega
        obtain ⟨k1, k2, e1, e2, e3⟩ := hCo.iff hC.cov (u := x) (v := i) (by omega) (by omega)
        have hd7 := SqL.of (K := K) (b7 _ _ (hnp hds) hds)
        have hstep : ∀ v : Nat, (v : Int) ∈ qr.2.2.2.2.take (j + 1) ↔ (v : Int) ∈ qr.2.2.2.2.take j ∨ v = x := fun v => by
          rw [htk, List.mem_append, List.mem_singleton]
          exact ⟨fun h => h.imp id fun h => Int.ofNat.inj h, fun h => h.imp id fun h => by rw [h]⟩
        refine ⟨_, rfl, rfl, _, rfl, ifNT (int_ne he) ⟨_, rfl, _, rfl, np0, _, _, _, rfl, rfl, hd7, atI_nat (get_map e1), _, rfl, _, rfl, np0, _, _, _, rfl, rfl, hd7, atI0 (get_map e2), rfl, _, rfl, ?_⟩⟩
        by_cases hk : k1 = k2
        · refine ifNF (by rw [hk]) ⟨b7, es, hp7, hel, fun v hv => ?_, _, rfl⟩
          obtain ⟨c, h3, h4⟩ := hes v hv
          refine ⟨c, h3, h4.trans ⟨fun h => h.imp id (.imp id fun h => ⟨(hstep v).mpr (.inl h.1), h.2⟩), fun h => h.imp id (.imp id fun h => ⟨((hstep v).mp h.1).resolve_right fun h5 => ?_, h.2⟩)⟩⟩
          rw [h5] at h
          exact h.2 (e3.mp hk).symm
        · have hnm : ¬ Mt (sxr rs) i x := fun h => hk (e3.mpr h.symm)
          refine ifNT (int_ne fun h => hk (Int.ofNat.inj h)) ⟨_, rfl, _, rfl, p, _, _, x, rfl, rfl, hp7, ixN_nat (by rw [List.length_map, hel]; exact hxl), b7.own, es.set x true, by rw [upd_same, List.map_set], by rw [List.length_set]; exact hel, fun v hv => ?_, _, rfl⟩
          rw [List.getElem?_set]
          by_cases e5 : x = v
          · rw [if_pos e5, if_pos (by omega)]
            exact ⟨true, rfl, fun _ => .inr (.inr ⟨(hstep v).mpr (.inr e5.symm), by rw [← e5]; exact hnm⟩), fun _ => rfl⟩
          · rw [if_neg e5]
            obtain ⟨c, h3, h4⟩ := hes v hv
            exact ⟨c, h3, h4.trans ⟨fun h => h.imp id (.imp id fun h => ⟨(hstep v).mpr (.inl h.1), h.2⟩), fun h => h.imp id (.imp id fun h => ⟨((hstep v).mp h.1).resolve_right fun h5 => e5 h5.symm, h.2⟩)⟩⟩
    · rintro σ H7 ⟨b7, es, hp7, hel, hes, y4, rfl⟩
      rw [List.length_map, List.take_length] at hes
      refine ⟨b7, es, hp7, hel, fun v hv => ?_, _, _, rfl⟩
      obtain ⟨c, h3, h4⟩ := hes v hv
      refine ⟨c, h3, h4.trans ⟨fun h => h.imp id fun h => ?_, fun h => h.imp id fun ⟨u, h5, h6, h7⟩ => ?_⟩⟩
      · rcases h with ⟨u, h5, h6⟩ | ⟨h5, h6⟩
        · exact ⟨u, by omega, h6⟩
        · exact ⟨i, by omega, ⟨_, hlg, h5⟩, h6⟩
      · by_cases e : u = i
        · rw [e] at h6 h7
          obtain ⟨l, h8, h9⟩ := h6
          rw [hlg] at h8
          rw [← Option.some.inj h8] at h9
          exact .inr ⟨h9, h7⟩
        · exact .inl ⟨u, by omega, h6, h7⟩
  · rintro σ H6 ⟨b6, es, hp6, hel, hes, y3, y4, rfl⟩
    refine ⟨_, rfl, q H6 p es (hf1 b6) npH hp6 ⟨by omega, fun v hv => ?_⟩⟩
    obtain ⟨c, h3, h4⟩ := hes v (by omega)
    refine ⟨c, h3, h4.trans ⟨fun h => h.imp id fun ⟨u, _, h⟩ => ⟨u, h⟩, fun h => h.imp id fun ⟨u, h⟩ => ⟨u, ?_, h⟩⟩⟩
    have := ed_lt h.1
    omega
end
end K62

namespace K62
open PySem PySem.Spec PyProof.Rows L2 Fw Lay
section
variable {P : Program} {w : World} {K : PySem.W.Frag} {mg : Str → Option Value} {base : Heap}
theorem nmap_len (l : List Nat) : ((nmap l).map V.int).length = l.length := by unfold nmap; rw [List.length_map, List.length_map]
theorem nmap_g {l : List Nat} {i k : Nat} (h : l[i]? = some k) : ((nmap l).map V.int)[i]? = some (.int (k : Int)) := by
  unfold nmap
  rw [List.map_map, List.getElem?_map, h]
  rfl
theorem nmap_h {ls : List Nat} {i : Nat} {x : V} (h : ((nmap ls).map V.int)[i]? = some x) : ∃ k, ls[i]? = some k ∧ x = .int (k : Int) := by
  unfold nmap at h
  rw [List.map_map, List.getElem?_map] at h
  obtain ⟨k, h1, h2⟩ := Option.map_eq_some_iff.mp h
  exact ⟨k, h1, h2.symm⟩
theorem sumsL_get {pr : List Int} {j : Nat} (h : j ≤ pr.length) : ((sumsL pr).map V.int)[j]? = some (.int (pr.take j).sum) := by
  unfold sumsL
  rw [List.getElem?_map, List.getElem?_map, List.getElem?_range (by omega)]
  rfl
theorem ok_Ring_whole (T : Txt K mg) : Good P w K mg base 1 (He.ma K (He.ga K "Ring") "whole") ["self"] [] (sp_Ring_whole K) := by
  refine good_of T.f_Ring_whole sc_Ring_whole (fun vs H Q E h => ?_) (fun _ _ _ _ _ _ us hl => match us, hl with | [_], _ => rfl) (fun cdv A outer s H vs Q E hr h => ?_)
  · obtain ⟨_, _, _, _, rfl, _⟩ := h
    rfl
  refine ⟨_, (pss_one (ps_ret (pe_ix ix_tup (pe_fld (pv 0) rfl) (pe_fld (pv 0) rfl) (fun _ _ => rfl)))), ?_⟩
  obtain ⟨r, pr, D, A2, rfl, hR, q⟩ := h
  obtain ⟨dx, pa, da, na, sa, h1, h2, h3, h4, h5⟩ := hR
  have g := sumsL_get (Nat.le_refl pr.length)
  rw [List.take_length] at g
  refine ⟨_, rfl, r, _, dx, _, _, rfl, h1, T.cl_Ring, T.na_Ring_sums, rfl, ?_⟩
  refine ⟨_, rfl, r, _, dx, _, _, rfl, h1, T.cl_Ring, T.na_Ring_size, rfl, ?_⟩
  exact ⟨sa, _, _, _, rfl, rfl, SqT.of h5, atI_nat g, q⟩
theorem ok_Ring_far (T : Txt K mg) : Good P w K mg base 2 (He.ma K (He.ga K "Ring") "far") ["self", "first", "second"] [] (sp_Ring_far K) := by
  refine good_of T.f_Ring_far sc_Ring_far (fun vs H Q E h => ?_) (fun _ _ _ _ _ _ us hl => match us, hl with | [_, _, _], _ => rfl) (fun cdv A outer s H vs Q E hr h => ?_)
  · obtain ⟨_, _, _, _, _, _, rfl, _⟩ := h
    rfl
  refine ⟨_, (pss_cons (ps_if (pt_cmpR op_le (pv 1) (pv 2) (nomark _))
    (pss_one (ps_ret (pe_op op_sub (pe_ix ix_tup (pe_fld (pv 0) rfl) (pv 2) (fun _ _ => rfl)) (pe_ix ix_tup (pe_fld (pv 0) rfl) (pv 1) (fun _ _ => rfl)))))
    pss_nil)
  (pss_one (ps_ret (pe_op op_add (pe_op op_sub (pe_mtg0 (pv 0) T.cl_Ring T.me_Ring_whole (ok_Ring_whole T) (hr.mono (j := 1) (by decide))) (pe_ix ix_tup (pe_fld (pv 0) rfl) (pv 1) (fun _ _ => rfl))) (pe_ix ix_tup (pe_fld (pv 0) rfl) (pv 2) (fun _ _ => rfl)))))), ?_⟩
  obtain ⟨r, pr, D, A2, i, j, rfl, hR, hi, hj, q⟩ := h
  obtain ⟨dx, pa, da, na, sa, h1, h2, h3, h4, h5⟩ := id hR
  have gi := sumsL_get (pr := pr) (j := i) (by omega)
  have gj := sumsL_get (pr := pr) (j := j) (by omega)
  rw [cyc_far hi hj] at q
  refine ⟨_, rfl, _, rfl, _, _, rfl, rfl, _, rfl, if2 (fun e => ?_) (fun e => ?_)⟩
  · rw [if_pos (by omega)] at q
    exact ⟨_, rfl, r, _, dx, _, _, rfl, h1, T.cl_Ring, T.na_Ring_sums, rfl, _, rfl, sa, _, _, _, rfl, rfl, SqT.of h5, atI_nat gj, _, rfl, r, _, dx, _, _, rfl, h1, T.cl_Ring, T.na_Ring_sums, rfl, _, rfl, sa, _, _, _, rfl, rfl, SqT.of h5, atI_nat gi, _, _, rfl, rfl, q⟩
  · rw [if_neg (by omega)] at q
    exact ⟨_, rfl, r, dx, _, rfl, h1, rfl, r, pr, D, A2, rfl, hR, _, rfl, r, _, dx, _, _, rfl, h1, T.cl_Ring, T.na_Ring_sums, rfl, _, rfl, sa, _, _, _, rfl, rfl, SqT.of h5, atI_nat gi, _, _, rfl, rfl, _, rfl, r, _, dx, _, _, rfl, h1, T.cl_Ring, T.na_Ring_sums, rfl, _, rfl, sa, _, _, _, rfl, rfl, SqT.of h5, atI_nat gj, _, _, rfl, rfl, q⟩
theorem ok_Ring_chosen (T : Txt K mg) : Good P w K mg base 1 (He.ma K (He.ga K "Ring") "_chosen") ["self", "doors"] [] (sp_Ring_chosen K) := by
  refine good_of T.f_Ring_chosen sc_Ring_chosen (fun vs H Q E h => ?_) (fun _ _ _ _ _ _ us hl => match us, hl with | [_, _], _ => rfl) (fun cdv A outer s H vs Q E hr h => ?_)
  · obtain ⟨_, _, _, _, _, _, rfl, _⟩ := h
    rfl
  refine ⟨_, (pss_cons (ps_if (pt_cmpR op_isN (pv 1) pe_non (nomark _))
    (pss_one (ps_ret (pe_fld (pv 0) rfl)))
    pss_nil)
  (pss_one (ps_ret (pv 1)))), ?_⟩
  obtain ⟨r, x, pr, ds, A2, D, rfl, hR, hC, q⟩ := h
  obtain ⟨dx, pa, da, na, sa, h1, h2, h3, h4, h5⟩ := id hR
  rcases hC with ⟨rfl, rfl⟩ | ⟨b, rfl, hb⟩
  · exact ⟨_, rfl, rfl, _, rfl, iteT ⟨_, rfl, r, _, dx, _, _, rfl, h1, T.cl_Ring, T.na_Ring_doors, rfl, q da h3⟩⟩
  · exact ⟨_, rfl, rfl, _, rfl, iteF ⟨_, rfl, q b hb⟩⟩
theorem ok_check_ring (T : Txt K mg) : Good P w K mg base 1 (He.ga K "check_ring") ["prices", "doors", "nodes"] [] (sp_check_ring K) := by
  refine good_of T.f_check_ring sc_check_ring (fun vs H Q E h => ?_) (fun _ _ _ _ _ _ us hl => match us, hl with | [_, _, _], _ => rfl) (fun cdv A outer s H vs Q E hr h => ?_)
  · obtain ⟨_, _, _, _, _, _, rfl, _⟩ := h
    rfl
  refine ⟨_, (pss_cons (ps_if (pw_or (pt_cmpR op_eq (pe_callB call_len_seq (by rfl) T.z_len (by decide +kernel) (pa_cons (pv 0) pa_nil)) pe_int (nomark _)) (pw_or (pt_cmpR op_lt (pe_callB (cr_min rfl) (by rfl) T.z_min (by decide +kernel) (pa_cons (pv 0) pa_nil)) pe_int (nomark _)) (pw_or1 (pt_cmpR op_eq (pe_callB call_len_seq (by rfl) T.z_len (by decide +kernel) (pa_cons (pv 1) pa_nil)) pe_int (nomark _))))).pt
    (pss_one ps_never)
    pss_nil)
  (pss_cons (ps_set (i := 3) sc_check_ring.nd rfl (Or.inl rfl) (pe_un un_neg pe_int))
  (pss_cons (ps_for PassesOwn.never rfl (pi_list (pv 1)) (pg_name (i := 4) sc_check_ring.nd rfl (Or.inl rfl))
    (pss_cons (ps_if (pt_not (pt_chain op_lt op_lt (pv 3) (pv 4) (pe_callB call_len_seq (by rfl) T.z_len (by decide +kernel) (pa_cons (pv 0) pa_nil))))
    (pss_one ps_never)
    pss_nil)
  (pss_one (ps_set (i := 3) sc_check_ring.nd rfl (Or.inl rfl) (pv 4)))))
  (pss_one (ps_if (pw_and (pt_cmpR op_notN (pv 2) pe_non (nomark _)) (pw_and1 (pt_cmpR op_ne (pe_callB call_len_seq (by rfl) T.z_len (by decide +kernel) (pa_cons (pv 2) pa_nil)) (pe_callB call_len_seq (by rfl) T.z_len (by decide +kernel) (pa_cons (pv 0) pa_nil)) (nomark _)))).pt
    (pss_one ps_never)
    pss_nil))))), ?_⟩
  obtain ⟨a, b, c, pr, D, A2, rfl, hA, hB, hC, ⟨p0, p1, p2⟩, ⟨d0, d1, d2⟩, hDa, hAl, q⟩ := h
  refine ⟨.ref a, rfl, a, _, rfl, .inl hA, rfl, _, rfl, ifF (int_ne (by rw [List.length_map]; omega)) ?_⟩
  refine ⟨.ref a, rfl, a, pr, rfl, hA, p0, fun m hm hle => ⟨_, _, rfl, rfl, _, rfl, ifF (by have := p2 m hm; omega) ?_⟩⟩
  have d0l : D.length ≠ 0 := fun e => d0 (List.length_eq_zero_iff.mp e)
  refine ⟨.ref b, rfl, b, _, rfl, .inl hB, rfl, _, rfl, ifF (int_ne (by rw [nmap_len]; omega)) ?_⟩
  refine ⟨1, rfl, .ref b, rfl, b, rfl, ⟨_, hB⟩, for_list (K := K) (a := b) (xs := (nmap D).map V.int) (fun i σ H2 => H2 = H ∧ ∃ (bf : Int) (y : Option V), σ = [some (.ref a), some (.ref b), some (.ref c), some (.int bf), y] ∧ ∀ d, D[i]? = some d → bf < (d : Int))
    ⟨rfl, -1, none, rfl, fun d hd => by omega⟩ (fun i σ H2 _ hp => by rw [hp.1]; exact hB) ?_ ?_⟩
  · rintro i x σ H2 hi ⟨rfl, bf, y, rfl, hb⟩
    obtain ⟨d, hd, rfl⟩ := nmap_h hi
    have h1 := hb d hd
    have h2 := d2 d (List.mem_of_getElem? hd)
    refine ⟨_, rfl, _, rfl, _, _, rfl, rfl, true, congrArg V.bl (decide_eq_true h1), iteT ?_⟩
    refine ⟨.ref a, rfl, a, _, rfl, .inl hA, _, _, rfl, rfl, true, congrArg V.bl (decide_eq_true (by rw [List.length_map]; omega)), iteF ?_⟩
    refine ⟨_, rfl, rfl, d, some (.int d), rfl, fun e he => ?_⟩
    have hlt := List.pairwise_iff_getElem.mp hDa i (i + 1) (List.getElem?_eq_some_iff.mp hd).1 (List.getElem?_eq_some_iff.mp he).1 (Nat.lt_succ_self _)
    rw [(List.getElem?_eq_some_iff.mp hd).2, (List.getElem?_eq_some_iff.mp he).2] at hlt
    omega
  · rintro σ H2 ⟨rfl, bf, y, rfl, _⟩
    refine ⟨_, rfl, rfl, _, rfl, iteT ⟨.ref c, rfl, c, _, rfl, .inl hC, .ref a, rfl, a, _, rfl, .inl hA, rfl, _, rfl, ?_⟩⟩
    exact ifNF (by rw [nmap_len, List.length_map, hAl]) q
theorem ok_sums_of (T : Txt K mg) : Good P w K mg base 1 (He.ga K "sums_of") ["prices"] [] (sp_sums_of K) := by
  refine good_of T.f_sums_of sc_sums_of (fun vs H Q E h => ?_) (fun _ _ _ _ _ _ us hl => match us, hl with | [_], _ => rfl) (fun cdv A outer s H vs Q E hr h => ?_)
  · obtain ⟨_, _, rfl, _⟩ := h
    rfl
  refine ⟨_, (pss_cons (ps_set (i := 1) sc_sums_of.nd rfl (Or.inl rfl) (pe_lst (pa_cons pe_int pa_nil)))
  (pss_cons (ps_for PassesOwn.never rfl (pi_list (pv 0)) (pg_name (i := 2) sc_sums_of.nd rfl (Or.inl rfl))
    (pss_one (ps_expr (pe_bm PySem.F.plainAttrs_list PySem.F.slot_list_append PySem.F.type_list_append mt_append (pv 1) (pa_cons (pe_op op_add (pe_ix ix_list (pv 1) (pe_un un_neg pe_int) (fun _ _ => rfl)) (pv 2)) pa_nil)))))
  (pss_one (ps_ret (pe_callTy call_tuple_of (by rfl) T.z_tuple (by decide +kernel) (pa_cons (pv 1) pa_nil)))))), ?_⟩
  obtain ⟨a, pr, rfl, hS, hl, q⟩ := h
  refine ⟨by show 1 ≤ sizeLine; decide, fun l nl => ?_⟩
  have nal : ∀ b o, H b = some o → b ≠ l := fun b o e => ne_of_none e nl
  refine ⟨.ref a, rfl, a, rfl, ⟨_, (same_new nl).seq hS⟩, for_list (K := K) (a := a) (xs := pr.map V.int) (fun i σ H2 => Same H H2 ∧ H2 l = some (ilst ((List.range (i + 1)).map fun j => (pr.take j).sum)) ∧ ∃ y, σ = [some (.ref a), some (.ref l), y])
    ⟨same_new nl, upd_same, none, rfl⟩ (fun i σ H2 _ hp => hp.1.seq hS) ?_ ?_⟩
  · rintro i x σ H2 hi ⟨sm, hL, y, rfl⟩
    obtain ⟨d, hd, rfl⟩ := map_get hi
    have e1 : ((List.range (i + 1)).map fun j => (pr.take j).sum).map V.int = (((List.range i).map fun j => (pr.take j).sum).map V.int) ++ [V.int (pr.take i).sum] := by
      rw [List.range_succ, List.map_append, List.map_append]
      rfl
    have g : atI (((List.range (i + 1)).map fun j => (pr.take j).sum).map V.int) (-1) = some (.int (pr.take i).sum) := by
      rw [e1]
      exact atI_last _ _
    have hil : i < pr.length := (List.getElem?_eq_some_iff.mp hd).1
    refine ⟨.ref l, rfl, .inl ⟨rfl, _, SqL.of hL⟩, .ref l, rfl, 1, rfl, l, _, _, _, rfl, rfl, SqL.of hL, g, _, rfl, _, _, rfl, rfl, l, _, _, rfl, rfl, hL, ?_, ?_⟩
    · rw [List.length_map, List.length_map, List.length_range]
      exact small1000 (by omega)
    · refine ⟨same_mut sm nl, ?_, _, rfl⟩
      rw [upd_same]
      congr 2
      rw [List.range_succ (n := i + 1), List.map_append, List.map_append]
      congr 1
      show [V.int ((pr.take i).sum + d)] = [V.int (pr.take (i + 1)).sum]
      rw [sum_take hd]
  · rintro σ H2 ⟨sm, hL, y, rfl⟩
    rw [List.length_map] at hL
    exact ⟨.ref l, rfl, l, _, rfl, .inl ⟨SqL.of hL, fun p np => q _ p (sm.trans (same_new np)) (sm.free np) upd_same⟩⟩
theorem ok_Ring_init (T : Txt K mg) : GoodK P w K mg base 2 (He.ma K (He.ga K "Ring") "__init__") ["self", "prices", "doors", "nodes"] [.non] 3 ["nodes"] (sp_Ring_init K) := by
  refine good_kwK (kws := [("nodes", .non)]) (n := 3) T.f_Ring_init sc_Ring_init (fun vs H Q E h => ?_) (List.cons_ne_nil _ _) rfl (fun D doc pm an cdv ct us ks h1 h2 => match us, ks, h1, h2 with | [_, _, _], [_], _, _ => ⟨_, _, _, _, _, _, rfl, rfl, rfl⟩) ?kwb (fun cdv A outer s H vs Q E hr h => ?_)
  case kwb => exact fun kV doc pm an cdv ct us ws h1 h2 s => match us, ws, h1, h2 with | [_, _, _], [_], _, _ => .of_eq rfl
  · obtain ⟨_, _, _, _, _, _, _, _, rfl, _⟩ := h
    rfl
  refine ⟨_, (pss_cons (ps_expr (pe_cg (ok_check_ring T) (hr.mono (j := 1) (by decide)) (by rfl) T.g_check_ring (pa_cons (pv 1) (pa_cons (pv 2) (pa_cons (pv 3) pa_nil)))))
  (pss_cons (ps_fld (pv 0) (pe_callB call_len_seq (by rfl) T.z_len (by decide +kernel) (pa_cons (pv 1) pa_nil)) rfl)
  (pss_cons (ps_fld (pv 0) (pe_callTy call_tuple_of (by rfl) T.z_tuple (by decide +kernel) (pa_cons (pv 1) pa_nil)) rfl)
  (pss_cons (ps_fld (pv 0) (pe_callTy call_tuple_of (by rfl) T.z_tuple (by decide +kernel) (pa_cons (pv 2) pa_nil)) rfl)
  (pss_cons (ps_if (pt_cmpR op_isN (pv 3) pe_non (nomark _))
    (pss_one (ps_fld (pv 0) (pe_tupRg rfl (by rfl) T.z_tuple (prg_1 (by rfl) T.z_range (pe_callB call_len_seq (by rfl) T.z_len (by decide +kernel) (pa_cons (pv 1) pa_nil)))) rfl))
    (pss_one (ps_fld (pv 0) (pe_callTy call_tuple_of (by rfl) T.z_tuple (by decide +kernel) (pa_cons (pv 3) pa_nil)) rfl)))
  (pss_one (ps_fld (pv 0) (pe_cg (ok_sums_of T) (hr.mono (j := 1) (by decide)) (by rfl) T.g_sums_of (pa_cons (pv 1) pa_nil)) rfl))))))), ?_⟩
  obtain ⟨r, dx, a, b, c, pr, D, A2, rfl, hr0, hA, hB, hC, hP, hD, hDa, hAl, q⟩ := h
  have hl : pr.length ≤ 1000 := hP.2.1
  refine ⟨.ref a, rfl, .ref b, rfl, _, rfl, a, b, c, pr, D, A2, rfl, hA, hB, hC, hP, hD, hDa, hAl, ?_⟩
  -- size
  refine ⟨.ref a, rfl, a, _, rfl, .inl hA, _, rfl, r, _, dx, _, rfl, hr0, T.cl_Ring, T.na_Ring_size, by decide, ?_⟩
  have b1 : But r H (upd H r (.ins (He.ga K "Ring") dx (putF "size" (.int ((pr.map V.int).length : Int)) []))) := But.refl.own
  have f1 : upd H r (.ins (He.ga K "Ring") dx (putF "size" (.int ((pr.map V.int).length : Int)) [])) r = some (.ins (He.ga K "Ring") dx [("size", .int (pr.length : Int))]) := by
    rw [upd_same, putF_new _ _ _ rfl, List.length_map]
    rfl
  generalize upd H r (.ins (He.ga K "Ring") dx (putF "size" (.int ((pr.map V.int).length : Int)) [])) = H1 at b1 f1 ⊢
  -- prices
  refine ⟨.ref a, rfl, a, _, rfl, .inl ⟨b1.seq hr0 hA, fun t nt => ?_⟩⟩
  have rt : r ≠ t := ne_of_none f1 nt
  refine ⟨_, rfl, r, _, dx, _, rfl, (by rw [upd_ne rt]; exact f1), T.cl_Ring, T.na_Ring_prices, (by show 1 < 1000; decide), ?_⟩
  have b2 : But r H (upd (upd H1 t (.tup (pr.map V.int))) r (.ins (He.ga K "Ring") dx (putF "prices" (.ref t) [("size", .int (pr.length : Int))]))) := (b1.new nt).own
  have f2 : upd (upd H1 t (.tup (pr.map V.int))) r (.ins (He.ga K "Ring") dx (putF "prices" (.ref t) [("size", .int (pr.length : Int))])) r = some (.ins (He.ga K "Ring") dx [("size", .int (pr.length : Int)), ("prices", .ref t)]) := by
    rw [upd_same, putF_new _ _ _ rfl]
    rfl
  have p2 : upd (upd H1 t (.tup (pr.map V.int))) r (.ins (He.ga K "Ring") dx (putF "prices" (.ref t) [("size", .int (pr.length : Int))])) t = some (itup pr) := by
    rw [upd_ne rt.symm, upd_same]
  generalize upd (upd H1 t (.tup (pr.map V.int))) r (.ins (He.ga K "Ring") dx (putF "prices" (.ref t) [("size", .int (pr.length : Int))])) = H2 at b2 f2 p2 ⊢
  -- doors
  refine ⟨.ref b, rfl, b, _, rfl, .inl ⟨b2.seq hr0 hB, fun u nu => ?_⟩⟩
  have ru : r ≠ u := ne_of_none f2 nu
  refine ⟨_, rfl, r, _, dx, _, rfl, (by rw [upd_ne ru]; exact f2), T.cl_Ring, T.na_Ring_doors, (by show 2 < 1000; decide), ?_⟩
  have b3 : But r H (upd (upd H2 u (.tup ((nmap D).map V.int))) r (.ins (He.ga K "Ring") dx (putF "doors" (.ref u) [("size", .int (pr.length : Int)), ("prices", .ref t)]))) := (b2.new nu).own
  have f3 : upd (upd H2 u (.tup ((nmap D).map V.int))) r (.ins (He.ga K "Ring") dx (putF "doors" (.ref u) [("size", .int (pr.length : Int)), ("prices", .ref t)])) r = some (.ins (He.ga K "Ring") dx [("size", .int (pr.length : Int)), ("prices", .ref t), ("doors", .ref u)]) := by
    rw [upd_same, putF_new _ _ _ rfl]
    rfl
  have p3 : upd (upd H2 u (.tup ((nmap D).map V.int))) r (.ins (He.ga K "Ring") dx (putF "doors" (.ref u) [("size", .int (pr.length : Int)), ("prices", .ref t)])) t = some (itup pr) := by
    rw [upd_ne rt.symm, upd_ne (ne_of_none p2 nu)]
    exact p2
  have d3 : upd (upd H2 u (.tup ((nmap D).map V.int))) r (.ins (He.ga K "Ring") dx (putF "doors" (.ref u) [("size", .int (pr.length : Int)), ("prices", .ref t)])) u = some (itup (nmap D)) := by
    rw [upd_ne ru.symm, upd_same]
  generalize upd (upd H2 u (.tup ((nmap D).map V.int))) r (.ins (He.ga K "Ring") dx (putF "doors" (.ref u) [("size", .int (pr.length : Int)), ("prices", .ref t)])) = H3 at b3 f3 p3 d3 ⊢
  -- nodes
  refine ⟨_, rfl, rfl, _, rfl, iteF ?_⟩
  refine ⟨.ref c, rfl, c, _, rfl, .inl ⟨b3.seq hr0 hC, fun v nv => ?_⟩⟩
  have rv : r ≠ v := ne_of_none f3 nv
  refine ⟨_, rfl, r, _, dx, _, rfl, (by rw [upd_ne rv]; exact f3), T.cl_Ring, T.na_Ring_nodes, (by show 3 < 1000; decide), ?_⟩
  have b4 : But r H (upd (upd H3 v (.tup ((nmap A2).map V.int))) r (.ins (He.ga K "Ring") dx (putF "nodes" (.ref v) [("size", .int (pr.length : Int)), ("prices", .ref t), ("doors", .ref u)]))) := (b3.new nv).own
  have f4 : upd (upd H3 v (.tup ((nmap A2).map V.int))) r (.ins (He.ga K "Ring") dx (putF "nodes" (.ref v) [("size", .int (pr.length : Int)), ("prices", .ref t), ("doors", .ref u)])) r = some (.ins (He.ga K "Ring") dx [("size", .int (pr.length : Int)), ("prices", .ref t), ("doors", .ref u), ("nodes", .ref v)]) := by
    rw [upd_same, putF_new _ _ _ rfl]
    rfl
  have p4 : upd (upd H3 v (.tup ((nmap A2).map V.int))) r (.ins (He.ga K "Ring") dx (putF "nodes" (.ref v) [("size", .int (pr.length : Int)), ("prices", .ref t), ("doors", .ref u)])) t = some (itup pr) := by
    rw [upd_ne rt.symm, upd_ne (ne_of_none p3 nv)]
    exact p3
  have d4 : upd (upd H3 v (.tup ((nmap A2).map V.int))) r (.ins (He.ga K "Ring") dx (putF "nodes" (.ref v) [("size", .int (pr.length : Int)), ("prices", .ref t), ("doors", .ref u)])) u = some (itup (nmap D)) := by
    rw [upd_ne ru.symm, upd_ne (ne_of_none d3 nv)]
    exact d3
  have n4 : upd (upd H3 v (.tup ((nmap A2).map V.int))) r (.ins (He.ga K "Ring") dx (putF "nodes" (.ref v) [("size", .int (pr.length : Int)), ("prices", .ref t), ("doors", .ref u)])) v = some (itup (nmap A2)) := by
    rw [upd_ne rv.symm, upd_same]
  generalize upd (upd H3 v (.tup ((nmap A2).map V.int))) r (.ins (He.ga K "Ring") dx (putF "nodes" (.ref v) [("size", .int (pr.length : Int)), ("prices", .ref t), ("doors", .ref u)])) = H4 at b4 f4 p4 d4 n4 ⊢
  -- sums
  refine ⟨.ref a, rfl, a, pr, rfl, b4.seq hr0 hA, hl, fun H5 w2 s5 nw hw => ?_⟩
  have rw2 : r ≠ w2 := ne_of_none f4 nw
  refine ⟨_, rfl, r, _, dx, _, rfl, s5 _ _ f4, T.cl_Ring, T.na_Ring_sums, (by show 4 < 1000; decide), ?_⟩
  refine q _ (b4.then s5).own ⟨dx, t, u, v, w2, ?_, ?_, ?_, ?_, ?_⟩
  · rw [upd_same, putF_new _ _ _ rfl]
    rfl
  · rw [upd_ne rt.symm]
    exact s5 _ _ p4
  · rw [upd_ne ru.symm]
    exact s5 _ _ d4
  · rw [upd_ne rv.symm]
    exact s5 _ _ n4
  · rw [upd_ne rw2.symm]
    exact hw
theorem ok_Ring_gap (T : Txt K mg) : Good P w K mg base 3 (He.ma K (He.ga K "Ring") "_gap") ["self", "chosen", "place"] [] (sp_Ring_gap K) := by
  refine good_of T.f_Ring_gap sc_Ring_gap (fun vs H Q E h => ?_) (fun _ _ _ _ _ _ us hl => match us, hl with | [_, _, _], _ => rfl) (fun cdv A outer s H vs Q E hr h => ?_)
  · obtain ⟨_, _, _, _, _, _, _, rfl, _⟩ := h
    rfl
  refine ⟨_, (pss_cons (ps_if (pt_cmpR op_eq (pe_callB call_len_seq (by rfl) T.z_len (by decide +kernel) (pa_cons (pv 1) pa_nil)) pe_int (nomark _))
    (pss_one (ps_ret (pe_mtg0 (pv 0) T.cl_Ring T.me_Ring_whole (ok_Ring_whole T) (hr.mono (j := 1) (by decide)))))
    pss_nil)
  (pss_one (ps_ret (pe_mtg (pv 0) T.cl_Ring T.me_Ring_far (ok_Ring_far T) (hr.mono (j := 2) (by decide)) (pa_cons (pe_ix ix_tup (pv 1) (pv 2) (fun _ _ => rfl)) (pa_cons (pe_ix ix_tup (pv 1) (pe_op op_mod (pe_op op_add (pv 2) pe_int) (pe_callB call_len_seq (by rfl) T.z_len (by decide +kernel) (pa_cons (pv 1) pa_nil))) (fun _ _ => rfl)) pa_nil)))))), ?_⟩
  obtain ⟨r, b, pr, ds, A2, D, k, rfl, hR, hb, ⟨d0, dl, d1⟩, hk, q⟩ := h
  obtain ⟨dx, pa, da, na, sa, h1, h2, h3, h4, h5⟩ := id hR
  have hb2 : SqT K H b ((nmap D).map V.int) := SqT.of hb
  unfold gapP at q
  refine ⟨.ref b, rfl, b, _, rfl, .inr hb2, rfl, _, rfl, if2 (fun e => ?_) (fun e => ?_)⟩
  · have e := V.int.inj e
    rw [nmap_len] at e
    rw [if_pos (by omega)] at q
    exact ⟨_, rfl, r, dx, _, rfl, h1, rfl, r, pr, ds, A2, rfl, hR, q⟩
  · have e : D.length ≠ 1 := fun e2 => e (by rw [nmap_len, e2]; rfl)
    rw [if_neg e] at q
    have hk1 : (k + 1) % D.length < D.length := Nat.mod_lt _ (by omega)
    have g1 : D[k]? = some D[k] := List.getElem?_eq_getElem hk
    have g2 : D[(k + 1) % D.length]? = some D[(k + 1) % D.length] := List.getElem?_eq_getElem hk1
    have m1 := d1 _ (List.mem_of_getElem? g1)
    have m2 := d1 _ (List.mem_of_getElem? g2)
    rw [List.getD_eq_getElem?_getD, List.getD_eq_getElem?_getD, g1, g2] at q
    have ek : ((k : Int) + 1) % (((nmap D).map V.int).length : Int) = (((k + 1) % D.length : Nat) : Int) := by
      rw [nmap_len]
      exact (Int.natCast_emod (k + 1) D.length).symm
    refine ⟨_, rfl, r, dx, _, rfl, h1, rfl, _, rfl, _, rfl, b, _, _, _, rfl, rfl, hb2, atI_nat (nmap_g g1), _, rfl, _, rfl, _, _, rfl, rfl, .ref b, rfl, b, _, rfl, .inr hb2, _, _, rfl, rfl, by rw [nmap_len]; omega, ?_⟩
    refine ⟨b, _, _, _, rfl, rfl, hb2, ?_, r, pr, ds, A2, _, _, rfl, hR, m1, m2, q⟩
    rw [ek]
    exact atI_nat (nmap_g g2)
theorem ok_Ring_greatest_gap (T : Txt K mg) : GoodK P w K mg base 4 (He.ma K (He.ga K "Ring") "greatest_gap") ["self", "doors"] [.non] 1 ["doors"] (sp_Ring_greatest_gap K) := by
  refine good_kwK (kws := [("doors", .non)]) (n := 1) T.f_Ring_greatest_gap sc_Ring_greatest_gap (fun vs H Q E h => ?_) (List.cons_ne_nil _ _) rfl (fun D doc pm an cdv ct us ks h1 h2 => match us, ks, h1, h2 with | [_], [_], _, _ => ⟨_, _, _, _, _, _, rfl, rfl, rfl⟩) ?kwb (fun cdv A outer s H vs Q E hr h => ?_)
  case kwb => exact fun kV doc pm an cdv ct us ws h1 h2 s => match us, ws, h1, h2 with | [_], [_], _, _ => .of_eq rfl
  · obtain ⟨_, _, _, _, _, _, rfl, _⟩ := h
    rfl
  refine ⟨_, (pss_cons (ps_set (i := 2) sc_Ring_greatest_gap.nd rfl (Or.inr rfl) (pe_mtg (pv 0) T.cl_Ring T.me_Ring_chosen (ok_Ring_chosen T) (hr.mono (j := 1) (by decide)) (pa_cons (pv 1) pa_nil)))
  (pss_one (ps_ret (pe_callB (cr_max rfl) (by rfl) T.z_max (by decide +kernel) (pa_cons (pe_lc (own := [("place", 3)]) (g := (gName 3)) (tt := tYes) rfl sc_Ring_greatest_gap.nd (pi_range1 (by rfl) T.z_range (pa_cons (pe_callB call_len_seq (by rfl) T.z_len (by decide +kernel) (pa_cons (pv 2) pa_nil)) pa_nil)) (blkOk_by (own := [("place", 3)]) (N := ["self", "doors", "chosen", "place"]) (sc := defScope s_Ring_greatest_gap) (by decide +kernel)) (fun _ _ _ _ _ => (pg_name (i := 3) sc_Ring_greatest_gap.nd rfl (Or.inl rfl))) (fun _ _ _ _ _ => pts_nil) (fun _ _ _ _ _ => (pe_mtg (pv 0) T.cl_Ring T.me_Ring_gap (ok_Ring_gap T) (hr.mono (j := 3) (by decide)) (pa_cons (pv 2) (pa_cons (pv 3) pa_nil))))) pa_nil))))), ?_⟩
  obtain ⟨r, x, pr, ds, A2, D, rfl, hR, hC, hD, q⟩ := h
  obtain ⟨dx, pa, da, na, sa, h1, h2, h3, h4, h5⟩ := id hR
  have d0l : D.length ≠ 0 := fun e => hD.1 (List.length_eq_zero_iff.mp e)
  have hdl := hD.2.1
  refine ⟨_, rfl, r, dx, _, rfl, h1, rfl, _, rfl, r, x, pr, ds, A2, D, rfl, hR, hC, fun b hb => ?_⟩
  have hb2 : SqT K H b ((nmap D).map V.int) := SqT.of hb
  refine ⟨.ref b, rfl, b, _, rfl, .inr hb2, ((((nmap D).map V.int).length : Nat) : Int), rfl, by omega, by rw [nmap_len]; omega, fun L hL => lc_range (n := ((nmap D).map V.int).length) (fun i H3 => Same H H3 ∧ H3 L = some (ilst ((List.range i).map (gapP pr D)))) ⟨same_new hL, upd_same⟩ ?_ ?_⟩
  · rintro i H3 hi ⟨s3, h3⟩
    rw [nmap_len] at hi
    have ei : (0 + (i : Int)) = (i : Int) := by omega
    refine ⟨rfl, yes_then ⟨_, rfl, r, dx, _, rfl, s3 _ _ h1, rfl, _, rfl, _, rfl, r, b, pr, ds, A2, D, i, congrArg (fun z => [V.ref r, V.ref b, V.int z]) ei, hR.same s3, s3 _ _ hb, hD, hi, _, h3, small1000 (by rw [List.length_map, List.length_map, List.length_range]; omega), same_mut s3 hL, ?_⟩⟩
    rw [upd_same, List.range_succ, List.map_append]
    unfold ilst
    rw [List.map_append]
    rfl
  rintro H3 ⟨s3, h3⟩
  rw [nmap_len] at h3
  refine ⟨L, _, rfl, SqL.of h3, by rw [List.length_map, List.length_range]; omega, fun m hm hle => ?_⟩
  rw [← mxI_eq hm hle]
  exact q H3 s3
theorem ok_Ring_cost (T : Txt K mg) : GoodK P w K mg base 5 (He.ma K (He.ga K "Ring") "cost") ["self", "doors"] [.non] 1 ["doors"] (sp_Ring_cost K) := by
  refine good_kwK (kws := [("doors", .non)]) (n := 1) T.f_Ring_cost sc_Ring_cost (fun vs H Q E h => ?_) (List.cons_ne_nil _ _) rfl (fun D doc pm an cdv ct us ks h1 h2 => match us, ks, h1, h2 with | [_], [_], _, _ => ⟨_, _, _, _, _, _, rfl, rfl, rfl⟩) ?kwb (fun cdv A outer s H vs Q E hr h => ?_)
  case kwb => exact fun kV doc pm an cdv ct us ws h1 h2 s => match us, ws, h1, h2 with | [_], [_], _, _ => .of_eq rfl
  · obtain ⟨_, _, _, _, _, _, rfl, _⟩ := h
    rfl
  refine ⟨_, (pss_one (ps_ret (pe_op op_sub (pe_mtg0 (pv 0) T.cl_Ring T.me_Ring_whole (ok_Ring_whole T) (hr.mono (j := 1) (by decide))) (pe_mtgK0 (pv 0) T.cl_Ring T.me_Ring_greatest_gap (ok_Ring_greatest_gap T) (hr.mono (j := 4) (by decide)) (pk_cons (pv 1) pk_nil))))), ?_⟩
  obtain ⟨r, x, pr, ds, A2, D, rfl, hR, hC, hD, q⟩ := h
  obtain ⟨dx, pa, da, na, sa, h1, h2, h3, h4, h5⟩ := id hR
  refine ⟨_, rfl, r, dx, _, rfl, h1, rfl, r, pr, ds, A2, rfl, hR, _, rfl, r, dx, _, rfl, h1, rfl, _, rfl, ?_⟩
  refine ⟨rfl, rfl, r, x, pr, ds, A2, D, rfl, hR, hC, hD, fun H2 s2 => ⟨_, _, rfl, rfl, ?_⟩⟩
  exact q H2 s2
end
end K62

namespace K62
open PySem PySem.Spec PyProof.Rows L2 Fw Lay
section
variable {P : Program} {w : World} {K : PySem.W.Frag} {mg : Str → Option Value} {base : Heap}
theorem aro_lst {g : Nx} {P : List Nat} (k : Nat) : atI ((nmap (aro g P k)).map V.int) (-1) = some (.int (orb g P k : Int)) := by
  have e : (nmap (aro g P k)).map V.int = (nmap ((List.range k).map (orb g P))).map V.int ++ [V.int (orb g P k : Int)] := by
    rw [(aro_eq g P k).1, List.range_succ, List.map_append]
    unfold nmap
    rw [List.map_append, List.map_append]
    rfl
  rw [e]
  exact atI_last _ _
theorem aro_push {g : Nx} {P : List Nat} (k : Nat) : aro g P (k + 1) = aro g P k ++ [orb g P (k + 1)] := by
  rw [(aro_eq g P (k + 1)).1, (aro_eq g P k).1, List.range_succ (n := k + 1), List.map_append]
  rfl
theorem asc_head {P : List Nat} (h : P.Pairwise (· < ·)) (hne : P ≠ []) {m : Int} (hm : m ∈ nmap P) (hle : ∀ y, y ∈ nmap P → m ≤ y) : m = (P.headD 0 : Int) := by
  obtain ⟨x, t, rfl⟩ := List.exists_cons_of_ne_nil hne
  obtain ⟨k, hk, rfl⟩ := nmap_mem.mp hm
  have h1 := hle (x : Int) (mem_nmap.mpr (List.mem_cons_self ..))
  show (k : Int) = (x : Int)
  rcases List.mem_cons.mp hk with e | e
  · rw [e]
  · have := (List.pairwise_cons.mp h).1 k e
    omega
theorem clp_len {g : Nx} {P : List Nat} (h : ClP g P) : P.length ≤ g.length := by
  have := sub_len (l := P) (m := List.range g.length) h.nd fun v hv => List.mem_range.mpr (h.lt v hv)
  rw [List.length_range] at this
  exact this
theorem ok_made_ring (T : Txt K mg) : Good P w K mg base 4 (He.ga K "made_ring") ["graph", "nodes", "entered"] [] (sp_made_ring K) := by
  refine good_of T.f_made_ring sc_made_ring (fun vs H Q E h => ?_) (fun _ _ _ _ _ _ us hl => match us, hl with | [_, _, _], _ => rfl) (fun cdv A outer s H vs Q E hr h => ?_)
  · obtain ⟨_, _, _, _, _, _, rfl, _⟩ := h
    rfl
  refine ⟨_, (pss_cons (ps_set (i := 3) sc_made_ring.nd rfl (Or.inr rfl) (pe_lst (pa_cons (pe_callB (cr_min rfl) (by rfl) T.z_min (by decide +kernel) (pa_cons (pv 1) pa_nil)) pa_nil)))
  (pss_cons (ps_while PassesOwn.never (pt_cmpR op_lt (pe_callB call_len_seq (by rfl) T.z_len (by decide +kernel) (pa_cons (pv 3) pa_nil)) (pe_callB call_len_seq (by rfl) T.z_len (by decide +kernel) (pa_cons (pv 1) pa_nil)) (nomark _))
    (pss_one (ps_expr (pe_bm PySem.F.plainAttrs_list PySem.F.slot_list_append PySem.F.type_list_append mt_append (pv 3) (pa_cons (pe_ix ix_list (pe_cg (ok_internal T) (hr.mono (j := 2) (by decide)) (by rfl) T.g_internal (pa_cons (pv 0) (pa_cons (pv 1) (pa_cons (pe_ix ix_list (pv 3) (pe_un un_neg pe_int) (fun _ _ => rfl)) pa_nil)))) pe_int (fun _ _ => rfl)) pa_nil)))))
  (pss_cons (ps_setLc (i := 4) (own := [("node", 6)]) (g := (gName 6)) (tt := tYes) rfl sc_made_ring.nd rfl rfl (sw_true rfl rfl rfl (by decide +kernel)) (pi_list (pv 3)) (blkOk_by (own := [("node", 6)]) (N := ["graph", "nodes", "entered", "around", "prices", "doors", "node", "place"]) (sc := defScope s_made_ring) (by decide +kernel)) (fun _ _ _ _ _ => (pg_name (i := 6) sc_made_ring.nd rfl (Or.inl rfl))) (fun _ _ _ _ _ => pts_nil) (fun _ _ _ _ _ => (pe_mtg (pv 0) T.cl_Graph T.me_Graph_price (ok_Graph_price T) (hr.mono (j := 1) (by decide)) (pa_cons (pv 6) pa_nil))))
  (pss_cons (ps_setLc (i := 5) (own := [("place", 7)]) (g := (gName 7)) rfl sc_made_ring.nd rfl rfl (sw_true rfl rfl rfl (by decide +kernel)) (pi_range1 (by rfl) T.z_range (pa_cons (pe_callB call_len_seq (by rfl) T.z_len (by decide +kernel) (pa_cons (pv 3) pa_nil)) pa_nil)) (blkOk_by (own := [("place", 7)]) (N := ["graph", "nodes", "entered", "around", "prices", "doors", "node", "place"]) (sc := defScope s_made_ring) (by decide +kernel)) (fun _ _ _ _ _ => (pg_name (i := 7) sc_made_ring.nd rfl (Or.inl rfl))) (fun _ _ _ _ _ => (pts_one (pt_val (pe_ix (ix_listE (K := K) rfl) (pv 2) (pe_ix (ix_listE (K := K) rfl) (pv 3) (pv 7) (fun _ _ => rfl)) (fun _ _ => rfl))))) (fun _ _ _ _ _ => (pv 7)))
  (pss_one (ps_ret (pe_mkgK T.mk_Ring (ok_Ring_init T) (hr.mono (j := 3) (by decide)) (by rfl) T.g_Ring (pa_cons (pv 4) (pa_cons (pv 5) pa_nil)) (pk_cons (pv 3) pk_nil)))))))), ?_⟩
  obtain ⟨g, a, e, rs, P, es, rfl, hG, hok, hA, hcl, hk, hE, ⟨hel, hes⟩, q⟩ := h
  obtain ⟨dx, ra, h1, h2, hrw⟩ := id hG
  have hgl := sxr_len rs
  have hfew := hok.few
  have hEd : ∀ u v, Ed (sxr rs) u v → v < (sxr rs).length := fun u v e => ed_lt2 hok.g e
  have hring := hcl.ring hEd hk
  obtain ⟨hAn, hAm⟩ := hcl.aro hEd hk
  have hPl := List.length_pos_iff.mpr hcl.ne
  have hPn := clp_len hcl
  have hAl := aroP_len (g := sxr rs) hcl.ne
  have h4 : ∀ l ∈ sxr rs, l.length ≤ 4 := fun l hl => (hok.g.rows l hl).2.1
  refine ⟨.ref a, rfl, a, nmap P, rfl, hA, by unfold nmap; rw [List.length_map]; omega, fun m hm hle => ⟨(by show 1 ≤ sizeLine; decide), fun ap nap => ?_⟩⟩
  have em := asc_head hcl.asc hcl.ne hm hle
  subst em
  have s1 := same_new (o := .lst [.int (P.headD 0 : Int)]) nap
  have hap : upd H ap (.lst [.int (P.headD 0 : Int)]) ap = some (ilst (nmap (aro (sxr rs) P 0))) := upd_same
  generalize upd H ap (.lst [.int (P.headD 0 : Int)]) = H1 at s1 hap ⊢
  refine ⟨fun m σ H2 => Same H H2 ∧ ∃ k, k < P.length ∧ m = P.length - 1 - k ∧ H2 ap = some (ilst (nmap (aro (sxr rs) P k))) ∧ σ = [some (.ref g), some (.ref a), some (.ref e), some (.ref ap), none, none, none, none], ⟨_, s1, 0, hPl, rfl, hap, rfl⟩, ?_⟩
  rintro m σ H2 ⟨s2, k, hkl, rfl, hap2, rfl⟩
  have hal := aro_len (sxr rs) P k
  refine ⟨_, rfl, ap, _, rfl, .inl (SqL.of hap2), _, rfl, a, _, rfl, .inl (s2.seq hA), _, _, rfl, rfl, _, rfl, ?_⟩
  dsimp only
  rw [nmap_len, nmap_len, hal]
  refine if2 (fun hlt => ?_) (fun hlt => ?_)
  · refine ⟨fun σ H3 => Same H H3 ∧ k + 1 < P.length ∧ H3 ap = some (ilst (nmap (aro (sxr rs) P (k + 1)))) ∧ σ = [some (.ref g), some (.ref a), some (.ref e), some (.ref ap), none, none, none, none], ?_, ?_⟩
    · rintro σ' H' ⟨s', hk', hap', rfl⟩
      exact ⟨P.length - 1 - (k + 1), by omega, s', k + 1, hk', rfl, hap', rfl⟩
    have hom := orb_mem hcl.ne hring k
    obtain ⟨u, hu⟩ := hring _ hom
    have hvl := hcl.lt _ hom
    have eu : orb (sxr rs) P (k + 1) = u := by
      show (inn (sxr rs) P (orb (sxr rs) P k)).headD 0 = u
      rw [hu]
      rfl
    refine ⟨_, rfl, .inl ⟨rfl, _, SqL.of hap2⟩, _, rfl, _, rfl, _, rfl, _, rfl, ap, _, _, _, rfl, rfl, SqL.of hap2, aro_lst k, g, a, rs, P, orb (sxr rs) P k, rfl, hG.same s2, s2.seq hA, hcl.asc, by omega, h4, fun H3 ip s3 nip hip => ?_⟩
    rw [hu] at hip
    have hap3 := s3 _ _ hap2
    refine ⟨ip, _, 0, .int (u : Int), rfl, rfl, SqL.of hip, rfl, ap, _, _, rfl, rfl, hap3, small1000 (by rw [nmap_len, hal]; omega), same_mut (s2.trans s3) nap, by omega, ?_, rfl⟩
    rw [upd_same, aro_push, eu]
    unfold ilst nmap
    rw [List.map_append, List.map_append]
    rfl
  have ek : k = P.length - 1 := by omega
  have hap2 : H2 ap = some (ilst (nmap (aroP (sxr rs) P))) := by
    rw [hap2, ek]
    rfl
  clear hlt hal
  obtain ⟨A2, hA2⟩ : ∃ A2, A2 = aroP (sxr rs) P := ⟨_, rfl⟩
  rw [← hA2] at hap2 hAm hAn hAl
  have hvA : ∀ v ∈ A2, v < rs.length := fun v hv => by
    have := hcl.lt v ((hAm v).mp hv)
    omega
  -- prices
  refine ⟨_, rfl, ap, rfl, ⟨_, SqL.of hap2⟩, fun L hL => lc_list (K := K) (a := ap) (xs := (nmap A2).map V.int) (fun i H3 => Same H2 H3 ∧ H3 L = some (ilst (prA (pxr rs) (A2.take i)))) ⟨same_new hL, upd_same⟩ (fun i H3 _ h => SqL.of (h.1 _ _ hap2)) ?_ ?_⟩
  · rintro i x H3 hi ⟨s3, h3⟩
    obtain ⟨v, hv, rfl⟩ := nmap_ge hi
    have hil := (List.getElem?_eq_some_iff.mp hv).1
    have hvl := hvA v (List.mem_of_getElem? hv)
    have hq : rs[v]? = some rs[v] := List.getElem?_eq_getElem hvl
    generalize rs[v] = qr at hq
    have epr : (pxr rs).getD v 0 = qr.2.2.2.1 := by
      rw [List.getD_eq_getElem?_getD, get_pxr hq]
      rfl
    refine ⟨rfl, yes_then ⟨_, rfl, g, dx, _, rfl, (s2.trans s3) _ _ h1, rfl, _, rfl, g, rs, v, qr, rfl, hG.same (s2.trans s3), hq, _, h3, small1000 (by unfold prA; rw [List.length_map, List.length_map, List.length_take]; omega), same_mut s3 hL, ?_⟩⟩
    rw [upd_same, List.take_add_one, hv]
    unfold ilst prA
    rw [List.map_append, List.map_append]
    show some (HO.lst (_ ++ [V.int qr.2.2.2.1])) = some (HO.lst (_ ++ [V.int ((pxr rs).getD v 0)]))
    rw [epr]
  rintro H3 ⟨s3, h3⟩
  rw [nmap_len, List.take_length] at h3
  have s03 := s2.trans s3
  have hap3 := s3 _ _ hap2
  -- doors
  refine ⟨_, rfl, ap, _, rfl, .inl (SqL.of hap3), ((((nmap A2).map V.int).length : Nat) : Int), rfl, by omega, by rw [nmap_len]; omega, fun L2 hL2 => lc_range (n := ((nmap A2).map V.int).length) (fun i H4 => Same H3 H4 ∧ H4 L2 = some (ilst (nmap ((List.range i).filter fun p => @decide (isDoor (sxr rs) A2 (A2.getD p 0)) (Classical.propDecidable _))))) ⟨same_new hL2, upd_same⟩ ?_ ?_⟩
  · rintro i H4 hi ⟨s4, h4'⟩
    rw [nmap_len] at hi
    have hv : A2[i]? = some A2[i] := List.getElem?_eq_getElem hi
    generalize A2[i] = v at hv
    have hvm := List.mem_of_getElem? hv
    have hvl := hvA v hvm
    obtain ⟨c, hc, hiff⟩ := hes v (by omega)
    have hec : (es.map V.bl)[v]? = some (.bl c) := by
      rw [List.getElem?_map, hc]
      rfl
    have hdoor : c = true ↔ isDoor (sxr rs) A2 (A2.getD i 0) := by
      rw [List.getD_eq_getElem?_getD, hv, hiff]
      show _ ↔ v = 0 ∨ ∃ o, o ∉ A2 ∧ Ed (sxr rs) o v
      refine ⟨fun h => h.imp id fun ⟨u, h5, h6⟩ => ⟨u, fun h7 => h6 ?_, h5⟩, fun h => h.imp id fun ⟨u, h5, h6⟩ => ⟨u, h6, fun h7 => h5 ((hAm u).mpr ?_)⟩⟩
      · exact (hcl.mt u v ((hAm u).mp h7) (by omega)).mp ((hAm v).mp hvm)
      · exact (hcl.mt v u ((hAm v).mp hvm) (ed_lt h6)).mpr h7.symm
    have ei : (0 + (i : Int)) = (i : Int) := by omega
    have hfl := List.length_filter_le (fun p => @decide (isDoor (sxr rs) A2 (A2.getD p 0)) (Classical.propDecidable _)) (List.range i)
    rw [List.length_range] at hfl
    rw [List.range_succ, List.filter_append]
    refine ⟨rfl, _, rfl, _, rfl, _, rfl, ap, _, _, _, rfl, rfl, SqL.of (s4 _ _ hap3), atI0 (nmap_g hv), e, _, _, _, rfl, rfl, (s03.trans s4).seq hE, atI_nat hec, c, rfl, ?_⟩
    by_cases hd : isDoor (sxr rs) A2 (A2.getD i 0)
    · rw [List.filter_cons_of_pos (p := fun p => @decide (isDoor (sxr rs) A2 (A2.getD p 0)) (Classical.propDecidable _)) (@decide_eq_true _ (Classical.propDecidable _) hd)]
      obtain rfl : c = true := hdoor.mpr hd
      refine iteT ⟨_, rfl, _, h4', small1000 (by rw [nmap_len]; omega), same_mut s4 hL2, ?_⟩
      rw [upd_same, ei]
      unfold ilst nmap
      rw [List.map_append, List.map_append]
      rfl
    · rw [List.filter_cons_of_neg (p := fun p => @decide (isDoor (sxr rs) A2 (A2.getD p 0)) (Classical.propDecidable _)) (by rw [@decide_eq_false _ (Classical.propDecidable _) hd]; decide), List.filter_nil, List.append_nil]
      obtain rfl : c = false := by
        cases c with
        | false => rfl
        | true => exact absurd (hdoor.mp rfl) hd
      exact iteF ⟨s4, h4'⟩
  rintro H4 ⟨s4, h4'⟩
  rw [nmap_len] at h4'
  have h4' : H4 L2 = some (ilst (nmap (drs (sxr rs) A2))) := h4'
  have s04 := s03.trans s4
  have hdm : ∀ p ∈ drs (sxr rs) A2, p < A2.length := fun p hp => (drs_mem.mp hp).1
  have hdl : (drs (sxr rs) A2).length ≤ A2.length := by
    have := sub_len (l := drs (sxr rs) A2) (m := List.range A2.length) ((drs_asc _ _).imp fun h => Nat.ne_of_lt h) fun p hp => List.mem_range.mpr (hdm p hp)
    rw [List.length_range] at this
    exact this
  have hpl : (prA (pxr rs) A2).length = A2.length := by unfold prA; rw [List.length_map]
  refine ⟨_, rfl, _, rfl, _, rfl, rfl, rfl, fun r dr nr ndr hne => ?_⟩
  have hfr : ∀ z o, H4 z = some o → upd (upd H4 dr (.own r)) r (.ins (He.ga K "Ring") dr []) z = some o := fun z o e5 => by
    rw [upd_ne (ne_of_none e5 nr), upd_ne (ne_of_none e5 ndr)]
    exact e5
  refine ⟨r, dr, L, L2, ap, prA (pxr rs) A2, drs (sxr rs) A2, A2, rfl, upd_same, SqL.of (hfr _ _ (s4 _ _ h3)), SqL.of (hfr _ _ h4'), SqL.of (hfr _ _ (s4 _ _ hap3)), ⟨by omega, by omega, fun x hx => ?_⟩, ⟨?_, by omega, fun d hd => by have := hdm d hd; omega⟩, drs_asc _ _, by omega, fun H5 hf5 hR => ?_⟩
  · unfold prA at hx
    obtain ⟨v, hv, rfl⟩ := List.mem_map.mp hx
    have hvl := hvA v hv
    have hq : rs[v]? = some rs[v] := List.getElem?_eq_getElem hvl
    rw [List.getD_eq_getElem?_getD, get_pxr hq]
    exact (hok.nm _ (List.getElem_mem hvl)).2
  · rw [hA2]
    exact hcl.drs_ne hok.g hk
  · have s5 : Same H H5 := fun z o e5 => hf5 z o (ne_of_none (s04 _ _ e5) nr) (hfr z o (s04 _ _ e5))
    refine ⟨rfl, q H5 r s5 (s04.free nr) ?_⟩
    unfold RgAt
    rw [← hA2]
    exact hR
end
end K62

namespace K62
open PySem PySem.Spec PyProof.Rows L2 Fw Lay
section
variable {P : Program} {w : World} {K : PySem.W.Frag} {mg : Str → Option Value} {base : Heap}
theorem ring_but {K : PySem.W.Frag} {H H2 : Hp} {r p : Addr} {pr : List Int} {D A : List Nat} {xs : List V} (h : RingAt K H r pr D A) (hp : H p = some (.lst xs)) (b : But p H H2) : RingAt K H2 r pr D A := by
  obtain ⟨dx, pa, da, na, sa, h1, h2, h3, h4, h5⟩ := h
  exact ⟨dx, pa, da, na, sa, b _ _ (ne_of h1 hp fun e => by cases e) h1, b _ _ (ne_of h2 hp fun e => by cases e) h2, b _ _ (ne_of h3 hp fun e => by cases e) h3, b _ _ (ne_of h4 hp fun e => by cases e) h4, b _ _ (ne_of h5 hp fun e => by cases e) h5⟩
theorem kindS_ring {k : Nat} : kindS k = "ring" ↔ k = 1 := by
  unfold kindS
  by_cases h0 : k = 0
  · rw [if_pos h0]
    exact ⟨fun h => absurd h (by decide), fun h => by omega⟩
  · rw [if_neg h0]
    by_cases h1 : k = 1
    · rw [if_pos h1]
      exact ⟨fun _ => h1, fun _ => rfl⟩
    · rw [if_neg h1]
      exact ⟨fun h => absurd h (by decide), fun h => absurd h h1⟩
theorem kindS_wild {k : Nat} : kindS k = "wild" ↔ 2 ≤ k := by
  unfold kindS
  by_cases h0 : k = 0
  · rw [if_pos h0]
    exact ⟨fun h => absurd h (by decide), fun h => by omega⟩
  · rw [if_neg h0]
    by_cases h1 : k = 1
    · rw [if_pos h1]
      exact ⟨fun h => absurd h (by decide), fun h => by omega⟩
    · rw [if_neg h1]
      exact ⟨fun _ => by omega, fun _ => rfl⟩
theorem rg_ds {rs : Rx} {P : List Nat} (hok : RsOk rs) (hcl : ClP (sxr rs) P) (hk : knd (sxr rs) P = 1) : DsN (prA (pxr rs) (aroP (sxr rs) P)).length (drs (sxr rs) (aroP (sxr rs) P)) := by
  have hl : (prA (pxr rs) (aroP (sxr rs) P)).length = P.length := by
    unfold prA
    rw [List.length_map, aroP_len hcl.ne]
  have hA := aroP_len (g := sxr rs) hcl.ne
  have hdm : ∀ p ∈ drs (sxr rs) (aroP (sxr rs) P), p < (aroP (sxr rs) P).length := fun p hp => (drs_mem.mp hp).1
  have hdl := sub_len (l := drs (sxr rs) (aroP (sxr rs) P)) (m := List.range (aroP (sxr rs) P).length) ((drs_asc _ _).imp fun h => Nat.ne_of_lt h) fun p hp => List.mem_range.mpr (hdm p hp)
  rw [List.length_range] at hdl
  have := clp_len hcl
  have := hok.few
  have := sxr_len rs
  exact ⟨hcl.drs_ne hok.g hk, by omega, fun d hd => by have := hdm d hd; omega⟩
theorem rg_pr {rs : Rx} {P : List Nat} (hok : RsOk rs) (hcl : ClP (sxr rs) P) (hk : knd (sxr rs) P = 1) : ∀ x ∈ prA (pxr rs) (aroP (sxr rs) P), 1 ≤ x := fun x hx => by
  obtain ⟨v, hv, rfl⟩ := List.mem_map.mp hx
  have hvl := hcl.lt v (((hcl.aro (fun u v e => ed_lt2 hok.g e) hk).2 v).mp hv)
  rw [sxr_len] at hvl
  have hq : rs[v]? = some rs[v] := List.getElem?_eq_getElem hvl
  rw [List.getD_eq_getElem?_getD, get_pxr hq]
  exact (hok.nm _ (List.getElem_mem hvl)).2
theorem ok_ring_table (T : Txt K mg) : Good P w K mg base 7 (He.ga K "ring_table") ["graph"] [] (sp_ring_table K) := by
  refine good_of T.f_ring_table sc_ring_table (fun vs H Q E h => ?_) (fun _ _ _ _ _ _ us hl => match us, hl with | [_], _ => rfl) (fun cdv A outer s H vs Q E hr h => ?_)
  · obtain ⟨_, _, rfl, _⟩ := h
    rfl
  refine ⟨_, (pss_cons (ps_set (i := 1) sc_ring_table.nd rfl (Or.inl rfl) (pe_cg (ok_entered_nodes T) (hr.mono (j := 6) (by decide)) (by rfl) T.g_entered_nodes (pa_cons (pv 0) pa_nil)))
  (pss_cons (ps_set (i := 2) sc_ring_table.nd rfl (Or.inl rfl) (pe_lst pa_nil))
  (pss_cons (ps_for PassesOwn.never rfl (pi_list (pe_cg (ok_components T) (hr.mono (j := 4) (by decide)) (by rfl) T.g_components (pa_cons (pv 0) pa_nil))) (pg_name (i := 3) sc_ring_table.nd rfl (Or.inl rfl))
    (pss_one (ps_if (pt_cmpR op_eq (pe_cg (ok_kind_of T) (hr.mono (j := 3) (by decide)) (by rfl) T.g_kind_of (pa_cons (pv 0) (pa_cons (pv 3) pa_nil))) pe_str (nomark _))
    (pss_one (ps_expr (pe_bm PySem.F.plainAttrs_list PySem.F.slot_list_append PySem.F.type_list_append mt_append (pv 2) (pa_cons (pe_cg (ok_made_ring T) (hr.mono (j := 4) (by decide)) (by rfl) T.g_made_ring (pa_cons (pv 0) (pa_cons (pv 3) (pa_cons (pv 1) pa_nil)))) pa_nil))))
    (pss_one (ps_expr (pe_bm PySem.F.plainAttrs_list PySem.F.slot_list_append PySem.F.type_list_append mt_append (pv 2) (pa_cons pe_non pa_nil)))))))
  (pss_one (ps_ret (pv 2)))))), ?_⟩
  obtain ⟨g, rs, rfl, hG, hok, hl, q⟩ := h
  have hgl := sxr_len rs
  refine ⟨_, rfl, g, rs, rfl, hG, hok, hl, fun H1 ep es s1 nep hep hes => ?_⟩
  refine ⟨Nat.zero_le _, fun tp ntp => ?_⟩
  have s2 := s1.trans (same_new (o := .lst []) ntp)
  have ntpH : H tp = none := s1.free ntp
  have hep2 := same_new (o := .lst []) ntp _ _ hep
  have htp2 : upd H1 tp (.lst []) tp = some (.lst []) := upd_same
  have hept : ep ≠ tp := ne_of_none hep ntp
  generalize upd H1 tp (.lst []) = H2 at s2 hep2 htp2 ⊢
  refine ⟨_, rfl, g, rs, rfl, hG.same s2, hok, hl, fun H3 a ws bs s3 na ha ews hC hws => ?_⟩
  have s03 := s2.trans s3
  have htp3 := s3 _ _ htp2
  have hep3 := s3 _ _ hep2
  have hatp : a ≠ tp := (ne_of_none htp2 na).symm
  have hbl := cov_len hC.cov
  have ewl := ws_len ews
  have erl : (refL ws).length = bs.length := by unfold refL; rw [List.length_map, ewl]
  have hf : ∀ {H4 : Hp}, But tp H3 H4 → Same H H4 := fun {H4} b z o e => b z o (ne_of_none e ntpH) (s03 _ _ e)
  refine ⟨a, rfl, ⟨_, SqL.of ha⟩, for_list (K := K) (a := a) (xs := refL ws) (fun i σ H4 => But tp H3 H4 ∧ ∃ xs : List V, H4 tp = some (.lst xs) ∧ xs.length = i ∧ (∀ j b : Nat, j < i → bs[j]? = some b → (knd (sxr rs) (cls (sxr rs) b) = 1 ∧ ∃ r, xs[j]? = some (.ref r) ∧ RgAt K H4 r (sxr rs) (pxr rs) (cls (sxr rs) b)) ∨ (knd (sxr rs) (cls (sxr rs) b) ≠ 1 ∧ xs[j]? = some .non)) ∧ ∃ y3, σ = [some (.ref g), some (.ref ep), some (.ref tp), y3])
    ⟨But.refl, [], htp3, rfl, fun j b hj => absurd hj (Nat.not_lt_zero _), none, rfl⟩ (fun i σ H4 _ h => SqL.of (h.1 _ _ hatp ha)) ?_ ?_⟩
  · rintro i x σ H4 hi ⟨b4, xs, hxs, hxl, hx, y3, rfl⟩
    obtain ⟨z, hz, hzm, rfl⟩ := refL_get hi
    obtain ⟨b, hb, ez⟩ := ws_cls ews hz
    have hil := (List.getElem?_eq_some_iff.mp hb).1
    have hbm := List.mem_of_getElem? hb
    have hcl := ClP.cls (hC.cov.lt b hbm)
    have hcln := cls_len (sxr rs) b
    obtain ⟨nz, nza, hz3⟩ := hws z hzm
    rw [ez] at hz3
    have hztp : z.1 ≠ tp := (ne_of_none htp2 nz).symm
    have hz4 := b4 _ _ hztp hz3
    have hfew := hok.few
    have hpush : ∀ {H5 : Hp} {y : V}, Same H4 H5 → ((knd (sxr rs) (cls (sxr rs) b) = 1 ∧ ∃ r, y = .ref r ∧ RgAt K H5 r (sxr rs) (pxr rs) (cls (sxr rs) b)) ∨ (knd (sxr rs) (cls (sxr rs) b) ≠ 1 ∧ y = .non)) →
        But tp H3 (upd H5 tp (.lst (xs ++ [y]))) ∧ ∃ xs2 : List V, upd H5 tp (.lst (xs ++ [y])) tp = some (.lst xs2) ∧ xs2.length = i + 1 ∧ (∀ j b : Nat, j < i + 1 → bs[j]? = some b → (knd (sxr rs) (cls (sxr rs) b) = 1 ∧ ∃ r, xs2[j]? = some (.ref r) ∧ RgAt K (upd H5 tp (.lst (xs ++ [y]))) r (sxr rs) (pxr rs) (cls (sxr rs) b)) ∨ (knd (sxr rs) (cls (sxr rs) b) ≠ 1 ∧ xs2[j]? = some .non)) := fun {H5 y} s5 hy => by
      have b5 : But tp H5 (upd H5 tp (.lst (xs ++ [y]))) := But.refl.own
      have hxs5 := s5 _ _ hxs
      refine ⟨(b4.then s5).own, xs ++ [y], upd_same, by rw [List.length_append, hxl]; rfl, fun j c hj hc => ?_⟩
      by_cases e : j < i
      · rw [List.getElem?_append_left (by omega)]
        refine (hx j c e hc).imp (fun ⟨h1, r, h2, h3⟩ => ⟨h1, r, h2, ?_⟩) id
        exact ring_but (RingAt.same h3 s5) hxs5 b5
      · have e : j = i := by omega
        subst e
        rw [hb] at hc
        rw [← Option.some.inj hc, List.getElem?_append_right (by omega), hxl, Nat.sub_self]
        refine hy.imp (fun ⟨h1, r, h2, h3⟩ => ⟨h1, r, by rw [h2]; rfl, ring_but h3 hxs5 b5⟩) fun ⟨h1, h2⟩ => ⟨h1, by rw [h2]; rfl⟩
    have s4 := hf b4
    refine ⟨_, rfl, _, rfl, g, z.1, rs, cls (sxr rs) b, rfl, hG.same s4, SqL.of hz4, hcl.asc, hcl.ne, by omega, fun v hv => by have := hcl.lt v hv; omega, fun l hl => (hok.g.rows l hl).2.1, fun H5 s5 => ⟨rfl, _, rfl, if2 (fun e => ?_) (fun e => ?_)⟩⟩
    · have hk : knd (sxr rs) (cls (sxr rs) b) = 1 := kindS_ring.mp (V.str.inj e)
      have hep5 := s5 _ _ (b4 _ _ hept hep3)
      have hz5 := s5 _ _ hz4
      refine ⟨_, rfl, .inl ⟨rfl, _, SqL.of (s5 _ _ hxs)⟩, _, rfl, _, rfl, _, rfl, g, z.1, ep, rs, cls (sxr rs) b, es, rfl, hG.same (s4.trans s5), hok, SqL.of hz5, hcl, hk, SqL.of hep5, hes, fun H6 r s6 nr hR => ?_⟩
      obtain ⟨k1, k2⟩ := hpush (s5.trans s6) (.inl ⟨hk, r, rfl, hR⟩)
      obtain ⟨xs2, k3, k4, k5⟩ := k2
      exact ⟨tp, _, _, rfl, rfl, (s5.trans s6) _ _ hxs, small1000 (by omega), k1, xs2, k3, k4, k5, _, rfl⟩
    · have hk : knd (sxr rs) (cls (sxr rs) b) ≠ 1 := fun h => e (congrArg V.str (kindS_ring.mpr h))
      obtain ⟨k1, xs2, k3, k4, k5⟩ := hpush s5 (.inr ⟨hk, rfl⟩)
      exact ⟨_, rfl, .inl ⟨rfl, _, SqL.of (s5 _ _ hxs)⟩, tp, _, _, rfl, rfl, s5 _ _ hxs, small1000 (by omega), k1, xs2, k3, k4, k5, _, rfl⟩
  · rintro σ H4 ⟨b4, xs, hxs, hxl, hx, y3, rfl⟩
    rw [erl] at hxl hx
    exact ⟨_, rfl, q H4 tp bs xs (hf b4) ntpH hxs hC ⟨hxl, fun j b hj => hx j b (List.getElem?_eq_some_iff.mp hj).1 hj⟩⟩
theorem ok_rings (T : Txt K mg) : Good P w K mg base 8 (He.ga K "rings") ["graph"] [] (sp_rings K) := by
  refine good_of T.f_rings sc_rings (fun vs H Q E h => ?_) (fun _ _ _ _ _ _ us hl => match us, hl with | [_], _ => rfl) (fun cdv A outer s H vs Q E hr h => ?_)
  · obtain ⟨_, _, rfl, _⟩ := h
    rfl
  refine ⟨_, (pss_one (ps_ret (pe_lc (own := [("ring", 1)]) (g := (gName 1)) rfl sc_rings.nd (pi_list (pe_cg (ok_ring_table T) (hr.mono (j := 7) (by decide)) (by rfl) T.g_ring_table (pa_cons (pv 0) pa_nil))) (blkOk_by (own := [("ring", 1)]) (N := ["graph", "ring"]) (sc := defScope s_rings) (by decide +kernel)) (fun _ _ _ _ _ => (pg_name (i := 1) sc_rings.nd rfl (Or.inl rfl))) (fun _ _ _ _ _ => (pts_one (pt_cmpR op_notN (pv 1) pe_non (nomark _)))) (fun _ _ _ _ _ => (pv 1))))), ?_⟩
  obtain ⟨g, rs, rfl, hG, hok, hl, q⟩ := h
  have hgl := sxr_len rs
  refine ⟨_, rfl, g, rs, rfl, hG, hok, hl, fun H1 p bs xs s1 np hp hC ⟨hxl, hx⟩ => ?_⟩
  have hbl := cov_len hC.cov
  refine ⟨p, rfl, ⟨_, SqL.of hp⟩, fun D hD => lc_list (K := K) (a := p) (xs := xs) (fun i H3 => Same H1 H3 ∧ ∃ zs : List (Addr × Nat), H3 D = some (.lst (zs.map fun z => V.ref z.1)) ∧ zs.map (·.2) = (bs.take i).filter (fun b => decide (knd (sxr rs) (cls (sxr rs) b) = 1)) ∧ ∀ z ∈ zs, RgAt K H1 z.1 (sxr rs) (pxr rs) (cls (sxr rs) z.2)) ⟨same_new hD, [], upd_same, rfl, fun z hz => nomatch hz⟩ (fun i H3 _ h => SqL.of (h.1 _ _ hp)) ?_ ?_⟩
  · rintro i x H3 hi ⟨s3, zs, h3, ezs, hzs⟩
    have hil := (List.getElem?_eq_some_iff.mp hi).1
    have hb : bs[i]? = some (bs[i]'(by omega)) := List.getElem?_eq_getElem (by omega)
    generalize bs[i]'(by omega) = b at hb
    have hzl : zs.length ≤ bs.length := by
      have e := congrArg List.length ezs
      rw [List.length_map] at e
      have := List.length_filter_le (fun b => decide (knd (sxr rs) (cls (sxr rs) b) = 1)) (bs.take i)
      rw [List.length_take] at this
      omega
    rcases hx i b hb with ⟨hk, r, hr2, hR⟩ | ⟨hk, hn⟩
    · rw [hi] at hr2
      rw [Option.some.inj hr2]
      refine ⟨rfl, _, rfl, rfl, _, rfl, iteT ⟨_, rfl, _, h3, small1000 (by rw [List.length_map]; omega), same_mut s3 hD, zs ++ [(r, b)], ?_, ?_, fun z hz => ?_⟩⟩
      · rw [upd_same, List.map_append]
        rfl
      · rw [List.map_append, ezs, List.take_add_one, hb, List.filter_append]
        show _ ++ [b] = _ ++ List.filter _ [b]
        rw [List.filter_cons_of_pos (p := fun b => decide (knd (sxr rs) (cls (sxr rs) b) = 1)) (decide_eq_true hk), List.filter_nil]
      · rcases List.mem_append.mp hz with hz | hz
        · exact hzs z hz
        · rw [List.mem_singleton.mp hz]
          exact hR
    · rw [hi] at hn
      rw [Option.some.inj hn]
      refine ⟨rfl, _, rfl, rfl, _, rfl, iteF ⟨s3, zs, h3, ?_, hzs⟩⟩
      rw [ezs, List.take_add_one, hb, List.filter_append]
      show _ = _ ++ List.filter _ [b]
      rw [List.filter_cons_of_neg (p := fun b => decide (knd (sxr rs) (cls (sxr rs) b) = 1)) (by rw [decide_eq_false hk]; decide), List.filter_nil, List.append_nil]
  rintro H3 ⟨s3, zs, h3, ezs, hzs⟩
  rw [hxl, List.take_length] at ezs
  exact q H3 D bs zs (s1.trans s3) (s1.free hD) h3 hC ezs fun z hz => RingAt.same (hzs z hz) s3
theorem ok_worth (T : Txt K mg) : Good P w K mg base 9 (He.ga K "worth") ["graph"] [] (sp_worth K) := by
  refine good_of T.f_worth sc_worth (fun vs H Q E h => ?_) (fun _ _ _ _ _ _ us hl => match us, hl with | [_], _ => rfl) (fun cdv A outer s H vs Q E hr h => ?_)
  · obtain ⟨_, _, rfl, _⟩ := h
    rfl
  refine ⟨_, (pss_cons (ps_if (pt_cmpR op_in_seq pe_str (pe_cg (ok_kinds T) (hr.mono (j := 5) (by decide)) (by rfl) T.g_kinds (pa_cons (pv 0) pa_nil)) (by rfl))
    (pss_one (ps_ret pe_non))
    pss_nil)
  (pss_one (ps_ret (pe_callB (cr_sum rfl) (by rfl) T.z_sum (by decide +kernel) (pa_cons (pe_lc (own := [("ring", 1)]) (g := (gName 1)) (tt := tYes) rfl sc_worth.nd (pi_list (pe_cg (ok_rings T) (hr.mono (j := 8) (by decide)) (by rfl) T.g_rings (pa_cons (pv 0) pa_nil))) (blkOk_by (own := [("ring", 1)]) (N := ["graph", "ring"]) (sc := defScope s_worth) (by decide +kernel)) (fun _ _ _ _ _ => (pg_name (i := 1) sc_worth.nd rfl (Or.inl rfl))) (fun _ _ _ _ _ => pts_nil) (fun _ _ _ _ _ => (pe_mtg0 (pv 1) T.cl_Ring T.me_Ring_cost (ok_Ring_cost T).good (hr.mono (j := 5) (by decide))))) pa_nil))))), ?_⟩
  obtain ⟨g, rs, rfl, hG, hok, hl, q⟩ := h
  have hgl := sxr_len rs
  refine ⟨_, rfl, g, rs, rfl, hG, hok, hl, fun H1 kp bs s1 nk hkp hC => ?_⟩
  have hfl : (bs.map fun b => V.str (kindS (knd (sxr rs) (cls (sxr rs) b)))).all flatV = true := by
    rw [List.all_map]
    exact List.all_eq_true.mpr fun d _ => rfl
  have hin : inV (.str "wild") (bs.map fun b => V.str (kindS (knd (sxr rs) (cls (sxr rs) b)))) = true ↔ Wld (sxr rs) bs := by
    unfold inV
    rw [List.any_map, List.any_eq_true]
    refine ⟨fun ⟨b, hb, e⟩ => ⟨b, hb, kindS_wild.mp ?_⟩, fun ⟨b, hb, h2⟩ => ⟨b, hb, ?_⟩⟩
    · have e2 : (kindS (knd (sxr rs) (cls (sxr rs) b)) == ("wild" : Str)) = true := e
      exact eq_of_beq e2
    · show (kindS (knd (sxr rs) (cls (sxr rs) b)) == ("wild" : Str)) = true
      rw [kindS_wild.mpr h2]
      rfl
  refine ⟨kp, _, rfl, .inl (SqL.of hkp), rfl, hfl, _, rfl, ?_⟩
  by_cases hW : Wld (sxr rs) bs
  · show if inV (.str "wild") (bs.map fun b => V.str (kindS (knd (sxr rs) (cls (sxr rs) b)))) = true then _ else _
    rw [if_pos (hin.mpr hW)]
    refine q H1 .non bs s1 hC (.inl ⟨?_, rfl⟩)
    unfold wor
    rw [if_pos hW]
    decide
  · show if inV (.str "wild") (bs.map fun b => V.str (kindS (knd (sxr rs) (cls (sxr rs) b)))) = true then _ else _
    rw [if_neg fun h => hW (hin.mp h)]
    refine ⟨_, rfl, g, rs, rfl, hG.same s1, hok, hl, fun H2 p cs zs s2 np hp hC2 ezs hzs => ?_⟩
    obtain rfl := hC.eq hC2
    have hbl := cov_len hC.cov
    have hzb : ∀ z ∈ zs, z.2 ∈ bs ∧ knd (sxr rs) (cls (sxr rs) z.2) = 1 := fun z hz => by
      have : z.2 ∈ zs.map (·.2) := List.mem_map_of_mem (f := fun z : Addr × Nat => z.2) hz
      rw [ezs] at this
      obtain ⟨h1, h2⟩ := List.mem_filter.mp this
      exact ⟨h1, of_decide_eq_true h2⟩
    have hzl : zs.length ≤ bs.length := by
      have e := congrArg List.length ezs
      rw [List.length_map] at e
      have := List.length_filter_le (fun b => decide (knd (sxr rs) (cls (sxr rs) b) = 1)) bs
      omega
    refine ⟨p, rfl, ⟨_, SqL.of hp⟩, fun D hD => lc_list (K := K) (a := p) (xs := zs.map fun z => V.ref z.1) (fun i H3 => Same H2 H3 ∧ H3 D = some (ilst ((zs.take i).map fun z => costP (prA (pxr rs) (aroP (sxr rs) (cls (sxr rs) z.2))) (drs (sxr rs) (aroP (sxr rs) (cls (sxr rs) z.2)))))) ⟨same_new hD, upd_same⟩ (fun i H3 _ h => SqL.of (h.1 _ _ hp)) ?_ ?_⟩
    · rintro i x H3 hi ⟨s3, h3⟩
      rw [List.getElem?_map] at hi
      obtain ⟨z, hz, rfl⟩ := Option.map_eq_some_iff.mp hi
      have hzm := List.mem_of_getElem? hz
      obtain ⟨hb, hk⟩ := hzb z hzm
      have hcl := ClP.cls (hC.cov.lt _ hb)
      have hR : RingAt K H3 _ _ _ _ := (RingAt.same (hzs z hzm) s3)
      obtain ⟨dx, pa, da, na, sa, h5, _⟩ := id hR
      refine ⟨rfl, yes_then ⟨_, rfl, z.1, dx, _, rfl, h5, rfl, z.1, .non, _, _, _, _, rfl, hR, .inl ⟨rfl, rfl⟩, rg_ds hok hcl hk, fun H4 s4 => ⟨_, s4 _ _ h3, small1000 (by rw [List.length_map, List.length_map, List.length_take]; omega), same_mut (s3.trans s4) hD, ?_⟩⟩⟩
      rw [upd_same, List.take_add_one, hz, List.map_append]
      unfold ilst
      rw [List.map_append]
      rfl
    rintro H3 ⟨s3, h3⟩
    have ezl : (zs.map fun z => V.ref z.1).length = zs.length := List.length_map ..
    rw [ezl, List.take_length] at h3
    refine ⟨D, _, rfl, SqL.of h3, ?_⟩
    have esum : (zs.map fun z => costP (prA (pxr rs) (aroP (sxr rs) (cls (sxr rs) z.2))) (drs (sxr rs) (aroP (sxr rs) (cls (sxr rs) z.2)))).sum = tot (sxr rs) (pxr rs) bs := by
      have e1 : (zs.map fun z => costP (prA (pxr rs) (aroP (sxr rs) (cls (sxr rs) z.2))) (drs (sxr rs) (aroP (sxr rs) (cls (sxr rs) z.2)))) = (zs.map (·.2)).map fun b => costP (prA (pxr rs) (aroP (sxr rs) (cls (sxr rs) b))) (drs (sxr rs) (aroP (sxr rs) (cls (sxr rs) b))) := by
        rw [List.map_map]
        rfl
      rw [e1, ezs, filter_sum]
      unfold tot
      refine congrArg List.sum (List.map_congr_left fun b _ => ?_)
      unfold cst
      by_cases hk : knd (sxr rs) (cls (sxr rs) b) = 1
      · rw [if_pos (decide_eq_true hk), if_pos hk]
      · rw [if_neg (by rw [decide_eq_false hk]; decide), if_neg hk]
    rw [esum]
    refine q H3 _ bs ((s1.trans s2).trans s3) hC (.inr ⟨?_, ?_⟩)
    · unfold wor
      rw [if_neg hW]
      refine sum_nn fun b hb => ?_
      unfold cst
      split
      · rename_i hk
        have hcl := ClP.cls (hC.cov.lt _ hb)
        have hd := rg_ds hok hcl hk
        exact costP_nn (fun x hx => by have := rg_pr hok hcl hk x hx; omega) hd.2.2 hd.1
      · exact Int.le_refl _
    · unfold wor
      rw [if_neg hW]
end
end K62

namespace K62
open PySem PySem.Spec PyProof.Rows L2 Fw Lay
section
variable {P : Program} {w : World} {K : PySem.W.Frag} {mg : Str → Option Value} {base : Heap}
theorem ok_l_inner (T : Txt K mg) : Good P w K mg base 1 (He.ga K "_law_inner") ["_law_rows", "_law_part", "_law_node"] [] (sp_l_inner K) := by
  refine good_of T.f_l_inner sc_l_inner (fun vs H Q E h => ?_) (fun _ _ _ _ _ _ us hl => match us, hl with | [_, _, _], _ => rfl) (fun cdv A outer s H vs Q E hr h => ?_)
  · obtain ⟨_, _, _, _, _, rfl, _⟩ := h
    rfl
  refine ⟨_, (pss_one (ps_ret (pe_callB (cr_sortedSet rfl) (by rfl) T.z_sorted (by decide +kernel) (pa_cons (pe_callTy (cr_setL rfl) (by rfl) T.z_set (by decide +kernel) (pa_cons (pe_lc (own := [("_law_target", 3)]) (g := (gName 3)) rfl sc_l_inner.nd (pi_tup (pe_ix ix_tup (pe_ix ix_list (pv 0) (pv 2) (fun _ _ => rfl)) pe_int (fun _ _ => rfl))) (blkOk_by (own := [("_law_target", 3)]) (N := ["_law_rows", "_law_part", "_law_node", "_law_target"]) (sc := defScope s_l_inner) (by decide +kernel)) (fun _ _ _ _ _ => (pg_name (i := 3) sc_l_inner.nd rfl (Or.inl rfl))) (fun _ _ _ _ _ => (pts_one (pt_cmpR (op_in_seqE (K := K) rfl) (pv 3) (pv 1) (by rfl)))) (fun _ _ _ _ _ => (pv 3))) pa_nil)) pa_nil)))), ?_⟩
  obtain ⟨a, b, rs, P, v, rfl, hA, hrw, hB, hP, hv, h4, q⟩ := h
  have hq : rs[v]? = some rs[v] := List.getElem?_eq_getElem hv
  have hqm := List.getElem_mem hv
  generalize rs[v] = qr at hq hqm
  obtain ⟨t1, t2⟩ := hrw qr hqm
  have hlq := h4 _ (List.mem_of_getElem? (get_sxr hq))
  refine ⟨_, rfl, _, rfl, a, _, _, _, rfl, rfl, hA, atI_nat (get_refR hq), qr.1, _, 2, _, rfl, rfl, SqT.of t1, rfl, qr.2.1, rfl, ⟨_, SqT.of t2⟩, fun D hD => lc_tup (K := K) (a := qr.2.1) (xs := qr.2.2.2.2.map V.int) (fun i H3 => Same H H3 ∧ H3 D = some (ilst ((qr.2.2.2.2.take i).filter fun t => decide (t ∈ nmap P)))) ⟨same_new hD, upd_same⟩ (fun i H3 _ h => SqT.of (h.1 _ _ t2)) ?_ ?_⟩
  · rintro i x H3 hi ⟨s3, h3⟩
    obtain ⟨t, ht, rfl⟩ := map_get hi
    have hfl := List.length_filter_le (fun t => decide (t ∈ nmap P)) (qr.2.2.2.2.take i)
    rw [List.length_take] at hfl
    rw [filter_snoc ht]
    refine ⟨rfl, _, rfl, _, rfl, b, _, rfl, .inl (s3.seq hB), rfl, flat_ints _, _, rfl, ?_⟩
    show if inV (.int t) ((nmap P).map V.int) = true then _ else _
    rw [inV_int]
    refine if2 (fun e => ?_) (fun e => ?_)
    · rw [decide_eq_true e, if_pos rfl]
      refine ⟨_, rfl, _, h3, small1000 (by rw [List.length_map]; omega), same_mut s3 hD, ?_⟩
      rw [upd_same]
      unfold ilst
      rw [List.map_append]
      rfl
    · rw [decide_eq_false e, if_neg (by decide), List.append_nil]
      exact ⟨s3, h3⟩
  rintro H3 ⟨s3, h3⟩
  rw [List.length_map, List.take_length] at h3
  have hfl := List.length_filter_le (fun t => decide (t ∈ nmap P)) qr.2.2.2.2
  refine ⟨D, _, rfl, SqL.of h3, ?_, fun sb c nb hc => ?_⟩
  · have : scanBound = 4096 := rfl
    omega
  refine ⟨sb, _, c, rfl, upd_same, by omega, fun ds p srt mem _ np => ?_⟩
  refine q _ p ?_ ?_ ?_
  · exact (s3.trans (same_new nb)).trans (same_new np)
  · exact (s3.trans (same_new nb)).free np
  · rw [upd_same, inn_eq hP (get_sxr hq) srt fun x => by rw [mem]; exact decide_eq_true_iff]
theorem ok_l_kind (T : Txt K mg) : Good P w K mg base 2 (He.ga K "_law_kind") ["_law_rows", "_law_part"] [] (sp_l_kind K) := by
  refine good_of T.f_l_kind sc_l_kind (fun vs H Q E h => ?_) (fun _ _ _ _ _ _ us hl => match us, hl with | [_, _], _ => rfl) (fun cdv A outer s H vs Q E hr h => ?_)
  · obtain ⟨_, _, _, _, rfl, _⟩ := h
    rfl
  refine ⟨_, (pss_cons (ps_setLc (i := 2) (own := [("_law_node", 3)]) (g := (gName 3)) (tt := tYes) rfl sc_l_kind.nd rfl rfl (sw_true rfl rfl rfl (by decide +kernel)) (pi_list (pv 1)) (blkOk_by (own := [("_law_node", 3)]) (N := ["_law_rows", "_law_part", "_law_counts", "_law_node"]) (sc := defScope s_l_kind) (by decide +kernel)) (fun _ _ _ _ _ => (pg_name (i := 3) sc_l_kind.nd rfl (Or.inl rfl))) (fun _ _ _ _ _ => pts_nil) (fun _ _ _ _ _ => (pe_callB (call_lenE (K := K) rfl) (by rfl) T.z_len (by decide +kernel) (pa_cons (pe_cg (ok_l_inner T) (hr.mono (j := 1) (by decide)) (by rfl) T.g_l_inner (pa_cons (pv 0) (pa_cons (pv 1) (pa_cons (pv 3) pa_nil)))) pa_nil))))
  (pss_cons (ps_if (pt_cmpR op_eq (pe_callB (cr_max rfl) (by rfl) T.z_max (by decide +kernel) (pa_cons (pv 2) pa_nil)) pe_int (nomark _))
    (pss_one (ps_ret pe_str))
    pss_nil)
  (pss_cons (ps_if (pt_cmpR op_eq (pe_callB (cr_max rfl) (by rfl) T.z_max (by decide +kernel) (pa_cons (pv 2) pa_nil)) pe_int (nomark _))
    (pss_one (ps_ret pe_str))
    pss_nil)
  (pss_one (ps_ret pe_str))))), ?_⟩
  obtain ⟨g, a, rs, P, rfl, hG, hrw, hA, hP, hne, hl, hv, h4, q⟩ := h
  have hpl := List.length_pos_iff.mpr hne
  refine ⟨_, rfl, a, rfl, ⟨_, hA⟩, fun D hD => lc_list (K := K) (a := a) (xs := (nmap P).map V.int) (fun i H3 => Same H H3 ∧ H3 D = some (ilst (nmap ((P.take i).map fun v => (inn (sxr rs) P v).length)))) ⟨same_new hD, upd_same⟩ (fun i H3 _ h => h.1.seq hA) ?_ ?_⟩
  · rintro i x H3 hi ⟨s3, h3⟩
    obtain ⟨v, hv2, rfl⟩ := nmap_ge hi
    have hvi := hv v (List.mem_of_getElem? hv2)
    refine ⟨rfl, yes_then ⟨_, rfl, _, rfl, _, rfl, g, a, rs, P, v, rfl, s3.seq hG, hrw.same s3, s3.seq hA, hP, hvi, h4, fun H4 p s4 np hp => ⟨p, _, rfl, .inl (SqL.of hp), ?_⟩⟩⟩
    have h34 := s4 _ _ h3
    refine ⟨_, h34, small1000 (by unfold nmap; rw [List.length_map, List.length_map, List.length_map, List.length_take]; omega), same_mut (s3.trans s4) hD, ?_⟩
    rw [upd_same, List.take_add_one, hv2, List.map_append]
    unfold ilst nmap
    rw [List.map_append, List.map_append, List.length_map, List.length_map]
    rfl
  rintro H3 ⟨s3, h3⟩
  rw [nmap_len2, List.take_length] at h3
  have hnl : 0 < (nmap (P.map fun v => (inn (sxr rs) P v).length)).length := by unfold nmap; rw [List.length_map, List.length_map]; omega
  have em : ∀ m : Int, m ∈ nmap (P.map fun v => (inn (sxr rs) P v).length) → (∀ y, y ∈ nmap (P.map fun v => (inn (sxr rs) P v).length) → y ≤ m) → m = (knd (sxr rs) P : Int) := fun m hm hle => by
    obtain ⟨k, hk, rfl⟩ := nmap_mem.mp hm
    have : knd (sxr rs) P = k := mxN_eq hk fun y hy => by
      have := hle (y : Int) (mem_nmap.mpr hy)
      omega
    rw [this]
  have q := q H3 s3
  unfold kindS at q
  refine ⟨_, rfl, D, _, rfl, SqL.of h3, hnl, fun m hm hle => ?_⟩
  rw [em m hm hle]
  refine ⟨rfl, _, rfl, if2 (fun e => ?_) (fun e => ⟨_, rfl, D, _, rfl, SqL.of h3, hnl, fun m2 hm2 hle2 => ?_⟩)⟩
  · have e := V.int.inj e
    rw [if_pos (by omega)] at q
    exact q
  · rw [em m2 hm2 hle2]
    refine ⟨rfl, _, rfl, if2 (fun e2 => ?_) (fun e2 => ?_)⟩
    · have e2 := V.int.inj e2
      rw [if_neg (by omega), if_pos (by omega)] at q
      exact q
    · rw [if_neg (fun h => e (congrArg V.int (by omega))), if_neg (fun h => e2 (congrArg V.int (by omega)))] at q
      exact q
theorem ok_l_around (T : Txt K mg) : Good P w K mg base 2 (He.ga K "_law_around") ["_law_rows", "_law_part"] [] (sp_l_around K) := by
  refine good_of T.f_l_around sc_l_around (fun vs H Q E h => ?_) (fun _ _ _ _ _ _ us hl => match us, hl with | [_, _], _ => rfl) (fun cdv A outer s H vs Q E hr h => ?_)
  · obtain ⟨_, _, _, _, rfl, _⟩ := h
    rfl
  refine ⟨_, (pss_cons (ps_set (i := 2) sc_l_around.nd rfl (Or.inl rfl) (pe_lst (pa_cons (pe_ix ix_list (pv 1) pe_int (fun _ _ => rfl)) pa_nil)))
  (pss_cons (ps_for PassesOwn.never rfl (pi_range1 (by rfl) T.z_range (pa_cons (pe_op op_sub (pe_callB call_len_seq (by rfl) T.z_len (by decide +kernel) (pa_cons (pv 1) pa_nil)) pe_int) pa_nil)) (pg_name (i := 3) sc_l_around.nd rfl (Or.inl rfl))
    (pss_one (ps_expr (pe_bm PySem.F.plainAttrs_list PySem.F.slot_list_append PySem.F.type_list_append mt_append (pv 2) (pa_cons (pe_ix ix_list (pe_cg (ok_l_inner T) (hr.mono (j := 1) (by decide)) (by rfl) T.g_l_inner (pa_cons (pv 0) (pa_cons (pv 1) (pa_cons (pe_ix ix_list (pv 2) (pe_un un_neg pe_int) (fun _ _ => rfl)) pa_nil)))) pe_int (fun _ _ => rfl)) pa_nil)))))
  (pss_one (ps_ret (pv 2))))), ?_⟩
  obtain ⟨g, a, rs, P, rfl, hG, hrw, hok, hA, hcl, hk, q⟩ := h
  have hgl := sxr_len rs
  have hfew := hok.few
  have hEd : ∀ u v, Ed (sxr rs) u v → v < (sxr rs).length := fun u v e => ed_lt2 hok.g e
  have hring := hcl.ring hEd hk
  have hPl := List.length_pos_iff.mpr hcl.ne
  have hPn := clp_len hcl
  have h4 : ∀ l ∈ sxr rs, l.length ≤ 4 := fun l hl => (hok.g.rows l hl).2.1
  have h0 : ((nmap P).map V.int)[0]? = some (.int (P.headD 0 : Int)) := by
    obtain ⟨x, t, e⟩ := List.exists_cons_of_ne_nil hcl.ne
    rw [e]
    rfl
  refine ⟨_, rfl, a, _, 0, _, rfl, rfl, hA, atI_nat (j := 0) h0, (by show 1 ≤ sizeLine; decide), fun ap nap => ?_⟩
  have s1 := same_new (o := .lst [.int (P.headD 0 : Int)]) nap
  have hap : upd H ap (.lst [.int (P.headD 0 : Int)]) ap = some (ilst (nmap (aro (sxr rs) P 0))) := upd_same
  generalize upd H ap (.lst [.int (P.headD 0 : Int)]) = H1 at s1 hap ⊢
  refine ⟨_, rfl, a, _, rfl, .inl (s1.seq hA), _, _, rfl, rfl, ((P.length - 1 : Nat) : Int), congrArg (fun z => [V.int z]) (by rw [nmap_len2]; omega), by omega, by omega, for_range (n := P.length - 1) (fun k σ H2 => Same H H2 ∧ H2 ap = some (ilst (nmap (aro (sxr rs) P k))) ∧ ∃ y3, σ = [some (.ref g), some (.ref a), some (.ref ap), y3])
    ⟨s1, hap, none, rfl⟩ ?_ ?_⟩
  · rintro k σ H2 hkl ⟨s2, hap2, y3, rfl⟩
    have hal := aro_len (sxr rs) P k
    have hom := orb_mem hcl.ne hring k
    obtain ⟨u, hu⟩ := hring _ hom
    have hvl := hcl.lt _ hom
    have eu : orb (sxr rs) P (k + 1) = u := by
      show (inn (sxr rs) P (orb (sxr rs) P k)).headD 0 = u
      rw [hu]
      rfl
    refine ⟨_, rfl, .inl ⟨rfl, _, SqL.of hap2⟩, _, rfl, _, rfl, _, rfl, _, rfl, ap, _, _, _, rfl, rfl, SqL.of hap2, aro_lst k, g, a, rs, P, orb (sxr rs) P k, rfl, s2.seq hG, hrw.same s2, s2.seq hA, hcl.asc, by omega, h4, fun H3 ip s3 nip hip => ?_⟩
    rw [hu] at hip
    have hap3 := s3 _ _ hap2
    refine ⟨ip, _, 0, .int (u : Int), rfl, rfl, SqL.of hip, rfl, ap, _, _, rfl, rfl, hap3, small1000 (by rw [nmap_len2, hal]; omega), same_mut (s2.trans s3) nap, ?_, _, rfl⟩
    rw [upd_same, aro_push, eu]
    unfold ilst nmap
    rw [List.map_append, List.map_append]
    rfl
  · rintro σ H2 ⟨s2, hap2, y3, rfl⟩
    exact ⟨_, rfl, q H2 ap s2 nap hap2⟩
theorem ok_l_doors (T : Txt K mg) : Good P w K mg base 1 (He.ga K "_law_doors") ["_law_rows", "_law_around_here"] [] (sp_l_doors K) := by
  refine good_of T.f_l_doors sc_l_doors (fun vs H Q E h => ?_) (fun _ _ _ _ _ _ us hl => match us, hl with | [_, _], _ => rfl) (fun cdv A outer s H vs Q E hr h => ?_)
  · obtain ⟨_, _, _, _, rfl, _⟩ := h
    rfl
  refine ⟨_, (pss_cons (ps_set (i := 2) sc_l_doors.nd rfl (Or.inl rfl) (pe_lst pa_nil))
  (pss_cons (ps_for PassesOwn.never rfl (pi_range1 (by rfl) T.z_range (pa_cons (pe_callB call_len_seq (by rfl) T.z_len (by decide +kernel) (pa_cons (pv 1) pa_nil)) pa_nil)) (pg_name (i := 3) sc_l_doors.nd rfl (Or.inl rfl))
    (pss_cons (ps_set (i := 4) sc_l_doors.nd rfl (Or.inl rfl) (pe_cmpR op_eq (pe_ix ix_list (pv 1) (pv 3) (fun _ _ => rfl)) pe_int (nomark _)))
  (pss_cons (ps_for PassesOwn.never rfl (pi_range1 (by rfl) T.z_range (pa_cons (pe_callB call_len_seq (by rfl) T.z_len (by decide +kernel) (pa_cons (pv 0) pa_nil)) pa_nil)) (pg_name (i := 5) sc_l_doors.nd rfl (Or.inl rfl))
    (pss_one (ps_if (pw_and (pt_cmpR op_notIn_seq (pv 5) (pv 1) (by rfl)) (pw_and1 (pt_cmpR op_in_seq (pe_ix ix_list (pv 1) (pv 3) (fun _ _ => rfl)) (pe_ix ix_tup (pe_ix ix_list (pv 0) (pv 5) (fun _ _ => rfl)) pe_int (fun _ _ => rfl)) (by rfl)))).pt
    (pss_one (ps_set (i := 4) sc_l_doors.nd rfl (Or.inl rfl) pe_bl))
    pss_nil)))
  (pss_one (ps_if (pt_val (pv 4))
    (pss_one (ps_expr (pe_bm PySem.F.plainAttrs_list PySem.F.slot_list_append PySem.F.type_list_append mt_append (pv 2) (pa_cons (pv 3) pa_nil))))
    pss_nil)))))
  (pss_one (ps_ret (pv 2))))), ?_⟩
  obtain ⟨a, b, rs, A2, rfl, hA, hrw, hl, hB, hl2, q⟩ := h
  have erl : (refR rs).length = rs.length := List.length_map ..
  refine ⟨Nat.zero_le _, fun tp ntp => ?_⟩
  have s1 := same_new (o := .lst []) ntp
  have htp1 : upd H tp (.lst []) tp = some (ilst (nmap [])) := upd_same
  generalize upd H tp (.lst []) = H1 at s1 htp1 ⊢
  refine ⟨_, rfl, b, _, rfl, .inl (s1.seq hB), ((((nmap A2).map V.int).length : Nat) : Int), rfl, by omega, by rw [nmap_len2]; omega, for_range (n := ((nmap A2).map V.int).length) (fun i σ H2 => Same H H2 ∧ H2 tp = some (ilst (nmap ((List.range i).filter fun p => @decide (isDoor (sxr rs) A2 (A2.getD p 0)) (Classical.propDecidable _)))) ∧ ∃ y3 y4 y5, σ = [some (.ref a), some (.ref b), some (.ref tp), y3, y4, y5])
    ⟨s1, htp1, none, none, none, rfl⟩ ?_ ?_⟩
  · rintro i σ H2 hi ⟨s2, htp2, y3, y4, y5, rfl⟩
    rw [nmap_len2] at hi
    have ei : (0 + (i : Int)) = (i : Int) := by omega
    have hv : A2[i]? = some A2[i] := List.getElem?_eq_getElem hi
    have egd : A2.getD i 0 = A2[i] := by rw [List.getD_eq_getElem?_getD, hv]; rfl
    generalize A2[i] = v at hv egd
    have hB2 := s2.seq hB
    have hA2 := s2.seq hA
    refine ⟨_, rfl, _, rfl, b, _, _, _, rfl, rfl, hB2, atI0 (nmap_g hv), rfl, ?_⟩
    refine ⟨_, rfl, a, _, rfl, .inl hA2, (((refR rs).length : Nat) : Int), rfl, by omega, by omega, for_range (n := (refR rs).length) (fun j σ H3 => H3 = H2 ∧ ∃ (c : Bool) (y5 : Option V), (c = true ↔ v = 0 ∨ ∃ o, o < j ∧ o ∉ A2 ∧ Ed (sxr rs) o v) ∧ σ = [some (.ref a), some (.ref b), some (.ref tp), some (.int (0 + (i : Int))), some (.bl c), y5])
      ⟨rfl, _, _, ?_, rfl⟩ ?_ ?_⟩
    · rw [decide_eq_true_iff]
      exact ⟨fun h => .inl (Int.ofNat.inj (V.int.inj h)), fun h => h.elim (fun h => by rw [h]; rfl) fun ⟨o, ho, _⟩ => absurd ho (Nat.not_lt_zero _)⟩
    · rintro j σ H3 hj ⟨rfl, c, z5, hc, rfl⟩
      rw [erl] at hj
      have ej : (0 + (j : Int)) = (j : Int) := by omega
      have hq : rs[j]? = some rs[j] := List.getElem?_eq_getElem hj
      have hqm := List.getElem_mem hj
      generalize rs[j] = qr at hq hqm
      obtain ⟨t1, t2⟩ := hrw qr hqm
      have hlg := get_sxr hq
      have hjA : inV (.int (0 + (j : Int))) ((nmap A2).map V.int) = decide ((j : Int) ∈ nmap A2) := by rw [ej, inV_int]
      have hlast : ∀ c2 : Bool, (c2 = true ↔ c = true ∨ (j ∉ A2 ∧ Ed (sxr rs) j v)) → (c2 = true ↔ v = 0 ∨ ∃ o, o < j + 1 ∧ o ∉ A2 ∧ Ed (sxr rs) o v) := fun c2 h => by
        rw [h, hc]
        refine ⟨fun h => h.elim (fun h => h.imp id fun ⟨o, h1, h2⟩ => ⟨o, by omega, h2⟩) fun h => .inr ⟨j, Nat.lt_succ_self _, h⟩, fun h => ?_⟩
        rcases h with h | ⟨o, h1, h2⟩
        · exact .inl (.inl h)
        · by_cases e : o = j
          · rw [e] at h2
            exact .inr h2
          · exact .inl (.inr ⟨o, by omega, h2⟩)
      refine ⟨_, rfl, _, rfl, b, _, rfl, .inl hB2, rfl, flat_ints _, _, rfl, ?_⟩
      show if (!inV (.int (0 + (j : Int))) ((nmap A2).map V.int)) = true then _ else _
      rw [hjA]
      by_cases hm : j ∈ A2
      · refine ifNF (mem_nmap.mpr hm) (iteF ⟨rfl, c, _, hlast c ⟨.inl, fun h => h.elim id fun h => absurd hm h.1⟩, rfl⟩)
      · refine ifNT (fun h => hm (mem_nmap.mp h)) ⟨_, rfl, _, rfl, b, _, _, _, rfl, rfl, hB2, atI0 (nmap_g hv), _, rfl, _, rfl, a, _, _, _, rfl, rfl, hA2, atI0 (get_refR hq), qr.1, _, 2, _, rfl, rfl, SqT.of (s2 _ _ t1), rfl, qr.2.1, _, rfl, .inr (SqT.of (s2 _ _ t2)), rfl, flat_ints _, _, rfl, ?_⟩
        show if inV (.int (v : Int)) (qr.2.2.2.2.map V.int) = true then _ else _
        rw [inV_int]
        refine if2 (fun e => ?_) (fun e => ?_)
        · exact ⟨rfl, true, _, hlast true ⟨fun _ => .inr ⟨hm, _, hlg, e⟩, fun _ => rfl⟩, rfl⟩
        · refine ⟨rfl, c, _, hlast c ⟨.inl, fun h => h.elim id fun ⟨_, l, h1, h2⟩ => ?_⟩, rfl⟩
          rw [hlg] at h1
          rw [← Option.some.inj h1] at h2
          exact absurd h2 e
    · rintro σ H3 ⟨rfl, c, z5, hc, rfl⟩
      rw [erl] at hc
      have hd : c = true ↔ isDoor (sxr rs) A2 (A2.getD i 0) := by
        rw [hc, egd]
        refine ⟨fun h => h.imp id fun ⟨o, _, h⟩ => ⟨o, h⟩, fun h => h.imp id fun ⟨o, h⟩ => ⟨o, ?_, h⟩⟩
        have := ed_lt h.2
        rw [sxr_len] at this
        exact this
      have hfl := List.length_filter_le (fun p => @decide (isDoor (sxr rs) A2 (A2.getD p 0)) (Classical.propDecidable _)) (List.range i)
      rw [List.length_range] at hfl
      refine ⟨_, rfl, c, rfl, ?_⟩
      rw [List.range_succ, List.filter_append]
      cases c with
      | true =>
        rw [List.filter_cons_of_pos (p := fun p => @decide (isDoor (sxr rs) A2 (A2.getD p 0)) (Classical.propDecidable _)) (@decide_eq_true _ (Classical.propDecidable _) (hd.mp rfl))]
        refine iteT ⟨_, rfl, .inl ⟨rfl, _, SqL.of htp2⟩, _, rfl, tp, _, _, rfl, rfl, htp2, small1000 (by rw [nmap_len2]; omega), same_mut s2 ntp, ?_, _, _, _, rfl⟩
        rw [upd_same, ei]
        unfold ilst nmap
        rw [List.map_append, List.map_append]
        rfl
      | false =>
        rw [List.filter_cons_of_neg (p := fun p => @decide (isDoor (sxr rs) A2 (A2.getD p 0)) (Classical.propDecidable _)) (by rw [@decide_eq_false _ (Classical.propDecidable _) fun h => absurd (hd.mpr h) (by decide)]; decide), List.filter_nil, List.append_nil]
        exact iteF ⟨s2, htp2, _, _, _, rfl⟩
  · rintro σ H2 ⟨s2, htp2, y3, y4, y5, rfl⟩
    rw [nmap_len2] at htp2
    exact ⟨_, rfl, q H2 tp s2 ntp htp2⟩
theorem dist_in {n s e : Nat} (hs : s < n) (he : e < n) : (s + (e + n - s) % n) % n = e ∧ (e + n - s) % n < n ∧ ∀ i, i < (e + n - s) % n → (s + i) % n ≠ e := by
  have hd : (e + n - s) % n = if s ≤ e then e - s else e + n - s := by
    split
    · have : e + n - s = (e - s) + n := by omega
      rw [this, Nat.add_mod_right, Nat.mod_eq_of_lt (by omega)]
    · exact Nat.mod_eq_of_lt (by omega)
  have hmod : ∀ x, x < 2 * n → x % n = if x < n then x else x - n := fun x hx => by
    split
    · exact Nat.mod_eq_of_lt (by assumption)
    · have : x = (x - n) + n := by omega
      rw [this, Nat.add_mod_right, Nat.mod_eq_of_lt (by omega)]
      omega
  rw [hd]
  refine ⟨?_, ?_, fun i hi => ?_⟩
  · split
    · rw [hmod _ (by omega)]
      split <;> omega
    · rw [hmod _ (by omega)]
      split <;> omega
  · split <;> omega
  · split at hi
    · rw [hmod _ (by omega)]
      split <;> omega
    · rw [hmod _ (by omega)]
      split <;> omega
theorem ok_l_far (T : Txt K mg) : Good P w K mg base 1 (He.ga K "_law_far") ["_law_prices", "_law_start", "_law_end"] [] (sp_l_far K) := by
  refine good_of T.f_l_far sc_l_far (fun vs H Q E h => ?_) (fun _ _ _ _ _ _ us hl => match us, hl with | [_, _, _], _ => rfl) (fun cdv A outer s H vs Q E hr h => ?_)
  · obtain ⟨_, _, _, _, rfl, _⟩ := h
    rfl
  refine ⟨_, (pss_cons (ps_set (i := 3) sc_l_far.nd rfl (Or.inl rfl) pe_int)
  (pss_cons (ps_set (i := 4) sc_l_far.nd rfl (Or.inl rfl) (pv 1))
  (pss_cons (ps_for PassesOwn.never rfl (pi_range1 (by rfl) T.z_range (pa_cons (pe_callB call_len_seq (by rfl) T.z_len (by decide +kernel) (pa_cons (pv 0) pa_nil)) pa_nil)) (pg_name (i := 5) sc_l_far.nd rfl (Or.inl rfl))
    (pss_one (ps_if (pt_cmpR op_ne (pv 4) (pv 2) (nomark _))
    (pss_cons (ps_set (i := 3) sc_l_far.nd rfl (Or.inl rfl) (pe_op op_add (pv 3) (pe_ix ix_list (pv 0) (pv 4) (fun _ _ => rfl))))
  (pss_one (ps_set (i := 4) sc_l_far.nd rfl (Or.inl rfl) (pe_op op_mod (pe_callTy call_int1 (by rfl) T.z_int (by decide +kernel) (pa_cons (pe_op op_add (pv 4) pe_int) pa_nil)) (pe_callB call_len_seq (by rfl) T.z_len (by decide +kernel) (pa_cons (pv 0) pa_nil))))))
    pss_nil)))
  (pss_one (ps_ret (pv 3)))))), ?_⟩
  obtain ⟨a, pr, s0, e0, rfl, hA, hl, hs, he, q⟩ := h
  obtain ⟨d1, d2, d3⟩ := dist_in hs he
  generalize (e0 + pr.length - s0) % pr.length = d at d1 d2 d3 q
  have epl : (pr.map V.int).length = pr.length := List.length_map ..
  refine ⟨_, rfl, .ref a, rfl, a, _, rfl, .inl hA, (((pr.map V.int).length : Nat) : Int), rfl, by omega, by omega, for_range (n := (pr.map V.int).length) (fun i σ H2 => H2 = H ∧ ∃ y5, σ = [some (.ref a), some (.int (s0 : Int)), some (.int (e0 : Int)), some (.int (cyc pr s0 (min i d))), some (.int (((s0 + min i d) % pr.length : Nat) : Int)), y5])
    ⟨rfl, none, ?_⟩ ?_ ?_⟩
  · show [_, _, _, _, some (V.int (s0 : Int)), _] = _
    rw [Nat.zero_min, Nat.add_zero, Nat.mod_eq_of_lt hs]
    rfl
  · rintro i σ H2 hi ⟨rfl, y5, rfl⟩
    rw [epl] at hi
    refine ⟨_, rfl, _, rfl, rfl, _, rfl, ?_⟩
    by_cases hid : i < d
    · have e1 : min i d = i := by omega
      have e2 : min (i + 1) d = i + 1 := by omega
      rw [e1, e2]
      have hm := Nat.mod_lt (s0 + i) (show 0 < pr.length by omega)
      have hg : (pr.map V.int)[(s0 + i) % pr.length]? = some (.int (pr.getD ((s0 + i) % pr.length) 0)) := by
        rw [List.getElem?_map, List.getD_eq_getElem?_getD, List.getElem?_eq_getElem hm]
        rfl
      refine ifNT (int_ne fun h => d3 i hid (Int.ofNat.inj h)) ⟨_, rfl, .ref a, rfl, _, rfl, a, _, _, _, rfl, rfl, hA, atI_nat hg, _, _, rfl, rfl, _, rfl, _, _, rfl, rfl, .inl ⟨_, rfl, .ref a, rfl, a, _, rfl, .inl hA, _, _, rfl, rfl, by omega, rfl, some (.int (0 + (i : Int))), ?_⟩⟩
      rw [cyc_succ]
      have e3 : ((((s0 + i) % pr.length : Nat) : Int) + 1) % ((pr.map V.int).length : Int) = (((s0 + (i + 1)) % pr.length : Nat) : Int) := by
        rw [epl]
        have : (((((s0 + i) % pr.length) + 1) % pr.length : Nat) : Int) = ((((s0 + i) % pr.length : Nat) : Int) + 1) % (pr.length : Int) := Int.natCast_emod _ _
        rw [← this, Nat.mod_add_mod]
        rfl
      show [_, _, _, _, some (V.int (((((s0 + i) % pr.length : Nat) : Int) + 1) % ((pr.map V.int).length : Int))), _] = _
      rw [e3]
    · have e1 : min i d = d := by omega
      have e2 : min (i + 1) d = d := by omega
      rw [e1, e2, d1]
      exact ifNF rfl ⟨rfl, _, rfl⟩
  · rintro σ H2 ⟨rfl, y5, rfl⟩
    rw [epl]
    have e1 : min pr.length d = d := by omega
    rw [e1]
    exact ⟨_, rfl, q⟩
theorem ok_l_gap (T : Txt K mg) : Good P w K mg base 2 (He.ga K "_law_gap") ["_law_prices", "_law_gates", "_law_k"] [] (sp_l_gap K) := by
  refine good_of T.f_l_gap sc_l_gap (fun vs H Q E h => ?_) (fun _ _ _ _ _ _ us hl => match us, hl with | [_, _, _], _ => rfl) (fun cdv A outer s H vs Q E hr h => ?_)
  · obtain ⟨_, _, _, _, _, rfl, _⟩ := h
    rfl
  refine ⟨_, (pss_cons (ps_if (pt_cmpR op_eq (pe_callB call_len_seq (by rfl) T.z_len (by decide +kernel) (pa_cons (pv 1) pa_nil)) pe_int (nomark _))
    (pss_one (ps_ret (pe_callB (cr_sum rfl) (by rfl) T.z_sum (by decide +kernel) (pa_cons (pv 0) pa_nil))))
    pss_nil)
  (pss_one (ps_ret (pe_cg (ok_l_far T) (hr.mono (j := 1) (by decide)) (by rfl) T.g_l_far (pa_cons (pv 0) (pa_cons (pe_ix ix_list (pv 1) (pv 2) (fun _ _ => rfl)) (pa_cons (pe_ix ix_list (pv 1) (pe_op op_mod (pe_callTy call_int1 (by rfl) T.z_int (by decide +kernel) (pa_cons (pe_op op_add (pv 2) pe_int) pa_nil)) (pe_callB call_len_seq (by rfl) T.z_len (by decide +kernel) (pa_cons (pv 1) pa_nil))) (fun _ _ => rfl)) pa_nil))))))), ?_⟩
  obtain ⟨a, b, pr, D, k, rfl, hA, hl, hb2, ⟨d0, dl, d1⟩, hk, q⟩ := h
  unfold gapP at q
  refine ⟨.ref b, rfl, b, _, rfl, .inl hb2, rfl, _, rfl, if2 (fun e => ?_) (fun e => ?_)⟩
  · have e := V.int.inj e
    rw [nmap_len2] at e
    rw [if_pos (by omega)] at q
    exact ⟨_, rfl, a, pr, rfl, hA, q⟩
  · have e : D.length ≠ 1 := fun e2 => e (by rw [nmap_len2, e2]; rfl)
    rw [if_neg e] at q
    have hk1 : (k + 1) % D.length < D.length := Nat.mod_lt _ (by omega)
    have g1 : D[k]? = some D[k] := List.getElem?_eq_getElem hk
    have g2 : D[(k + 1) % D.length]? = some D[(k + 1) % D.length] := List.getElem?_eq_getElem hk1
    have m1 := d1 _ (List.mem_of_getElem? g1)
    have m2 := d1 _ (List.mem_of_getElem? g2)
    rw [List.getD_eq_getElem?_getD, List.getD_eq_getElem?_getD, g1, g2] at q
    have ek : ((k : Int) + 1) % (((nmap D).map V.int).length : Int) = (((k + 1) % D.length : Nat) : Int) := by
      rw [nmap_len2]
      exact (Int.natCast_emod (k + 1) D.length).symm
    refine ⟨_, rfl, _, rfl, _, rfl, b, _, _, _, rfl, rfl, hb2, atI_nat (nmap_g g1), _, rfl, _, rfl, _, _, rfl, rfl, .inl ⟨_, rfl, .ref b, rfl, b, _, rfl, .inl hb2, _, _, rfl, rfl, by rw [nmap_len2]; omega, ?_⟩⟩
    refine ⟨b, _, _, _, rfl, rfl, hb2, ?_, a, pr, _, _, rfl, hA, hl, m1, m2, q⟩
    rw [ek]
    exact atI_nat (nmap_g g2)
theorem ok_l_cost (T : Txt K mg) : Good P w K mg base 3 (He.ga K "_law_cost") ["_law_prices", "_law_gates"] [] (sp_l_cost K) := by
  refine good_of T.f_l_cost sc_l_cost (fun vs H Q E h => ?_) (fun _ _ _ _ _ _ us hl => match us, hl with | [_, _], _ => rfl) (fun cdv A outer s H vs Q E hr h => ?_)
  · obtain ⟨_, _, _, _, rfl, _⟩ := h
    rfl
  refine ⟨_, (pss_one (ps_ret (pe_op op_sub (pe_callB (cr_sum rfl) (by rfl) T.z_sum (by decide +kernel) (pa_cons (pv 0) pa_nil)) (pe_callB (cr_max rfl) (by rfl) T.z_max (by decide +kernel) (pa_cons (pe_lc (own := [("_law_k", 2)]) (g := (gName 2)) (tt := tYes) rfl sc_l_cost.nd (pi_range1 (by rfl) T.z_range (pa_cons (pe_callB call_len_seq (by rfl) T.z_len (by decide +kernel) (pa_cons (pv 1) pa_nil)) pa_nil)) (blkOk_by (own := [("_law_k", 2)]) (N := ["_law_prices", "_law_gates", "_law_k"]) (sc := defScope s_l_cost) (by decide +kernel)) (fun _ _ _ _ _ => (pg_name (i := 2) sc_l_cost.nd rfl (Or.inl rfl))) (fun _ _ _ _ _ => pts_nil) (fun _ _ _ _ _ => (pe_cg (ok_l_gap T) (hr.mono (j := 2) (by decide)) (by rfl) T.g_l_gap (pa_cons (pv 0) (pa_cons (pv 1) (pa_cons (pv 2) pa_nil)))))) pa_nil))))), ?_⟩
  obtain ⟨a, b, pr, D, rfl, hA, hl, hB, hD, q⟩ := h
  have d0l : D.length ≠ 0 := fun e => hD.1 (List.length_eq_zero_iff.mp e)
  have hdl := hD.2.1
  refine ⟨_, rfl, a, pr, rfl, hA, _, rfl, b, _, rfl, .inl hB, ((((nmap D).map V.int).length : Nat) : Int), rfl, by omega, by rw [nmap_len2]; omega, fun L hL => lc_range (n := ((nmap D).map V.int).length) (fun i H3 => Same H H3 ∧ H3 L = some (ilst ((List.range i).map (gapP pr D)))) ⟨same_new hL, upd_same⟩ ?_ ?_⟩
  · rintro i H3 hi ⟨s3, h3⟩
    rw [nmap_len2] at hi
    have ei : (0 + (i : Int)) = (i : Int) := by omega
    refine ⟨rfl, yes_then ⟨_, rfl, _, rfl, _, rfl, a, b, pr, D, i, congrArg (fun z => [V.ref a, V.ref b, V.int z]) ei, s3.seq hA, hl, s3.seq hB, hD, hi, _, h3, small1000 (by rw [List.length_map, List.length_map, List.length_range]; omega), same_mut s3 hL, ?_⟩⟩
    rw [upd_same, List.range_succ, List.map_append]
    unfold ilst
    rw [List.map_append]
    rfl
  rintro H3 ⟨s3, h3⟩
  rw [nmap_len2] at h3
  refine ⟨L, _, rfl, SqL.of h3, by rw [List.length_map, List.length_range]; omega, fun m hm hle => ⟨_, _, rfl, rfl, ?_⟩⟩
  have := q H3 s3
  unfold costP at this
  rw [mxI_eq hm hle] at this
  exact this
theorem wor_wild {g : Nx} {pr : List Int} {bs : List Nat} (h : Wld g bs) : wor g pr bs = -1 := by
  unfold wor
  rw [if_pos h]
theorem ok_l_value (T : Txt K mg) : Good P w K mg base 4 (He.ga K "_law_value") ["_law_rows", "_law_parts_here"] [] (sp_l_value K) := by
  refine good_of T.f_l_value sc_l_value (fun vs H Q E h => ?_) (fun _ _ _ _ _ _ us hl => match us, hl with | [_, _], _ => rfl) (fun cdv A outer s H vs Q E hr h => ?_)
  · obtain ⟨_, _, _, _, _, rfl, _⟩ := h
    rfl
  refine ⟨_, (pss_cons (ps_set (i := 2) sc_l_value.nd rfl (Or.inl rfl) pe_int)
  (pss_cons (ps_for PassesOwn.never rfl (pi_list (pv 1)) (pg_name (i := 3) sc_l_value.nd rfl (Or.inl rfl))
    (pss_cons (ps_set (i := 4) sc_l_value.nd rfl (Or.inl rfl) (pe_cg (ok_l_kind T) (hr.mono (j := 2) (by decide)) (by rfl) T.g_l_kind (pa_cons (pv 0) (pa_cons (pv 3) pa_nil))))
  (pss_cons (ps_if (pt_cmpR op_eq (pv 4) pe_str (nomark _))
    (pss_one (ps_ret (pe_un un_neg pe_int)))
    pss_nil)
  (pss_one (ps_if (pt_cmpR op_eq (pv 4) pe_str (nomark _))
    (pss_cons (ps_set (i := 5) sc_l_value.nd rfl (Or.inl rfl) (pe_cg (ok_l_around T) (hr.mono (j := 2) (by decide)) (by rfl) T.g_l_around (pa_cons (pv 0) (pa_cons (pv 3) pa_nil))))
  (pss_one (ps_set (i := 2) sc_l_value.nd rfl (Or.inl rfl) (pe_op op_add (pv 2) (pe_cg (ok_l_cost T) (hr.mono (j := 3) (by decide)) (by rfl) T.g_l_cost (pa_cons (pe_lc (own := [("_law_node", 6)]) (g := (gName 6)) (tt := tYes) rfl sc_l_value.nd (pi_list (pv 5)) (blkOk_by (own := [("_law_node", 6)]) (N := ["_law_rows", "_law_parts_here", "_law_total", "_law_part", "_law_kind_here", "_law_around_here", "_law_node"]) (sc := defScope s_l_value) (by decide +kernel)) (fun _ _ _ _ _ => (pg_name (i := 6) sc_l_value.nd rfl (Or.inl rfl))) (fun _ _ _ _ _ => pts_nil) (fun _ _ _ _ _ => (pe_ix (ix_tupE (K := K) rfl) (pe_ix (ix_listE (K := K) rfl) (pv 0) (pv 6) (fun _ _ => rfl)) pe_int (fun _ _ => rfl)))) (pa_cons (pe_cg (ok_l_doors T) (hr.mono (j := 1) (by decide)) (by rfl) T.g_l_doors (pa_cons (pv 0) (pa_cons (pv 5) pa_nil))) pa_nil)))))))
    pss_nil)))))
  (pss_one (ps_ret (pv 2))))), ?_⟩
  obtain ⟨a, b, rs, ws, bs, rfl, hA, hrw, hok, hl, hB, hws, ews, hC, q⟩ := h
  have hgl := sxr_len rs
  have hbl := cov_len hC
  have erl : (refL ws).length = bs.length := by unfold refL; rw [List.length_map, ws_len ews]
  refine ⟨_, rfl, b, rfl, ⟨_, hB⟩, for_list (K := K) (a := b) (xs := refL ws) (fun i σ H2 => Same H H2 ∧ (∀ c ∈ bs.take i, ¬ 2 ≤ knd (sxr rs) (cls (sxr rs) c)) ∧ ∃ y3 y4 y5 y6, σ = [some (.ref a), some (.ref b), some (.int (tot (sxr rs) (pxr rs) (bs.take i))), y3, y4, y5, y6])
    ⟨Same.refl _, fun c hc => (nomatch hc), none, none, none, none, rfl⟩ (fun i σ H2 _ h => h.1.seq hB) ?_ ?_⟩
  · rintro i x σ H2 hi ⟨s2, hnw, y3, y4, y5, y6, rfl⟩
    obtain ⟨z, hz, hzm, rfl⟩ := refL_get hi
    obtain ⟨c, hc, ez⟩ := ws_cls ews hz
    have hcm := List.mem_of_getElem? hc
    have hcl := ClP.cls (hC.lt c hcm)
    have hcln := cls_len (sxr rs) c
    have hzz := hws z hzm
    rw [ez] at hzz
    have hfew := hok.few
    have htk : bs.take (i + 1) = bs.take i ++ [c] := by
      rw [List.take_add_one, hc]
      rfl
    have htot : tot (sxr rs) (pxr rs) (bs.take (i + 1)) = tot (sxr rs) (pxr rs) (bs.take i) + cst (sxr rs) (pxr rs) (cls (sxr rs) c) := by
      unfold tot
      rw [htk, List.map_append, List.sum_append]
      simp
    refine ⟨_, rfl, _, rfl, a, z.1, rs, cls (sxr rs) c, rfl, s2.seq hA, hrw.same s2, SqL.of (s2 _ _ hzz), hcl.asc, hcl.ne, by omega, fun v hv => by have := hcl.lt v hv; omega, fun l hl => (hok.g.rows l hl).2.1, fun H3 s3 => ?_⟩
    have s03 := s2.trans s3
    refine ⟨_, rfl, rfl, _, rfl, if2 (fun e => ?_) (fun e => ?_)⟩
    · have hk : 2 ≤ knd (sxr rs) (cls (sxr rs) c) := kindS_wild.mp (V.str.inj e)
      have := q H3 s03
      rw [wor_wild ⟨c, hcm, hk⟩] at this
      exact ⟨1, rfl, this⟩
    · have hnk : ¬ 2 ≤ knd (sxr rs) (cls (sxr rs) c) := fun h => e (congrArg V.str (kindS_wild.mpr h))
      have hnw2 : ∀ d ∈ bs.take (i + 1), ¬ 2 ≤ knd (sxr rs) (cls (sxr rs) d) := fun d hd => by
        rw [htk] at hd
        rcases List.mem_append.mp hd with hd | hd
        · exact hnw d hd
        · rw [List.mem_singleton.mp hd]
          exact hnk
      refine ⟨_, rfl, rfl, _, rfl, if2 (fun e2 => ?_) (fun e2 => ?_)⟩
      · have hk : knd (sxr rs) (cls (sxr rs) c) = 1 := kindS_ring.mp (V.str.inj e2)
        have hAm := (hcl.aro (fun u v e => ed_lt2 hok.g e) hk).2
        have hAl := aroP_len (g := sxr rs) hcl.ne
        refine ⟨_, rfl, _, rfl, a, z.1, rs, cls (sxr rs) c, rfl, s03.seq hA, hrw.same s03, hok, SqL.of (s03 _ _ hzz), hcl, hk, fun H4 ap s4 nap hap => ?_⟩
        have s04 := s03.trans s4
        refine ⟨_, rfl, _, rfl, ap, rfl, ⟨_, SqL.of hap⟩, fun D hD => lc_list (K := K) (a := ap) (xs := (nmap (aroP (sxr rs) (cls (sxr rs) c))).map V.int) (fun j H5 => Same H4 H5 ∧ H5 D = some (ilst (prA (pxr rs) ((aroP (sxr rs) (cls (sxr rs) c)).take j)))) ⟨same_new hD, upd_same⟩ (fun j H5 _ h => SqL.of (h.1 _ _ hap)) ?_ ?_⟩
        · rintro j x H5 hj ⟨s5, h5⟩
          obtain ⟨v, hv, rfl⟩ := nmap_ge hj
          have hvl := hcl.lt v ((hAm v).mp (List.mem_of_getElem? hv))
          rw [hgl] at hvl
          have hq : rs[v]? = some rs[v] := List.getElem?_eq_getElem hvl
          have hqm := List.getElem_mem hvl
          generalize rs[v] = qr at hq hqm
          have epr : (pxr rs).getD v 0 = qr.2.2.2.1 := by
            rw [List.getD_eq_getElem?_getD, get_pxr hq]
            rfl
          have t1 := (hrw qr hqm).1
          refine ⟨rfl, yes_then ⟨_, rfl, _, rfl, a, _, _, _, rfl, rfl, (s04.trans s5).seq hA, atI_nat (get_refR hq), qr.1, _, 1, _, rfl, rfl, SqT.of ((s04.trans s5) _ _ t1), rfl, _, h5, small1000 (by unfold prA; rw [List.length_map, List.length_map, List.length_take]; omega), same_mut s5 hD, ?_⟩⟩
          rw [upd_same, List.take_add_one, hv]
          unfold ilst prA
          rw [List.map_append, List.map_append]
          show some (HO.lst (_ ++ [V.int qr.2.2.2.1])) = some (HO.lst (_ ++ [V.int ((pxr rs).getD v 0)]))
          rw [epr]
        rintro H5 ⟨s5, h5⟩
        rw [nmap_len2, List.take_length] at h5
        have s05 := s04.trans s5
        refine ⟨_, rfl, _, rfl, a, ap, rs, aroP (sxr rs) (cls (sxr rs) c), rfl, s05.seq hA, hrw.same s05, hok.few, SqL.of (s5 _ _ hap), by omega, fun H6 dp s6 ndp hdp => ?_⟩
        have hds := rg_ds hok hcl hk
        have hpl : (prA (pxr rs) (aroP (sxr rs) (cls (sxr rs) c))).length = (aroP (sxr rs) (cls (sxr rs) c)).length := by unfold prA; rw [List.length_map]
        refine ⟨D, dp, _, _, rfl, SqL.of (s6 _ _ h5), by omega, SqL.of hdp, hds, fun H7 s7 => ⟨_, _, rfl, rfl, (s05.trans s6).trans s7, hnw2, ?_⟩⟩
        rw [htot]
        unfold cst
        rw [if_pos hk]
        exact ⟨_, _, _, _, rfl⟩
      · have hk : knd (sxr rs) (cls (sxr rs) c) ≠ 1 := fun h => e2 (congrArg V.str (kindS_ring.mpr h))
        refine ⟨s03, hnw2, ?_⟩
        rw [htot]
        unfold cst
        rw [if_neg hk, Int.add_zero]
        exact ⟨_, _, _, _, rfl⟩
  · rintro σ H2 ⟨s2, hnw, y3, y4, y5, y6, rfl⟩
    rw [erl, List.take_length] at hnw ⊢
    have := q H2 s2
    unfold wor at this
    rw [if_neg fun ⟨c, hc, h⟩ => hnw c hc h] at this
    exact ⟨_, rfl, this⟩
end
end K62

namespace K62
open PySem PySem.Spec PyProof.Rows L2 Fw Lay
section
variable {P : Program} {w : World} {K : PySem.W.Frag} {mg : Str → Option Value} {base : Heap}
theorem pick_mod {n : Nat} (hn : 0 < n) (s : Int) (j : Nat) (hj : j < n) : ∃ k : Nat, k < n ∧ (s + (k : Int)) % (n : Int) = (j : Int) := by
  have h1 := Int.emod_nonneg ((j : Int) - s) (show (n : Int) ≠ 0 by omega)
  have h2 := Int.emod_lt_of_pos ((j : Int) - s) (show (0 : Int) < (n : Int) by omega)
  refine ⟨(((j : Int) - s) % (n : Int)).toNat, by omega, ?_⟩
  have e : (((((j : Int) - s) % (n : Int)).toNat : Nat) : Int) = ((j : Int) - s) % (n : Int) := by omega
  rw [e, Int.add_emod_emod]
  have e2 : s + ((j : Int) - s) = (j : Int) := by omega
  rw [e2]
  exact Int.emod_eq_of_lt (by omega) (by omega)
theorem ok_l_open (T : Txt K mg) : Good P w K mg base 1 (He.ga K "_law_open") ["_law_nexts", "_law_source"] [] (sp_l_open K) := by
  refine good_of T.f_l_open sc_l_open (fun vs H Q E h => ?_) (fun _ _ _ _ _ _ us hl => match us, hl with | [_, _], _ => rfl) (fun cdv A outer s H vs Q E hr h => ?_)
  · obtain ⟨_, _, _, rfl, _⟩ := h
    rfl
  refine ⟨_, (pss_cons (ps_for PassesOwn.never rfl (pi_range1 (by rfl) T.z_range (pa_cons (pe_callB call_len_seq (by rfl) T.z_len (by decide +kernel) (pa_cons (pv 0) pa_nil)) pa_nil)) (pg_name (i := 2) sc_l_open.nd rfl (Or.inl rfl))
    (pss_cons (ps_set (i := 3) sc_l_open.nd rfl (Or.inl rfl) (pe_op op_mod (pe_callTy call_int1 (by rfl) T.z_int (by decide +kernel) (pa_cons (pe_op op_add (pv 1) (pv 2)) pa_nil)) (pe_callB call_len_seq (by rfl) T.z_len (by decide +kernel) (pa_cons (pv 0) pa_nil))))
  (pss_one (ps_if (pt_cmpR op_lt (pe_callB call_len_seq (by rfl) T.z_len (by decide +kernel) (pa_cons (pe_ix ix_list (pv 0) (pv 3) (fun _ _ => rfl)) pa_nil)) pe_int (nomark _))
    (pss_one (ps_ret (pv 3)))
    pss_nil))))
  (pss_one (ps_ret (pe_un un_neg pe_int)))), ?_⟩
  obtain ⟨a, zs, s, rfl, s0, hA, hL, hl, q⟩ := h
  have hlen : (refL zs).length = zs.length := List.length_map ..
  refine ⟨.ref a, rfl, a, _, rfl, .inl hA, ((refL zs).length : Nat), rfl, by omega, by omega, for_range (n := (refL zs).length) (fun i σ H2 => H2 = H ∧ (∀ k : Nat, k < i → ∀ (j : Nat) (z : Addr × List Int), (s + (k : Int)) % (zs.length : Int) = (j : Int) → zs[j]? = some z → 4 ≤ z.2.length) ∧ ∃ y2 y3, σ = [some (.ref a), some (.int s), y2, y3]) ⟨rfl, fun k hk => absurd hk (Nat.not_lt_zero _), none, none, rfl⟩ ?_ ?_⟩
  · rintro i σ H2 hi ⟨rfl, hdn, y2, y3, rfl⟩
    have hn : 0 < zs.length := by omega
    have h1 := Int.emod_nonneg (s + (0 + (i : Int))) (show ((refL zs).length : Int) ≠ 0 by omega)
    have h2 := Int.emod_lt_of_pos (s + (0 + (i : Int))) (show (0 : Int) < ((refL zs).length : Int) by omega)
    obtain ⟨j, hj⟩ : ∃ j : Nat, (s + (0 + (i : Int))) % ((refL zs).length : Int) = j := ⟨((s + (0 + (i : Int))) % ((refL zs).length : Int)).toNat, by omega⟩
    have hjl : j < zs.length := by omega
    have hz : zs[j]? = some zs[j] := List.getElem?_eq_getElem hjl
    have hzm : zs[j] ∈ zs := List.getElem_mem hjl
    generalize zs[j] = z at hz hzm
    have hj2 : (s + (i : Int)) % (zs.length : Int) = j := by
      rw [← hj, hlen]
      have e : s + (0 + (i : Int)) = s + (i : Int) := by omega
      rw [e]
    refine ⟨_, rfl, _, rfl, _, _, rfl, rfl, .inl ⟨_, rfl, .ref a, rfl, a, _, rfl, .inl hA, _, _, rfl, rfl, by omega, ?_⟩⟩
    dsimp only
    rw [hj]
    refine ⟨_, rfl, _, rfl, a, _, _, _, rfl, rfl, hA, atI_nat (get_refL hz), z.1, _, rfl, .inl (hL z hzm), _, _, rfl, rfl, _, rfl, if2 (fun e => ?_) (fun e => ?_)⟩
    · rw [List.length_map] at e
      exact ⟨_, rfl, q _ (.inl ⟨j, z, rfl, hz, by omega⟩)⟩
    · rw [List.length_map] at e
      refine ⟨rfl, fun k hk j' z' hj' hz' => ?_, _, _, rfl⟩
      by_cases hki : k = i
      · subst hki
        have e9 : j' = j := by omega
        subst e9
        rw [hz] at hz'
        rw [← Option.some.inj hz']
        omega
      · exact hdn k (by omega) j' z' hj' hz'
  · rintro σ H2 ⟨rfl, hdn, y2, y3, rfl⟩
    refine ⟨1, rfl, q _ (.inr ⟨rfl, fun z hz => ?_⟩)⟩
    obtain ⟨j, hj, e⟩ := List.mem_iff_getElem.mp hz
    obtain ⟨k, hk, e2⟩ := pick_mod (by omega) s j hj
    exact hdn k (by omega) j z e2 (by rw [List.getElem?_eq_getElem hj, e])
end
end K62

namespace K62
open PySem PySem.Spec PyProof.Rows L2 Fw Lay
section
variable {P : Program} {w : World} {K : PySem.W.Frag} {mg : Str → Option Value} {base : Heap}
theorem ok_l_cell (T : Txt K mg) : Good P w K mg base 1 (He.ga K "_law_cell") ["_law_script", "_law_k"] [] (sp_l_cell K) := by
  refine good_of T.f_l_cell sc_l_cell (fun vs H Q E h => ?_) (fun _ _ _ _ _ _ us hl => match us, hl with | [_, _], _ => rfl) (fun cdv A outer s H vs Q E hr h => ?_)
  · obtain ⟨_, _, _, rfl, _⟩ := h
    rfl
  refine ⟨_, (pss_cons (ps_if (pt_cmpR op_lt (pv 1) (pe_callB call_len_seq (by rfl) T.z_len (by decide +kernel) (pa_cons (pv 0) pa_nil)) (nomark _))
    (pss_one (ps_ret (pe_callB call_abs (by rfl) T.z_abs (by decide +kernel) (pa_cons (pe_ix ix_list (pv 0) (pv 1) (fun _ _ => rfl)) pa_nil))))
    pss_nil)
  (pss_one (ps_ret pe_int))), ?_⟩
  obtain ⟨a, ns, k, rfl, hS, q⟩ := h
  refine ⟨_, rfl, .ref a, rfl, a, _, rfl, .inl hS, _, _, rfl, rfl, _, rfl, ite2 (fun e => ?_) (fun e => ?_)⟩
  · have lt : k < ns.length := by
      have e2 := of_decide_eq_true e
      rw [List.length_map] at e2
      omega
    have g : (ns.map V.int)[k]? = some (.int ns[k]) := by
      rw [List.getElem?_map, List.getElem?_eq_getElem lt]
      rfl
    refine ⟨.ref a, rfl, _, rfl, a, _, _, _, rfl, rfl, hS, atI_nat g, _, rfl, ?_⟩
    refine q _ ?_
    split <;> omega
  · exact q 0 (Int.le_refl 0)
theorem ok_l_is_int (T : Txt K mg) : Good P w K mg base 1 (He.ga K "_law_is_int") ["_law_value_here"] [] (sp_l_is_int K) := by
  refine good_of T.f_l_is_int sc_l_is_int (fun vs H Q E h => ?_) (fun _ _ _ _ _ _ us hl => match us, hl with | [_], _ => rfl) (fun cdv A outer s H vs Q E hr h => ?_)
  · obtain ⟨_, rfl, _⟩ := h
    rfl
  refine ⟨_, (pss_one (ps_ret (pe_and (pe_callB call_isi (by rfl) T.z_isinstance (by decide +kernel) (pa_cons (pv 0) (pa_cons (pe_bltn (v := .ty "int") (u := .type "int") (by rfl) T.z_int (by decide +kernel) rfl) pa_nil))) (pe_one (pe_not (pe_callB call_isi (by rfl) T.z_isinstance (by decide +kernel) (pa_cons (pv 0) (pa_cons (pe_bltn (v := .ty "bool") (u := .type "bool") (by rfl) T.z_bool (by decide +kernel) rfl) pa_nil)))))))), ?_⟩
  obtain ⟨i, rfl, q⟩ := h
  refine ⟨_, rfl, .int i, .ty "int", _, _, true, rfl, .ty _, .base (.int _), kit_ty (by decide +kernel), true, rfl, iteT ?_⟩
  exact ⟨_, rfl, .int i, .ty "bool", _, _, false, rfl, .ty _, .base (.int _), kit_ty (by decide +kernel), false, rfl, q⟩
theorem ok_l_digits (T : Txt K mg) : Good P w K mg base 1 (He.ga K "_law_digits") ["_law_cell_here", "_law_count", "_law_size"] [] (sp_l_digits K) := by
  refine good_of T.f_l_digits sc_l_digits (fun vs H Q E h => ?_) (fun _ _ _ _ _ _ us hl => match us, hl with | [_, _, _], _ => rfl) (fun cdv A outer s H vs Q E hr h => ?_)
  · obtain ⟨_, _, _, rfl, _⟩ := h
    rfl
  refine ⟨_, (pss_cons (ps_set (i := 3) sc_l_digits.nd rfl (Or.inl rfl) (pe_lst pa_nil))
  (pss_cons (ps_set (i := 4) sc_l_digits.nd rfl (Or.inl rfl) (pv 0))
  (pss_cons (ps_for PassesOwn.never rfl (pi_range1 (by rfl) T.z_range (pa_cons (pv 1) pa_nil)) (pg_name (i := 5) sc_l_digits.nd rfl (Or.inl rfl))
    (pss_one (ps_if (pw_and (pt_cmpR op_ge (pv 0) (pe_op op_pow pe_int pe_int) (nomark _)) (pw_and1 (pt_cmpR op_gt (pv 4) pe_int (nomark _)))).pt
    (pss_cons (ps_expr (pe_bm PySem.F.plainAttrs_list PySem.F.slot_list_append PySem.F.type_list_append mt_append (pv 3) (pa_cons (pe_op op_mod (pe_callTy call_int1 (by rfl) T.z_int (by decide +kernel) (pa_cons (pv 4) pa_nil)) (pv 2)) pa_nil)))
  (pss_one (ps_set (i := 4) sc_l_digits.nd rfl (Or.inl rfl) (pe_op op_fdivW (pv 4) (pv 2)))))
    (pss_cons (ps_set (i := 6) sc_l_digits.nd rfl (Or.inl rfl) (pe_op op_mod (pe_callTy call_int1 (by rfl) T.z_int (by decide +kernel) (pa_cons (pe_op op_add (pe_op op_add (pv 0) (pe_op op_mul pe_int (pv 5))) pe_int) pa_nil)) pe_int))
  (pss_cons (ps_set (i := 6) sc_l_digits.nd rfl (Or.inl rfl) (pe_op op_mod (pe_callTy call_int1 (by rfl) T.z_int (by decide +kernel) (pa_cons (pe_op op_mul (pv 6) (pe_op op_add (pv 6) pe_int)) pa_nil)) pe_int))
  (pss_cons (ps_set (i := 6) sc_l_digits.nd rfl (Or.inl rfl) (pe_op op_mod (pe_callTy call_int1 (by rfl) T.z_int (by decide +kernel) (pa_cons (pe_op op_add (pe_op op_mul (pv 6) (pe_op op_add (pv 6) pe_int)) (pe_op op_mul pe_int (pv 5))) pa_nil)) pe_int))
  (pss_one (ps_expr (pe_bm PySem.F.plainAttrs_list PySem.F.slot_list_append PySem.F.type_list_append mt_append (pv 3) (pa_cons (pe_op op_mod (pe_callTy call_int1 (by rfl) T.z_int (by decide +kernel) (pa_cons (pe_op op_fdiv (pv 6) pe_int) pa_nil)) (pv 2)) pa_nil))))))))))
  (pss_one (ps_ret (pv 3)))))), ?_⟩
  obtain ⟨c, m, n, rfl, c0, n1, m0, m1, q⟩ := h
  refine ⟨Nat.zero_le _, fun l nl => ⟨_, rfl, ?_⟩⟩
  refine ⟨_, rfl, (n : Int), rfl, by omega, by omega, for_range (n := n) (fun i σ H2 => Same H H2 ∧ (∃ ds, H2 l = some (ilst ds) ∧ ds.length = i ∧ ∀ d ∈ ds, 0 ≤ d ∧ d < m) ∧ ∃ (rest : Int) (y1 y2 : Option V), σ = [some (.int c), some (.int n), some (.int m), some (.ref l), some (.int rest), y1, y2])
    ⟨same_new nl, ⟨[], upd_same, rfl, fun d hd => (nomatch hd)⟩, c, none, none, rfl⟩ ?_ ?_⟩
  · rintro i σ H2 hi ⟨sm, ⟨ds, hL, len, bd⟩, rest, y1, y2, rfl⟩
    have push : ∀ (v : Int), 0 ≤ v → v < m → Same H (upd H2 l (.lst (ds.map V.int ++ [.int v]))) ∧ (∃ es, upd H2 l (.lst (ds.map V.int ++ [.int v])) l = some (ilst es) ∧ es.length = i + 1 ∧ ∀ d ∈ es, 0 ≤ d ∧ d < m) := fun v v0 v1 => by
      refine ⟨same_mut sm nl, ds ++ [v], ?_, ?_, fun d hd => ?_⟩
      · rw [upd_same]
        unfold ilst
        rw [List.map_append]
        rfl
      · rw [List.length_append, len]
        rfl
      · rcases List.mem_append.mp hd with hd | hd
        · exact bd d hd
        · rw [List.mem_singleton.mp hd]
          exact ⟨v0, v1⟩
    have room : (ds.map V.int).length < sizeLine := by
      rw [List.length_map, sizeLine_eq]
      omega
    have md : ∀ v : Int, 0 ≤ v % m ∧ v % m < m := fun v => ⟨Int.emod_nonneg _ (by omega), Int.emod_lt_of_pos _ m0⟩
    refine ⟨_, rfl, _, _, rfl, rfl, ⟨by decide, by decide, by decide⟩, _, _, rfl, rfl, _, rfl, if2 (fun e1 => ⟨_, rfl, _, _, rfl, rfl, _, rfl, if2 (fun e2 => ?A) (fun _ => ?B)⟩) (fun _ => iteF ?B2)⟩
    case A =>
      refine ⟨.ref l, rfl, .inl ⟨rfl, _, SqL.of hL⟩, _, rfl, .inl ⟨_, rfl, _, rfl, _, _, rfl, rfl, m0, l, _, _, rfl, rfl, hL, room, ?_⟩⟩
      refine ⟨_, rfl, _, rfl, _, _, rfl, rfl, wide_div (b := 30) m0 (by omega) (by decide) (by decide), ?_⟩
      obtain ⟨s1, s2⟩ := push (rest % m) (md _).1 (md _).2
      exact ⟨s1, s2, _, _, _, rfl⟩
    all_goals
      refine ⟨_, rfl, _, rfl, _, _, rfl, rfl, .inl ⟨by decide, by decide⟩, _, _, rfl, rfl, _, _, rfl, rfl, .inl ⟨_, rfl, _, _, rfl, rfl, (by show (0 : Int) < 2147483647; decide), ?_⟩⟩
      refine ⟨_, rfl, _, rfl, _, _, rfl, rfl, _, _, rfl, rfl, .inl ⟨by omega, by omega⟩, .inl ⟨_, rfl, _, _, rfl, rfl, (by show (0 : Int) < 2147483629; decide), ?_⟩⟩
      refine ⟨_, rfl, _, rfl, _, _, rfl, rfl, _, _, rfl, rfl, .inl ⟨by omega, by omega⟩, _, rfl, _, _, rfl, rfl, .inl ⟨by decide, by decide⟩, _, _, rfl, rfl, .inl ⟨_, rfl, _, _, rfl, rfl, (by show (0 : Int) < 2147483647; decide), ?_⟩⟩
      refine ⟨.ref l, rfl, .inl ⟨rfl, _, SqL.of hL⟩, _, rfl, _, _, rfl, rfl, ⟨by decide, by decide⟩, .inl ⟨_, rfl, _, rfl, _, _, rfl, rfl, m0, l, _, _, rfl, rfl, hL, room, ?_⟩⟩
      obtain ⟨s1, s2⟩ := push _ (md _).1 (md _).2
      exact ⟨s1, s2, _, _, _, rfl⟩
  · rintro σ H2 ⟨sm, ⟨ds, hL, len, bd⟩, rest, y1, y2, rfl⟩
    exact ⟨.ref l, rfl, q H2 l ds sm nl hL len bd⟩
theorem ok_l_seed (T : Txt K mg) : Good P w K mg base 2 (He.ga K "_law_seed") ["_law_script", "_law_k"] [] (sp_l_seed K) := by
  refine good_of T.f_l_seed sc_l_seed (fun vs H Q E h => ?_) (fun _ _ _ _ _ _ us hl => match us, hl with | [_, _], _ => rfl) (fun cdv A outer s H vs Q E hr h => ?_)
  · obtain ⟨_, _, _, rfl, _⟩ := h
    rfl
  refine ⟨_, (pss_cons (ps_if (pt_cmpR op_lt (pv 1) (pe_callB call_len_seq (by rfl) T.z_len (by decide +kernel) (pa_cons (pv 0) pa_nil)) (nomark _))
    (pss_one (ps_ret (pe_callB call_abs (by rfl) T.z_abs (by decide +kernel) (pa_cons (pe_ix ix_list (pv 0) (pv 1) (fun _ _ => rfl)) pa_nil))))
    pss_nil)
  (pss_one (ps_ret (pe_ix ix_list (pe_cg (ok_l_digits T) (hr.mono (j := 1) (by decide)) (by rfl) T.g_l_digits (pa_cons (pe_op op_add (pe_op op_add (pe_cg (ok_l_cell T) (hr.mono (j := 1) (by decide)) (by rfl) T.g_l_cell (pa_cons (pv 0) (pa_cons pe_int pa_nil))) (pe_op op_mul pe_int (pv 1))) pe_int) (pa_cons pe_int (pa_cons (pe_op op_pow pe_int pe_int) pa_nil)))) pe_int (fun _ _ => rfl))))), ?_⟩
  obtain ⟨a, ns, k, rfl, hS, hk, q⟩ := h
  refine ⟨_, rfl, .ref a, rfl, a, _, rfl, .inl hS, _, _, rfl, rfl, _, rfl, if2 (fun e => ?_) (fun e => ?_)⟩
  · have lt : k < ns.length := by
      rw [List.length_map] at e
      omega
    refine ⟨.ref a, rfl, _, rfl, a, _, _, _, rfl, rfl, hS, atI_nat (get_map (List.getElem?_eq_getElem lt)), _, rfl, ?_⟩
    refine q _ H ?_ (Same.refl H)
    split <;> omega
  · refine ⟨.ref a, rfl, a, ns, 0, rfl, hS, fun c hc => ?_⟩
    refine ⟨_, rfl, _, _, rfl, rfl, .inl ⟨by decide, by decide⟩, _, _, rfl, rfl, _, _, rfl, rfl, _, _, rfl, rfl, ⟨by decide, by decide, by decide⟩, _, _, 1, rfl, by omega, by decide, by decide, by decide, fun H2 p ds sm np hp len bd => ?_⟩
    obtain ⟨d, rfl⟩ := List.length_eq_one_iff.mp len
    exact ⟨p, _, 0, _, rfl, rfl, SqL.of hp, rfl, q d H2 (bd d (List.mem_singleton.mpr rfl)).1 sm⟩
end
end K62

namespace K62
open PySem PySem.Spec PyProof.Rows L2 Fw Lay
section
variable {P : Program} {w : World} {K : PySem.W.Frag} {mg : Str → Option Value} {base : Heap}
theorem ok_l_is_worth (T : Txt K mg) : Good P w K mg base 2 (He.ga K "_law_is_worth") ["_law_told", "_law_value_here"] [] (sp_l_is_worth K) := by
  refine good_of T.f_l_is_worth sc_l_is_worth (fun vs H Q E h => ?_) (fun _ _ _ _ _ _ us hl => match us, hl with | [_, _], _ => rfl) (fun cdv A outer s H vs Q E hr h => ?_)
  · obtain ⟨_, _, rfl, _⟩ := h
    rfl
  refine ⟨_, (pss_cons (ps_if (pt_cmpR op_lt (pv 1) pe_int (nomark _))
    (pss_one (ps_ret (pe_cmpR op_isN (pv 0) pe_non (nomark _))))
    pss_nil)
  (pss_one (ps_ret (pe_and (pe_cg (ok_l_is_int T) (hr.mono (j := 1) (by decide)) (by rfl) T.g_l_is_int (pa_cons (pv 0) pa_nil)) (pe_one (pe_cmpR op_eq (pv 0) (pv 1) (nomark _))))))), ?_⟩
  obtain ⟨x, v, rfl, hW, q⟩ := h
  rcases hW with ⟨hv, rfl⟩ | ⟨hv, rfl⟩
  · exact ⟨_, rfl, _, _, rfl, rfl, _, rfl, ifT hv ⟨_, rfl, rfl, q⟩⟩
  · refine ⟨_, rfl, _, _, rfl, rfl, _, rfl, ifF (by omega) ⟨_, rfl, v, rfl, true, rfl, iteT ⟨_, rfl, _, rfl, rfl, ?_⟩⟩⟩
    have e : decide (V.int v = V.int v) = true := decide_eq_true rfl
    rw [e]
    exact q
theorem ok_l_rises (T : Txt K mg) : Good P w K mg base 1 (He.ga K "_law_rises") ["_law_before", "_law_after", "_law_added"] [] (sp_l_rises K) := by
  refine good_of T.f_l_rises sc_l_rises (fun vs H Q E h => ?_) (fun _ _ _ _ _ _ us hl => match us, hl with | [_, _, _], _ => rfl) (fun cdv A outer s H vs Q E hr h => ?_)
  · obtain ⟨_, _, _, rfl, _⟩ := h
    rfl
  refine ⟨_, (pss_cons (ps_if (pt_cmpR op_lt (pv 0) pe_int (nomark _))
    (pss_one (ps_ret (pe_cmpR op_lt (pv 1) pe_int (nomark _))))
    pss_nil)
  (pss_one (ps_ret (pe_chain op_le op_le (pv 0) (pv 1) (pe_op op_add (pv 0) (pv 2)))))), ?_⟩
  obtain ⟨b, a, x, rfl, hb, q⟩ := h
  rcases hb with ⟨h1, h2⟩ | ⟨h1, h2, h3⟩
  · refine ⟨_, rfl, _, _, rfl, rfl, _, rfl, ifT h1 ⟨_, rfl, _, _, rfl, rfl, ?_⟩⟩
    show Q (V.bl (decide (a < 0))) H
    rw [decide_eq_true h2]
    exact q
  · refine ⟨_, rfl, _, _, rfl, rfl, _, rfl, ifF (by omega) ⟨_, rfl, _, rfl, _, _, rfl, rfl, true, congrArg V.bl (decide_eq_true h2), iteT ⟨_, rfl, _, rfl, _, _, rfl, rfl, _, _, rfl, rfl, ?_⟩⟩⟩
    show Q (V.bl (decide (a ≤ b + x))) H
    rw [decide_eq_true h3]
    exact q
theorem ok_l_not_lower (T : Txt K mg) : Good P w K mg base 1 (He.ga K "_law_not_lower") ["_law_before", "_law_after"] [] (sp_l_not_lower K) := by
  refine good_of T.f_l_not_lower sc_l_not_lower (fun vs H Q E h => ?_) (fun _ _ _ _ _ _ us hl => match us, hl with | [_, _], _ => rfl) (fun cdv A outer s H vs Q E hr h => ?_)
  · obtain ⟨_, _, rfl, _⟩ := h
    rfl
  refine ⟨_, (pss_cons (ps_if (pt_cmpR op_lt (pv 0) pe_int (nomark _))
    (pss_one (ps_ret (pe_cmpR op_lt (pv 1) pe_int (nomark _))))
    pss_nil)
  (pss_one (ps_ret (pe_or (pe_cmpR op_lt (pv 1) pe_int (nomark _)) (pe_one (pe_cmpR op_ge (pv 1) (pv 0) (nomark _))))))), ?_⟩
  obtain ⟨b, a, rfl, hb, q⟩ := h
  rcases hb with ⟨h1, h2⟩ | ⟨h1, h2⟩
  · refine ⟨_, rfl, _, _, rfl, rfl, _, rfl, ifT h1 ⟨_, rfl, _, _, rfl, rfl, ?_⟩⟩
    show Q (V.bl (decide (a < 0))) H
    rw [decide_eq_true h2]
    exact q
  · refine ⟨_, rfl, _, _, rfl, rfl, _, rfl, ifF (by omega) ⟨_, rfl, _, _, rfl, rfl, _, rfl, if2 (fun e => q) (fun e => ⟨_, rfl, _, rfl, _, _, rfl, rfl, ?_⟩)⟩⟩
    show Q (V.bl (decide (b ≤ a))) H
    rw [decide_eq_true (show b ≤ a by omega)]
    exact q
theorem cut_lo (rs : Rx) (i : Nat) : cutV (refR rs) none (some (i : Int)) = refR (rs.take i) := by
  unfold cutV refR
  rw [HT.sIx_nat, HT.sIx_none, List.drop_zero, Nat.sub_zero, List.map_take]
  by_cases h : i ≤ (rs.map fun q => V.ref q.1).length
  · rw [Nat.min_eq_left h]
  · rw [Nat.min_eq_right (by omega), List.take_of_length_le (Nat.le_refl _), List.take_of_length_le (by omega)]
theorem cut_hi (rs : Rx) (i : Nat) (hi : i < rs.length) : cutV (refR rs) (some ((i : Int) + 1)) none = refR (rs.drop (i + 1)) := by
  unfold cutV refR
  have e : ((i : Int) + 1) = ((i + 1 : Nat) : Int) := rfl
  rw [e, HT.sIx_nat, HT.sIx_none, Nat.min_eq_left (by rw [List.length_map]; omega), List.map_drop, List.take_of_length_le]
  rw [List.length_drop, List.length_map]
  omega
theorem set_cut {rs : Rx} {i : Nat} {z : Addr × Addr × Rw} (hi : i < rs.length) : refR (rs.take i) ++ [V.ref z.1] ++ refR (rs.drop (i + 1)) = refR (rs.set i z) := by
  have e : rs.set i z = rs.take i ++ z :: rs.drop (i + 1) := List.set_eq_take_append_cons_drop ▸ (by rw [if_pos hi])
  unfold refR
  rw [e, List.map_append, List.map_cons, List.append_assoc]
  rfl
theorem ok_l_dearer (T : Txt K mg) : Good P w K mg base 1 (He.ga K "_law_dearer") ["_law_rows", "_law_node", "_law_added"] [] (sp_l_dearer K) := by
  refine good_of T.f_l_dearer sc_l_dearer (fun vs H Q E h => ?_) (fun _ _ _ _ _ _ us hl => match us, hl with | [_, _, _], _ => rfl) (fun cdv A outer s H vs Q E hr h => ?_)
  · obtain ⟨_, _, _, _, _, rfl, _⟩ := h
    rfl
  refine ⟨_, (pss_one (ps_ret (pe_op op_cat (pe_op op_cat (pe_slice sl_list (pv 0) po_none (po_some (pv 1))) (pe_lst (pa_cons (pe_tup (pa_cons (pe_ix ix_tup (pe_ix ix_list (pv 0) (pv 1) (fun _ _ => rfl)) pe_int (fun _ _ => rfl)) (pa_cons (pe_op op_add (pe_ix ix_tup (pe_ix ix_list (pv 0) (pv 1) (fun _ _ => rfl)) pe_int (fun _ _ => rfl)) (pv 2)) (pa_cons (pe_ix ix_tup (pe_ix ix_list (pv 0) (pv 1) (fun _ _ => rfl)) pe_int (fun _ _ => rfl)) pa_nil)))) pa_nil))) (pe_slice sl_list (pv 0) (po_some (pe_op op_add (pv 1) pe_int)) po_none)))), ?_⟩
  obtain ⟨a, rs, i, qr, x, rfl, hA, hrw, hq, hl, q⟩ := h
  have hi := (List.getElem?_eq_some_iff.mp hq).1
  have hqm := List.mem_of_getElem? hq
  obtain ⟨t1, t2⟩ := hrw qr hqm
  have ge : atI (refR rs) (i : Int) = some (.ref qr.1) := atI_nat (get_refR hq)
  refine ⟨_, rfl, _, rfl, _, rfl, a, _, rfl, hA, fun p1 np1 => ?_⟩
  have s1 := same_new (o := .lst (cutV (refR rs) none (some (i : Int)))) np1
  have hp1 : upd H p1 (.lst (cutV (refR rs) none (some (i : Int)))) p1 = some (.lst (refR (rs.take i))) := by rw [upd_same, cut_lo]
  generalize upd H p1 (.lst (cutV (refR rs) none (some (i : Int)))) = H1 at s1 hp1 ⊢
  refine ⟨_, rfl, _, rfl, a, _, _, _, rfl, rfl, s1.seq hA, ge, qr.1, _, 0, _, rfl, rfl, SqT.of (s1 _ _ t1), rfl, _, rfl, _, rfl, a, _, _, _, rfl, rfl, s1.seq hA, ge, qr.1, _, 1, _, rfl, rfl, SqT.of (s1 _ _ t1), rfl, _, rfl, _, _, rfl, rfl, _, rfl, _, rfl, a, _, _, _, rfl, rfl, s1.seq hA, ge, qr.1, _, 2, _, rfl, rfl, SqT.of (s1 _ _ t1), rfl, (by show 3 ≤ sizeLine; decide), fun t nt => ⟨(by show 1 ≤ sizeLine; decide), fun p2 np2 => ?_⟩⟩
  have s2 := same_new (o := .tup [.str qr.2.2.1, .int (qr.2.2.2.1 + x), .ref qr.2.1]) nt
  have s3 := s2.trans (same_new (o := .lst [.ref t]) np2)
  have ht3 := same_new (o := .lst [.ref t]) np2 _ _ (upd_same (H := H1) (a := t) (o := .tup [.str qr.2.2.1, .int (qr.2.2.2.1 + x), .ref qr.2.1]))
  have hp2 : upd (upd H1 t (.tup [.str qr.2.2.1, .int (qr.2.2.2.1 + x), .ref qr.2.1])) p2 (.lst [.ref t]) p2 = some (.lst [.ref t]) := upd_same
  have hp13 := s3 _ _ hp1
  have s03 := s1.trans s3
  generalize upd (upd H1 t (.tup [.str qr.2.2.1, .int (qr.2.2.2.1 + x), .ref qr.2.1])) p2 (.lst [.ref t]) = H3 at s03 ht3 hp2 hp13 ⊢
  refine ⟨p1, p2, _, _, rfl, rfl, hp13, hp2, Nat.le_of_lt (small1000 (by unfold refR; rw [List.length_map, List.length_take]; show _ + 1 ≤ 1000; omega)), fun p3 np3 => ?_⟩
  have s4 := s03.trans (same_new (o := .lst (refR (rs.take i) ++ [.ref t])) np3)
  have hp3 : upd H3 p3 (.lst (refR (rs.take i) ++ [.ref t])) p3 = some (.lst (refR (rs.take i) ++ [.ref t])) := upd_same
  have ht4 := same_new (o := .lst (refR (rs.take i) ++ [.ref t])) np3 _ _ ht3
  generalize upd H3 p3 (.lst (refR (rs.take i) ++ [.ref t])) = H4 at s4 hp3 ht4 ⊢
  refine ⟨_, rfl, _, rfl, _, _, rfl, rfl, _, rfl, a, _, rfl, s4.seq hA, fun p4 np4 => ?_⟩
  have s5 := s4.trans (same_new (o := .lst (cutV (refR rs) (some ((i : Int) + 1)) none)) np4)
  have hp4 : upd H4 p4 (.lst (cutV (refR rs) (some ((i : Int) + 1)) none)) p4 = some (.lst (refR (rs.drop (i + 1)))) := by rw [upd_same, cut_hi _ _ hi]
  have hp34 := same_new (o := .lst (cutV (refR rs) (some ((i : Int) + 1)) none)) np4 _ _ hp3
  have ht5 := same_new (o := .lst (cutV (refR rs) (some ((i : Int) + 1)) none)) np4 _ _ ht4
  generalize upd H4 p4 (.lst (cutV (refR rs) (some ((i : Int) + 1)) none)) = H5 at s5 hp4 hp34 ht5 ⊢
  refine ⟨p3, p4, _, _, rfl, rfl, hp34, hp4, Nat.le_of_lt (small1000 (by unfold refR; rw [List.length_append, List.length_map, List.length_map, List.length_take, List.length_drop]; show _ + 1 + _ ≤ 1000; omega)), fun p5 np5 => ?_⟩
  have hs := set_cut (z := (t, qr.2.1, qr.2.2.1, qr.2.2.2.1 + x, qr.2.2.2.2)) hi
  have s6 := s5.trans (same_new (o := .lst (refR (rs.take i) ++ [.ref t] ++ refR (rs.drop (i + 1)))) np5)
  refine q _ p5 t s6 (s5.free np5) ?_ fun z hz => ?_
  · rw [upd_same, ← hs]
  · rcases List.mem_or_eq_of_mem_set hz with hz | hz
    · exact ⟨s6 _ _ (hrw z hz).1, s6 _ _ (hrw z hz).2⟩
    · rw [hz]
      exact ⟨same_new (o := .lst (refR (rs.take i) ++ [.ref t] ++ refR (rs.drop (i + 1)))) np5 _ _ ht5, s6 _ _ t2⟩
theorem ok_l_wider (T : Txt K mg) : Good P w K mg base 1 (He.ga K "_law_wider") ["_law_rows", "_law_node", "_law_target"] [] (sp_l_wider K) := by
  refine good_of T.f_l_wider sc_l_wider (fun vs H Q E h => ?_) (fun _ _ _ _ _ _ us hl => match us, hl with | [_, _, _], _ => rfl) (fun cdv A outer s H vs Q E hr h => ?_)
  · obtain ⟨_, _, _, _, _, rfl, _⟩ := h
    rfl
  refine ⟨_, (pss_one (ps_ret (pe_op op_cat (pe_op op_cat (pe_slice sl_list (pv 0) po_none (po_some (pv 1))) (pe_lst (pa_cons (pe_tup (pa_cons (pe_ix ix_tup (pe_ix ix_list (pv 0) (pv 1) (fun _ _ => rfl)) pe_int (fun _ _ => rfl)) (pa_cons (pe_ix ix_tup (pe_ix ix_list (pv 0) (pv 1) (fun _ _ => rfl)) pe_int (fun _ _ => rfl)) (pa_cons (pe_op op_catX (pe_ix ix_tup (pe_ix ix_list (pv 0) (pv 1) (fun _ _ => rfl)) pe_int (fun _ _ => rfl)) (pe_tup (pa_cons (pv 2) pa_nil))) pa_nil)))) pa_nil))) (pe_slice sl_list (pv 0) (po_some (pe_op op_add (pv 1) pe_int)) po_none)))), ?_⟩
  obtain ⟨a, rs, i, qr, x, rfl, hA, hrw, hq, hl, hl4, q⟩ := h
  have hi := (List.getElem?_eq_some_iff.mp hq).1
  have hqm := List.mem_of_getElem? hq
  obtain ⟨t1, t2⟩ := hrw qr hqm
  have ge : atI (refR rs) (i : Int) = some (.ref qr.1) := atI_nat (get_refR hq)
  refine ⟨_, rfl, _, rfl, _, rfl, a, _, rfl, hA, fun p1 np1 => ?_⟩
  have s1 := same_new (o := .lst (cutV (refR rs) none (some (i : Int)))) np1
  have hp1 : upd H p1 (.lst (cutV (refR rs) none (some (i : Int)))) p1 = some (.lst (refR (rs.take i))) := by rw [upd_same, cut_lo]
  generalize upd H p1 (.lst (cutV (refR rs) none (some (i : Int)))) = H1 at s1 hp1 ⊢
  refine ⟨_, rfl, _, rfl, a, _, _, _, rfl, rfl, s1.seq hA, ge, qr.1, _, 0, _, rfl, rfl, SqT.of (s1 _ _ t1), rfl, _, rfl, _, rfl, a, _, _, _, rfl, rfl, s1.seq hA, ge, qr.1, _, 1, _, rfl, rfl, SqT.of (s1 _ _ t1), rfl, _, rfl, _, rfl, a, _, _, _, rfl, rfl, s1.seq hA, ge, qr.1, _, 2, _, rfl, rfl, SqT.of (s1 _ _ t1), rfl, _, rfl, (by show 1 ≤ sizeLine; decide), fun o no => ?_⟩
  have s1' := s1.trans (same_new (o := .tup [.int x]) no)
  have hp1' := same_new (o := .tup [.int x]) no _ _ hp1
  refine ⟨qr.2.1, o, _, _, rfl, rfl, s1' _ _ t2, upd_same, by rw [List.length_map]; exact Nat.le_trans (show _ ≤ 5 by show qr.2.2.2.2.length + 1 ≤ 5; omega) (by decide), fun H2 u s2 hu => ?_⟩
  have s02 := s1'.trans s2
  have hp12 := s2 _ _ hp1'
  have hu : H2 u = some (itup (qr.2.2.2.2 ++ [x])) := by
    rw [hu]
    unfold itup
    rw [List.map_append]
    rfl
  refine ⟨(by show 3 ≤ sizeLine; decide), fun t nt => ⟨(by show 1 ≤ sizeLine; decide), fun p2 np2 => ?_⟩⟩
  have s3 := (same_new (o := .tup [.str qr.2.2.1, .int qr.2.2.2.1, .ref u]) nt).trans (same_new (o := .lst [.ref t]) np2)
  have ht3 := same_new (o := .lst [.ref t]) np2 _ _ (upd_same (H := H2) (a := t) (o := .tup [.str qr.2.2.1, .int qr.2.2.2.1, .ref u]))
  have hp2 : upd (upd H2 t (.tup [.str qr.2.2.1, .int qr.2.2.2.1, .ref u])) p2 (.lst [.ref t]) p2 = some (.lst [.ref t]) := upd_same
  have hp13 := s3 _ _ hp12
  have hu3 := s3 _ _ hu
  have s03 := s02.trans s3
  generalize upd (upd H2 t (.tup [.str qr.2.2.1, .int qr.2.2.2.1, .ref u])) p2 (.lst [.ref t]) = H3 at s03 ht3 hp2 hp13 hu3 ⊢
  refine ⟨p1, p2, _, _, rfl, rfl, hp13, hp2, Nat.le_of_lt (small1000 (by unfold refR; rw [List.length_map, List.length_take]; show _ + 1 ≤ 1000; omega)), fun p3 np3 => ?_⟩
  have s4 := s03.trans (same_new (o := .lst (refR (rs.take i) ++ [.ref t])) np3)
  have hp3 : upd H3 p3 (.lst (refR (rs.take i) ++ [.ref t])) p3 = some (.lst (refR (rs.take i) ++ [.ref t])) := upd_same
  have ht4 := same_new (o := .lst (refR (rs.take i) ++ [.ref t])) np3 _ _ ht3
  have hu4 := same_new (o := .lst (refR (rs.take i) ++ [.ref t])) np3 _ _ hu3
  generalize upd H3 p3 (.lst (refR (rs.take i) ++ [.ref t])) = H4 at s4 hp3 ht4 hu4 ⊢
  refine ⟨_, rfl, _, rfl, _, _, rfl, rfl, _, rfl, a, _, rfl, s4.seq hA, fun p4 np4 => ?_⟩
  have s5 := s4.trans (same_new (o := .lst (cutV (refR rs) (some ((i : Int) + 1)) none)) np4)
  have hp4 : upd H4 p4 (.lst (cutV (refR rs) (some ((i : Int) + 1)) none)) p4 = some (.lst (refR (rs.drop (i + 1)))) := by rw [upd_same, cut_hi _ _ hi]
  have hp34 := same_new (o := .lst (cutV (refR rs) (some ((i : Int) + 1)) none)) np4 _ _ hp3
  have ht5 := same_new (o := .lst (cutV (refR rs) (some ((i : Int) + 1)) none)) np4 _ _ ht4
  have hu5 := same_new (o := .lst (cutV (refR rs) (some ((i : Int) + 1)) none)) np4 _ _ hu4
  generalize upd H4 p4 (.lst (cutV (refR rs) (some ((i : Int) + 1)) none)) = H5 at s5 hp4 hp34 ht5 hu5 ⊢
  refine ⟨p3, p4, _, _, rfl, rfl, hp34, hp4, Nat.le_of_lt (small1000 (by unfold refR; rw [List.length_append, List.length_map, List.length_map, List.length_take, List.length_drop]; show _ + 1 + _ ≤ 1000; omega)), fun p5 np5 => ?_⟩
  have hs := set_cut (z := (t, u, qr.2.2.1, qr.2.2.2.1, qr.2.2.2.2 ++ [x])) hi
  have s6 := s5.trans (same_new (o := .lst (refR (rs.take i) ++ [.ref t] ++ refR (rs.drop (i + 1)))) np5)
  refine q _ p5 t u s6 (s5.free np5) ?_ fun z hz => ?_
  · rw [upd_same, ← hs]
  · rcases List.mem_or_eq_of_mem_set hz with hz | hz
    · exact ⟨s6 _ _ (hrw z hz).1, s6 _ _ (hrw z hz).2⟩
    · rw [hz]
      exact ⟨same_new (o := .lst (refR (rs.take i) ++ [.ref t] ++ refR (rs.drop (i + 1)))) np5 _ _ ht5, same_new (o := .lst (refR (rs.take i) ++ [.ref t] ++ refR (rs.drop (i + 1)))) np5 _ _ hu5⟩
theorem ok_l_free (T : Txt K mg) : Good P w K mg base 1 (He.ga K "_law_free") ["_law_rows", "_law_first"] [] (sp_l_free K) := by
  refine good_of T.f_l_free sc_l_free (fun vs H Q E h => ?_) (fun _ _ _ _ _ _ us hl => match us, hl with | [_, _], _ => rfl) (fun cdv A outer s H vs Q E hr h => ?_)
  · obtain ⟨_, _, _, rfl, _⟩ := h
    rfl
  refine ⟨_, (pss_cons (ps_for PassesOwn.never rfl (pi_range1 (by rfl) T.z_range (pa_cons (pe_callB call_len_seq (by rfl) T.z_len (by decide +kernel) (pa_cons (pv 0) pa_nil)) pa_nil)) (pg_name (i := 2) sc_l_free.nd rfl (Or.inl rfl))
    (pss_cons (ps_set (i := 3) sc_l_free.nd rfl (Or.inl rfl) (pe_op op_mod (pe_callTy call_int1 (by rfl) T.z_int (by decide +kernel) (pa_cons (pe_op op_add (pv 1) (pv 2)) pa_nil)) (pe_callB call_len_seq (by rfl) T.z_len (by decide +kernel) (pa_cons (pv 0) pa_nil))))
  (pss_one (ps_if (pt_cmpR op_lt (pe_callB call_len_seq (by rfl) T.z_len (by decide +kernel) (pa_cons (pe_ix ix_tup (pe_ix ix_list (pv 0) (pv 3) (fun _ _ => rfl)) pe_int (fun _ _ => rfl)) pa_nil)) pe_int (nomark _))
    (pss_one (ps_ret (pv 3)))
    pss_nil))))
  (pss_one (ps_ret (pe_un un_neg pe_int)))), ?_⟩
  obtain ⟨a, rs, f, rfl, hA, hrw, hf, hl, q⟩ := h
  have erl : (refR rs).length = rs.length := List.length_map ..
  refine ⟨.ref a, rfl, a, _, rfl, .inl hA, (((refR rs).length : Nat) : Int), rfl, by omega, by omega, for_range (n := (refR rs).length) (fun i σ H2 => H2 = H ∧ ∃ y2 y3, σ = [some (.ref a), some (.int f), y2, y3]) ⟨rfl, none, none, rfl⟩ ?_ ?_⟩
  · rintro i σ H2 hi ⟨rfl, y2, y3, rfl⟩
    have hm0 := Int.emod_nonneg (f + (0 + (i : Int))) (show ((refR rs).length : Int) ≠ 0 by omega)
    have hm1 := Int.emod_lt_of_pos (f + (0 + (i : Int))) (show (0 : Int) < ((refR rs).length : Int) by omega)
    obtain ⟨n, hn⟩ : ∃ n : Nat, (f + (0 + (i : Int))) % ((refR rs).length : Int) = (n : Int) := ⟨((f + (0 + (i : Int))) % ((refR rs).length : Int)).toNat, by omega⟩
    have hnl : n < rs.length := by omega
    have hq : rs[n]? = some rs[n] := List.getElem?_eq_getElem hnl
    have hqm := List.getElem_mem hnl
    generalize rs[n] = qr at hq hqm
    obtain ⟨t1, t2⟩ := hrw qr hqm
    refine ⟨_, rfl, _, rfl, _, _, rfl, rfl, .inl ⟨_, rfl, .ref a, rfl, a, _, rfl, .inl hA, _, _, rfl, rfl, by omega, ?_⟩⟩
    dsimp only
    rw [hn]
    refine ⟨_, rfl, _, rfl, a, _, _, _, rfl, rfl, hA, atI_nat (get_refR hq), qr.1, _, 2, _, rfl, rfl, SqT.of t1, rfl, qr.2.1, _, rfl, .inr (SqT.of t2), _, _, rfl, rfl, _, rfl, if2 (fun e => ⟨_, rfl, q n (.inl ⟨n, qr, rfl, hq, ?_⟩)⟩) (fun e => ⟨rfl, _, _, rfl⟩)⟩
    rw [List.length_map] at e
    omega
  · rintro σ H2 ⟨rfl, y2, y3, rfl⟩
    exact ⟨1, rfl, q (-1) (.inr rfl)⟩
theorem ok_l_later (T : Txt K mg) : Good P w K mg base 1 (He.ga K "_law_later") ["_law_parts_here", "_law_source"] [] (sp_l_later K) := by
  refine good_of T.f_l_later sc_l_later (fun vs H Q E h => ?_) (fun _ _ _ _ _ _ us hl => match us, hl with | [_, _], _ => rfl) (fun cdv A outer s H vs Q E hr h => ?_)
  · obtain ⟨_, _, _, _, rfl, _⟩ := h
    rfl
  refine ⟨_, (pss_cons (ps_set (i := 2) sc_l_later.nd rfl (Or.inl rfl) (pe_lst (pa_cons (pe_un un_neg pe_int) pa_nil)))
  (pss_cons (ps_set (i := 3) sc_l_later.nd rfl (Or.inl rfl) pe_bl)
  (pss_cons (ps_for PassesOwn.never rfl (pi_list (pv 0)) (pg_name (i := 4) sc_l_later.nd rfl (Or.inl rfl))
    (pss_cons (ps_if (pt_val (pv 3))
    (pss_one (ps_set (i := 2) sc_l_later.nd rfl (Or.inl rfl) (pe_op op_cat (pv 2) (pv 4))))
    pss_nil)
  (pss_one (ps_if (pt_cmpR op_in_seq (pv 1) (pv 4) (by rfl))
    (pss_one (ps_set (i := 3) sc_l_later.nd rfl (Or.inl rfl) pe_bl))
    pss_nil))))
  (pss_one (ps_ret (pv 2)))))), ?_⟩
  obtain ⟨a, ws, s0, n, rfl, hA, hws, hwt, hwl, q⟩ := h
  refine ⟨1, rfl, (by show 1 ≤ sizeLine; decide), fun tp ntp => ?_⟩
  have s1 := same_new (o := .lst [.int (-1)]) ntp
  have htp1 : upd H tp (.lst [.int (-1)]) tp = some (ilst [-1]) := upd_same
  generalize upd H tp (.lst [.int (-1)]) = H1 at s1 htp1 ⊢
  have erl : (refL ws).length = ws.length := by unfold refL; rw [List.length_map]
  refine ⟨.ref a, rfl, a, rfl, ⟨_, s1.seq hA⟩, for_list (K := K) (a := a) (xs := refL ws) (fun i σ H2 => Same H H2 ∧ ∃ (p : Addr) (ts : List Int) (c : Bool), H p = none ∧ H2 p = some (ilst ts) ∧ ts ≠ [] ∧ ts.length ≤ 1 + 100 * i ∧ (∀ t ∈ ts, t = -1 ∨ (0 ≤ t ∧ t < (n : Int))) ∧ ∃ y4, σ = [some (.ref a), some (.int (s0 : Int)), some (.ref p), some (.bl c), y4])
    ⟨s1, tp, [-1], false, ntp, htp1, by simp, Nat.le_refl _, fun t ht => .inl (List.mem_singleton.mp ht), none, rfl⟩ (fun i σ H2 _ h => h.1.seq hA) ?_ ?_⟩
  · rintro i x σ H2 hi ⟨s2, p, ts, c, np, hp, hne, htl, hts, y4, rfl⟩
    obtain ⟨z, hz, hzm, rfl⟩ := refL_get hi
    have hil := (List.getElem?_eq_some_iff.mp hz).1
    have hz2 := s2 _ _ (hws z hzm)
    obtain ⟨hzl, hzt⟩ := hwt z hzm
    have htest : ∀ {p2 : Addr} {ts2 : List Int} {c2 : Bool} {H3 : Hp}, Same H H3 → H p2 = none → H3 p2 = some (ilst ts2) → ts2 ≠ [] → ts2.length ≤ 1 + 100 * (i + 1) → (∀ t ∈ ts2, t = -1 ∨ (0 ≤ t ∧ t < (n : Int))) → Same H H3 ∧ ∃ (p : Addr) (ts : List Int) (c : Bool), H p = none ∧ H3 p = some (ilst ts) ∧ ts ≠ [] ∧ ts.length ≤ 1 + 100 * (i + 1) ∧ (∀ t ∈ ts, t = -1 ∨ (0 ≤ t ∧ t < (n : Int))) ∧ ∃ y4 : Option V, [some (V.ref a), some (V.int (s0 : Int)), some (V.ref p2), some (V.bl c2), some (V.ref z.1)] = [some (V.ref a), some (V.int (s0 : Int)), some (V.ref p), some (V.bl c), y4] :=
      fun h1 h2 h3 h4 h5 h6 => ⟨h1, _, _, _, h2, h3, h4, h5, h6, _, rfl⟩
    refine ⟨_, rfl, c, rfl, ?_⟩
    cases c with
    | false =>
      refine iteF ⟨_, rfl, _, rfl, z.1, _, rfl, .inl (SqL.of hz2), rfl, flat_ints _, _, rfl, ?_⟩
      show if inV _ _ = true then _ else _
      split
      · exact htest s2 np hp hne (by omega) hts
      · exact htest s2 np hp hne (by omega) hts
    | true =>
      refine iteT ⟨_, rfl, _, rfl, p, z.1, _, _, rfl, rfl, hp, hz2, ?_, fun p2 np2 => ?_⟩
      · rw [List.length_map, List.length_map]
        exact Nat.le_trans (show _ ≤ 10000 by omega) (by decide)
      have s3 := s2.trans (same_new (o := .lst (ts.map V.int ++ z.2.map V.int)) np2)
      have hp2 : upd H2 p2 (.lst (ts.map V.int ++ z.2.map V.int)) p2 = some (ilst (ts ++ z.2)) := by
        rw [upd_same, ← List.map_append]
      have hz3 := s3 _ _ (hws z hzm)
      generalize upd H2 p2 (.lst (ts.map V.int ++ z.2.map V.int)) = H3 at s3 hp2 hz3 ⊢
      have hne2 : ts ++ z.2 ≠ [] := fun h => hne (List.append_eq_nil_iff.mp h).1
      have hl2 : (ts ++ z.2).length ≤ 1 + 100 * (i + 1) := by rw [List.length_append]; omega
      have ht2 : ∀ t ∈ ts ++ z.2, t = -1 ∨ (0 ≤ t ∧ t < (n : Int)) := fun t ht => (List.mem_append.mp ht).elim (hts t) fun h => .inr (hzt t h)
      refine ⟨_, rfl, _, rfl, z.1, _, rfl, .inl (SqL.of hz3), rfl, flat_ints _, _, rfl, ?_⟩
      show if inV _ _ = true then _ else _
      split
      · exact htest s3 (s2.free np2) hp2 hne2 hl2 ht2
      · exact htest s3 (s2.free np2) hp2 hne2 hl2 ht2
  · rintro σ H2 ⟨s2, p, ts, c, np, hp, hne, htl, hts, y4, rfl⟩
    exact ⟨_, rfl, q H2 p ts s2 np hp hne hts⟩
end
end K62

namespace K62
open PySem PySem.Spec PyProof.Rows L2 Fw Lay
section
variable {P : Program} {w : World} {K : PySem.W.Frag} {mg : Str → Option Value} {base : Heap}
theorem sxr_same {rs rs2 : Rx} (h : rs2.map (·.2.2) = rs.map (·.2.2)) : sxr rs2 = sxr rs ∧ pxr rs2 = pxr rs := by
  have e1 : sxr rs2 = (rs2.map (·.2.2)).map fun q : Rw => q.2.2 := by rw [List.map_map]; rfl
  have e2 : sxr rs = (rs.map (·.2.2)).map fun q : Rw => q.2.2 := by rw [List.map_map]; rfl
  have e3 : pxr rs2 = (rs2.map (·.2.2)).map fun q : Rw => q.2.1 := by rw [List.map_map]; rfl
  have e4 : pxr rs = (rs.map (·.2.2)).map fun q : Rw => q.2.1 := by rw [List.map_map]; rfl
  rw [e1, e2, e3, e4, h]
  exact ⟨rfl, rfl⟩
theorem refR_set (rs : Rx) (i : Nat) (q : Addr × Addr × Rw) : refR (rs.set i q) = (refR rs).set i (.ref q.1) := by
  unfold refR
  rw [List.map_set]
theorem mem_set2 {α : Type} {l : List α} {i : Nat} {x z : α} (h : z ∈ l.set i x) : z ∈ l ∨ z = x := List.mem_or_eq_of_mem_set h
theorem ok_with_row (T : Txt K mg) : Good P w K mg base 6 (He.ga K "with_row") ["graph", "node", "row"] [] (sp_with_row K) := by
  refine good_of T.f_with_row sc_with_row (fun vs H Q E h => ?_) (fun _ _ _ _ _ _ us hl => match us, hl with | [_, _, _], _ => rfl) (fun cdv A outer s H vs Q E hr h => ?_)
  · obtain ⟨_, _, _, _, rfl, _⟩ := h
    rfl
  refine ⟨_, (pss_cons (ps_set (i := 3) sc_with_row.nd rfl (Or.inl rfl) (pe_mtg0 (pv 0) T.cl_Graph T.me_Graph_rows (ok_Graph_rows T) (hr.mono (j := 1) (by decide))))
  (pss_cons (ps_asg (pv 2) (pg_sub (pv 3) (pv 1) set_list))
  (pss_one (ps_ret (pe_mkg T.mk_Graph (ok_Graph_init T) (hr.mono (j := 5) (by decide)) (by rfl) T.g_Graph (pa_cons (pv 3) pa_nil)))))), ?_⟩
  obtain ⟨g, rs, i, qr, rfl, hG, hi, hq, hok, q⟩ := h
  obtain ⟨dx, ra, h1, h2, hrw⟩ := id hG
  refine ⟨_, rfl, g, dx, _, rfl, h1, rfl, g, rs, rfl, hG, fun p np => ?_⟩
  have s1 := same_new (o := .lst (refR rs)) np
  have hp1 : upd H p (.lst (refR rs)) p = some (.lst (refR rs)) := upd_same
  generalize upd H p (.lst (refR rs)) = H1 at s1 hp1 ⊢
  refine ⟨_, rfl, _, rfl, _, rfl, p, _, _, i, rfl, rfl, hp1, ixN_nat (by unfold refR; rw [List.length_map]; exact hi), ?_⟩
  have s2 := same_mut (o := .lst ((refR rs).set i (.ref qr.1))) s1 np
  have hp2 : upd H1 p (.lst ((refR rs).set i (.ref qr.1))) p = some (.lst (refR (rs.set i qr))) := by
    rw [upd_same, refR_set]
  generalize upd H1 p (.lst ((refR rs).set i (.ref qr.1))) = H2 at s2 hp2 ⊢
  refine ⟨_, rfl, fun x dr nx ndr hne => ?_⟩
  have hfr : ∀ z o, H2 z = some o → upd (upd H2 dr (.own x)) x (.ins (He.ga K "Graph") dr []) z = some o := fun z o e5 => by
    rw [upd_ne (ne_of_none e5 nx), upd_ne (ne_of_none e5 ndr)]
    exact e5
  have hrw2 : RwOk H2 (rs.set i qr) := fun z hz => by
    rcases mem_set2 hz with hz | hz
    · exact ⟨s2 _ _ (hrw z hz).1, s2 _ _ (hrw z hz).2⟩
    · rw [hz]
      have := hq qr (List.mem_singleton.mpr rfl)
      exact ⟨s2 _ _ this.1, s2 _ _ this.2⟩
  refine ⟨x, dr, p, rs.set i qr, rfl, upd_same, SqL.of (hfr _ _ hp2), fun z hz => ⟨hfr _ _ (hrw2 z hz).1, hfr _ _ (hrw2 z hz).2⟩, hok, fun H3 rs2 b3 hG3 e3 => ?_⟩
  refine ⟨rfl, q H3 x rs2 (fun z o e => b3 z o (ne_of_none (s2 _ _ e) nx) (hfr _ _ (s2 _ _ e))) (s2.free nx) hG3 e3⟩
theorem ok_with_price (T : Txt K mg) : Good P w K mg base 7 (He.ga K "with_price") ["graph", "node", "price"] [] (sp_with_price K) := by
  refine good_of T.f_with_price sc_with_price (fun vs H Q E h => ?_) (fun _ _ _ _ _ _ us hl => match us, hl with | [_, _, _], _ => rfl) (fun cdv A outer s H vs Q E hr h => ?_)
  · obtain ⟨_, _, _, _, _, rfl, _⟩ := h
    rfl
  refine ⟨_, (pss_one (ps_ret (pe_cg (ok_with_row T) (hr.mono (j := 6) (by decide)) (by rfl) T.g_with_row (pa_cons (pv 0) (pa_cons (pv 1) (pa_cons (pe_tup (pa_cons (pe_mtg (pv 0) T.cl_Graph T.me_Graph_word (ok_Graph_word T) (hr.mono (j := 1) (by decide)) (pa_cons (pv 1) pa_nil)) (pa_cons (pv 2) (pa_cons (pe_mtg (pv 0) T.cl_Graph T.me_Graph_successors (ok_Graph_successors T) (hr.mono (j := 1) (by decide)) (pa_cons (pv 1) pa_nil)) pa_nil)))) pa_nil)))))), ?_⟩
  obtain ⟨g, rs, i, qr, x, rfl, hG, hok, hq, hx, q⟩ := h
  obtain ⟨dx, ra, h1, h2, hrw⟩ := id hG
  have hi := (List.getElem?_eq_some_iff.mp hq).1
  have hqm := List.mem_of_getElem? hq
  refine ⟨_, rfl, _, rfl, _, rfl, g, dx, _, rfl, h1, rfl, _, rfl, g, rs, i, qr, rfl, hG, hq, _, rfl, _, rfl, g, dx, _, rfl, h1, rfl, _, rfl, g, rs, i, qr, rfl, hG, hq, ?_⟩
  refine ⟨(by show 3 ≤ sizeLine; decide), fun t nt => ?_⟩
  have s1 := same_new (o := .tup [.str qr.2.2.1, .int x, .ref qr.2.1]) nt
  refine ⟨g, rs, i, (t, qr.2.1, qr.2.2.1, x, qr.2.2.2.2), rfl, hG.same s1, hi, fun z hz => ?_, ⟨?_, ?_, ?_⟩, fun H2 h rs2 s2 nh hG2 e2 => q H2 h rs2 (s1.trans s2) (s1.free nh) hG2 ?_⟩
  · rw [List.mem_singleton.mp hz]
    exact ⟨upd_same, s1 _ _ (hrw qr hqm).2⟩
  · rw [List.length_set]
    exact hok.few
  · have e : sxr (rs.set i (t, qr.2.1, qr.2.2.1, x, qr.2.2.2.2)) = sxr rs := by
      unfold sxr
      rw [List.map_set]
      exact List.ext_getElem? fun j => by
        rw [List.getElem?_set]
        by_cases e : i = j
        · subst e
          rw [if_pos rfl, if_pos (by rw [List.length_map]; exact hi), List.getElem?_map, hq]
          rfl
        · rw [if_neg e]
    rw [e]
    exact hok.g
  · intro z hz
    rcases mem_set2 hz with hz | hz
    · exact hok.nm z hz
    · rw [hz]
      exact ⟨(hok.nm qr hqm).1, hx⟩
  · rw [e2, List.map_set]
theorem ok_with_successor (T : Txt K mg) : Good P w K mg base 7 (He.ga K "with_successor") ["graph", "node", "target"] [] (sp_with_successor K) := by
  refine good_of T.f_with_successor sc_with_successor (fun vs H Q E h => ?_) (fun _ _ _ _ _ _ us hl => match us, hl with | [_, _, _], _ => rfl) (fun cdv A outer s H vs Q E hr h => ?_)
  · obtain ⟨_, _, _, _, _, rfl, _⟩ := h
    rfl
  refine ⟨_, (pss_cons (ps_set (i := 3) sc_with_successor.nd rfl (Or.inl rfl) (pe_op op_catX (pe_mtg (pv 0) T.cl_Graph T.me_Graph_successors (ok_Graph_successors T) (hr.mono (j := 1) (by decide)) (pa_cons (pv 1) pa_nil)) (pe_tup (pa_cons (pv 2) pa_nil))))
  (pss_one (ps_ret (pe_cg (ok_with_row T) (hr.mono (j := 6) (by decide)) (by rfl) T.g_with_row (pa_cons (pv 0) (pa_cons (pv 1) (pa_cons (pe_tup (pa_cons (pe_mtg (pv 0) T.cl_Graph T.me_Graph_word (ok_Graph_word T) (hr.mono (j := 1) (by decide)) (pa_cons (pv 1) pa_nil)) (pa_cons (pe_mtg (pv 0) T.cl_Graph T.me_Graph_price (ok_Graph_price T) (hr.mono (j := 1) (by decide)) (pa_cons (pv 1) pa_nil)) (pa_cons (pv 3) pa_nil)))) pa_nil))))))), ?_⟩
  obtain ⟨g, rs, i, qr, x, rfl, hG, hok, hq, hlt, hx, q⟩ := h
  obtain ⟨dx, ra, h1, h2, hrw⟩ := id hG
  have hi := (List.getElem?_eq_some_iff.mp hq).1
  have hqm := List.mem_of_getElem? hq
  have ht := (hrw qr hqm).2
  refine ⟨_, rfl, g, dx, _, rfl, h1, rfl, _, rfl, g, rs, i, qr, rfl, hG, hq, _, rfl, (by show 1 ≤ sizeLine; decide), fun o no => ?_⟩
  have s1 := same_new (o := .tup [.int x]) no
  refine ⟨qr.2.1, o, _, _, rfl, rfl, s1 _ _ ht, upd_same, by rw [List.length_map]; exact Nat.le_trans (show _ ≤ 5 by show qr.2.2.2.2.length + 1 ≤ 5; omega) (by decide), fun H1 p s2 hp => ?_⟩
  have s02 := s1.trans s2
  have hp : H1 p = some (itup (qr.2.2.2.2 ++ [x])) := by
    rw [hp]
    unfold itup
    rw [List.map_append]
    rfl
  refine ⟨_, rfl, _, rfl, _, rfl, g, dx, _, rfl, s02 _ _ h1, rfl, _, rfl, g, rs, i, qr, rfl, hG.same s02, hq, _, rfl, g, dx, _, rfl, s02 _ _ h1, rfl, _, rfl, g, rs, i, qr, rfl, hG.same s02, hq, _, rfl, ?_⟩
  refine ⟨(by show 3 ≤ sizeLine; decide), fun t nt => ?_⟩
  have s3 := s02.trans (same_new (o := .tup [.str qr.2.2.1, .int qr.2.2.2.1, .ref p]) nt)
  have hgl := sxr_len rs
  have hpos : 0 < rs.length := by omega
  refine ⟨g, rs, i, (t, p, qr.2.2.1, qr.2.2.2.1, qr.2.2.2.2 ++ [x]), rfl, hG.same s3, hi, fun z hz => ?_, ⟨?_, ?_, ?_⟩, fun H2 h rs2 s4 nh hG2 e2 => q H2 h rs2 (s3.trans s4) (s3.free nh) hG2 ?_⟩
  · rw [List.mem_singleton.mp hz]
    exact ⟨upd_same, same_new (o := .tup [.str qr.2.2.1, .int qr.2.2.2.1, .ref p]) nt _ _ hp⟩
  · rw [List.length_set]
    exact hok.few
  · have e : sxr (rs.set i (t, p, qr.2.2.1, qr.2.2.2.1, qr.2.2.2.2 ++ [x])) = (sxr rs).set i (qr.2.2.2.2 ++ [x]) := by
      unfold sxr
      rw [List.map_set]
    rw [e]
    exact gok_more hok.g (get_sxr hq) hlt (by rw [hgl]; exact hx)
  · intro z hz
    rcases mem_set2 hz with hz | hz
    · exact hok.nm z hz
    · rw [hz]
      exact hok.nm qr hqm
  · rw [e2, List.map_set]
end
end K62

namespace K62
open PySem PySem.Spec PyProof.Rows L2 Fw Lay
section
variable {P : Program} {w : World} {K : PySem.W.Frag} {mg : Str → Option Value} {base : Heap}
theorem cut_take (zs : Ws) (n : Nat) (h : n ≤ zs.length) : cutV (refL zs) none (some (n : Int)) = refL (zs.take n) := by
  unfold cutV
  rw [HT.sIx_none, HT.sIx_nat, List.drop_zero, Nat.sub_zero]
  have e : (refL zs).length = zs.length := List.length_map ..
  rw [e, Nat.min_eq_left h]
  unfold refL
  rw [List.map_take]
theorem cut_mid (zs : Ws) (b s : Nat) (h : b + s ≤ zs.length) : cutV (refL zs) (some (b : Int)) (some ((b : Int) + (s : Int))) = refL ((zs.drop b).take s) := by
  have e0 : ((b : Int) + (s : Int)) = ((b + s : Nat) : Int) := by omega
  unfold cutV
  rw [e0, HT.sIx_nat, HT.sIx_nat]
  have e : (refL zs).length = zs.length := List.length_map ..
  rw [e, Nat.min_eq_left h, Nat.min_eq_left (by omega)]
  have e2 : b + s - b = s := by omega
  rw [e2]
  unfold refL
  rw [List.map_take, List.map_drop]
/-- a block without its entry -/
structure Blk3 (g g2 : Nx) (n s : Nat) : Prop where
  len : g2.length = n + s
  old : ∀ (v : Nat) (l : List Int), g[v]? = some l → ∃ more, g2[v]? = some (l ++ more) ∧ (∀ t ∈ more, (n : Int) ≤ t ∧ t < (n : Int) + s) ∧ (l.length ≤ 4 → (l ++ more).length ≤ 4)
  ring : ∀ p, p < s → ∃ l, g2[n + p]? = some l ∧ (1 < s → l = [((n + (p + 1) % s : Nat) : Int)]) ∧ (s = 1 → l = [] ∨ l = [(n : Int)])
theorem ok_l_block (T : Txt K mg) : Good P w K mg base 2 (He.ga K "_law_block") ["_law_nexts", "_law_digit", "_law_row", "_law_first"] [] (sp_l_block K) := by
  refine good_of T.f_l_block sc_l_block (fun vs H Q E h => ?_) (fun _ _ _ _ _ _ us hl => match us, hl with | [_, _, _, _], _ => rfl) (fun cdv A outer s H vs Q E hr h => ?_)
  · obtain ⟨_, _, _, _, _, _, _, rfl, _⟩ := h
    rfl
  refine ⟨_, (pss_cons (ps_set (i := 4) sc_l_block.nd rfl (Or.inl rfl) (pe_ix ix_list (pe_lst (pa_cons pe_int (pa_cons pe_int (pa_cons pe_int (pa_cons pe_int (pa_cons pe_int (pa_cons pe_int (pa_cons pe_int (pa_cons pe_int pa_nil))))))))) (pe_op op_mod (pe_callTy call_int1 (by rfl) T.z_int (by decide +kernel) (pa_cons (pv 1) pa_nil)) pe_int) (fun _ _ => rfl)))
  (C8.pss_cut (ps_if (pt_cmpR op_eq (pe_op op_mod (pe_callTy call_int1 (by rfl) T.z_int (by decide +kernel) (pa_cons (pe_op op_fdiv (pv 1) pe_int) pa_nil)) pe_int) pe_int (nomark _))
    (pss_one (ps_set (i := 4) sc_l_block.nd rfl (Or.inl rfl) pe_int))
    pss_nil)
  (pss_cons (ps_set (i := 5) sc_l_block.nd rfl (Or.inl rfl) (pe_callB call_len_seq (by rfl) T.z_len (by decide +kernel) (pa_cons (pv 0) pa_nil)))
  (pss_cons (ps_for PassesOwn.never rfl (pi_range1 (by rfl) T.z_range (pa_cons (pv 4) pa_nil)) (pg_name (i := 6) sc_l_block.nd rfl (Or.inl rfl))
    (pss_one (ps_if (pw_or (pt_cmpR op_gt (pv 4) pe_int (nomark _)) (pw_or1 (pt_cmpR op_eq (pe_op op_mod (pe_callTy call_int1 (by rfl) T.z_int (by decide +kernel) (pa_cons (pe_op op_fdiv (pv 1) pe_int) pa_nil)) pe_int) pe_int (nomark _)))).pt
    (pss_one (ps_expr (pe_bm PySem.F.plainAttrs_list PySem.F.slot_list_append PySem.F.type_list_append mt_append (pv 0) (pa_cons (pe_lst (pa_cons (pe_op op_add (pv 5) (pe_op op_mod (pe_callTy call_int1 (by rfl) T.z_int (by decide +kernel) (pa_cons (pe_op op_add (pv 6) pe_int) pa_nil)) (pv 4))) pa_nil)) pa_nil))))
    (pss_one (ps_expr (pe_bm PySem.F.plainAttrs_list PySem.F.slot_list_append PySem.F.type_list_append mt_append (pv 0) (pa_cons (pe_lst pa_nil) pa_nil)))))))
  (C8.pss_cut (ps_if (pt_cmpR op_gt (pv 5) pe_int (nomark _))
    (pss_one (ps_for PassesOwn.never rfl (pi_range1 (by rfl) T.z_range (pa_cons (pe_op op_add pe_int (pe_op op_mod (pe_callTy call_int1 (by rfl) T.z_int (by decide +kernel) (pa_cons (pe_op op_fdiv (pv 1) pe_int) pa_nil)) pe_int)) pa_nil)) (pg_name (i := 7) sc_l_block.nd rfl (Or.inl rfl))
    (pss_cons (ps_set (i := 8) sc_l_block.nd rfl (Or.inl rfl) (pe_cg (ok_l_open T) (hr.mono (j := 1) (by decide)) (by rfl) T.g_l_open (pa_cons (pe_slice sl_list (pv 0) po_none (po_some (pv 5))) (pa_cons (pe_ix ix_list (pv 2) (pe_op op_add (pv 3) (pv 7)) (fun _ _ => rfl)) pa_nil))))
  (pss_one (ps_if (pt_cmpR op_ge (pv 8) pe_int (nomark _))
    (pss_one (ps_expr (pe_bm PySem.F.plainAttrs_list PySem.F.slot_list_append PySem.F.type_list_append mt_append (pe_ix ix_list (pv 0) (pv 8) (fun _ _ => rfl)) (pa_cons (pe_op op_add (pv 5) (pe_op op_mod (pe_callTy call_int1 (by rfl) T.z_int (by decide +kernel) (pa_cons (pe_op op_fdiv (pe_ix ix_list (pv 2) (pe_op op_add (pv 3) (pv 7)) (fun _ _ => rfl)) pe_int) pa_nil)) (pv 4))) pa_nil))))
    pss_nil)))))
    pss_nil)
  (pss_one (ps_ret (pv 4)))))))), ?_⟩
  obtain ⟨a, r, H0, zs, d, f, ds, rfl, d0, hN, hzl, hr, hf, hds, q⟩ := h
  refine ⟨(by show 8 ≤ sizeLine; decide), fun o no => ?_⟩
  obtain ⟨sz, hsz, hat⟩ := at_mod (ds := [1, 2, 3, 1, 4, 2, 1, 3]) (by simp) d
  obtain ⟨s0, rfl⟩ : ∃ k : Nat, sz = k := ⟨sz.toNat, by simp at hsz; omega⟩
  have hs0 : 1 ≤ s0 ∧ s0 ≤ 4 := by
    simp at hsz
    omega
  refine ⟨_, rfl, .inl ⟨_, rfl, _, _, rfl, rfl, (by show (0 : Int) < 8; decide), o, _, _, _, rfl, rfl, SqL.of upd_same, hat, ?_⟩⟩
  have hN1 := hN.alloc (o := .lst [.int 1, .int 2, .int 3, .int 1, .int 4, .int 2, .int 1, .int 3]) no
  generalize upd H o (.lst [.int 1, .int 2, .int 3, .int 1, .int 4, .int 2, .int 1, .int 3]) = H1 at hN1 ⊢
  refine ⟨fun σ H2 => H2 = H1 ∧ ∃ s : Nat, 1 ≤ s ∧ s ≤ 13 ∧ σ = [some (.ref a), some (.int d), some (.ref r), some (.int (f : Int)), some (.int (s : Int)), none, none, none, none], ?_, ?_⟩
  · refine ⟨_, rfl, _, _, rfl, rfl, ⟨by decide, by decide⟩, .inl ⟨_, rfl, _, _, rfl, rfl, (by show (0 : Int) < 24; decide), rfl, _, rfl, if2 (fun e => ?_) (fun e => ?_)⟩⟩
    · exact ⟨rfl, 13, by omega, by omega, rfl⟩
    · exact ⟨rfl, s0, by omega, by omega, rfl⟩
  rintro σ H2 ⟨rfl, s, s1, s13, rfl⟩
  have hlen : (refL zs).length = zs.length := List.length_map ..
  refine ⟨.ref a, rfl, a, _, rfl, .inl (SqL.of hN1.at_), ?_⟩
  dsimp only
  rw [hlen]
  have hsp : (0 : Int) < (s : Int) := by omega
  refine ⟨_, rfl, (s : Int), rfl, by omega, by omega, for_range (n := s) (fun i σ H5 => (∃ ns : Ws, NxIn H0 H5 a (zs ++ ns) ∧ ns.length = i ∧ ∀ p : Nat, p < i → ∃ z, ns[p]? = some z ∧ (1 < s → z.2 = [((zs.length + (p + 1) % s : Nat) : Int)]) ∧ (s = 1 → z.2 = [] ∨ z.2 = [(zs.length : Int)])) ∧
      ∃ y6, σ = [some (.ref a), some (.int d), some (.ref r), some (.int (f : Int)), some (.int (s : Int)), some (.int (zs.length : Nat)), y6, none, none]) ⟨⟨[], by rw [List.append_nil]; exact hN1, rfl, fun p hp => absurd hp (Nat.not_lt_zero _)⟩, none, rfl⟩ ?_ ?_⟩
  · rintro i σ H5 hi ⟨⟨ns, hN5, hnl, hns⟩, y6, rfl⟩
    have hrl : (refL (zs ++ ns)).length < sizeLine := by
      unfold refL
      rw [List.length_map, List.length_append]
      exact small1000 (by omega)
    have eX : ((zs.length : Nat) : Int) + (0 + (i : Int) + 1) % (s : Int) = ((zs.length + (i + 1) % s : Nat) : Int) := by
      have e1 : (0 + (i : Int) + 1) = ((i + 1 : Nat) : Int) := by omega
      rw [e1, ← Int.natCast_emod, ← Int.natCast_add]
    have done : ∀ (c : List Int) (l : Addr), H5 l = none → (1 < s → c = [((zs.length + (i + 1) % s : Nat) : Int)]) → (s = 1 → c = [] ∨ c = [(zs.length : Int)]) →
        ∃ ns2 : Ws, NxIn H0 (upd (upd H5 l (.lst (c.map V.int))) a (.lst (refL (zs ++ ns) ++ [.ref l]))) a (zs ++ ns2) ∧ ns2.length = i + 1 ∧ ∀ p : Nat, p < i + 1 → ∃ z, ns2[p]? = some z ∧ (1 < s → z.2 = [((zs.length + (p + 1) % s : Nat) : Int)]) ∧ (s = 1 → z.2 = [] ∨ z.2 = [(zs.length : Int)]) := fun c l nl h1 h2 => by
      refine ⟨ns ++ [(l, c)], by rw [← List.append_assoc]; exact hN5.push nl, by rw [List.length_append, hnl]; rfl, fun p hp => ?_⟩
      by_cases hpi : p = i
      · rw [hpi, ← hnl]
        exact ⟨_, List.getElem?_concat_length .., by rw [hnl]; exact h1, h2⟩
      · obtain ⟨z, e1, e2⟩ := hns p (by omega)
        exact ⟨z, by rw [List.getElem?_append_left (by omega)]; exact e1, e2⟩
    by_cases hs : 1 < s
    · refine ⟨_, rfl, _, _, rfl, rfl, _, rfl, ifT (by omega) ⟨.ref a, rfl, .inl ⟨rfl, _, SqL.of hN5.at_⟩, _, rfl, _, rfl, _, _, rfl, rfl, .inl ⟨_, rfl, _, rfl, _, _, rfl, rfl, hsp, _, _, rfl, rfl, (by show 1 ≤ sizeLine; decide), fun l nl => ⟨a, _, _, rfl, rfl, same_new nl _ _ hN5.at_, hrl, ?_⟩⟩⟩⟩
      dsimp only
      rw [eX]
      obtain ⟨ns2, e1, e2, e3⟩ := done [((zs.length + (i + 1) % s : Nat) : Int)] l nl (fun _ => rfl) (fun h => by omega)
      exact ⟨⟨ns2, e1, e2, e3⟩, _, rfl⟩
    · have hs1 : s = 1 := by omega
      refine ⟨_, rfl, _, _, rfl, rfl, _, rfl, ifF (by omega) ⟨_, rfl, _, _, rfl, rfl, ⟨by decide, by decide⟩, .inl ⟨_, rfl, _, _, rfl, rfl, (by show (0 : Int) < 2; decide), rfl, _, rfl, if2 (fun e => ?_) (fun e => ?_)⟩⟩⟩
      · refine ⟨.ref a, rfl, .inl ⟨rfl, _, SqL.of hN5.at_⟩, _, rfl, _, rfl, _, _, rfl, rfl, .inl ⟨_, rfl, _, rfl, _, _, rfl, rfl, hsp, _, _, rfl, rfl, (by show 1 ≤ sizeLine; decide), fun l nl => ⟨a, _, _, rfl, rfl, same_new nl _ _ hN5.at_, hrl, ?_⟩⟩⟩
        dsimp only
        rw [eX]
        obtain ⟨ns2, e1, e2, e3⟩ := done [((zs.length + (i + 1) % s : Nat) : Int)] l nl (fun _ => rfl) (fun h => .inr (by rw [h, Nat.mod_one]; rfl))
        exact ⟨⟨ns2, e1, e2, e3⟩, _, rfl⟩
      · refine ⟨.ref a, rfl, .inl ⟨rfl, _, SqL.of hN5.at_⟩, Nat.zero_le _, fun l nl => ⟨a, _, _, rfl, rfl, same_new nl _ _ hN5.at_, hrl, ?_⟩⟩
        obtain ⟨ns2, e1, e2, e3⟩ := done [] l nl (fun h => by omega) (fun _ => .inl rfl)
        exact ⟨⟨ns2, e1, e2, e3⟩, _, rfl⟩
  rintro σ H5 ⟨⟨ns, hN5, hnl, hns⟩, y6, rfl⟩
  have hB0 : Blk3 (cts zs) (cts (zs ++ ns)) zs.length s := by
    refine ⟨by rw [cts_len, List.length_append, hnl], fun v l hv => ⟨[], ?_, fun t ht => (nomatch ht), fun h => by rw [List.append_nil]; exact h⟩, fun p hp => ?_⟩
    · obtain ⟨z, hz, rfl⟩ := get_cts hv
      have := (List.getElem?_eq_some_iff.mp hz).1
      rw [List.append_nil]
      exact cts_get (by rw [List.getElem?_append_left this]; exact hz)
    · obtain ⟨z, e1, e2, e3⟩ := hns p hp
      exact ⟨z.2, cts_get (by rw [List.getElem?_append_right (by omega)]; rw [show zs.length + p - zs.length = p by omega]; exact e1), e2, e3⟩
  generalize zs ++ ns = zs5 at hN5 hB0
  refine ⟨fun σ H7 => ∃ zs7 : Ws, NxIn H0 H7 a zs7 ∧ BlkR (cts zs) (cts zs7) zs.length s ∧ ∃ y6 y7 y8, σ = [some (.ref a), some (.int d), some (.ref r), some (.int (f : Int)), some (.int (s : Int)), some (.int (zs.length : Nat)), y6, y7, y8], ?_, ?_⟩
  · refine ⟨_, rfl, _, _, rfl, rfl, _, rfl, if2 (fun e => ?_) (fun e => ?_)⟩
    · refine ⟨_, rfl, _, _, rfl, rfl, ⟨by decide, by decide⟩, .inl ⟨_, rfl, _, _, rfl, rfl, (by show (0 : Int) < 4; decide), _, _, rfl, rfl, _, rfl, by omega, by omega, for_range (n := (1 + d / 384 % 4).toNat) (fun i σ H6 => (∃ zs6 : Ws, NxIn H0 H6 a zs6 ∧ Blk3 (cts zs) (cts zs6) zs.length s ∧ (0 < i → (∃ l ∈ cts zs, l.length < 4) → ∃ (v : Nat) (l : List Int) (t : Int), v < zs.length ∧ (cts zs6)[v]? = some l ∧ t ∈ l ∧ (zs.length : Int) ≤ t ∧ t < (zs.length : Int) + s)) ∧
          ∃ y7 y8, σ = [some (.ref a), some (.int d), some (.ref r), some (.int (f : Int)), some (.int (s : Int)), some (.int (zs.length : Nat)), y6, y7, y8]) ⟨⟨zs5, hN5, hB0, fun h => absurd h (Nat.lt_irrefl _)⟩, none, none, rfl⟩ ?_ ?_⟩⟩
      · rintro i σ H6 hi ⟨⟨zs6, hN6, hB6, hen⟩, y7, y8, rfl⟩
        have hz6l : zs6.length = zs.length + s := by
          have := hB6.len
          rw [cts_len] at this
          exact this
        have hfi : f + i < ds.length := by omega
        have hx : ds[f + i]? = some ds[f + i] := List.getElem?_eq_getElem hfi
        have hx0 := hds _ (List.getElem_mem hfi)
        generalize ds[f + i] = x at hx hx0
        have hax : atI (ds.map V.int) ((f : Int) + (0 + (i : Int))) = some (.int x) := atIe (k := f + i) (get_map hx) (by omega)
        refine ⟨_, rfl, _, rfl, _, rfl, a, _, rfl, SqL.of hN6.at_, fun p np => ?_⟩
        rw [cut_take zs6 zs.length (by omega)]
        have hN7 := hN6.alloc (o := .lst (refL (zs6.take zs.length))) np
        have hp7 : upd H6 p (.lst (refL (zs6.take zs.length))) p = some (.lst (refL (zs6.take zs.length))) := upd_same
        generalize upd H6 p (.lst (refL (zs6.take zs.length))) = H7 at hN7 hp7 ⊢
        have hr7 : SqL K H7 r (ds.map V.int) := SqL.of (hN7.same _ _ hr)
        refine ⟨.ref r, rfl, _, rfl, _, rfl, _, _, rfl, rfl, r, _, _, _, rfl, rfl, hr7, hax, p, zs6.take zs.length, x, rfl, hx0, SqL.of hp7, fun z hz => SqL.of (hN7.els z (List.mem_of_mem_take hz)).2.2, by rw [List.length_take]; omega, fun rr hrr => ?_⟩
        rcases hrr with ⟨v, z, rfl, hz, hz4⟩ | ⟨rfl, hall⟩
        · have hvn : v < zs.length := by
            have := (List.getElem?_eq_some_iff.mp hz).1
            rw [List.length_take] at this
            omega
          rw [List.getElem?_take, if_pos hvn] at hz
          have hzm := List.mem_of_getElem? hz
          have hz3 := (hN7.els z hzm).2.2
          have hm1 := Int.emod_nonneg (x / 60) (show (s : Int) ≠ 0 by omega)
          have hm2 := Int.emod_lt_of_pos (x / 60) hsp
          refine ⟨_, rfl, _, _, rfl, rfl, _, rfl, ifT (by omega) ⟨_, rfl, _, rfl, a, _, _, _, rfl, rfl, SqL.of hN7.at_, atI_nat (get_refL hz), .inl ⟨rfl, _, SqL.of hz3⟩, _, rfl, .ref r, rfl, _, rfl, _, rfl, _, _, rfl, rfl, r, _, _, _, rfl, rfl, hr7, hax, _, _, rfl, rfl, ⟨by decide, by decide⟩, .inl ⟨_, rfl, _, rfl, _, _, rfl, rfl, hsp, _, _, rfl, rfl, z.1, _, _, rfl, rfl, hz3, small1000 (by rw [List.length_map]; omega), ?_⟩⟩⟩
          have hN8 := hN7.app (x := (zs.length : Int) + x / 60 % (s : Int)) hz
          refine ⟨⟨_, hN8, ⟨?_, fun w l hw => ?_, fun p hp => ?_⟩, fun _ _ => ⟨v, z.2 ++ [(zs.length : Int) + x / 60 % (s : Int)], (zs.length : Int) + x / 60 % (s : Int), hvn, ?_, List.mem_append_right _ (List.mem_singleton.mpr rfl), by omega, by omega⟩⟩, _, _, rfl⟩
          · rw [cts_set, List.length_set]
            exact hB6.len
          · obtain ⟨more, h1, h2, h3⟩ := hB6.old w l hw
            rw [cts_set, List.getElem?_set]
            by_cases hwv : v = w
            · subst hwv
              rw [cts_get hz] at h1
              rw [if_pos rfl, if_pos (by rw [cts_len]; omega)]
              have h4 := Option.some.inj h1
              refine ⟨more ++ [(zs.length : Int) + x / 60 % (s : Int)], by rw [h4, List.append_assoc], fun t ht => ?_, fun hl => ?_⟩
              · rcases List.mem_append.mp ht with ht | ht
                · exact h2 t ht
                · rw [List.mem_singleton.mp ht]
                  omega
              · rw [h4, List.length_append] at hz4
                rw [← List.append_assoc, List.length_append, List.length_append]
                show l.length + more.length + 1 ≤ 4
                omega
            · rw [if_neg hwv]
              exact ⟨more, h1, h2, h3⟩
          · obtain ⟨l, h1, h2⟩ := hB6.ring p hp
            refine ⟨l, ?_, h2⟩
            rw [cts_set, List.getElem?_set, if_neg (by omega)]
            exact h1
          · rw [cts_set, List.getElem?_set, if_pos rfl, if_pos (by rw [cts_len]; omega)]
        · refine ⟨_, rfl, _, _, rfl, rfl, _, rfl, ifF (by omega) ⟨⟨zs6, hN7, hB6, fun _ ⟨l, hl, hl4⟩ => ?_⟩, _, _, rfl⟩⟩
          obtain ⟨w, hw, e9⟩ := List.mem_iff_getElem.mp hl
          have hwl : w < zs.length := by
            rw [cts_len] at hw
            exact hw
          obtain ⟨more, h1, h2, h3⟩ := hB6.old w l (by rw [List.getElem?_eq_getElem hw, e9])
          obtain ⟨z, hz, e10⟩ := get_cts h1
          have h4 := hall z (List.mem_of_getElem? (i := w) (by rw [List.getElem?_take, if_pos hwl]; exact hz))
          rw [e10] at h4
          cases more with
          | nil =>
            rw [List.append_nil] at h4
            omega
          | cons t more =>
            have h5 := h2 t (List.mem_cons_self ..)
            exact ⟨w, _, t, hwl, h1, List.mem_append_right _ (List.mem_cons_self ..), h5.1, h5.2⟩
      · rintro σ H6 ⟨⟨zs6, hN6, hB6, hen⟩, y7, y8, rfl⟩
        exact ⟨zs6, hN6, ⟨hB6.len, hB6.old, hB6.ring, fun _ => hen (by omega)⟩, _, _, _, rfl⟩
    · exact ⟨zs5, hN5, ⟨hB0.len, hB0.old, hB0.ring, fun h => by omega⟩, _, _, _, rfl⟩
  rintro σ H7 ⟨zs7, hN7, hB7, y6, y7, y8, rfl⟩
  exact ⟨_, rfl, q H7 zs7 s hN7 hB7 s1 s13⟩
theorem ok_l_exit (T : Txt K mg) : Good P w K mg base 2 (He.ga K "_law_exit") ["_law_nexts", "_law_before", "_law_size", "_law_digit"] [] (sp_l_exit K) := by
  refine good_of T.f_l_exit sc_l_exit (fun vs H Q E h => ?_) (fun _ _ _ _ _ _ us hl => match us, hl with | [_, _, _, _], _ => rfl) (fun cdv A outer s H vs Q E hr h => ?_)
  · obtain ⟨_, _, _, _, _, _, rfl, _⟩ := h
    rfl
  refine ⟨_, (pss_cons (ps_for PassesOwn.never rfl (pi_range2 (by rfl) T.z_range (pa_cons (pv 1) (pa_cons (pe_op op_add (pv 1) (pv 2)) pa_nil))) (pg_name (i := 4) sc_l_exit.nd rfl (Or.inl rfl))
    (pss_one (ps_for PassesOwn.never rfl (pi_list (pe_ix ix_list (pv 0) (pv 4) (fun _ _ => rfl))) (pg_name (i := 5) sc_l_exit.nd rfl (Or.inl rfl))
    (pss_one (ps_if (pw_or (pt_cmpR op_lt (pv 5) (pv 1) (nomark _)) (pw_or1 (pt_cmpR op_ge (pv 5) (pe_op op_add (pv 1) (pv 2)) (nomark _)))).pt
    (pss_one (ps_ret pe_bl))
    pss_nil)))))
  (pss_cons (ps_set (i := 6) sc_l_exit.nd rfl (Or.inl rfl) (pe_op op_add (pv 1) (pe_cg (ok_l_open T) (hr.mono (j := 1) (by decide)) (by rfl) T.g_l_open (pa_cons (pe_slice sl_list (pv 0) (po_some (pv 1)) (po_some (pe_op op_add (pv 1) (pv 2)))) (pa_cons (pv 3) pa_nil)))))
  (pss_cons (ps_expr (pe_bm PySem.F.plainAttrs_list PySem.F.slot_list_append PySem.F.type_list_append mt_append (pe_ix ix_list (pv 0) (pv 6) (fun _ _ => rfl)) (pa_cons (pe_un un_neg pe_int) pa_nil)))
  (pss_one (ps_ret pe_bl))))), ?_⟩
  obtain ⟨a, H0, zs, b, s, d, rfl, d0, hN, hzl, hbs, hz4, hop, q⟩ := h
  have hat := hN.at_
  refine ⟨_, rfl, _, rfl, _, rfl, _, _, rfl, rfl, (b : Int), _, rfl, ⟨by omega, by omega, by omega, by omega⟩, for_range (lo := (b : Int)) (n := ((b : Int) + (s : Int) - (b : Int)).toNat) (fun i σ H5 => H5 = H ∧ (∀ (v : Nat) (l : List Int), b ≤ v → v < b + i → (cts zs)[v]? = some l → ∀ t ∈ l, (b : Int) ≤ t ∧ t < (b : Int) + s) ∧ ∃ y4 y5, σ = [some (.ref a), some (.int (b : Int)), some (.int (s : Int)), some (.int d), y4, y5, none]) ⟨rfl, fun v l h1 h2 => by omega, none, none, rfl⟩ ?_ ?_⟩
  · rintro i σ H5 hi ⟨rfl, hdn, y4, y5, rfl⟩
    have hil : b + i < zs.length := by omega
    have hz : zs[b + i]? = some zs[b + i] := List.getElem?_eq_getElem hil
    have hzm : zs[b + i] ∈ zs := List.getElem_mem hil
    generalize zs[b + i] = z at hz hzm
    have hz3 := (hN.els z hzm).2.2
    have haz : atI (refL zs) ((b : Int) + (i : Int)) = some (.ref z.1) := atIe (k := b + i) (get_refL hz) (by omega)
    refine ⟨_, rfl, _, rfl, a, _, _, _, rfl, rfl, SqL.of hat, haz, z.1, rfl, ⟨_, SqL.of hz3⟩, for_list (K := K) (a := z.1) (xs := z.2.map V.int) (fun j σ H6 => H6 = H5 ∧ (∀ t ∈ z.2.take j, (b : Int) ≤ t ∧ t < (b : Int) + s) ∧ ∃ y5, σ = [some (.ref a), some (.int (b : Int)), some (.int (s : Int)), some (.int d), some (.int ((b : Int) + (i : Int))), y5, none])
      ⟨rfl, fun t ht => (nomatch ht), y5, rfl⟩ (fun j σ H6 _ h => by rw [h.1]; exact SqL.of hz3) ?_ ?_⟩
    · rintro j x σ H6 hj ⟨rfl, hdj, y5, rfl⟩
      obtain ⟨t, ht, rfl⟩ := map_get hj
      have out : (t < (b : Int) ∨ (b : Int) + s ≤ t) → Q (.bl false) H6 := fun h => q H6 zs false hN (.inl ⟨rfl, b + i, z.2, t, by omega, by omega, cts_get hz, List.mem_of_getElem? ht, h⟩)
      refine ⟨_, rfl, _, rfl, _, _, rfl, rfl, _, rfl, if2 (fun e => out (.inl e)) (fun e => ⟨_, rfl, _, rfl, _, rfl, _, _, rfl, rfl, _, _, rfl, rfl, _, rfl, if2 (fun e2 => out (.inr e2)) (fun e2 => ⟨rfl, fun t' ht' => ?_, _, rfl⟩)⟩)⟩
      rw [List.take_add_one, ht] at ht'
      rcases List.mem_append.mp ht' with h | h
      · exact hdj t' h
      · rw [List.mem_singleton.mp h]
        omega
    · rintro σ H6 ⟨rfl, hdj, y5, rfl⟩
      rw [List.length_map, List.take_length] at hdj
      refine ⟨rfl, fun v l h1 h2 hl t ht => ?_, _, _, rfl⟩
      by_cases hv : v = b + i
      · subst hv
        rw [cts_get hz] at hl
        rw [← Option.some.inj hl] at ht
        exact hdj t ht
      · exact hdn v l h1 (by omega) hl t ht
  rintro σ H5 ⟨rfl, hdn, y4, y5, rfl⟩
  have hins : ∀ (v : Nat) (l : List Int), b ≤ v → v < b + s → (cts zs)[v]? = some l → ∀ t ∈ l, (b : Int) ≤ t ∧ t < (b : Int) + s := fun v l h1 h2 => hdn v l h1 (by omega)
  obtain ⟨v0, l0, hv1, hv2, hv3, hv4⟩ := hop hins
  obtain ⟨z0, hz0, hz02⟩ := get_cts hv3
  refine ⟨_, rfl, _, rfl, _, rfl, _, rfl, _, rfl, _, rfl, _, _, rfl, rfl, _, rfl, a, _, rfl, SqL.of hat, fun p np => ?_⟩
  rw [cut_mid zs b s hbs]
  have hN7 := hN.alloc (o := .lst (refL ((zs.drop b).take s))) np
  have hp7 : upd H5 p (.lst (refL ((zs.drop b).take s))) p = some (.lst (refL ((zs.drop b).take s))) := upd_same
  generalize upd H5 p (.lst (refL ((zs.drop b).take s))) = H7 at hN7 hp7 ⊢
  have hgt : ∀ n : Nat, n < s → ((zs.drop b).take s)[n]? = zs[b + n]? := fun n hn => by rw [List.getElem?_take, if_pos hn, List.getElem?_drop]
  refine ⟨_, rfl, p, (zs.drop b).take s, d, rfl, d0, SqL.of hp7, fun z hz => SqL.of (hN7.els z (List.mem_of_mem_drop (List.mem_of_mem_take hz))).2.2, by rw [List.length_take]; omega, fun rr hrr => ?_⟩
  rcases hrr with ⟨n, z, rfl, hz, hz5⟩ | ⟨rfl, hall⟩
  · have hns : n < s := by
      have := (List.getElem?_eq_some_iff.mp hz).1
      rw [List.length_take] at this
      omega
    rw [hgt n hns] at hz
    have hzm := List.mem_of_getElem? hz
    have hz3 := (hN7.els z hzm).2.2
    have haz : atI (refL zs) ((b : Int) + (n : Int)) = some (.ref z.1) := atIe (k := b + n) (get_refL hz) (by omega)
    refine ⟨_, _, rfl, rfl, _, rfl, _, rfl, a, _, _, _, rfl, rfl, SqL.of hN7.at_, haz, .inl ⟨rfl, _, SqL.of hz3⟩, 1, rfl, z.1, _, _, rfl, rfl, hz3, small1000 (by rw [List.length_map]; omega), ?_⟩
    exact q _ _ true (hN7.app (x := -1) hz) (.inr ⟨b + n, z.2, by omega, by omega, cts_get hz, hz5, by rw [cts_set]⟩)
  · exfalso
    have h1 : z0 ∈ (zs.drop b).take s := by
      refine List.mem_of_getElem? (i := v0 - b) ?_
      rw [hgt _ (by omega)]
      have e : b + (v0 - b) = v0 := by omega
      rw [e]
      exact hz0
    have := hall z0 h1
    rw [hz02] at this
    omega
end
end K62

namespace K62
open PySem PySem.Spec PyProof.Rows L2 Fw Lay
section
variable {P : Program} {w : World} {K : PySem.W.Frag} {mg : Str → Option Value} {base : Heap}
instance (x : Str) : Decidable (NameOk x) := by
  unfold NameOk
  infer_instance
theorem ok_l_word (T : Txt K mg) : Good P w K mg base 1 (He.ga K "_law_word") ["_law_digit"] [] (sp_l_word K) := by
  refine good_of T.f_l_word sc_l_word (fun vs H Q E h => ?_) (fun _ _ _ _ _ _ us hl => match us, hl with | [_], _ => rfl) (fun cdv A outer s H vs Q E hr h => ?_)
  · obtain ⟨_, rfl, _⟩ := h
    rfl
  refine ⟨_, (pss_cons (ps_if (pt_cmpR op_eq (pe_op op_mod (pe_callTy call_int1 (by rfl) T.z_int (by decide +kernel) (pa_cons (pv 0) pa_nil)) pe_int) pe_int (nomark _))
    (pss_one (ps_ret (pe_slice sl_str pe_str po_none (po_some (pe_op op_add pe_int (pe_op op_mod (pe_callTy call_int1 (by rfl) T.z_int (by decide +kernel) (pa_cons (pe_op op_fdiv (pv 0) pe_int) pa_nil)) pe_int))))))
    pss_nil)
  (pss_one (ps_ret (pe_ix ix_list (pe_lst (pa_cons pe_str (pa_cons pe_str (pa_cons pe_str (pa_cons pe_str (pa_cons pe_str pa_nil)))))) (pe_op op_mod (pe_callTy call_int1 (by rfl) T.z_int (by decide +kernel) (pa_cons (pv 0) pa_nil)) pe_int) (fun _ _ => rfl))))), ?_⟩
  obtain ⟨d, rfl, d0, q⟩ := h
  refine ⟨_, rfl, .inl ⟨_, rfl, _, _, rfl, rfl, (by show (0 : Int) < 6; decide), rfl, _, rfl, if2 (fun e => ?_) (fun e => ?_)⟩⟩
  · have hm1 := Int.emod_nonneg (d / 6) (show (8 : Int) ≠ 0 by omega)
    have hm2 := Int.emod_lt_of_pos (d / 6) (show (0 : Int) < 8 by omega)
    refine ⟨_, rfl, _, _, rfl, rfl, ⟨by decide, by decide⟩, .inl ⟨_, rfl, _, _, rfl, rfl, (by show (0 : Int) < 8; decide), _, _, rfl, rfl, _, rfl, _, rfl, by decide, ?_⟩⟩
    refine q H _ (Same.refl _) ?_
    have h3 : d / 6 % 8 = 0 ∨ d / 6 % 8 = 1 ∨ d / 6 % 8 = 2 ∨ d / 6 % 8 = 3 ∨ d / 6 % 8 = 4 ∨ d / 6 % 8 = 5 ∨ d / 6 % 8 = 6 ∨ d / 6 % 8 = 7 := by omega
    rcases h3 with h3 | h3 | h3 | h3 | h3 | h3 | h3 | h3 <;> rw [h3] <;> decide +kernel
  · have hm1 := Int.emod_nonneg d (show (6 : Int) ≠ 0 by omega)
    have hm2 := Int.emod_lt_of_pos d (show (0 : Int) < 6 by omega)
    have e2 : d % 6 ≠ 5 := fun h => e (congrArg V.int h)
    have hat : ∃ x : Str, atI [V.str "a", V.str "b", V.str "ab", V.str "a", V.str "z"] (d % 6) = some (.str x) ∧ NameOk x := by
      have h3 : d % 6 = 0 ∨ d % 6 = 1 ∨ d % 6 = 2 ∨ d % 6 = 3 ∨ d % 6 = 4 := by omega
      rcases h3 with h3 | h3 | h3 | h3 | h3 <;> rw [h3]
      · exact ⟨"a", rfl, by decide +kernel⟩
      · exact ⟨"b", rfl, by decide +kernel⟩
      · exact ⟨"ab", rfl, by decide +kernel⟩
      · exact ⟨"a", rfl, by decide +kernel⟩
      · exact ⟨"z", rfl, by decide +kernel⟩
    obtain ⟨x, hx, hn⟩ := hat
    refine ⟨(by show 5 ≤ sizeLine; decide), fun o no => ⟨_, rfl, .inl ⟨_, rfl, _, _, rfl, rfl, (by show (0 : Int) < 6; decide), o, _, _, _, rfl, rfl, SqL.of upd_same, hx, q _ x (same_new no) hn⟩⟩⟩
theorem ok_l_price (T : Txt K mg) : Good P w K mg base 1 (He.ga K "_law_price") ["_law_digit"] [] (sp_l_price K) := by
  refine good_of T.f_l_price sc_l_price (fun vs H Q E h => ?_) (fun _ _ _ _ _ _ us hl => match us, hl with | [_], _ => rfl) (fun cdv A outer s H vs Q E hr h => ?_)
  · obtain ⟨_, rfl, _⟩ := h
    rfl
  refine ⟨_, (pss_cons (ps_if (pt_cmpR op_eq (pe_op op_mod (pe_callTy call_int1 (by rfl) T.z_int (by decide +kernel) (pa_cons (pv 0) pa_nil)) pe_int) pe_int (nomark _))
    (pss_one (ps_ret (pe_op op_add pe_int (pe_op op_mod (pe_callTy call_int1 (by rfl) T.z_int (by decide +kernel) (pa_cons (pe_op op_mul (pv 0) pe_int) pa_nil)) (pe_op op_pow pe_int pe_int)))))
    pss_nil)
  (pss_cons (ps_if (pt_cmpR op_eq (pe_op op_mod (pe_callTy call_int1 (by rfl) T.z_int (by decide +kernel) (pa_cons (pv 0) pa_nil)) pe_int) pe_int (nomark _))
    (pss_one (ps_ret (pe_op op_pow pe_int pe_int)))
    pss_nil)
  (pss_one (ps_ret (pe_op op_add pe_int (pe_op op_mod (pe_callTy call_int1 (by rfl) T.z_int (by decide +kernel) (pa_cons (pe_op op_fdiv (pv 0) pe_int) pa_nil)) pe_int)))))), ?_⟩
  obtain ⟨d, rfl, d0, q⟩ := h
  refine ⟨_, rfl, .inl ⟨_, rfl, _, _, rfl, rfl, (by show (0 : Int) < 16; decide), rfl, _, rfl, if2 (fun e => ?_) (fun e => ?_)⟩⟩
  · refine ⟨_, rfl, _, _, rfl, rfl, .inr ⟨by decide, by decide⟩, .inl ⟨_, rfl, _, _, rfl, rfl, ⟨by decide, by decide, by decide⟩, _, _, rfl, rfl, (show (0 : Int) < 10 ^ Int.toNat 9 by decide), _, _, rfl, rfl, q _ ?_⟩⟩
    have hm1 := Int.emod_nonneg (d * 1793939) (show ((10 : Int) ^ 9) ≠ 0 by decide)
    show 1 ≤ 1 + d * 1793939 % ((10 : Int) ^ 9)
    omega
  refine ⟨_, rfl, .inl ⟨_, rfl, _, _, rfl, rfl, (by show (0 : Int) < 16; decide), rfl, _, rfl, if2 (fun e => ?_) (fun e => ?_)⟩⟩
  · exact ⟨_, _, rfl, rfl, ⟨by decide, by decide, by decide⟩, q _ (by decide)⟩
  · refine ⟨_, rfl, _, _, rfl, rfl, ⟨by decide, by decide⟩, .inl ⟨_, rfl, _, _, rfl, rfl, (by show (0 : Int) < 9; decide), _, _, rfl, rfl, q _ ?_⟩⟩
    have hm1 := Int.emod_nonneg (d / 16) (show (9 : Int) ≠ 0 by omega)
    omega
end
end K62

namespace K62
open PySem PySem.Spec PyProof.Rows L2 Fw Lay
section
variable {P : Program} {w : World} {K : PySem.W.Frag} {mg : Str → Option Value} {base : Heap}
theorem eqV_int (a b : Int) : eqV (.int a) (.int b) = decide (a = b) := by
  show (a == b) = _
  by_cases h : a = b
  · rw [decide_eq_true h, h, beq_self_eq_true]
  · rw [decide_eq_false h]
    exact beq_eq_false_iff_ne.mpr h
theorem refT_at {ys : Zs} {i : Nat} {z : Addr × Int × Int} (h : ys[i]? = some z) : (refT ys)[i]? = some (.ref z.1) := by
  unfold refT
  rw [List.getElem?_map, h]
  rfl
theorem ok_l_numbered (T : Txt K mg) : Good P w K mg base 2 (He.ga K "_law_numbered") ["_law_nexts", "_law_row"] [] (sp_l_numbered K) := by
  refine good_of T.f_l_numbered sc_l_numbered (fun vs H Q E h => ?_) (fun _ _ _ _ _ _ us hl => match us, hl with | [_, _], _ => rfl) (fun cdv A outer s H vs Q E hr h => ?_)
  · obtain ⟨_, _, _, _, rfl, _⟩ := h
    rfl
  refine ⟨_, (pss_cons (ps_set (i := 2) sc_l_numbered.nd rfl (Or.inl rfl) (pe_callB call_len_seq (by rfl) T.z_len (by decide +kernel) (pa_cons (pv 0) pa_nil)))
  (pss_cons (ps_set (i := 3) sc_l_numbered.nd rfl (Or.inl rfl) (pe_callB cr_sortedPO (by rfl) T.z_sorted (by decide +kernel) (pa_cons (pe_lc (own := [("_law_k", 11)]) (g := (gName 11)) (tt := tYes) rfl sc_l_numbered.nd (pi_range2 (by rfl) T.z_range (pa_cons pe_int (pa_cons (pv 2) pa_nil))) (blkOk_by (own := [("_law_k", 11)]) (N := ["_law_nexts", "_law_row", "_law_size", "_law_keys", "_law_order", "_law_rows", "_law_node", "_law_turn", "_law_turned", "_law_named", "_law_target", "_law_k", "_law_key"]) (sc := defScope s_l_numbered) (by decide +kernel)) (fun _ _ _ _ _ => (pg_name (i := 11) sc_l_numbered.nd rfl (Or.inl rfl))) (fun _ _ _ _ _ => pts_nil) (fun _ _ _ _ _ => (pe_tup (pa_cons (pe_op op_mod (pe_callTy call_int1 (by rfl) T.z_int (by decide +kernel) (pa_cons (pe_ix (ix_listE (K := K) rfl) (pv 1) (pv 11) (fun _ _ => rfl)) pa_nil)) pe_int) (pa_cons (pv 11) pa_nil))))) pa_nil)))
  (pss_cons (ps_set (i := 4) sc_l_numbered.nd rfl (Or.inl rfl) (pe_op op_cat (pe_lst (pa_cons pe_int pa_nil)) (pe_lc (own := [("_law_key", 12)]) (g := (gName 12)) (tt := tYes) rfl sc_l_numbered.nd (pi_list (pv 3)) (blkOk_by (own := [("_law_key", 12)]) (N := ["_law_nexts", "_law_row", "_law_size", "_law_keys", "_law_order", "_law_rows", "_law_node", "_law_turn", "_law_turned", "_law_named", "_law_target", "_law_k", "_law_key"]) (sc := defScope s_l_numbered) (by decide +kernel)) (fun _ _ _ _ _ => (pg_name (i := 12) sc_l_numbered.nd rfl (Or.inl rfl))) (fun _ _ _ _ _ => pts_nil) (fun _ _ _ _ _ => (pe_ix (ix_tupE (K := K) rfl) (pv 12) pe_int (fun _ _ => rfl))))))
  (pss_cons (ps_set (i := 5) sc_l_numbered.nd rfl (Or.inl rfl) (pe_lst pa_nil))
  (pss_cons (ps_for PassesOwn.never rfl (pi_list (pv 4)) (pg_name (i := 6) sc_l_numbered.nd rfl (Or.inl rfl))
    (pss_cons (ps_set (i := 7) sc_l_numbered.nd rfl (Or.inl rfl) (pe_op op_mod (pe_callTy call_int1 (by rfl) T.z_int (by decide +kernel) (pa_cons (pe_ix ix_list (pv 1) (pe_op op_add (pv 2) (pv 6)) (fun _ _ => rfl)) pa_nil)) (pe_callB call_len_seq (by rfl) T.z_len (by decide +kernel) (pa_cons (pe_ix ix_list (pv 0) (pv 6) (fun _ _ => rfl)) pa_nil))))
  (pss_cons (ps_set (i := 8) sc_l_numbered.nd rfl (Or.inl rfl) (pe_op op_cat (pe_slice sl_list (pe_ix ix_list (pv 0) (pv 6) (fun _ _ => rfl)) (po_some (pv 7)) po_none) (pe_slice sl_list (pe_ix ix_list (pv 0) (pv 6) (fun _ _ => rfl)) po_none (po_some (pv 7)))))
  (pss_cons (ps_set (i := 9) sc_l_numbered.nd rfl (Or.inl rfl) (pe_lst pa_nil))
  (pss_cons (ps_for PassesOwn.never rfl (pi_list (pv 8)) (pg_name (i := 10) sc_l_numbered.nd rfl (Or.inl rfl))
    (pss_one (ps_if (pt_cmpR op_lt (pv 10) pe_int (nomark _))
    (pss_one (ps_expr (pe_bm PySem.F.plainAttrs_list PySem.F.slot_list_append PySem.F.type_list_append mt_append (pv 9) (pa_cons (pe_un un_neg pe_int) pa_nil))))
    (pss_one (ps_expr (pe_bm PySem.F.plainAttrs_list PySem.F.slot_list_append PySem.F.type_list_append mt_append (pv 9) (pa_cons (pe_bm PySem.F.plainAttrs_list PySem.F.slot_list_index PySem.F.type_list_index mt_index (pv 4) (pa_cons (pv 10) pa_nil)) pa_nil)))))))
  (pss_one (ps_expr (pe_bm PySem.F.plainAttrs_list PySem.F.slot_list_append PySem.F.type_list_append mt_append (pv 5) (pa_cons (pe_tup (pa_cons (pe_cg (ok_l_word T) (hr.mono (j := 1) (by decide)) (by rfl) T.g_l_word (pa_cons (pe_ix ix_list (pv 1) (pe_op op_add (pe_op op_mul pe_int (pv 2)) (pv 6)) (fun _ _ => rfl)) pa_nil)) (pa_cons (pe_cg (ok_l_price T) (hr.mono (j := 1) (by decide)) (by rfl) T.g_l_price (pa_cons (pe_ix ix_list (pv 1) (pv 6) (fun _ _ => rfl)) pa_nil)) (pa_cons (pe_callTy call_tuple_of (by rfl) T.z_tuple (by decide +kernel) (pa_cons (pv 9) pa_nil)) pa_nil)))) pa_nil)))))))))
  (pss_one (ps_ret (pv 5)))))))), ?_⟩
  obtain ⟨a, r, zs, ds, rfl, hA, hL, hG, hzl, hR, hdl, hds, q⟩ := h
  have hlen : (refL zs).length = zs.length := List.length_map ..
  have hgl := cts_len zs
  have hpos : 0 < zs.length := by
    have := hG.pos
    omega
  have gd : ∀ j : Nat, j < 3 * zs.length → ∃ d, 0 ≤ d ∧ (ds.map V.int)[j]? = some (.int d) := fun j hj => by
    have hj2 : j < ds.length := by omega
    exact ⟨_, hds _ (List.getElem_mem hj2), get_map (List.getElem?_eq_getElem hj2)⟩
  refine ⟨.ref a, rfl, a, _, rfl, .inl hA, ?_⟩
  dsimp only
  rw [hlen]
  -- keys
  refine ⟨_, rfl, 1, _, rfl, ⟨by decide, by decide, by omega, by omega⟩, fun D hD => lc_range (lo := 1) (n := ((zs.length : Int) - 1).toNat) (fun i H3 => Same H H3 ∧ ∃ ys : Zs, H3 D = some (.lst (refT ys)) ∧ TL H3 ys ∧ ys.map (·.2.2) = (List.range i).map fun j : Nat => ((j + 1 : Nat) : Int)) ⟨same_new hD, [], upd_same, TL.nil, rfl⟩ ?_ ?_⟩
  · rintro i H3 hi ⟨s3, ys, h3, hT, em⟩
    have hyl : ys.length = i := by
      have e := congrArg List.length em
      rw [List.length_map, List.length_map, List.length_range] at e
      exact e
    obtain ⟨x, x0, hx⟩ := gd (1 + i) (by omega)
    have hax : atI (ds.map V.int) (1 + (i : Int)) = some (.int x) := atIe (k := 1 + i) hx (by omega)
    refine ⟨rfl, yes_then ⟨_, rfl, _, rfl, r, _, _, _, rfl, rfl, s3.seq hR, hax, .inl ⟨_, rfl, _, _, rfl, rfl, (by show (0 : Int) < 97; decide), _, rfl, (by show 2 ≤ sizeLine; decide), fun t nt => ⟨_, (by rw [upd_ne (ne_of_none h3 nt)]; exact h3), small1000 (by unfold refT; rw [List.length_map]; omega), ?_⟩⟩⟩⟩
    refine ⟨same_mut (s3.trans (same_new nt)) hD, ys ++ [(t, _, _)], ?_, hT.push h3 nt, ?_⟩
    · rw [upd_same, refT_snoc]
    · have e1 : (1 + (i : Int)) = ((i + 1 : Nat) : Int) := by omega
      rw [List.map_append, em, List.range_succ, List.map_append, e1]
      rfl
  rintro H3 ⟨s3, ys, h3, hT, em⟩
  refine tnil_go ?_
  refine sorted_tl (SqL.of h3) hT fun ys2 p pm srt np => ?_
  have hT2 : TL H3 ys2 := fun z hz => hT z (pm.mem_iff.mp hz)
  have s34 : Same H3 (upd H3 p (.lst (refT ys2))) := same_new np
  have hp4 : upd H3 p (.lst (refT ys2)) p = some (.lst (refT ys2)) := upd_same
  generalize upd H3 p (.lst (refT ys2)) = H4 at s34 hp4 ⊢
  have s4 := s3.trans s34
  have hy2l : ys2.length ≤ 1000 := by
    rw [pm.length_eq]
    have e := congrArg List.length em
    rw [List.length_map, List.length_map, List.length_range] at e
    omega
  -- order
  refine ⟨(by show 1 ≤ sizeLine; decide), fun o no => ?_⟩
  have s45 := s34.trans (same_new (o := .lst [.int 0]) no)
  have s05 := same_new (o := .lst [.int 0]) no
  have ho5 : upd H4 o (.lst [.int 0]) o = some (.lst [.int 0]) := upd_same
  generalize upd H4 o (.lst [.int 0]) = H5 at s45 s05 ho5 ⊢
  refine ⟨.ref p, rfl, p, rfl, ⟨_, SqL.of (s05 _ _ hp4)⟩, fun D2 hD2 => lc_list (K := K) (a := p) (xs := refT ys2) (fun i H6 => Same H5 H6 ∧ H6 D2 = some (ilst ((ys2.take i).map fun z : Addr × Int × Int => z.2.2))) ⟨same_new hD2, upd_same⟩ (fun i H6 _ h => SqL.of (h.1 _ _ (s05 _ _ hp4))) ?_ ?_⟩
  · rintro i x H6 hi ⟨s6, h6⟩
    obtain ⟨z, hz, hzm, rfl⟩ := refT_get hi
    have hil := (List.getElem?_eq_some_iff.mp hz).1
    refine ⟨rfl, yes_then ⟨_, rfl, z.1, _, 1, _, rfl, rfl, SqT.of (s6 _ _ (s45 _ _ (hT2 z hzm))), rfl, _, h6, small1000 (by rw [List.length_map, List.length_map, List.length_take]; omega), same_mut s6 hD2, ?_⟩⟩
    rw [upd_same, List.take_add_one, hz, List.map_append]
    unfold ilst
    rw [List.map_append]
    rfl
  rintro H6 ⟨s6, h6⟩
  have hrt : (refT ys2).length = ys2.length := List.length_map ..
  rw [hrt, List.take_length] at h6
  obtain ⟨ks, hks⟩ : ∃ ks : List Int, ks = ys2.map fun z : Addr × Int × Int => z.2.2 := ⟨_, rfl⟩
  rw [← hks] at h6
  have hkp : ks.Perm ((List.range (zs.length - 1)).map fun j : Nat => ((j + 1 : Nat) : Int)) := by
    rw [hks]
    refine (pm.map (fun z : Addr × Int × Int => z.2.2)).trans ?_
    have e : ((zs.length : Int) - 1).toNat = zs.length - 1 := by omega
    rw [e] at em
    rw [em]
  have hkl : ks.length ≤ 1000 := by
    rw [hks, List.length_map]
    exact hy2l
  refine ⟨o, D2, _, _, rfl, rfl, s6 _ _ ho5, h6, ?_, fun od nod => ?_⟩
  · rw [List.length_map]
    exact Nat.le_trans (show 1 + ks.length ≤ 1001 by omega) (by decide)
  have hk0 : ∀ x ∈ ks, 0 ≤ x := fun x hx => by
    obtain ⟨j, _, e⟩ := List.mem_map.mp (hkp.mem_iff.mp hx)
    omega
  obtain ⟨od2, hod2⟩ : ∃ od2 : List Nat, od2 = 0 :: ks.map Int.toNat := ⟨_, rfl⟩
  have ekn : nmap (ks.map Int.toNat) = ks := by
    unfold nmap
    rw [List.map_map]
    have : ∀ l : List Int, (∀ x ∈ l, 0 ≤ x) → l.map ((fun f : Nat => (f : Int)) ∘ Int.toNat) = l := fun l => by
      induction l with
      | nil => exact fun _ => rfl
      | cons x l ih =>
        intro h
        rw [List.map_cons, ih fun y hy => h y (List.mem_cons_of_mem _ hy)]
        show ((x.toNat : Nat) : Int) :: l = x :: l
        rw [Int.toNat_of_nonneg (h x (List.mem_cons_self ..))]
    exact this ks hk0
  have eod : (V.int 0 :: ks.map V.int) = (nmap od2).map V.int := by
    rw [hod2]
    show _ = V.int 0 :: (nmap (ks.map Int.toNat)).map V.int
    rw [ekn]
  have hop : od2.Perm (List.range zs.length) := by
    have e1 : zs.length = (zs.length - 1) + 1 := by omega
    rw [hod2, e1, List.range_succ_eq_map]
    refine List.Perm.cons 0 ?_
    have h2 := hkp.map Int.toNat
    rw [List.map_map] at h2
    exact h2
  have hol : od2.length = zs.length := by rw [hop.length_eq, List.length_range]
  have hond : od2.Nodup := hop.nodup_iff.mpr List.nodup_range
  have homem : ∀ v, v ∈ od2 ↔ v < zs.length := fun v => by rw [hop.mem_iff, List.mem_range]
  have h00 : od2[0]? = some 0 := by rw [hod2]; rfl
  have s7 := (s4.trans (s05.trans s6)).trans (same_new (o := .lst ([V.int 0] ++ ks.map V.int)) nod)
  have hod7 : upd H6 od (.lst ([V.int 0] ++ ks.map V.int)) od = some (ilst (nmap od2)) := by
    rw [upd_same]
    show some (HO.lst (V.int 0 :: ks.map V.int)) = _
    rw [eod]
  generalize upd H6 od (.lst ([V.int 0] ++ ks.map V.int)) = H7 at s7 hod7 ⊢
  -- rows
  refine ⟨Nat.zero_le _, fun l nl => ?_⟩
  have nlH : H l = none := s7.free nl
  have s8 := s7.trans (same_new (o := .lst []) nl)
  have hod8 := same_new (o := .lst []) nl _ _ hod7
  have hl8 : upd H7 l (.lst []) l = some (.lst (refR [])) := upd_same
  have hlod : l ≠ od := (ne_of_none hod7 nl).symm
  generalize upd H7 l (.lst []) = H8 at s8 hod8 hl8 ⊢
  have enl : ((nmap od2).map V.int).length = od2.length := by
    unfold nmap
    rw [List.length_map, List.length_map]
  have sBut : ∀ {H9 : Hp}, But l H8 H9 → Same H H9 := fun b c o e => b c o (fun e2 => by rw [e2, nlH] at e; cases e) (s8 _ _ e)
  refine ⟨.ref od, rfl, od, rfl, ⟨_, SqL.of hod8⟩, for_list (K := K) (a := od) (xs := (nmap od2).map V.int) (fun i σ H9 => But l H8 H9 ∧ (∃ rs : Rx, H9 l = some (.lst (refR rs)) ∧ RwOk H9 rs ∧ rs.length = i ∧ (∀ z ∈ rs, NameOk z.2.2.1 ∧ 1 ≤ z.2.2.2.1) ∧
      ∀ (k v : Nat) (z : Addr × Addr × Rw), od2[k]? = some v → rs[k]? = some z → ∃ m, (cts zs)[v]? = some m ∧ z.2.2.2.2.length = m.length ∧ ∀ t : Int, t ∈ z.2.2.2.2 ↔ (t = -1 ∧ (-1 : Int) ∈ m) ∨ ∃ j u : Nat, t = (j : Int) ∧ od2[j]? = some u ∧ (u : Int) ∈ m) ∧
      ∃ y6 y7 y8 y9 y10, σ = [some (.ref a), some (.ref r), some (.int (zs.length : Nat)), some (.ref p), some (.ref od), some (.ref l), y6, y7, y8, y9, y10, none, none])
    ⟨But.refl, ⟨[], hl8, fun z hz => (nomatch hz), rfl, fun z hz => (nomatch hz), fun k v z _ hz => by simp at hz⟩, none, none, none, none, none, rfl⟩ (fun i σ H9 _ h => SqL.of (h.1 _ _ hlod.symm hod8)) ?_ ?_⟩
  · rintro i x H0σ H9 hi ⟨b9, ⟨rs, hl9, hrw, hrl, hnm, hrel⟩, y6, y7, y8, y9, y10, rfl⟩
    obtain ⟨c, hc, rfl⟩ := map_get hi
    obtain ⟨v, hv, rfl⟩ : ∃ v, od2[i]? = some v ∧ c = (v : Int) := by
      unfold nmap at hc
      rw [List.getElem?_map] at hc
      obtain ⟨k, h1, h2⟩ := Option.map_eq_some_iff.mp hc
      exact ⟨k, h1, h2.symm⟩
    have hvn : v < zs.length := (homem v).mp (List.mem_of_getElem? hv)
    have hz : zs[v]? = some zs[v] := List.getElem?_eq_getElem hvn
    have hzm : zs[v] ∈ zs := List.getElem_mem hvn
    generalize zs[v] = z at hz hzm
    obtain ⟨r1, r2, r3⟩ := hG.rows z.2 (List.mem_of_getElem? (cts_get hz))
    have s9 := sBut b9
    have hZ : ∀ {H10 : Hp}, Same H9 H10 → SqL K H10 z.1 (z.2.map V.int) := fun s => (s9.trans s).seq (hL z hzm)
    have hA9 : ∀ {H10 : Hp}, Same H9 H10 → SqL K H10 a (refL zs) := fun s => (s9.trans s).seq hA
    have hR9 : ∀ {H10 : Hp}, Same H9 H10 → SqL K H10 r (ds.map V.int) := fun s => (s9.trans s).seq hR
    obtain ⟨x1, x10, hx1⟩ := gd (zs.length + v) (by omega)
    obtain ⟨x2, x20, hx2⟩ := gd (2 * zs.length + v) (by omega)
    obtain ⟨x3, x30, hx3⟩ := gd v (by omega)
    have a1 : atI (ds.map V.int) ((zs.length : Int) + (v : Int)) = some (.int x1) := atIe hx1 (by omega)
    have a2 : atI (ds.map V.int) (2 * (zs.length : Int) + (v : Int)) = some (.int x2) := atIe hx2 (by omega)
    have hm1 := Int.emod_nonneg x1 (show (((z.2.map V.int).length : Nat) : Int) ≠ 0 by rw [List.length_map]; omega)
    have hm2 := Int.emod_lt_of_pos x1 (show (0 : Int) < (((z.2.map V.int).length : Nat) : Int) by rw [List.length_map]; omega)
    obtain ⟨tn, htn⟩ : ∃ tn : Nat, x1 % (((z.2.map V.int).length : Nat) : Int) = tn := ⟨(x1 % (((z.2.map V.int).length : Nat) : Int)).toNat, by omega⟩
    have htl : tn < z.2.length := by
      rw [List.length_map] at htn hm2
      omega
    refine ⟨.ref r, rfl, _, rfl, _, rfl, _, _, rfl, rfl, r, _, _, _, rfl, rfl, hR9 (Same.refl _), a1, .inl ⟨_, rfl, _, rfl, _, rfl, a, _, _, _, rfl, rfl, hA9 (Same.refl _), atI_nat (get_refL hz), z.1, _, rfl, .inl (hZ (Same.refl _)), _, _, rfl, rfl, (by rw [List.length_map]; omega), ?_⟩⟩
    dsimp only
    rw [htn]
    refine ⟨_, rfl, _, rfl, a, _, _, _, rfl, rfl, hA9 (Same.refl _), atI_nat (get_refL hz), _, rfl, _, rfl, z.1, _, rfl, hZ (Same.refl _), fun p1 np1 => ?_⟩
    have t1 := same_new (o := .lst (cutV (z.2.map V.int) (some (tn : Int)) none)) np1
    refine ⟨_, rfl, _, rfl, a, _, _, _, rfl, rfl, hA9 t1, atI_nat (get_refL hz), _, rfl, _, rfl, z.1, _, rfl, hZ t1, fun p2 np2 => ?_⟩
    have t2 := t1.trans (same_new (o := .lst (cutV (z.2.map V.int) none (some (tn : Int)))) np2)
    have hc1 : cutV (z.2.map V.int) (some (tn : Int)) none = (z.2.drop tn).map V.int := by
      rw [cutV_map, HT.sIx_nat, HT.sIx_none, Nat.min_eq_left (by omega), List.take_of_length_le (by rw [List.length_drop]; omega)]
    have hc2 : cutV (z.2.map V.int) none (some (tn : Int)) = (z.2.take tn).map V.int := by
      rw [cutV_map, HT.sIx_nat, HT.sIx_none, Nat.min_eq_left (by omega), List.drop_zero, Nat.sub_zero]
    refine ⟨p1, p2, _, _, rfl, rfl, same_new np2 _ _ upd_same, upd_same, ?_, fun p3 np3 => ?_⟩
    · rw [hc1, hc2, List.length_map, List.length_map, List.length_drop, List.length_take]
      exact Nat.le_trans (show z.2.length - tn + min tn z.2.length ≤ 4 by omega) (by decide)
    have et : cutV (z.2.map V.int) (some (tn : Int)) none ++ cutV (z.2.map V.int) none (some (tn : Int)) = (z.2.drop tn ++ z.2.take tn).map V.int := by
      rw [hc1, hc2, List.map_append]
    rw [et]
    have t3 := t2.trans (same_new (o := .lst ((z.2.drop tn ++ z.2.take tn).map V.int)) np3)
    have hp3 : upd (upd (upd H9 p1 (.lst (cutV (z.2.map V.int) (some (tn : Int)) none))) p2 (.lst (cutV (z.2.map V.int) none (some (tn : Int))))) p3 (.lst ((z.2.drop tn ++ z.2.take tn).map V.int)) p3 = some (ilst (z.2.drop tn ++ z.2.take tn)) := upd_same
    generalize upd (upd (upd H9 p1 (.lst (cutV (z.2.map V.int) (some (tn : Int)) none))) p2 (.lst (cutV (z.2.map V.int) none (some (tn : Int))))) p3 (.lst ((z.2.drop tn ++ z.2.take tn).map V.int)) = H10 at t3 hp3 ⊢
    obtain ⟨tl, htl2⟩ : ∃ tl, tl = z.2.drop tn ++ z.2.take tn := ⟨_, rfl⟩
    rw [← htl2] at hp3
    have htll : tl.length = z.2.length := by
      rw [htl2, List.length_append, List.length_drop, List.length_take]
      omega
    have htlm : ∀ t, t ∈ tl ↔ t ∈ z.2 := fun t => by
      rw [htl2, List.mem_append]
      constructor
      · rintro (h | h)
        · exact List.mem_of_mem_drop h
        · exact List.mem_of_mem_take h
      · intro h
        have h2 : t ∈ z.2.take tn ++ z.2.drop tn := by rw [List.take_append_drop]; exact h
        exact (List.mem_append.mp h2).symm
    refine ⟨Nat.zero_le _, fun nm nnm => ?_⟩
    have t4 := t3.trans (same_new (o := .lst []) nnm)
    have hp3' := same_new (o := .lst []) nnm _ _ hp3
    have hnm4 : upd H10 nm (.lst []) nm = some (ilst []) := upd_same
    have nnm9 : H9 nm = none := t3.free nnm
    have hnm3 : p3 ≠ nm := ne_of_none hp3 nnm
    generalize upd H10 nm (.lst []) = H11 at t4 hp3' hnm4 ⊢
    have hod9 : H9 od = some (ilst (nmap od2)) := b9 _ _ hlod.symm hod8
    refine ⟨.ref p3, rfl, p3, rfl, ⟨_, SqL.of hp3'⟩, for_list (K := K) (a := p3) (xs := tl.map V.int) (fun j σ H12 => Same H9 H12 ∧ H12 p3 = some (ilst tl) ∧ (∃ cs : List Int, H12 nm = some (ilst cs) ∧ cs.length = j ∧ ∀ (k : Nat) (t t2 : Int), tl[k]? = some t → cs[k]? = some t2 → (t = -1 ∧ t2 = -1) ∨ ∃ u k2 : Nat, t = (u : Int) ∧ t2 = (k2 : Int) ∧ od2[k2]? = some u) ∧
        ∃ y10, σ = [some (.ref a), some (.ref r), some (.int (zs.length : Nat)), some (.ref p), some (.ref od), some (.ref l), some (.int (v : Int)), some (.int (tn : Int)), some (.ref p3), some (.ref nm), y10, none, none])
      ⟨t4, hp3', ⟨[], hnm4, rfl, fun k t t2 _ h => by simp at h⟩, y10, rfl⟩ (fun j σ H12 _ h => SqL.of h.2.1) ?_ ?_⟩
    · rintro j x H1σ H12 hj ⟨s12, hp12, ⟨cs, hcs, hcl, hcr⟩, y10, rfl⟩
      obtain ⟨t, ht, rfl⟩ := map_get hj
      have hjl := (List.getElem?_eq_some_iff.mp ht).1
      have hsm : (cs.map V.int).length < sizeLine := by
        rw [List.length_map]
        exact small1000 (by omega)
      have htr := r3 t ((htlm t).mp (List.mem_of_getElem? ht))
      have step : ∀ t2 : Int, ((t = -1 ∧ t2 = -1) ∨ ∃ u k2 : Nat, t = (u : Int) ∧ t2 = (k2 : Int) ∧ od2[k2]? = some u) → Same H9 (upd H12 nm (.lst (cs.map V.int ++ [.int t2]))) ∧ upd H12 nm (.lst (cs.map V.int ++ [.int t2])) p3 = some (ilst tl) ∧ ∃ cs2 : List Int, upd H12 nm (.lst (cs.map V.int ++ [.int t2])) nm = some (ilst cs2) ∧ cs2.length = j + 1 ∧ ∀ (k : Nat) (t t2 : Int), tl[k]? = some t → cs2[k]? = some t2 → (t = -1 ∧ t2 = -1) ∨ ∃ u k2 : Nat, t = (u : Int) ∧ t2 = (k2 : Int) ∧ od2[k2]? = some u := fun t2 h2 => by
        refine ⟨same_mut s12 nnm9, by rw [upd_ne hnm3]; exact hp12, cs ++ [t2], ?_, by rw [List.length_append, hcl]; rfl, fun k t' t2' hk hk2 => ?_⟩
        · rw [upd_same]
          unfold ilst
          rw [List.map_append]
          rfl
        · by_cases hkj : k < j
          · rw [List.getElem?_append_left (by omega)] at hk2
            exact hcr k t' t2' hk hk2
          · have hk3 := (List.getElem?_eq_some_iff.mp hk2).1
            rw [List.length_append] at hk3
            have ek : k = j := by
              have : k < cs.length + 1 := hk3
              omega
            rw [ek] at hk hk2
            rw [ht] at hk
            rw [← hcl, List.getElem?_concat_length] at hk2
            rw [← Option.some.inj hk, ← Option.some.inj hk2]
            exact h2
      refine ⟨_, rfl, _, _, rfl, rfl, _, rfl, if2 (fun e => ?_) (fun e => ?_)⟩
      · have et1 : t = -1 := by omega
        obtain ⟨q1, q2, q3⟩ := step (-1) (.inl ⟨et1, rfl⟩)
        exact ⟨.ref nm, rfl, .inl ⟨rfl, _, SqL.of hcs⟩, 1, rfl, nm, _, _, rfl, rfl, hcs, hsm, q1, q2, q3, _, rfl⟩
      · obtain ⟨u, rfl⟩ : ∃ u : Nat, t = u := ⟨t.toNat, by omega⟩
        have hu : u ∈ od2 := (homem u).mpr (by
          have : (u : Int) < (cts zs).length := by omega
          rw [hgl] at this
          omega)
        obtain ⟨k2, hk2, e2⟩ := List.mem_iff_getElem.mp hu
        have hk3 : od2[k2]? = some u := by rw [List.getElem?_eq_getElem hk2, e2]
        obtain ⟨q1, q2, q3⟩ := step (k2 : Int) (.inr ⟨u, k2, rfl, rfl, hk3⟩)
        refine ⟨.ref nm, rfl, .inl ⟨rfl, _, SqL.of hcs⟩, .ref od, rfl, .inl ⟨rfl, _, SqL.of (s12 _ _ hod9)⟩, _, rfl, od, _, _, k2, _, rfl, rfl, SqL.of (s12 _ _ hod9), rfl, flat_ints _, nmap_get hk3, ?_, fun m z' hm hz' => ?_, nm, _, _, rfl, rfl, hcs, hsm, q1, q2, q3, _, rfl⟩
        · rw [eqV_int]
          exact decide_eq_true rfl
        · obtain ⟨c', hc', rfl⟩ := map_get hz'
          unfold nmap at hc'
          rw [List.getElem?_map] at hc'
          obtain ⟨w, hw, rfl⟩ := Option.map_eq_some_iff.mp hc'
          rw [eqV_int]
          refine decide_eq_false fun e => ?_
          have ew : w = u := by omega
          rw [ew] at hw
          have e1 := List.getElem?_eq_some_iff.mp hw
          have e3 := List.getElem?_eq_some_iff.mp hk3
          have := (List.getElem_inj hond (h₀ := e1.1) (h₁ := e3.1)).mp (e1.2.trans e3.2.symm)
          omega
    · rintro H1σ H12 ⟨s12, hp12, ⟨cs, hcs, hcl, hcr⟩, y10, rfl⟩
      rw [List.length_map] at hcl
      have hl12 : H12 l = some (.lst (refR rs)) := s12 _ _ hl9
      refine ⟨.ref l, rfl, .inl ⟨rfl, _, SqL.of hl12⟩, .ref r, rfl, _, rfl, _, _, rfl, rfl, .inl ⟨by decide, by decide⟩, _, rfl, _, _, rfl, rfl, r, _, _, _, rfl, rfl, hR9 s12, a2, x2, rfl, x20, fun H13 w s13 hw => ?_⟩
      have s913 := s12.trans s13
      refine ⟨.ref r, rfl, _, rfl, r, _, _, _, rfl, rfl, hR9 s913, atI_nat hx3, x3, rfl, x30, fun pr hpr => ?_⟩
      refine ⟨.ref nm, rfl, nm, _, rfl, .inl ⟨SqL.of (s13 _ _ hcs), fun tt ntt => ⟨(by show 3 ≤ sizeLine; decide), fun t nt => ?_⟩⟩⟩
      have s14 := (same_new (o := .tup (cs.map V.int)) ntt).trans (same_new (o := .tup [.str w, .int pr, .ref tt]) nt)
      have s914 := s913.trans s14
      have hl14 := s14 _ _ (s13 _ _ hl12)
      have hel : ∀ (c : Addr) (xs : List V), upd (upd H13 tt (.tup (cs.map V.int))) t (.tup [.str w, .int pr, .ref tt]) c = some (.tup xs) → upd (upd (upd H13 tt (.tup (cs.map V.int))) t (.tup [.str w, .int pr, .ref tt])) l (.lst (refR rs ++ [.ref t])) c = some (.tup xs) := fun c xs h => by
        rw [upd_ne (ne_of h hl14 (fun e => nomatch e))]
        exact h
      refine ⟨l, _, _, rfl, rfl, hl14, small1000 (by unfold refR; rw [List.length_map]; have := (List.getElem?_eq_some_iff.mp hv).1; omega), fun c o n e => ?_, ⟨rs ++ [(t, tt, w, pr, cs)], ?_, fun z' hz' => ?_, by rw [List.length_append, hrl]; rfl, fun z' hz' => ?_, fun k v' z' hv' hz' => ?_⟩, _, _, _, _, _, rfl⟩
      · rw [upd_ne n]
        exact s914 _ _ (b9 c o n e)
      · rw [upd_same]
        unfold refR
        rw [List.map_append]
        rfl
      · rcases List.mem_append.mp hz' with hz' | hz'
        · exact ⟨hel _ _ (s914 _ _ (hrw z' hz').1), hel _ _ (s914 _ _ (hrw z' hz').2)⟩
        · rw [List.mem_singleton.mp hz']
          exact ⟨hel _ _ upd_same, hel _ _ (same_new nt _ _ upd_same)⟩
      · rcases List.mem_append.mp hz' with hz' | hz'
        · exact hnm z' hz'
        · rw [List.mem_singleton.mp hz']
          exact ⟨hw, hpr⟩
      · by_cases hk : k < rs.length
        · rw [List.getElem?_append_left hk] at hz'
          exact hrel k v' z' hv' hz'
        · have hk3 := (List.getElem?_eq_some_iff.mp hz').1
          rw [List.length_append] at hk3
          have ek : k = i := by
            have : k < rs.length + 1 := hk3
            omega
          rw [ek] at hv' hz'
          rw [hv] at hv'
          rw [← hrl, List.getElem?_concat_length] at hz'
          rw [← Option.some.inj hv', ← Option.some.inj hz']
          refine ⟨z.2, cts_get hz, by show cs.length = _; omega, fun t' => ⟨fun h => ?_, fun h => ?_⟩⟩
          · obtain ⟨k4, hk4, e4⟩ := List.mem_iff_getElem.mp (show t' ∈ cs from h)
            have hk5 : tl[k4]? = some tl[k4] := List.getElem?_eq_getElem (by omega)
            have hm5 := (htlm _).mp (List.getElem_mem (show k4 < tl.length by omega))
            rcases hcr k4 _ _ hk5 (List.getElem?_eq_getElem hk4) with ⟨h5, h6⟩ | ⟨u, k2, h5, h6, h7⟩
            · rw [h5] at hm5
              exact .inl ⟨by rw [← e4]; exact h6, hm5⟩
            · rw [h5] at hm5
              exact .inr ⟨k2, u, by rw [← e4]; exact h6, h7, hm5⟩
          · have hget : ∀ t0 : Int, t0 ∈ z.2 → ∃ k4, tl[k4]? = some t0 ∧ ∃ t2, cs[k4]? = some t2 ∧ t2 ∈ cs := fun t0 h0 => by
              obtain ⟨k4, hk4, e4⟩ := List.mem_iff_getElem.mp ((htlm t0).mpr h0)
              exact ⟨k4, by rw [List.getElem?_eq_getElem hk4, e4], _, List.getElem?_eq_getElem (by omega), List.getElem_mem (by omega)⟩
            rcases h with ⟨h5, h6⟩ | ⟨k2, u, h5, h6, h7⟩
            · obtain ⟨k4, h8, t2, h9, h10⟩ := hget _ h6
              rcases hcr k4 _ _ h8 h9 with ⟨_, h11⟩ | ⟨u, k2, h11, _⟩
              · rw [h5, ← h11]
                exact h10
              · omega
            · obtain ⟨k4, h8, t2, h9, h10⟩ := hget _ h7
              rcases hcr k4 _ _ h8 h9 with ⟨h11, _⟩ | ⟨u2, k3, h11, h12, h13⟩
              · omega
              · have eu : u2 = u := by omega
                rw [eu] at h13
                have e1 := List.getElem?_eq_some_iff.mp h13
                have e3 := List.getElem?_eq_some_iff.mp h6
                have ek2 := (List.getElem_inj hond (h₀ := e1.1) (h₁ := e3.1)).mp (e1.2.trans e3.2.symm)
                rw [h5, ← ek2, ← h12]
                exact h10
  · rintro H0σ H9 ⟨b9, ⟨rs, hl9, hrw, hrl, hnm, hrel⟩, y6, y7, y8, y9, y10, rfl⟩
    rw [enl, hol] at hrl
    refine ⟨_, rfl, q H9 l rs (sBut b9) nlH hl9 hrw ⟨by omega, ?_, hnm⟩ hrl⟩
    refine hG.number (od := od2) (by omega) hond (fun v hv => (homem v).mpr (by omega)) h00 (by rw [sxr_len]; omega) fun i v l2 hv hl2 => ?_
    obtain ⟨z, hz, e⟩ := sxr_get hl2
    rw [← e]
    exact hrel i v z hv hz
end
end K62

namespace K62
open PySem PySem.Spec PyProof.Rows L2 Fw Lay
section
variable {P : Program} {w : World} {K : PySem.W.Frag} {mg : Str → Option Value} {base : Heap}
/-- the heap without the list of lists -/
def hide (H : Hp) (a : Addr) (zs : Ws) : Hp := fun c => if c = a ∨ c ∈ zs.map (fun z : Addr × List Int => z.1) then none else H c
theorem hide_none {H : Hp} {a : Addr} {zs : Ws} {c : Addr} (h : hide H a zs c = none) : c = a ∨ c ∈ zs.map (fun z : Addr × List Int => z.1) ∨ H c = none := by
  unfold hide at h
  split at h
  · rename_i e
    rcases e with e | e
    · exact .inl e
    · exact .inr (.inl e)
  · exact .inr (.inr h)
theorem hide_some {H : Hp} {a : Addr} {zs : Ws} {c : Addr} {o : HO} (h1 : c ≠ a) (h2 : ∀ z ∈ zs, z.1 ≠ c) (h : H c = some o) : hide H a zs c = some o := by
  unfold hide
  rw [if_neg]
  · exact h
  · rintro (e | e)
    · exact h1 e
    · obtain ⟨z, hz, e2⟩ := List.mem_map.mp e
      exact h2 z hz e2
theorem nx_hide {H1 H : Hp} {a : Addr} {zs : Ws} (h : NxIn H1 H a zs) : NxIn (hide H a zs) H a zs := by
  refine ⟨fun c o e => ?_, ?_, h.at_, fun z hz => ⟨?_, (h.els z hz).2⟩, h.nd⟩
  · unfold hide at e
    split at e
    · cases e
    · exact e
  · unfold hide
    rw [if_pos (.inl rfl)]
  · unfold hide
    rw [if_pos (.inr (List.mem_map_of_mem (f := fun z : Addr × List Int => z.1) hz))]
theorem nx_kept {H1 H : Hp} {a c : Addr} {zs : Ws} {o : HO} (h : NxIn H1 H a zs) (e : H1 c = some o) : hide H a zs c = some o :=
  hide_some (fun e2 => by rw [e2, h.new] at e; cases e) (fun z hz e2 => by rw [← e2, (h.els z hz).1] at e; cases e) (h.same _ _ e)
theorem nx_rebase {H1 H H2 : Hp} {a : Addr} {zs zs2 : Ws} (h : NxIn H1 H a zs) (h2 : NxIn (hide H a zs) H2 a zs2) : NxIn H1 H2 a zs2 := by
  refine ⟨fun c o e => h2.same _ _ (nx_kept h e), h.new, h2.at_, fun z hz => ⟨?_, (h2.els z hz).2⟩, h2.nd⟩
  rcases hide_none (h2.els z hz).1 with e | e | e
  · rw [e]
    exact h.new
  · obtain ⟨w, hw, e2⟩ := List.mem_map.mp e
    rw [← e2]
    exact (h.els w hw).1
  · exact h.same.free e
/-- a list beside it -/
structure Bes (H1 H : Hp) (a s : Addr) (zs : Ws) (ss : List Nat) : Prop where
  new : H1 s = none
  ne : s ≠ a
  els : ∀ z ∈ zs, z.1 ≠ s
  at_ : H s = some (ilst (nmap ss))
theorem Bes.hid {H1 H : Hp} {a s : Addr} {zs : Ws} {ss : List Nat} (h : Bes H1 H a s zs ss) : hide H a zs s = some (ilst (nmap ss)) := hide_some h.ne h.els h.at_
theorem Bes.next {H1 H H2 : Hp} {a s : Addr} {zs zs2 : Ws} {ss : List Nat} (h : Bes H1 H a s zs ss) (h2 : NxIn (hide H a zs) H2 a zs2) : Bes H1 H2 a s zs2 ss :=
  ⟨h.new, h.ne, fun z hz e => (by
    have h3 := (h2.els z hz).1
    rw [e, h.hid] at h3
    cases h3), h2.same _ _ h.hid⟩
theorem ok_l_tame (T : Txt K mg) : Good P w K mg base 3 (He.ga K "_law_tame") ["_law_cell_here", "_law_blocks"] [] (sp_l_tame K) := by
  refine good_of T.f_l_tame sc_l_tame (fun vs H Q E h => ?_) (fun _ _ _ _ _ _ us hl => match us, hl with | [_, _], _ => rfl) (fun cdv A outer s H vs Q E hr h => ?_)
  · obtain ⟨_, _, rfl, _⟩ := h
    rfl
  refine ⟨_, (pss_cons (ps_set (i := 2) sc_l_tame.nd rfl (Or.inl rfl) (pe_cg (ok_l_digits T) (hr.mono (j := 1) (by decide)) (by rfl) T.g_l_digits (pa_cons (pv 0) (pa_cons pe_int (pa_cons pe_int pa_nil)))))
  (pss_cons (ps_set (i := 3) sc_l_tame.nd rfl (Or.inl rfl) (pe_lst pa_nil))
  (pss_cons (ps_set (i := 4) sc_l_tame.nd rfl (Or.inl rfl) (pe_lst pa_nil))
  (pss_cons (ps_for PassesOwn.never rfl (pi_range1 (by rfl) T.z_range (pa_cons (pe_op op_add pe_int (pe_op op_mod (pe_callTy call_int1 (by rfl) T.z_int (by decide +kernel) (pa_cons (pe_ix ix_list (pv 2) pe_int (fun _ _ => rfl)) pa_nil)) (pe_op op_add (pv 1) pe_int))) pa_nil)) (pg_name (i := 5) sc_l_tame.nd rfl (Or.inl rfl))
    (pss_one (ps_expr (pe_bm PySem.F.plainAttrs_list PySem.F.slot_list_append PySem.F.type_list_append mt_append (pv 4) (pa_cons (pe_cg (ok_l_block T) (hr.mono (j := 2) (by decide)) (by rfl) T.g_l_block (pa_cons (pv 3) (pa_cons (pe_ix ix_list (pv 2) (pe_op op_add pe_int (pv 5)) (fun _ _ => rfl)) (pa_cons (pv 2) (pa_cons (pe_op op_add pe_int (pe_op op_mul pe_int (pv 5))) pa_nil))))) pa_nil)))))
  (pss_cons (ps_for PassesOwn.never rfl (pi_range1 (by rfl) T.z_range (pa_cons (pe_op op_mod (pe_callTy call_int1 (by rfl) T.z_int (by decide +kernel) (pa_cons (pe_op op_fdiv (pe_ix ix_list (pv 2) pe_int (fun _ _ => rfl)) pe_int) pa_nil)) pe_int) pa_nil)) (pg_name (i := 6) sc_l_tame.nd rfl (Or.inl rfl))
    (pss_cons (ps_set (i := 7) sc_l_tame.nd rfl (Or.inl rfl) (pe_op op_mod (pe_callTy call_int1 (by rfl) T.z_int (by decide +kernel) (pa_cons (pe_ix ix_list (pv 2) (pe_op op_add pe_int (pv 6)) (fun _ _ => rfl)) pa_nil)) (pe_callB call_len_seq (by rfl) T.z_len (by decide +kernel) (pa_cons (pv 3) pa_nil))))
  (pss_one (ps_if (pt_cmpR op_lt (pe_callB call_len_seq (by rfl) T.z_len (by decide +kernel) (pa_cons (pe_ix ix_list (pv 3) (pv 7) (fun _ _ => rfl)) pa_nil)) pe_int (nomark _))
    (pss_one (ps_expr (pe_bm PySem.F.plainAttrs_list PySem.F.slot_list_append PySem.F.type_list_append mt_append (pe_ix ix_list (pv 3) (pv 7) (fun _ _ => rfl)) (pa_cons (pe_un un_neg pe_int) pa_nil))))
    pss_nil))))
  (pss_cons (ps_set (i := 8) sc_l_tame.nd rfl (Or.inl rfl) pe_int)
  (pss_cons (ps_for PassesOwn.never rfl (pi_range1 (by rfl) T.z_range (pa_cons (pe_callB call_len_seq (by rfl) T.z_len (by decide +kernel) (pa_cons (pv 4) pa_nil)) pa_nil)) (pg_name (i := 5) sc_l_tame.nd rfl (Or.inl rfl))
    (pss_cons (ps_expr (pe_cg (ok_l_exit T) (hr.mono (j := 2) (by decide)) (by rfl) T.g_l_exit (pa_cons (pv 3) (pa_cons (pv 8) (pa_cons (pe_ix ix_list (pv 4) (pv 5) (fun _ _ => rfl)) (pa_cons (pe_ix ix_list (pv 2) (pe_op op_add pe_int (pv 5)) (fun _ _ => rfl)) pa_nil))))))
  (pss_one (ps_set (i := 8) sc_l_tame.nd rfl (Or.inl rfl) (pe_op op_add (pv 8) (pe_ix ix_list (pv 4) (pv 5) (fun _ _ => rfl)))))))
  (pss_one (ps_ret (pe_cg (ok_l_numbered T) (hr.mono (j := 2) (by decide)) (by rfl) T.g_l_numbered (pa_cons (pv 3) (pa_cons (pe_cg (ok_l_digits T) (hr.mono (j := 1) (by decide)) (by rfl) T.g_l_digits (pa_cons (pe_op op_add (pv 0) pe_int) (pa_cons (pe_op op_mul pe_int (pe_callB call_len_seq (by rfl) T.z_len (by decide +kernel) (pa_cons (pv 3) pa_nil))) (pa_cons pe_int pa_nil)))) pa_nil)))))))))))), ?_⟩
  obtain ⟨c, B, rfl, c0, hB, q⟩ := h
  refine ⟨_, rfl, c, _, 64, rfl, c0, by omega, by decide, by decide, fun H1 rp ds s1 nr hr len bd => ?_⟩
  have gd : ∀ j : Nat, j < 64 → ∃ d, 0 ≤ d ∧ (ds.map V.int)[j]? = some (.int d) := fun j hj => by
    have hj2 : j < ds.length := by omega
    exact ⟨_, (bd _ (List.getElem_mem hj2)).1, get_map (List.getElem?_eq_getElem hj2)⟩
  have hds : ∀ x ∈ ds, 0 ≤ x := fun x hx => (bd x hx).1
  obtain ⟨e0, b0, g0⟩ := gd 0 (by omega)
  have hR : ∀ {H2 : Hp}, Same H1 H2 → SqL K H2 rp (ds.map V.int) := fun s => SqL.of (s _ _ hr)
  refine ⟨Nat.zero_le _, fun a na => ⟨Nat.zero_le _, fun sz nsz => ?_⟩⟩
  have hN0 : NxIn H1 (upd H1 a (.lst [])) a [] := ⟨same_new na, na, upd_same, fun z hz => (nomatch hz), List.nodup_nil⟩
  have hN1 := hN0.alloc (o := .lst []) nsz
  have hB1 : Bes H1 (upd (upd H1 a (.lst [])) sz (.lst [])) a sz [] [] := ⟨(same_new na).free nsz, (ne_of_none upd_same nsz).symm, fun z hz => (nomatch hz), upd_same⟩
  generalize upd (upd H1 a (.lst [])) sz (.lst []) = H2 at hN1 hB1 ⊢
  have hm1 := Int.emod_nonneg e0 (show ((B : Int) + 1) ≠ 0 by omega)
  have hm2 := Int.emod_lt_of_pos e0 (show (0 : Int) < (B : Int) + 1 by omega)
  -- blocks
  refine ⟨.ref rp, rfl, rp, _, 0, _, rfl, rfl, hR hN1.same, atI_nat (j := 0) g0, .inl ⟨_, rfl, _, rfl, _, _, rfl, rfl, _, _, rfl, rfl, by omega, _, _, rfl, rfl, _, rfl, by omega, by omega, for_range (n := (1 + e0 % ((B : Int) + 1)).toNat) (fun i σ H5 => (∃ (zs : Ws) (ss : List Nat), NxIn H1 H5 a zs ∧ Bes H1 H5 a sz zs ss ∧ ss.length = i ∧ TI (cts zs) ss ∧ (0 < zs.length → ∃ l ∈ cts zs, l.length < 4) ∧ zs.length ≤ 13 * i ∧ i ≤ zs.length) ∧
      ∃ y5, σ = [some (.int c), some (.int (B : Int)), some (.ref rp), some (.ref a), some (.ref sz), y5, none, none, none]) ⟨⟨[], [], hN1, hB1, rfl, TI.nil, fun h => absurd h (Nat.lt_irrefl _), Nat.le_refl _, Nat.le_refl _⟩, none, rfl⟩ ?_ ?_⟩⟩
  · rintro i σ H5 hi ⟨⟨zs, ss, hN, hBs, hsl, hTI, hfew, hz1, hz2⟩, y5, rfl⟩
    have hi11 : i < 11 := by omega
    obtain ⟨x, x0, hx⟩ := gd (1 + i) (by omega)
    have hax : atI (ds.map V.int) (1 + (0 + (i : Int))) = some (.int x) := atIe (k := 1 + i) hx (by omega)
    refine ⟨.ref sz, rfl, .inl ⟨rfl, _, SqL.of hBs.at_⟩, _, rfl, .ref rp, rfl, _, rfl, _, _, rfl, rfl, rp, _, _, _, rfl, rfl, hR hN.same, hax, _, rfl, _, rfl, _, _, rfl, rfl, .inl ⟨by decide, by decide⟩, _, _, rfl, rfl, a, rp, hide H5 a zs, zs, x, 8 + 4 * (0 + i), ds, rfl, x0, nx_hide hN, by omega, nx_kept hN hr, by omega, hds, fun H6 zs2 s hN2 hBk s1 s13 => ?_⟩
    have hN6 := nx_rebase hN hN2
    have hB6 := hBs.next hN2
    have hz2l : zs2.length = zs.length + s := by
      have := hBk.len
      rw [cts_len] at this
      exact this
    refine ⟨sz, _, _, rfl, rfl, hB6.at_, small1000 (by unfold nmap; rw [List.length_map, List.length_map]; omega), ?_⟩
    have hBk2 : BlkR (cts zs) (cts zs2) (cts zs).length s := by
      rw [cts_len]
      exact hBk
    obtain ⟨hT2, hf2⟩ := hTI.block hBk2 s1 (fun h => hfew (by rw [cts_len] at h; exact h))
    refine ⟨⟨zs2, ss ++ [s], ?_, ⟨hB6.new, hB6.ne, hB6.els, ?_⟩, by rw [List.length_append, hsl]; rfl, hT2, fun _ => hf2, by omega, by omega⟩, _, rfl⟩
    · refine ⟨same_mut hN6.same hB6.new, hN6.new, by rw [upd_ne hB6.ne.symm]; exact hN6.at_, fun z hz => ⟨(hN6.els z hz).1, (hN6.els z hz).2.1, by rw [upd_ne (hB6.els z hz)]; exact (hN6.els z hz).2.2⟩, hN6.nd⟩
    · rw [upd_same]
      unfold ilst nmap
      rw [List.map_append, List.map_append]
      rfl
  rintro σ H5 ⟨⟨zs, ss, hN, hBs, hsl, hTI, hfew, hz1, hz2⟩, y5, rfl⟩
  have hzpos : 0 < zs.length := by omega
  have hz143 : zs.length ≤ 143 := by omega
  have hzB : zs.length ≤ 13 * (B + 1) := by omega
  have hs11 : ss.length ≤ 11 := by omega
  clear hz1 hz2 hfew
  -- ends
  have hm3 := Int.emod_nonneg (e0 / 7) (show (4 : Int) ≠ 0 by omega)
  have hm4 := Int.emod_lt_of_pos (e0 / 7) (show (0 : Int) < 4 by omega)
  refine ⟨.ref rp, rfl, rp, _, 0, _, rfl, rfl, hR hN.same, atI_nat (j := 0) g0, _, _, rfl, rfl, ⟨by decide, by decide⟩, .inl ⟨_, rfl, _, _, rfl, rfl, (by show (0 : Int) < 4; decide), _, rfl, by omega, by omega, for_range (n := (e0 / 7 % 4).toNat) (fun i σ H6 => (∃ zs2 : Ws, NxIn H1 H6 a zs2 ∧ Bes H1 H6 a sz zs2 ss ∧ TI (cts zs2) ss ∧ zs2.length = zs.length) ∧ ∃ y6 y7, σ = [some (.int c), some (.int (B : Int)), some (.ref rp), some (.ref a), some (.ref sz), y5, y6, y7, none])
    ⟨⟨zs, hN, hBs, hTI, rfl⟩, none, none, rfl⟩ ?_ ?_⟩⟩
  · rintro i σ H6 hi ⟨⟨zs2, hN2, hB2, hT2, hl2⟩, y6, y7, rfl⟩
    obtain ⟨x, x0, hx⟩ := gd (40 + i) (by omega)
    have hax : atI (ds.map V.int) (40 + (0 + (i : Int))) = some (.int x) := atIe (k := 40 + i) hx (by omega)
    have hrl : (refL zs2).length = zs2.length := List.length_map ..
    have hv1 := Int.emod_nonneg x (show ((refL zs2).length : Int) ≠ 0 by omega)
    have hv2 := Int.emod_lt_of_pos x (show (0 : Int) < ((refL zs2).length : Int) by omega)
    obtain ⟨v, hv⟩ : ∃ v : Nat, x % ((refL zs2).length : Int) = v := ⟨(x % ((refL zs2).length : Int)).toNat, by omega⟩
    have hvl : v < zs2.length := by omega
    have hz : zs2[v]? = some zs2[v] := List.getElem?_eq_getElem hvl
    have hzm : zs2[v] ∈ zs2 := List.getElem_mem hvl
    generalize zs2[v] = z at hz hzm
    have hz3 := (hN2.els z hzm).2.2
    refine ⟨.ref rp, rfl, _, rfl, _, _, rfl, rfl, rp, _, _, _, rfl, rfl, hR hN2.same, hax, .inl ⟨_, rfl, _, rfl, a, _, rfl, .inl (SqL.of hN2.at_), _, _, rfl, rfl, by omega, ?_⟩⟩
    dsimp only
    rw [hv]
    refine ⟨_, rfl, _, rfl, a, _, _, _, rfl, rfl, SqL.of hN2.at_, atI_nat (get_refL hz), z.1, _, rfl, .inl (SqL.of hz3), _, _, rfl, rfl, _, rfl, if2 (fun e => ?_) (fun e => ?_)⟩
    · rw [List.length_map] at e
      refine ⟨_, rfl, _, rfl, a, _, _, _, rfl, rfl, SqL.of hN2.at_, atI_nat (get_refL hz), .inl ⟨rfl, _, SqL.of hz3⟩, 1, rfl, z.1, _, _, rfl, rfl, hz3, small1000 (by rw [List.length_map]; omega), ?_⟩
      refine ⟨⟨_, hN2.app (x := -1) hz, ⟨hB2.new, hB2.ne, fun w hw => ?_, ?_⟩, ?_, by rw [List.length_set]; exact hl2⟩, _, _, rfl⟩
      · rcases List.mem_or_eq_of_mem_set hw with hw | hw
        · exact hB2.els w hw
        · rw [hw]
          exact hB2.els z hzm
      · rw [upd_ne (hB2.els z hzm).symm]
        exact hB2.at_
      · rw [cts_set]
        exact hT2.fin (cts_get hz) (by omega)
    · exact ⟨⟨zs2, hN2, hB2, hT2, hl2⟩, _, _, rfl⟩
  clear hN hBs hTI
  rintro σ H6 ⟨⟨zs2, hN2, hB2, hT2, hl2⟩, y6, y7, rfl⟩
  have enl : ((nmap ss).map V.int).length = ss.length := by
    unfold nmap
    rw [List.length_map, List.length_map]
  -- exits
  refine ⟨_, rfl, sz, _, rfl, .inl (SqL.of hB2.at_), (((nmap ss).map V.int).length : Nat), rfl, by omega, by omega, for_range (n := ((nmap ss).map V.int).length) (fun i σ H7 => (∃ zs3 : Ws, NxIn H1 H7 a zs3 ∧ Bes H1 H7 a sz zs3 ss ∧ TI (cts zs3) ss ∧ zs3.length = zs.length ∧ ∀ (j s : Nat), j < i → ss[j]? = some s → EX (cts zs3) (ss.take j).sum s) ∧ ∃ y5 : Option V, σ = [some (.int c), some (.int (B : Int)), some (.ref rp), some (.ref a), some (.ref sz), y5, y6, y7, some (.int ((ss.take i).sum : Nat))])
    ⟨⟨zs2, hN2, hB2, hT2, hl2, fun j s h => absurd h (Nat.not_lt_zero _)⟩, y5, rfl⟩ ?_ ?_⟩
  · rintro i σ H7 hi ⟨⟨zs3, hN3, hB3, hT3, hl3, hEX⟩, y5, rfl⟩
    obtain ⟨s, hs⟩ : ∃ s, ss[i]? = some s := ⟨_, List.getElem?_eq_getElem (by omega)⟩
    obtain ⟨x, x0, hx⟩ := gd (44 + i) (by omega)
    have hax : atI (ds.map V.int) (44 + (0 + (i : Int))) = some (.int x) := atIe (k := 44 + i) hx (by omega)
    have hsum := take_sum_le hs
    have hT3l := hT3.len
    rw [cts_len] at hT3l
    refine ⟨_, rfl, _, rfl, _, rfl, _, rfl, sz, _, _, _, rfl, rfl, SqL.of hB3.at_, atI0 (nmap_get hs), .ref rp, rfl, _, rfl, _, _, rfl, rfl, rp, _, _, _, rfl, rfl, hR hN3.same, hax, a, hide H7 a zs3, zs3, (ss.take i).sum, s, x, rfl, x0, nx_hide hN3, by omega, by omega, fun z hz => (hT3.rng _ (List.mem_map_of_mem (f := fun z : Addr × List Int => z.2) hz)).1, hT3.open_ hs, fun H8 zs4 cc hN4 hE => ?_⟩
    have hN8 := nx_rebase hN3 hN4
    have hB8 := hB3.next hN4
    obtain ⟨hT8, hE8, hEs⟩ := hT3.exit hE
    have hl8 : zs4.length = zs.length := by
      have := hT8.len
      rw [cts_len] at this
      omega
    refine ⟨_, rfl, _, rfl, _, rfl, sz, _, _, _, rfl, rfl, SqL.of hB8.at_, atI0 (nmap_get hs), _, _, rfl, rfl, ⟨zs4, hN8, hB8, hT8, hl8, fun j s' hj hs' => ?_⟩, some (.int (0 + (i : Int))), ?_⟩
    · by_cases hji : j = i
      · subst hji
        rw [hs] at hs'
        rw [← Option.some.inj hs']
        exact hE8
      · exact hEs _ _ (hEX j s' (by omega) hs')
    · have e : (((ss.take (i + 1)).sum : Nat) : Int) = ((ss.take i).sum : Nat) + (s : Int) := by
        rw [List.take_add_one, hs, List.sum_append]
        simp
      rw [e]
      rfl
  rintro σ H7 ⟨⟨zs3, hN3, hB3, hT3, hl3, hEX⟩, y5, rfl⟩
  have hG : GOk (cts zs3) := hT3.ok (by rw [cts_len]; omega) fun j s hs => hEX j s (by have := (List.getElem?_eq_some_iff.mp hs).1; omega) hs
  have hrl : (refL zs3).length = zs3.length := List.length_map ..
  refine ⟨_, rfl, _, rfl, _, _, rfl, rfl, _, rfl, a, _, rfl, .inl (SqL.of hN3.at_), _, _, rfl, rfl, .inl ⟨by decide, by decide⟩, c + 5, _, 3 * (refL zs3).length, rfl, by omega, by omega, by decide, by decide, fun H9 dp ds2 s9 nd2 hd2 len2 bd2 => ?_⟩
  have s19 := s1.trans (hN3.same.trans s9)
  refine ⟨a, dp, zs3, ds2, rfl, SqL.of (s9 _ _ hN3.at_), fun z hz => SqL.of (s9 _ _ (hN3.els z hz).2.2), hG, by omega, SqL.of hd2, by omega, fun x hx => (bd2 x hx).1, fun H10 p rs s10 np hp hrw hok hrsl => ?_⟩
  exact q H10 p rs (s19.trans s10) (s19.free np) hp hrw hok (by omega)
theorem ok_l_any (T : Txt K mg) : Good P w K mg base 4 (He.ga K "_law_any") ["_law_cell_here", "_law_blocks"] [] (sp_l_any K) := by
  refine good_of T.f_l_any sc_l_any (fun vs H Q E h => ?_) (fun _ _ _ _ _ _ us hl => match us, hl with | [_, _], _ => rfl) (fun cdv A outer s H vs Q E hr h => ?_)
  · obtain ⟨_, _, rfl, _⟩ := h
    rfl
  refine ⟨_, (pss_cons (ps_set (i := 2) sc_l_any.nd rfl (Or.inl rfl) (pe_cg (ok_l_tame T) (hr.mono (j := 3) (by decide)) (by rfl) T.g_l_tame (pa_cons (pv 0) (pa_cons (pv 1) pa_nil))))
  (pss_cons (ps_set (i := 3) sc_l_any.nd rfl (Or.inl rfl) (pe_cg (ok_l_digits T) (hr.mono (j := 1) (by decide)) (by rfl) T.g_l_digits (pa_cons (pe_op op_add (pv 0) pe_int) (pa_cons pe_int (pa_cons pe_int pa_nil)))))
  (pss_cons (ps_for PassesOwn.never rfl (pi_range1 (by rfl) T.z_range (pa_cons (pe_op op_mod (pe_callTy call_int1 (by rfl) T.z_int (by decide +kernel) (pa_cons (pe_ix ix_list (pv 3) pe_int (fun _ _ => rfl)) pa_nil)) pe_int) pa_nil)) (pg_name (i := 4) sc_l_any.nd rfl (Or.inl rfl))
    (pss_cons (ps_set (i := 5) sc_l_any.nd rfl (Or.inl rfl) (pe_op op_mod (pe_callTy call_int1 (by rfl) T.z_int (by decide +kernel) (pa_cons (pe_ix ix_list (pv 3) (pe_op op_add pe_int (pv 4)) (fun _ _ => rfl)) pa_nil)) (pe_callB call_len_seq (by rfl) T.z_len (by decide +kernel) (pa_cons (pv 2) pa_nil))))
  (pss_one (ps_if (pt_cmpR op_lt (pe_callB call_len_seq (by rfl) T.z_len (by decide +kernel) (pa_cons (pe_ix ix_tup (pe_ix ix_list (pv 2) (pv 5) (fun _ _ => rfl)) pe_int (fun _ _ => rfl)) pa_nil)) pe_int (nomark _))
    (pss_cons (ps_set (i := 6) sc_l_any.nd rfl (Or.inl rfl) (pe_op op_mod (pe_callTy call_int1 (by rfl) T.z_int (by decide +kernel) (pa_cons (pe_op op_fdiv (pe_ix ix_list (pv 3) (pe_op op_add pe_int (pv 4)) (fun _ _ => rfl)) pe_int) pa_nil)) (pe_callB call_len_seq (by rfl) T.z_len (by decide +kernel) (pa_cons (pv 2) pa_nil))))
  (pss_one (ps_asg (pe_tup (pa_cons (pe_ix ix_tup (pe_ix ix_list (pv 2) (pv 5) (fun _ _ => rfl)) pe_int (fun _ _ => rfl)) (pa_cons (pe_ix ix_tup (pe_ix ix_list (pv 2) (pv 5) (fun _ _ => rfl)) pe_int (fun _ _ => rfl)) (pa_cons (pe_op op_catX (pe_ix ix_tup (pe_ix ix_list (pv 2) (pv 5) (fun _ _ => rfl)) pe_int (fun _ _ => rfl)) (pe_tup (pa_cons (pv 6) pa_nil))) pa_nil)))) (pg_sub (pv 2) (pv 5) set_list))))
    pss_nil))))
  (pss_one (ps_ret (pv 2)))))), ?_⟩
  obtain ⟨c, B, rfl, c0, hB, q⟩ := h
  refine ⟨_, rfl, _, rfl, c, B, rfl, c0, hB, fun H1 p rs s1 np hp hrw hok hrl => ?_⟩
  refine ⟨_, rfl, _, _, rfl, rfl, c + 9, _, 8, rfl, by omega, by omega, by decide, by decide, fun H2 rp ds s2 nr hr len bd => ?_⟩
  have gd : ∀ j : Nat, j < 8 → ∃ d, 0 ≤ d ∧ (ds.map V.int)[j]? = some (.int d) := fun j hj => by
    have hj2 : j < ds.length := by omega
    exact ⟨_, (bd _ (List.getElem_mem hj2)).1, get_map (List.getElem?_eq_getElem hj2)⟩
  obtain ⟨e0, b0, g0⟩ := gd 0 (by omega)
  have hp2 := s2 _ _ hp
  have hrp : rp ≠ p := (ne_of_none hp nr).symm
  have sBut : ∀ {H3 : Hp}, But p H2 H3 → Same H H3 := fun b c o e => b c o (fun e2 => by rw [e2, np] at e; cases e) (s2 _ _ (s1 _ _ e))
  have hm1 := Int.emod_nonneg e0 (show (4 : Int) ≠ 0 by omega)
  have hm2 := Int.emod_lt_of_pos e0 (show (0 : Int) < 4 by omega)
  refine ⟨.ref rp, rfl, rp, _, 0, _, rfl, rfl, SqL.of hr, atI_nat (j := 0) g0, .inl ⟨_, rfl, _, _, rfl, rfl, (by show (0 : Int) < 4; decide), _, rfl, by omega, by omega, for_range (n := (e0 % 4).toNat) (fun i σ H5 => But p H2 H5 ∧ (∃ rs2 : Rx, H5 p = some (.lst (refR rs2)) ∧ RwOk H5 rs2 ∧ RsOk rs2 ∧ rs2.length = rs.length) ∧ ∃ y4 y5 y6, σ = [some (.int c), some (.int (B : Int)), some (.ref p), some (.ref rp), y4, y5, y6])
    ⟨But.refl, ⟨rs, hp2, hrw.same s2, hok, rfl⟩, none, none, none, rfl⟩ ?_ ?_⟩⟩
  · rintro i σ H5 hi ⟨b5, ⟨rs2, hp5, hrw5, hok5, hl5⟩, y4, y5, y6, rfl⟩
    obtain ⟨x, x0, hx⟩ := gd (1 + i) (by omega)
    have hax : atI (ds.map V.int) (1 + (0 + (i : Int))) = some (.int x) := atIe (k := 1 + i) hx (by omega)
    have hr5 : SqL K H5 rp (ds.map V.int) := SqL.of (b5 _ _ hrp hr)
    have hrl5 : (refR rs2).length = rs2.length := List.length_map ..
    have hpos : 0 < rs2.length := by rw [← sxr_len]; exact hok5.g.pos
    have hv1 := Int.emod_nonneg x (show ((refR rs2).length : Int) ≠ 0 by omega)
    have hv2 := Int.emod_lt_of_pos x (show (0 : Int) < ((refR rs2).length : Int) by omega)
    obtain ⟨v, hv⟩ : ∃ v : Nat, x % ((refR rs2).length : Int) = v := ⟨(x % ((refR rs2).length : Int)).toNat, by omega⟩
    have hvl : v < rs2.length := by omega
    have hz : rs2[v]? = some rs2[v] := List.getElem?_eq_getElem hvl
    have hzm : rs2[v] ∈ rs2 := List.getElem_mem hvl
    generalize rs2[v] = z at hz hzm
    obtain ⟨z1, z2⟩ := hrw5 z hzm
    have hT : SqT K H5 z.1 [.str z.2.2.1, .int z.2.2.2.1, .ref z.2.1] := SqT.of z1
    refine ⟨.ref rp, rfl, _, rfl, _, _, rfl, rfl, rp, _, _, _, rfl, rfl, hr5, hax, .inl ⟨_, rfl, _, rfl, p, _, rfl, .inl (SqL.of hp5), _, _, rfl, rfl, by omega, ?_⟩⟩
    dsimp only
    rw [hv]
    refine ⟨_, rfl, _, rfl, p, _, _, _, rfl, rfl, SqL.of hp5, atI_nat (get_refR hz), z.1, _, 2, _, rfl, rfl, hT, rfl, z.2.1, _, rfl, .inr (SqT.of z2), _, _, rfl, rfl, _, rfl, if2 (fun e => ?_) (fun e => ?_)⟩
    · rw [List.length_map] at e
      have ht1 := Int.emod_nonneg (x / 60) (show ((refR rs2).length : Int) ≠ 0 by omega)
      have ht2 := Int.emod_lt_of_pos (x / 60) (show (0 : Int) < ((refR rs2).length : Int) by omega)
      refine ⟨.ref rp, rfl, _, rfl, _, _, rfl, rfl, rp, _, _, _, rfl, rfl, hr5, hax, _, _, rfl, rfl, ⟨by decide, by decide⟩, .inl ⟨_, rfl, _, rfl, p, _, rfl, .inl (SqL.of hp5), _, _, rfl, rfl, by omega, ?_⟩⟩
      dsimp only
      generalize x / 60 % ((refR rs2).length : Int) = t at ht1 ht2 ⊢
      refine ⟨_, rfl, _, rfl, p, _, _, _, rfl, rfl, SqL.of hp5, atI_nat (get_refR hz), z.1, _, 0, _, rfl, rfl, hT, rfl, _, rfl, _, rfl, p, _, _, _, rfl, rfl, SqL.of hp5, atI_nat (get_refR hz), z.1, _, 1, _, rfl, rfl, hT, rfl, _, rfl, _, rfl, p, _, _, _, rfl, rfl, SqL.of hp5, atI_nat (get_refR hz), z.1, _, 2, _, rfl, rfl, hT, rfl, _, rfl, (by show 1 ≤ sizeLine; decide), fun t1 n1 => ⟨z.2.1, t1, z.2.2.2.2.map V.int, [.int t], rfl, rfl, same_new n1 _ _ z2, upd_same, ?_, fun H7 u s7 hu => ⟨(by show 3 ≤ sizeLine; decide), fun tt ntt => ?_⟩⟩⟩
      · rw [List.length_map]
        exact Nat.le_trans (show z.2.2.2.2.length + 1 ≤ 10 by omega) (by decide)
      have s57 := (same_new (o := .tup [.int t]) n1).trans s7
      have s58 := s57.trans (same_new (o := .tup [.str z.2.2.1, .int z.2.2.2.1, .ref u]) ntt)
      have hp8 := s58 _ _ hp5
      have hel : ∀ (c : Addr) (xs : List V), upd H7 tt (.tup [.str z.2.2.1, .int z.2.2.2.1, .ref u]) c = some (.tup xs) → upd (upd H7 tt (.tup [.str z.2.2.1, .int z.2.2.2.1, .ref u])) p (.lst ((refR rs2).set v (.ref tt))) c = some (.tup xs) := fun c xs h => by
        rw [upd_ne (ne_of h hp8 (fun e => nomatch e))]
        exact h
      refine ⟨_, rfl, _, rfl, p, _, _, v, rfl, rfl, hp8, ixN_nat (by omega), fun c o n e => ?_, ⟨rs2.set v (tt, u, z.2.2.1, z.2.2.2.1, z.2.2.2.2 ++ [t]), ?_, fun w hw => ?_, ⟨by rw [List.length_set]; exact hok5.few, ?_, fun w hw => ?_⟩, by rw [List.length_set]; exact hl5⟩, _, _, _, rfl⟩
      · rw [upd_ne n]
        exact s58 _ _ (b5 c o n e)
      · rw [upd_same]
        unfold refR
        rw [List.map_set]
      · rcases List.mem_or_eq_of_mem_set hw with hw | hw
        · exact ⟨hel _ _ (s58 _ _ (hrw5 w hw).1), hel _ _ (s58 _ _ (hrw5 w hw).2)⟩
        · rw [hw]
          refine ⟨hel _ _ upd_same, ?_⟩
          have hu2 : H7 u = some (itup (z.2.2.2.2 ++ [t])) := by
            rw [hu]
            unfold itup
            rw [List.map_append]
            rfl
          exact hel _ _ (same_new ntt _ _ hu2)
      · have e9 : sxr (rs2.set v (tt, u, z.2.2.1, z.2.2.2.1, z.2.2.2.2 ++ [t])) = (sxr rs2).set v (z.2.2.2.2 ++ [t]) := by
          unfold sxr
          rw [List.map_set]
        rw [e9]
        exact hok5.g.grow (get_sxr hz) (by omega) ht1 (by rw [sxr_len]; omega)
      · rcases List.mem_or_eq_of_mem_set hw with hw | hw
        · exact hok5.nm w hw
        · rw [hw]
          exact hok5.nm z hzm
    · exact ⟨b5, ⟨rs2, hp5, hrw5, hok5, hl5⟩, _, _, _, rfl⟩
  · rintro σ H5 ⟨b5, ⟨rs2, hp5, hrw5, hok5, hl5⟩, y4, y5, y6, rfl⟩
    exact ⟨_, rfl, q H5 p rs2 (sBut b5) np hp5 hrw5 hok5 (by omega)⟩
end
end K62

namespace K62
open PySem PySem.Spec PyProof.Rows L2 Fw Lay
section
variable {P : Program} {w : World} {K : PySem.W.Frag} {mg : Str → Option Value} {base : Heap}
theorem rs_of {rs rg : Rx} (h : RsOk rs) (e : rg.map (·.2.2) = rs.map (·.2.2)) : RsOk rg := by
  have hl : rg.length = rs.length := by
    have := congrArg List.length e
    rw [List.length_map, List.length_map] at this
    exact this
  refine ⟨by rw [hl]; exact h.few, by rw [(sxr_same e).1]; exact h.g, fun q hq => ?_⟩
  have : q.2.2 ∈ rs.map (·.2.2) := by
    rw [← e]
    exact List.mem_map_of_mem (f := fun q : Addr × Addr × Rw => q.2.2) hq
  obtain ⟨q2, hq2, e2⟩ := List.mem_map.mp this
  have := h.nm q2 hq2
  rw [e2] at this
  exact this
theorem rg_len {rs rg : Rx} (e : rg.map (·.2.2) = rs.map (·.2.2)) : rg.length = rs.length := by
  have := congrArg List.length e
  rw [List.length_map, List.length_map] at this
  exact this
theorem rg_get {rs rg : Rx} {i : Nat} {q : Addr × Addr × Rw} (e : rg.map (·.2.2) = rs.map (·.2.2)) (hq : rs[i]? = some q) : ∃ q2, rg[i]? = some q2 ∧ q2.2.2 = q.2.2 := by
  have h := congrArg (fun l => l[i]?) e
  simp only [List.getElem?_map] at h
  rw [hq] at h
  exact Option.map_eq_some_iff.mp h
theorem pxr_len (rs : Rx) : (pxr rs).length = rs.length := List.length_map ..
theorem pxr_one {rs : Rx} (h : RsOk rs) : ∀ x ∈ pxr rs, 1 ≤ x := fun x hx => by
  obtain ⟨q, hq, rfl⟩ := List.mem_map.mp hx
  exact (h.nm q hq).2
theorem tot_nn {rs : Rx} {bs : List Nat} (h : RsOk rs) (hC : Cover (sxr rs) bs) : 0 ≤ tot (sxr rs) (pxr rs) bs :=
  sum_nn fun b hb => cst_nn h.g (ClP.cls (hC.lt b hb)) (by rw [pxr_len, sxr_len]) (pxr_one h)
theorem wor_tot {g : Nx} {pr : List Int} {bs : List Nat} (h : ¬ Wld g bs) : wor g pr bs = tot g pr bs := by
  unfold wor
  rw [if_neg h]
theorem dear_rs {rs : Rx} {i : Nat} {q : Addr × Addr × Rw} {t : Addr} {x : Int} (hok : RsOk rs) (hq : rs[i]? = some q) (hx : 0 ≤ x) :
    sxr (rs.set i (t, q.2.1, q.2.2.1, q.2.2.2.1 + x, q.2.2.2.2)) = sxr rs ∧ pxr (rs.set i (t, q.2.1, q.2.2.1, q.2.2.2.1 + x, q.2.2.2.2)) = (pxr rs).set i ((pxr rs).getD i 0 + x) ∧ RsOk (rs.set i (t, q.2.1, q.2.2.1, q.2.2.2.1 + x, q.2.2.2.2)) := by
  have hi := (List.getElem?_eq_some_iff.mp hq).1
  have e1 : sxr (rs.set i (t, q.2.1, q.2.2.1, q.2.2.2.1 + x, q.2.2.2.2)) = sxr rs := by
    unfold sxr
    rw [List.map_set]
    exact List.ext_getElem? fun j => by
      rw [List.getElem?_set]
      by_cases e : i = j
      · subst e
        rw [if_pos rfl, if_pos (by rw [List.length_map]; exact hi), List.getElem?_map, hq]
        rfl
      · rw [if_neg e]
  have e2 : (pxr rs).getD i 0 = q.2.2.2.1 := by
    rw [List.getD_eq_getElem?_getD, get_pxr hq]
    rfl
  refine ⟨e1, ?_, by rw [List.length_set]; exact hok.few, by rw [e1]; exact hok.g, fun z hz => ?_⟩
  · rw [e2]
    unfold pxr
    rw [List.map_set]
  · rcases List.mem_or_eq_of_mem_set hz with hz | hz
    · exact hok.nm z hz
    · rw [hz]
      have := hok.nm q (List.mem_of_getElem? hq)
      exact ⟨this.1, by show 1 ≤ q.2.2.2.1 + x; omega⟩
theorem wide_rs {rs : Rx} {i : Nat} {q : Addr × Addr × Rw} {t u : Addr} {x : Int} (hok : RsOk rs) (hq : rs[i]? = some q) (hlt : q.2.2.2.2.length < 4) (hx : x = -1 ∨ (0 ≤ x ∧ x < (rs.length : Int))) :
    sxr (rs.set i (t, u, q.2.2.1, q.2.2.2.1, q.2.2.2.2 ++ [x])) = (sxr rs).set i (q.2.2.2.2 ++ [x]) ∧ pxr (rs.set i (t, u, q.2.2.1, q.2.2.2.1, q.2.2.2.2 ++ [x])) = pxr rs ∧ RsOk (rs.set i (t, u, q.2.2.1, q.2.2.2.1, q.2.2.2.2 ++ [x])) := by
  have hi := (List.getElem?_eq_some_iff.mp hq).1
  have e1 : sxr (rs.set i (t, u, q.2.2.1, q.2.2.2.1, q.2.2.2.2 ++ [x])) = (sxr rs).set i (q.2.2.2.2 ++ [x]) := by
    unfold sxr
    rw [List.map_set]
  refine ⟨e1, ?_, by rw [List.length_set]; exact hok.few, ?_, fun z hz => ?_⟩
  · unfold pxr
    rw [List.map_set]
    exact List.ext_getElem? fun j => by
      rw [List.getElem?_set]
      by_cases e : i = j
      · subst e
        rw [if_pos rfl, if_pos (by rw [List.length_map]; exact hi), List.getElem?_map, hq]
        rfl
      · rw [if_neg e]
  · rw [e1]
    exact gok_more hok.g (get_sxr hq) hlt (by rw [sxr_len]; exact hx)
  · rcases List.mem_or_eq_of_mem_set hz with hz | hz
    · exact hok.nm z hz
    · rw [hz]
      exact hok.nm q (List.mem_of_getElem? hq)
/-- the first rows: prices cut -/
theorem cut_rs {rs rc : Rx} (hok : RsOk rs) (e : rc.map (fun q => (q.2.2.1, q.2.2.2.2)) = rs.map (fun q => (q.2.2.1, q.2.2.2.2))) (hp : ∀ q ∈ rc, 1 ≤ q.2.2.2.1) : RsOk rc := by
  have hl : rc.length = rs.length := by
    have := congrArg List.length e
    rw [List.length_map, List.length_map] at this
    exact this
  have e1 : sxr rc = sxr rs := by
    have e2 : sxr rc = (rc.map (fun q => (q.2.2.1, q.2.2.2.2))).map (·.2) := by rw [List.map_map]; rfl
    have e3 : sxr rs = (rs.map (fun q => (q.2.2.1, q.2.2.2.2))).map (·.2) := by rw [List.map_map]; rfl
    rw [e2, e3, e]
  refine ⟨by rw [hl]; exact hok.few, by rw [e1]; exact hok.g, fun q hq => ⟨?_, hp q hq⟩⟩
  have : (q.2.2.1, q.2.2.2.2) ∈ rs.map (fun q => (q.2.2.1, q.2.2.2.2)) := by
    rw [← e]
    exact List.mem_map_of_mem (f := fun q : Addr × Addr × Rw => (q.2.2.1, q.2.2.2.2)) hq
  obtain ⟨q2, hq2, e2⟩ := List.mem_map.mp this
  have := (hok.nm q2 hq2).1
  rw [(Prod.mk.inj e2).1] at this
  exact this
theorem grow_ed {g : Nx} {i : Nat} {l : List Int} {x : Int} (hl : g[i]? = some l) : ∀ u v, Ed g u v → Ed (g.set i (l ++ [x])) u v := fun u v ⟨m, h1, h2⟩ => by
  obtain ⟨m2, h3, h4⟩ := set_grow (x := x) hl u m h1
  exact ⟨m2, h3, h4 _ h2⟩
theorem rise {rs : Rx} {bs : List Nat} {i : Nat} {x : Int} (hok : RsOk rs) (hC : Cover (sxr rs) bs) (hi : i < rs.length) (hx : 0 ≤ x) :
    (wor (sxr rs) (pxr rs) bs < 0 ∧ wor (sxr rs) ((pxr rs).set i ((pxr rs).getD i 0 + x)) bs < 0) ∨ (0 ≤ wor (sxr rs) (pxr rs) bs ∧ wor (sxr rs) (pxr rs) bs ≤ wor (sxr rs) ((pxr rs).set i ((pxr rs).getD i 0 + x)) bs ∧ wor (sxr rs) ((pxr rs).set i ((pxr rs).getD i 0 + x)) bs ≤ wor (sxr rs) (pxr rs) bs + x) := by
  by_cases hW : Wld (sxr rs) bs
  · rw [wor_wild hW, wor_wild hW]
    exact .inl ⟨by decide, by decide⟩
  · rw [wor_tot hW, wor_tot hW]
    have h := tot_price (pr := pxr rs) (i := i) hok.g hC (by rw [pxr_len, sxr_len]) (by rw [sxr_len]; exact hi) hx
    exact .inr ⟨tot_nn hok hC, h.1, h.2⟩
theorem not_lower {rs rt : Rx} {bs cs : List Nat} {i : Nat} {l : List Int} {x : Int} (hok : RsOk rs) (hok2 : RsOk rt) (hC : Cover (sxr rs) bs) (hC2 : Cover (sxr rt) cs) (hl : (sxr rs)[i]? = some l) (es : sxr rt = (sxr rs).set i (l ++ [x])) (ep : pxr rt = pxr rs) :
    (wor (sxr rs) (pxr rs) bs < 0 ∧ wor (sxr rt) (pxr rt) cs < 0) ∨ (0 ≤ wor (sxr rs) (pxr rs) bs ∧ (wor (sxr rt) (pxr rt) cs < 0 ∨ wor (sxr rs) (pxr rs) bs ≤ wor (sxr rt) (pxr rt) cs)) := by
  have hE : ∀ u v, Ed (sxr rs) u v → Ed (sxr rt) u v := by rw [es]; exact grow_ed hl
  have hln : (sxr rt).length = (sxr rs).length := by rw [es, List.length_set]
  by_cases hW : Wld (sxr rs) bs
  · rw [wor_wild hW, wor_wild (wild_more hok.g hok2.g hln hE hC hC2 hW)]
    exact .inl ⟨by decide, by decide⟩
  · rw [wor_tot hW]
    refine .inr ⟨tot_nn hok hC, ?_⟩
    by_cases hW2 : Wld (sxr rt) cs
    · rw [wor_wild hW2]
      exact .inl (by decide)
    · rw [wor_tot hW2, ep]
      exact .inr (tot_more hok.g hok2.g hln hE hC hC2 hW2 (by rw [pxr_len, sxr_len]) (pxr_one hok))
end
end K62

namespace Fw
open PySem PySem.Spec PyProof.Rows L2
/-- the law's def, its function object named ahead -/
theorem law_of {P : Program} {w : World} {K : PySem.W.Frag} {mg : Str → Option Value} {base : Heap} {k : Nat} {f : Addr} {N ps : List Str} {sp : Sp} {x q : Str} {pa : Arguments} {bd : List Stmt} {sc : Scope} {fd : FuncData}
    (F : FunD K x q pa bd sc [] [] f fd) (S : FnScope N ps sc) (len : ∀ vs H Q E, sp vs H Q E → vs.length = ps.length)
    (hbody : ∀ (cdv : Value) (A : Around) (outer : List Env) (s : Shared) (H : Hp) (vs : List V) (Q : VK) (E : XK), Room k (A.deeper (envOfC q sc s.heap.objs.size f cdv)) → sp vs H Q E →
      ∃ t, PSs (cxOf CX0 P w K mg base N q sc f cdv A outer s H E).nox bd t ∧ t { nx := fun _ H2 => Q .non H2, rt := Q } (start N vs) H) : FnOk P w K mg base CX0 (k + 1) f fd ps sp := by
  refine F.ok S len fun cdv A outer s H vs Q E hr h => ?_
  obtain ⟨t, h1, h2⟩ := hbody cdv A outer s H vs Q E hr h
  exact ⟨t, h1.nox, h2⟩
end Fw

namespace K62
open PySem PySem.Spec PyProof.Rows L2 Fw Lay
section
variable {P : Program} {w : World} {K : PySem.W.Frag} {mg : Str → Option Value} {base : Heap}
theorem mkS {H1 H2 : Hp} {x dx : Addr} {o o' : HO} (nx : H1 x = none) (nd : H1 dx = none) (b : But x (upd (upd H1 dx o') x o) H2) : Same H1 H2 := fun c u e => by
  refine b c u (ne_of_none e nx) ?_
  rw [upd_ne (ne_of_none e nx), upd_ne (ne_of_none e nd)]
  exact e
theorem ok_law (T : Txt K mg) {fd : FuncData} (F : FunD K "law" "law" (defArgs s_law) (defBody s_law) (defScope s_law) [] [] (He.ga K "law") fd) : FnOk P w K mg base CX0 10 (He.ga K "law") fd ["_law_script"] (sp_law K) := by
  refine law_of F sc_law (fun vs H Q E h => ?_) (fun cdv A outer s H vs Q E hr h => ?_)
  · obtain ⟨_, _, rfl, _⟩ := h
    rfl
  refine ⟨_, (pss_cons (ps_setLc (i := 1) (own := [("_law_row", 15)]) (g := (gName 15)) (tt := tYes) rfl sc_law.nd rfl rfl (sw_true rfl rfl rfl (by decide +kernel)) (pi_list (pe_cg (ok_l_any T) (hr.mono (j := 4) (by decide)) (by rfl) T.g_l_any (pa_cons (pe_cg (ok_l_seed T) (hr.mono (j := 2) (by decide)) (by rfl) T.g_l_seed (pa_cons (pv 0) (pa_cons pe_int pa_nil))) (pa_cons pe_int pa_nil)))) (blkOk_by (own := [("_law_row", 15)]) (N := ["_law_script", "_law_rows", "_law_begin", "_law_parts_here", "_law_start", "_law_graph", "_law_value_here", "_law_turn", "_law_node", "_law_added", "_law_raised", "_law_source", "_law_cell_here", "_law_targets", "_law_target", "_law_row"]) (sc := defScope s_law) (by decide +kernel)) (fun _ _ _ _ _ => (pg_name (i := 15) sc_law.nd rfl (Or.inl rfl))) (fun _ _ _ _ _ => pts_nil) (fun _ _ _ _ _ => (pe_tup (pa_cons (pe_ix (ix_tupE (K := K) rfl) (pv 15) pe_int (fun _ _ => rfl)) (pa_cons (pe_callB (call_min2 rfl) (by rfl) T.z_min (by decide +kernel) (pa_cons (pe_ix (ix_tupE (K := K) rfl) (pv 15) pe_int (fun _ _ => rfl)) (pa_cons (pe_op op_mul pe_int (pe_op op_pow pe_int pe_int)) pa_nil))) (pa_cons (pe_ix (ix_tupE (K := K) rfl) (pv 15) pe_int (fun _ _ => rfl)) pa_nil))))))
  (pss_cons (ps_set (i := 2) sc_law.nd rfl (Or.inl rfl) (pe_mkg T.mk_Graph (ok_Graph_init T) (hr.mono (j := 5) (by decide)) (by rfl) T.g_Graph (pa_cons (pe_callTy call_list_of (by rfl) T.z_list (by decide +kernel) (pa_cons (pv 1) pa_nil)) pa_nil)))
  (pss_cons (ps_set (i := 3) sc_law.nd rfl (Or.inl rfl) (pe_cg (ok_l_parts T) (hr.mono (j := 2) (by decide)) (by rfl) T.g_l_parts (pa_cons (pv 1) pa_nil)))
  (pss_cons (ps_set (i := 4) sc_law.nd rfl (Or.inl rfl) (pe_cg (ok_l_value T) (hr.mono (j := 4) (by decide)) (by rfl) T.g_l_value (pa_cons (pv 1) (pa_cons (pv 3) pa_nil))))
  (pss_cons (ps_if (pt_not (pt_val (pe_cg (ok_l_is_worth T) (hr.mono (j := 2) (by decide)) (by rfl) T.g_l_is_worth (pa_cons (pe_cg (ok_worth T) (hr.mono (j := 9) (by decide)) (by rfl) T.g_worth (pa_cons (pv 2) pa_nil)) (pa_cons (pv 4) pa_nil)))))
    (pss_one (ps_ret pe_bl))
    pss_nil)
  (pss_cons (ps_set (i := 5) sc_law.nd rfl (Or.inl rfl) (pv 2))
  (pss_cons (ps_set (i := 6) sc_law.nd rfl (Or.inl rfl) (pv 4))
  (pss_cons (ps_for PassesOwn.never rfl (pi_range1 (by rfl) T.z_range (pa_cons pe_int pa_nil)) (pg_name (i := 7) sc_law.nd rfl (Or.inl rfl))
    (pss_cons (ps_set (i := 8) sc_law.nd rfl (Or.inl rfl) (pe_op op_mod (pe_callTy call_int1 (by rfl) T.z_int (by decide +kernel) (pa_cons (pe_cg (ok_l_seed T) (hr.mono (j := 2) (by decide)) (by rfl) T.g_l_seed (pa_cons (pv 0) (pa_cons (pe_op op_add pe_int (pe_op op_mul pe_int (pv 7))) pa_nil))) pa_nil)) (pe_callB call_len_seq (by rfl) T.z_len (by decide +kernel) (pa_cons (pv 1) pa_nil))))
  (pss_cons (ps_set (i := 9) sc_law.nd rfl (Or.inl rfl) (pe_op op_add pe_int (pe_op op_mod (pe_callTy call_int1 (by rfl) T.z_int (by decide +kernel) (pa_cons (pe_cg (ok_l_seed T) (hr.mono (j := 2) (by decide)) (by rfl) T.g_l_seed (pa_cons (pv 0) (pa_cons (pe_op op_add pe_int (pe_op op_mul pe_int (pv 7))) pa_nil))) pa_nil)) (pe_op op_pow pe_int pe_int))))
  (pss_cons (ps_set (i := 1) sc_law.nd rfl (Or.inl rfl) (pe_cg (ok_l_dearer T) (hr.mono (j := 1) (by decide)) (by rfl) T.g_l_dearer (pa_cons (pv 1) (pa_cons (pv 8) (pa_cons (pv 9) pa_nil)))))
  (pss_cons (ps_set (i := 10) sc_law.nd rfl (Or.inl rfl) (pe_cg (ok_l_value T) (hr.mono (j := 4) (by decide)) (by rfl) T.g_l_value (pa_cons (pv 1) (pa_cons (pv 3) pa_nil))))
  (pss_cons (ps_set (i := 5) sc_law.nd rfl (Or.inl rfl) (pe_cg (ok_with_price T) (hr.mono (j := 7) (by decide)) (by rfl) T.g_with_price (pa_cons (pv 5) (pa_cons (pv 8) (pa_cons (pe_ix ix_tup (pe_ix ix_list (pv 1) (pv 8) (fun _ _ => rfl)) pe_int (fun _ _ => rfl)) pa_nil)))))
  (pss_cons (ps_if (pw_or (pt_not (pt_val (pe_cg (ok_l_is_worth T) (hr.mono (j := 2) (by decide)) (by rfl) T.g_l_is_worth (pa_cons (pe_cg (ok_worth T) (hr.mono (j := 9) (by decide)) (by rfl) T.g_worth (pa_cons (pv 5) pa_nil)) (pa_cons (pv 10) pa_nil))))) (pw_or1 (pt_not (pt_val (pe_cg (ok_l_rises T) (hr.mono (j := 1) (by decide)) (by rfl) T.g_l_rises (pa_cons (pv 6) (pa_cons (pv 10) (pa_cons (pv 9) pa_nil)))))))).pt
    (pss_one (ps_ret pe_bl))
    pss_nil)
  (pss_cons (ps_set (i := 6) sc_law.nd rfl (Or.inl rfl) (pv 10))
  (pss_cons (ps_set (i := 11) sc_law.nd rfl (Or.inl rfl) (pe_cg (ok_l_free T) (hr.mono (j := 1) (by decide)) (by rfl) T.g_l_free (pa_cons (pv 1) (pa_cons (pe_cg (ok_l_seed T) (hr.mono (j := 2) (by decide)) (by rfl) T.g_l_seed (pa_cons (pv 0) (pa_cons (pe_op op_add pe_int (pe_op op_mul pe_int (pv 7))) pa_nil))) pa_nil))))
  (pss_one (ps_if (pt_cmpR op_ge (pv 11) pe_int (nomark _))
    (pss_cons (ps_set (i := 12) sc_law.nd rfl (Or.inl rfl) (pe_cg (ok_l_seed T) (hr.mono (j := 2) (by decide)) (by rfl) T.g_l_seed (pa_cons (pv 0) (pa_cons (pe_op op_add pe_int (pe_op op_mul pe_int (pv 7))) pa_nil))))
  (pss_cons (ps_set (i := 13) sc_law.nd rfl (Or.inl rfl) (pe_cg (ok_l_later T) (hr.mono (j := 1) (by decide)) (by rfl) T.g_l_later (pa_cons (pv 3) (pa_cons (pv 11) pa_nil))))
  (C8.pss_cut (ps_if (pt_cmpR op_eq (pe_op op_mod (pe_callTy call_int1 (by rfl) T.z_int (by decide +kernel) (pa_cons (pv 12) pa_nil)) pe_int) pe_int (nomark _))
    (pss_one (ps_set (i := 13) sc_law.nd rfl (Or.inl rfl) (pe_op op_cat (pe_lst (pa_cons (pe_un un_neg pe_int) pa_nil)) (pe_listRg rfl (by rfl) T.z_list (prg_1 (by rfl) T.z_range (pe_callB call_len_seq (by rfl) T.z_len (by decide +kernel) (pa_cons (pv 1) pa_nil)))))))
    pss_nil)
  (pss_cons (ps_set (i := 14) sc_law.nd rfl (Or.inl rfl) (pe_ix ix_list (pv 13) (pe_op op_mod (pe_callTy call_int1 (by rfl) T.z_int (by decide +kernel) (pa_cons (pe_op op_fdiv (pv 12) pe_int) pa_nil)) (pe_callB call_len_seq (by rfl) T.z_len (by decide +kernel) (pa_cons (pv 13) pa_nil))) (fun _ _ => rfl)))
  (pss_cons (ps_set (i := 1) sc_law.nd rfl (Or.inl rfl) (pe_cg (ok_l_wider T) (hr.mono (j := 1) (by decide)) (by rfl) T.g_l_wider (pa_cons (pv 1) (pa_cons (pv 11) (pa_cons (pv 14) pa_nil)))))
  (pss_cons (ps_set (i := 3) sc_law.nd rfl (Or.inl rfl) (pe_cg (ok_l_parts T) (hr.mono (j := 2) (by decide)) (by rfl) T.g_l_parts (pa_cons (pv 1) pa_nil)))
  (pss_cons (ps_set (i := 6) sc_law.nd rfl (Or.inl rfl) (pe_cg (ok_l_value T) (hr.mono (j := 4) (by decide)) (by rfl) T.g_l_value (pa_cons (pv 1) (pa_cons (pv 3) pa_nil))))
  (pss_cons (ps_set (i := 5) sc_law.nd rfl (Or.inl rfl) (pe_cg (ok_with_successor T) (hr.mono (j := 7) (by decide)) (by rfl) T.g_with_successor (pa_cons (pv 5) (pa_cons (pv 11) (pa_cons (pv 14) pa_nil)))))
  (pss_one (ps_if (pw_or (pt_not (pt_val (pe_cg (ok_l_is_worth T) (hr.mono (j := 2) (by decide)) (by rfl) T.g_l_is_worth (pa_cons (pe_cg (ok_worth T) (hr.mono (j := 9) (by decide)) (by rfl) T.g_worth (pa_cons (pv 5) pa_nil)) (pa_cons (pv 6) pa_nil))))) (pw_or1 (pt_not (pt_val (pe_cg (ok_l_not_lower T) (hr.mono (j := 1) (by decide)) (by rfl) T.g_l_not_lower (pa_cons (pv 10) (pa_cons (pv 6) pa_nil))))))).pt
    (pss_one (ps_ret pe_bl))
    pss_nil))))))))))
    pss_nil)))))))))))
  (pss_one (ps_ret (pe_cg (ok_l_is_worth T) (hr.mono (j := 2) (by decide)) (by rfl) T.g_l_is_worth (pa_cons (pe_cg (ok_worth T) (hr.mono (j := 9) (by decide)) (by rfl) T.g_worth (pa_cons (pv 2) pa_nil)) (pa_cons (pv 4) pa_nil))))))))))))), ?_⟩
  obtain ⟨a, ns, rfl, hS, hlen, q⟩ := h
  have esd : ∀ (c : Int) (i : Nat), (c + 4 * (0 + (i : Int))) = ((c.toNat + 4 * i : Nat) : Int) ∨ c < 0 := fun c i => by omega
  -- rows
  refine ⟨_, rfl, a, ns, 0, rfl, hS, by omega, fun c H1 hc s1 => ⟨c, 3, rfl, hc, by omega, fun H2 p0 r0 s2 np0 hp0 hrw0 hok0 hl0 => ?_⟩⟩
  have s02 := s1.trans s2
  have erl0 : (refR r0).length = r0.length := List.length_map ..
  refine ⟨p0, rfl, ⟨_, SqL.of hp0⟩, fun D hD => lc_list (K := K) (a := p0) (xs := refR r0) (fun i H3 => Same H2 H3 ∧ ∃ rc : Rx, H3 D = some (.lst (refR rc)) ∧ RwOk H3 rc ∧ rc.map (fun q => (q.2.2.1, q.2.2.2.2)) = (r0.take i).map (fun q => (q.2.2.1, q.2.2.2.2)) ∧ ∀ q ∈ rc, 1 ≤ q.2.2.2.1) ⟨same_new hD, [], upd_same, fun z hz => (nomatch hz), rfl, fun z hz => nomatch hz⟩ (fun i H3 _ h => SqL.of (h.1 _ _ hp0)) ?_ ?_⟩
  · rintro i x H3 hi ⟨s3, rc, hrc, hrwc, erc, hpc⟩
    obtain ⟨qr, hq, hqm, rfl⟩ := refR_get hi
    obtain ⟨t1, t2⟩ := hrw0 qr hqm
    have hn := hok0.nm qr hqm
    have hcl : rc.length = (r0.take i).length := by
      have e := congrArg List.length erc
      rw [List.length_map, List.length_map] at e
      exact e
    rw [List.length_take] at hcl
    refine ⟨rfl, yes_then ⟨_, rfl, qr.1, _, 0, _, rfl, rfl, SqT.of (s3 _ _ t1), rfl, _, rfl, qr.1, _, 1, _, rfl, rfl, SqT.of (s3 _ _ t1), rfl, _, _, rfl, rfl, ⟨by decide, by decide, by decide⟩, _, _, rfl, rfl, .inl ⟨by decide, by decide⟩, _, _, rfl, _, rfl, qr.1, _, 2, _, rfl, rfl, SqT.of (s3 _ _ t1), rfl, (by show 3 ≤ sizeLine; decide), fun t nt => ?_⟩⟩
    have s4 := same_new (o := .tup [.str qr.2.2.1, .int (if (998 * 10 ^ 6 : Int) < qr.2.2.2.1 then 998 * 10 ^ 6 else qr.2.2.2.1), .ref qr.2.1]) nt
    have hrc4 := s4 _ _ hrc
    have nD4 : D ≠ t := ne_of_none hrc nt
    refine ⟨_, hrc4, small1000 (by unfold refR; rw [List.length_map]; omega), same_mut (s3.trans s4) hD, rc ++ [(t, qr.2.1, qr.2.2.1, (if (998 * 10 ^ 6 : Int) < qr.2.2.2.1 then 998 * 10 ^ 6 else qr.2.2.2.1), qr.2.2.2.2)], ?_, fun z hz => ?_, ?_, fun z hz => ?_⟩
    · rw [upd_same]
      unfold refR
      rw [List.map_append]
      rfl
    · rcases List.mem_append.mp hz with hz | hz
      · obtain ⟨h1, h2⟩ := hrwc z hz
        refine ⟨?_, ?_⟩
        · rw [upd_ne (ne_of h1 hrc fun e => by cases e)]
          exact s4 _ _ h1
        · rw [upd_ne (ne_of h2 hrc fun e => by cases e)]
          exact s4 _ _ h2
      · rw [List.mem_singleton.mp hz]
        refine ⟨?_, ?_⟩
        · show upd (upd H3 t _) D _ t = _
          rw [upd_ne nD4.symm, upd_same]
          rfl
        · show upd (upd H3 t _) D _ qr.2.1 = _
          rw [upd_ne (ne_of (s3 _ _ t2) hrc fun e => by cases e)]
          exact s4 _ _ (s3 _ _ t2)
    · rw [List.map_append, erc, List.take_add_one, hq, List.map_append]
      rfl
    · rcases List.mem_append.mp hz with hz | hz
      · exact hpc z hz
      · rw [List.mem_singleton.mp hz]
        show 1 ≤ (if (998 * 10 ^ 6 : Int) < qr.2.2.2.1 then 998 * 10 ^ 6 else qr.2.2.2.1)
        split
        · decide
        · exact hn.2
  rintro H3 ⟨s3, rs, hp, hrw, erc, hpc⟩
  rw [erl0, List.take_length] at erc
  have hok := cut_rs hok0 erc hpc
  have hrl : rs.length = r0.length := by
    have e := congrArg List.length erc
    rw [List.length_map, List.length_map] at e
    exact e
  have hl : rs.length < 64 := by omega
  have s03 := s02.trans s3
  have npD : H D = none := s02.free hD
  clear erc hpc hok0 hrw0 hp0 np0 hl0
  -- the graph
  refine ⟨_, rfl, D, _, rfl, .inl (SqL.of hp), fun l nl => fun gb gx ng ngx hgx => ?_⟩
  have sl := same_new (o := .lst (refR rs)) nl
  have sg : Same (upd H3 l (.lst (refR rs))) (upd (upd (upd H3 l (.lst (refR rs))) gx (.own gb)) gb (.ins (He.ga K "Graph") gx [])) := mkS ng ngx But.refl
  refine ⟨gb, gx, l, rs, rfl, upd_same, SqL.of (sg _ _ upd_same), (hrw.same sl).same sg, hok, fun H4 rgb k4 hGb egb => ?_⟩
  have s34 := sl.trans (mkS ng ngx k4)
  clear sg sl
  refine ⟨rfl, ?_⟩
  have s04 := s03.trans s34
  have hp4 := s34 _ _ hp
  have hrw4 := hrw.same s34
  have hokb := rs_of hok egb
  have hlb : rgb.length < 64 := by rw [rg_len egb]; exact hl
  obtain ⟨esb, epb⟩ := sxr_same egb
  -- the parts
  refine ⟨_, rfl, D, rs, rfl, SqL.of hp4, hrw4, hok, hl, fun H5 b ws bs s5 nb hb ews hC hws => ?_⟩
  have s35 := s34.trans s5
  refine ⟨_, rfl, _, rfl, D, b, rs, ws, bs, rfl, SqL.of (s35 _ _ hp), hrw.same s35, hok, hl, SqL.of hb, hws, ews, hC.cov, fun H6 s6 => ?_⟩
  -- worth at the beginning
  obtain ⟨w0, hw0⟩ : ∃ w0, w0 = wor (sxr rs) (pxr rs) bs := ⟨_, rfl⟩
  rw [← hw0]
  refine ⟨_, rfl, gb, rgb, rfl, (hGb.same s5).same s6, hokb, hlb, fun H7 xv bs2 s7 hC2 hW => ?_⟩
  have ebs : bs2 = bs := by
    rw [esb] at hC2
    exact hC2.eq hC
  subst ebs
  rw [esb, epb, ← hw0] at hW
  refine ⟨_, rfl, xv, w0, rfl, hW, true, rfl, iteF ⟨_, rfl, _, rfl, ?_⟩⟩
  have s47 := s5.trans (s6.trans s7)
  have hp7 := s47 _ _ hp4
  have hrw7 := hrw4.same s47
  have hGb7 := hGb.same s47
  have hb7 := (s6.trans s7) _ _ hb
  have hws7 : ∀ z ∈ ws, H7 z.1 = some (ilst z.2) := fun z hz => (s6.trans s7) _ _ (hws z hz)
  have s07 := s04.trans s47
  have hS7 := s07.seq hS
  -- the changes
  refine ⟨(2 : Int), rfl, by decide, by decide, for_range (n := 2) (fun i σ H8 => Same H7 H8 ∧ ∃ (p g b : Addr) (r rg : Rx) (ws : Ws) (bs : List Nat), H8 p = some (.lst (refR r)) ∧ RwOk H8 r ∧ RsOk r ∧ r.length < 64 ∧ GrAt K H8 g rg ∧ rg.map (·.2.2) = r.map (·.2.2) ∧ H8 b = some (.lst (refL ws)) ∧ ws.map (·.2) = bs.map (fun b => nmap (cls (sxr r) b)) ∧ COrd (sxr r) bs ∧ (∀ z ∈ ws, H8 z.1 = some (ilst z.2)) ∧
      ∃ y3 y7 y8 y9 y10 y11 y12 y13 y14 y15, y3 = some (.ref b) ∧ σ = [some (.ref a), some (.ref p), some (.ref gb), y3, some (.int w0), some (.ref g), some (.int (wor (sxr r) (pxr r) bs)), y7, y8, y9, y10, y11, y12, y13, y14, y15])
    ⟨Same.refl _, D, gb, b, rs, rgb, ws, bs2, hp7, hrw7, hok, hl, hGb7, egb, hb7, ews, hC, hws7, _, _, _, _, _, _, _, _, _, _, rfl, by rw [← hw0]; rfl⟩ ?_ ?_⟩
  · clear hw0 hW hp7 hrw7 hok hl hb7 ews hC hws7 hC2
    rintro i σ H8 hi ⟨s8, p, g, b, r, rg, ws, bs, hp, hrw, hok, hl, hG, eg, hb, ews, hC, hws, y3, y7, y8, y9, y10, y11, y12, y13, y14, y15, rfl, rfl⟩
    have erl : (refR r).length = r.length := List.length_map ..
    have hrpos : 0 < r.length := by
      have := hok.g.pos
      rw [sxr_len] at this
      exact this
    have hS8 := s8.seq hS7
    -- node
    refine ⟨_, rfl, _, rfl, _, _, rfl, rfl, .inl ⟨by decide, by decide⟩, _, _, rfl, rfl, a, ns, 1 + 4 * i, congrArg (fun z => [V.ref a, V.int z]) (by omega), hS8, by omega, fun c1 H9 hc1 s9 => .inl ⟨_, rfl, _, rfl, p, _, rfl, .inl (SqL.of (s9 _ _ hp)), _, _, rfl, rfl, by rw [erl]; omega, ?_⟩⟩
    have hm0 := Int.emod_nonneg c1 (show ((refR r).length : Int) ≠ 0 by omega)
    have hm1 := Int.emod_lt_of_pos c1 (show (0 : Int) < ((refR r).length : Int) by omega)
    obtain ⟨n, hn⟩ : ∃ n : Nat, c1 % ((refR r).length : Int) = (n : Int) := ⟨(c1 % ((refR r).length : Int)).toNat, by omega⟩
    have hnl : n < r.length := by omega
    dsimp only
    rw [hn]
    have hq : r[n]? = some r[n] := List.getElem?_eq_getElem hnl
    generalize r[n] = qr at hq
    -- added
    refine ⟨_, rfl, _, rfl, _, _, rfl, rfl, .inl ⟨by decide, by decide⟩, _, _, rfl, rfl, a, ns, 2 + 4 * i, congrArg (fun z => [V.ref a, V.int z]) (by omega), s9.seq hS8, by omega, fun c2 H10 hc2 s10 => .inl ⟨_, rfl, _, _, rfl, rfl, ⟨by decide, by decide, by decide⟩, _, _, rfl, rfl, (by show (0 : Int) < 10 ^ Int.toNat 6; decide), _, _, rfl, rfl, ?_⟩⟩
    dsimp only
    obtain ⟨x, hx⟩ : ∃ x : Int, x = 1 + c2 % 10 ^ Int.toNat 6 := ⟨_, rfl⟩
    have hx1 : 1 ≤ x := by
      have := Int.emod_nonneg c2 (show (10 ^ Int.toNat 6 : Int) ≠ 0 by decide)
      omega
    rw [← hx]
    have s810 := s9.trans s10
    have hp10 := s810 _ _ hp
    have hrw10 := hrw.same s810
    -- dearer
    refine ⟨_, rfl, _, rfl, _, rfl, p, r, n, qr, x, rfl, SqL.of hp10, hrw10, hq, hok.few, fun H11 p2 t s11 np2 hp2 hrw2 => ?_⟩
    obtain ⟨ex2, ep2, hok2⟩ := dear_rs (t := t) hok hq (show 0 ≤ x by omega)
    have hq2 : (r.set n (t, qr.2.1, qr.2.2.1, qr.2.2.2.1 + x, qr.2.2.2.2))[n]? = some (t, qr.2.1, qr.2.2.1, qr.2.2.2.1 + x, qr.2.2.2.2) := by rw [List.getElem?_set, if_pos rfl, if_pos hnl]
    have em2 : (r.set n (t, qr.2.1, qr.2.2.1, qr.2.2.2.1 + x, qr.2.2.2.2)).map (·.2.2) = (r.map (·.2.2)).set n (qr.2.2.1, qr.2.2.2.1 + x, qr.2.2.2.2) := by rw [List.map_set]
    have hl2 : (r.set n (t, qr.2.1, qr.2.2.1, qr.2.2.2.1 + x, qr.2.2.2.2)).length < 64 := by rw [List.length_set]; exact hl
    have hll2 : (r.set n (t, qr.2.1, qr.2.2.1, qr.2.2.2.1 + x, qr.2.2.2.2)).length = r.length := List.length_set ..
    generalize r.set n (t, qr.2.1, qr.2.2.1, qr.2.2.2.1 + x, qr.2.2.2.2) = r2 at hp2 hrw2 ex2 ep2 hok2 hq2 em2 hl2 hll2 ⊢
    have s811 := s810.trans s11
    have hb11 := s811 _ _ hb
    have hws11 : ∀ z ∈ ws, H11 z.1 = some (ilst z.2) := fun z hz => s811 _ _ (hws z hz)
    have ews2 : ws.map (·.2) = bs.map (fun b => nmap (cls (sxr r2) b)) := by rw [ex2]; exact ews
    have hC2 : COrd (sxr r2) bs := by rw [ex2]; exact hC
    -- raised
    refine ⟨_, rfl, _, rfl, p2, b, r2, ws, bs, rfl, SqL.of hp2, hrw2, hok2, hl2, SqL.of hb11, hws11, ews2, hC2.cov, fun H12 s12 => ?_⟩
    have hrise := rise hok hC.cov hnl (show 0 ≤ x by omega)
    have e0 : (pxr r).set n ((pxr r).getD n 0 + x) = pxr r2 := ep2.symm
    rw [e0] at hrise
    have e1 : sxr r = sxr r2 := ex2.symm
    obtain ⟨w1, hw1⟩ : ∃ w1, w1 = wor (sxr r2) (pxr r2) bs := ⟨_, rfl⟩
    obtain ⟨w2, hw2⟩ : ∃ w2, w2 = wor (sxr r) (pxr r) bs := ⟨_, rfl⟩
    rw [← hw2] at hrise ⊢
    rw [← hw1]
    rw [e1, ← hw1] at hrise
    have s812 := s811.trans s12
    have hG12 := hG.same s812
    have hokg := rs_of hok eg
    obtain ⟨qg, hqg, eqg⟩ := rg_get eg hq
    have hp212 := s12 _ _ hp2
    have hrw212 := hrw2.same s12
    have hq2m := List.mem_of_getElem? hq2
    have hx2 : (1 : Int) ≤ qr.2.2.2.1 + x := (hok2.nm _ hq2m).2
    -- with_price
    refine ⟨_, rfl, _, rfl, _, rfl, _, rfl, p2, _, _, _, rfl, rfl, SqL.of hp212, atI_nat (get_refR hq2), t, _, 1, _, rfl, rfl, SqT.of (hrw212 _ hq2m).1, rfl, g, rg, n, qg, qr.2.2.2.1 + x, rfl, hG12, hokg, hqg, hx2, fun H13 g3 rg3 s13 ng3 hG3 eg3 => ?_⟩
    have eg32 : rg3.map (·.2.2) = r2.map (·.2.2) := by rw [eg3, em2, eg, eqg]
    have hok3 := rs_of hok2 eg32
    obtain ⟨es3, ep3⟩ := sxr_same eg32
    have hl3 : rg3.length < 64 := by rw [rg_len eg32]; exact hl2
    -- worth
    refine ⟨_, rfl, g3, rg3, rfl, hG3, hok3, hl3, fun H14 xv3 bs3 s14 hC3 hW3 => ?_⟩
    have ebs3 : bs3 = bs := by
      rw [es3] at hC3
      exact hC3.eq hC2
    subst ebs3
    rw [es3, ep3, ← hw1] at hW3
    refine ⟨_, rfl, xv3, w1, rfl, hW3, true, rfl, iteF ⟨_, rfl, _, rfl, _, rfl, w2, w1, x, rfl, hrise, true, rfl, iteF ?_⟩⟩
    have s1214 := s13.trans s14
    have s814 := s812.trans s1214
    have hp214 := s1214 _ _ hp212
    have hrw214 := hrw212.same s1214
    have hG314 := hG3.same s14
    have hS14 := s814.seq hS8
    have hb14 := s814 _ _ hb
    have hws14 : ∀ z ∈ ws, H14 z.1 = some (ilst z.2) := fun z hz => s814 _ _ (hws z hz)
    clear s9 s10 s11 s12 s13 s14 s810 s811 s812 s1214 hp10 hrw10 hb11 hws11 hG12 hp212 hrw212 hrise hW3
    have erl2 : (refR r2).length = r2.length := List.length_map ..
    -- value, source
    refine ⟨_, rfl, _, rfl, _, rfl, _, rfl, _, _, rfl, rfl, .inl ⟨by decide, by decide⟩, _, _, rfl, rfl, a, ns, 3 + 4 * i, congrArg (fun z => [V.ref a, V.int z]) (by omega), hS14, by omega, fun c3 H15 hc3 s15 => ⟨p2, r2, c3, rfl, SqL.of (s15 _ _ hp214), hrw214.same s15, hc3, hok2.few, fun sr hsr => ?_⟩⟩
    refine ⟨_, rfl, _, _, rfl, rfl, _, rfl, if2 (fun e => ?_) (fun e => ?_)⟩
    · obtain ⟨m, qm, rfl, hqm, hqlt⟩ := hsr.resolve_right (fun h => by omega)
      have hml := (List.getElem?_eq_some_iff.mp hqm).1
      -- cell
      refine ⟨_, rfl, _, rfl, _, _, rfl, rfl, .inl ⟨by decide, by decide⟩, _, _, rfl, rfl, a, ns, 4 + 4 * i, congrArg (fun z => [V.ref a, V.int z]) (by omega), s15.seq hS14, by omega, fun c4 H16 hc4 s16 => ?_⟩
      have s1416 := s15.trans s16
      have hwt : ∀ z ∈ ws, z.2.length ≤ 100 ∧ ∀ t ∈ z.2, 0 ≤ t ∧ t < (r2.length : Int) := fun z hz => by
        obtain ⟨j, hj, ej⟩ := List.mem_iff_getElem.mp hz
        obtain ⟨c, hc, ez⟩ := ws_cls ews2 (by rw [List.getElem?_eq_getElem hj, ej])
        have hcl := ClP.cls (hC2.cov.lt c (List.mem_of_getElem? hc))
        have hcn := clp_len hcl
        rw [ez]
        rw [sxr_len] at hcn
        refine ⟨by unfold nmap; rw [List.length_map]; omega, fun t ht => ?_⟩
        obtain ⟨v, hv, rfl⟩ := nmap_mem.mp ht
        have := hcl.lt v hv
        rw [sxr_len] at this
        omega
      have hwl : ws.length ≤ 64 := by
        have h1 := ws_len ews2
        have h2 := cov_len hC2.cov
        rw [sxr_len] at h2
        omega
      -- targets
      refine ⟨_, rfl, _, rfl, b, ws, m, r2.length, rfl, SqL.of (s1416 _ _ hb14), fun z hz => s1416 _ _ (hws14 z hz), hwt, hwl, fun H17 tp ts s17 ntp htp htne hts => ?_⟩
      have s1417 := s1416.trans s17
      refine ⟨fun σ H18 => Same H14 H18 ∧ ∃ (tp : Addr) (ts : List Int), H18 tp = some (ilst ts) ∧ ts ≠ [] ∧ (∀ t ∈ ts, t = -1 ∨ (0 ≤ t ∧ t < (r2.length : Int))) ∧ ∃ y14 y15, σ = [some (.ref a), some (.ref p2), some (.ref gb), some (.ref b), some (.int w0), some (.ref g3), some (.int w1), some (.int (0 + (i : Int))), some (.int (n : Int)), some (.int x), some (.int w1), some (.int (m : Int)), some (.int c4), some (.ref tp), y14, y15], ?_, ?_⟩
      · refine ⟨_, rfl, .inl ⟨_, rfl, _, _, rfl, rfl, (by show (0 : Int) < 3; decide), rfl, _, rfl, if2 (fun e3 => ?_) (fun e3 => ?_)⟩⟩
        · refine ⟨1, rfl, (by show 1 ≤ sizeLine; decide), fun o no => ?_⟩
          have s18 := s1417.trans (same_new (o := .lst [.int (-1)]) no)
          have ho : upd H17 o (.lst [.int (-1)]) o = some (.lst [.int (-1)]) := upd_same
          generalize upd H17 o (.lst [.int (-1)]) = H18 at s18 ho ⊢
          refine ⟨_, rfl, p2, _, rfl, .inl (SqL.of (s18 _ _ hp214)), _, rfl, RgOk.of_le (by omega) (by omega) (by omega) (by omega), fun o2 no2 => ?_⟩
          have s19 := s18.trans (same_new (o := .lst (rgV 0 ((refR r2).length : Int))) no2)
          have ho19 := same_new (o := .lst (rgV 0 ((refR r2).length : Int))) no2 _ _ ho
          have ho2 : upd H18 o2 (.lst (rgV 0 ((refR r2).length : Int))) o2 = some (ilst (nmap (List.range r2.length))) := by rw [upd_same, erl2, rgV_nat]
          generalize upd H18 o2 (.lst (rgV 0 ((refR r2).length : Int))) = H19 at s19 ho19 ho2 ⊢
          refine ⟨o, o2, _, _, rfl, rfl, ho19, ho2, ?_, fun o3 no3 => ⟨s19.trans (same_new no3), o3, (-1) :: nmap (List.range r2.length), upd_same, by simp, fun t ht => ?_, _, _, rfl⟩⟩
          · rw [nmap_len2, List.length_range]
            exact Nat.le_trans (show 1 + r2.length ≤ 1000 by omega) (by decide)
          · rcases List.mem_cons.mp ht with h | h
            · exact .inl h
            · obtain ⟨v, hv, rfl⟩ := nmap_mem.mp h
              have := List.mem_range.mp hv
              omega
        · exact ⟨s1417, tp, ts, htp, htne, hts, _, _, rfl⟩
      clear htp htne hts ntp s17 s1417
      rintro σ H18 ⟨s18, tp, ts, htp, htne, hts, y14, y15, rfl⟩
      have htl := List.length_pos_iff.mpr htne
      have etl : (ts.map V.int).length = ts.length := List.length_map ..
      have hk0 := Int.emod_nonneg (c4 / 3) (show ((ts.map V.int).length : Int) ≠ 0 by omega)
      have hk1 := Int.emod_lt_of_pos (c4 / 3) (show (0 : Int) < ((ts.map V.int).length : Int) by omega)
      obtain ⟨k, hk⟩ : ∃ k : Nat, c4 / 3 % ((ts.map V.int).length : Int) = (k : Int) := ⟨(c4 / 3 % ((ts.map V.int).length : Int)).toNat, by omega⟩
      have hkl : k < ts.length := by omega
      have htg : ts[k]? = some ts[k] := List.getElem?_eq_getElem hkl
      have htm := hts _ (List.getElem_mem hkl)
      generalize ts[k] = tv at htg htm
      -- target
      refine ⟨_, rfl, _, rfl, _, _, rfl, rfl, ⟨by decide, by decide⟩, .inl ⟨_, rfl, _, rfl, tp, _, rfl, .inl (SqL.of htp), _, _, rfl, rfl, by omega, ?_⟩⟩
      dsimp only
      rw [hk]
      refine ⟨tp, _, _, _, rfl, rfl, SqL.of htp, atI_nat (get_map htg), ?_⟩
      have hp218 := s18 _ _ hp214
      have hrw218 := hrw214.same s18
      -- wider
      refine ⟨_, rfl, _, rfl, _, rfl, p2, r2, m, qm, tv, rfl, SqL.of hp218, hrw218, hqm, hok2.few, by omega, fun H19 p4 t4 u4 s19 np4 hp4' hrw4' => ?_⟩
      obtain ⟨ex4, ep4, hok4⟩ := wide_rs (t := t4) (u := u4) hok2 hqm hqlt htm
      have em4 : (r2.set m (t4, u4, qm.2.2.1, qm.2.2.2.1, qm.2.2.2.2 ++ [tv])).map (·.2.2) = (r2.map (·.2.2)).set m (qm.2.2.1, qm.2.2.2.1, qm.2.2.2.2 ++ [tv]) := by rw [List.map_set]
      have hl4 : (r2.set m (t4, u4, qm.2.2.1, qm.2.2.2.1, qm.2.2.2.2 ++ [tv])).length < 64 := by rw [List.length_set]; exact hl2
      generalize r2.set m (t4, u4, qm.2.2.1, qm.2.2.2.1, qm.2.2.2.2 ++ [tv]) = r4 at hp4' hrw4' ex4 ep4 hok4 em4 hl4 ⊢
      -- parts, value
      refine ⟨_, rfl, p4, r4, rfl, SqL.of hp4', hrw4', hok4, hl4, fun H20 b4 ws4 bs4 s20 nb4 hb4 ews4 hC4 hws4 => ?_⟩
      refine ⟨_, rfl, _, rfl, p4, b4, r4, ws4, bs4, rfl, SqL.of (s20 _ _ hp4'), hrw4'.same s20, hok4, hl4, SqL.of hb4, hws4, ews4, hC4.cov, fun H21 s21 => ?_⟩
      have hnl := not_lower hok2 hok4 hC2.cov hC4.cov (get_sxr hqm) ex4 ep4
      rw [← hw1] at hnl
      obtain ⟨w4, hw4⟩ : ∃ w4, w4 = wor (sxr r4) (pxr r4) bs4 := ⟨_, rfl⟩
      rw [← hw4] at hnl ⊢
      have s1421 := s18.trans (s19.trans (s20.trans s21))
      obtain ⟨qg4, hqg4, eqg4⟩ := rg_get eg32 hqm
      -- with_successor
      refine ⟨_, rfl, _, rfl, _, rfl, g3, rg3, m, qg4, tv, rfl, hG314.same s1421, hok3, hqg4, by rw [eqg4]; exact hqlt, by rw [rg_len eg32]; exact htm, fun H22 g5 rg5 s22 ng5 hG5 eg5 => ?_⟩
      have eg54 : rg5.map (·.2.2) = r4.map (·.2.2) := by rw [eg5, em4, eg32, eqg4]
      have hok5 := rs_of hok4 eg54
      obtain ⟨es5, ep5⟩ := sxr_same eg54
      have hl5 : rg5.length < 64 := by rw [rg_len eg54]; exact hl4
      refine ⟨_, rfl, g5, rg5, rfl, hG5, hok5, hl5, fun H23 xv5 bs5 s23 hC5 hW5 => ?_⟩
      have ebs5 : bs5 = bs4 := by
        rw [es5] at hC5
        exact hC5.eq hC4
      subst ebs5
      rw [es5, ep5, ← hw4] at hW5
      refine ⟨_, rfl, xv5, w4, rfl, hW5, true, rfl, iteF ⟨_, rfl, _, rfl, w1, w4, rfl, hnl, true, rfl, iteF ?_⟩⟩
      have s2123 := s22.trans s23
      have s2023 := s21.trans s2123
      refine ⟨s8.trans (s814.trans (s1421.trans s2123)), p4, g5, b4, r4, rg5, ws4, bs5, s2023 _ _ (s20 _ _ hp4'), (hrw4'.same s20).same s2023, hok4, hl4, hG5.same s23, eg54, s2023 _ _ hb4, ews4, hC4, fun z hz => s2023 _ _ (hws4 z hz), _, _, _, _, _, _, _, _, _, _, rfl, by rw [← hw4]; rfl⟩
    · refine ⟨s8.trans (s814.trans s15), p2, g3, b, r2, rg3, ws, bs3, s15 _ _ hp214, hrw214.same s15, hok2, hl2, hG314.same s15, eg32, s15 _ _ hb14, ews2, hC2, fun z hz => s15 _ _ (hws14 z hz), _, _, _, _, _, _, _, _, _, _, rfl, by rw [← hw1]; rfl⟩
  · rintro σ H8 ⟨s8, p, g, b, r, rg, ws', bs', _, _, _, _, _, _, _, _, _, _, y3, y7, y8, y9, y10, y11, y12, y13, y14, y15, rfl, rfl⟩
    refine ⟨_, rfl, gb, rgb, rfl, hGb7.same s8, hokb, hlb, fun H9 xv9 bs9 s9 hC9 hW9 => ?_⟩
    have ebs9 : bs9 = bs2 := by
      rw [esb] at hC9
      exact hC9.eq hC
    subst ebs9
    rw [esb, epb, ← hw0] at hW9
    exact ⟨_, rfl, xv9, w0, rfl, hW9, q _⟩
end
end K62

open PySem PySem.W PySem.Calls PyProof.Rows
theorem PySem.Challenge.cw_foreworth_k62_whole_changes_of_worth_holds : PySem.Challenge.rw_foreworth_k62_whole_changes_of_worth.Holds := by
  w_on; o_law
  refine HandSHeadRun.head_any (r := K62.R) (q := view K62.R.prog [75]) (H := K62.hk) (ob := K62.ob) (M := 8000) (loose := K62.loose) (d := HandSHeadRun.topDef K62.R.prog 75) (kwd := []) K62.ob_eq
    (by kernel_rfl) (fun s => by kernel_rfl) K62.run (by kernel_rfl) (by kernel_rfl) (by kernel_rfl) (by rfl) (by first | assumption | decide +kernel) (by decide +kernel) ⟨rfl, rfl, rfl, rfl, rfl, by decide +kernel⟩ ?hw ?hc
  case hw => w_witness2
  case hc =>
    refine Fw.walk_bits (l := PySem.Challenge.rw_foreworth_k62_whole_changes_of_worth) (n := 63) (k := 10) (x := "_law_script") rfl (by decide) (by kernel_rfl) ⟨rfl, by decide, by decide⟩ ?F
    intro w mg fa h Y G hmg0
    obtain ⟨K, KX, c⟩ := Y
    have hmg : mg ("law" : PySem.Str) = some (.ref fa) := by
      have e : (HandSHeadRun.topDef K62.R.prog 75).name = ("law" : PySem.Str) := by kernel_rfl
      rw [← e]
      exact hmg0
    have T := K62.txt_of KX G c
    have e := hmg.symm.trans T.g_law
    cases e
    obtain ⟨fd, F⟩ := T.f_law
    have b := L2.FunD.bindsA (ps := ["_law_script"]) F fun _ _ _ _ _ _ us hl => match us, hl with | [_], _ => rfl
    exact ⟨K, fd, K62.sp_law K, KX, fun s v => b s [v] rfl, fun H a ns hl _ hS => ⟨a, ns, rfl, hS, hl, fun _ => rfl⟩, fun base _ _ => K62.ok_law T F⟩
