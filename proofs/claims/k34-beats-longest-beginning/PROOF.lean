import PyProof.Rows.All
import Wide.All
import OpenK.AllK
import Wide.FinOn
import HandS.ForMost
import HandS.Strs
import HandS.SetFor
import HandS.Defaults
import HandS.Exc
import HandS.IsInst
import HandS.Conv
import HandS.Wide
import HandS.SortRule
import HandS.SortInts
import HandS.Evl
import HandS.Walk
import HandS.Codes
import HandS.Head0
import HandS.Head1
import HandS.Head2
import HandS.HeadEnd
import HandS.HeadHook1
import HandS.HeadHook2
import HandS.EndBits
import HandS.HeadNt
import HandS.Property
import PySem.Challenge.RW_foreworth_k34_whole_beats_longest_beginn
import HandS.SortKw
import KE.SortKeyHeap
import KE.DataMinMax
import KE.KDictDisplayH
import KE.KTupSum
import KE.SortData
import HandS.TupAny
import HandS.Text
import HandS.Deep
import HandS.TupLe
import HandS.SortOrd
set_option Elab.async false
set_option linter.all false
set_option maxRecDepth 100000
set_option maxHeartbeats 4000000
/-! set(xs) of a list of whole numbers, over the layer. -/
namespace Fw
open PySem PySem.Spec PyProof.Rows L2
section
variable {P : Program} {w : World} {A : Around} {E : Value → Shared → Prop} {s : Shared}
/-- the empty set as it is made -/
abbrev eSet (w : World) : Obj := { cls := .type "set", dict := none, data := .set #[] 0 (.fresh 0 0 (!w.params.followText "set-order")) }
theorem set_ints {l : Addr} {its : Array Value} (ns : List Int) {Q : Value → Shared → Prop} (hh : A.handled = none) (hl : s.heap.IsList l its) (hi : IntsAre its.toList ns) (hb : ns.length + 1 < scanBound)
    (h : ∀ (h2 : Heap) (tk c : Nat), SetR w h2 s.heap.objs.size (fun j => decide (j ∈ ns)) c → c ≤ ns.length → (∀ b o, s.heap.get? b = some o → h2.get? b = some o) → Q (.ref s.heap.objs.size) { s with heap := h2, toks := tk }) :
    wpAny (model P w) A (call (.type "set") [.ref l]) Q E s := by
  have hsz : its.size = ns.length := by
    have q := IntsAre.length hi
    rwa [Array.length_toList] at q
  obtain ⟨c, tl, hmro⟩ := F.called_set.mro
  have hmade := F.called_set.made
  have hsub := F.called_set.sub
  refine wpAny_call (codeAny_of_tree ?_)
  show wpAny _ _ (callAny (.type "set") _) _ _ _
  refine wpAny_pure ⟨Code.quiet_builtin _ (by decide +kernel), codeAny_builtin F.entry_type_call ?_⟩
  rw [Around.under_plain (weight_type_call_type "set" [.ref l] []) rfl]
  have h1 := F.called_set.notType
  have h2 := F.called_set.canCreate
  have hct := F.typeCall_set_1 (.ref l)
  repeat (any_goals (first | assumption | wp_step))
  refine codeAny_mono (code_set_led1 (.ref l) (E := E) (Q₁ := fun v t => v = .ref s.heap.objs.size ∧ t = { s with heap := s.heap.push (eSet w) }) ⟨rfl, rfl⟩) fun r t hr => ?_
  cases r with
  | error e => exact hr
  | ok fl =>
    cases fl with
    | ret v =>
      obtain ⟨rfl, rfl⟩ := hr
      have hS : (s.heap.push (eSet w)).get? s.heap.objs.size = some (eSet w) := Heap.get?_push_size _ rfl
      have hT : Shared.TypeIs { s with heap := s.heap.push (eSet w) } (.ref s.heap.objs.size) "set" := ⟨_, hS, rfl⟩
      have hli := F.called_set.init.lookup
      have hbi := F.called_set.init.bind (.ref s.heap.objs.size)
      repeat (any_goals (first | assumption | wp_step))
      refine codeAny_mono (codeAny_call_builtin (R := wants (fun r t => r = .none ∧ ∃ h2 tk c, t = { s with heap := h2, toks := tk } ∧ SetR w h2 s.heap.objs.size (fun j => decide (j ∈ ns)) c ∧ c ≤ ns.length ∧
          (∀ b o, s.heap.get? b = some o → h2.get? b = some o)) E) F.called_set.init.plain F.entry_set_init (check_set_init_1 hT ?_)) fun r t hr => ?_
      · obtain ⟨⟨oc, od, dt, sl⟩, e1, e2, n, e3⟩ := hl
        simp only at e2 e3
        subst e2; subst e3
        have f1 : (s.heap.push (eSet w)).get? l = some { cls := .type "list", dict := od, data := .seq its n, slots := sl } := Heap.get?_push_of_some _ e1
        have g1 := F.sub_list_set
        have g2 := F.sub_list_frozenset
        have g3 : (Value.type "list" == Value.type "dict") = false := by decide
        have lst : (s.heap.push (eSet w)).IsList l its := ⟨_, f1, rfl, n, rfl⟩
        unfold Builtin.«set.__init__» noKeywords Builtin.Frozenset.updateFrom
        generalize hPI : pyIter = PI
        wp_walk
        subst hPI
        refine wpAny_pyIter_list lst ?_
        refine wpAny_bind (wpAny_runValue ?_)
        have lt : l < s.heap.objs.size := Heap.lt_size e1
        have hh3 : A.in1.in1.in1.handled = none := by simp [hh]
        have sz1 : (s.heap.push (eSet w)).objs.size = s.heap.objs.size + 1 := Heap.size_push ..
        have ne1 : l ≠ (s.heap.push (eSet w)).objs.size := by
          rw [sz1]
          exact Nat.ne_of_lt (Nat.lt_succ_of_lt lt)
        have nin : s.heap.objs.size ∉ [(s.heap.push (eSet w)).objs.size, l] := by
          simp only [List.mem_cons, List.not_mem_nil, or_false, not_or]
          refine ⟨?_, Nat.ne_of_gt lt⟩
          rw [sz1]
          exact Nat.ne_of_lt (Nat.lt_succ_self _)
        have hval : ∀ (i : Nat) (v : Value), its[i]? = some v → ∃ k t, ns[i]? = some k ∧ v = .int k t := fun i v hv => by
          have lti : i < ns.length := by rw [← hsz]; exact (Array.getElem?_eq_some_iff.mp hv).1
          obtain ⟨t, e⟩ := PyProof.Rows.IntsAre.int_at hi i v (by rw [Array.getElem?_toList]; exact hv)
          refine ⟨ns[i], t, List.getElem?_eq_getElem lti, ?_⟩
          rw [e, List.getD_eq_getElem?_getD, List.getElem?_eq_getElem lti] <;> rfl
        refine set_update_ints ((Walks.list hh3 _ l ne1 its).toS) s.heap.objs.size nin ns hsz hb hval (its.size - 0) 0 _ (by omega) (Nat.zero_le _)
          ⟨⟨_, Heap.get?_push_size _ rfl, rfl, rfl⟩, (lst.push _)⟩ ?s0 ?sR
        case s0 => exact ⟨0, Nat.le_refl 0, setR_new_at (Heap.get?_push_of_some _ hS)⟩
        case sR =>
          intro t c2 mv le R2
          obtain ⟨h2, gs, dr, tk, os⟩ := t
          obtain rfl : gs = s.gens := mv.gens
          obtain rfl : dr = s.drawn := mv.drawn
          obtain rfl : os = s.os := mv.os
          show wpAny _ _ _ _ _ _
          refine wpAny_pure ?_
          show wpAny _ _ (ret Value.none) _ _ _
          refine wpAny_pure ⟨rfl, h2, tk, c2, rfl, R2, by rw [← hsz]; exact le, fun b o e => ?_⟩
          have b0 : b < s.heap.objs.size := Heap.lt_size e
          refine mv.heap b o ?_ (Heap.get?_push_of_some _ (Heap.get?_push_of_some _ e))
          simp only [List.mem_cons, List.not_mem_nil, or_false, not_or]
          refine ⟨Nat.ne_of_lt b0, ?_⟩
          rw [sz1]
          exact Nat.ne_of_lt (Nat.lt_succ_of_lt b0)
      · cases r with
        | error e => exact hr
        | ok f2 =>
          cases f2 with
          | ret r =>
            obtain ⟨rfl, h2, tk, c2, rfl, a, b, d⟩ := hr
            repeat (any_goals (first | assumption | wp_step))
            exact h _ _ _ a b d
          | _ => exact hr.elim
    | _ => exact hr.elim
end
/-- set(xs), xs a list of fewer than 4000 whole numbers -/
def rSetL (K : PySem.W.Frag) (w : World) : List V → Hp → VK → Prop := fun xs H Q => ∃ (l : Addr) (ns : List Int), xs = [V.ref l] ∧ SqL K H l (ns.map V.int) ∧ ns.length + 1 < scanBound ∧
  ∀ (a : Addr) (c : Nat), H a = none → c ≤ ns.length → Q (.ref a) (upd H a (SetO w a (fun j => decide (j ∈ ns)) c))
theorem cr_setL {X : Cx} (hc : X.calm = true) : CallR X (.type "set") (rSetL X.K X.w) := by
  intro pins s σ H xs us Q I r h
  obtain ⟨l, ns, rfl, hS, hb, q⟩ := h
  rw [Vals.ref1 r]
  obtain ⟨its, rv, pl, hz⟩ := I.list hS
  refine set_ints (P := X.prog) (w := X.w) ns (I.ok.hd hc) pl.isList (by simpa using ints_of_vals rv) hb fun h2 tk c R le k => ?_
  exact ⟨.ref s.heap.objs.size, upd H s.heap.objs.size (SetO X.w s.heap.objs.size (fun j => decide (j ∈ ns)) c), I.laid (t' := tk) k (Nat.le_refl _) (setO_new R), rfl, q _ c (I.hok.fresh (Nat.le_refl _)) le⟩
end Fw

/-! Short words over the layer: a def's promise together with its binding. -/
namespace Fw
open PySem PySem.Spec PyProof.Rows L2
/-- the def at f keeps sp; dvs: its defaults' values -/
structure Good (P : Program) (w : World) (K : PySem.W.Frag) (mg : Str → Option Value) (base : Heap) (k : Nat) (f : Addr) (ps : List Str) (dvs : List V) (sp : Sp) : Prop where
  ex : ∃ fd ds, FnOk P w K mg base CX0 k f fd ps sp ∧ Binds K fd ps ds ∧ Vals dvs ds
  kp : PySem.W.keepIn K (.ref f) = true
section
variable {P : Program} {w : World} {K : PySem.W.Frag} {mg : Str → Option Value} {base : Heap} {k : Nat} {f : Addr} {N ps : List Str} {sp : Sp} {x q : Str} {pa : Arguments} {bd : List Stmt} {sc : Scope}
theorem good_of (hF : ∃ fd, FunD K x q pa bd sc [] [] f fd) (S : FnScope N ps sc) (len : ∀ vs H Q E, sp vs H Q E → vs.length = ps.length)
    (hb : ∀ (kV doc pm : Value) (an : Option Addr) (cdv ct : Value) (us : List Value), us.length = ps.length → bindArgs (PySem.W.fnOf x q pa bd sc .none kV doc pm an cdv ct) ⟨us, []⟩ = pure (ps.zip us))
    (hbody : ∀ (cdv : Value) (A : Around) (outer : List Env) (s : Shared) (H : Hp) (vs : List V) (Q : VK) (E : XK), Room k (A.deeper (envOfC q sc s.heap.objs.size f cdv)) → sp vs H Q E →
      ∃ t, PSs (cxOf CX0 P w K mg base N q sc f cdv A outer s H E).nox bd t ∧ t { nx := fun _ H2 => Q .non H2, rt := Q } (start N vs) H) : Good P w K mg base (k + 1) f ps [] sp := by
  obtain ⟨fd, F⟩ := hF
  refine ⟨⟨fd, [], F.ok S len fun cdv A outer s H vs Q E hr h => ?_, F.bindsN hb, .nil⟩, F.kp⟩
  obtain ⟨t, h1, h2⟩ := hbody cdv A outer s H vs Q E hr h
  exact ⟨t, h1.nox, h2⟩
/-- the same with keyword-only defaults -/
theorem good_kw {kws : List (Str × V)} {n : Nat} (hF : ∃ fd, FunD K x q pa bd sc [] kws f fd) (S : FnScope N ps sc) (len : ∀ vs H Q E, sp vs H Q E → vs.length = ps.length) (hk : kws ≠ []) (hn : n + kws.length = ps.length)
    (hb : ∀ (D : Addr) (doc pm : Value) (an : Option Addr) (cdv ct : Value) (us ks : List Value), us.length = n → ks.length = kws.length →
      KwChain D ((kws.map (·.1)).zip ks) (bindArgs (PySem.W.fnOf x q pa bd sc .none (.ref D) doc pm an cdv ct) ⟨us, []⟩) (ps.zip (us ++ ks)))
    (hbody : ∀ (cdv : Value) (A : Around) (outer : List Env) (s : Shared) (H : Hp) (vs : List V) (Q : VK) (E : XK), Room k (A.deeper (envOfC q sc s.heap.objs.size f cdv)) → sp vs H Q E →
      ∃ t, PSs (cxOf CX0 P w K mg base N q sc f cdv A outer s H E).nox bd t ∧ t { nx := fun _ H2 => Q .non H2, rt := Q } (start N vs) H) : Good P w K mg base (k + 1) f ps (kws.map (·.2)) sp := by
  obtain ⟨fd, F⟩ := hF
  obtain ⟨ds, hd, hB⟩ := F.binds0 n hk hn hb
  refine ⟨⟨fd, ds, F.ok S len fun cdv A outer s H vs Q E hr h => ?_, hB, hd⟩, F.kp⟩
  obtain ⟨t, h1, h2⟩ := hbody cdv A outer s H vs Q E hr h
  exact ⟨t, h1.nox, h2⟩
end
section
variable {X : Cx} {k : Nat} {f C : Addr} {ps : List Str} {dvs : List V} {sp : Sp} {x m : Str} {p pos apos : Pos} {e o : Expr} {es : List Expr} {t : TA} {ta : TE}
theorem pe_cg (G : Good X.prog X.w X.K X.mg X.base k f ps dvs sp) (hr : Room k X.A) (hg : Gl X x) (hm : X.mg x = some (.ref f)) (ha : PA X (e :: es) t) (hdb : (x == ("__debug__" : Str)) = false := by decide)
    (he : starEach (e :: es) X.env = (false, eval e X.env) :: starEach es X.env := by rfl) (hpl : (backTo pos (starEach es X.env)).any (·.1) = false := by rfl) : PE X (.Call (.Name x p) (e :: es) [] pos) (tCall sp dvs E0 t) := by
  obtain ⟨fd, ds, F, b, d⟩ := G.ex
  exact pe_call F hr hg hm G.kp b d pass0 ha hdb he hpl
theorem pe_mkg (M : Mk X.K C f) (G : Good X.prog X.w X.K X.mg X.base k f ps dvs sp) (hr : Room (k + 1) X.A) (hg : Gl X x) (hm : X.mg x = some (.ref C)) (ha : PA X (e :: es) t) (hdb : (x == ("__debug__" : Str)) = false := by decide)
    (he : starEach (e :: es) X.env = (false, eval e X.env) :: starEach es X.env := by rfl) (hpl : (backTo pos (starEach es X.env)).any (·.1) = false := by rfl) : PE X (.Call (.Name x p) (e :: es) [] pos) (tMake C sp dvs E0 t) := by
  obtain ⟨fd, ds, F, b, d⟩ := G.ex
  exact pe_make M F hr hg hm b d pass0 ha hdb he hpl
theorem pe_mtg0 {pl : Sem Bool} (ho : PE X o ta) (c : Cls X.K C) (hm : Meth X.K C m f) (G : Good X.prog X.w X.K X.mg X.base k f ps dvs sp) (hr : Room k X.A)
    (ht : eval (.Call (.Attribute o m apos) [] [] pos) X.env = (do
      let ov ← eval o X.env
      standAt apos.atName
      let (g, first) ← holding [ov] (getMethod ov m pl)
      callWith pos g first (backTo pos (starEach [] X.env)) (backToKw pos (keywordEach [] X.env))) := by rfl) : PE X (.Call (.Attribute o m apos) [] [] pos) (tMeth C m sp dvs E0 ta tNil) := by
  obtain ⟨fd, ds, F, b, d⟩ := G.ex
  exact pe_meth0 ho c hm F hr b d pass0 ht
theorem pe_mtg {pl : Sem Bool} (ho : PE X o ta) (c : Cls X.K C) (hm : Meth X.K C m f) (G : Good X.prog X.w X.K X.mg X.base k f ps dvs sp) (hr : Room k X.A) (ha : PA X (e :: es) t)
    (hst : starEach (e :: es) X.env = (false, eval e X.env) :: starEach es X.env := by rfl) (hpl : (backTo pos (starEach es X.env)).any (·.1) = false := by rfl)
    (ht : eval (.Call (.Attribute o m apos) (e :: es) [] pos) X.env = (do
      let ov ← eval o X.env
      standAt apos.atName
      let (g, first) ← holding [ov] (getMethod ov m pl)
      callWith pos g first (backTo pos (starEach (e :: es) X.env)) (backToKw pos (keywordEach [] X.env))) := by rfl) : PE X (.Call (.Attribute o m apos) (e :: es) [] pos) (tMeth C m sp dvs E0 ta t) := by
  obtain ⟨fd, ds, F, b, d⟩ := G.ex
  exact pe_meth ho c hm F hr b d pass0 ha hst hpl ht
end
/-! ### rules with the written part named (within comprehensions) -/
section
variable {X : Cx} {K : PySem.W.Frag}
theorem ix_listE (h : X.K = K) : IxR X (rIxL K) := by subst h; exact ix_list
theorem ix_tupE (h : X.K = K) : IxR X (rIxT K) := by subst h; exact ix_tup
abbrev rLenQ (K : PySem.W.Frag) : List V → Hp → VK → Prop := fun xs H Q => ∃ p ys, xs = [.ref p] ∧ (SqL K H p ys ∨ SqT K H p ys) ∧ Q (.int ys.length) H
theorem call_lenE (h : X.K = K) : CallR X (.builtin "len") (rLenQ K) := by subst h; exact call_len_seq
theorem pe_fldE {e : Expr} {ta : TE} {f : Str} {pos : Pos} (h : X.K = K) (he : PE X e ta) (hb : attributeBase e f X.env (eval e X.env) = eval e X.env) : PE X (.Attribute e f pos) (tFld K ta f) := by
  subst h
  exact pe_fld he hb
theorem pi_listE {tg l : Expr} {tl : TE} (h : X.K = K) (hl : PI X tg l (iList X.K tl)) : PI X tg l (iList K tl) := by
  subst h
  exact hl
end
/-! ### tests whose outcome is known -/
theorem ifF {c A B : Prop} [Decidable c] (h : ¬ c) (b : B) : if decide c = true then A else B := by
  rw [decide_eq_false h]
  exact iteF b
theorem ifT {c A B : Prop} [Decidable c] (h : c) (a : A) : if decide c = true then A else B := by
  rw [decide_eq_true h]
  exact iteT a
theorem ifNF {c A B : Prop} [Decidable c] (h : c) (b : B) : if (!decide c) = true then A else B := by
  rw [decide_eq_true h]
  exact iteF b
theorem ifNT {c A B : Prop} [Decidable c] (h : ¬ c) (a : A) : if (!decide c) = true then A else B := by
  rw [decide_eq_false h]
  exact iteT a
theorem if2 {c A B : Prop} [Decidable c] (h1 : c → A) (h2 : ¬ c → B) : if decide c = true then A else B := by
  by_cases h : c
  · exact ifT h (h1 h)
  · exact ifF h (h2 h)
theorem tnil_go {σ : L2.St} {H : Hp} {R : List V → Hp → Prop} (h : R [] H) : tNil σ H R := h
theorem int_ne {i j : Int} (h : i ≠ j) : ¬ V.int i = V.int j := fun e => h (V.int.inj e)
theorem map_get {ns : List Int} {i : Nat} {x : V} (h : (ns.map V.int)[i]? = some x) : ∃ n, ns[i]? = some n ∧ x = .int n := by
  rw [List.getElem?_map] at h
  cases e : ns[i]? with
  | none =>
    rw [e] at h
    cases h
  | some n =>
    rw [e] at h
    exact ⟨n, rfl, (Option.some.inj h).symm⟩
theorem get_map {ns : List Int} {i : Nat} {n : Int} (h : ns[i]? = some n) : (ns.map V.int)[i]? = some (.int n) := by
  rw [List.getElem?_map, h]
  rfl
/-! ### heaps -/
theorem same_new {H : Hp} {p : Addr} {o : HO} (h : H p = none) : Same H (upd H p o) := fun b u e => by
  rw [upd_ne (ne_of_none e h)]
  exact e
theorem same_mut {H H2 : Hp} {p : Addr} {o : HO} (s : Same H H2) (h : H p = none) : Same H (upd H2 p o) := fun b u e => by
  rw [upd_ne (ne_of_none e h)]
  exact s b u e
theorem same_t {K : PySem.W.Frag} {H H2 : Hp} {a : Addr} {xs : List V} (s : Same H H2) (h : SqT K H a xs) : SqT K H2 a xs := by
  rcases h with (h | ⟨o, h⟩) | h
  · exact .inl (.inl (s _ _ h))
  · exact .inl (.inr ⟨o, s _ _ h⟩)
  · exact .inr h
/-! ### the end: a law over a head by facts, the script's bits told -/
theorem walk_bits {l : PySem.W.OpenLaw} {n k : Nat} {q : Program} {loose : List Str} {XP : (Str → Option Value) → Heap → Prop} {YP : World → Heap → Prop} {d : DefRec} {x : Str}
    (hn : l.most = some n) (hn2 : n ≤ sizeLine) (hdf : d.params.defaults = []) (hr : Room k callerA)
    (F : ∀ (w : World) (mg : Str → Option Value) (fa : Addr) (h : Heap), YP w h → h.Ns mainGlobals mg → mg d.name = some (.ref fa) →
      ∃ (K : PySem.W.Frag) (fd : FuncData) (sp : Sp), K.In h ∧ (∀ (s : Shared) (u : Value), BindsTo s fd ⟨[u], []⟩ [(x, u)]) ∧
        (∀ (H : Hp) (a : Addr) (ns : List Int), ns.length ≤ n → (∀ z ∈ ns, Builtin.Int.intBits z ≤ 1048576) → SqL K H a (ns.map V.int) → sp [.ref a] H (fun v _ => v = .bl true) fun _ _ _ => False) ∧
        ∀ base : Heap, K.In base → base.Ns mainGlobals mg → FnOk l.prog w K mg base CX0 k fa fd [x] sp) :
    PySem.W.WalkO q loose XP YP l.row.toRowW d [] (fun f vs => PySem.call f vs) := by
  refine Att.attach_callB hn hdf fun w s0 s1 mg mb fa o pm cd doc a vs ns G Y ho hd hcd hmg hobj hints hlen hbits hg => ?_
  obtain ⟨K, fd, sp, KX, hb, hsp, hF⟩ := F w mg fa _ Y G.T.g hmg
  exact law_call KX G.T.g G.T.b G.T.builtins G.T.nolimit hg hobj hints (Nat.le_trans hlen hn2) hr hF hb (fun H _ hS => hsp H a ns hlen hbits hS) fun _ _ _ z => z
end Fw

/-! A head with properties; a property read; a method called with a keyword. -/
namespace Fw
open PySem PySem.Spec PyProof.Rows L2
/-- the getter of the property f of the class C -/
def propAt (K : PySem.W.Frag) (C f : Str) : Addr := match PySem.W.findIn K (.ref (He.ga K C)) f with
  | some (some (.ref p)) => (match PySem.W.recIn K p "property" with
    | some (.ref g :: _) => g
    | _ => 0)
  | _ => 0
def propB (K : PySem.W.Frag) (q : Str × Str) : Bool := match PySem.W.findIn K (.ref (He.ga K q.1)) q.2 with
  | some (some (.ref p)) => decide (PySem.W.specialIn K (.ref p) "__get__" = some (some (.builtin "property.__get__"))) && (decide (PySem.W.takesIn K (.ref p) = some true) && (match PySem.W.recIn K p "property" with
    | some (.ref _ :: _) => true
    | _ => false))
  | _ => false
theorem propB_ok {K : PySem.W.Frag} {C f : Str} (h : propB K (C, f) = true) : ∃ p, PropOf K (He.ga K C) f p (propAt K C f) := by
  unfold propB at h
  cases q : PySem.W.findIn K (.ref (He.ga K C)) f with
  | none =>
    rw [q] at h
    cases h
  | some o =>
    cases o with
    | none =>
      rw [q] at h
      cases h
    | some v =>
      cases v with
      | ref p =>
        rw [q] at h
        obtain ⟨h1, h2⟩ := He.ba (show (decide (PySem.W.specialIn K (.ref p) "__get__" = some (some (.builtin "property.__get__"))) && (decide (PySem.W.takesIn K (.ref p) = some true) && (match PySem.W.recIn K p "property" with
          | some (.ref _ :: _) => true
          | _ => false))) = true from h)
        obtain ⟨h3, h4⟩ := He.ba h2
        refine ⟨p, q, of_decide_eq_true h1, of_decide_eq_true h3, ?_⟩
        unfold propAt
        rw [q]
        cases r : PySem.W.recIn K p "property" with
        | none =>
          rw [r] at h4
          cases h4
        | some l =>
          rw [r] at h4
          cases l with
          | nil => cases h4
          | cons v l =>
            cases v with
            | ref g => exact ⟨l, by simp [r]⟩
            | _ => cases h4
      | _ =>
        rw [q] at h
        cases h
def obsP (fa : List He.Fa) (fn : List He5.DefA) (pr : List (Str × Str)) (K : PySem.W.Frag) : He.AlD := (((fa.all fun f => f.ok K) && fn.all fun d => d.ok K) && pr.all fun q => propB K q, fn.map fun d => He5.fnA K (d.at_ K))
def SaysP (fa : List He.Fa) (fn : List He5.DefA) (pr : List (Str × Str)) (K : PySem.W.Frag) : Prop := obsP fa fn pr K = He5.valA fn
def obsPG (n : Nat) (fa : List He.Fa) (fn : List He5.DefA) (pr : List (Str × Str)) (g : Addr → Option Obj) : He.AlD := obsP fa fn pr (He.frG g (He.asD g n))
def hookP (n : Nat) (fa : List He.Fa) (fn : List He5.DefA) (pr : List (Str × Str)) : PySem.W.Hook where
  α := He.AlD
  obs := fun s => obsPG n fa fn pr s.heap.get?
  val := fun _ => He5.valA fn
  says := fun _ h => ∃ K : PySem.W.Frag, K.In h ∧ SaysP fa fn pr K
  of := fun _ _ e => ⟨_, He.frG_in, e⟩
  keeps := fun _ _ _ ⟨K, hK, c⟩ k => ⟨K, PySem.W.Frag.In.keeps hK k, c⟩
theorem obsPG_eq {n : Nat} {fa : List He.Fa} {fn : List He5.DefA} {pr : List (Str × Str)} {g : Addr → Option Obj} {s : Shared} (h : ∀ a, g a = s.heap.get? a) : obsPG n fa fn pr g = (hookP n fa fn pr).obs s := by
  have e : g = s.heap.get? := funext h
  rw [e] <;> rfl
section
variable {fa : List He.Fa} {fn : List He5.DefA} {pr : List (Str × Str)} {K : PySem.W.Frag}
theorem SaysP.fact (c : SaysP fa fn pr K) (i : Nat) {f : He.Fa} (h : fa[i]? = some f := by rfl) : f.ok K = true := by
  have c1 := (He.ba (He.ba (show (((fa.all fun f => f.ok K) && fn.all fun d => d.ok K) && pr.all fun q => propB K q) = true from congrArg (fun z : He.AlD => z.1) c)).1).1
  exact List.all_eq_true.mp c1 f (List.mem_of_getElem? h)
theorem SaysP.prop (c : SaysP fa fn pr K) (i : Nat) {C f : Str} (h : pr[i]? = some (C, f) := by rfl) : ∃ p, PropOf K (He.ga K C) f p (propAt K C f) := by
  have c1 := (He.ba (show (((fa.all fun f => f.ok K) && fn.all fun d => d.ok K) && pr.all fun q => propB K q) = true from congrArg (fun z : He.AlD => z.1) c)).2
  exact propB_ok (List.all_eq_true.mp c1 (C, f) (List.mem_of_getElem? h))
theorem SaysP.def_ (c : SaysP fa fn pr K) (i : Nat) {d : He5.DefA} (h : fn[i]? = some d := by rfl) : ∃ fd, L2.FunD K d.name d.qual d.params d.body d.scope (d.dvs K) (d.kws K) (d.at_ K) fd := by
  have c2 := (He.ba (He.ba (show (((fa.all fun f => f.ok K) && fn.all fun d => d.ok K) && pr.all fun q => propB K q) = true from congrArg (fun z : He.AlD => z.1) c)).1).2
  have e : fn.map (fun d => He5.fnA K (d.at_ K)) = fn.map He5.DefA.val := congrArg (fun z : He.AlD => z.2) c
  have e2 : (fn.map fun d => He5.fnA K (d.at_ K))[i]? = (fn.map He5.DefA.val)[i]? := by rw [e]
  rw [List.getElem?_map, List.getElem?_map, h] at e2
  exact He5.DefA.funD (Option.some.inj e2) (List.all_eq_true.mp c2 d (List.mem_of_getElem? h))
end
/-! ### rules -/
/-- a def that is called with its keyword-only parameters written, too -/
structure GoodK (P : Program) (w : World) (K : PySem.W.Frag) (mg : Str → Option Value) (base : Heap) (k : Nat) (f : Addr) (ps : List Str) (dvs : List V) (n : Nat) (ks : List Str) (sp : Sp) : Prop where
  ex : ∃ fd ds, FnOk P w K mg base CX0 k f fd ps sp ∧ Binds K fd ps ds ∧ Vals dvs ds ∧ KBn K fd ps n ks (fun us ws => us ++ ws) (fun vs zs => vs ++ zs)
  kp : PySem.W.keepIn K (.ref f) = true
theorem GoodK.good {P : Program} {w : World} {K : PySem.W.Frag} {mg : Str → Option Value} {base : Heap} {k : Nat} {f : Addr} {ps : List Str} {dvs : List V} {n : Nat} {ks : List Str} {sp : Sp} (G : GoodK P w K mg base k f ps dvs n ks sp) : Good P w K mg base k f ps dvs sp := by
  obtain ⟨⟨fd, ds, a, b, c, _⟩, kp⟩ := G
  exact ⟨⟨fd, ds, a, b, c⟩, kp⟩
section
variable {P : Program} {w : World} {K : PySem.W.Frag} {mg : Str → Option Value} {base : Heap} {k : Nat} {f : Addr} {N ps : List Str} {sp : Sp} {x q : Str} {pa : Arguments} {bd : List Stmt} {sc : Scope}
theorem good_kwK {kws : List (Str × V)} {n : Nat} (hF : ∃ fd, FunD K x q pa bd sc [] kws f fd) (S : FnScope N ps sc) (len : ∀ vs H Q E, sp vs H Q E → vs.length = ps.length) (hk : kws ≠ []) (hn : n + kws.length = ps.length)
    (hb : ∀ (D : Addr) (doc pm : Value) (an : Option Addr) (cdv ct : Value) (us ks : List Value), us.length = n → ks.length = kws.length →
      KwChain D ((kws.map (·.1)).zip ks) (bindArgs (PySem.W.fnOf x q pa bd sc .none (.ref D) doc pm an cdv ct) ⟨us, []⟩) (ps.zip (us ++ ks)))
    (hb2 : ∀ (kV doc pm : Value) (an : Option Addr) (cdv ct : Value) (us ws : List Value), us.length = n → ws.length = (kws.map (·.1)).length →
      ∀ s : Shared, BindsTo s (PySem.W.fnOf x q pa bd sc .none kV doc pm an cdv ct) ⟨us, (kws.map (·.1)).zip ws⟩ (ps.zip (us ++ ws)))
    (hbody : ∀ (cdv : Value) (A : Around) (outer : List Env) (s : Shared) (H : Hp) (vs : List V) (Q : VK) (E : XK), Room k (A.deeper (envOfC q sc s.heap.objs.size f cdv)) → sp vs H Q E →
      ∃ t, PSs (cxOf CX0 P w K mg base N q sc f cdv A outer s H E).nox bd t ∧ t { nx := fun _ H2 => Q .non H2, rt := Q } (start N vs) H) : GoodK P w K mg base (k + 1) f ps (kws.map (·.2)) n (kws.map (·.1)) sp := by
  obtain ⟨fd, F⟩ := hF
  obtain ⟨ds, hd, hB⟩ := F.binds0 n hk hn hb
  refine ⟨⟨fd, ds, F.ok S len fun cdv A outer s H vs Q E hr h => ?_, hB, hd, ?_⟩, F.kp⟩
  · obtain ⟨t, h1, h2⟩ := hbody cdv A outer s H vs Q E hr h
    exact ⟨t, h1.nox, h2⟩
  · obtain ⟨oc, od, dV, kV, doc, pm, an, cdv, ct, osl, rfl, lk, hcd, hD, hK⟩ := F.ex
    rcases hD with ⟨_, rfl⟩ | ⟨e, _⟩
    · exact ⟨fun s us ws _ l1 l2 => hb2 kV doc pm an cdv ct us ws l1 l2 s, fun r1 r2 => r1.append r2⟩
    · exact absurd rfl e
end
section
variable {X : Cx} {k n : Nat} {f C p : Addr} {ps ks : List Str} {dvs : List V} {sp : Sp} {m : Str} {pos apos : Pos} {e o : Expr} {es : List Expr} {kws : List Keyword} {t tk : TA} {ta : TE}
/-- o.f, a property -/
theorem pe_propG (he : PE X o ta) (c : Cls X.K C) (hp : ∃ p, PropOf X.K C m p f) (G : Good X.prog X.w X.K X.mg X.base k f ps dvs sp) (hr : Room (k + 1) X.A)
    (hab : attributeBase o m X.env (eval o X.env) = eval o X.env) : PE X (.Attribute o m pos) (tProp C sp dvs E0 ta) := by
  obtain ⟨fd, ds, F, b, d⟩ := G.ex
  obtain ⟨p, hp⟩ := hp
  exact pe_prop he c hp F hr b d pass0 hab
/-- o.m(e, .., k = v): its reading -/
def tMethK (C : Addr) (m : Str) (n l : Nat) (sp : Sp) (E : XK) (ta : TE) (t tk : TA) : TE := fun σ H Q => ta σ H fun x H1 => ∃ a dx fs, x = .ref a ∧ H1 a = some (.ins C dx fs) ∧ fs.lookup m = none ∧ t σ H1 fun vs H2 => tk σ H2 fun zs H3 => vs.length + 1 = n ∧ zs.length = l ∧ sp (.ref a :: vs ++ zs) H3 Q E
theorem pe_mtgK {pl : Sem Bool} (ho : PE X o ta) (c : Cls X.K C) (hm : Meth X.K C m f) (G : GoodK X.prog X.w X.K X.mg X.base k f ps dvs n ks sp) (hr : Room k X.A) (ha : PA X (e :: es) t) (hkw : PK X kws tk)
    (hall : (backToKw pos (keywordEach kws X.env)).all (·.1.isSome) = true := by rfl) (hks : (backToKw pos (keywordEach kws X.env)).filterMap (·.1) = ks := by rfl)
    (hst : starEach (e :: es) X.env = (false, eval e X.env) :: starEach es X.env := by rfl) (hpl : ((backTo pos (starEach (e :: es) X.env)).any (·.1) || (backToKw pos (keywordEach kws X.env)).any (·.1.isNone)) = false := by rfl)
    (ht : eval (.Call (.Attribute o m apos) (e :: es) kws pos) X.env = (do
      let ov ← eval o X.env
      standAt apos.atName
      let (g, first) ← holding [ov] (getMethod ov m pl)
      callWith pos g first (backTo pos (starEach (e :: es) X.env)) (backToKw pos (keywordEach kws X.env))) := by rfl) : PE X (.Call (.Attribute o m apos) (e :: es) kws pos) (tMethK C m n ks.length sp E0 ta t tk) := by
  obtain ⟨fd, ds, F, b, d, kb⟩ := G.ex
  refine ⟨fun pins s σ H Q I h => ?_⟩
  refine PySem.W.methodCall_KW (pl := pl) (thn (ho.run pins s σ H _ I h) fun u s1 ⟨x, H1, I1, rx, a, dx, fs, ex, ea, l, q⟩ => ?_) ht
  subst ex
  obtain rfl : u = Value.ref a := rx
  refine getmeth_ok I1 ea c hm l ?_
  refine PySem.W.callWith_KW (first := [.ref a]) (h₀ := X.base) I.ok.mod.kin hm.kp hall (thn (ha.run pos pins s1 σ H1 _ I1 q) fun us s2 ⟨vs, H2, I2, r, q2⟩ => ?_) hpl hst
  refine thn (hkw.run pos pins s2 σ H2 _ I2 q2) fun ws s3 ⟨zs, H3, I3, rz, l1, l2, q3⟩ => ⟨I3.kIn, ?_⟩
  rw [hks]
  exact run_fnN (us := .ref a :: us) (vs := .ref a :: vs) F hr kb pass0 I3 (.cons rfl r) rz l1 l2 q3
end
end Fw

namespace K34
open PySem PySem.Spec PyProof.Rows L2 Fw
def top (i : Nat) : Stmt := PySem.Challenge.pw_foreworth_k34_whole_beats_longest_beginn.main.body.getD i (.Pass ⟨0, 0, 0, 0⟩)
abbrev s_is_name : Stmt := top 9
abbrev s_distinct : Stmt := top 10
abbrev s_copied : Stmt := top 11
abbrev s_Graph_init : Stmt := inClass (top 14) 0
abbrev s_Graph_price : Stmt := inClass (top 14) 3
abbrev s_Graph_successors : Stmt := inClass (top 14) 4
abbrev s_check_rows : Stmt := top 15
abbrev s_is_good_row : Stmt := top 16
abbrev s_check_reached : Stmt := top 17
abbrev s_check_ends : Stmt := top 18
abbrev s_nexts_of : Stmt := top 19
abbrev s_backs_of : Stmt := top 20
abbrev s_spread : Stmt := top 21
abbrev s_check_team : Stmt := top 23
abbrev s_fault_place : Stmt := top 24
abbrev s_Machine_init : Stmt := inClass (top 26) 0
abbrev s_Machine_over : Stmt := inClass (top 26) 1
abbrev s_Machine_place_of : Stmt := inClass (top 26) 2
abbrev s_Machine_done : Stmt := inClass (top 26) 4
abbrev s_Machine_at : Stmt := inClass (top 26) 5
abbrev s_Machine_beat : Stmt := inClass (top 26) 7
abbrev s_prefix_length : Stmt := top 28
abbrev s_prefixes : Stmt := top 29
abbrev s_is_complete : Stmt := top 30
abbrev s_l_cell : Stmt := top 32
abbrev s_l_digits : Stmt := top 33
abbrev s_l_seed : Stmt := top 34
abbrev s_l_word : Stmt := top 35
abbrev s_l_price : Stmt := top 36
abbrev s_l_open : Stmt := top 37
abbrev s_l_block : Stmt := top 38
abbrev s_l_exit : Stmt := top 39
abbrev s_l_tame : Stmt := top 40
abbrev s_l_numbered : Stmt := top 41
abbrev s_l_any : Stmt := top 42
abbrev s_l_home : Stmt := top 43
abbrev s_l_run : Stmt := top 44
abbrev s_l_team : Stmt := top 45
abbrev s_l_prefix : Stmt := top 46
abbrev s_l_price_of : Stmt := top 47
abbrev s_l_is_int : Stmt := top 48
abbrev s_l_ints : Stmt := top 49
abbrev s_l_places : Stmt := top 50
abbrev s_l_aim : Stmt := top 51
abbrev s_l_some : Stmt := top 52
abbrev s_l_free : Stmt := top 53
abbrev s_l_held : Stmt := top 54
abbrev s_l_both : Stmt := top 55
abbrev s_law : Stmt := top 56
def d_is_name : He5.DefA := ⟨fun K => He.fAd K ("is_name", none), "is_name", "is_name", defArgs s_is_name, defBody s_is_name, defScope s_is_name, [], []⟩
def d_distinct : He5.DefA := ⟨fun K => He.fAd K ("distinct", none), "distinct", "distinct", defArgs s_distinct, defBody s_distinct, defScope s_distinct, [], []⟩
def d_copied : He5.DefA := ⟨fun K => He.fAd K ("copied", none), "copied", "copied", defArgs s_copied, defBody s_copied, defScope s_copied, [], []⟩
def d_Graph_init : He5.DefA := ⟨fun K => He.fAd K ("Graph", some "__init__"), "__init__", "Graph.__init__", defArgs s_Graph_init, defBody s_Graph_init, defScope s_Graph_init, [], []⟩
def d_Graph_price : He5.DefA := ⟨fun K => He.fAd K ("Graph", some "price"), "price", "Graph.price", defArgs s_Graph_price, defBody s_Graph_price, defScope s_Graph_price, [], []⟩
def d_Graph_successors : He5.DefA := ⟨fun K => He.fAd K ("Graph", some "successors"), "successors", "Graph.successors", defArgs s_Graph_successors, defBody s_Graph_successors, defScope s_Graph_successors, [], []⟩
def d_check_rows : He5.DefA := ⟨fun K => He.fAd K ("check_rows", none), "check_rows", "check_rows", defArgs s_check_rows, defBody s_check_rows, defScope s_check_rows, [], []⟩
def d_is_good_row : He5.DefA := ⟨fun K => He.fAd K ("is_good_row", none), "is_good_row", "is_good_row", defArgs s_is_good_row, defBody s_is_good_row, defScope s_is_good_row, [], []⟩
def d_check_reached : He5.DefA := ⟨fun K => He.fAd K ("check_reached", none), "check_reached", "check_reached", defArgs s_check_reached, defBody s_check_reached, defScope s_check_reached, [], []⟩
def d_check_ends : He5.DefA := ⟨fun K => He.fAd K ("check_ends", none), "check_ends", "check_ends", defArgs s_check_ends, defBody s_check_ends, defScope s_check_ends, [], []⟩
def d_nexts_of : He5.DefA := ⟨fun K => He.fAd K ("nexts_of", none), "nexts_of", "nexts_of", defArgs s_nexts_of, defBody s_nexts_of, defScope s_nexts_of, [], []⟩
def d_backs_of : He5.DefA := ⟨fun K => He.fAd K ("backs_of", none), "backs_of", "backs_of", defArgs s_backs_of, defBody s_backs_of, defScope s_backs_of, [], []⟩
def d_spread : He5.DefA := ⟨fun K => He.fAd K ("spread", none), "spread", "spread", defArgs s_spread, defBody s_spread, defScope s_spread, [], []⟩
def d_check_team : He5.DefA := ⟨fun K => He.fAd K ("check_team", none), "check_team", "check_team", defArgs s_check_team, defBody s_check_team, defScope s_check_team, [], []⟩
def d_fault_place : He5.DefA := ⟨fun K => He.fAd K ("fault_place", none), "fault_place", "fault_place", defArgs s_fault_place, defBody s_fault_place, defScope s_fault_place, [], []⟩
def d_Machine_init : He5.DefA := ⟨fun K => He.fAd K ("Machine", some "__init__"), "__init__", "Machine.__init__", defArgs s_Machine_init, defBody s_Machine_init, defScope s_Machine_init, [], []⟩
def d_Machine_over : He5.DefA := ⟨fun K => propAt K "Machine" "over", "over", "Machine.over", defArgs s_Machine_over, defBody s_Machine_over, defScope s_Machine_over, [], []⟩
def d_Machine_place_of : He5.DefA := ⟨fun K => He.fAd K ("Machine", some "place_of"), "place_of", "Machine.place_of", defArgs s_Machine_place_of, defBody s_Machine_place_of, defScope s_Machine_place_of, [], []⟩
def d_Machine_done : He5.DefA := ⟨fun K => He.fAd K ("Machine", some "done"), "done", "Machine.done", defArgs s_Machine_done, defBody s_Machine_done, defScope s_Machine_done, [], []⟩
def d_Machine_at : He5.DefA := ⟨fun K => He.fAd K ("Machine", some "at"), "at", "Machine.at", defArgs s_Machine_at, defBody s_Machine_at, defScope s_Machine_at, [], []⟩
def d_Machine_beat : He5.DefA := ⟨fun K => He.fAd K ("Machine", some "beat"), "beat", "Machine.beat", defArgs s_Machine_beat, defBody s_Machine_beat, defScope s_Machine_beat, [], [("lanes", .non)]⟩
def d_prefix_length : He5.DefA := ⟨fun K => He.fAd K ("prefix_length", none), "prefix_length", "prefix_length", defArgs s_prefix_length, defBody s_prefix_length, defScope s_prefix_length, [], []⟩
def d_prefixes : He5.DefA := ⟨fun K => He.fAd K ("prefixes", none), "prefixes", "prefixes", defArgs s_prefixes, defBody s_prefixes, defScope s_prefixes, [], []⟩
def d_is_complete : He5.DefA := ⟨fun K => He.fAd K ("is_complete", none), "is_complete", "is_complete", defArgs s_is_complete, defBody s_is_complete, defScope s_is_complete, [], []⟩
def d_l_cell : He5.DefA := ⟨fun K => He.fAd K ("_law_cell", none), "_law_cell", "_law_cell", defArgs s_l_cell, defBody s_l_cell, defScope s_l_cell, [], []⟩
def d_l_digits : He5.DefA := ⟨fun K => He.fAd K ("_law_digits", none), "_law_digits", "_law_digits", defArgs s_l_digits, defBody s_l_digits, defScope s_l_digits, [], []⟩
def d_l_seed : He5.DefA := ⟨fun K => He.fAd K ("_law_seed", none), "_law_seed", "_law_seed", defArgs s_l_seed, defBody s_l_seed, defScope s_l_seed, [], []⟩
def d_l_word : He5.DefA := ⟨fun K => He.fAd K ("_law_word", none), "_law_word", "_law_word", defArgs s_l_word, defBody s_l_word, defScope s_l_word, [], []⟩
def d_l_price : He5.DefA := ⟨fun K => He.fAd K ("_law_price", none), "_law_price", "_law_price", defArgs s_l_price, defBody s_l_price, defScope s_l_price, [], []⟩
def d_l_open : He5.DefA := ⟨fun K => He.fAd K ("_law_open", none), "_law_open", "_law_open", defArgs s_l_open, defBody s_l_open, defScope s_l_open, [], []⟩
def d_l_block : He5.DefA := ⟨fun K => He.fAd K ("_law_block", none), "_law_block", "_law_block", defArgs s_l_block, defBody s_l_block, defScope s_l_block, [], []⟩
def d_l_exit : He5.DefA := ⟨fun K => He.fAd K ("_law_exit", none), "_law_exit", "_law_exit", defArgs s_l_exit, defBody s_l_exit, defScope s_l_exit, [], []⟩
def d_l_tame : He5.DefA := ⟨fun K => He.fAd K ("_law_tame", none), "_law_tame", "_law_tame", defArgs s_l_tame, defBody s_l_tame, defScope s_l_tame, [], []⟩
def d_l_numbered : He5.DefA := ⟨fun K => He.fAd K ("_law_numbered", none), "_law_numbered", "_law_numbered", defArgs s_l_numbered, defBody s_l_numbered, defScope s_l_numbered, [], []⟩
def d_l_any : He5.DefA := ⟨fun K => He.fAd K ("_law_any", none), "_law_any", "_law_any", defArgs s_l_any, defBody s_l_any, defScope s_l_any, [], []⟩
def d_l_home : He5.DefA := ⟨fun K => He.fAd K ("_law_home", none), "_law_home", "_law_home", defArgs s_l_home, defBody s_l_home, defScope s_l_home, [], []⟩
def d_l_run : He5.DefA := ⟨fun K => He.fAd K ("_law_run", none), "_law_run", "_law_run", defArgs s_l_run, defBody s_l_run, defScope s_l_run, [], []⟩
def d_l_team : He5.DefA := ⟨fun K => He.fAd K ("_law_team", none), "_law_team", "_law_team", defArgs s_l_team, defBody s_l_team, defScope s_l_team, [], []⟩
def d_l_prefix : He5.DefA := ⟨fun K => He.fAd K ("_law_prefix", none), "_law_prefix", "_law_prefix", defArgs s_l_prefix, defBody s_l_prefix, defScope s_l_prefix, [], []⟩
def d_l_price_of : He5.DefA := ⟨fun K => He.fAd K ("_law_price_of", none), "_law_price_of", "_law_price_of", defArgs s_l_price_of, defBody s_l_price_of, defScope s_l_price_of, [], []⟩
def d_l_is_int : He5.DefA := ⟨fun K => He.fAd K ("_law_is_int", none), "_law_is_int", "_law_is_int", defArgs s_l_is_int, defBody s_l_is_int, defScope s_l_is_int, [], []⟩
def d_l_ints : He5.DefA := ⟨fun K => He.fAd K ("_law_ints", none), "_law_ints", "_law_ints", defArgs s_l_ints, defBody s_l_ints, defScope s_l_ints, [], []⟩
def d_l_places : He5.DefA := ⟨fun K => He.fAd K ("_law_places", none), "_law_places", "_law_places", defArgs s_l_places, defBody s_l_places, defScope s_l_places, [], []⟩
def d_l_aim : He5.DefA := ⟨fun K => He.fAd K ("_law_aim", none), "_law_aim", "_law_aim", defArgs s_l_aim, defBody s_l_aim, defScope s_l_aim, [], []⟩
def d_l_some : He5.DefA := ⟨fun K => He.fAd K ("_law_some", none), "_law_some", "_law_some", defArgs s_l_some, defBody s_l_some, defScope s_l_some, [], []⟩
def d_l_free : He5.DefA := ⟨fun K => He.fAd K ("_law_free", none), "_law_free", "_law_free", defArgs s_l_free, defBody s_l_free, defScope s_l_free, [], []⟩
def d_l_held : He5.DefA := ⟨fun K => He.fAd K ("_law_held", none), "_law_held", "_law_held", defArgs s_l_held, defBody s_l_held, defScope s_l_held, [], []⟩
def d_l_both : He5.DefA := ⟨fun K => He.fAd K ("_law_both", none), "_law_both", "_law_both", defArgs s_l_both, defBody s_l_both, defScope s_l_both, [], []⟩
def d_law : He5.DefA := ⟨fun K => He.fAd K ("law", none), "law", "law", defArgs s_law, defBody s_law, defScope s_law, [], []⟩
def fn : List He5.DefA := [d_is_name, d_distinct, d_copied, d_Graph_init, d_Graph_price, d_Graph_successors, d_check_rows, d_is_good_row, d_check_reached, d_check_ends, d_nexts_of, d_backs_of, d_spread, d_check_team, d_fault_place, d_Machine_init, d_Machine_over, d_Machine_place_of, d_Machine_done, d_Machine_at, d_Machine_beat, d_prefix_length, d_prefixes, d_is_complete, d_l_cell, d_l_digits, d_l_seed, d_l_word, d_l_price, d_l_open, d_l_block, d_l_exit, d_l_tame, d_l_numbered, d_l_any, d_l_home, d_l_run, d_l_team, d_l_prefix, d_l_price_of, d_l_is_int, d_l_ints, d_l_places, d_l_aim, d_l_some, d_l_free, d_l_held, d_l_both, d_law]
def pr : List (Str × Str) := [("Machine", "over")]
def fa : List He.Fa := [.glo "is_name", .glo "distinct", .glo "copied", .glo "check_rows", .glo "is_good_row", .glo "check_reached", .glo "check_ends", .glo "nexts_of", .glo "backs_of", .glo "spread", .glo "check_team", .glo "fault_place", .glo "prefix_length", .glo "prefixes", .glo "is_complete", .glo "_law_cell", .glo "_law_digits", .glo "_law_seed", .glo "_law_word", .glo "_law_price", .glo "_law_open", .glo "_law_block", .glo "_law_exit", .glo "_law_tame", .glo "_law_numbered", .glo "_law_any", .glo "_law_home", .glo "_law_run", .glo "_law_team", .glo "_law_prefix", .glo "_law_price_of", .glo "_law_is_int", .glo "_law_ints", .glo "_law_places", .glo "_law_aim", .glo "_law_some", .glo "_law_free", .glo "_law_held", .glo "_law_both", .glo "law", .glo "ForeworthError", .glo "BadNode", .glo "Unreachable", .glo "NoEnd", .glo "BadRun", .glo "NotStanding", .glo "Graph", .glo "Machine", .free "len", .free "abs", .free "range", .free "int", .free "sorted", .free "set", .free "sum", .free "tuple", .free "isinstance", .free "bool", .free "list", .free "super", .free "ValueError", .int "END" (-1), .cls "Graph", .mkr "Graph", .noat "Graph" "size", .noat "Graph" "_rows", .meth "Graph" "price", .meth "Graph" "successors", .cls "Machine", .mkr "Machine", .noat "Machine" "graph", .noat "Machine" "team", .noat "Machine" "steps", .noat "Machine" "named", .noat "Machine" "bill", .meth "Machine" "at", .meth "Machine" "beat", .meth "Machine" "done", .meth "Machine" "place_of"]
def loose : List Str := (["_wall", "ForeworthError", "BadNode", "Unreachable", "NoEnd", "BadRun", "NotStanding", "is_name", "distinct", "copied", "END", "Graph"] : List Str) ++ (["check_rows", "is_good_row", "check_reached", "check_ends", "nexts_of", "backs_of", "spread", "check_team", "fault_place", "Machine", "prefix_length", "prefixes"] : List Str) ++ (["is_complete", "_law_cell", "_law_digits", "_law_seed", "_law_word", "_law_price", "_law_open", "_law_block", "_law_exit", "_law_tame", "_law_numbered", "_law_any"] : List Str) ++ (["_law_home", "_law_run", "_law_team", "_law_prefix", "_law_price_of", "_law_is_int", "_law_ints", "_law_places", "_law_aim", "_law_some", "_law_free", "_law_held"] : List Str) ++ (["_law_both"] : List Str)

abbrev R : PySem.W.OpenRow := PySem.W.OpenLaw.row PySem.Challenge.rw_foreworth_k34_whole_beats_longest_beginn
abbrev hk : PySem.W.Hook := hookP 5 fa fn pr
def ob (s : PySem.W.SharedT) : He.AlD   := obsPG 5 fa fn pr (HandSHeadRun.getT s)
theorem ob_eq (s : PySem.W.SharedT) : ob s = hk.obs s.abs := obsPG_eq (HandSHeadRun.getT_eq s)
theorem run (w : World) : HandSHeadRun.RunEq R (PySem.W.view R.prog [56]) hk ob 4000 loose w := by
  intro os
  kernel_rfl
theorem sc_is_name : FnScope ["text", "char"] ["text"] (defScope s_is_name) := ⟨rfl, rfl, rfl, by decide +kernel, rfl, by decide +kernel, by decide +kernel⟩
theorem sc_distinct : FnScope ["row"] ["row"] (defScope s_distinct) := ⟨rfl, rfl, rfl, by decide +kernel, rfl, by decide +kernel, by decide +kernel⟩
theorem sc_copied : FnScope ["rows", "row"] ["rows"] (defScope s_copied) := ⟨rfl, rfl, rfl, by decide +kernel, rfl, by decide +kernel, by decide +kernel⟩
theorem sc_Graph_price : FnScope ["self", "node"] ["self", "node"] (defScope s_Graph_price) := ⟨rfl, rfl, rfl, by decide +kernel, rfl, by decide +kernel, by decide +kernel⟩
theorem sc_Graph_successors : FnScope ["self", "node"] ["self", "node"] (defScope s_Graph_successors) := ⟨rfl, rfl, rfl, by decide +kernel, rfl, by decide +kernel, by decide +kernel⟩
theorem sc_nexts_of : FnScope ["rows", "row", "target"] ["rows"] (defScope s_nexts_of) := ⟨rfl, rfl, rfl, by decide +kernel, rfl, by decide +kernel, by decide +kernel⟩
theorem sc_backs_of : FnScope ["rows", "backs", "node", "target", "row"] ["rows"] (defScope s_backs_of) := ⟨rfl, rfl, rfl, by decide +kernel, rfl, by decide +kernel, by decide +kernel⟩
theorem sc_spread : FnScope ["lists", "starts", "marks", "node", "queue", "place", "target"] ["lists", "starts"] (defScope s_spread) := ⟨rfl, rfl, rfl, by decide +kernel, rfl, by decide +kernel, by decide +kernel⟩
theorem sc_Machine_over : FnScope ["self", "lane"] ["self"] (defScope s_Machine_over) := ⟨rfl, rfl, rfl, by decide +kernel, rfl, by decide +kernel, by decide +kernel⟩
theorem sc_Machine_place_of : FnScope ["self", "lane"] ["self", "lane"] (defScope s_Machine_place_of) := ⟨rfl, rfl, rfl, by decide +kernel, rfl, by decide +kernel, by decide +kernel⟩
theorem sc_Machine_done : FnScope ["self"] ["self"] (defScope s_Machine_done) := ⟨rfl, rfl, rfl, by decide +kernel, rfl, by decide +kernel, by decide +kernel⟩
theorem sc_prefix_length : FnScope ["run", "schedule", "done", "node"] ["run", "schedule"] (defScope s_prefix_length) := ⟨rfl, rfl, rfl, by decide +kernel, rfl, by decide +kernel, by decide +kernel⟩
theorem sc_l_cell : FnScope ["_law_script", "_law_k"] ["_law_script", "_law_k"] (defScope s_l_cell) := ⟨rfl, rfl, rfl, by decide +kernel, rfl, by decide +kernel, by decide +kernel⟩
theorem sc_l_digits : FnScope ["_law_cell_here", "_law_count", "_law_size", "_law_row", "_law_rest", "_law_k", "_law_mixed"] ["_law_cell_here", "_law_count", "_law_size"] (defScope s_l_digits) := ⟨rfl, rfl, rfl, by decide +kernel, rfl, by decide +kernel, by decide +kernel⟩
theorem sc_l_word : FnScope ["_law_digit"] ["_law_digit"] (defScope s_l_word) := ⟨rfl, rfl, rfl, by decide +kernel, rfl, by decide +kernel, by decide +kernel⟩
theorem sc_l_price : FnScope ["_law_digit"] ["_law_digit"] (defScope s_l_price) := ⟨rfl, rfl, rfl, by decide +kernel, rfl, by decide +kernel, by decide +kernel⟩
theorem sc_l_open : FnScope ["_law_nexts", "_law_source", "_law_k", "_law_node"] ["_law_nexts", "_law_source"] (defScope s_l_open) := ⟨rfl, rfl, rfl, by decide +kernel, rfl, by decide +kernel, by decide +kernel⟩
theorem sc_l_home : FnScope ["_law_rows", "_law_home_here", "_law_turn", "_law_node", "_law_target"] ["_law_rows"] (defScope s_l_home) := ⟨rfl, rfl, rfl, by decide +kernel, rfl, by decide +kernel, by decide +kernel⟩
theorem sc_l_prefix : FnScope ["_law_run_here", "_law_schedule", "_law_done", "_law_node"] ["_law_run_here", "_law_schedule"] (defScope s_l_prefix) := ⟨rfl, rfl, rfl, by decide +kernel, rfl, by decide +kernel, by decide +kernel⟩
theorem sc_l_price_of : FnScope ["_law_rows", "_law_visited", "_law_node"] ["_law_rows", "_law_visited"] (defScope s_l_price_of) := ⟨rfl, rfl, rfl, by decide +kernel, rfl, by decide +kernel, by decide +kernel⟩
theorem sc_l_is_int : FnScope ["_law_value"] ["_law_value"] (defScope s_l_is_int) := ⟨rfl, rfl, rfl, by decide +kernel, rfl, by decide +kernel, by decide +kernel⟩
theorem sc_l_places : FnScope ["_law_runs", "_law_done", "_law_places_here", "_law_k"] ["_law_runs", "_law_done"] (defScope s_l_places) := ⟨rfl, rfl, rfl, by decide +kernel, rfl, by decide +kernel, by decide +kernel⟩
theorem sc_l_aim : FnScope ["_law_rows", "_law_places_here", "_law_digit", "_law_occupied", "_law_place"] ["_law_rows", "_law_places_here", "_law_digit"] (defScope s_l_aim) := ⟨rfl, rfl, rfl, by decide +kernel, rfl, by decide +kernel, by decide +kernel⟩
theorem sc_l_some : FnScope ["_law_here", "_law_digit", "_law_rest", "_law_some_here", "_law_lane"] ["_law_here", "_law_digit", "_law_rest"] (defScope s_l_some) := ⟨rfl, rfl, rfl, by decide +kernel, rfl, by decide +kernel, by decide +kernel⟩
theorem sc_is_good_row : FnScope ["row", "size", "target"] ["row", "size"] (defScope s_is_good_row) := ⟨rfl, rfl, rfl, by decide +kernel, rfl, by decide +kernel, by decide +kernel⟩
theorem sc_check_reached : FnScope ["rows", "marks"] ["rows"] (defScope s_check_reached) := ⟨rfl, rfl, rfl, by decide +kernel, rfl, by decide +kernel, by decide +kernel⟩
theorem sc_check_ends : FnScope ["rows", "marks", "node"] ["rows"] (defScope s_check_ends) := ⟨rfl, rfl, rfl, by decide +kernel, rfl, by decide +kernel, by decide +kernel⟩
theorem sc_fault_place : FnScope ["graph", "run", "place"] ["graph", "run"] (defScope s_fault_place) := ⟨rfl, rfl, rfl, by decide +kernel, rfl, by decide +kernel, by decide +kernel⟩
theorem sc_Machine_at : FnScope ["self", "node", "lane"] ["self", "node"] (defScope s_Machine_at) := ⟨rfl, rfl, rfl, by decide +kernel, rfl, by decide +kernel, by decide +kernel⟩
theorem sc_prefixes : FnScope ["runs", "schedule", "run"] ["runs", "schedule"] (defScope s_prefixes) := ⟨rfl, rfl, rfl, by decide +kernel, rfl, by decide +kernel, by decide +kernel⟩
theorem sc_is_complete : FnScope ["runs", "schedule", "run"] ["runs", "schedule"] (defScope s_is_complete) := ⟨rfl, rfl, rfl, by decide +kernel, rfl, by decide +kernel, by decide +kernel⟩
theorem sc_l_seed : FnScope ["_law_script", "_law_k"] ["_law_script", "_law_k"] (defScope s_l_seed) := ⟨rfl, rfl, rfl, by decide +kernel, rfl, by decide +kernel, by decide +kernel⟩
theorem sc_l_block : FnScope ["_law_nexts", "_law_digit", "_law_row", "_law_first", "_law_size", "_law_before", "_law_place", "_law_k", "_law_source"] ["_law_nexts", "_law_digit", "_law_row", "_law_first"] (defScope s_l_block) := ⟨rfl, rfl, rfl, by decide +kernel, rfl, by decide +kernel, by decide +kernel⟩
theorem sc_l_exit : FnScope ["_law_nexts", "_law_before", "_law_size", "_law_digit", "_law_node", "_law_target", "_law_source"] ["_law_nexts", "_law_before", "_law_size", "_law_digit"] (defScope s_l_exit) := ⟨rfl, rfl, rfl, by decide +kernel, rfl, by decide +kernel, by decide +kernel⟩
theorem sc_l_numbered : FnScope ["_law_nexts", "_law_row", "_law_size", "_law_keys", "_law_order", "_law_rows", "_law_node", "_law_turn", "_law_turned", "_law_named", "_law_target", "_law_k", "_law_key"] ["_law_nexts", "_law_row"] (defScope s_l_numbered) := ⟨rfl, rfl, rfl, by decide +kernel, rfl, by decide +kernel, by decide +kernel⟩
theorem sc_l_run : FnScope ["_law_rows", "_law_cell_here", "_law_most", "_law_home_here", "_law_row", "_law_run_here", "_law_k", "_law_nexts", "_law_target", "_law_other"] ["_law_rows", "_law_cell_here", "_law_most"] (defScope s_l_run) := ⟨rfl, rfl, rfl, by decide +kernel, rfl, by decide +kernel, by decide +kernel⟩
theorem sc_l_ints : FnScope ["_law_row", "_law_value"] ["_law_row"] (defScope s_l_ints) := ⟨rfl, rfl, rfl, by decide +kernel, rfl, by decide +kernel, by decide +kernel⟩
theorem sc_check_rows : FnScope ["rows", "node"] ["rows"] (defScope s_check_rows) := ⟨rfl, rfl, rfl, by decide +kernel, rfl, by decide +kernel, by decide +kernel⟩
theorem sc_check_team : FnScope ["graph", "runs", "lane", "place"] ["graph", "runs"] (defScope s_check_team) := ⟨rfl, rfl, rfl, by decide +kernel, rfl, by decide +kernel, by decide +kernel⟩
theorem sc_Machine_beat : FnScope ["self", "node", "lanes", "moved", "lane"] ["self", "node", "lanes"] (defScope s_Machine_beat) := ⟨rfl, rfl, rfl, by decide +kernel, rfl, by decide +kernel, by decide +kernel⟩
theorem sc_l_tame : FnScope ["_law_cell_here", "_law_blocks", "_law_row", "_law_nexts", "_law_sizes", "_law_b", "_law_k", "_law_node", "_law_before"] ["_law_cell_here", "_law_blocks"] (defScope s_l_tame) := ⟨rfl, rfl, rfl, by decide +kernel, rfl, by decide +kernel, by decide +kernel⟩
theorem sc_l_team : FnScope ["_law_script", "_law_rows", "_law_first", "_law_count", "_law_most", "_law_k"] ["_law_script", "_law_rows", "_law_first", "_law_count", "_law_most"] (defScope s_l_team) := ⟨rfl, rfl, rfl, by decide +kernel, rfl, by decide +kernel, by decide +kernel⟩
theorem sc_l_free : FnScope ["_law_machine", "_law_runs", "_law_rows", "_law_beats", "_law_whole", "_law_told", "_law_complete", "_law_run_here"] ["_law_machine", "_law_runs", "_law_rows", "_law_beats"] (defScope s_l_free) := ⟨rfl, rfl, rfl, by decide +kernel, rfl, by decide +kernel, by decide +kernel⟩
theorem sc_l_held : FnScope ["_law_machine", "_law_runs", "_law_rows", "_law_beats", "_law_done", "_law_told", "_law_k", "_law_run_here"] ["_law_machine", "_law_runs", "_law_rows", "_law_beats", "_law_done"] (defScope s_l_held) := ⟨rfl, rfl, rfl, by decide +kernel, rfl, by decide +kernel, by decide +kernel⟩
theorem sc_Graph_init : FnScope ["self", "rows", "kept", "row"] ["self", "rows"] (defScope s_Graph_init) := ⟨rfl, rfl, rfl, by decide +kernel, rfl, by decide +kernel, by decide +kernel⟩
theorem sc_Machine_init : FnScope ["self", "graph", "runs"] ["self", "graph", "runs"] (defScope s_Machine_init) := ⟨rfl, rfl, rfl, by decide +kernel, rfl, by decide +kernel, by decide +kernel⟩
theorem sc_l_any : FnScope ["_law_cell_here", "_law_blocks", "_law_rows", "_law_row", "_law_k", "_law_node", "_law_target"] ["_law_cell_here", "_law_blocks"] (defScope s_l_any) := ⟨rfl, rfl, rfl, by decide +kernel, rfl, by decide +kernel, by decide +kernel⟩
theorem sc_l_both : FnScope ["_law_free_here", "_law_held_here", "_law_rows", "_law_runs", "_law_done", "_law_beats", "_law_digit", "_law_rest", "_law_whole", "_law_places_here", "_law_node", "_law_here", "_law_due", "_law_moved", "_law_told", "_law_k", "_law_run_here"] ["_law_free_here", "_law_held_here", "_law_rows", "_law_runs", "_law_done", "_law_beats", "_law_digit", "_law_rest"] (defScope s_l_both) := ⟨rfl, rfl, rfl, by decide +kernel, rfl, by decide +kernel, by decide +kernel⟩
theorem sc_law : FnScope ["_law_script", "_law_rows", "_law_row", "_law_count", "_law_runs", "_law_graph", "_law_free_here", "_law_held_here", "_law_done", "_law_beats", "_law_draw", "_law_more", "_law_k", "_law_named", "_law_run_here", "_law_node"] ["_law_script"] (defScope s_law) := ⟨rfl, rfl, rfl, by decide +kernel, rfl, by decide +kernel, by decide +kernel⟩
structure Txt (K : PySem.W.Frag) (mg : Str → Option Value) : Prop where
  g_is_name : mg "is_name" = some (.ref (He.ga K "is_name"))
  g_distinct : mg "distinct" = some (.ref (He.ga K "distinct"))
  g_copied : mg "copied" = some (.ref (He.ga K "copied"))
  g_check_rows : mg "check_rows" = some (.ref (He.ga K "check_rows"))
  g_is_good_row : mg "is_good_row" = some (.ref (He.ga K "is_good_row"))
  g_check_reached : mg "check_reached" = some (.ref (He.ga K "check_reached"))
  g_check_ends : mg "check_ends" = some (.ref (He.ga K "check_ends"))
  g_nexts_of : mg "nexts_of" = some (.ref (He.ga K "nexts_of"))
  g_backs_of : mg "backs_of" = some (.ref (He.ga K "backs_of"))
  g_spread : mg "spread" = some (.ref (He.ga K "spread"))
  g_check_team : mg "check_team" = some (.ref (He.ga K "check_team"))
  g_fault_place : mg "fault_place" = some (.ref (He.ga K "fault_place"))
  g_prefix_length : mg "prefix_length" = some (.ref (He.ga K "prefix_length"))
  g_prefixes : mg "prefixes" = some (.ref (He.ga K "prefixes"))
  g_is_complete : mg "is_complete" = some (.ref (He.ga K "is_complete"))
  g_l_cell : mg "_law_cell" = some (.ref (He.ga K "_law_cell"))
  g_l_digits : mg "_law_digits" = some (.ref (He.ga K "_law_digits"))
  g_l_seed : mg "_law_seed" = some (.ref (He.ga K "_law_seed"))
  g_l_word : mg "_law_word" = some (.ref (He.ga K "_law_word"))
  g_l_price : mg "_law_price" = some (.ref (He.ga K "_law_price"))
  g_l_open : mg "_law_open" = some (.ref (He.ga K "_law_open"))
  g_l_block : mg "_law_block" = some (.ref (He.ga K "_law_block"))
  g_l_exit : mg "_law_exit" = some (.ref (He.ga K "_law_exit"))
  g_l_tame : mg "_law_tame" = some (.ref (He.ga K "_law_tame"))
  g_l_numbered : mg "_law_numbered" = some (.ref (He.ga K "_law_numbered"))
  g_l_any : mg "_law_any" = some (.ref (He.ga K "_law_any"))
  g_l_home : mg "_law_home" = some (.ref (He.ga K "_law_home"))
  g_l_run : mg "_law_run" = some (.ref (He.ga K "_law_run"))
  g_l_team : mg "_law_team" = some (.ref (He.ga K "_law_team"))
  g_l_prefix : mg "_law_prefix" = some (.ref (He.ga K "_law_prefix"))
  g_l_price_of : mg "_law_price_of" = some (.ref (He.ga K "_law_price_of"))
  g_l_is_int : mg "_law_is_int" = some (.ref (He.ga K "_law_is_int"))
  g_l_ints : mg "_law_ints" = some (.ref (He.ga K "_law_ints"))
  g_l_places : mg "_law_places" = some (.ref (He.ga K "_law_places"))
  g_l_aim : mg "_law_aim" = some (.ref (He.ga K "_law_aim"))
  g_l_some : mg "_law_some" = some (.ref (He.ga K "_law_some"))
  g_l_free : mg "_law_free" = some (.ref (He.ga K "_law_free"))
  g_l_held : mg "_law_held" = some (.ref (He.ga K "_law_held"))
  g_l_both : mg "_law_both" = some (.ref (He.ga K "_law_both"))
  g_law : mg "law" = some (.ref (He.ga K "law"))
  g_ForeworthError : mg "ForeworthError" = some (.ref (He.ga K "ForeworthError"))
  g_BadNode : mg "BadNode" = some (.ref (He.ga K "BadNode"))
  g_Unreachable : mg "Unreachable" = some (.ref (He.ga K "Unreachable"))
  g_NoEnd : mg "NoEnd" = some (.ref (He.ga K "NoEnd"))
  g_BadRun : mg "BadRun" = some (.ref (He.ga K "BadRun"))
  g_NotStanding : mg "NotStanding" = some (.ref (He.ga K "NotStanding"))
  g_Graph : mg "Graph" = some (.ref (He.ga K "Graph"))
  g_Machine : mg "Machine" = some (.ref (He.ga K "Machine"))
  z_len : mg "len" = none
  z_abs : mg "abs" = none
  z_range : mg "range" = none
  z_int : mg "int" = none
  z_sorted : mg "sorted" = none
  z_set : mg "set" = none
  z_sum : mg "sum" = none
  z_tuple : mg "tuple" = none
  z_isinstance : mg "isinstance" = none
  z_bool : mg "bool" = none
  z_list : mg "list" = none
  z_super : mg "super" = none
  z_ValueError : mg "ValueError" = none
  k_END : ∃ t, mg "END" = some (.int (-1) t)
  cl_Graph : Cls K (He.ga K "Graph")
  mk_Graph : Mk K (He.ga K "Graph") (He.ma K (He.ga K "Graph") "__init__")
  na_Graph_size : NoAttr K (He.ga K "Graph") "size"
  na_Graph_rows : NoAttr K (He.ga K "Graph") "_rows"
  me_Graph_price : Meth K (He.ga K "Graph") "price" (He.ma K (He.ga K "Graph") "price")
  me_Graph_successors : Meth K (He.ga K "Graph") "successors" (He.ma K (He.ga K "Graph") "successors")
  cl_Machine : Cls K (He.ga K "Machine")
  mk_Machine : Mk K (He.ga K "Machine") (He.ma K (He.ga K "Machine") "__init__")
  na_Machine_graph : NoAttr K (He.ga K "Machine") "graph"
  na_Machine_team : NoAttr K (He.ga K "Machine") "team"
  na_Machine_steps : NoAttr K (He.ga K "Machine") "steps"
  na_Machine_named : NoAttr K (He.ga K "Machine") "named"
  na_Machine_bill : NoAttr K (He.ga K "Machine") "bill"
  me_Machine_at : Meth K (He.ga K "Machine") "at" (He.ma K (He.ga K "Machine") "at")
  me_Machine_beat : Meth K (He.ga K "Machine") "beat" (He.ma K (He.ga K "Machine") "beat")
  me_Machine_done : Meth K (He.ga K "Machine") "done" (He.ma K (He.ga K "Machine") "done")
  me_Machine_place_of : Meth K (He.ga K "Machine") "place_of" (He.ma K (He.ga K "Machine") "place_of")
  f_is_name : ∃ fd, FunD K "is_name" "is_name" (defArgs s_is_name) (defBody s_is_name) (defScope s_is_name) [] [] (He.ga K "is_name") fd
  f_distinct : ∃ fd, FunD K "distinct" "distinct" (defArgs s_distinct) (defBody s_distinct) (defScope s_distinct) [] [] (He.ga K "distinct") fd
  f_copied : ∃ fd, FunD K "copied" "copied" (defArgs s_copied) (defBody s_copied) (defScope s_copied) [] [] (He.ga K "copied") fd
  f_Graph_init : ∃ fd, FunD K "__init__" "Graph.__init__" (defArgs s_Graph_init) (defBody s_Graph_init) (defScope s_Graph_init) [] [] (He.ma K (He.ga K "Graph") "__init__") fd
  f_Graph_price : ∃ fd, FunD K "price" "Graph.price" (defArgs s_Graph_price) (defBody s_Graph_price) (defScope s_Graph_price) [] [] (He.ma K (He.ga K "Graph") "price") fd
  f_Graph_successors : ∃ fd, FunD K "successors" "Graph.successors" (defArgs s_Graph_successors) (defBody s_Graph_successors) (defScope s_Graph_successors) [] [] (He.ma K (He.ga K "Graph") "successors") fd
  f_check_rows : ∃ fd, FunD K "check_rows" "check_rows" (defArgs s_check_rows) (defBody s_check_rows) (defScope s_check_rows) [] [] (He.ga K "check_rows") fd
  f_is_good_row : ∃ fd, FunD K "is_good_row" "is_good_row" (defArgs s_is_good_row) (defBody s_is_good_row) (defScope s_is_good_row) [] [] (He.ga K "is_good_row") fd
  f_check_reached : ∃ fd, FunD K "check_reached" "check_reached" (defArgs s_check_reached) (defBody s_check_reached) (defScope s_check_reached) [] [] (He.ga K "check_reached") fd
  f_check_ends : ∃ fd, FunD K "check_ends" "check_ends" (defArgs s_check_ends) (defBody s_check_ends) (defScope s_check_ends) [] [] (He.ga K "check_ends") fd
  f_nexts_of : ∃ fd, FunD K "nexts_of" "nexts_of" (defArgs s_nexts_of) (defBody s_nexts_of) (defScope s_nexts_of) [] [] (He.ga K "nexts_of") fd
  f_backs_of : ∃ fd, FunD K "backs_of" "backs_of" (defArgs s_backs_of) (defBody s_backs_of) (defScope s_backs_of) [] [] (He.ga K "backs_of") fd
  f_spread : ∃ fd, FunD K "spread" "spread" (defArgs s_spread) (defBody s_spread) (defScope s_spread) [] [] (He.ga K "spread") fd
  f_check_team : ∃ fd, FunD K "check_team" "check_team" (defArgs s_check_team) (defBody s_check_team) (defScope s_check_team) [] [] (He.ga K "check_team") fd
  f_fault_place : ∃ fd, FunD K "fault_place" "fault_place" (defArgs s_fault_place) (defBody s_fault_place) (defScope s_fault_place) [] [] (He.ga K "fault_place") fd
  f_Machine_init : ∃ fd, FunD K "__init__" "Machine.__init__" (defArgs s_Machine_init) (defBody s_Machine_init) (defScope s_Machine_init) [] [] (He.ma K (He.ga K "Machine") "__init__") fd
  f_Machine_over : ∃ fd, FunD K "over" "Machine.over" (defArgs s_Machine_over) (defBody s_Machine_over) (defScope s_Machine_over) [] [] (propAt K "Machine" "over") fd
  f_Machine_place_of : ∃ fd, FunD K "place_of" "Machine.place_of" (defArgs s_Machine_place_of) (defBody s_Machine_place_of) (defScope s_Machine_place_of) [] [] (He.ma K (He.ga K "Machine") "place_of") fd
  f_Machine_done : ∃ fd, FunD K "done" "Machine.done" (defArgs s_Machine_done) (defBody s_Machine_done) (defScope s_Machine_done) [] [] (He.ma K (He.ga K "Machine") "done") fd
  f_Machine_at : ∃ fd, FunD K "at" "Machine.at" (defArgs s_Machine_at) (defBody s_Machine_at) (defScope s_Machine_at) [] [] (He.ma K (He.ga K "Machine") "at") fd
  f_Machine_beat : ∃ fd, FunD K "beat" "Machine.beat" (defArgs s_Machine_beat) (defBody s_Machine_beat) (defScope s_Machine_beat) [] [("lanes", .non)] (He.ma K (He.ga K "Machine") "beat") fd
  f_prefix_length : ∃ fd, FunD K "prefix_length" "prefix_length" (defArgs s_prefix_length) (defBody s_prefix_length) (defScope s_prefix_length) [] [] (He.ga K "prefix_length") fd
  f_prefixes : ∃ fd, FunD K "prefixes" "prefixes" (defArgs s_prefixes) (defBody s_prefixes) (defScope s_prefixes) [] [] (He.ga K "prefixes") fd
  f_is_complete : ∃ fd, FunD K "is_complete" "is_complete" (defArgs s_is_complete) (defBody s_is_complete) (defScope s_is_complete) [] [] (He.ga K "is_complete") fd
  f_l_cell : ∃ fd, FunD K "_law_cell" "_law_cell" (defArgs s_l_cell) (defBody s_l_cell) (defScope s_l_cell) [] [] (He.ga K "_law_cell") fd
  f_l_digits : ∃ fd, FunD K "_law_digits" "_law_digits" (defArgs s_l_digits) (defBody s_l_digits) (defScope s_l_digits) [] [] (He.ga K "_law_digits") fd
  f_l_seed : ∃ fd, FunD K "_law_seed" "_law_seed" (defArgs s_l_seed) (defBody s_l_seed) (defScope s_l_seed) [] [] (He.ga K "_law_seed") fd
  f_l_word : ∃ fd, FunD K "_law_word" "_law_word" (defArgs s_l_word) (defBody s_l_word) (defScope s_l_word) [] [] (He.ga K "_law_word") fd
  f_l_price : ∃ fd, FunD K "_law_price" "_law_price" (defArgs s_l_price) (defBody s_l_price) (defScope s_l_price) [] [] (He.ga K "_law_price") fd
  f_l_open : ∃ fd, FunD K "_law_open" "_law_open" (defArgs s_l_open) (defBody s_l_open) (defScope s_l_open) [] [] (He.ga K "_law_open") fd
  f_l_block : ∃ fd, FunD K "_law_block" "_law_block" (defArgs s_l_block) (defBody s_l_block) (defScope s_l_block) [] [] (He.ga K "_law_block") fd
  f_l_exit : ∃ fd, FunD K "_law_exit" "_law_exit" (defArgs s_l_exit) (defBody s_l_exit) (defScope s_l_exit) [] [] (He.ga K "_law_exit") fd
  f_l_tame : ∃ fd, FunD K "_law_tame" "_law_tame" (defArgs s_l_tame) (defBody s_l_tame) (defScope s_l_tame) [] [] (He.ga K "_law_tame") fd
  f_l_numbered : ∃ fd, FunD K "_law_numbered" "_law_numbered" (defArgs s_l_numbered) (defBody s_l_numbered) (defScope s_l_numbered) [] [] (He.ga K "_law_numbered") fd
  f_l_any : ∃ fd, FunD K "_law_any" "_law_any" (defArgs s_l_any) (defBody s_l_any) (defScope s_l_any) [] [] (He.ga K "_law_any") fd
  f_l_home : ∃ fd, FunD K "_law_home" "_law_home" (defArgs s_l_home) (defBody s_l_home) (defScope s_l_home) [] [] (He.ga K "_law_home") fd
  f_l_run : ∃ fd, FunD K "_law_run" "_law_run" (defArgs s_l_run) (defBody s_l_run) (defScope s_l_run) [] [] (He.ga K "_law_run") fd
  f_l_team : ∃ fd, FunD K "_law_team" "_law_team" (defArgs s_l_team) (defBody s_l_team) (defScope s_l_team) [] [] (He.ga K "_law_team") fd
  f_l_prefix : ∃ fd, FunD K "_law_prefix" "_law_prefix" (defArgs s_l_prefix) (defBody s_l_prefix) (defScope s_l_prefix) [] [] (He.ga K "_law_prefix") fd
  f_l_price_of : ∃ fd, FunD K "_law_price_of" "_law_price_of" (defArgs s_l_price_of) (defBody s_l_price_of) (defScope s_l_price_of) [] [] (He.ga K "_law_price_of") fd
  f_l_is_int : ∃ fd, FunD K "_law_is_int" "_law_is_int" (defArgs s_l_is_int) (defBody s_l_is_int) (defScope s_l_is_int) [] [] (He.ga K "_law_is_int") fd
  f_l_ints : ∃ fd, FunD K "_law_ints" "_law_ints" (defArgs s_l_ints) (defBody s_l_ints) (defScope s_l_ints) [] [] (He.ga K "_law_ints") fd
  f_l_places : ∃ fd, FunD K "_law_places" "_law_places" (defArgs s_l_places) (defBody s_l_places) (defScope s_l_places) [] [] (He.ga K "_law_places") fd
  f_l_aim : ∃ fd, FunD K "_law_aim" "_law_aim" (defArgs s_l_aim) (defBody s_l_aim) (defScope s_l_aim) [] [] (He.ga K "_law_aim") fd
  f_l_some : ∃ fd, FunD K "_law_some" "_law_some" (defArgs s_l_some) (defBody s_l_some) (defScope s_l_some) [] [] (He.ga K "_law_some") fd
  f_l_free : ∃ fd, FunD K "_law_free" "_law_free" (defArgs s_l_free) (defBody s_l_free) (defScope s_l_free) [] [] (He.ga K "_law_free") fd
  f_l_held : ∃ fd, FunD K "_law_held" "_law_held" (defArgs s_l_held) (defBody s_l_held) (defScope s_l_held) [] [] (He.ga K "_law_held") fd
  f_l_both : ∃ fd, FunD K "_law_both" "_law_both" (defArgs s_l_both) (defBody s_l_both) (defScope s_l_both) [] [] (He.ga K "_law_both") fd
  f_law : ∃ fd, FunD K "law" "law" (defArgs s_law) (defBody s_law) (defScope s_law) [] [] (He.ga K "law") fd
  pr_Machine_over : ∃ p, PropOf K (He.ga K "Machine") "over" p (propAt K "Machine" "over")
theorem txt_of {K : PySem.W.Frag} {mg : Str → Option Value} {h : Heap} (X : K.In h) (G : h.Ns mainGlobals mg) (c : SaysP fa fn pr K) : Txt K mg where
  g_is_name := He.glo_ok X G (c.fact 0 (f := .glo "is_name") rfl)
  g_distinct := He.glo_ok X G (c.fact 1 (f := .glo "distinct") rfl)
  g_copied := He.glo_ok X G (c.fact 2 (f := .glo "copied") rfl)
  g_check_rows := He.glo_ok X G (c.fact 3 (f := .glo "check_rows") rfl)
  g_is_good_row := He.glo_ok X G (c.fact 4 (f := .glo "is_good_row") rfl)
  g_check_reached := He.glo_ok X G (c.fact 5 (f := .glo "check_reached") rfl)
  g_check_ends := He.glo_ok X G (c.fact 6 (f := .glo "check_ends") rfl)
  g_nexts_of := He.glo_ok X G (c.fact 7 (f := .glo "nexts_of") rfl)
  g_backs_of := He.glo_ok X G (c.fact 8 (f := .glo "backs_of") rfl)
  g_spread := He.glo_ok X G (c.fact 9 (f := .glo "spread") rfl)
  g_check_team := He.glo_ok X G (c.fact 10 (f := .glo "check_team") rfl)
  g_fault_place := He.glo_ok X G (c.fact 11 (f := .glo "fault_place") rfl)
  g_prefix_length := He.glo_ok X G (c.fact 12 (f := .glo "prefix_length") rfl)
  g_prefixes := He.glo_ok X G (c.fact 13 (f := .glo "prefixes") rfl)
  g_is_complete := He.glo_ok X G (c.fact 14 (f := .glo "is_complete") rfl)
  g_l_cell := He.glo_ok X G (c.fact 15 (f := .glo "_law_cell") rfl)
  g_l_digits := He.glo_ok X G (c.fact 16 (f := .glo "_law_digits") rfl)
  g_l_seed := He.glo_ok X G (c.fact 17 (f := .glo "_law_seed") rfl)
  g_l_word := He.glo_ok X G (c.fact 18 (f := .glo "_law_word") rfl)
  g_l_price := He.glo_ok X G (c.fact 19 (f := .glo "_law_price") rfl)
  g_l_open := He.glo_ok X G (c.fact 20 (f := .glo "_law_open") rfl)
  g_l_block := He.glo_ok X G (c.fact 21 (f := .glo "_law_block") rfl)
  g_l_exit := He.glo_ok X G (c.fact 22 (f := .glo "_law_exit") rfl)
  g_l_tame := He.glo_ok X G (c.fact 23 (f := .glo "_law_tame") rfl)
  g_l_numbered := He.glo_ok X G (c.fact 24 (f := .glo "_law_numbered") rfl)
  g_l_any := He.glo_ok X G (c.fact 25 (f := .glo "_law_any") rfl)
  g_l_home := He.glo_ok X G (c.fact 26 (f := .glo "_law_home") rfl)
  g_l_run := He.glo_ok X G (c.fact 27 (f := .glo "_law_run") rfl)
  g_l_team := He.glo_ok X G (c.fact 28 (f := .glo "_law_team") rfl)
  g_l_prefix := He.glo_ok X G (c.fact 29 (f := .glo "_law_prefix") rfl)
  g_l_price_of := He.glo_ok X G (c.fact 30 (f := .glo "_law_price_of") rfl)
  g_l_is_int := He.glo_ok X G (c.fact 31 (f := .glo "_law_is_int") rfl)
  g_l_ints := He.glo_ok X G (c.fact 32 (f := .glo "_law_ints") rfl)
  g_l_places := He.glo_ok X G (c.fact 33 (f := .glo "_law_places") rfl)
  g_l_aim := He.glo_ok X G (c.fact 34 (f := .glo "_law_aim") rfl)
  g_l_some := He.glo_ok X G (c.fact 35 (f := .glo "_law_some") rfl)
  g_l_free := He.glo_ok X G (c.fact 36 (f := .glo "_law_free") rfl)
  g_l_held := He.glo_ok X G (c.fact 37 (f := .glo "_law_held") rfl)
  g_l_both := He.glo_ok X G (c.fact 38 (f := .glo "_law_both") rfl)
  g_law := He.glo_ok X G (c.fact 39 (f := .glo "law") rfl)
  g_ForeworthError := He.glo_ok X G (c.fact 40 (f := .glo "ForeworthError") rfl)
  g_BadNode := He.glo_ok X G (c.fact 41 (f := .glo "BadNode") rfl)
  g_Unreachable := He.glo_ok X G (c.fact 42 (f := .glo "Unreachable") rfl)
  g_NoEnd := He.glo_ok X G (c.fact 43 (f := .glo "NoEnd") rfl)
  g_BadRun := He.glo_ok X G (c.fact 44 (f := .glo "BadRun") rfl)
  g_NotStanding := He.glo_ok X G (c.fact 45 (f := .glo "NotStanding") rfl)
  g_Graph := He.glo_ok X G (c.fact 46 (f := .glo "Graph") rfl)
  g_Machine := He.glo_ok X G (c.fact 47 (f := .glo "Machine") rfl)
  z_len := He.free_ok X G (c.fact 48 (f := .free "len") rfl)
  z_abs := He.free_ok X G (c.fact 49 (f := .free "abs") rfl)
  z_range := He.free_ok X G (c.fact 50 (f := .free "range") rfl)
  z_int := He.free_ok X G (c.fact 51 (f := .free "int") rfl)
  z_sorted := He.free_ok X G (c.fact 52 (f := .free "sorted") rfl)
  z_set := He.free_ok X G (c.fact 53 (f := .free "set") rfl)
  z_sum := He.free_ok X G (c.fact 54 (f := .free "sum") rfl)
  z_tuple := He.free_ok X G (c.fact 55 (f := .free "tuple") rfl)
  z_isinstance := He.free_ok X G (c.fact 56 (f := .free "isinstance") rfl)
  z_bool := He.free_ok X G (c.fact 57 (f := .free "bool") rfl)
  z_list := He.free_ok X G (c.fact 58 (f := .free "list") rfl)
  z_super := He.free_ok X G (c.fact 59 (f := .free "super") rfl)
  z_ValueError := He.free_ok X G (c.fact 60 (f := .free "ValueError") rfl)
  k_END := He.int_ok X G (c.fact 61 (f := .int "END" (-1)) rfl)
  cl_Graph := He.cls_ok (c.fact 62 (f := .cls "Graph") rfl)
  mk_Graph := He.mkr_ok (c.fact 63 (f := .mkr "Graph") rfl)
  na_Graph_size := He.noat_ok (c.fact 64 (f := .noat "Graph" "size") rfl)
  na_Graph_rows := He.noat_ok (c.fact 65 (f := .noat "Graph" "_rows") rfl)
  me_Graph_price := He.meth_ok (c.fact 66 (f := .meth "Graph" "price") rfl)
  me_Graph_successors := He.meth_ok (c.fact 67 (f := .meth "Graph" "successors") rfl)
  cl_Machine := He.cls_ok (c.fact 68 (f := .cls "Machine") rfl)
  mk_Machine := He.mkr_ok (c.fact 69 (f := .mkr "Machine") rfl)
  na_Machine_graph := He.noat_ok (c.fact 70 (f := .noat "Machine" "graph") rfl)
  na_Machine_team := He.noat_ok (c.fact 71 (f := .noat "Machine" "team") rfl)
  na_Machine_steps := He.noat_ok (c.fact 72 (f := .noat "Machine" "steps") rfl)
  na_Machine_named := He.noat_ok (c.fact 73 (f := .noat "Machine" "named") rfl)
  na_Machine_bill := He.noat_ok (c.fact 74 (f := .noat "Machine" "bill") rfl)
  me_Machine_at := He.meth_ok (c.fact 75 (f := .meth "Machine" "at") rfl)
  me_Machine_beat := He.meth_ok (c.fact 76 (f := .meth "Machine" "beat") rfl)
  me_Machine_done := He.meth_ok (c.fact 77 (f := .meth "Machine" "done") rfl)
  me_Machine_place_of := He.meth_ok (c.fact 78 (f := .meth "Machine" "place_of") rfl)
  f_is_name := c.def_ 0 (d := d_is_name) rfl
  f_distinct := c.def_ 1 (d := d_distinct) rfl
  f_copied := c.def_ 2 (d := d_copied) rfl
  f_Graph_init := c.def_ 3 (d := d_Graph_init) rfl
  f_Graph_price := c.def_ 4 (d := d_Graph_price) rfl
  f_Graph_successors := c.def_ 5 (d := d_Graph_successors) rfl
  f_check_rows := c.def_ 6 (d := d_check_rows) rfl
  f_is_good_row := c.def_ 7 (d := d_is_good_row) rfl
  f_check_reached := c.def_ 8 (d := d_check_reached) rfl
  f_check_ends := c.def_ 9 (d := d_check_ends) rfl
  f_nexts_of := c.def_ 10 (d := d_nexts_of) rfl
  f_backs_of := c.def_ 11 (d := d_backs_of) rfl
  f_spread := c.def_ 12 (d := d_spread) rfl
  f_check_team := c.def_ 13 (d := d_check_team) rfl
  f_fault_place := c.def_ 14 (d := d_fault_place) rfl
  f_Machine_init := c.def_ 15 (d := d_Machine_init) rfl
  f_Machine_over := c.def_ 16 (d := d_Machine_over) rfl
  f_Machine_place_of := c.def_ 17 (d := d_Machine_place_of) rfl
  f_Machine_done := c.def_ 18 (d := d_Machine_done) rfl
  f_Machine_at := c.def_ 19 (d := d_Machine_at) rfl
  f_Machine_beat := c.def_ 20 (d := d_Machine_beat) rfl
  f_prefix_length := c.def_ 21 (d := d_prefix_length) rfl
  f_prefixes := c.def_ 22 (d := d_prefixes) rfl
  f_is_complete := c.def_ 23 (d := d_is_complete) rfl
  f_l_cell := c.def_ 24 (d := d_l_cell) rfl
  f_l_digits := c.def_ 25 (d := d_l_digits) rfl
  f_l_seed := c.def_ 26 (d := d_l_seed) rfl
  f_l_word := c.def_ 27 (d := d_l_word) rfl
  f_l_price := c.def_ 28 (d := d_l_price) rfl
  f_l_open := c.def_ 29 (d := d_l_open) rfl
  f_l_block := c.def_ 30 (d := d_l_block) rfl
  f_l_exit := c.def_ 31 (d := d_l_exit) rfl
  f_l_tame := c.def_ 32 (d := d_l_tame) rfl
  f_l_numbered := c.def_ 33 (d := d_l_numbered) rfl
  f_l_any := c.def_ 34 (d := d_l_any) rfl
  f_l_home := c.def_ 35 (d := d_l_home) rfl
  f_l_run := c.def_ 36 (d := d_l_run) rfl
  f_l_team := c.def_ 37 (d := d_l_team) rfl
  f_l_prefix := c.def_ 38 (d := d_l_prefix) rfl
  f_l_price_of := c.def_ 39 (d := d_l_price_of) rfl
  f_l_is_int := c.def_ 40 (d := d_l_is_int) rfl
  f_l_ints := c.def_ 41 (d := d_l_ints) rfl
  f_l_places := c.def_ 42 (d := d_l_places) rfl
  f_l_aim := c.def_ 43 (d := d_l_aim) rfl
  f_l_some := c.def_ 44 (d := d_l_some) rfl
  f_l_free := c.def_ 45 (d := d_l_free) rfl
  f_l_held := c.def_ 46 (d := d_l_held) rfl
  f_l_both := c.def_ 47 (d := d_l_both) rfl
  f_law := c.def_ 48 (d := d_law) rfl
  pr_Machine_over := c.prop 0 rfl

end K34

/-! Least layings: the mathematics, without any program. -/
namespace Lay
/-! ### sums -/
def cost (w : Int → Int) (T : List Int) : Int := (T.map w).sum
theorem cost_nil (w : Int → Int) : cost w [] = 0 := rfl
theorem cost_cons (w : Int → Int) (t : Int) (T : List Int) : cost w (t :: T) = w t + cost w T := by
  unfold cost; rw [List.map_cons, List.sum_cons]
theorem cost_nonneg {w : Int → Int} (hw : ∀ c, 0 ≤ w c) : ∀ T : List Int, 0 ≤ cost w T
  | [] => by rw [cost_nil]; omega
  | t :: T => by have h1 := hw t; have h2 := cost_nonneg hw T; rw [cost_cons]; omega
theorem cost_erase {w : Int → Int} {x : Int} : ∀ {T : List Int}, x ∈ T → cost w T = w x + cost w (T.erase x)
  | [], h => by cases h
  | t :: T, h => by
    by_cases e : t = x
    · subst e
      rw [List.erase_cons_head, cost_cons]
    · have hx : x ∈ T := by
        rcases List.mem_cons.mp h with q | q
        · exact absurd q.symm e
        · exact q
      have ih := cost_erase (w := w) hx
      rw [List.erase_cons_tail (by simpa using e), cost_cons, cost_cons, ih]
      omega
theorem cost_sub {w : Int → Int} (hw : ∀ c, 0 ≤ w c) : ∀ {l T : List Int}, l.Nodup → (∀ x ∈ l, x ∈ T) → cost w l ≤ cost w T
  | [], T, _, _ => by rw [cost_nil]; exact cost_nonneg hw T
  | x :: l, T, hn, hs => by
    have hx : x ∈ T := hs x (List.mem_cons_self ..)
    have hn2 := List.nodup_cons.mp hn
    have ih := cost_sub hw (l := l) (T := T.erase x) hn2.2 (fun y hy => (List.mem_erase_of_ne (fun e => hn2.1 (by rw [← e]; exact hy))).mpr (hs y (List.mem_cons_of_mem _ hy)))
    rw [cost_cons, cost_erase hx]
    omega
theorem cost_map {w : Int → Int} {f : Int → Int} (h : ∀ c, w (f c) = w c) (T : List Int) : cost w (T.map f) = cost w T := by
  unfold cost
  rw [List.map_map]
  exact congrArg List.sum (List.map_congr_left fun c _ => h c)
theorem cost_append (w : Int → Int) (S T : List Int) : cost w (S ++ T) = cost w S + cost w T := by
  unfold cost; rw [List.map_append, List.sum_append]
theorem emod_le_self {a k : Int} (ha : 0 ≤ a) (hk : 0 ≤ k) : a % k ≤ a := by
  have h1 := Int.mul_ediv_add_emod a k
  have h2 := Int.mul_nonneg hk (Int.ediv_nonneg ha hk)
  omega
/-! ### lines, coordinates -/
/-- the positions of a stay -/
def line (k : Int) (d : Int) : Nat → List Int
  | 0 => []
  | l + 1 => d % k :: line k (d + 1) l
theorem line_eq (k d : Int) : ∀ l, line k d l = (List.range l).map fun j : Nat => (d + j) % k
  | 0 => rfl
  | l + 1 => by
    rw [List.range_succ_eq_map, List.map_cons, List.map_map]
    show d % k :: line k (d + 1) l = _
    rw [line_eq k (d + 1) l]
    have e0 : d + ((0 : Nat) : Int) = d := by omega
    rw [e0]
    refine congrArg _ (List.map_congr_left fun j _ => ?_)
    show (d + 1 + (j : Int)) % k = (d + ((j + 1 : Nat) : Int)) % k
    congr 1
    omega
def at_ (k b : Int) (c : Int) : Bool := decide (c % k = b % k)
def coords (k : Int) : List Int → List Int
  | [] => []
  | b :: S => (match (coords k S).find? (at_ k (b + 1)) with | some c => c - 1 | none => b) :: coords k S
def co1 (k b : Int) (cs : List Int) : Int := match cs.find? (at_ k (b + 1)) with | some c => c - 1 | none => b
theorem coords_cons (k b : Int) (S : List Int) : coords k (b :: S) = co1 k b (coords k S) :: coords k S := rfl
theorem co1_mod (k b : Int) (cs : List Int) : co1 k b cs % k = b % k := by
  unfold co1
  split
  · rename_i c h
    have h2 : at_ k (b + 1) c = true := List.find?_some h
    have h3 : c % k = (b + 1) % k := of_decide_eq_true h2
    have h4 : (c - 1) % k = (b + 1 - 1) % k := (Int.emod_sub_cancel_right 1).mpr h3
    rw [h4, Int.add_sub_cancel]
  · rfl
theorem coords_mod (k : Int) : ∀ S : List Int, (coords k S).map (· % k) = S.map (· % k)
  | [] => rfl
  | b :: S => by
    rw [coords_cons, List.map_cons, List.map_cons, coords_mod k S]
    show co1 k b (coords k S) % k :: _ = _
    rw [co1_mod]
theorem coords_cost {k : Int} {w : Int → Int} (hw : ∀ c, w (c % k) = w c) (S : List Int) : cost w (coords k S) = cost w S := by
  have e := congrArg (cost w) (coords_mod k S)
  rw [cost_map (f := (· % k)) hw, cost_map (f := (· % k)) hw] at e
  exact e
theorem at_self {k b c : Int} (h : c % k = b % k) : at_ k b c = true := decide_eq_true h
theorem coords_line {k : Int} : ∀ (S : List Int) (d : Int) (l : Nat), (∀ b ∈ S, b % k = b) → (line k d (l + 1)).Sublist S →
    ∃ x, (coords k S).find? (at_ k d) = some x ∧ ∀ j : Nat, j < l + 1 → x + j ∈ coords k S
  | [], d, l, _, h => by
    have h2 := h.length_le
    simp [line] at h2
  | b :: S, d, l, hb, h => by
    have hb2 : ∀ c ∈ S, c % k = c := fun c hc => hb c (List.mem_cons_of_mem _ hc)
    have hbb : b % k = b := hb b (List.mem_cons_self ..)
    rw [coords_cons]
    by_cases e : b = d % k
    · have ebd : b % k = d % k := by rw [e, Int.emod_emod]
      have hat : at_ k d (co1 k b (coords k S)) = true := at_self (by rw [co1_mod, ebd])
      refine ⟨co1 k b (coords k S), by rw [List.find?_cons, hat], fun j hj => ?_⟩
      cases j with
      | zero =>
        have e0 : co1 k b (coords k S) + ((0 : Nat) : Int) = co1 k b (coords k S) := by omega
        rw [e0]
        exact List.mem_cons_self ..
      | succ j =>
        obtain ⟨l, rfl⟩ : ∃ m, l = m + 1 := ⟨l - 1, by omega⟩
        have hs : (line k (d + 1) (l + 1)).Sublist S := by
          have h3 : (d % k :: line k (d + 1) (l + 1)).Sublist (b :: S) := h
          rw [← e] at h3
          exact h3.of_cons_cons
        obtain ⟨x, hx, hm⟩ := coords_line S (d + 1) l hb2 hs
        have e1 : at_ k (b + 1) = at_ k (d + 1) := by
          funext c
          unfold at_
          have e2 : (b + 1) % k = (d + 1) % k := by rw [Int.add_emod, ebd, ← Int.add_emod]
          rw [e2]
        have e3 : co1 k b (coords k S) = x - 1 := by
          unfold co1
          rw [e1, hx]
        refine List.mem_cons_of_mem _ ?_
        have h4 := hm j (by omega)
        rw [e3]
        have e5 : x - 1 + ((j + 1 : Nat) : Int) = x + (j : Int) := by omega
        rw [e5]
        exact h4
    · have hs : (line k d (l + 1)).Sublist S := by
        have h3 : (d % k :: line k (d + 1) l).Sublist (b :: S) := h
        cases h3 with
        | cons _ q => exact q
        | cons_cons _ q => exact absurd rfl e
      obtain ⟨x, hx, hm⟩ := coords_line S d l hb2 hs
      have hat : at_ k d (co1 k b (coords k S)) = false := by
        refine decide_eq_false ?_
        rw [co1_mod, hbb]
        exact e
      exact ⟨x, by rw [List.find?_cons, hat]; exact hx, fun j hj => List.mem_cons_of_mem _ (hm j hj)⟩
/-! ### moving the upper part -/
abbrev Pl := List (Int × Nat)
def Cov (pl : Pl) (T : List Int) : Prop := ∀ q ∈ pl, ∀ j : Nat, j < q.2 → q.1 + j ∈ T
theorem below (T : List Int) (a : Int) : ∃ B, B < a ∧ ∀ t ∈ T, B < t := by
  induction T with
  | nil => exact ⟨a - 1, by omega, fun t ht => by cases ht⟩
  | cons t T ih =>
    obtain ⟨B, h1, h2⟩ := ih
    refine ⟨min B (t - 1), by omega, fun u hu => ?_⟩
    rcases List.mem_cons.mp hu with e | e
    · subst e; omega
    · have := h2 u e; omega
theorem gap_at {T : List Int} {B : Int} (hB : ∀ t ∈ T, B < t) : ∀ (n : Nat) (M : Int), M - B ≤ n → B < M → ∃ g, g < M ∧ g ∉ T ∧ ∀ x, g < x → x < M → x ∈ T
  | 0, M, h1, h2 => by omega
  | n + 1, M, h1, h2 => by
    by_cases h : M - 1 ∈ T
    · have h3 := hB _ h
      obtain ⟨g, g1, g2, g3⟩ := gap_at hB n (M - 1) (by omega) h3
      refine ⟨g, by omega, g2, fun x x1 x2 => ?_⟩
      by_cases e : x = M - 1
      · rw [e]; exact h
      · exact g3 x x1 (by omega)
    · exact ⟨M - 1, by omega, h, fun x x1 x2 => by omega⟩
theorem max_of : ∀ pl : Pl, pl ≠ [] → ∃ q ∈ pl, ∀ r ∈ pl, r.1 ≤ q.1
  | [], h => absurd rfl h
  | [q], _ => ⟨q, List.mem_cons_self .., fun r hr => by
    rw [List.mem_singleton.mp hr]
    exact Int.le_refl _⟩
  | q :: r :: pl, _ => by
    obtain ⟨m, hm, h⟩ := max_of (r :: pl) (List.cons_ne_nil _ _)
    by_cases e : m.1 ≤ q.1
    · refine ⟨q, List.mem_cons_self .., fun z hz => ?_⟩
      rcases List.mem_cons.mp hz with e2 | e2
      · rw [e2]; exact Int.le_refl _
      · exact Int.le_trans (h z e2) e
    · refine ⟨m, List.mem_cons_of_mem _ hm, fun z hz => ?_⟩
      rcases List.mem_cons.mp hz with e2 | e2
      · rw [e2]; omega
      · exact h z e2
theorem min_over (g : Int) : ∀ pl : Pl, (∃ q ∈ pl, g < q.1) → ∃ q ∈ pl, g < q.1 ∧ ∀ r ∈ pl, g < r.1 → q.1 ≤ r.1
  | [], ⟨q, hq, _⟩ => by cases hq
  | q :: pl, h => by
    by_cases hpl : ∃ r ∈ pl, g < r.1
    · obtain ⟨m, hm, hg, hmin⟩ := min_over g pl hpl
      by_cases e : g < q.1 ∧ q.1 ≤ m.1
      · refine ⟨q, List.mem_cons_self .., e.1, fun r hr hr2 => ?_⟩
        rcases List.mem_cons.mp hr with e2 | e2
        · rw [e2]; exact Int.le_refl _
        · exact Int.le_trans e.2 (hmin r e2 hr2)
      · refine ⟨m, List.mem_cons_of_mem _ hm, hg, fun r hr hr2 => ?_⟩
        rcases List.mem_cons.mp hr with e2 | e2
        · subst e2
          by_cases e3 : r.1 ≤ m.1
          · exact absurd ⟨hr2, e3⟩ e
          · omega
        · exact hmin r e2 hr2
    · obtain ⟨r, hr, hr2⟩ := h
      rcases List.mem_cons.mp hr with e2 | e2
      · subst e2
        refine ⟨r, List.mem_cons_self .., hr2, fun z hz hz2 => ?_⟩
        rcases List.mem_cons.mp hz with e3 | e3
        · rw [e3]; exact Int.le_refl _
        · exact absurd ⟨z, e3, hz2⟩ hpl
      · exact absurd ⟨r, e2, hr2⟩ hpl
/-- how far the starts lie above a -/
def span (a : Int) : Pl → Nat
  | [] => 0
  | q :: pl => (q.1 - a).toNat + span a pl
def down (g k : Int) (q : Int × Nat) : Int × Nat := if g < q.1 then (q.1 - k, q.2) else q
theorem span_down {a g k : Int} (hk : 0 < k) : ∀ pl : Pl, span a (pl.map (down g k)) ≤ span a pl
  | [] => Nat.le_refl _
  | q :: pl => by
    have ih := span_down (a := a) (g := g) hk pl
    show ((down g k q).1 - a).toNat + span a (pl.map (down g k)) ≤ (q.1 - a).toNat + span a pl
    unfold down
    by_cases e : g < q.1
    · rw [if_pos e]
      show (q.1 - k - a).toNat + _ ≤ _
      unfold down at ih
      omega
    · rw [if_neg e]
      unfold down at ih
      omega
theorem span_down_lt {a g k : Int} (hk : 0 < k) : ∀ pl : Pl, (∃ q ∈ pl, g < q.1 ∧ a < q.1) → span a (pl.map (down g k)) < span a pl
  | [], ⟨q, hq, _⟩ => by cases hq
  | q :: pl, h => by
    have hle := span_down (a := a) (g := g) hk pl
    show ((down g k q).1 - a).toNat + span a (pl.map (down g k)) < (q.1 - a).toNat + span a pl
    obtain ⟨r, hr, h1, h2⟩ := h
    by_cases hq : g < q.1 ∧ a < q.1
    · have e : down g k q = (q.1 - k, q.2) := if_pos hq.1
      rw [e]
      show (q.1 - k - a).toNat + _ < _
      have := hq.2
      omega
    · have hr2 : r ∈ pl := by
        rcases List.mem_cons.mp hr with e2 | e2
        · subst e2; exact absurd ⟨h1, h2⟩ hq
        · exact e2
      have ih := span_down_lt (a := a) (g := g) hk pl ⟨r, hr2, h1, h2⟩
      have h3 : ((down g k q).1 - a).toNat ≤ (q.1 - a).toNat := by
        unfold down
        by_cases e : g < q.1
        · rw [if_pos e]
          show (q.1 - k - a).toNat ≤ _
          omega
        · rw [if_neg e]
          exact Nat.le_refl _
      omega
theorem cov_low {pl : Pl} {T : List Int} {g : Int} (hc : Cov pl T) (hg : g ∉ T) {q : Int × Nat} (hq : q ∈ pl) (h : q.1 ≤ g) {j : Nat} (hj : j < q.2) : q.1 + j ≤ g := by
  by_cases e : q.1 + j ≤ g
  · exact e
  · exfalso
    have h2 := hc q hq (g - q.1).toNat (by omega)
    have e2 : q.1 + ((g - q.1).toNat : Int) = g := by omega
    rw [e2] at h2
    exact hg h2
theorem together {k : Int} (hk : 0 < k) {w : Int → Int} (hw : ∀ c, w (c + k) = w c) (a : Int) : ∀ (n : Nat) (pl : Pl) (T : List Int), span a pl ≤ n → pl ≠ [] → (∀ q ∈ pl, a ≤ q.1) → Cov pl T →
    ∃ (z : Int) (T2 : List Int), (∃ q ∈ pl, q.1 % k = z % k) ∧ cost w T2 = cost w T ∧ ∀ q ∈ pl, ∀ j : Nat, j < q.2 → z + (q.1 - z) % k + j ∈ T2 := by
  intro n
  induction n with
  | zero => exact fun pl T h hne ha hc => core hk hw a 0 (fun pl2 T2 h2 => absurd h2 (Nat.not_lt_zero _)) pl T h hne ha hc
  | succ n ih => exact fun pl T h hne ha hc => core hk hw a (n + 1) (fun pl2 T2 h2 => ih pl2 T2 (Nat.le_of_lt_succ h2)) pl T h hne ha hc
where
  core {k : Int} (hk : 0 < k) {w : Int → Int} (hw : ∀ c, w (c + k) = w c) (a : Int) (n : Nat)
      (ih : ∀ (pl : Pl) (T : List Int), span a pl < n → pl ≠ [] → (∀ q ∈ pl, a ≤ q.1) → Cov pl T →
        ∃ (z : Int) (T2 : List Int), (∃ q ∈ pl, q.1 % k = z % k) ∧ cost w T2 = cost w T ∧ ∀ q ∈ pl, ∀ j : Nat, j < q.2 → z + (q.1 - z) % k + j ∈ T2)
      (pl : Pl) (T : List Int) (h : span a pl ≤ n) (hne : pl ≠ []) (ha : ∀ q ∈ pl, a ≤ q.1) (hc : Cov pl T) :
      ∃ (z : Int) (T2 : List Int), (∃ q ∈ pl, q.1 % k = z % k) ∧ cost w T2 = cost w T ∧ ∀ q ∈ pl, ∀ j : Nat, j < q.2 → z + (q.1 - z) % k + j ∈ T2 := by
    obtain ⟨m, hm, hmax⟩ := max_of pl hne
    obtain ⟨B, hB1, hB2⟩ := below T m.1
    obtain ⟨g, g1, g2, g3⟩ := gap_at hB2 (m.1 - B).toNat m.1 (by omega) hB1
    obtain ⟨r, hr, hr1, hr2⟩ := min_over g pl ⟨m, hm, g1⟩
    by_cases hlow : ∀ q ∈ pl, q.1 ≤ g → r.1 - k ≤ q.1
    · refine ⟨r.1, T.map (fun t => if t ≤ g then t + k else t), ⟨r, hr, rfl⟩, ?_, fun q hq j hj => ?_⟩
      · refine cost_map (fun c => ?_) T
        by_cases e : c ≤ g
        · rw [if_pos e, hw]
        · rw [if_neg e]
      · by_cases e : q.1 ≤ g
        · have h1 := hlow q hq e
          have h2 := cov_low hc g2 hq e hj
          have e2 : (q.1 - r.1) % k = q.1 - r.1 + k := by
            have e3 : (q.1 - r.1 + k) % k = (q.1 - r.1) % k := by rw [Int.add_emod_right]
            rw [← e3]
            exact Int.emod_eq_of_lt (by omega) (by omega)
          rw [e2]
          refine List.mem_map.mpr ⟨q.1 + j, hc q hq j hj, ?_⟩
          rw [if_pos h2]
          omega
        · have h1 := hr2 q hq (by omega)
          have h2 : (q.1 - r.1) % k ≤ q.1 - r.1 := emod_le_self (by omega) (by omega)
          have h3 : 0 ≤ (q.1 - r.1) % k := Int.emod_nonneg _ (by omega)
          have hin : r.1 + (q.1 - r.1) % k + j ∈ T := by
            by_cases e3 : r.1 + (q.1 - r.1) % k + j < m.1
            · exact g3 _ (by omega) e3
            · have h4 := hmax q hq
              have h5 := hc q hq (r.1 + (q.1 - r.1) % k + j - q.1).toNat (by omega)
              have e4 : q.1 + ((r.1 + (q.1 - r.1) % k + j - q.1).toNat : Int) = r.1 + (q.1 - r.1) % k + j := by omega
              rw [e4] at h5
              exact h5
          refine List.mem_map.mpr ⟨_, hin, ?_⟩
          rw [if_neg (by omega)]
    · have hlow2 : ∃ q ∈ pl, q.1 ≤ g ∧ q.1 < r.1 - k := by
        refine Classical.byContradiction fun hn => hlow fun q hq h1 => ?_
        refine Classical.byContradiction fun h2 => hn ⟨q, hq, h1, by omega⟩
      obtain ⟨y, hy, hy1, hy2⟩ := hlow2
      have hya := ha y hy
      have hc2 : Cov (pl.map (down g k)) (T.map (fun t => if g < t then t - k else t)) := by
        intro q2 hq2 j hj
        obtain ⟨q, hq, rfl⟩ := List.mem_map.mp hq2
        unfold down at hj ⊢
        by_cases e : g < q.1
        · rw [if_pos e] at hj ⊢
          refine List.mem_map.mpr ⟨q.1 + j, hc q hq j hj, ?_⟩
          rw [if_pos (by omega)]
          show q.1 + j - k = q.1 - k + j
          omega
        · rw [if_neg e] at hj ⊢
          have h2 := cov_low hc g2 hq (by omega) hj
          refine List.mem_map.mpr ⟨q.1 + j, hc q hq j hj, ?_⟩
          rw [if_neg (by omega)]
      have ha2 : ∀ q ∈ pl.map (down g k), a ≤ q.1 := by
        intro q2 hq2
        obtain ⟨q, hq, rfl⟩ := List.mem_map.mp hq2
        have := ha q hq
        unfold down
        by_cases e : g < q.1
        · rw [if_pos e]
          show a ≤ q.1 - k
          have := hr2 q hq e
          omega
        · rw [if_neg e]
          exact this
      have hlt := span_down_lt (a := a) (g := g) hk pl ⟨r, hr, hr1, by omega⟩
      obtain ⟨z, T2, ⟨q0, hq0, hz⟩, hcost, hcov⟩ := ih (pl.map (down g k)) _ (by omega) (fun e => hne (List.map_eq_nil_iff.mp e)) ha2 hc2
      have hmod : ∀ q : Int × Nat, (down g k q).1 % k = q.1 % k := fun q => by
        unfold down
        by_cases e : g < q.1
        · rw [if_pos e]
          show (q.1 - k) % k = _
          exact Int.sub_emod_right q.1 k
        · rw [if_neg e]
      have hmod2 : ∀ q : Int × Nat, ((down g k q).1 - z) % k = (q.1 - z) % k := fun q => (Int.emod_sub_cancel_right z).mpr (hmod q)
      have hlen : ∀ q : Int × Nat, (down g k q).2 = q.2 := fun q => by
        unfold down
        by_cases e : g < q.1
        · rw [if_pos e]
        · rw [if_neg e]
      obtain ⟨q1, hq1, rfl⟩ := List.mem_map.mp hq0
      refine ⟨z, T2, ⟨q1, hq1, by rw [← hmod]; exact hz⟩, ?_, fun q hq j hj => ?_⟩
      · rw [hcost]
        refine cost_map (fun c => ?_) T
        by_cases e : g < c
        · rw [if_pos e]
          have := hw (c - k)
          rw [Int.sub_add_cancel] at this
          exact this.symm
        · rw [if_neg e]
      · have := hcov (down g k q) (List.mem_map_of_mem hq) j (by rw [hlen]; exact hj)
        rw [hmod2] at this
        exact this
end Lay

namespace Lay
/-! ### the price of the union from a door -/
def covd (k : Int) (st : Pl) (d : Int) (y : Nat) : Bool := st.any fun s => decide ((s.1 - d) % k ≤ (y : Int) ∧ (y : Int) < (s.1 - d) % k + s.2)
def ulist (k : Int) (st : Pl) (d : Int) (B : Nat) : List Int := ((List.range B).filter (covd k st d)).map fun y : Nat => d + y
def usum (w : Int → Int) (k : Int) (st : Pl) (d : Int) (B : Nat) : Int := cost w (ulist k st d B)
def Has (rests : List (List Int)) (S : List Int) : Prop := ∀ r ∈ rests, r.Sublist S
theorem ulist_nodup (k : Int) (st : Pl) (d : Int) (B : Nat) : (ulist k st d B).Nodup := by
  unfold ulist
  refine List.Pairwise.map _ (R := fun a b : Nat => a ≠ b) (fun a b h e => h ?_) ((List.nodup_range).filter _)
  omega
theorem mod_shift {k a b c : Int} (h : a % k = b % k) : (c + (a - b)) % k = c % k := by
  have h1 : (a - b) % k = (b - b) % k := (Int.emod_sub_cancel_right b).mpr h
  rw [Int.sub_self] at h1
  rw [Int.add_emod, h1, Int.zero_emod, Int.add_zero, Int.emod_emod]
theorem union_low {k : Int} (hk : 0 < k) {w : Int → Int} (hw0 : ∀ c, 0 ≤ w c) (hw : ∀ c, w (c % k) = w c) {st : Pl} (hne : st ≠ []) (hl : ∀ s ∈ st, 0 < s.2) {S : List Int} (hS : ∀ b ∈ S, b % k = b)
    (h : ∀ s ∈ st, (line k s.1 s.2).Sublist S) (B : Nat) : ∃ s ∈ st, usum w k st s.1 B ≤ cost w S := by
  have hper : ∀ c, w (c + k) = w c := fun c => by rw [← hw (c + k), Int.add_emod_right, hw]
  let f : Int × Nat → Int × Nat := fun s => (((coords k S).find? (at_ k s.1)).getD 0, s.2)
  have hf : ∀ s ∈ st, (f s).1 % k = s.1 % k ∧ ∀ j : Nat, j < s.2 → (f s).1 + j ∈ coords k S := by
    intro s hs
    obtain ⟨d, l⟩ := s
    have h1 := h _ hs
    have h2 := hl _ hs
    obtain ⟨m, rfl⟩ : ∃ m, l = m + 1 := ⟨l - 1, by have : 0 < l := h2; omega⟩
    obtain ⟨x, hx, hm⟩ := coords_line S d m hS h1
    have e : (f (d, m + 1)).1 = x := by
      show ((coords k S).find? (at_ k d)).getD 0 = x
      rw [hx]
      rfl
    rw [e]
    have hx2 : at_ k d x = true := List.find?_some hx
    exact ⟨of_decide_eq_true hx2, hm⟩
  obtain ⟨a, ha1, ha2⟩ := below ((st.map f).map (·.1)) 0
  obtain ⟨z, T2, ⟨q0, hq0, hz⟩, hcost, hcov⟩ := together hk hper a (span a (st.map f)) (st.map f) (coords k S) (Nat.le_refl _) (fun e => hne (List.map_eq_nil_iff.mp e))
    (fun q hq => Int.le_of_lt (ha2 q.1 (List.mem_map_of_mem hq))) (fun q hq j hj => by
      obtain ⟨s, hs, rfl⟩ := List.mem_map.mp hq
      exact (hf s hs).2 j hj)
  obtain ⟨s0, hs0, rfl⟩ := List.mem_map.mp hq0
  have hzs : s0.1 % k = z % k := by rw [← (hf s0 hs0).1]; exact hz
  refine ⟨s0, hs0, ?_⟩
  have e3 : cost w (T2.map (fun c => c + (s0.1 - z))) = cost w S := by
    rw [cost_map (fun c => ?_), hcost, coords_cost hw]
    rw [← hw (c + (s0.1 - z)), mod_shift hzs, hw]
  rw [← e3]
  refine cost_sub hw0 (ulist_nodup k st s0.1 B) fun x hx => ?_
  obtain ⟨y, hy, rfl⟩ := List.mem_map.mp hx
  have hy2 := (List.mem_filter.mp hy).2
  obtain ⟨s, hs, hs2⟩ := List.any_eq_true.mp hy2
  have hs3 := of_decide_eq_true hs2
  have e4 : ((f s).1 - z) % k = (s.1 - s0.1) % k := by
    rw [Int.sub_emod, (hf s hs).1, ← hzs, ← Int.sub_emod]
  have h5 := hcov (f s) (List.mem_map_of_mem hs) ((y : Int) - (s.1 - s0.1) % k).toNat (by
    show ((y : Int) - (s.1 - s0.1) % k).toNat < s.2
    omega)
  rw [e4] at h5
  refine List.mem_map.mpr ⟨_, h5, ?_⟩
  omega
theorem range_mid (o l B : Nat) (h : o + l ≤ B) : (List.range' o l).Sublist (List.range B) := by
  rw [List.range_eq_range']
  have e : List.range' 0 B = List.range' 0 o ++ (List.range' o l ++ List.range' (o + l) (B - (o + l))) := by
    have e1 : List.range' o l ++ List.range' (o + l) (B - (o + l)) = List.range' o (l + (B - (o + l))) := by
      have := List.range'_append (s := o) (m := l) (n := B - (o + l)) (step := 1)
      rw [Nat.one_mul] at this
      exact this
    have e2 : List.range' 0 o ++ List.range' o (l + (B - (o + l))) = List.range' 0 (o + (l + (B - (o + l)))) := by
      have := List.range'_append (s := 0) (m := o) (n := l + (B - (o + l))) (step := 1)
      rw [Nat.one_mul, Nat.zero_add] at this
      exact this
    rw [e1, e2]
    congr 1
    omega
  rw [e]
  exact (List.sublist_append_left _ _).trans (List.sublist_append_right _ _)
theorem union_has {k : Int} (hk : 0 < k) (st : Pl) (d : Int) (B : Nat) {s : Int × Nat} (hs : s ∈ st) (hB : (s.1 - d) % k + s.2 ≤ (B : Int)) : (line k s.1 s.2).Sublist ((ulist k st d B).map (· % k)) := by
  have h0 : 0 ≤ (s.1 - d) % k := Int.emod_nonneg _ (by omega)
  obtain ⟨o, ho⟩ : ∃ o : Nat, (s.1 - d) % k = o := ⟨((s.1 - d) % k).toNat, by omega⟩
  have e1 : line k s.1 s.2 = (List.range' o s.2).map fun y : Nat => (d + y) % k := by
    rw [line_eq, List.range'_eq_map_range, List.map_map]
    refine List.map_congr_left fun j _ => ?_
    show (s.1 + (j : Int)) % k = (d + ((o + j : Nat) : Int)) % k
    have e2 : d + ((o + j : Nat) : Int) = d + j + (s.1 - d) % k := by omega
    rw [e2, Int.add_emod (d + j), Int.emod_emod, ← Int.add_emod]
    congr 1
    omega
  rw [e1]
  unfold ulist
  rw [List.map_map]
  refine List.Sublist.map _ ?_
  have e3 : (List.range' o s.2).filter (covd k st d) = List.range' o s.2 := by
    refine List.filter_eq_self.mpr fun y hy => ?_
    have hy2 := List.mem_range'_1.mp hy
    refine List.any_eq_true.mpr ⟨s, hs, decide_eq_true ?_⟩
    omega
  rw [← e3]
  exact (range_mid o s.2 B (by omega)).filter _
/-! ### the least price of a list that contains all rows -/
def Least (w : Int → Int) (rests : List (List Int)) (v : Int) : Prop := (∃ S, Has rests S ∧ cost w S = v) ∧ ∀ S, Has rests S → v ≤ cost w S
theorem Least.eq {w : Int → Int} {rests : List (List Int)} {u v : Int} (a : Least w rests u) (b : Least w rests v) : u = v := by
  obtain ⟨⟨S, h1, h2⟩, h3⟩ := a
  obtain ⟨⟨T, h4, h5⟩, h6⟩ := b
  have := h3 T h4
  have := h6 S h1
  omega
def adv (b : Int) : List Int → List Int
  | [] => []
  | x :: r => if x = b then r else x :: r
theorem adv_cons (b x : Int) (r : List Int) : adv b (x :: r) = if x = b then r else x :: r := rfl
theorem least_end {w : Int → Int} (hw : ∀ c, 0 ≤ w c) {rests : List (List Int)} (h : ∀ r ∈ rests, r = []) : Least w rests 0 :=
  ⟨⟨[], fun r hr => by rw [h r hr]; exact List.Sublist.refl _, cost_nil w⟩, fun S _ => cost_nonneg hw S⟩
theorem adv_has {b : Int} {rests : List (List Int)} {S : List Int} (h : Has rests (b :: S)) : Has (rests.map (adv b)) S := by
  intro r hr
  obtain ⟨q, hq, rfl⟩ := List.mem_map.mp hr
  have h1 := h q hq
  cases q with
  | nil => exact List.nil_sublist _
  | cons x q =>
    rw [adv_cons]
    by_cases e : x = b
    · rw [if_pos e]
      rw [e] at h1
      exact h1.of_cons_cons
    · rw [if_neg e]
      cases h1 with
      | cons _ z => exact z
      | cons_cons _ z => exact absurd rfl e
theorem has_adv {b : Int} {rests : List (List Int)} {S : List Int} (h : Has (rests.map (adv b)) S) : Has rests (b :: S) := by
  intro q hq
  have h1 := h (adv b q) (List.mem_map_of_mem hq)
  cases q with
  | nil => exact List.nil_sublist _
  | cons x q =>
    rw [adv_cons] at h1
    by_cases e : x = b
    · rw [if_pos e] at h1
      rw [e]
      exact h1.cons_cons b
    · rw [if_neg e] at h1
      exact h1.cons b
theorem least_step {w : Int → Int} (hw : ∀ c, 0 ≤ w c) {rests : List (List Int)} {v : Int}
    (h1 : ∃ r ∈ rests, ∃ b q u, r = b :: q ∧ Least w (rests.map (adv b)) u ∧ v = w b + u)
    (h2 : ∀ r ∈ rests, ∀ b q, r = b :: q → ∃ u, Least w (rests.map (adv b)) u ∧ v ≤ w b + u) : Least w rests v := by
  obtain ⟨r0, hr0, b0, q0, u0, e0, L0, ev⟩ := h1
  constructor
  · obtain ⟨S, hS, hc⟩ := L0.1
    exact ⟨b0 :: S, has_adv hS, by rw [cost_cons, hc, ev]⟩
  · intro S
    induction S with
    | nil =>
      intro h
      have := (h r0 hr0).length_le
      rw [e0] at this
      simp at this
    | cons c S ih =>
      intro h
      by_cases hc : ∃ r ∈ rests, ∃ q, r = c :: q
      · obtain ⟨r, hr, q, e⟩ := hc
        obtain ⟨u, Lu, hu⟩ := h2 r hr c q e
        have := Lu.2 S (adv_has h)
        rw [cost_cons]
        omega
      · have hS : Has rests S := fun r hr => by
          have h3 := h r hr
          cases r with
          | nil => exact List.nil_sublist _
          | cons x q =>
            cases h3 with
            | cons _ z => exact z
            | cons_cons _ z => exact absurd ⟨_, hr, _, rfl⟩ hc
        have := ih hS
        have := hw c
        rw [cost_cons]
        omega
theorem line_mod (k : Int) : ∀ (l : Nat) (d : Int), (line k d l).map (· % k) = line k d l
  | 0, _ => rfl
  | l + 1, d => by
    show (d % k) % k :: (line k (d + 1) l).map (· % k) = _
    rw [line_mod k l, Int.emod_emod]
    rfl
/-- the least price of a list that contains all stays is the least price of a union from one of their doors -/
theorem laying_least {k : Int} (hk : 0 < k) {w : Int → Int} (hw0 : ∀ c, 0 ≤ w c) (hw : ∀ c, w (c % k) = w c) {st : Pl} (hne : st ≠ []) (hl : ∀ s ∈ st, 0 < s.2) {v : Int} (L : Least w (st.map fun s => line k s.1 s.2) v)
    (B : Nat) (hB : ∀ s ∈ st, k + s.2 ≤ (B : Int)) : (∃ s ∈ st, usum w k st s.1 B ≤ v) ∧ ∀ s ∈ st, v ≤ usum w k st s.1 B := by
  constructor
  · obtain ⟨S, hS, hc⟩ := L.1
    have hS2 : ∀ s ∈ st, (line k s.1 s.2).Sublist (S.map (· % k)) := fun s hs => by
      have h1 := (hS _ (List.mem_map_of_mem hs)).map (· % k)
      rw [line_mod] at h1
      exact h1
    obtain ⟨s, hs, h⟩ := union_low hk hw0 hw hne hl (S := S.map (· % k)) (fun b hb => by
      obtain ⟨c, _, rfl⟩ := List.mem_map.mp hb
      exact Int.emod_emod _ _) hS2 B
    refine ⟨s, hs, ?_⟩
    rw [cost_map hw, hc] at h
    exact h
  · intro s hs
    have h := L.2 ((ulist k st s.1 B).map (· % k)) (fun r hr => by
      obtain ⟨q, hq, rfl⟩ := List.mem_map.mp hr
      refine union_has hk st s.1 B hq ?_
      have h1 := hB q hq
      have h2 := Int.emod_lt_of_pos (q.1 - s.1) hk
      omega)
    rw [cost_map hw] at h
    exact h
end Lay

namespace Lay
/-! ### sums over stretches of whole numbers -/
def seg (w : Int → Int) (a b : Int) : Int := ((List.range (b - a).toNat).map fun i : Nat => w (a + i)).sum
theorem seg_nil (w : Int → Int) {a b : Int} (h : b ≤ a) : seg w a b = 0 := by
  unfold seg
  have e : (b - a).toNat = 0 := by omega
  rw [e]
  rfl
theorem seg_snoc (w : Int → Int) {a b : Int} (h : a ≤ b) : seg w a (b + 1) = seg w a b + w b := by
  unfold seg
  have e : (b + 1 - a).toNat = (b - a).toNat + 1 := by omega
  rw [e, List.range_succ, List.map_append, List.sum_append]
  have e2 : a + ((b - a).toNat : Int) = b := by omega
  simp only [List.map_cons, List.map_nil, List.sum_cons, List.sum_nil, e2, Int.add_zero]
theorem seg_split (w : Int → Int) {a b : Int} (h1 : a ≤ b) : ∀ (n : Nat), seg w a (b + n) = seg w a b + seg w b (b + n)
  | 0 => by
    have e : b + ((0 : Nat) : Int) = b := by omega
    rw [e, seg_nil w (Int.le_refl b)]
    omega
  | n + 1 => by
    have e : b + ((n + 1 : Nat) : Int) = b + n + 1 := by omega
    rw [e, seg_snoc w (by omega), seg_snoc w (by omega), seg_split w h1 n]
    omega
theorem seg_add (w : Int → Int) {a b c : Int} (h1 : a ≤ b) (h2 : b ≤ c) : seg w a c = seg w a b + seg w b c := by
  have h := seg_split w h1 (c - b).toNat
  have e : b + ((c - b).toNat : Int) = c := by omega
  rw [e] at h
  exact h
theorem seg_congr {w u : Int → Int} {a b : Int} (h : ∀ c, a ≤ c → c < b → w c = u c) : seg w a b = seg u a b := by
  unfold seg
  refine congrArg List.sum (List.map_congr_left fun i hi => ?_)
  have := List.mem_range.mp hi
  exact h _ (by omega) (by omega)
theorem seg_zero {w : Int → Int} {a b : Int} (h : ∀ c, a ≤ c → c < b → w c = 0) : seg w a b = 0 := by
  rw [seg_congr (u := fun _ => 0) h]
  unfold seg
  induction (b - a).toNat with
  | zero => rfl
  | succ n ih => rw [List.range_succ, List.map_append, List.sum_append, ih]; rfl
theorem seg_shift (w : Int → Int) (d a b : Int) : seg w (d + a) (d + b) = seg (fun y => w (d + y)) a b := by
  unfold seg
  have e : (d + b - (d + a)).toNat = (b - a).toNat := by omega
  rw [e]
  refine congrArg List.sum (List.map_congr_left fun i _ => ?_)
  show w (d + a + i) = w (d + (a + i))
  congr 1
  omega
/-- one round -/
theorem seg_round {w : Int → Int} {k : Int} (hk : 0 ≤ k) (hw : ∀ c, w (c + k) = w c) (a : Int) : seg w a (a + k) = seg w 0 k := by
  have step : ∀ c, seg w (c + 1) (c + 1 + k) = seg w c (c + k) := fun c => by
    have h1 := seg_snoc w (a := c) (b := c + k) (by omega)
    have h2 := seg_add w (a := c) (b := c + 1) (c := c + k + 1) (by omega) (by omega)
    have h3 := seg_snoc w (a := c) (b := c) (by omega)
    have h4 := seg_nil w (Int.le_refl c)
    have h5 := hw c
    have e : c + k + 1 = c + 1 + k := by omega
    rw [e] at h1 h2
    omega
  have up : ∀ n : Nat, seg w (n : Int) ((n : Int) + k) = seg w 0 k := fun n => by
    induction n with
    | zero =>
      have e : ((0 : Nat) : Int) + k = k := by omega
      rw [e]
      rfl
    | succ n ih =>
      have e : ((n + 1 : Nat) : Int) = (n : Int) + 1 := by omega
      rw [e, step, ih]
  have dn : ∀ n : Nat, seg w (-(n : Int)) (-(n : Int) + k) = seg w 0 k := fun n => by
    induction n with
    | zero =>
      have e : -((0 : Nat) : Int) + k = k := by omega
      rw [e]
      rfl
    | succ n ih =>
      have h := step (-((n + 1 : Nat) : Int))
      have e : -((n + 1 : Nat) : Int) + 1 = -(n : Int) := by omega
      rw [e] at h
      rw [← h, ih]
  by_cases h : 0 ≤ a
  · have := up a.toNat
    have e : (a.toNat : Int) = a := by omega
    rw [e] at this
    exact this
  · have := dn (-a).toNat
    have e : -((-a).toNat : Int) = a := by omega
    rw [e] at this
    exact this
theorem seg_rounds {w : Int → Int} {k : Int} (hk : 0 ≤ k) (hw : ∀ c, w (c + k) = w c) (a : Int) : ∀ q : Nat, seg w a (a + q * k) = q * seg w 0 k
  | 0 => by
    have e : a + ((0 : Nat) : Int) * k = a := by simp
    rw [e, seg_nil w (Int.le_refl a)]
    simp
  | q + 1 => by
    have e : a + ((q + 1 : Nat) : Int) * k = a + q * k + k := by
      rw [Int.natCast_succ, Int.add_mul]
      omega
    have h0 : 0 ≤ (q : Int) * k := Int.mul_nonneg (by omega) hk
    rw [e, seg_add w (a := a) (b := a + q * k) (by omega) (by omega), seg_rounds hk hw a q, seg_round hk hw, Int.natCast_succ, Int.add_mul]
    omega
/-- whole rounds at once, then the rest -/
theorem seg_piece {w : Int → Int} {k : Int} (hk : 0 < k) (hw : ∀ c, w (c + k) = w c) {a b : Int} (h : a ≤ b) : (b - a) / k * seg w 0 k + seg w (a + (b - a) / k * k) b = seg w a b := by
  have h0 : 0 ≤ (b - a) / k := Int.ediv_nonneg (by omega) (by omega)
  obtain ⟨q, hq⟩ : ∃ q : Nat, (b - a) / k = q := ⟨((b - a) / k).toNat, by omega⟩
  have h1 : 0 ≤ (q : Int) * k := Int.mul_nonneg (by omega) (by omega)
  have h2 : (q : Int) * k ≤ b - a := by
    rw [← hq]
    exact Int.ediv_mul_le _ (by omega)
  rw [hq, ← seg_rounds (by omega) hw a q, ← seg_add w (by omega) (by omega)]
/-! ### the union, stretch by stretch -/
abbrev Sp2 := List (Int × Int)
def uni (w : Int → Int) : Int → Sp2 → Int
  | _, [] => 0
  | r, q :: ss => seg w (max q.1 r) q.2 + uni w (max r q.2) ss
def inS (ss : Sp2) (y : Int) : Bool := ss.any fun q => decide (q.1 ≤ y ∧ y < q.2)
theorem inS_cons (q : Int × Int) (ss : Sp2) (y : Int) : inS (q :: ss) y = (decide (q.1 ≤ y ∧ y < q.2) || inS ss y) := rfl
theorem uni_eq (w : Int → Int) (B : Int) : ∀ (ss : Sp2) (r : Int), ss.Pairwise (fun a b => a.1 ≤ b.1) → (∀ q ∈ ss, q.2 ≤ B) → r ≤ B → uni w r ss = seg (fun y => if inS ss y = true then w y else 0) r B
  | [], r, _, _, _ => by
    exact (seg_zero fun c _ _ => rfl).symm
  | q :: ss, r, hp, hB, hr => by
    have hp2 := List.pairwise_cons.mp hp
    have hqB := hB q (List.mem_cons_self ..)
    have ih := uni_eq w B ss (max r q.2) hp2.2 (fun z hz => hB z (List.mem_cons_of_mem _ hz)) (by omega)
    show seg w (max q.1 r) q.2 + uni w (max r q.2) ss = _
    rw [ih, seg_add (fun y => if inS (q :: ss) y = true then w y else 0) (a := r) (b := max r q.2) (c := B) (by omega) (by omega)]
    have e2 : seg (fun y => if inS (q :: ss) y = true then w y else 0) (max r q.2) B = seg (fun y => if inS ss y = true then w y else 0) (max r q.2) B := seg_congr fun c h1 _ => by
      have e3 : inS (q :: ss) c = inS ss c := by
        rw [inS_cons, decide_eq_false (by omega), Bool.false_or]
      simp only [e3]
    rw [e2]
    have e4 : seg (fun y => if inS (q :: ss) y = true then w y else 0) r (max r q.2) = seg w (max q.1 r) q.2 := by
      by_cases h1 : q.2 ≤ r
      · rw [seg_nil _ (by omega), seg_nil _ (by omega)]
      · by_cases h2 : q.2 ≤ q.1
        · rw [seg_nil w (by omega)]
          refine seg_zero fun c c1 c2 => if_neg fun hc => ?_
          rw [inS_cons, decide_eq_false (by omega), Bool.false_or] at hc
          obtain ⟨z, hz, hz2⟩ := List.any_eq_true.mp hc
          have h3 := of_decide_eq_true hz2
          have h4 := hp2.1 z hz
          omega
        · have hm : max r q.2 = q.2 := by omega
          rw [hm, seg_add _ (a := r) (b := max q.1 r) (c := q.2) (by omega) (by omega)]
          have e5 : seg (fun y => if inS (q :: ss) y = true then w y else 0) r (max q.1 r) = 0 := seg_zero fun c c1 c2 => if_neg fun hc => by
            rw [inS_cons, decide_eq_false (by omega), Bool.false_or] at hc
            obtain ⟨z, hz, hz2⟩ := List.any_eq_true.mp hc
            have h3 := of_decide_eq_true hz2
            have h4 := hp2.1 z hz
            omega
          have e6 : seg (fun y => if inS (q :: ss) y = true then w y else 0) (max q.1 r) q.2 = seg w (max q.1 r) q.2 := seg_congr fun c c1 c2 => if_pos (by
            rw [inS_cons, decide_eq_true (by omega), Bool.true_or])
          rw [e5, e6]
          omega
    rw [e4]
/-- the union's price as a sum over a stretch -/
theorem usum_seg (w : Int → Int) (k : Int) (st : Pl) (d : Int) : ∀ B : Nat, usum w k st d B = seg (fun y => if covd k st d y.toNat = true then w (d + y) else 0) 0 B
  | 0 => rfl
  | B + 1 => by
    have ih := usum_seg w k st d B
    have e : ((B + 1 : Nat) : Int) = (B : Int) + 1 := by omega
    rw [e, seg_snoc _ (by omega), ← ih]
    have e2 : ((B : Int)).toNat = B := by omega
    rw [e2]
    unfold usum ulist
    rw [List.range_succ, List.filter_append, List.map_append, cost_append]
    by_cases h : covd k st d B = true
    · rw [if_pos h, List.filter_cons_of_pos h]
      simp [cost]
    · rw [if_neg h, List.filter_cons_of_neg h]
      simp [cost]
/-- what the law reckons: stretches from 0 on -/
theorem uni_law {w : Int → Int} {k : Int} (hk : 0 < k) {st : Pl} {d : Int} {ss : Sp2} (hp : ss.Pairwise (fun a b => a.1 ≤ b.1)) (hm : ∀ o b, (o, b) ∈ ss ↔ ∃ s ∈ st, o = (s.1 - d) % k ∧ b = o + s.2) {B : Nat} (hB : ∀ s ∈ st, k + s.2 ≤ (B : Int)) :
    uni (fun y => w (d + y)) 0 ss = usum w k st d B := by
  have hB2 : ∀ q ∈ ss, q.2 ≤ (B : Int) := fun q hq => by
    obtain ⟨s, hs, h1, h2⟩ := (hm q.1 q.2).mp hq
    have h3 := hB s hs
    have h4 := Int.emod_lt_of_pos (s.1 - d) hk
    omega
  rw [uni_eq _ B ss 0 hp hB2 (by omega), usum_seg]
  refine seg_congr fun c h1 h2 => ?_
  have e : inS ss c = covd k st d c.toNat := by
    have ec : (c.toNat : Int) = c := by omega
    cases h : covd k st d c.toNat with
    | true =>
      obtain ⟨s, hs, hs2⟩ := List.any_eq_true.mp h
      have h3 := of_decide_eq_true hs2
      exact List.any_eq_true.mpr ⟨((s.1 - d) % k, (s.1 - d) % k + s.2), (hm _ _).mpr ⟨s, hs, rfl, rfl⟩, decide_eq_true (by show (s.1 - d) % k ≤ c ∧ c < (s.1 - d) % k + s.2; omega)⟩
    | false =>
      refine Bool.eq_false_iff.mpr fun h3 => ?_
      obtain ⟨q, hq, hq2⟩ := List.any_eq_true.mp h3
      have h4 := of_decide_eq_true hq2
      obtain ⟨s, hs, h5, h6⟩ := (hm q.1 q.2).mp hq
      have h7 : covd k st d c.toNat = true := List.any_eq_true.mpr ⟨s, hs, decide_eq_true (by omega)⟩
      rw [h] at h7
      cases h7
  rw [e]
/-! ### the program's pieces -/
def pstep (f : Sp2) (q : Int × Int) : Sp2 := match f.getLast? with
  | some z => if q.1 ≤ z.2 then f.dropLast ++ [(z.1, max q.2 z.2)] else f ++ [q]
  | none => [q]
def ptot (w : Int → Int) (f : Sp2) : Int := (f.map fun z => seg w z.1 z.2).sum
theorem ptot_snoc (w : Int → Int) (f : Sp2) (z : Int × Int) : ptot w (f ++ [z]) = ptot w f + seg w z.1 z.2 := by
  unfold ptot
  rw [List.map_append, List.sum_append]
  simp
theorem pieces_tot (w : Int → Int) : ∀ (ss : Sp2) (f : Sp2) (r : Int), ss.Pairwise (fun a b => a.1 ≤ b.1) → (∀ q ∈ ss, q.1 ≤ q.2) →
    ((f = [] ∧ ∀ q ∈ ss, r ≤ q.1) ∨ ∃ g z, f = g ++ [z] ∧ z.1 ≤ z.2 ∧ z.2 = r ∧ ∀ q ∈ ss, z.1 ≤ q.1) → ptot w (ss.foldl pstep f) = ptot w f + uni w r ss
  | [], f, r, _, _, _ => by
    show ptot w f = ptot w f + 0
    omega
  | q :: ss, f, r, hp, hle, hf => by
    have hp2 := List.pairwise_cons.mp hp
    have hq := hle q (List.mem_cons_self ..)
    have hle2 : ∀ z ∈ ss, z.1 ≤ z.2 := fun z hz => hle z (List.mem_cons_of_mem _ hz)
    show ptot w (ss.foldl pstep (pstep f q)) = ptot w f + (seg w (max q.1 r) q.2 + uni w (max r q.2) ss)
    rcases hf with ⟨rfl, h0⟩ | ⟨g, z, rfl, hz, hr, h0⟩
    · have h1 := h0 q (List.mem_cons_self ..)
      have e : pstep [] q = [] ++ [q] := rfl
      have hm : max r q.2 = q.2 := by omega
      have hm2 : max q.1 r = q.1 := by omega
      rw [e, pieces_tot w ss ([] ++ [q]) q.2 hp2.2 hle2 (.inr ⟨[], q, rfl, hq, rfl, hp2.1⟩), ptot_snoc, hm, hm2]
      omega
    · have h1 := h0 q (List.mem_cons_self ..)
      subst hr
      have e : pstep (g ++ [z]) q = if q.1 ≤ z.2 then g ++ [(z.1, max q.2 z.2)] else g ++ [z] ++ [q] := by
        unfold pstep
        rw [List.getLast?_concat, List.dropLast_concat]
      rw [e]
      by_cases h2 : q.1 ≤ z.2
      · rw [if_pos h2, pieces_tot w ss (g ++ [(z.1, max q.2 z.2)]) (max q.2 z.2) hp2.2 hle2 (.inr ⟨g, _, rfl, by show z.1 ≤ max q.2 z.2; omega, rfl, fun y hy => h0 y (List.mem_cons_of_mem _ hy)⟩), ptot_snoc, ptot_snoc]
        have h3 := seg_add w (a := z.1) (b := z.2) (c := max q.2 z.2) hz (by omega)
        have h4 : seg w z.2 (max q.2 z.2) = seg w (max q.1 z.2) q.2 := by
          have e5 : max q.1 z.2 = z.2 := by omega
          rw [e5]
          by_cases h6 : q.2 ≤ z.2
          · rw [seg_nil w (by omega), seg_nil w h6]
          · have e6 : max q.2 z.2 = q.2 := by omega
            rw [e6]
        have e7 : max q.2 z.2 = max z.2 q.2 := by omega
        show ptot w g + seg w z.1 (max q.2 z.2) + uni w (max q.2 z.2) ss = _
        rw [h3, h4, e7]
        omega
      · rw [if_neg h2, pieces_tot w ss (g ++ [z] ++ [q]) q.2 hp2.2 hle2 (.inr ⟨g ++ [z], q, rfl, hq, rfl, hp2.1⟩), ptot_snoc]
        have e5 : max q.1 z.2 = q.1 := by omega
        have e6 : max z.2 q.2 = q.2 := by omega
        rw [e5, e6]
        omega
/-- what the program reckons: stretches from the door on -/
theorem uni_prog {w : Int → Int} {k : Int} (hk : 0 < k) {st : Pl} {d : Int} {ss : Sp2} (hp : ss.Pairwise (fun a b => a.1 ≤ b.1)) (hm : ∀ o b, (o, b) ∈ ss ↔ ∃ s ∈ st, o = d + (s.1 - d) % k ∧ b = o + s.2) {B : Nat} (hB : ∀ s ∈ st, k + s.2 ≤ (B : Int)) :
    ptot w (ss.foldl pstep []) = usum w k st d B := by
  have h0 : ∀ q ∈ ss, d ≤ q.1 ∧ q.1 ≤ q.2 ∧ q.2 ≤ d + B := fun q hq => by
    obtain ⟨s, hs, h1, h2⟩ := (hm q.1 q.2).mp hq
    have h3 := hB s hs
    have h4 := Int.emod_lt_of_pos (s.1 - d) hk
    have h5 := Int.emod_nonneg (s.1 - d) (show k ≠ 0 by omega)
    omega
  rw [pieces_tot w ss [] d hp (fun q hq => (h0 q hq).2.1) (.inl ⟨rfl, fun q hq => (h0 q hq).1⟩)]
  rw [uni_eq w (d + B) ss d hp (fun q hq => (h0 q hq).2.2) (by omega), usum_seg]
  have e0 : seg (fun y => if inS ss y = true then w y else 0) d (d + B) = seg (fun y => if inS ss y = true then w y else 0) (d + 0) (d + B) := by rw [Int.add_zero]
  rw [e0, seg_shift]
  show (0 : Int) + _ = _
  rw [Int.zero_add]
  refine seg_congr fun c h1 h2 => ?_
  have e : inS ss (d + c) = covd k st d c.toNat := by
    have ec : (c.toNat : Int) = c := by omega
    cases h : covd k st d c.toNat with
    | true =>
      obtain ⟨s, hs, hs2⟩ := List.any_eq_true.mp h
      have h3 := of_decide_eq_true hs2
      exact List.any_eq_true.mpr ⟨(d + (s.1 - d) % k, d + (s.1 - d) % k + s.2), (hm _ _).mpr ⟨s, hs, rfl, rfl⟩, decide_eq_true (by show d + (s.1 - d) % k ≤ d + c ∧ d + c < d + (s.1 - d) % k + s.2; omega)⟩
    | false =>
      refine Bool.eq_false_iff.mpr fun h3 => ?_
      obtain ⟨q, hq, hq2⟩ := List.any_eq_true.mp h3
      have h4 := of_decide_eq_true hq2
      obtain ⟨s, hs, h5, h6⟩ := (hm q.1 q.2).mp hq
      have h7 : covd k st d c.toNat = true := List.any_eq_true.mpr ⟨s, hs, decide_eq_true (by omega)⟩
      rw [h] at h7
      cases h7
  rw [e]
end Lay

namespace Lay
/-! ### fronts as numbers -/
abbrev Ls := List (List Int)
def prodL : Ls → Nat
  | [] => 1
  | l :: ls => (l.length + 1) * prodL ls
def frontL : Ls → Nat → List Nat
  | [], _ => []
  | l :: ls, c => c % (l.length + 1) :: frontL ls (c / (l.length + 1))
def restsL : Ls → Nat → Ls
  | [], _ => []
  | l :: ls, c => l.drop (c % (l.length + 1)) :: restsL ls (c / (l.length + 1))
def due (l : List Int) (f : Nat) (b : Int) : Bool := decide (l[f]? = some b)
def bumpL (b : Int) : Ls → Nat → Nat → Nat
  | [], _, _ => 0
  | l :: ls, c, s => (if due l (c % (l.length + 1)) b = true then s else 0) + bumpL b ls (c / (l.length + 1)) (s * (l.length + 1))
theorem prodL_pos : ∀ ls : Ls, 0 < prodL ls
  | [] => Nat.one_pos
  | l :: ls => Nat.mul_pos (Nat.succ_pos _) (prodL_pos ls)
theorem frontL_length : ∀ (ls : Ls) (c : Nat), (frontL ls c).length = ls.length
  | [], _ => rfl
  | l :: ls, c => by
    show (frontL ls _).length + 1 = ls.length + 1
    rw [frontL_length ls]
theorem bumpL_scale (b : Int) : ∀ (ls : Ls) (c s : Nat), bumpL b ls c s = s * bumpL b ls c 1
  | [], _, _ => rfl
  | l :: ls, c, s => by
    unfold bumpL
    rw [bumpL_scale b ls (c / (l.length + 1)) (s * (l.length + 1)), bumpL_scale b ls (c / (l.length + 1)) (1 * (l.length + 1)), Nat.one_mul, Nat.mul_assoc]
    generalize (l.length + 1) * bumpL b ls (c / (l.length + 1)) 1 = R
    rw [Nat.mul_add]
    congr 1
    by_cases h : due l (c % (l.length + 1)) b = true
    · rw [if_pos h, if_pos h, Nat.mul_one]
    · rw [if_neg h, if_neg h, Nat.mul_zero]
theorem drop_adv (l : List Int) (f : Nat) (b : Int) : adv b (l.drop f) = l.drop (f + if due l f b = true then 1 else 0) := by
  by_cases h : f < l.length
  · rw [List.drop_eq_getElem_cons h, adv_cons]
    by_cases e : l[f] = b
    · have hd : due l f b = true := decide_eq_true (by rw [List.getElem?_eq_getElem h, e])
      rw [if_pos e, if_pos hd]
    · have hd : ¬ due l f b = true := fun q => e (by
        have q2 : l[f]? = some b := of_decide_eq_true q
        rw [List.getElem?_eq_getElem h] at q2
        exact Option.some.inj q2)
      rw [if_neg e, if_neg hd, ← List.drop_eq_getElem_cons h]
      rfl
  · have hd : ¬ due l f b = true := fun q => by
      have q2 : l[f]? = some b := of_decide_eq_true q
      rw [List.getElem?_eq_none (by omega)] at q2
      cases q2
    rw [if_neg hd, Nat.add_zero, List.drop_eq_nil_of_le (by omega)]
    rfl
theorem due_lt {l : List Int} {f : Nat} {b : Int} (h : due l f b = true) : f < l.length := by
  have q2 : l[f]? = some b := of_decide_eq_true h
  exact (List.getElem?_eq_some_iff.mp q2).1
theorem bump_digit (l : List Int) (c R : Nat) (b : Int) : (c + ((if due l (c % (l.length + 1)) b = true then 1 else 0) + (l.length + 1) * R)) % (l.length + 1) = c % (l.length + 1) + (if due l (c % (l.length + 1)) b = true then 1 else 0) ∧
    (c + ((if due l (c % (l.length + 1)) b = true then 1 else 0) + (l.length + 1) * R)) / (l.length + 1) = c / (l.length + 1) + R := by
  have hz : 0 < l.length + 1 := Nat.succ_pos _
  have hlt := Nat.mod_lt c hz
  have hdm := Nat.div_add_mod c (l.length + 1)
  have hb : c % (l.length + 1) + (if due l (c % (l.length + 1)) b = true then 1 else 0) < l.length + 1 := by
    by_cases h : due l (c % (l.length + 1)) b = true
    · rw [if_pos h]
      have := due_lt h
      omega
    · rw [if_neg h]
      omega
  generalize hi : (if due l (c % (l.length + 1)) b = true then 1 else 0 : Nat) = i at hb ⊢
  generalize hq : c % (l.length + 1) = m at *
  generalize hp : c / (l.length + 1) = q at *
  have e : c + (i + (l.length + 1) * R) = (m + i) + (l.length + 1) * (q + R) := by
    rw [← hdm, Nat.mul_add]
    omega
  rw [e, Nat.add_mul_mod_self_left, Nat.mod_eq_of_lt hb, Nat.add_mul_div_left _ _ hz, Nat.div_eq_of_lt hb]
  exact ⟨rfl, by omega⟩
theorem rests_bump (b : Int) : ∀ (ls : Ls) (c : Nat), restsL ls (c + bumpL b ls c 1) = (restsL ls c).map (adv b)
  | [], _ => rfl
  | l :: ls, c => by
    show l.drop ((c + bumpL b (l :: ls) c 1) % (l.length + 1)) :: restsL ls ((c + bumpL b (l :: ls) c 1) / (l.length + 1)) = adv b (l.drop (c % (l.length + 1))) :: (restsL ls (c / (l.length + 1))).map (adv b)
    have e : bumpL b (l :: ls) c 1 = (if due l (c % (l.length + 1)) b = true then 1 else 0) + (l.length + 1) * bumpL b ls (c / (l.length + 1)) 1 := by
      show _ + bumpL b ls (c / (l.length + 1)) (1 * (l.length + 1)) = _
      rw [bumpL_scale b ls _ (1 * (l.length + 1)), Nat.one_mul]
    obtain ⟨h1, h2⟩ := bump_digit l c (bumpL b ls (c / (l.length + 1)) 1) b
    rw [e, h1, h2, rests_bump b ls, drop_adv]
theorem bump_lt (b : Int) : ∀ (ls : Ls) (c : Nat), c < prodL ls → c + bumpL b ls c 1 < prodL ls
  | [], c, h => h
  | l :: ls, c, h => by
    have hz : 0 < l.length + 1 := Nat.succ_pos _
    have e : bumpL b (l :: ls) c 1 = (if due l (c % (l.length + 1)) b = true then 1 else 0) + (l.length + 1) * bumpL b ls (c / (l.length + 1)) 1 := by
      show _ + bumpL b ls (c / (l.length + 1)) (1 * (l.length + 1)) = _
      rw [bumpL_scale b ls _ (1 * (l.length + 1)), Nat.one_mul]
    obtain ⟨h1, h2⟩ := bump_digit l c (bumpL b ls (c / (l.length + 1)) 1) b
    rw [← e] at h2
    have h3 : c / (l.length + 1) < prodL ls := Nat.div_lt_of_lt_mul h
    have h4 := bump_lt b ls _ h3
    rw [← h2] at h4
    have h5 := (Nat.div_lt_iff_lt_mul hz).mp h4
    show c + bumpL b (l :: ls) c 1 < (l.length + 1) * prodL ls
    rw [Nat.mul_comm]
    exact h5
/-- a row's digit -/
theorem front_get : ∀ (ls : Ls) (c j : Nat) (l : List Int), ls[j]? = some l → ∃ f, (frontL ls c)[j]? = some f ∧ f ≤ l.length ∧ (restsL ls c)[j]? = some (l.drop f)
  | [], _, _, _, h => by simp at h
  | l :: ls, c, 0, m, h => by
    obtain rfl : l = m := Option.some.inj h
    exact ⟨_, rfl, Nat.le_of_lt_succ (Nat.mod_lt c (Nat.succ_pos _)), rfl⟩
  | l :: ls, c, j + 1, m, h => front_get ls (c / (l.length + 1)) j m h
theorem rests_length : ∀ (ls : Ls) (c : Nat), (restsL ls c).length = ls.length
  | [], _ => rfl
  | l :: ls, c => by
    show (restsL ls _).length + 1 = ls.length + 1
    rw [rests_length ls]
theorem rests_last : ∀ (ls : Ls), ∀ r ∈ restsL ls (prodL ls - 1), r = []
  | [], r, h => by cases h
  | l :: ls, r, h => by
    have hp := prodL_pos ls
    have hz : 0 < l.length + 1 := Nat.succ_pos _
    obtain ⟨m, hm⟩ : ∃ m, prodL ls = m + 1 := ⟨prodL ls - 1, by omega⟩
    have e : prodL (l :: ls) - 1 = l.length + (l.length + 1) * m := by
      show (l.length + 1) * prodL ls - 1 = _
      rw [hm, Nat.mul_add]
      omega
    have h1 : (l.length + (l.length + 1) * m) % (l.length + 1) = l.length := by
      rw [Nat.add_mul_mod_self_left, Nat.mod_eq_of_lt (Nat.lt_succ_self _)]
    have h2 : (l.length + (l.length + 1) * m) / (l.length + 1) = m := by
      rw [Nat.add_mul_div_left _ _ hz, Nat.div_eq_of_lt (Nat.lt_succ_self _), Nat.zero_add]
    rw [e] at h
    have h3 : r ∈ l.drop ((l.length + (l.length + 1) * m) % (l.length + 1)) :: restsL ls ((l.length + (l.length + 1) * m) / (l.length + 1)) := h
    rw [h1, h2] at h3
    rcases List.mem_cons.mp h3 with e2 | e2
    · rw [e2, List.drop_length]
    · have e3 : m = prodL ls - 1 := by omega
      rw [e3] at e2
      exact rests_last ls r e2
theorem rests_due : ∀ (ls : Ls) (c : Nat), c + 1 < prodL ls → ∃ r ∈ restsL ls c, r ≠ []
  | [], c, h => by
    have h2 : c + 1 < 1 := h
    omega
  | l :: ls, c, h => by
    have hz : 0 < l.length + 1 := Nat.succ_pos _
    by_cases h1 : c % (l.length + 1) < l.length
    · refine ⟨l.drop (c % (l.length + 1)), List.mem_cons_self .., fun e => ?_⟩
      have := List.drop_eq_nil_iff.mp e
      omega
    · have hlt := Nat.mod_lt c hz
      have hdm := Nat.div_add_mod c (l.length + 1)
      have h2 : c % (l.length + 1) = l.length := by omega
      have h3 : c / (l.length + 1) + 1 < prodL ls := by
        have h4 : (l.length + 1) * (c / (l.length + 1) + 1) < (l.length + 1) * prodL ls := by
          have h5 : c + 1 < (l.length + 1) * prodL ls := h
          rw [Nat.mul_add]
          omega
        exact Nat.lt_of_mul_lt_mul_left h4
      obtain ⟨r, hr, hne⟩ := rests_due ls _ h3
      exact ⟨r, List.mem_cons_of_mem _ hr, hne⟩
theorem rests_zero : ∀ ls : Ls, restsL ls 0 = ls
  | [] => rfl
  | l :: ls => by
    show l.drop (0 % (l.length + 1)) :: restsL ls (0 / (l.length + 1)) = l :: ls
    rw [Nat.zero_mod, Nat.zero_div, rests_zero ls]
    rfl
theorem front_le : ∀ (ls : Ls) (c : Nat), ∀ (j f : Nat) (l : List Int), (frontL ls c)[j]? = some f → ls[j]? = some l → f ≤ l.length := fun ls c j f l h1 h2 => by
  obtain ⟨g, h3, h4, _⟩ := front_get ls c j l h2
  rw [h1] at h3
  rw [Option.some.inj h3]
  exact h4
end Lay

/-! Lists of pairs and of lists, as the heap holds them; sorting of pairs. -/
namespace Fw
open PySem PySem.Spec PyProof.Rows L2 Lay
/-- a list of pairs of whole numbers: the tuples' addresses and what they hold -/
abbrev Zs := List (Addr × Int × Int)
def TL (H : Hp) (zs : Zs) : Prop := ∀ z ∈ zs, H z.1 = some (.tup [.int z.2.1, .int z.2.2])
abbrev refT (zs : Zs) : List V := zs.map fun z => V.ref z.1
/-- a list of lists of whole numbers -/
abbrev Ws := List (Addr × List Int)
def LL (K : PySem.W.Frag) (H : Hp) (zs : Ws) : Prop := ∀ z ∈ zs, SqL K H z.1 (z.2.map V.int)
abbrev refL (zs : Ws) : List V := zs.map fun z => V.ref z.1
theorem TL.same {H H2 : Hp} {zs : Zs} (h : TL H zs) (s : Same H H2) : TL H2 zs := fun z hz => s _ _ (h z hz)
theorem LL.same {K : PySem.W.Frag} {H H2 : Hp} {zs : Ws} (h : LL K H zs) (s : Same H H2) : LL K H2 zs := fun z hz => s.seq (h z hz)
abbrev ilst (ns : List Int) : HO := .lst (ns.map V.int)
abbrev itup (ns : List Int) : HO := .tup (ns.map V.int)
/-- the price of a number on the line -/
def pw (pr : List Int) (c : Int) : Int := pr.getD (c % (pr.length : Int)).toNat 0
/-- the stays as the mathematics has them -/
def stOf (ss : Sp2) : Pl := ss.map fun s => (s.1, s.2.toNat)
def U (pr : List Int) (ss : Sp2) (d : Int) : Int := usum (pw pr) pr.length (stOf ss) d 3000
def sumsL (pr : List Int) : List Int := (List.range (pr.length + 1)).map fun i => (pr.take i).sum

theorem TL.nil {H : Hp} : TL H [] := fun z hz => by cases hz
theorem LL.nil {K : PySem.W.Frag} {H : Hp} : LL K H [] := fun z hz => by cases hz
theorem TL.push {H : Hp} {ys : Zs} {l t : Addr} {xs : List V} {o : HO} {a b : Int} (h : TL H ys) (hl : H l = some (.lst xs)) (nt : H t = none) : TL (upd (upd H t (.tup [.int a, .int b])) l o) (ys ++ [(t, a, b)]) := by
  have nlt : t ≠ l := (ne_of_none hl nt).symm
  intro z hz
  rcases List.mem_append.mp hz with hz | hz
  · have h1 := h z hz
    rw [upd_ne (ne_of h1 hl (fun e => by cases e)), upd_ne (ne_of_none h1 nt)]
    exact h1
  · rw [List.mem_singleton.mp hz]
    show upd (upd H t _) l o t = _
    rw [upd_ne nlt, upd_same]
theorem refT_snoc (ys : Zs) (t : Addr) (a b : Int) : refT ys ++ [V.ref t] = refT (ys ++ [(t, a, b)]) := by
  unfold refT
  rw [List.map_append]
  rfl
theorem refT_get {zs : Zs} {i : Nat} {x : V} (h : (refT zs)[i]? = some x) : ∃ z, zs[i]? = some z ∧ z ∈ zs ∧ x = .ref z.1 := by
  unfold refT at h
  rw [List.getElem?_map] at h
  cases e : zs[i]? with
  | none =>
    rw [e] at h
    cases h
  | some z =>
    rw [e] at h
    exact ⟨z, rfl, List.mem_of_getElem? e, (Option.some.inj h).symm⟩
theorem refL_get {zs : Ws} {i : Nat} {x : V} (h : (refL zs)[i]? = some x) : ∃ z, zs[i]? = some z ∧ z ∈ zs ∧ x = .ref z.1 := by
  unfold refL at h
  rw [List.getElem?_map] at h
  cases e : zs[i]? with
  | none =>
    rw [e] at h
    cases h
  | some z =>
    rw [e] at h
    exact ⟨z, rfl, List.mem_of_getElem? e, (Option.some.inj h).symm⟩
theorem prodL_snoc (ls : Ls) (l : List Int) : prodL (ls ++ [l]) = prodL ls * (l.length + 1) := by
  induction ls with
  | nil =>
    show (l.length + 1) * 1 = 1 * (l.length + 1)
    omega
  | cons x ls ih =>
    show (x.length + 1) * prodL (ls ++ [l]) = (x.length + 1) * prodL ls * (l.length + 1)
    rw [ih, Nat.mul_assoc]
theorem pw_at {pr : List Int} (h : 0 < pr.length) (c : Int) : atI (pr.map V.int) (c % (pr.length : Int)) = some (.int (pw pr c)) := by
  have h1 := Int.emod_nonneg c (show (pr.length : Int) ≠ 0 by omega)
  have h2 := Int.emod_lt_of_pos c (show (0 : Int) < (pr.length : Int) by omega)
  have e : c % (pr.length : Int) = ((c % (pr.length : Int)).toNat : Int) := by omega
  have hlt : (c % (pr.length : Int)).toNat < pr.length := by omega
  have g : (pr.map V.int)[(c % (pr.length : Int)).toNat]? = some (.int (pw pr c)) := by
    rw [List.getElem?_map, List.getElem?_eq_getElem hlt]
    unfold pw
    rw [List.getD_eq_getElem?_getD, List.getElem?_eq_getElem hlt]
    rfl
  rw [e]
  exact atI_nat g
theorem pw_mod (pr : List Int) (c : Int) : pw pr (c % (pr.length : Int)) = pw pr c := by
  unfold pw
  rw [Int.emod_emod]
theorem pw_per (pr : List Int) (c : Int) : pw pr (c + (pr.length : Int)) = pw pr c := by
  unfold pw
  rw [Int.add_emod_right]
theorem pw_nonneg {pr : List Int} (h : ∀ x ∈ pr, 1 ≤ x) (c : Int) : 0 ≤ pw pr c := by
  unfold pw
  rw [List.getD_eq_getElem?_getD]
  cases e : pr[(c % (pr.length : Int)).toNat]? with
  | none => exact Int.le_refl _
  | some x =>
    have := h x (List.mem_of_getElem? e)
    show 0 ≤ x
    omega
theorem stOf_mem {ss : Sp2} (h : ∀ s ∈ ss, 1 ≤ s.2) {P : Int → Int → Prop} : (∃ s ∈ stOf ss, P s.1 s.2) ↔ ∃ s ∈ ss, P s.1 s.2 := by
  constructor
  · rintro ⟨s, hs, hp⟩
    obtain ⟨t, ht, rfl⟩ := List.mem_map.mp hs
    have h1 := h t ht
    have e : ((t.2.toNat : Nat) : Int) = t.2 := by omega
    refine ⟨t, ht, ?_⟩
    have hp2 : P t.1 ((t.2.toNat : Nat) : Int) := hp
    rw [e] at hp2
    exact hp2
  · rintro ⟨t, ht, hp⟩
    have h1 := h t ht
    have e : ((t.2.toNat : Nat) : Int) = t.2 := by omega
    refine ⟨(t.1, t.2.toNat), List.mem_map_of_mem (f := fun s : Int × Int => (s.1, s.2.toNat)) ht, ?_⟩
    show P t.1 ((t.2.toNat : Nat) : Int)
    rw [e]
    exact hp
theorem yes_then {σ : L2.St} {H : Hp} {t e : Hp → Prop} (h : t H) : tYes σ H (fun b H3 => if b = true then t H3 else e H3) := by
  show (if true = true then t H else e H)
  rw [if_pos rfl]
  exact h
theorem max_if (i j : Int) : (if j > i then j else i) = max i j := by
  split <;> omega
theorem mem_le_prod : ∀ {ls : Ls} {l : List Int}, l ∈ ls → l.length + 1 ≤ prodL ls
  | x :: ls, l, h => by
    have hp := prodL_pos ls
    show l.length + 1 ≤ (x.length + 1) * prodL ls
    rcases List.mem_cons.mp h with e | e
    · rw [e]
      exact Nat.le_mul_of_pos_right _ hp
    · have h1 := mem_le_prod e
      exact Nat.le_trans h1 (Nat.le_mul_of_pos_left _ (Nat.succ_pos _))
theorem ixN_nat {n c : Nat} (h : c < n) : ixN n (c : Int) = some c := by
  unfold ixN
  rw [if_pos (by omega), if_pos (by omega)]
  rfl
theorem pw_sym {pr : List Int} {s : Int} (h0 : 0 ≤ s) (h1 : s < (pr.length : Int)) : atI (pr.map V.int) s = some (.int (pw pr s)) := by
  have h := pw_at (pr := pr) (by omega) s
  rw [Int.emod_eq_of_lt h0 h1] at h
  exact h
/-- the front's places from the j-th on are those of the rest -/
def Ahead (ls : Ls) (c j r : Nat) : Prop := ∀ m, (frontL (ls.drop j) r)[m]? = (frontL ls c)[j + m]?
theorem Ahead.zero (ls : Ls) (c : Nat) : Ahead ls c 0 c := fun m => by rw [List.drop_zero, Nat.zero_add]
theorem Ahead.step {ls : Ls} {c j r : Nat} {l : List Int} (h : Ahead ls c j r) (hl : ls[j]? = some l) : (frontL ls c)[j]? = some (r % (l.length + 1)) ∧ Ahead ls c (j + 1) (r / (l.length + 1)) := by
  have e : ls.drop j = l :: ls.drop (j + 1) := by
    have hlt := (List.getElem?_eq_some_iff.mp hl).1
    rw [List.drop_eq_getElem_cons hlt, (List.getElem?_eq_some_iff.mp hl).2]
  unfold Ahead at h
  rw [e] at h
  refine ⟨(h 0).symm, fun m => ?_⟩
  have h1 := h (m + 1)
  rw [Nat.add_assoc, Nat.add_comm 1 m]
  exact h1
theorem bump_pos {b : Int} {q : List Int} : ∀ (ls : Ls) (c s k : Nat), 0 < s → (restsL ls c)[k]? = some (b :: q) → 0 < bumpL b ls c s
  | [], _, _, _, _, h => by simp [restsL] at h
  | l :: ls, c, s, 0, hs, h => by
    have e : l.drop (c % (l.length + 1)) = b :: q := Option.some.inj h
    have hd : due l (c % (l.length + 1)) b = true := decide_eq_true (by
      have h2 := congrArg (fun z => z[0]?) e
      simpa using h2)
    show 0 < (if due l (c % (l.length + 1)) b = true then s else 0) + _
    rw [if_pos hd]
    omega
  | l :: ls, c, s, k + 1, hs, h => by
    have h1 := bump_pos ls (c / (l.length + 1)) (s * (l.length + 1)) k (Nat.mul_pos hs (Nat.succ_pos _)) h
    show 0 < _ + bumpL b ls (c / (l.length + 1)) (s * (l.length + 1))
    omega
theorem drop_at {ls : Ls} {j : Nat} {l : List Int} (h : ls[j]? = some l) : ls.drop j = l :: ls.drop (j + 1) := by
  have hlt := (List.getElem?_eq_some_iff.mp h).1
  rw [List.drop_eq_getElem_cons hlt, (List.getElem?_eq_some_iff.mp h).2]
theorem atI0 {xs : List V} {k : Nat} {v : V} (h : xs[k]? = some v) : atI xs (0 + (k : Int)) = some v := by
  rw [Int.zero_add]
  exact atI_nat h
def nmap (fs : List Nat) : List Int := fs.map fun f : Nat => (f : Int)
theorem nmap_get {fs : List Nat} {k f : Nat} (h : fs[k]? = some f) : ((nmap fs).map V.int)[k]? = some (.int (f : Int)) := by
  unfold nmap
  rw [List.getElem?_map, List.getElem?_map, h]
  rfl
theorem putF_new (f : Str) (v : V) : ∀ fs : List (Str × V), fs.lookup f = none → putF f v fs = fs ++ [(f, v)]
  | [], _ => rfl
  | (g, x) :: r, h => by
    rw [List.lookup_cons] at h
    cases e : (f == g) with
    | true =>
      rw [e] at h
      cases h
    | false =>
      rw [e] at h
      have ne : ¬ g = f := fun z => by
        rw [z, beq_self_eq_true] at e
        cases e
      show (if g = f then (g, v) :: r else (g, x) :: putF f v r) = _
      rw [if_neg ne, putF_new f v r h]
      rfl
/-- all but the object at r is as it was -/
def But (r : Addr) (H H2 : Hp) : Prop := ∀ c o, c ≠ r → H c = some o → H2 c = some o
theorem But.refl {r : Addr} {H : Hp} : But r H H := fun _ _ _ h => h
theorem But.new {r p : Addr} {H H2 : Hp} {o : HO} (h : But r H H2) (np : H2 p = none) : But r H (upd H2 p o) := fun c u n e => same_new np _ _ (h c u n e)
theorem But.own {r : Addr} {H H2 : Hp} {o : HO} (h : But r H H2) : But r H (upd H2 r o) := fun c u n e => by
  rw [upd_ne n]
  exact h c u n e
theorem But.then {r : Addr} {H H2 H3 : Hp} (h : But r H H2) (s : Same H2 H3) : But r H H3 := fun c u n e => s _ _ (h c u n e)
theorem But.seq {K : PySem.W.Frag} {r a C dx : Addr} {H H2 : Hp} {fs : List (Str × V)} {xs : List V} (h : But r H H2) (hr : H r = some (.ins C dx fs)) (hS : SqL K H a xs) : SqL K H2 a xs := by
  rcases hS with (e | ⟨o, e⟩) | e
  · exact .inl (.inl (h a _ (ne_of e hr (fun z => by cases z)) e))
  · exact .inl (.inr ⟨o, h a _ (ne_of e hr (fun z => by cases z)) e⟩)
  · exact .inr e
theorem TL.keep {H : Hp} {zs : Zs} {l : Addr} {xs : List V} {o : HO} (h : TL H zs) (hl : H l = some (.lst xs)) : TL (upd H l o) zs := fun z hz => by
  rw [upd_ne (ne_of (h z hz) hl (fun e => by cases e))]
  exact h z hz
theorem atIe {xs : List V} {i : Int} {k : Nat} {v : V} (h : xs[k]? = some v) (e : i = (k : Int)) : atI xs i = some v := by
  rw [e]
  exact atI_nat h
theorem at_mod {ds : List Int} (h : ds ≠ []) (x : Int) : ∃ d ∈ ds, atI (ds.map V.int) (x % ((ds.map V.int).length : Int)) = some (.int d) := by
  have hl : 0 < ds.length := List.length_pos_iff.mpr h
  rw [List.length_map]
  have h1 := Int.emod_nonneg x (show (ds.length : Int) ≠ 0 by omega)
  have h2 := Int.emod_lt_of_pos x (show (0 : Int) < (ds.length : Int) by omega)
  have hlt : (x % (ds.length : Int)).toNat < ds.length := by omega
  exact ⟨_, List.getElem_mem hlt, atIe (get_map (List.getElem?_eq_getElem hlt)) (by omega)⟩
theorem pstep_snoc (g : Sp2) (z q : Int × Int) : pstep (g ++ [z]) q = if q.1 ≤ z.2 then g ++ [(z.1, max q.2 z.2)] else g ++ [z] ++ [q] := by
  unfold pstep
  rw [List.getLast?_concat, List.dropLast_concat]
theorem perm_back {α β : Type} {f : α → β} {ys xs : List β} (p : ys.Perm xs) : ∀ l : List α, xs = l.map f → ∃ m : List α, m.Perm l ∧ ys = m.map f := by
  induction p with
  | nil => intro l h; exact ⟨l, List.Perm.refl _, h⟩
  | cons x p ih =>
    intro l h
    cases l with
    | nil => cases h
    | cons a l =>
      rw [List.map_cons] at h
      injection h with h1 h2
      obtain ⟨m, hm, e⟩ := ih l h2
      exact ⟨a :: m, hm.cons a, by rw [List.map_cons, ← e, h1]⟩
  | swap x y l0 =>
    intro l h
    cases l with
    | nil => cases h
    | cons a l =>
      cases l with
      | nil => cases h
      | cons b l =>
        rw [List.map_cons, List.map_cons] at h
        injection h with h1 h2
        injection h2 with h2 h3
        exact ⟨b :: a :: l, List.Perm.swap _ _ _, by rw [List.map_cons, List.map_cons, ← h1, ← h2, ← h3]⟩
  | trans _ _ ih1 ih2 =>
    intro l h
    obtain ⟨m, hm, e⟩ := ih2 l h
    obtain ⟨n, hn, e2⟩ := ih1 m e
    exact ⟨n, hn.trans hm, e2⟩
/-- the pair that a value stands for -/
def kOf (H : Hp) (v : V) : Int × Int := match v with
  | .ref t => (match H t with
    | some (.tup [.int a, .int b]) => (a, b)
    | _ => (0, 0))
  | _ => (0, 0)
theorem kOf_ref {H : Hp} {t : Addr} {a b : Int} (h : H t = some (.tup [.int a, .int b])) : kOf H (.ref t) = (a, b) := by
  show (match H t with
    | some (.tup [.int a, .int b]) => (a, b)
    | _ => (0, 0)) = (a, b)
  rw [h]
theorem TL.key {H : Hp} {zs : Zs} (h : TL H zs) {z : Addr × Int × Int} (hz : z ∈ zs) : kOf H (.ref z.1) = z.2 := by
  rw [kOf_ref (h z hz)]
theorem sorted_tl {K : PySem.W.Frag} {H : Hp} {a : Addr} {zs : Zs} {Q : VK} (hS : SqL K H a (refT zs)) (hT : TL H zs)
    (h : ∀ (ys : Zs) (p : Addr), ys.Perm zs → (ys.map (·.2)).Pairwise (fun a b => a.1 < b.1 ∨ a.1 = b.1 ∧ a.2 ≤ b.2) → H p = none → Q (.ref p) (upd H p (.lst (refT ys)))) : rSortedPO K [.ref a] H Q := by
  refine ⟨a, refT zs, kOf H, rfl, hS, fun x hx => ?_, fun ys p srt stb np => ?_⟩
  · obtain ⟨z, hz, rfl⟩ := List.mem_map.mp hx
    refine ⟨z.1, rfl, ?_⟩
    rw [hT.key hz]
    exact hT z hz
  · obtain ⟨m, hm, rfl⟩ := perm_back stb.perm zs rfl
    refine h m p hm ?_ np
    have hT2 : TL H m := fun z hz => hT z (hm.mem_iff.mp hz)
    have s2 := List.pairwise_map.mp srt
    refine List.pairwise_map.mpr ((List.Pairwise.and_mem.mp s2).imp ?_)
    rintro x y ⟨hx, hy, e⟩
    have e2 : ¬ SrtO.lexB (kOf H (.ref y.1)) (kOf H (.ref x.1)) = true := by
      have e3 : SrtO.lexB (kOf H (.ref y.1)) (kOf H (.ref x.1)) = false := e
      rw [e3]
      exact Bool.false_ne_true
    rw [hT2.key hx, hT2.key hy, SrtO.lexB_iff] at e2
    omega
end Fw

/-! Graphs: rows, what is reached, what leads to the end, runs, longest beginnings. -/
namespace Lay
abbrev Nx := List (List Int)
/-- reached from S by following the lists -/
inductive Rc (g : Nx) (S : Nat → Prop) : Nat → Prop
  | base {v : Nat} : S v → Rc g S v
  | step {v u : Nat} {l : List Int} : Rc g S v → g[v]? = some l → (u : Int) ∈ l → Rc g S u
/-- leads to the end -/
inductive Ld (g : Nx) : Nat → Prop
  | fin {v : Nat} {l : List Int} : g[v]? = some l → (-1 : Int) ∈ l → Ld g v
  | step {v u : Nat} {l : List Int} : g[v]? = some l → (u : Int) ∈ l → Ld g u → Ld g v
def RowOk (n : Nat) (l : List Int) : Prop := 1 ≤ l.length ∧ l.length ≤ 4 ∧ ∀ t ∈ l, t = -1 ∨ (0 ≤ t ∧ t < (n : Int))
structure GOk (g : Nx) : Prop where
  pos : 0 < g.length
  rows : ∀ l ∈ g, RowOk g.length l
  reach : ∀ v, v < g.length → Rc g (fun s => s = 0) v
  ends : ∀ v, v < g.length → Ld g v
/-- one more beat for a run of which d nodes are done -/
def pst (r : List Int) (d : Nat) (b : Int) : Nat := if r[d]? = some b then d + 1 else d
/-- the length of the longest beginning of r that lies in S -/
def pfx (r S : List Int) : Nat := S.foldl (pst r) 0
theorem pst_le {r : List Int} {d : Nat} {b : Int} (h : d ≤ r.length) : pst r d b ≤ r.length := by
  unfold pst
  split
  · rename_i e
    exact (List.getElem?_eq_some_iff.mp e).1
  · exact h
theorem pfx_le (r S : List Int) : pfx r S ≤ r.length := by
  have : ∀ (S : List Int) (d : Nat), d ≤ r.length → S.foldl (pst r) d ≤ r.length := fun S => by
    induction S with
    | nil => exact fun d h => h
    | cons b S ih => exact fun d h => ih _ (pst_le h)
  exact this S 0 (Nat.zero_le _)
theorem pfx_snoc (r S : List Int) (b : Int) : pfx r (S ++ [b]) = pst r (pfx r S) b := by
  unfold pfx
  rw [List.foldl_append]
  rfl
theorem pfx_take {S : List Int} {i : Nat} {b : Int} (r : List Int) (h : S[i]? = some b) : pfx r (S.take (i + 1)) = pst r (pfx r (S.take i)) b := by
  rw [List.take_add_one, h]
  exact pfx_snoc r _ b
/-- where a lane stands -/
def plc (r : List Int) (d : Nat) : Int := (r[d]?).getD (-1)
/-- a run of the graph -/
structure RunOk (g : Nx) (r : List Int) : Prop where
  first : r[0]? = some 0
  rng : ∀ x ∈ r, 0 ≤ x ∧ x < (g.length : Int)
  next : ∀ i x y, r[i]? = some x → r[i + 1]? = some y → ∃ l, g[x.toNat]? = some l ∧ y ∈ l
  last : ∃ x l, r[r.length - 1]? = some x ∧ g[x.toNat]? = some l ∧ (-1 : Int) ∈ l
end Lay
namespace Fw
open PySem PySem.Spec PyProof.Rows L2 Lay
/-- a row: word, price, successors -/
abbrev Rw := Str × Int × List Int
/-- rows in the heap: the tuple's address, its successors' address -/
abbrev Rx := List (Addr × Addr × Rw)
abbrev refR (rs : Rx) : List V := rs.map fun q => V.ref q.1
abbrev rowO (q : Addr × Addr × Rw) : HO := .tup [.str q.2.2.1, .int q.2.2.2.1, .ref q.2.1]
def RwOk (H : Hp) (rs : Rx) : Prop := ∀ q ∈ rs, H q.1 = some (rowO q) ∧ H q.2.1 = some (itup q.2.2.2.2)
theorem RwOk.same {H H2 : Hp} {rs : Rx} (h : RwOk H rs) (s : Same H H2) : RwOk H2 rs := fun q hq => ⟨s _ _ (h q hq).1, s _ _ (h q hq).2⟩
def sxr (rs : Rx) : Nx := rs.map fun q => q.2.2.2.2
def pxr (rs : Rx) : List Int := rs.map fun q => q.2.2.2.1
theorem refR_get {rs : Rx} {i : Nat} {x : V} (h : (refR rs)[i]? = some x) : ∃ q, rs[i]? = some q ∧ q ∈ rs ∧ x = .ref q.1 := by
  unfold refR at h
  rw [List.getElem?_map] at h
  cases e : rs[i]? with
  | none =>
    rw [e] at h
    cases h
  | some z =>
    rw [e] at h
    exact ⟨z, rfl, List.mem_of_getElem? e, (Option.some.inj h).symm⟩
theorem get_refR {rs : Rx} {i : Nat} {q : Addr × Addr × Rw} (h : rs[i]? = some q) : (refR rs)[i]? = some (.ref q.1) := by
  unfold refR
  rw [List.getElem?_map, h]
  rfl
theorem get_sxr {rs : Rx} {i : Nat} {q : Addr × Addr × Rw} (h : rs[i]? = some q) : (sxr rs)[i]? = some q.2.2.2.2 := by
  unfold sxr
  rw [List.getElem?_map, h]
  rfl
theorem sxr_get {rs : Rx} {i : Nat} {l : List Int} (h : (sxr rs)[i]? = some l) : ∃ q, rs[i]? = some q ∧ q.2.2.2.2 = l := by
  unfold sxr at h
  rw [List.getElem?_map] at h
  cases e : rs[i]? with
  | none =>
    rw [e] at h
    cases h
  | some z =>
    rw [e] at h
    exact ⟨z, rfl, Option.some.inj h⟩
theorem sxr_len (rs : Rx) : (sxr rs).length = rs.length := List.length_map ..
theorem get_pxr {rs : Rx} {i : Nat} {q : Addr × Addr × Rw} (h : rs[i]? = some q) : (pxr rs)[i]? = some q.2.2.2.1 := by
  unfold pxr
  rw [List.getElem?_map, h]
  rfl
def NameOk (x : Str) : Prop := 1 ≤ x.cps.size ∧ x.cps.size ≤ 8 ∧ ∀ c ∈ x.cps.toList, c ∈ ("abcdefghijklmnopqrstuvwxyz" : Str).cps.toList
structure RsOk (rs : Rx) : Prop where
  few : rs.length ≤ 1000
  g : GOk (sxr rs)
  nm : ∀ q ∈ rs, NameOk q.2.2.1 ∧ 1 ≤ q.2.2.2.1
/-- a graph stands at a -/
def GrAt (K : PySem.W.Frag) (H : Hp) (a : Addr) (rs : Rx) : Prop := ∃ dx ra, H a = some (.ins (He.ga K "Graph") dx [("size", .int rs.length), ("_rows", .ref ra)]) ∧ H ra = some (.tup (refR rs)) ∧ RwOk H rs
theorem GrAt.same {K : PySem.W.Frag} {H H2 : Hp} {a : Addr} {rs : Rx} (h : GrAt K H a rs) (s : Same H H2) : GrAt K H2 a rs := by
  obtain ⟨dx, ra, h1, h2, h3⟩ := h
  exact ⟨dx, ra, s _ _ h1, s _ _ h2, h3.same s⟩
theorem neg_in {ls : List Int} {t : Int} (h : t ∈ ls) : inV (.int t) (ls.map V.int) = true := by
  unfold inV
  rw [List.any_map]
  exact List.any_eq_true.mpr ⟨t, h, decide_eq_true rfl⟩
theorem inV_int {ls : List Int} {t : Int} : inV (.int t) (ls.map V.int) = decide (t ∈ ls) := by
  by_cases h : t ∈ ls
  · rw [neg_in h, decide_eq_true h]
  · rw [decide_eq_false h]
    unfold inV
    rw [List.any_map, List.any_eq_false]
    intro y hy e
    exact h (by
      have e2 : (y == t) = true := e
      rw [← eq_of_beq e2]
      exact hy)
theorem flat_ints (ls : List Int) : (ls.map V.int).all flatV = true := by
  rw [List.all_map]
  exact List.all_eq_true.mpr fun d _ => rfl
theorem pi_tupE {X : Cx} {K : PySem.W.Frag} {tg l : Expr} {tl : TE} (h : X.K = K) (hl : PI X tg l (iTup X.K tl)) : PI X tg l (iTup K tl) := by
  subst h
  exact hl
theorem op_in_seqE {X : Cx} {K : PySem.W.Frag} (h : X.K = K) : OpR X (compareOp .In) (rIn K false) := by
  subst h
  exact op_in_seq
theorem atI_end {r : List Int} {x : Int} (h : r[r.length - 1]? = some x) : atI (r.map V.int) (-1) = some (.int x) := by
  have hlt := (List.getElem?_eq_some_iff.mp h).1
  unfold atI ixN
  rw [if_neg (by omega), if_pos (by rw [List.length_map]; omega), List.length_map]
  show (r.map V.int)[(-1 + (r.length : Int)).toNat]? = _
  have e : (-1 + (r.length : Int)).toNat = r.length - 1 := by omega
  rw [e]
  exact get_map h
end Fw

/-! Three rules that fronts need: a display with one tuple as key, sorted by key=sum from above, min with default=. -/
namespace Fw
open PySem PySem.Spec PyProof.Rows L2
section
variable {X : Cx} {pos p p2 p3 kp1 kp2 : Pos} {k v e : Expr} {tk tv te : TE}
/-- {k: v} with a tuple for a key -/
def tDisp1T (tk tv : TE) : TE := fun σ H Q => ∀ d, H d = none → tk σ (upd H d (.dT [])) fun x H1 => tv σ H1 fun y H2 => H2 d = some (.dT []) ∧
  ∃ b ks, x = .ref b ∧ H2 b = some (.tup (ks.map kV)) ∧ Q (.ref d) (upd H2 d (.dT [(ks, y)]))
theorem pe_disp1T (hu : X.A.units + 1 < cLine) (hk : PE X k tk) (hv : PE X v tv) : PE X (.Dict [some k] [v] pos) (tDisp1T tk tv) := by
  refine ⟨fun pins s σ H Q I q => ?_⟩
  have hn := I.hok.fresh (Nat.le_refl s.heap.objs.size)
  have I1 := I.laid (a := s.heap.objs.size) (o := .dT []) (h' := s.heap.push { cls := .type "dict", data := .dict #[] }) (t' := s.toks) (fun _ _ q => Heap.get?_push_of_some _ q) (Nat.le_refl _) (dt_empty s.heap I.big)
  rw [arm_eval_Dict, zip_pairTrees [some k] [v] X.env pos rfl rfl, dictDisplay_pairs (pairTrees [some k] [v] X.env pos) (by intro h; cases h) (by show 1 < 17; decide)]
  refine wpAny_bind (wpAny_standAt (wpAny_bind (wpAny_subDictH (knd := tupleKind (mixKind X.prog X.w)) (show X.A.units < cLine by omega) (by show 1 ≤ 15; decide) ?_)))
  refine pairTrees_cons_walk (thn (hk.run pins _ σ _ _ I1 (q _ hn)) fun u s1 ⟨x, H1, I2, rx, q1⟩ => thn (hv.run pins s1 σ H1 _ I2 q1) fun u2 s2 ⟨y, H2, I3, ry, e, b, ks, ex, eb, q2⟩ => ?_)
  refine pairTrees_nil_walk ?_
  subst ex
  obtain rfl : u = Value.ref b := rx
  obtain ⟨z, hd, xs, rel, dd⟩ := dt_of I3.hok e
  cases rel
  refine ⟨[(ks, b, u2)], ⟨rfl, rfl, key_of I3.hok eb, True.intro⟩, dd, fun h' tk2 dd' hs => wpAny_pure ⟨.ref s.heap.objs.size, _, ?_, rfl, q2⟩⟩
  obtain ⟨o, es, ep, hq, h2, h3, h4, _, h5⟩ := dd'
  have ne : b ≠ s.heap.objs.size := ne_of eb e (fun z => nomatch z)
  refine d_write I3 (by rw [e]; exact True.intro) hs ⟨o, hq⟩ ⟨by show 1 ≤ sizeLine; decide, hd, _, .cons ⟨rfl, ?_, ry⟩ .nil, o, es, ep, hq, h2, h3, h4, h5⟩
  show upd H2 _ _ b = _
  rw [upd_ne ne]
  exact eb
end
section
variable {P : Program} {w : World} {A : Around} {E : Value → Shared → Prop} {s : Shared}
theorem sum_tup {t : Addr} {vs : List Value} {ns : List Int} {Q : Value → Shared → Prop} (hh : A.handled = none) (hl : s.heap.IsTuple t vs.toArray) (hi : IntsAre vs ns)
    (h : ∀ h' tk t', (∀ b o, s.heap.get? b = some o → h'.get? b = some o) → Q (.int ns.sum t') { s with heap := h', toks := tk }) : wpAny (model P w) A (call (.builtin "sum") [.ref t]) Q E s := by
  obtain ⟨xs, hx⟩ := hi.allInts.items
  have hn : numsOf vs.toArray.toList = ns := by rw [show vs.toArray.toList = vs from rfl, hi.numsOf]
  rw [hx] at hl hn
  rw [nums_intItems] at hn
  refine PySem.W.ktm_sumG hh hl fun h' tk t' hk => ?_
  have := h h' tk t' hk
  rw [preSum_eq, List.take_of_length_le (by simp), hn]
  exact this
end
section
variable {X : Cx} {pos p p2 p3 kp1 kp2 : Pos} {j : Nat} {e : Expr} {t : TA}
/-- sorted(xs, key=sum, reverse=True), xs a list of tuples of whole numbers -/
def rSortSum (K : PySem.W.Frag) : List V → Hp → VK → Prop := fun vs H Q => ∃ (a : Addr) (fs : List (Addr × List Int)), vs = [.ref a] ∧ SqL K H a (fs.map fun f => V.ref f.1) ∧ (∀ f ∈ fs, H f.1 = some (.tup (f.2.map V.int))) ∧
  ∀ (gs : List (Addr × List Int)) (p : Addr), gs.Perm fs → gs.Pairwise (fun f g => g.2.sum ≤ f.2.sum) → H p = none → Q (.ref p) (upd H p (.lst (gs.map fun f => V.ref f.1)))
def tSortSum (K : PySem.W.Frag) (t : TA) : TE := fun σ H Q => t σ H fun vs H1 => rSortSum K vs H1 Q
theorem refs_eq : ∀ (fs : List (Addr × List Int)) (us : List Value), Vals (fs.map fun f => V.ref f.1) us → us = fs.map fun f => Value.ref f.1
  | [], _, r => by
    cases r
    rfl
  | f :: fs, _, r => by
    cases r with
    | cons h t =>
      rw [refs_eq fs _ t]
      cases h
      rfl
theorem vals_refs : ∀ (fs : List (Addr × List Int)), Vals (fs.map fun f => V.ref f.1) (fs.map fun f => Value.ref f.1)
  | [] => .nil
  | f :: fs => .cons rfl (vals_refs fs)
theorem each_refs {R : Value → (Addr × List Int) → Prop} : ∀ (fs : List (Addr × List Int)), (∀ f ∈ fs, R (.ref f.1) f) → PySem.W.EachIs R (fs.map fun f => Value.ref f.1) fs
  | [], _ => .nil
  | f :: fs, h => .cons (h f (List.mem_cons_self ..)) (each_refs fs fun g hg => h g (List.mem_cons_of_mem _ hg))
theorem each_eq {R : Value → (Addr × List Int) → Prop} (hR : ∀ v f, R v f → v = .ref f.1) {out : List Value} {gs : List (Addr × List Int)} (h : PySem.W.EachIs R out gs) : out = gs.map fun f => Value.ref f.1 := by
  induction h with
  | nil => rfl
  | cons h t ih =>
    rw [List.map_cons, ← ih, hR _ _ h]
theorem pe_sortSum (hc : X.calm = true) (hu : X.A.units + 64 < cLine) (hg : Gl X "sorted") (hm : X.mg "sorted" = none) (hg2 : Gl X "sum") (hm2 : X.mg "sum" = none) (ha : PA X [e] t)
    (hst : backTo pos (starEach [e] X.env) = (false, eval e X.env) :: backTo pos (starEach [] X.env) := by rfl) (hpl : (backTo pos (starEach [e] X.env)).any (·.1) = false := by rfl) :
    PE X (.Call (.Name "sorted" p) [e] [⟨some "key", .Name "sum" p2, kp1⟩, ⟨some "reverse", .Constant (.bool true) j p3, kp2⟩] pos) (tSortSum X.K t) := by
  refine ⟨fun pins s σ H Q I h => ?_⟩
  have hv1 : bootBuiltins ("sorted" : Str) = some (.builtin "sorted") := by decide +kernel
  have hv2 : bootBuiltins ("sum" : Str) = some (.builtin "sum") := by decide +kernel
  refine wpAny_Call_Name_kw (ld_blt I hg hm hv1 ?_)
  refine PyProof.Rows.callWith_kw (thn (ha.run pos pins s σ H _ I h) fun us s1 ⟨vs, H1, I1, r1, q1⟩ => ?_) hst hpl rfl rfl
  show wpAny _ _ (evalAll ((do let v ← eval (.Name "sum" p2) X.env; standAt pos; pure v) :: (do let v ← eval (.Constant (.bool true) j p3) X.env; standAt pos; pure v) :: [])) _ _ s1
  refine wpAny_evalAll_cons (wpAny_bind (ld_blt I1 hg2 hm2 hv2 (wpAny_bind (wpAny_standAt (wpAny_pure ?_)))))
  refine wpAny_evalAll_cons (wpAny_bind (Constant_bool (wpAny_bind (wpAny_standAt (wpAny_pure ?_)))))
  refine wpAny_evalAll_nil ?_
  obtain ⟨a, fs, rfl, hS, hF, q⟩ := q1
  obtain rfl := Vals.ref1 r1
  obtain ⟨its, rv, hl, hz⟩ := I1.list hS
  obtain rfl := refs_eq fs its rv
  rw [List.length_map] at hz
  show wpAny _ _ (call (.builtin "sorted") [.ref a] [(Str.ofString "key", .builtin "sum"), (Str.ofString "reverse", .bool true)]) _ _ s1
  have hA : X.A.in1.in1.handled = none := (I1.ok.hd hc)
  refine PySem.W.sorted_key_data (β := Addr × List Int) (R := fun v f => v = .ref f.1 ∧ f ∈ fs) (b := true) (fun f => .int f.2.sum) hl.isList (each_refs fs fun f hf => ⟨rfl, hf⟩) ?al ?so hz ?hu (PyProof.Rows.ksk_s2 _ _ _) (fun _ => PyProof.Rows.ksk_l2 _ _ _) (fun x => PyProof.Rows.ksk_t5 "sum" x true) ?turn ?out
  case al =>
    intro d hd d2 hd2
    obtain ⟨f, _, rfl⟩ := List.mem_map.mp hd
    obtain ⟨g, _, rfl⟩ := List.mem_map.mp hd2
    rfl
  case so =>
    refine .inr fun d hd => (?_ : d ≠ PyData.none ∧ ∀ xs, d ≠ PyData.tuple xs)
    obtain ⟨f, _, rfl⟩ := List.mem_map.mp hd
    exact ⟨fun e => PyData.noConfusion e, fun xs e => PyData.noConfusion e⟩
  case hu =>
    intro f _
    show X.A.units + 2 + 0 < cLine
    omega
  case turn =>
    rintro v f ⟨rfl, hf⟩ hf2 h tk kp
    obtain ⟨_, its, rt, ht⟩ := (show ObjOk X.prog X.w H1 s1.heap f.1 (.tup (f.2.map V.int)) from I1.hok _ _ (hF f hf))
    refine sum_tup (s := { s1 with heap := h, toks := tk }) (vs := its) (ns := f.2) hA (IsTup.keeps ht kp) (ints_of_vals rt) fun h' tk2 t' k2 => ⟨h', tk2, rfl, k2, .int _ _⟩
  case out =>
    intro out c h' tk kp fr ho hlen hE
    obtain rfl := each_eq (fun v f h => h.1) hE
    refine ⟨.ref (s1.heap.objs.size + 1), upd H1 (s1.heap.objs.size + 1) (.lst ((fs.mergeSort (PySem.W.dataLe true fun f => .int f.2.sum)).map fun f => V.ref f.1)), I1.laid (t' := tk) kp (Nat.le_succ _) ⟨?_, _, c, vals_refs _, ho⟩, rfl, ?_⟩
    · rw [List.length_map, (List.mergeSort_perm fs _).length_eq]
      exact hz
    · refine q _ _ (List.mergeSort_perm fs _) ?_ (I1.hok.fresh (Nat.le_succ _))
      rw [PySem.W.dataGe_int]
      have := List.pairwise_mergeSort (le := fun (a b : Addr × List Int) => decide (b.2.sum ≤ a.2.sum)) (fun a b c h1 h2 => by
        have := of_decide_eq_true h1
        have := of_decide_eq_true h2
        exact decide_eq_true (by omega)) (fun a b => by
        by_cases h : b.2.sum ≤ a.2.sum
        · rw [decide_eq_true h]
          rfl
        · rw [decide_eq_true (show a.2.sum ≤ b.2.sum by omega), Bool.or_true]) fs
      exact this.imp fun h => of_decide_eq_true h
end
/-! min(xs, default=d) of whole numbers -/
theorem reads_all {h : Heap} : ∀ {ns : List Int} {us : List Value}, Vals (ns.map V.int) us → ReadsAll h us (ns.map PyData.int) []
  | [], _, r => by
    cases r
    exact .nil
  | n :: ns, _, r => by
    cases r with
    | cons h t =>
      obtain ⟨t', rfl⟩ := h
      exact ReadsAll.cons (as := []) (bs := []) (.int n t') (reads_all t)
theorem fold_min : ∀ (ns : List Int) (n : Int), ns.foldl min n ∈ n :: ns ∧ ∀ y ∈ n :: ns, ns.foldl min n ≤ y
  | [], n => ⟨List.mem_cons_self .., fun y hy => by
    rw [List.mem_singleton.mp hy]
    exact Int.le_refl _⟩
  | k :: ns, n => by
    obtain ⟨h1, h2⟩ := fold_min ns (min n k)
    have hm : min n k = n ∨ min n k = k := by omega
    have hle := h2 _ (List.mem_cons_self ..)
    refine ⟨?_, fun y hy => ?_⟩
    · show ns.foldl min (min n k) ∈ _
      rcases List.mem_cons.mp h1 with e | e
      · rw [e]
        rcases hm with e2 | e2
        · rw [e2]
          exact List.mem_cons_self ..
        · rw [e2]
          exact List.mem_cons_of_mem _ (List.mem_cons_self ..)
      · exact List.mem_cons_of_mem _ (List.mem_cons_of_mem _ e)
    · show ns.foldl min (min n k) ≤ y
      rcases List.mem_cons.mp hy with e | hy
      · omega
      · rcases List.mem_cons.mp hy with e | hy
        · omega
        · exact h2 y (List.mem_cons_of_mem _ hy)
def rMinD (K : PySem.W.Frag) : List V → List V → Hp → VK → Prop := fun vs zs H Q => ∃ (a : Addr) (ns : List Int) (d : Int), vs = [V.ref a] ∧ zs = [V.int d] ∧ SqL K H a (ns.map V.int) ∧ (ns = [] → Q (.int d) H) ∧ ∀ m ∈ ns, (∀ y ∈ ns, m ≤ y) → Q (.int m) H
theorem cr_minD {X : Cx} (hc : X.calm = true) (hu : X.A.units + 1 < cLine) : CallRK X (.builtin "min") [Str.ofString "default"] (rMinD X.K) := by
  intro pins s σ H vs zs us ws Q I r rz h
  obtain ⟨a, ns, d, rfl, rfl, hS, q0, q⟩ := h
  obtain rfl := Vals.ref1 r
  obtain ⟨w1, rfl, t1, rfl⟩ := vals1 rz
  obtain ⟨its, rv, hl, hz⟩ := I.list hS
  have dep : ∀ ns : List Int, PySem.PyData.depthAll (ns.map PyData.int) = 0 := fun ns => by
    induction ns with
    | nil => rfl
    | cons n ns ih =>
      show max (PyData.depth (.int n)) (PyData.depthAll (ns.map PyData.int)) = 0
      rw [ih]
      rfl
  show wpAny _ _ (call (.builtin "min") [.ref a] [(Str.ofString "default", .int d t1)]) _ _ s
  refine PySem.W.min_list_default (I.ok.hd hc) hl.isList (reads_all rv) ⟨?_, ?_⟩ ?_ (fun e h' tk k => ?_) (fun y ys i v h' tk bs e hv hr k => ?_)
  · intro x hx y hy
    obtain ⟨n, _, rfl⟩ := List.mem_map.mp hx
    obtain ⟨m, _, rfl⟩ := List.mem_map.mp hy
    rfl
  · intro x hx
    obtain ⟨n, _, rfl⟩ := List.mem_map.mp hx
    exact fun e => PyData.noConfusion e
  · rw [dep]
    omega
  · exact ⟨.int d, H, I.kept k, ⟨_, rfl⟩, q0 (List.map_eq_nil_iff.mp e)⟩
  · cases ns with
    | nil => cases e
    | cons n ns =>
      rw [List.map_cons] at e
      injection e with e1 e2
      subst e1 e2
      rw [PySem.W.minD_ints] at hr
      cases hr
      exact ⟨.int _, H, I.kept k, ⟨_, rfl⟩, q _ (fold_min ns n).1 (fold_min ns n).2⟩
theorem call_tuple_ofE {X : Cx} {K : PySem.W.Frag} (h : X.K = K) : CallR X (.type "tuple") (fun xs H Q => ∃ p ys, xs = [.ref p] ∧ ((SqL K H p ys ∧ ∀ l, H l = none → Q (.ref l) (upd H l (.tup ys))) ∨ (SqT K H p ys ∧ Q (.ref p) H))) := by
  subst h
  exact call_tuple_of
theorem call_list_ofE {X : Cx} {K : PySem.W.Frag} (h : X.K = K) : CallR X (.type "list") (fun xs H Q => ∃ p ys, xs = [.ref p] ∧ (SqL K H p ys ∨ SqT K H p ys) ∧ ∀ l, H l = none → Q (.ref l) (upd H l (.lst ys))) := by
  subst h
  exact call_list_of
end Fw

/-! t + u and t[lo:hi] of tuples: some tuple with these items, new or not. -/
namespace Fw
open PySem PySem.Spec PyProof.Rows L2
section
variable {X : Cx}
def rCatX : R2 := fun x y H Q => ∃ a b xs ys, x = .ref a ∧ y = .ref b ∧ H a = some (.tup xs) ∧ H b = some (.tup ys) ∧ xs.length + ys.length ≤ sizeLine ∧ ∀ (H2 : Hp) (p : Addr), Same H H2 → H2 p = some (.tup (xs ++ ys)) → Q (.ref p) H2
theorem op_catX : OpR X (binaryOp .Add) rCatX := by
  intro pins s σ H x y v u Q I rx ry h
  obtain ⟨a, b, xs, ys, rfl, rfl, ha, hb, hz, q⟩ := h
  refine op_catA pins s σ H _ _ v u Q I rx ry ⟨a, b, xs, ys, rfl, rfl, SqT.of ha, SqT.of hb, hz, fun e => ?_, fun _ e => ?_, fun _ _ p np => q _ p (same_new np) upd_same⟩
  · subst e
    exact q H b (Same.refl _) hb
  · subst e
    exact q H a (Same.refl _) (by rw [List.append_nil]; exact ha)
def rSlX : V → Option Int → Option Int → Hp → VK → Prop := fun x lo hi H Q => ∃ a xs, x = .ref a ∧ H a = some (.tup xs) ∧ ∀ (H2 : Hp) (p : Addr), Same H H2 → H2 p = some (.tup (cutV xs lo hi)) → Q (.ref p) H2
theorem sl_tupX : SlR X rSlX := by
  intro pins s σ H x v vl vu lo hi sl Q I rx hs pl pu h
  obtain ⟨a, xs, rfl, hx, q⟩ := h
  refine sl_tupA pins s σ H _ v vl vu lo hi sl Q I rx hs pl pu ⟨a, xs, rfl, SqT.of hx, fun e => ?_, fun _ p np => q _ p (same_new np) upd_same⟩
  refine q H a (Same.refl _) ?_
  unfold cutV
  rw [e.1, e.2, List.drop_zero, Nat.sub_zero, List.take_length]
  exact hx
theorem cutV_map (ns : List Int) (lo hi : Option Int) : cutV (ns.map V.int) lo hi = ((ns.drop (HT.sIx ns.length 0 lo)).take (HT.sIx ns.length ns.length hi - HT.sIx ns.length 0 lo)).map V.int := by
  unfold cutV
  rw [List.length_map, List.map_take, List.map_drop]
theorem op_eqDE {K : PySem.W.Frag} (h : X.K = K) (hu : X.A.units + 64 < cLine) : OpR X (compareOp .Eq) (rEqD K) := by
  subst h
  exact op_eqD hu
theorem cr_sumE {K : PySem.W.Frag} (h : X.K = K) (hc : X.calm = true) : CallR X (.builtin "sum") (rSum K) := by
  subst h
  exact cr_sum hc
theorem sl_listE {K : PySem.W.Frag} (h : X.K = K) : SlR X (rSlL K) := by
  subst h
  exact sl_list
end
end Fw

/-! The promises of the program's defs. -/
namespace K34
open PySem PySem.Spec PyProof.Rows L2 Fw Lay
def sp_is_name (K : PySem.W.Frag) : Sp := fun vs H Q _ => ∃ x : Str, vs = [.str x] ∧ NameOk x ∧ Q (.bl true) H
def sp_distinct (K : PySem.W.Frag) : Sp := fun vs H Q _ => ∃ (a : Addr) (ns : List Int), vs = [.ref a] ∧ SqL K H a (ns.map V.int) ∧ ns.length < 64 ∧
  ∀ (H2 : Hp) (p : Addr) (ds : List Int), Same H H2 → H p = none → H2 p = some (ilst ds) → ds.Pairwise (· < ·) → (∀ x, x ∈ ds ↔ x ∈ ns) → Q (.ref p) H2
def sp_copied (K : PySem.W.Frag) : Sp := fun vs H Q _ => ∃ (a : Addr) (ws : Ws), vs = [.ref a] ∧ SqL K H a (refL ws) ∧ LL K H ws ∧ ws.length ≤ 1000 ∧
  ∀ (H2 : Hp) (p : Addr) (us : Ws), Same H H2 → H p = none → H2 p = some (.lst (refL us)) → (∀ u ∈ us, H u.1 = none ∧ H2 u.1 = some (ilst u.2)) → us.map (·.2) = ws.map (·.2) → Q (.ref p) H2
def sp_Graph_price (K : PySem.W.Frag) : Sp := fun vs H Q _ => ∃ (g : Addr) (rs : Rx) (i : Nat) (q : Addr × Addr × Rw), vs = [.ref g, .int (i : Int)] ∧ GrAt K H g rs ∧ rs[i]? = some q ∧ Q (.int q.2.2.2.1) H
def sp_Graph_successors (K : PySem.W.Frag) : Sp := fun vs H Q _ => ∃ (g : Addr) (rs : Rx) (i : Nat) (q : Addr × Addr × Rw), vs = [.ref g, .int (i : Int)] ∧ GrAt K H g rs ∧ rs[i]? = some q ∧ Q (.ref q.2.1) H
def sp_prefix_length (K : PySem.W.Frag) : Sp := fun vs H Q _ => ∃ (a b : Addr) (r S : List Int), vs = [.ref a, .ref b] ∧ SqL K H a (r.map V.int) ∧ SqL K H b (S.map V.int) ∧ Q (.int (pfx r S : Nat)) H
def sp_prefixes (K : PySem.W.Frag) : Sp := fun vs H Q _ => ∃ (a b : Addr) (ws : Ws) (S : List Int), vs = [.ref a, .ref b] ∧ SqL K H a (refL ws) ∧ LL K H ws ∧ ws.length ≤ 1000 ∧ SqL K H b (S.map V.int) ∧
  ∀ (H2 : Hp) (p : Addr), Same H H2 → H p = none → H2 p = some (ilst (nmap (ws.map fun w => pfx w.2 S))) → Q (.ref p) H2
def sp_is_complete (K : PySem.W.Frag) : Sp := fun vs H Q _ => ∃ (a b : Addr) (ws : Ws) (S : List Int), vs = [.ref a, .ref b] ∧ SqL K H a (refL ws) ∧ LL K H ws ∧ SqL K H b (S.map V.int) ∧
  ∀ c : Bool, (c = true ↔ ∀ w ∈ ws, pfx w.2 S = w.2.length) → Q (.bl c) H
def sp_nexts_of (K : PySem.W.Frag) : Sp := fun vs H Q _ => ∃ (a : Addr) (rs : Rx), vs = [.ref a] ∧ SqL K H a (refR rs) ∧ RwOk H rs ∧ rs.length ≤ 1000 ∧ (∀ q ∈ rs, q.2.2.2.2.length ≤ 4) ∧
  ∀ (H2 : Hp) (p : Addr) (ns : Ws), Same H H2 → H p = none → H2 p = some (.lst (refL ns)) → (∀ z ∈ ns, H2 z.1 = some (ilst z.2)) → ns.map (·.2) = (sxr rs).map (fun l => l.filter fun t => decide (t ≠ -1)) → Q (.ref p) H2
def sp_backs_of (K : PySem.W.Frag) : Sp := fun vs H Q _ => ∃ (a : Addr) (rs : Rx), vs = [.ref a] ∧ SqL K H a (refR rs) ∧ RwOk H rs ∧ rs.length ≤ 1000 ∧ (∀ l ∈ sxr rs, RowOk rs.length l) ∧
  ∀ (H2 : Hp) (p : Addr) (ns : Ws), Same H H2 → H p = none → H2 p = some (.lst (refL ns)) → (∀ z ∈ ns, H2 z.1 = some (ilst z.2)) → ns.length = rs.length → (∀ z ∈ ns, ∀ t ∈ z.2, 0 ≤ t ∧ t < (rs.length : Int)) →
    (∀ (v u : Nat) (l : List Int), (sxr rs)[v]? = some l → (u : Int) ∈ l → ∃ b, (ns.map (·.2))[u]? = some b ∧ (v : Int) ∈ b) → Q (.ref p) H2
def sp_spread (K : PySem.W.Frag) : Sp := fun vs H Q _ => ∃ (a b : Addr) (ns : Ws) (ss : List Nat), vs = [.ref a, .ref b] ∧ SqL K H a (refL ns) ∧ LL K H ns ∧ (∀ z ∈ ns, ∀ t ∈ z.2, 0 ≤ t ∧ t < (ns.length : Int)) ∧ ns.length ≤ 1000 ∧ SqL K H b ((nmap ss).map V.int) ∧ ss.Nodup ∧ (∀ s ∈ ss, s < ns.length) ∧
  ∀ (H2 : Hp) (p : Addr) (bs : List Bool), Same H H2 → H p = none → H2 p = some (.lst (bs.map V.bl)) → bs.length = ns.length → (∀ v, Rc (ns.map (·.2)) (fun s => s ∈ ss) v → bs[v]? = some true) → Q (.ref p) H2
def sp_is_good_row (K : PySem.W.Frag) : Sp := fun vs H Q _ => ∃ (q : Addr × Addr × Rw) (n : Nat), vs = [.ref q.1, .int (n : Int)] ∧ RwOk H [q] ∧ NameOk q.2.2.1 ∧ 1 ≤ q.2.2.2.1 ∧ RowOk n q.2.2.2.2 ∧ Q (.bl true) H
def sp_check_rows (K : PySem.W.Frag) : Sp := fun vs H Q _ => ∃ (a : Addr) (rs : Rx), vs = [.ref a] ∧ SqL K H a (refR rs) ∧ RwOk H rs ∧ RsOk rs ∧ Q .non H
def sp_check_reached (K : PySem.W.Frag) : Sp := fun vs H Q _ => ∃ (a : Addr) (rs : Rx), vs = [.ref a] ∧ SqL K H a (refR rs) ∧ RwOk H rs ∧ RsOk rs ∧ ∀ H2 : Hp, Same H H2 → Q .non H2
def sp_check_ends (K : PySem.W.Frag) : Sp := fun vs H Q _ => ∃ (a : Addr) (rs : Rx), vs = [.ref a] ∧ SqL K H a (refR rs) ∧ RwOk H rs ∧ RsOk rs ∧ ∀ H2 : Hp, Same H H2 → Q .non H2
def sp_Graph_init (K : PySem.W.Frag) : Sp := fun vs H Q _ => ∃ (g dx a : Addr) (rs : Rx), vs = [.ref g, .ref a] ∧ H g = some (.ins (He.ga K "Graph") dx []) ∧ SqL K H a (refR rs) ∧ RwOk H rs ∧ RsOk rs ∧
  ∀ (H2 : Hp) (rs2 : Rx), But g H H2 → GrAt K H2 g rs2 → rs2.map (·.2.2) = rs.map (·.2.2) → Q .non H2
def sp_fault_place (K : PySem.W.Frag) : Sp := fun vs H Q _ => ∃ (g a : Addr) (rs : Rx) (r : List Int), vs = [.ref g, .ref a] ∧ GrAt K H g rs ∧ SqL K H a (r.map V.int) ∧ r.length ≤ 100000 ∧ RunOk (sxr rs) r ∧ Q .non H
def sp_check_team (K : PySem.W.Frag) : Sp := fun vs H Q _ => ∃ (g a : Addr) (rs : Rx) (ws : Ws), vs = [.ref g, .ref a] ∧ GrAt K H g rs ∧ SqL K H a (refL ws) ∧ LL K H ws ∧ ws.length ≤ 1000 ∧ (∀ w ∈ ws, w.2.length ≤ 100000 ∧ RunOk (sxr rs) w.2) ∧ Q .non H
/-- a machine stands at m: its graph, team, steps, named beats, bill -/
structure MaAt (K : PySem.W.Frag) (H : Hp) (m g ta sa na : Addr) (ws : Ws) (ds : List Nat) (bs : List Int) (b : Int) : Prop where
  ins : ∃ dx, H m = some (.ins (He.ga K "Machine") dx [("graph", .ref g), ("team", .ref ta), ("steps", .ref sa), ("named", .ref na), ("bill", .int b)])
  tm : H ta = some (.lst (refL ws))
  rn : ∀ w ∈ ws, H w.1 = some (ilst w.2)
  st : H sa = some (ilst (nmap ds))
  nd : H na = some (ilst bs)
  ln : ds.length = ws.length
  le : ∀ (i : Nat) (w : Addr × List Int) (d : Nat), ws[i]? = some w → ds[i]? = some d → d ≤ w.2.length
  n1 : sa ≠ na
  n2 : ta ≠ sa
  n3 : ta ≠ na
  n4 : ∀ w ∈ ws, w.1 ≠ sa ∧ w.1 ≠ na
/-- an object of the machine -/
def MaO (m ta sa na : Addr) (ws : Ws) (c : Addr) : Prop := c = m ∨ c = ta ∨ c = sa ∨ c = na ∨ ∃ w ∈ ws, c = w.1
theorem MaAt.keep {K : PySem.W.Frag} {H H2 : Hp} {m g ta sa na : Addr} {ws : Ws} {ds : List Nat} {bs : List Int} {b : Int} (h : MaAt K H m g ta sa na ws ds bs b) (k : ∀ c o, MaO m ta sa na ws c → H c = some o → H2 c = some o) : MaAt K H2 m g ta sa na ws ds bs b := by
  obtain ⟨⟨dx, h1⟩, h2, h3, h4, h5, h6, h7, h8, h9, h10, h11⟩ := h
  exact ⟨⟨dx, k _ _ (.inl rfl) h1⟩, k _ _ (.inr (.inl rfl)) h2, fun w hw => k _ _ (.inr (.inr (.inr (.inr ⟨w, hw, rfl⟩)))) (h3 w hw), k _ _ (.inr (.inr (.inl rfl))) h4, k _ _ (.inr (.inr (.inr (.inl rfl)))) h5, h6, h7, h8, h9, h10, h11⟩
theorem MaAt.same {K : PySem.W.Frag} {H H2 : Hp} {m g ta sa na : Addr} {ws : Ws} {ds : List Nat} {bs : List Int} {b : Int} (h : MaAt K H m g ta sa na ws ds bs b) (s : Same H H2) : MaAt K H2 m g ta sa na ws ds bs b := h.keep fun c o _ e => s c o e
/-- all but the machine's own three objects is as it was -/
def ButM (m sa na : Addr) (H H2 : Hp) : Prop := ∀ c o, c ≠ m → c ≠ sa → c ≠ na → H c = some o → H2 c = some o
def sp_Machine_init (K : PySem.W.Frag) : Sp := fun vs H Q _ => ∃ (m dx g a : Addr) (rs : Rx) (ws : Ws), vs = [.ref m, .ref g, .ref a] ∧ H m = some (.ins (He.ga K "Machine") dx []) ∧ GrAt K H g rs ∧ SqL K H a (refL ws) ∧ LL K H ws ∧ ws.length ≤ 1000 ∧ (∀ w ∈ ws, w.2.length ≤ 100000 ∧ RunOk (sxr rs) w.2) ∧
  ∀ (H2 : Hp) (ta sa na : Addr) (us : Ws), But m H H2 → (∀ c, c = ta ∨ c = sa ∨ c = na ∨ (∃ w ∈ us, c = w.1) → H c = none) → MaAt K H2 m g ta sa na us (us.map fun _ => 0) [] 0 → us.map (·.2) = ws.map (·.2) → Q .non H2
def sp_Machine_over (K : PySem.W.Frag) : Sp := fun vs H Q _ => ∃ (m g ta sa na : Addr) (ws : Ws) (ds : List Nat) (bs : List Int) (b : Int), vs = [.ref m] ∧ MaAt K H m g ta sa na ws ds bs b ∧ ws.length ≤ 1000 ∧ ∀ c : Bool, (c = true ↔ ds = ws.map fun w => w.2.length) → Q (.bl c) H
def sp_Machine_place_of (K : PySem.W.Frag) : Sp := fun vs H Q _ => ∃ (m g ta sa na : Addr) (ws : Ws) (ds : List Nat) (bs : List Int) (b : Int) (i : Nat) (w : Addr × List Int) (d : Nat), vs = [.ref m, .int (i : Int)] ∧ MaAt K H m g ta sa na ws ds bs b ∧ ws[i]? = some w ∧ ds[i]? = some d ∧ Q (.int (plc w.2 d)) H
def sp_Machine_done (K : PySem.W.Frag) : Sp := fun vs H Q _ => ∃ (m g ta sa na : Addr) (ws : Ws) (ds : List Nat) (bs : List Int) (b : Int), vs = [.ref m] ∧ MaAt K H m g ta sa na ws ds bs b ∧ ∀ (H2 : Hp) (p : Addr), Same H H2 → H p = none → H2 p = some (ilst (nmap ds)) → Q (.ref p) H2
/-- the lanes that stand at a node -/
def lanesAt (rs : List (List Int)) (ds : List Nat) (x : Int) : List Nat := (List.range rs.length).filter fun k => decide (plc (rs.getD k []) (ds.getD k 0) = x)
def sp_Machine_at (K : PySem.W.Frag) : Sp := fun vs H Q _ => ∃ (m g ta sa na : Addr) (ws : Ws) (ds : List Nat) (bs : List Int) (b x : Int), vs = [.ref m, .int x] ∧ MaAt K H m g ta sa na ws ds bs b ∧ ws.length ≤ 1000 ∧ ∀ (H2 : Hp) (p : Addr), Same H H2 → H p = none → H2 p = some (ilst (nmap (lanesAt (ws.map (·.2)) ds x))) → Q (.ref p) H2
/-- the steps behind a beat of the lanes ls -/
def moved (ds ls : List Nat) : List Nat := (List.range ds.length).map fun k => ds.getD k 0 + if k ∈ ls then 1 else 0
def sp_Machine_beat (K : PySem.W.Frag) : Sp := fun vs H Q _ => ∃ (m g ta sa na : Addr) (rs : Rx) (ws : Ws) (ds : List Nat) (bs : List Int) (b : Int) (x : Nat) (q : Addr × Addr × Rw) (lv : V) (ls : List Nat), vs = [.ref m, .int (x : Int), lv] ∧ MaAt K H m g ta sa na ws ds bs b ∧ GrAt K H g rs ∧ rs[x]? = some q ∧ ws.length ≤ 60 ∧ bs.length ≤ 100000 ∧
  ((lv = .non ∧ ls = lanesAt (ws.map (·.2)) ds x) ∨ ∃ la, lv = .ref la ∧ SqL K H la ((nmap ls).map V.int) ∧ ls.Pairwise (· < ·) ∧ ∀ k ∈ ls, k ∈ lanesAt (ws.map (·.2)) ds x) ∧
  ∀ (H2 : Hp) (p : Addr), ButM m sa na H H2 → H p = none → H2 p = some (ilst (nmap ls)) → MaAt K H2 m g ta sa na ws (moved ds ls) (bs ++ [(x : Int)]) (b + q.2.2.2.1) → Q (.ref p) H2
end K34

/-! The drawn graph while it is drawn: a list of lists in the heap; what a block and an exit add. -/
namespace Fw
open PySem PySem.Spec PyProof.Rows L2 Lay
def cts (zs : Ws) : Nx := zs.map fun z : Addr × List Int => z.2
theorem cts_get {zs : Ws} {v : Nat} {z : Addr × List Int} (h : zs[v]? = some z) : (cts zs)[v]? = some z.2 := by
  unfold cts
  rw [List.getElem?_map, h]
  rfl
theorem get_cts {zs : Ws} {v : Nat} {l : List Int} (h : (cts zs)[v]? = some l) : ∃ z, zs[v]? = some z ∧ z.2 = l := by
  unfold cts at h
  rw [List.getElem?_map] at h
  exact Option.map_eq_some_iff.mp h
theorem cts_len (zs : Ws) : (cts zs).length = zs.length := List.length_map ..
theorem cts_set (zs : Ws) (v : Nat) (a : Addr) (l : List Int) : cts (zs.set v (a, l)) = (cts zs).set v l := by
  unfold cts
  rw [List.map_set]
theorem get_refL {zs : Ws} {v : Nat} {z : Addr × List Int} (h : zs[v]? = some z) : (refL zs)[v]? = some (.ref z.1) := by
  unfold refL
  rw [List.getElem?_map, h]
  rfl
/-- the list of lists at a, all of it new since H0 -/
structure NxIn (H0 H : Hp) (a : Addr) (zs : Ws) : Prop where
  same : Same H0 H
  new : H0 a = none
  at_ : H a = some (.lst (refL zs))
  els : ∀ z ∈ zs, H0 z.1 = none ∧ z.1 ≠ a ∧ H z.1 = some (ilst z.2)
  nd : (zs.map fun z : Addr × List Int => z.1).Nodup
theorem NxIn.alloc {H0 H : Hp} {a p : Addr} {zs : Ws} {o : HO} (h : NxIn H0 H a zs) (np : H p = none) : NxIn H0 (upd H p o) a zs :=
  ⟨h.same.trans (same_new np), h.new, same_new np _ _ h.at_, fun z hz => ⟨(h.els z hz).1, (h.els z hz).2.1, same_new np _ _ (h.els z hz).2.2⟩, h.nd⟩
theorem NxIn.then {H0 H H2 : Hp} {a : Addr} {zs : Ws} (h : NxIn H0 H a zs) (s : Same H H2) : NxIn H0 H2 a zs :=
  ⟨h.same.trans s, h.new, s _ _ h.at_, fun z hz => ⟨(h.els z hz).1, (h.els z hz).2.1, s _ _ (h.els z hz).2.2⟩, h.nd⟩
theorem NxIn.push {H0 H : Hp} {a l : Addr} {zs : Ws} {c : List Int} (h : NxIn H0 H a zs) (nl : H l = none) : NxIn H0 (upd (upd H l (.lst (c.map V.int))) a (.lst (refL zs ++ [.ref l]))) a (zs ++ [(l, c)]) := by
  have hla : l ≠ a := (ne_of_none h.at_ nl).symm
  refine ⟨same_mut (h.same.trans (same_new nl)) h.new, h.new, ?_, fun z hz => ?_, ?_⟩
  · rw [upd_same]
    unfold refL
    rw [List.map_append]
    rfl
  · rcases List.mem_append.mp hz with hz | hz
    · obtain ⟨h1, h2, h3⟩ := h.els z hz
      refine ⟨h1, h2, ?_⟩
      rw [upd_ne h2]
      exact same_new nl _ _ h3
    · rw [List.mem_singleton.mp hz]
      refine ⟨h.same.free nl, hla, ?_⟩
      show upd (upd H l _) a _ l = _
      rw [upd_ne hla, upd_same]
  · rw [List.map_append]
    refine List.nodup_append.mpr ⟨h.nd, List.pairwise_singleton _ _, fun x hx y hy e => ?_⟩
    obtain ⟨z, hz, rfl⟩ := List.mem_map.mp hx
    have h3 := (h.els z hz).2.2
    rw [e, List.mem_singleton.mp (show y ∈ [l] from hy), nl] at h3
    cases h3
theorem NxIn.app {H0 H : Hp} {a : Addr} {zs : Ws} {v : Nat} {z : Addr × List Int} {x : Int} (h : NxIn H0 H a zs) (hz : zs[v]? = some z) : NxIn H0 (upd H z.1 (.lst (z.2.map V.int ++ [.int x]))) a (zs.set v (z.1, z.2 ++ [x])) := by
  have hzm := List.mem_of_getElem? hz
  have hv := (List.getElem?_eq_some_iff.mp hz).1
  obtain ⟨h1, h2, h3⟩ := h.els z hzm
  have hmap : (zs.set v (z.1, z.2 ++ [x])).map (fun z : Addr × List Int => z.1) = zs.map fun z : Addr × List Int => z.1 := by
    rw [List.map_set]
    refine List.ext_getElem? fun j => ?_
    rw [List.getElem?_set]
    split
    · rename_i e
      subst e
      rw [if_pos (by rw [List.length_map]; exact hv), List.getElem?_map, hz]
      rfl
    · rfl
  refine ⟨same_mut h.same h1, h.new, ?_, fun w hw => ?_, by rw [hmap]; exact h.nd⟩
  · rw [upd_ne h2.symm, h.at_]
    have e : refL (zs.set v (z.1, z.2 ++ [x])) = refL zs := by
      have e2 := congrArg (List.map V.ref) hmap
      rw [List.map_map, List.map_map] at e2
      exact e2
    rw [e]
  · by_cases hwz : w.1 = z.1
    · obtain ⟨j, hj, e⟩ := List.mem_iff_getElem.mp hw
      rw [List.length_set] at hj
      have hjv : j = v := by
        refine (List.getElem_inj h.nd (h₀ := by rw [List.length_map]; exact hj) (h₁ := by rw [List.length_map]; exact hv)).mp ?_
        have e3 : ((zs.set v (z.1, z.2 ++ [x])).map (fun z : Addr × List Int => z.1))[j]? = some w.1 := by
          rw [List.getElem?_map, List.getElem?_eq_getElem (by rw [List.length_set]; exact hj), e]
          rfl
        rw [hmap] at e3
        have e4 : (zs.map fun z : Addr × List Int => z.1)[v]? = some z.1 := by
          rw [List.getElem?_map, hz]
          rfl
        rw [(List.getElem?_eq_some_iff.mp e3).2, (List.getElem?_eq_some_iff.mp e4).2, hwz]
      subst hjv
      rw [List.getElem_set_self] at e
      rw [← e]
      refine ⟨h1, h2, ?_⟩
      show upd H z.1 _ z.1 = _
      rw [upd_same]
      unfold ilst
      rw [List.map_append]
      rfl
    · rcases List.mem_or_eq_of_mem_set hw with hw | hw
      · obtain ⟨q1, q2, q3⟩ := h.els w hw
        refine ⟨q1, q2, ?_⟩
        rw [upd_ne hwz]
        exact q3
      · rw [hw] at hwz
        exact absurd rfl hwz
end Fw
namespace Lay
/-- what a block of s nodes adds to a graph of n nodes -/
structure BlkR (g g2 : Nx) (n s : Nat) : Prop where
  len : g2.length = n + s
  old : ∀ (v : Nat) (l : List Int), g[v]? = some l → ∃ more, g2[v]? = some (l ++ more) ∧ (∀ t ∈ more, (n : Int) ≤ t ∧ t < (n : Int) + s) ∧ (l.length ≤ 4 → (l ++ more).length ≤ 4)
  ring : ∀ p, p < s → ∃ l, g2[n + p]? = some l ∧ (1 < s → l = [((n + (p + 1) % s : Nat) : Int)]) ∧ (s = 1 → l = [] ∨ l = [(n : Int)])
  ent : 0 < n → (∃ l ∈ g, l.length < 4) → ∃ (v : Nat) (l : List Int) (t : Int), v < n ∧ g2[v]? = some l ∧ t ∈ l ∧ (n : Int) ≤ t ∧ t < (n : Int) + s
/-- what an exit of the block of s nodes from b on adds -/
def ExitR (g g2 : Nx) (b s : Nat) : Prop := (g2 = g ∧ ∃ (v : Nat) (l : List Int) (t : Int), b ≤ v ∧ v < b + s ∧ g[v]? = some l ∧ t ∈ l ∧ (t < (b : Int) ∨ (b : Int) + s ≤ t)) ∨
  ∃ (v : Nat) (l : List Int), b ≤ v ∧ v < b + s ∧ g[v]? = some l ∧ l.length < 4 ∧ g2 = g.set v (l ++ [-1])
end Lay

/-! How far each node is from the end. -/
namespace Lay
/-- leads to the end in at most so many steps -/
def Dl (g : Nx) : Nat → Nat → Prop
  | 0, _ => False
  | k + 1, v => ∃ l, g[v]? = some l ∧ ((-1 : Int) ∈ l ∨ ∃ u : Nat, (u : Int) ∈ l ∧ Dl g k u)
theorem Dl.more {g : Nx} : ∀ {k v : Nat}, Dl g k v → Dl g (k + 1) v
  | 0, _, h => h.elim
  | k + 1, v, ⟨l, h1, h2⟩ => ⟨l, h1, h2.imp id fun ⟨u, h3, h4⟩ => ⟨u, h3, h4.more⟩⟩
theorem filter_lt {p q : Nat → Prop} [DecidablePred p] [DecidablePred q] : ∀ (l : List Nat), (∀ x ∈ l, p x → q x) → (∃ x ∈ l, q x ∧ ¬ p x) → (l.filter fun x => decide (p x)).length < (l.filter fun x => decide (q x)).length
  | [], _, ⟨x, hx, _⟩ => nomatch hx
  | y :: l, h, ⟨x, hx, hq, hp⟩ => by
    have hle : ∀ l : List Nat, (∀ x ∈ l, p x → q x) → (l.filter fun x => decide (p x)).length ≤ (l.filter fun x => decide (q x)).length := fun l => by
      induction l with
      | nil => exact fun _ => Nat.le_refl _
      | cons z l ih =>
        intro h
        have := ih fun x hx => h x (List.mem_cons_of_mem _ hx)
        by_cases hz : p z
        · rw [List.filter_cons_of_pos (p := fun x => decide (p x)) (decide_eq_true hz), List.filter_cons_of_pos (p := fun x => decide (q x)) (decide_eq_true (h z (List.mem_cons_self ..) hz)), List.length_cons, List.length_cons]
          omega
        · rw [List.filter_cons_of_neg (p := fun x => decide (p x)) (by simp [hz])]
          by_cases hz2 : q z
          · rw [List.filter_cons_of_pos (p := fun x => decide (q x)) (decide_eq_true hz2), List.length_cons]
            omega
          · rw [List.filter_cons_of_neg (p := fun x => decide (q x)) (by simp [hz2])]
            exact this
    have hl := fun x hx => h x (List.mem_cons_of_mem y hx)
    rcases List.mem_cons.mp hx with e | hx
    · subst e
      rw [List.filter_cons_of_neg (p := fun x => decide (p x)) (by simp [hp]), List.filter_cons_of_pos (p := fun x => decide (q x)) (decide_eq_true hq), List.length_cons]
      have := hle l hl
      omega
    · have ih := filter_lt l hl ⟨x, hx, hq, hp⟩
      by_cases hz : p y
      · rw [List.filter_cons_of_pos (p := fun x => decide (p x)) (decide_eq_true hz), List.filter_cons_of_pos (p := fun x => decide (q x)) (decide_eq_true (h y (List.mem_cons_self ..) hz)), List.length_cons, List.length_cons]
        omega
      · rw [List.filter_cons_of_neg (p := fun x => decide (p x)) (by simp [hz])]
        by_cases hz2 : q y
        · rw [List.filter_cons_of_pos (p := fun x => decide (q x)) (decide_eq_true hz2), List.length_cons]
          omega
        · rw [List.filter_cons_of_neg (p := fun x => decide (q x)) (by simp [hz2])]
          exact ih
theorem dl_all {g : Nx} (h : GOk g) : ∀ v, v < g.length → Dl g g.length v := by
  classical
  have hP : ∀ k, (∀ v, v < g.length → Dl g k v) ∨ k ≤ ((List.range g.length).filter fun x => decide (Dl g k x)).length := fun k => by
    induction k with
    | zero => exact .inr (Nat.zero_le _)
    | succ k ih =>
      by_cases hall : ∀ v, v < g.length → Dl g (k + 1) v
      · exact .inl hall
      · right
        rcases ih with ih | ih
        · exact absurd (fun v hv => (ih v hv).more) hall
        · have hne : ∃ x ∈ List.range g.length, Dl g (k + 1) x ∧ ¬ Dl g k x := by
            by_cases hex : ∃ x ∈ List.range g.length, Dl g (k + 1) x ∧ ¬ Dl g k x
            · exact hex
            · exfalso
              have hcl : ∀ x, x < g.length → Dl g (k + 1) x → Dl g k x := fun x hx hd => by
                by_cases hk : Dl g k x
                · exact hk
                · exact absurd ⟨x, List.mem_range.mpr hx, hd, hk⟩ hex
              have hld : ∀ v, Ld g v → Dl g k v := fun v hv => by
                induction hv with
                | fin h1 h2 => exact hcl _ (List.getElem?_eq_some_iff.mp h1).1 ⟨_, h1, .inl h2⟩
                | step h1 h2 _ ih => exact hcl _ (List.getElem?_eq_some_iff.mp h1).1 ⟨_, h1, .inr ⟨_, h2, ih⟩⟩
              exact hall fun v hv => (hld v (h.ends v hv)).more
          have := filter_lt (List.range g.length) (fun x _ hx => hx.more) hne
          omega
  rcases hP g.length with h1 | h1
  · exact h1
  · intro v hv
    have hle := List.length_filter_le (fun x => decide (Dl g g.length x)) (List.range g.length)
    rw [List.length_range] at hle
    have e : ((List.range g.length).filter fun x => decide (Dl g g.length x)).length = (List.range g.length).length := by
      rw [List.length_range]
      omega
    have h2 := List.length_filter_eq_length_iff.mp e v (List.mem_range.mpr hv)
    exact of_decide_eq_true h2
/-- the numbers while they are found -/
structure Hm (g : Nx) (t i : Nat) (hs : List Nat) : Prop where
  len : hs.length = g.length
  jv : ∀ (v h : Nat) (l : List Int), hs[v]? = some h → g[v]? = some l → 1 ≤ h ∧ (h = 2 * g.length ∨ (h = 1 ∧ (-1 : Int) ∈ l) ∨ ∃ u h2 : Nat, (u : Int) ∈ l ∧ hs[u]? = some h2 ∧ h2 + 1 ≤ h)
  b1 : ∀ v h : Nat, Dl g t v → hs[v]? = some h → h ≤ t
  b2 : ∀ v h : Nat, v < i → Dl g (t + 1) v → hs[v]? = some h → h ≤ t + 1
theorem Hm.set {g : Nx} {t i v h h' : Nat} {hs : List Nat} {l : List Int} (H : Hm g t i hs) (hv : hs[v]? = some h) (hl : g[v]? = some l) (h1 : h' ≤ h) (h2 : 1 ≤ h') (h3 : (h' = 1 ∧ (-1 : Int) ∈ l) ∨ ∃ u hu : Nat, (u : Int) ∈ l ∧ u ≠ v ∧ hs[u]? = some hu ∧ hu + 1 ≤ h') : Hm g t i (hs.set v h') := by
  have hvl := (List.getElem?_eq_some_iff.mp hv).1
  have hget : ∀ (u x : Nat), hs[u]? = some x → ∃ y, (hs.set v h')[u]? = some y ∧ y ≤ x := fun u x hu => by
    rw [List.getElem?_set]
    by_cases e : v = u
    · subst e
      rw [if_pos rfl, if_pos hvl]
      rw [hv] at hu
      exact ⟨h', rfl, by rw [← Option.some.inj hu]; exact h1⟩
    · rw [if_neg e]
      exact ⟨x, hu, Nat.le_refl _⟩
  have hold : ∀ (u y : Nat), (hs.set v h')[u]? = some y → ∃ x, hs[u]? = some x ∧ y ≤ x := fun u y hu => by
    rw [List.getElem?_set] at hu
    by_cases e : v = u
    · subst e
      rw [if_pos rfl, if_pos hvl] at hu
      exact ⟨h, hv, by rw [← Option.some.inj hu]; exact h1⟩
    · rw [if_neg e] at hu
      exact ⟨y, hu, Nat.le_refl _⟩
  refine ⟨by rw [List.length_set]; exact H.len, fun w y m hw hm => ?_, fun w y hd hw => ?_, fun w y hwi hd hw => ?_⟩
  · by_cases e : v = w
    · subst e
      rw [List.getElem?_set, if_pos rfl, if_pos hvl] at hw
      rw [hl] at hm
      rw [← Option.some.inj hw, ← Option.some.inj hm]
      refine ⟨h2, .inr ?_⟩
      rcases h3 with h3 | ⟨u, hu, h4, h5, h6, h7⟩
      · exact .inl h3
      · refine .inr ⟨u, hu, h4, ?_, h7⟩
        rw [List.getElem?_set, if_neg fun e => h5 e.symm]
        exact h6
    · rw [List.getElem?_set, if_neg e] at hw
      obtain ⟨h4, h5⟩ := H.jv w y m hw hm
      refine ⟨h4, ?_⟩
      rcases h5 with h5 | h5 | ⟨u, x, h6, h7, h8⟩
      · exact .inl h5
      · exact .inr (.inl h5)
      · obtain ⟨z, h9, h10⟩ := hget u x h7
        exact .inr (.inr ⟨u, z, h6, h9, by omega⟩)
  · obtain ⟨x, h4, h5⟩ := hold w y hw
    have := H.b1 w x hd h4
    omega
  · obtain ⟨x, h4, h5⟩ := hold w y hw
    have := H.b2 w x hwi hd h4
    omega
theorem Hm.turn {g : Nx} {t : Nat} {hs : List Nat} (H : Hm g t g.length hs) : Hm g (t + 1) 0 hs :=
  ⟨H.len, H.jv, fun v h hd hv => H.b2 v h (by have := (List.getElem?_eq_some_iff.mp hv).1; have := H.len; omega) hd hv, fun v h hv => absurd hv (Nat.not_lt_zero _)⟩
/-- within a row: what the targets seen ask -/
structure Hin (g : Nx) (t v : Nat) (pre : List Int) (hs : List Nat) : Prop where
  hm : Hm g t v hs
  fin : (-1 : Int) ∈ pre → ∀ h, hs[v]? = some h → h ≤ 1
  nxt : ∀ (u hu hv : Nat), (u : Int) ∈ pre → hs[u]? = some hu → hs[v]? = some hv → hv ≤ hu + 1
theorem Hin.row {g : Nx} {t v : Nat} {l : List Int} {hs : List Nat} (H : Hin g t v l hs) (hl : g[v]? = some l) (hr : ∀ u : Nat, (u : Int) ∈ l → u < g.length) : Hm g t (v + 1) hs := by
  refine ⟨H.hm.len, H.hm.jv, H.hm.b1, fun w h hw hd hh => ?_⟩
  by_cases e : w = v
  · subst e
    obtain ⟨m, h1, h2⟩ := hd
    rw [hl] at h1
    rw [← Option.some.inj h1] at h2
    rcases h2 with h2 | ⟨u, h2, h3⟩
    · have := H.fin h2 h hh
      omega
    · have hul : u < hs.length := by
        rw [H.hm.len]
        exact hr u h2
      have h4 := H.nxt u _ h h2 (List.getElem?_eq_getElem hul) hh
      have h5 := H.hm.b1 u _ h3 (List.getElem?_eq_getElem hul)
      omega
  · exact H.hm.b2 w h (by omega) hd hh
theorem Hin.skip {g : Nx} {t v : Nat} {pre : List Int} {x : Int} {hs : List Nat} (H : Hin g t v pre hs) (h1 : x = -1 → ∀ h, hs[v]? = some h → h ≤ 1) (h2 : ∀ u hu hv : Nat, x = (u : Int) → hs[u]? = some hu → hs[v]? = some hv → hv ≤ hu + 1) : Hin g t v (pre ++ [x]) hs := by
  refine ⟨H.hm, fun hm => ?_, fun u hu hv hm => ?_⟩
  · rcases List.mem_append.mp hm with hm | hm
    · exact H.fin hm
    · exact h1 (List.mem_singleton.mp hm).symm
  · rcases List.mem_append.mp hm with hm | hm
    · exact H.nxt u hu hv hm
    · exact h2 u hu hv (List.mem_singleton.mp hm).symm
theorem Hin.set {g : Nx} {t v h h' : Nat} {pre l : List Int} {x : Int} {hs : List Nat} (H : Hin g t v pre hs) (hv : hs[v]? = some h) (hl : g[v]? = some l) (h1 : h' ≤ h) (h2 : 1 ≤ h')
    (h3 : (h' = 1 ∧ x = -1 ∧ x ∈ l) ∨ ∃ u hu : Nat, x = (u : Int) ∧ x ∈ l ∧ u ≠ v ∧ hs[u]? = some hu ∧ hu + 1 = h') : Hin g t v (pre ++ [x]) (hs.set v h') := by
  have hvl := (List.getElem?_eq_some_iff.mp hv).1
  have hself : (hs.set v h')[v]? = some h' := by rw [List.getElem?_set, if_pos rfl, if_pos hvl]
  have hne : ∀ u, u ≠ v → (hs.set v h')[u]? = hs[u]? := fun u hu => by rw [List.getElem?_set, if_neg fun e => hu e.symm]
  have hbase : Hin g t v pre (hs.set v h') := by
    refine ⟨H.hm.set hv hl h1 h2 ?_, fun hm k hk => ?_, fun u hu w hm hk hw => ?_⟩
    · rcases h3 with ⟨h4, h5, h6⟩ | ⟨u, hu, h4, h5, h6, h7, h8⟩
      · exact .inl ⟨h4, by rw [← h5]; exact h6⟩
      · exact .inr ⟨u, hu, by rw [← h4]; exact h5, h6, h7, Nat.le_of_eq h8⟩
    · rw [hself] at hk
      have := H.fin hm h hv
      rw [← Option.some.inj hk]
      omega
    · rw [hself] at hw
      rw [← Option.some.inj hw]
      by_cases e : u = v
      · rw [e, hself] at hk
        rw [← Option.some.inj hk]
        omega
      · rw [hne u e] at hk
        have := H.nxt u hu h hm hk hv
        omega
  refine hbase.skip (fun e k hk => ?_) (fun u hu w e hk hw => ?_)
  · rw [hself] at hk
    rw [← Option.some.inj hk]
    rcases h3 with ⟨h4, _⟩ | ⟨u, hu, h4, _⟩
    · omega
    · omega
  · rw [hself] at hw
    rw [← Option.some.inj hw]
    rcases h3 with ⟨h4, h5, _⟩ | ⟨u2, hu2, h4, h5, h6, h7, h8⟩
    · omega
    · have e2 : u2 = u := by omega
      rw [e2] at h6 h7
      rw [hne u h6, h7] at hk
      rw [← Option.some.inj hk]
      omega
theorem Hin.start {g : Nx} {t v : Nat} {hs : List Nat} (H : Hm g t v hs) : Hin g t v [] hs := ⟨H, fun h => (nomatch h), fun _ _ _ h => (nomatch h)⟩
/-- the numbers found -/
def HomeOk (g : Nx) (hs : List Nat) : Prop := hs.length = g.length ∧ ∀ (v h : Nat) (l : List Int), hs[v]? = some h → g[v]? = some l → 1 ≤ h ∧ h ≤ g.length ∧ ((-1 : Int) ∈ l ∨ ∃ u h2 : Nat, (u : Int) ∈ l ∧ hs[u]? = some h2 ∧ h2 < h)
theorem Hm.done {g : Nx} {hs : List Nat} (hg : GOk g) (H : Hm g g.length 0 hs) : HomeOk g hs := by
  refine ⟨H.len, fun v h l hv hl => ?_⟩
  have hvl := (List.getElem?_eq_some_iff.mp hl).1
  obtain ⟨h1, h2⟩ := H.jv v h l hv hl
  have h3 := H.b1 v h (dl_all hg v hvl) hv
  refine ⟨h1, h3, ?_⟩
  rcases h2 with h2 | ⟨_, h2⟩ | ⟨u, x, h4, h5, h6⟩
  · have := hg.pos
    omega
  · exact .inl h2
  · exact .inr ⟨u, x, h4, h5, by omega⟩
theorem Hm.start (g : Nx) : Hm g 0 0 (List.replicate g.length (2 * g.length)) := by
  refine ⟨List.length_replicate .., fun v h l hv hl => ?_, fun v h hd => hd.elim, fun v h hv => absurd hv (Nat.not_lt_zero _)⟩
  have hvl := (List.getElem?_eq_some_iff.mp hl).1
  rw [List.getElem?_replicate, if_pos hvl] at hv
  have := Option.some.inj hv
  exact ⟨by omega, .inl (by omega)⟩
/-- a row of nodes that goes along the graph from node 0 -/
structure PRun (g : Nx) (r : List Int) : Prop where
  first : r[0]? = some 0
  rng : ∀ x ∈ r, 0 ≤ x ∧ x < (g.length : Int)
  next : ∀ (i : Nat) (x y : Int), r[i]? = some x → r[i + 1]? = some y → ∃ l, g[x.toNat]? = some l ∧ y ∈ l
theorem PRun.snoc {g : Nx} {r : List Int} {w : Nat} {l : List Int} {y : Int} (h : PRun g r) (hw : r[r.length - 1]? = some (w : Int)) (hl : g[w]? = some l) (hy : y ∈ l) (h0 : 0 ≤ y) (h1 : y < (g.length : Int)) : PRun g (r ++ [y]) := by
  have hp : 0 < r.length := (List.getElem?_eq_some_iff.mp h.first).1
  refine ⟨by rw [List.getElem?_append_left hp]; exact h.first, fun x hx => ?_, fun i x z hx hz => ?_⟩
  · rcases List.mem_append.mp hx with hx | hx
    · exact h.rng x hx
    · rw [List.mem_singleton.mp hx]
      exact ⟨h0, h1⟩
  · have hi := (List.getElem?_eq_some_iff.mp hz).1
    rw [List.length_append] at hi
    have hi2 : i + 1 < r.length + 1 := hi
    rw [List.getElem?_append_left (by omega)] at hx
    by_cases hlt : i + 1 < r.length
    · rw [List.getElem?_append_left hlt] at hz
      exact h.next i x z hx hz
    · have e : i + 1 = r.length := by omega
      rw [e, List.getElem?_concat_length] at hz
      rw [show i = r.length - 1 by omega, hw] at hx
      rw [← Option.some.inj hx, ← Option.some.inj hz]
      exact ⟨l, by rw [Int.toNat_natCast]; exact hl, hy⟩
end Lay

/-! Lists of lists of whole numbers, compared place by place. -/
namespace Fw
open PySem PySem.Spec PyProof.Rows L2 Lay
def dI (ns : List Int) : PyData := .list (ns.map PyData.int)
def dL (ls : Ls) : PyData := .list (ls.map dI)
theorem lay_ints : ∀ ns : List Int, PyData.canLayAll0 (ns.map PyData.int) = true
  | [] => rfl
  | n :: ns => by
    show (PyData.canLay0 (.int n) && PyData.canLayAll0 (ns.map PyData.int)) = true
    rw [lay_ints ns]
    rfl
theorem lay_rows : ∀ ls : Ls, PyData.canLayAll0 (ls.map dI) = true
  | [] => rfl
  | l :: ls => by
    show (PyData.canLayAll0 (l.map PyData.int) && PyData.canLayAll0 (ls.map dI)) = true
    rw [lay_rows ls, lay_ints l]
    rfl
theorem dep_ints : ∀ ns : List Int, PyData.depthAll (ns.map PyData.int) = 0
  | [] => rfl
  | n :: ns => by
    show max (PyData.depth (.int n)) (PyData.depthAll (ns.map PyData.int)) = 0
    rw [dep_ints ns]
    rfl
theorem dep_rows : ∀ ls : Ls, PyData.depthAll (ls.map dI) ≤ 1
  | [] => Nat.zero_le _
  | l :: ls => by
    show max (PyData.depthAll (l.map PyData.int) + 1) (PyData.depthAll (ls.map dI)) ≤ 1
    have := dep_rows ls
    rw [dep_ints l]
    omega
theorem dI_shaped (ns : List Int) : SeqAt.shaped (dI ns) = true := by
  show (PyData.canLayAll0 (ns.map PyData.int) && decide (PyData.depthAll (ns.map PyData.int) + 1 ≤ 64)) = true
  rw [lay_ints, dep_ints]
  rfl
theorem dL_shaped (ls : Ls) : SeqAt.shaped (dL ls) = true := by
  show (PyData.canLayAll0 (ls.map dI) && decide (PyData.depthAll (ls.map dI) + 1 ≤ 64)) = true
  have := dep_rows ls
  rw [lay_rows, decide_eq_true (by omega)]
  rfl
theorem dI_eqv (ns : List Int) : PyData.eqv (dI ns) (dI ns) = true := SeqAt.eqv_refl _ (SeqAt.canLay_of_shaped (dI_shaped ns))
theorem dL_eqv (ls : Ls) : PyData.eqv (dL ls) (dL ls) = true := SeqAt.eqv_refl _ (SeqAt.canLay_of_shaped (dL_shaped ls))
theorem dp_ints {K : PySem.W.Frag} {H : Hp} : ∀ ns : List Int, DpAll K H (ns.map V.int) (ns.map PyData.int)
  | [] => .nil
  | n :: ns => .cons (.int n) (dp_ints ns)
theorem dp_row {K : PySem.W.Frag} {H : Hp} {a : Addr} {ns : List Int} (h : SqL K H a (ns.map V.int)) : Dp K H (.ref a) (dI ns) := .lst h (dp_ints ns)
theorem dp_rows {K : PySem.W.Frag} {H : Hp} : ∀ {zs : Ws}, LL K H zs → DpAll K H (refL zs) ((zs.map (·.2)).map dI)
  | [], _ => .nil
  | z :: zs, h => .cons (dp_row (h z (List.mem_cons_self ..))) (dp_rows fun x hx => h x (List.mem_cons_of_mem _ hx))
theorem dp_list {K : PySem.W.Frag} {H : Hp} {a : Addr} {zs : Ws} (hs : SqL K H a (refL zs)) (h : LL K H zs) : Dp K H (.ref a) (dL (zs.map (·.2))) := .lst hs (dp_rows h)
end Fw

/-! Fronts of rows: where each row stands, what a step does, the least price from a front. -/
namespace Lay
abbrev Ft := List Nat
def rst : Ls → Ft → Ls
  | l :: ls, k :: f => l.drop k :: rst ls f
  | _, _ => []
def fstep (b : Int) : Ls → Ft → Ft
  | l :: ls, k :: f => (k + if due l k b = true then 1 else 0) :: fstep b ls f
  | _, _ => []
def FOk : Ls → Ft → Prop
  | [], [] => True
  | l :: ls, k :: f => k ≤ l.length ∧ FOk ls f
  | _, _ => False
/-- b is the next symbol of a row -/
def Sym : Ls → Ft → Int → Prop
  | l :: ls, k :: f, b => l[k]? = some b ∨ Sym ls f b
  | _, _, _ => False
def f0 (ls : Ls) : Ft := ls.map fun _ => 0
theorem FOk.len : ∀ {ls : Ls} {f : Ft}, FOk ls f → f.length = ls.length
  | [], [], _ => rfl
  | _ :: _, _ :: _, h => by rw [List.length_cons, List.length_cons, FOk.len h.2]
  | [], _ :: _, h => h.elim
  | _ :: _, [], h => h.elim
theorem FOk.zero : ∀ ls : Ls, FOk ls (f0 ls)
  | [] => trivial
  | l :: ls => ⟨Nat.zero_le _, FOk.zero ls⟩
theorem rst_zero : ∀ ls : Ls, rst ls (f0 ls) = ls
  | [] => rfl
  | l :: ls => by
    show l.drop 0 :: rst ls (f0 ls) = _
    rw [rst_zero ls]
    rfl
theorem rst_step (b : Int) : ∀ (ls : Ls) (f : Ft), rst ls (fstep b ls f) = (rst ls f).map (adv b)
  | l :: ls, k :: f => by
    show l.drop (k + if due l k b = true then 1 else 0) :: rst ls (fstep b ls f) = adv b (l.drop k) :: (rst ls f).map (adv b)
    rw [rst_step b ls f, drop_adv]
  | [], _ => rfl
  | _ :: _, [] => rfl
theorem FOk.step (b : Int) : ∀ {ls : Ls} {f : Ft}, FOk ls f → FOk ls (fstep b ls f)
  | [], [], _ => trivial
  | l :: ls, k :: f, h => by
    refine ⟨?_, FOk.step b h.2⟩
    have h1 := h.1
    split
    · rename_i e
      have := due_lt e
      omega
    · omega
  | [], _ :: _, h => h.elim
  | _ :: _, [], h => h.elim
theorem sum_step (b : Int) : ∀ {ls : Ls} {f : Ft}, FOk ls f → f.sum ≤ (fstep b ls f).sum ∧ (Sym ls f b → f.sum < (fstep b ls f).sum)
  | [], [], _ => ⟨Nat.le_refl _, fun h => h.elim⟩
  | l :: ls, k :: f, h => by
    obtain ⟨h1, h2⟩ := sum_step b h.2
    show (k :: f).sum ≤ ((k + if due l k b = true then 1 else 0) :: fstep b ls f).sum ∧ (_ → (k :: f).sum < ((k + if due l k b = true then 1 else 0) :: fstep b ls f).sum)
    rw [List.sum_cons, List.sum_cons]
    refine ⟨by split <;> omega, fun s => ?_⟩
    rcases s with s | s
    · rw [if_pos (show due l k b = true from decide_eq_true s)]
      omega
    · have := h2 s
      split <;> omega
  | [], _ :: _, h => h.elim
  | _ :: _, [], h => h.elim
theorem sum_le : ∀ {ls : Ls} {f : Ft}, FOk ls f → f.sum ≤ (ls.map List.length).sum
  | [], [], _ => Nat.le_refl _
  | l :: ls, k :: f, h => by
    have := sum_le h.2
    have := h.1
    rw [List.map_cons, List.sum_cons, List.sum_cons]
    omega
  | [], _ :: _, h => h.elim
  | _ :: _, [], h => h.elim
theorem sym_rest : ∀ {ls : Ls} {f : Ft} {b : Int}, Sym ls f b ↔ ∃ r ∈ rst ls f, ∃ q, r = b :: q
  | l :: ls, k :: f, b => by
    constructor
    · rintro (h | h)
      · have hlt := (List.getElem?_eq_some_iff.mp h).1
        refine ⟨l.drop k, List.mem_cons_self .., l.drop (k + 1), ?_⟩
        rw [List.drop_eq_getElem_cons hlt, (List.getElem?_eq_some_iff.mp h).2]
      · obtain ⟨r, hr, q, e⟩ := sym_rest.mp h
        exact ⟨r, List.mem_cons_of_mem _ hr, q, e⟩
    · rintro ⟨r, hr, q, e⟩
      rcases List.mem_cons.mp hr with h | h
      · left
        have h2 : (l.drop k)[0]? = some b := by rw [← h, e]; rfl
        rw [List.getElem?_drop] at h2
        simpa using h2
      · exact .inr (sym_rest.mpr ⟨r, h, q, e⟩)
  | [], _, b => ⟨fun h => h.elim, fun ⟨r, hr, _⟩ => nomatch hr⟩
  | _ :: _, [], b => ⟨fun h => h.elim, fun ⟨r, hr, _⟩ => nomatch hr⟩
theorem least_of {w : Int → Int} (hw : ∀ c, 0 ≤ w c) {ls : Ls} {f : Ft} {u : Int → Int} (L : ∀ b, Sym ls f b → Least w (rst ls (fstep b ls f)) (u b)) {v : Int}
    (h0 : (∀ b, ¬ Sym ls f b) → v = 0) (h1 : (∃ b, Sym ls f b) → ∃ b, Sym ls f b ∧ v = w b + u b) (h2 : ∀ b, Sym ls f b → v ≤ w b + u b) : Least w (rst ls f) v := by
  by_cases h : ∃ b, Sym ls f b
  · obtain ⟨b, hb, e⟩ := h1 h
    refine least_step hw ?_ ?_
    · obtain ⟨r, hr, q, e2⟩ := sym_rest.mp hb
      have := L b hb
      rw [rst_step] at this
      exact ⟨r, hr, b, q, u b, e2, this, e⟩
    · intro r hr b2 q e2
      have hs := sym_rest.mpr ⟨r, hr, q, e2⟩
      have := L b2 hs
      rw [rst_step] at this
      exact ⟨u b2, this, h2 b2 hs⟩
  · rw [h0 fun b hb => h ⟨b, hb⟩]
    refine least_end hw fun r hr => ?_
    cases r with
    | nil => rfl
    | cons b q => exact absurd ⟨b, sym_rest.mpr ⟨_, hr, q, rfl⟩⟩ h
/-- a code below the product, different for different fronts -/
def code : Ls → Ft → Nat
  | l :: ls, k :: f => k + (l.length + 1) * code ls f
  | _, _ => 0
theorem code_lt : ∀ {ls : Ls} {f : Ft}, FOk ls f → code ls f < prodL ls
  | [], [], _ => Nat.one_pos
  | l :: ls, k :: f, h => by
    have h1 := code_lt h.2
    have h2 := h.1
    show k + (l.length + 1) * code ls f < (l.length + 1) * prodL ls
    have h3 : (l.length + 1) * (code ls f + 1) ≤ (l.length + 1) * prodL ls := Nat.mul_le_mul_left _ h1
    rw [Nat.mul_add] at h3
    omega
  | [], _ :: _, h => h.elim
  | _ :: _, [], h => h.elim
theorem code_inj : ∀ {ls : Ls} {f g : Ft}, FOk ls f → FOk ls g → code ls f = code ls g → f = g
  | [], [], [], _, _, _ => rfl
  | l :: ls, k :: f, m :: g, hf, hg, e => by
    have e2 : k + (l.length + 1) * code ls f = m + (l.length + 1) * code ls g := e
    have h1 := hf.1
    have h2 := hg.1
    have a : (k + (l.length + 1) * code ls f) % (l.length + 1) = k := by
      rw [Nat.add_mul_mod_self_left, Nat.mod_eq_of_lt (by omega)]
    have b : (m + (l.length + 1) * code ls g) % (l.length + 1) = m := by
      rw [Nat.add_mul_mod_self_left, Nat.mod_eq_of_lt (by omega)]
    have km : k = m := by rw [← a, e2, b]
    subst km
    have e3 : (l.length + 1) * code ls f = (l.length + 1) * code ls g := by omega
    have e4 := Nat.eq_of_mul_eq_mul_left (Nat.succ_pos _) e3
    rw [code_inj hf.2 hg.2 e4]
  | [], _ :: _, _, h, _, _ => h.elim
  | [], [], _ :: _, _, h, _ => h.elim
  | _ :: _, [], _, h, _, _ => h.elim
  | _ :: _, _ :: _, [], _, h, _ => h.elim
theorem nodup_lt : ∀ (n : Nat) (l : List Nat), l.Nodup → (∀ x ∈ l, x < n) → l.length ≤ n
  | 0, l, _, h => by
    cases l with
    | nil => exact Nat.le_refl _
    | cons x l => exact absurd (h x (List.mem_cons_self ..)) (Nat.not_lt_zero _)
  | n + 1, l, nd, h => by
    have h1 := nodup_lt n (l.erase n) (nd.erase n) fun x hx => by
      have h2 := h x (List.mem_of_mem_erase hx)
      have h3 : x ≠ n := fun e => by
        rw [e] at hx
        exact (nd.not_mem_erase) hx
      omega
    have h4 := List.length_erase_le (a := n) (l := l)
    have h5 : l.length ≤ (l.erase n).length + 1 := by
      rw [List.length_erase]
      split <;> omega
    omega
theorem few_fronts {ls : Ls} {fs : List Ft} (nd : fs.Nodup) (ok : ∀ f ∈ fs, FOk ls f) : fs.length ≤ prodL ls := by
  have h1 : (fs.map (code ls)).Nodup := by
    refine List.pairwise_map.mpr ((List.Pairwise.and_mem.mp nd).imp ?_)
    rintro f g ⟨hf, hg, ne⟩ e
    exact ne (code_inj (ok f hf) (ok g hg) e)
  have h2 := nodup_lt (prodL ls) _ h1 fun x hx => by
    obtain ⟨f, hf, rfl⟩ := List.mem_map.mp hx
    exact code_lt (ok f hf)
  rw [List.length_map] at h2
  exact h2
end Lay

/-! Fronts by place; keys of dicts. -/
namespace Lay
theorem step_len (b : Int) : ∀ {ls : Ls} {f : Ft}, FOk ls f → (fstep b ls f).length = ls.length := fun h => (h.step b).len
theorem step_get (b : Int) : ∀ {ls : Ls} {f : Ft} {j : Nat} {l : List Int} {k : Nat}, ls[j]? = some l → f[j]? = some k → (fstep b ls f)[j]? = some (k + if due l k b = true then 1 else 0)
  | l0 :: ls, k0 :: f, 0, l, k, h1, h2 => by
    obtain rfl := Option.some.inj h1
    obtain rfl := Option.some.inj h2
    rfl
  | l0 :: ls, k0 :: f, j + 1, l, k, h1, h2 => step_get b (ls := ls) (f := f) (j := j) h1 h2
  | [], _, _, _, _, h1, _ => by simp at h1
  | _ :: _, [], _, _, _, _, h2 => by simp at h2
theorem sym_get : ∀ {ls : Ls} {f : Ft} {b : Int}, Sym ls f b ↔ ∃ (j : Nat) (l : List Int) (k : Nat), ls[j]? = some l ∧ f[j]? = some k ∧ l[k]? = some b
  | l0 :: ls, k0 :: f, b => by
    constructor
    · rintro (h | h)
      · exact ⟨0, l0, k0, rfl, rfl, h⟩
      · obtain ⟨j, l, k, h1, h2, h3⟩ := sym_get.mp h
        exact ⟨j + 1, l, k, h1, h2, h3⟩
    · rintro ⟨j, l, k, h1, h2, h3⟩
      cases j with
      | zero =>
        obtain rfl := Option.some.inj h1
        obtain rfl := Option.some.inj h2
        exact .inl h3
      | succ j => exact .inr (sym_get.mpr ⟨j, l, k, h1, h2, h3⟩)
  | [], f, b => ⟨fun h => h.elim, fun ⟨j, l, k, h1, _⟩ => by simp at h1⟩
  | _ :: _, [], b => ⟨fun h => h.elim, fun ⟨j, l, k, _, h2, _⟩ => by simp at h2⟩
theorem FOk.at : ∀ {ls : Ls} {f : Ft} {j : Nat} {l : List Int}, FOk ls f → ls[j]? = some l → ∃ k, f[j]? = some k ∧ k ≤ l.length
  | l0 :: ls, k0 :: f, 0, l, h, h1 => by
    obtain rfl := Option.some.inj h1
    exact ⟨k0, rfl, h.1⟩
  | l0 :: ls, k0 :: f, j + 1, l, h, h1 => FOk.at (ls := ls) (f := f) (j := j) h.2 h1
  | [], _, _, _, _, h1 => by simp at h1
  | _ :: _, [], _, _, h, _ => h.elim
/-- the step of b, done in the first i rows -/
def pfs (b : Int) (ls : Ls) (f : Ft) (i : Nat) : Ft := (fstep b ls f).take i ++ f.drop i
def SymB (ls : Ls) (f : Ft) (i : Nat) (b : Int) : Prop := ∃ (j : Nat) (l : List Int) (k : Nat), j < i ∧ ls[j]? = some l ∧ f[j]? = some k ∧ l[k]? = some b
theorem pfs_len {b : Int} {ls : Ls} {f : Ft} (h : FOk ls f) (i : Nat) : (pfs b ls f i).length = ls.length := by
  have h1 := h.len
  have h2 := step_len b h
  unfold pfs
  rw [List.length_append, List.length_take, List.length_drop]
  omega
theorem pfs_get {b : Int} {ls : Ls} {f : Ft} (h : FOk ls f) (i j : Nat) : (pfs b ls f i)[j]? = if j < i then (fstep b ls f)[j]? else f[j]? := by
  have h1 := h.len
  have h2 := step_len b h
  unfold pfs
  by_cases hj : j < i
  · rw [if_pos hj]
    by_cases h3 : j < (fstep b ls f).length
    · rw [List.getElem?_append_left (by rw [List.length_take]; omega), List.getElem?_take, if_pos hj]
    · rw [List.getElem?_eq_none (by rw [List.length_append, List.length_take, List.length_drop]; omega), List.getElem?_eq_none (by omega)]
  · rw [if_neg hj]
    by_cases h3 : j < f.length
    · rw [List.getElem?_append_right (by rw [List.length_take]; omega), List.length_take, List.getElem?_drop]
      congr 1
      omega
    · rw [List.getElem?_eq_none (by rw [List.length_append, List.length_take, List.length_drop]; omega), List.getElem?_eq_none (by omega)]
theorem pfs_fresh {b : Int} {ls : Ls} {f : Ft} (h : FOk ls f) {i : Nat} (hn : ¬ SymB ls f i b) : pfs b ls f i = f := by
  refine List.ext_getElem? fun j => ?_
  rw [pfs_get h]
  split
  · rename_i hj
    by_cases hl : j < ls.length
    · obtain ⟨k, hk, _⟩ := h.at (List.getElem?_eq_getElem hl)
      rw [step_get b (List.getElem?_eq_getElem hl) hk, if_neg, hk]
      · rfl
      · exact fun e => hn ⟨j, _, k, hj, List.getElem?_eq_getElem hl, hk, of_decide_eq_true e⟩
    · have h1 := h.len
      have h2 := step_len b h
      rw [List.getElem?_eq_none (by omega), List.getElem?_eq_none (by omega)]
  · rfl
theorem pfs_due {b : Int} {ls : Ls} {f : Ft} (h : FOk ls f) {i k : Nat} {l : List Int} (hl : ls[i]? = some l) (hk : f[i]? = some k) (e : l[k]? = some b) : (pfs b ls f i).set i (k + 1) = pfs b ls f (i + 1) := by
  have hi := (List.getElem?_eq_some_iff.mp hl).1
  refine List.ext_getElem? fun j => ?_
  rw [List.getElem?_set, pfs_get h, pfs_get h, pfs_len h]
  by_cases hj : i = j
  · subst hj
    rw [if_pos rfl, if_pos hi, if_pos (Nat.lt_succ_self _), step_get b hl hk, if_pos (show due l k b = true from decide_eq_true e)]
  · rw [if_neg hj]
    by_cases h2 : j < i
    · rw [if_pos h2, if_pos (by omega)]
    · rw [if_neg h2, if_neg (by omega)]
theorem pfs_other {b : Int} {ls : Ls} {f : Ft} (h : FOk ls f) {i k : Nat} {l : List Int} (hl : ls[i]? = some l) (hk : f[i]? = some k) (e : ¬ l[k]? = some b) : pfs b ls f i = pfs b ls f (i + 1) := by
  refine List.ext_getElem? fun j => ?_
  rw [pfs_get h, pfs_get h]
  by_cases hj : j = i
  · subst hj
    rw [if_neg (Nat.lt_irrefl _), if_pos (Nat.lt_succ_self _), step_get b hl hk, if_neg (show ¬ due l k b = true from fun z => e (of_decide_eq_true z)), hk]
    rfl
  · by_cases h2 : j < i
    · rw [if_pos h2, if_pos (by omega)]
    · rw [if_neg h2, if_neg (by omega)]
theorem pfs_end {b : Int} {ls : Ls} {f : Ft} (h : FOk ls f) : pfs b ls f ls.length = fstep b ls f := by
  refine List.ext_getElem? fun j => ?_
  rw [pfs_get h]
  have h1 := h.len
  have h2 := step_len b h
  by_cases hj : j < ls.length
  · rw [if_pos hj]
  · rw [if_neg hj, List.getElem?_eq_none (by omega), List.getElem?_eq_none (by omega)]
theorem symB_end {b : Int} {ls : Ls} {f : Ft} : SymB ls f ls.length b ↔ Sym ls f b := by
  rw [sym_get]
  constructor
  · rintro ⟨j, l, k, _, h⟩
    exact ⟨j, l, k, h⟩
  · rintro ⟨j, l, k, h⟩
    exact ⟨j, l, k, (List.getElem?_eq_some_iff.mp h.1).1, h⟩
theorem symB_succ {b : Int} {ls : Ls} {f : Ft} {i k : Nat} {l : List Int} (hl : ls[i]? = some l) (hk : f[i]? = some k) : SymB ls f (i + 1) b ↔ SymB ls f i b ∨ l[k]? = some b := by
  constructor
  · rintro ⟨j, m, n, hj, h1, h2, h3⟩
    by_cases e : j = i
    · subst e
      rw [hl] at h1
      rw [hk] at h2
      obtain rfl := Option.some.inj h1
      obtain rfl := Option.some.inj h2
      exact .inr h3
    · exact .inl ⟨j, m, n, by omega, h1, h2, h3⟩
  · rintro (⟨j, m, n, hj, h⟩ | h)
    · exact ⟨j, m, n, by omega, h⟩
    · exact ⟨i, l, k, Nat.lt_succ_self _, hl, hk, h⟩
end Lay
namespace Fw
open PySem PySem.Spec PyProof.Rows L2 Lay
/-- a front as a dict's key -/
def fkey (f : Ft) : List L2.Key := (nmap f).map Sum.inl
theorem fkey_kV (f : Ft) : (fkey f).map kV = (nmap f).map V.int := by
  unfold fkey
  rw [List.map_map]
  rfl
theorem nmap_inj {f g : Ft} (h : nmap f = nmap g) : f = g := by
  unfold nmap at h
  induction f generalizing g with
  | nil =>
    cases g with
    | nil => rfl
    | cons k g => cases h
  | cons k f ih =>
    cases g with
    | nil => cases h
    | cons m g =>
      rw [List.map_cons, List.map_cons] at h
      injection h with h1 h2
      rw [ih h2, Int.ofNat.inj h1]
theorem fkey_inj {f g : Ft} (h : fkey f = fkey g) : f = g := by
  refine nmap_inj ?_
  have h2 := congrArg (List.map (fun k : L2.Key => (match k with | .inl i => i | .inr _ => 0))) h
  unfold fkey at h2
  rw [List.map_map, List.map_map] at h2
  exact (List.map_id (nmap f)).symm.trans (h2.trans (List.map_id (nmap g)))
/-- pairs of a symbol and a front -/
abbrev Ps := List (Addr × Int × Addr)
abbrev refP (ps : Ps) : List V := ps.map fun q => V.ref q.1
def PsOk (H : Hp) (ls : Ls) (f : Ft) (ps : Ps) : Prop := (∀ q ∈ ps, H q.1 = some (.tup [.int q.2.1, .ref q.2.2]) ∧ H q.2.2 = some (itup (nmap (fstep q.2.1 ls f)))) ∧ ∀ b, b ∈ ps.map (·.2.1) ↔ Sym ls f b
abbrev Fs := List (Addr × Ft)
abbrev refF (fs : Fs) : List V := fs.map fun q => V.ref q.1
def FsOk (H : Hp) (ls : Ls) (fs : Fs) : Prop := (∀ q ∈ fs, H q.1 = some (itup (nmap q.2)) ∧ FOk ls q.2) ∧ (fs.map (·.2)).Nodup
/-- heights of fronts, in a dict -/
def Hts (w : Int → Int) (ls : Ls) (kvs : List (List L2.Key × V)) (f : Ft) : Prop := ∃ v, valV kvs (fkey f) = some (.int v) ∧ Least w (rst ls f) v
def SyOk (n : Nat) (ls : Ls) : Prop := ∀ l ∈ ls, ∀ s ∈ l, 0 ≤ s ∧ s < (n : Int)
/-- symbols and the lists of their moved fronts, as a dict -/
abbrev Ms := List (Int × Addr)
def kvM (ms : Ms) : List (L2.Key × V) := ms.map fun q => (Sum.inl q.1, V.ref q.2)
theorem kvM_none : ∀ {ms : Ms} {b : Int}, ¬ b ∈ ms.map (·.1) → valV (kvM ms) (Sum.inl b) = none
  | [], _, _ => rfl
  | q :: ms, b, h => by
    rw [List.map_cons, List.mem_cons, not_or] at h
    show valV ((Sum.inl q.1, V.ref q.2) :: kvM ms) (Sum.inl b) = none
    rw [valV_neg (fun e => h.1 (Sum.inl.inj e).symm)]
    exact kvM_none h.2
theorem kvM_some : ∀ {ms : Ms} {q : Int × Addr}, (ms.map (·.1)).Nodup → q ∈ ms → valV (kvM ms) (Sum.inl q.1) = some (.ref q.2)
  | m :: ms, q, nd, h => by
    rw [List.map_cons, List.nodup_cons] at nd
    show valV ((Sum.inl m.1, V.ref m.2) :: kvM ms) (Sum.inl q.1) = _
    rcases List.mem_cons.mp h with e | h
    · subst e
      exact valV_pos rfl
    · have hne : m.1 ≠ q.1 := fun e => nd.1 (by rw [e]; exact List.mem_map_of_mem (f := fun z : Int × Addr => z.1) h)
      rw [valV_neg (fun e => hne (Sum.inl.inj e))]
      exact kvM_some nd.2 h
theorem kvM_keys (ms : Ms) : (kvM ms).map (·.1) = (ms.map (·.1)).map Sum.inl := by
  unfold kvM
  rw [List.map_map, List.map_map]
  rfl
theorem nmap_set (f : Ft) (i k : Nat) : ((nmap f).map V.int).set i (.int (k : Int)) = (nmap (f.set i k)).map V.int := by
  unfold nmap
  rw [List.map_set, List.map_set]
theorem prodL_take : ∀ (ls : Ls) (i : Nat), prodL (ls.take i) ≤ prodL ls
  | [], i => by rw [List.take_nil]; exact Nat.le_refl _
  | l :: ls, 0 => prodL_pos (l :: ls)
  | l :: ls, i + 1 => Nat.mul_le_mul_left _ (prodL_take ls i)
/-- known fronts, as a dict -/
def kvF (fs : Fs) : List (List L2.Key × V) := fs.map fun q => (fkey q.2, V.bl true)
theorem kvF_none : ∀ {fs : Fs} {f : Ft}, ¬ f ∈ fs.map (·.2) → valV (kvF fs) (fkey f) = none
  | [], _, _ => rfl
  | q :: fs, f, h => by
    rw [List.map_cons, List.mem_cons, not_or] at h
    show valV ((fkey q.2, V.bl true) :: kvF fs) (fkey f) = none
    rw [valV_neg (fun e => h.1 (fkey_inj e).symm)]
    exact kvF_none h.2
theorem kvF_some : ∀ {fs : Fs} {f : Ft}, f ∈ fs.map (·.2) → valV (kvF fs) (fkey f) = some (.bl true)
  | [], _, h => nomatch h
  | q :: fs, f, h => by
    show valV ((fkey q.2, V.bl true) :: kvF fs) (fkey f) = _
    by_cases e : q.2 = f
    · exact valV_pos (by rw [← e])
    · rw [valV_neg (fun z => e (fkey_inj z))]
      rcases List.mem_cons.mp h with h | h
      · exact absurd h.symm e
      · exact kvF_some h
def But2 (l d : Addr) (H H2 : Hp) : Prop := ∀ c o, c ≠ l → c ≠ d → H c = some o → H2 c = some o
theorem tup_key {H : Hp} {t : Addr} {f : Ft} (h : H t = some (itup (nmap f))) : H t = some (.tup ((fkey f).map kV)) := by
  rw [fkey_kV]
  exact h
theorem pw_pos {pr : List Int} (h0 : 0 < pr.length) (h : ∀ x ∈ pr, 1 ≤ x) (c : Int) : 1 ≤ pw pr c := by
  have h1 := Int.emod_nonneg c (show (pr.length : Int) ≠ 0 by omega)
  have h2 := Int.emod_lt_of_pos c (show (0 : Int) < (pr.length : Int) by omega)
  have hlt : (c % (pr.length : Int)).toNat < pr.length := by omega
  unfold pw
  rw [List.getD_eq_getElem?_getD, List.getElem?_eq_getElem hlt]
  exact h _ (List.getElem_mem hlt)
theorem cost_long {w : Int → Int} (hw : ∀ c, 1 ≤ w c) : ∀ T : List Int, (T.length : Int) ≤ cost w T
  | [] => Int.le_refl _
  | t :: T => by
    have h1 := cost_long hw T
    have h2 := hw t
    rw [cost_cons, List.length_cons]
    omega
/-- a front from which something is left to pay has a step that the height follows -/
theorem least_follow {w : Int → Int} (hw : ∀ c, 0 ≤ w c) {ls : Ls} {f : Ft} {u : Int → Int} (L : ∀ b, Sym ls f b → Least w (rst ls (fstep b ls f)) (u b)) {v : Int} (hL : Least w (rst ls f) v) (hv : 0 < v)
    {bs : List Int} (hbs : ∀ b, b ∈ bs ↔ Sym ls f b) : ∃ b, Sym ls f b ∧ v = w b + u b := by
  cases bs with
  | nil =>
    have h1 : Least w (rst ls f) 0 := least_of hw L (fun _ => rfl) (fun ⟨b, hb⟩ => nomatch (hbs b).mpr hb) (fun b hb => nomatch (hbs b).mpr hb)
    have := h1.eq hL
    omega
  | cons b0 bs =>
    have h1 : ∀ cs : List Int, ∃ m ∈ b0 :: cs, ∀ b ∈ b0 :: cs, w m + u m ≤ w b + u b := fun cs => by
      induction cs with
      | nil => exact ⟨b0, List.mem_cons_self .., fun b hb => by rw [List.mem_singleton.mp hb]; exact Int.le_refl _⟩
      | cons c cs ih =>
        obtain ⟨m, hm, hle⟩ := ih
        by_cases e : w m + u m ≤ w c + u c
        · refine ⟨m, ?_, fun b hb => ?_⟩
          · rcases List.mem_cons.mp hm with h | h
            · rw [h]
              exact List.mem_cons_self ..
            · exact List.mem_cons_of_mem _ (List.mem_cons_of_mem _ h)
          · rcases List.mem_cons.mp hb with h | h
            · exact hle b (by rw [h]; exact List.mem_cons_self ..)
            · rcases List.mem_cons.mp h with h | h
              · rw [h]
                exact e
              · exact hle b (List.mem_cons_of_mem _ h)
        · refine ⟨c, List.mem_cons_of_mem _ (List.mem_cons_self ..), fun b hb => ?_⟩
          rcases List.mem_cons.mp hb with h | h
          · have := hle b (by rw [h]; exact List.mem_cons_self ..)
            omega
          · rcases List.mem_cons.mp h with h | h
            · rw [h]
              exact Int.le_refl _
            · have := hle b (List.mem_cons_of_mem _ h)
              omega
    obtain ⟨m, hm, hle⟩ := h1 bs
    have hs := (hbs m).mp hm
    have h2 : Least w (rst ls f) (w m + u m) := least_of hw L (fun hn => absurd hs (hn m)) (fun _ => ⟨m, hs, rfl⟩) (fun b hb => hle b ((hbs b).mpr hb))
    exact ⟨m, hs, hL.eq h2⟩
theorem rows_sum : ∀ {zs : Ws}, (∀ z ∈ zs, z.2.length ≤ 1000) → ((zs.map (·.2)).map List.length).sum ≤ 1000 * zs.length
  | [], _ => Nat.le_refl _
  | z :: zs, h => by
    have h1 := rows_sum (zs := zs) fun x hx => h x (List.mem_cons_of_mem _ hx)
    have h2 := h z (List.mem_cons_self ..)
    rw [List.map_cons, List.map_cons, List.sum_cons, List.length_cons]
    omega
end Fw

/-! Lists of whole numbers, compared. -/
namespace Fw
open PySem PySem.Spec PyProof.Rows L2 Lay
theorem dI_eqvD (ns ms : List Int) : PyData.eqv (dI ns) (dI ms) = decide (ns = ms) := by
  rw [← SeqAt.same_eq_eqv _ _ (by unfold dI; simp only [SeqAt.noMix]; exact PySem.W.noMix_ints ns ms)]
  unfold dI
  simp only [PySem.Spec.same]
  exact PySem.W.same_ints ns ms
/-- the two lists of whole numbers that are compared -/
theorem eqL {K : PySem.W.Frag} {H : Hp} {a b : Addr} {ns ms : List Int} {Q : VK} (ha : SqL K H a (ns.map V.int)) (hb : SqL K H b (ms.map V.int)) (q : Q (.bl (decide (ns = ms))) H) : rEqD K (.ref a) (.ref b) H Q :=
  ⟨dI ns, dI ms, dp_row ha, dp_row hb, dI_shaped ns, dI_shaped ms, by rw [dI_eqvD]; exact q⟩
theorem neL {K : PySem.W.Frag} {H : Hp} {a b : Addr} {ns ms : List Int} {Q : VK} (ha : SqL K H a (ns.map V.int)) (hb : SqL K H b (ms.map V.int)) (q : Q (.bl (!decide (ns = ms))) H) : rNeD K (.ref a) (.ref b) H Q :=
  ⟨dI ns, dI ms, dp_row ha, dp_row hb, dI_shaped ns, dI_shaped ms, by rw [dI_eqvD]; exact q⟩
end Fw

/-! The promises of the law's defs. -/
namespace K34
open PySem PySem.Spec PyProof.Rows L2 Fw Lay
def sp_l_cell (K : PySem.W.Frag) : Sp := fun vs H Q _ => ∃ (a : Addr) (ns : List Int) (k : Nat), vs = [.ref a, .int k] ∧ SqL K H a (ns.map V.int) ∧ ∀ c : Int, 0 ≤ c → Q (.int c) H
def sp_l_digits (K : PySem.W.Frag) : Sp := fun vs H Q _ => ∃ (c m : Int) (n : Nat), vs = [.int c, .int n, .int m] ∧ 0 ≤ c ∧ n ≤ 100000 ∧ 0 < m ∧ m < 1073741824 ∧
  ∀ (H2 : Hp) (p : Addr) (ds : List Int), Same H H2 → H p = none → H2 p = some (ilst ds) → ds.length = n → (∀ d ∈ ds, 0 ≤ d ∧ d < m) → Q (.ref p) H2
def sp_l_seed (K : PySem.W.Frag) : Sp := fun vs H Q _ => ∃ (a : Addr) (ns : List Int) (k : Nat), vs = [.ref a, .int k] ∧ SqL K H a (ns.map V.int) ∧ k ≤ 1000 ∧ ∀ (c : Int) (H2 : Hp), 0 ≤ c → Same H H2 → Q (.int c) H2
def sp_l_word (K : PySem.W.Frag) : Sp := fun vs H Q _ => ∃ d : Int, vs = [.int d] ∧ 0 ≤ d ∧ ∀ (H2 : Hp) (x : Str), Same H H2 → NameOk x → Q (.str x) H2
def sp_l_price (K : PySem.W.Frag) : Sp := fun vs H Q _ => ∃ d : Int, vs = [.int d] ∧ 0 ≤ d ∧ ∀ p : Int, 1 ≤ p → Q (.int p) H
def sp_l_open (K : PySem.W.Frag) : Sp := fun vs H Q _ => ∃ (a : Addr) (zs : Ws) (s : Int), vs = [.ref a, .int s] ∧ 0 ≤ s ∧ SqL K H a (refL zs) ∧ LL K H zs ∧ zs.length ≤ 1000 ∧
  ∀ r : Int, ((∃ (n : Nat) (z : Addr × List Int), r = n ∧ zs[n]? = some z ∧ z.2.length < 4) ∨ (r = -1 ∧ ∀ z ∈ zs, 4 ≤ z.2.length)) → Q (.int r) H
def sp_l_block (K : PySem.W.Frag) : Sp := fun vs H Q _ => ∃ (a r : Addr) (H0 : Hp) (zs : Ws) (d : Int) (f : Nat) (ds : List Int), vs = [.ref a, .int d, .ref r, .int (f : Int)] ∧ 0 ≤ d ∧ NxIn H0 H a zs ∧ zs.length ≤ 500 ∧ H0 r = some (ilst ds) ∧ f + 4 ≤ ds.length ∧ (∀ x ∈ ds, 0 ≤ x) ∧
  ∀ (H2 : Hp) (zs2 : Ws) (s : Nat), NxIn H0 H2 a zs2 → BlkR (cts zs) (cts zs2) zs.length s → 1 ≤ s → s ≤ 13 → Q (.int (s : Int)) H2
def sp_l_exit (K : PySem.W.Frag) : Sp := fun vs H Q _ => ∃ (a : Addr) (H0 : Hp) (zs : Ws) (b s : Nat) (d : Int), vs = [.ref a, .int (b : Int), .int (s : Int), .int d] ∧ 0 ≤ d ∧ NxIn H0 H a zs ∧ zs.length ≤ 500 ∧ b + s ≤ zs.length ∧ (∀ z ∈ zs, z.2.length ≤ 4) ∧
  ((∀ (v : Nat) (l : List Int), b ≤ v → v < b + s → (cts zs)[v]? = some l → ∀ t ∈ l, (b : Int) ≤ t ∧ t < (b : Int) + s) → ∃ (v : Nat) (l : List Int), b ≤ v ∧ v < b + s ∧ (cts zs)[v]? = some l ∧ l.length < 4) ∧
  ∀ (H2 : Hp) (zs2 : Ws) (c : Bool), NxIn H0 H2 a zs2 → ExitR (cts zs) (cts zs2) b s → Q (.bl c) H2
def sp_l_numbered (K : PySem.W.Frag) : Sp := fun vs H Q _ => ∃ (a r : Addr) (zs : Ws) (ds : List Int), vs = [.ref a, .ref r] ∧ SqL K H a (refL zs) ∧ LL K H zs ∧ GOk (cts zs) ∧ zs.length ≤ 200 ∧ SqL K H r (ds.map V.int) ∧ ds.length = 3 * zs.length ∧ (∀ x ∈ ds, 0 ≤ x) ∧
  ∀ (H2 : Hp) (p : Addr) (rs : Rx), Same H H2 → H p = none → H2 p = some (.lst (refR rs)) → RwOk H2 rs → RsOk rs → rs.length = zs.length → Q (.ref p) H2
def sp_l_tame (K : PySem.W.Frag) : Sp := fun vs H Q _ => ∃ (c : Int) (B : Nat), vs = [.int c, .int (B : Int)] ∧ 0 ≤ c ∧ B ≤ 10 ∧
  ∀ (H2 : Hp) (p : Addr) (rs : Rx), Same H H2 → H p = none → H2 p = some (.lst (refR rs)) → RwOk H2 rs → RsOk rs → rs.length ≤ 200 → Q (.ref p) H2
def sp_l_any (K : PySem.W.Frag) : Sp := fun vs H Q _ => ∃ (c : Int) (B : Nat), vs = [.int c, .int (B : Int)] ∧ 0 ≤ c ∧ B ≤ 10 ∧
  ∀ (H2 : Hp) (p : Addr) (rs : Rx), Same H H2 → H p = none → H2 p = some (.lst (refR rs)) → RwOk H2 rs → RsOk rs → rs.length ≤ 200 → Q (.ref p) H2
def sp_l_prefix (K : PySem.W.Frag) : Sp := fun vs H Q _ => ∃ (a b : Addr) (r S : List Int), vs = [.ref a, .ref b] ∧ SqL K H a (r.map V.int) ∧ SqL K H b (S.map V.int) ∧ Q (.int (pfx r S : Nat)) H
def sp_l_is_int (K : PySem.W.Frag) : Sp := fun vs H Q _ => ∃ i : Int, vs = [.int i] ∧ Q (.bl true) H
def sp_l_ints (K : PySem.W.Frag) : Sp := fun vs H Q _ => ∃ (a : Addr) (S : List Int), vs = [.ref a] ∧ H a = some (ilst S) ∧ Q (.bl true) H
def sp_l_home (K : PySem.W.Frag) : Sp := fun vs H Q _ => ∃ (a : Addr) (rs : Rx), vs = [.ref a] ∧ SqL K H a (refR rs) ∧ RwOk H rs ∧ RsOk rs ∧
  ∀ (H2 : Hp) (p : Addr) (hs : List Nat), Same H H2 → H p = none → H2 p = some (ilst (nmap hs)) → HomeOk (sxr rs) hs → Q (.ref p) H2
def sp_l_run (K : PySem.W.Frag) : Sp := fun vs H Q _ => ∃ (a : Addr) (rs : Rx) (c : Int) (m : Nat), vs = [.ref a, .int c, .int (m : Int)] ∧ SqL K H a (refR rs) ∧ RwOk H rs ∧ RsOk rs ∧ 0 ≤ c ∧ m ≤ 1000 ∧
  ∀ (H2 : Hp) (p : Addr) (r : List Int), Same H H2 → H p = none → H2 p = some (ilst r) → RunOk (sxr rs) r → r.length ≤ 3000 → Q (.ref p) H2
def sp_l_team (K : PySem.W.Frag) : Sp := fun vs H Q _ => ∃ (s a : Addr) (ns : List Int) (rs : Rx) (f c m : Nat), vs = [.ref s, .ref a, .int (f : Int), .int (c : Int), .int (m : Int)] ∧ SqL K H s (ns.map V.int) ∧ SqL K H a (refR rs) ∧ RwOk H rs ∧ RsOk rs ∧ f + c ≤ 1000 ∧ m ≤ 1000 ∧
  ∀ (H2 : Hp) (p : Addr) (us : Ws), Same H H2 → H p = none → H2 p = some (.lst (refL us)) → us.length = c → (∀ u ∈ us, H u.1 = none ∧ u.1 ≠ p ∧ H2 u.1 = some (ilst u.2) ∧ RunOk (sxr rs) u.2 ∧ u.2.length ≤ 3000) → Q (.ref p) H2
/-- the sum of the prices of the nodes S -/
def prS (rs : Rx) (S : List Int) : Int := (S.map fun x => (pxr rs).getD x.toNat 0).sum
def InN (n : Nat) (S : List Int) : Prop := ∀ x ∈ S, 0 ≤ x ∧ x < (n : Int)
def sp_l_price_of (K : PySem.W.Frag) : Sp := fun vs H Q _ => ∃ (a b : Addr) (rs : Rx) (S : List Int), vs = [.ref a, .ref b] ∧ SqL K H a (refR rs) ∧ RwOk H rs ∧ SqL K H b (S.map V.int) ∧ InN rs.length S ∧ S.length ≤ 100000 ∧ ∀ H2 : Hp, Same H H2 → Q (.int (prS rs S)) H2
def plcs (rs : List (List Int)) (ds : List Nat) : List Int := (List.range rs.length).map fun k => plc (rs.getD k []) (ds.getD k 0)
def sp_l_places (K : PySem.W.Frag) : Sp := fun vs H Q _ => ∃ (a b : Addr) (ws : Ws) (ds : List Nat), vs = [.ref a, .ref b] ∧ SqL K H a (refL ws) ∧ LL K H ws ∧ SqL K H b ((nmap ds).map V.int) ∧ ds.length = ws.length ∧ ws.length ≤ 1000 ∧
  ∀ (H2 : Hp) (p : Addr), Same H H2 → H p = none → H2 p = some (ilst (plcs (ws.map (·.2)) ds)) → Q (.ref p) H2
def sp_l_aim (K : PySem.W.Frag) : Sp := fun vs H Q _ => ∃ (a b : Addr) (rs : Rx) (ps : List Int) (d : Int), vs = [.ref a, .ref b, .int d] ∧ SqL K H a (refR rs) ∧ 0 < rs.length ∧ rs.length ≤ 1000 ∧ SqL K H b (ps.map V.int) ∧ ps.length ≤ 1000 ∧ (∀ x ∈ ps, x < (rs.length : Int)) ∧ 0 ≤ d ∧
  ∀ (H2 : Hp) (x : Nat), Same H H2 → x < rs.length → Q (.int (x : Int)) H2
def sp_l_some (K : PySem.W.Frag) : Sp := fun vs H Q _ => ∃ (a : Addr) (ls : List Nat) (d r : Int), vs = [.ref a, .int d, .int r] ∧ SqL K H a ((nmap ls).map V.int) ∧ ls.length ≤ 1000 ∧
  ∀ (H2 : Hp) (p : Addr) (ms : List Nat), Same H H2 → H p = none → H2 p = some (ilst (nmap ms)) → ms.Sublist ls → Q (.ref p) H2
def sp_l_free (K : PySem.W.Frag) : Sp := fun vs H Q _ => ∃ (m a b c g ta sa na : Addr) (us ws : Ws) (rs : Rx) (S : List Int), vs = [.ref m, .ref a, .ref b, .ref c] ∧ MaAt K H m g ta sa na us (us.map fun u => pfx u.2 S) S (prS rs S) ∧ us.map (·.2) = ws.map (·.2) ∧
  SqL K H a (refL ws) ∧ LL K H ws ∧ ws.length ≤ 60 ∧ SqL K H b (refR rs) ∧ RwOk H rs ∧ SqL K H c (S.map V.int) ∧ InN rs.length S ∧ S.length ≤ 100000 ∧ (∀ w ∈ ws, w.2.length ≤ 3000) ∧ ∀ H2 : Hp, Same H H2 → Q (.bl true) H2
def sp_l_held (K : PySem.W.Frag) : Sp := fun vs H Q _ => ∃ (m a b c d g ta sa na : Addr) (us ws : Ws) (rs : Rx) (S : List Int) (ds : List Nat), vs = [.ref m, .ref a, .ref b, .ref c, .ref d] ∧ MaAt K H m g ta sa na us ds S (prS rs S) ∧ us.map (·.2) = ws.map (·.2) ∧
  SqL K H a (refL ws) ∧ LL K H ws ∧ ws.length ≤ 60 ∧ SqL K H b (refR rs) ∧ RwOk H rs ∧ SqL K H c (S.map V.int) ∧ InN rs.length S ∧ S.length ≤ 100000 ∧ SqL K H d ((nmap ds).map V.int) ∧ (∀ (k : Nat) (w : Addr × List Int) (e : Nat), ws[k]? = some w → ds[k]? = some e → e ≤ pfx w.2 S) ∧ ∀ H2 : Hp, Same H H2 → Q (.bl true) H2
end K34

namespace K34
open PySem PySem.Spec PyProof.Rows L2 Fw Lay
section
variable {P : Program} {w : World} {K : PySem.W.Frag} {mg : Str → Option Value} {base : Heap}
theorem pick_mod {n : Nat} (hn : 0 < n) (s : Int) (j : Nat) (hj : j < n) : ∃ k : Nat, k < n ∧ (s + (k : Int)) % (n : Int) = (j : Int) := by
  have h1 := Int.emod_nonneg ((j : Int) - s) (show (n : Int) ≠ 0 by omega)
  have h2 := Int.emod_lt_of_pos ((j : Int) - s) (show (0 : Int) < (n : Int) by omega)
  refine ⟨(((j : Int) - s) % (n : Int)).toNat, by omega, ?_⟩
  have e : (((((j : Int) - s) % (n : Int)).toNat : Nat) : Int) = ((j : Int) - s) % (n : Int) := by omega
  rw [e, Int.add_emod_emod]
  have e2 : s + ((j : Int) - s) = (j : Int) := by omega
  rw [e2]
  exact Int.emod_eq_of_lt (by omega) (by omega)
theorem ok_l_open (T : Txt K mg) : Good P w K mg base 1 (He.ga K "_law_open") ["_law_nexts", "_law_source"] [] (sp_l_open K) := by
  refine good_of T.f_l_open sc_l_open (fun vs H Q E h => ?_) (fun _ _ _ _ _ _ us hl => match us, hl with | [_, _], _ => rfl) (fun cdv A outer s H vs Q E hr h => ?_)
  · obtain ⟨_, _, _, rfl, _⟩ := h
    rfl
  refine ⟨_, (pss_cons (ps_for PassesOwn.never rfl (pi_range1 (by rfl) T.z_range (pa_cons (pe_callB call_len_seq (by rfl) T.z_len (by decide +kernel) (pa_cons (pv 0) pa_nil)) pa_nil)) (pg_name (i := 2) sc_l_open.nd rfl (Or.inl rfl))
    (pss_cons (ps_set (i := 3) sc_l_open.nd rfl (Or.inl rfl) (pe_op op_mod (pe_callTy call_int1 (by rfl) T.z_int (by decide +kernel) (pa_cons (pe_op op_add (pv 1) (pv 2)) pa_nil)) (pe_callB call_len_seq (by rfl) T.z_len (by decide +kernel) (pa_cons (pv 0) pa_nil))))
  (pss_one (ps_if (pt_cmpR op_lt (pe_callB call_len_seq (by rfl) T.z_len (by decide +kernel) (pa_cons (pe_ix ix_list (pv 0) (pv 3) (fun _ _ => rfl)) pa_nil)) pe_int (nomark _))
    (pss_one (ps_ret (pv 3)))
    pss_nil))))
  (pss_one (ps_ret (pe_un un_neg pe_int)))), ?_⟩
  obtain ⟨a, zs, s, rfl, s0, hA, hL, hl, q⟩ := h
  have hlen : (refL zs).length = zs.length := List.length_map ..
  refine ⟨.ref a, rfl, a, _, rfl, .inl hA, ((refL zs).length : Nat), rfl, by omega, by omega, for_range (n := (refL zs).length) (fun i σ H2 => H2 = H ∧ (∀ k : Nat, k < i → ∀ (j : Nat) (z : Addr × List Int), (s + (k : Int)) % (zs.length : Int) = (j : Int) → zs[j]? = some z → 4 ≤ z.2.length) ∧ ∃ y2 y3, σ = [some (.ref a), some (.int s), y2, y3]) ⟨rfl, fun k hk => absurd hk (Nat.not_lt_zero _), none, none, rfl⟩ ?_ ?_⟩
  · rintro i σ H2 hi ⟨rfl, hdn, y2, y3, rfl⟩
    have hn : 0 < zs.length := by omega
    have h1 := Int.emod_nonneg (s + (0 + (i : Int))) (show ((refL zs).length : Int) ≠ 0 by omega)
    have h2 := Int.emod_lt_of_pos (s + (0 + (i : Int))) (show (0 : Int) < ((refL zs).length : Int) by omega)
    obtain ⟨j, hj⟩ : ∃ j : Nat, (s + (0 + (i : Int))) % ((refL zs).length : Int) = j := ⟨((s + (0 + (i : Int))) % ((refL zs).length : Int)).toNat, by omega⟩
    have hjl : j < zs.length := by omega
    have hz : zs[j]? = some zs[j] := List.getElem?_eq_getElem hjl
    have hzm : zs[j] ∈ zs := List.getElem_mem hjl
    generalize zs[j] = z at hz hzm
    have hj2 : (s + (i : Int)) % (zs.length : Int) = j := by
      rw [← hj, hlen]
      have e : s + (0 + (i : Int)) = s + (i : Int) := by omega
      rw [e]
    refine ⟨_, rfl, _, rfl, _, _, rfl, rfl, .inl ⟨_, rfl, .ref a, rfl, a, _, rfl, .inl hA, _, _, rfl, rfl, by omega, ?_⟩⟩
    dsimp only
    rw [hj]
    refine ⟨_, rfl, _, rfl, a, _, _, _, rfl, rfl, hA, atI_nat (get_refL hz), z.1, _, rfl, .inl (hL z hzm), _, _, rfl, rfl, _, rfl, if2 (fun e => ?_) (fun e => ?_)⟩
    · rw [List.length_map] at e
      exact ⟨_, rfl, q _ (.inl ⟨j, z, rfl, hz, by omega⟩)⟩
    · rw [List.length_map] at e
      refine ⟨rfl, fun k hk j' z' hj' hz' => ?_, _, _, rfl⟩
      by_cases hki : k = i
      · subst hki
        have e9 : j' = j := by omega
        subst e9
        rw [hz] at hz'
        rw [← Option.some.inj hz']
        omega
      · exact hdn k (by omega) j' z' hj' hz'
  · rintro σ H2 ⟨rfl, hdn, y2, y3, rfl⟩
    refine ⟨1, rfl, q _ (.inr ⟨rfl, fun z hz => ?_⟩)⟩
    obtain ⟨j, hj, e⟩ := List.mem_iff_getElem.mp hz
    obtain ⟨k, hk, e2⟩ := pick_mod (by omega) s j hj
    exact hdn k (by omega) j z e2 (by rw [List.getElem?_eq_getElem hj, e])
end
end K34

namespace K34
open PySem PySem.Spec PyProof.Rows L2 Fw Lay
section
variable {P : Program} {w : World} {K : PySem.W.Frag} {mg : Str → Option Value} {base : Heap}
theorem ok_l_cell (T : Txt K mg) : Good P w K mg base 1 (He.ga K "_law_cell") ["_law_script", "_law_k"] [] (sp_l_cell K) := by
  refine good_of T.f_l_cell sc_l_cell (fun vs H Q E h => ?_) (fun _ _ _ _ _ _ us hl => match us, hl with | [_, _], _ => rfl) (fun cdv A outer s H vs Q E hr h => ?_)
  · obtain ⟨_, _, _, rfl, _⟩ := h
    rfl
  refine ⟨_, (pss_cons (ps_if (pt_cmpR op_lt (pv 1) (pe_callB call_len_seq (by rfl) T.z_len (by decide +kernel) (pa_cons (pv 0) pa_nil)) (nomark _))
    (pss_one (ps_ret (pe_callB call_abs (by rfl) T.z_abs (by decide +kernel) (pa_cons (pe_ix ix_list (pv 0) (pv 1) (fun _ _ => rfl)) pa_nil))))
    pss_nil)
  (pss_one (ps_ret pe_int))), ?_⟩
  obtain ⟨a, ns, k, rfl, hS, q⟩ := h
  refine ⟨_, rfl, .ref a, rfl, a, _, rfl, .inl hS, _, _, rfl, rfl, _, rfl, ite2 (fun e => ?_) (fun e => ?_)⟩
  · have lt : k < ns.length := by
      have e2 := of_decide_eq_true e
      rw [List.length_map] at e2
      omega
    have g : (ns.map V.int)[k]? = some (.int ns[k]) := by
      rw [List.getElem?_map, List.getElem?_eq_getElem lt]
      rfl
    refine ⟨.ref a, rfl, _, rfl, a, _, _, _, rfl, rfl, hS, atI_nat g, _, rfl, ?_⟩
    refine q _ ?_
    split <;> omega
  · exact q 0 (Int.le_refl 0)
theorem ok_l_is_int (T : Txt K mg) : Good P w K mg base 1 (He.ga K "_law_is_int") ["_law_value"] [] (sp_l_is_int K) := by
  refine good_of T.f_l_is_int sc_l_is_int (fun vs H Q E h => ?_) (fun _ _ _ _ _ _ us hl => match us, hl with | [_], _ => rfl) (fun cdv A outer s H vs Q E hr h => ?_)
  · obtain ⟨_, rfl, _⟩ := h
    rfl
  refine ⟨_, (pss_one (ps_ret (pe_and (pe_callB call_isi (by rfl) T.z_isinstance (by decide +kernel) (pa_cons (pv 0) (pa_cons (pe_bltn (v := .ty "int") (u := .type "int") (by rfl) T.z_int (by decide +kernel) rfl) pa_nil))) (pe_one (pe_not (pe_callB call_isi (by rfl) T.z_isinstance (by decide +kernel) (pa_cons (pv 0) (pa_cons (pe_bltn (v := .ty "bool") (u := .type "bool") (by rfl) T.z_bool (by decide +kernel) rfl) pa_nil)))))))), ?_⟩
  obtain ⟨i, rfl, q⟩ := h
  refine ⟨_, rfl, .int i, .ty "int", _, _, true, rfl, .ty _, .base (.int _), kit_ty (by decide +kernel), true, rfl, iteT ?_⟩
  exact ⟨_, rfl, .int i, .ty "bool", _, _, false, rfl, .ty _, .base (.int _), kit_ty (by decide +kernel), false, rfl, q⟩
theorem ok_l_digits (T : Txt K mg) : Good P w K mg base 1 (He.ga K "_law_digits") ["_law_cell_here", "_law_count", "_law_size"] [] (sp_l_digits K) := by
  refine good_of T.f_l_digits sc_l_digits (fun vs H Q E h => ?_) (fun _ _ _ _ _ _ us hl => match us, hl with | [_, _, _], _ => rfl) (fun cdv A outer s H vs Q E hr h => ?_)
  · obtain ⟨_, _, _, rfl, _⟩ := h
    rfl
  refine ⟨_, (pss_cons (ps_set (i := 3) sc_l_digits.nd rfl (Or.inl rfl) (pe_lst pa_nil))
  (pss_cons (ps_set (i := 4) sc_l_digits.nd rfl (Or.inl rfl) (pv 0))
  (pss_cons (ps_for PassesOwn.never rfl (pi_range1 (by rfl) T.z_range (pa_cons (pv 1) pa_nil)) (pg_name (i := 5) sc_l_digits.nd rfl (Or.inl rfl))
    (pss_one (ps_if (pw_and (pt_cmpR op_ge (pv 0) (pe_op op_pow pe_int pe_int) (nomark _)) (pw_and1 (pt_cmpR op_gt (pv 4) pe_int (nomark _)))).pt
    (pss_cons (ps_expr (pe_bm PySem.F.plainAttrs_list PySem.F.slot_list_append PySem.F.type_list_append mt_append (pv 3) (pa_cons (pe_op op_mod (pe_callTy call_int1 (by rfl) T.z_int (by decide +kernel) (pa_cons (pv 4) pa_nil)) (pv 2)) pa_nil)))
  (pss_one (ps_set (i := 4) sc_l_digits.nd rfl (Or.inl rfl) (pe_op op_fdivW (pv 4) (pv 2)))))
    (pss_cons (ps_set (i := 6) sc_l_digits.nd rfl (Or.inl rfl) (pe_op op_mod (pe_callTy call_int1 (by rfl) T.z_int (by decide +kernel) (pa_cons (pe_op op_add (pe_op op_add (pv 0) (pe_op op_mul pe_int (pv 5))) pe_int) pa_nil)) pe_int))
  (pss_cons (ps_set (i := 6) sc_l_digits.nd rfl (Or.inl rfl) (pe_op op_mod (pe_callTy call_int1 (by rfl) T.z_int (by decide +kernel) (pa_cons (pe_op op_mul (pv 6) (pe_op op_add (pv 6) pe_int)) pa_nil)) pe_int))
  (pss_cons (ps_set (i := 6) sc_l_digits.nd rfl (Or.inl rfl) (pe_op op_mod (pe_callTy call_int1 (by rfl) T.z_int (by decide +kernel) (pa_cons (pe_op op_add (pe_op op_mul (pv 6) (pe_op op_add (pv 6) pe_int)) (pe_op op_mul pe_int (pv 5))) pa_nil)) pe_int))
  (pss_one (ps_expr (pe_bm PySem.F.plainAttrs_list PySem.F.slot_list_append PySem.F.type_list_append mt_append (pv 3) (pa_cons (pe_op op_mod (pe_callTy call_int1 (by rfl) T.z_int (by decide +kernel) (pa_cons (pe_op op_fdiv (pv 6) pe_int) pa_nil)) (pv 2)) pa_nil))))))))))
  (pss_one (ps_ret (pv 3)))))), ?_⟩
  obtain ⟨c, m, n, rfl, c0, n1, m0, m1, q⟩ := h
  refine ⟨Nat.zero_le _, fun l nl => ⟨_, rfl, ?_⟩⟩
  refine ⟨_, rfl, (n : Int), rfl, by omega, by omega, for_range (n := n) (fun i σ H2 => Same H H2 ∧ (∃ ds, H2 l = some (ilst ds) ∧ ds.length = i ∧ ∀ d ∈ ds, 0 ≤ d ∧ d < m) ∧ ∃ (rest : Int) (y1 y2 : Option V), σ = [some (.int c), some (.int n), some (.int m), some (.ref l), some (.int rest), y1, y2])
    ⟨same_new nl, ⟨[], upd_same, rfl, fun d hd => (nomatch hd)⟩, c, none, none, rfl⟩ ?_ ?_⟩
  · rintro i σ H2 hi ⟨sm, ⟨ds, hL, len, bd⟩, rest, y1, y2, rfl⟩
    have push : ∀ (v : Int), 0 ≤ v → v < m → Same H (upd H2 l (.lst (ds.map V.int ++ [.int v]))) ∧ (∃ es, upd H2 l (.lst (ds.map V.int ++ [.int v])) l = some (ilst es) ∧ es.length = i + 1 ∧ ∀ d ∈ es, 0 ≤ d ∧ d < m) := fun v v0 v1 => by
      refine ⟨same_mut sm nl, ds ++ [v], ?_, ?_, fun d hd => ?_⟩
      · rw [upd_same]
        unfold ilst
        rw [List.map_append]
        rfl
      · rw [List.length_append, len]
        rfl
      · rcases List.mem_append.mp hd with hd | hd
        · exact bd d hd
        · rw [List.mem_singleton.mp hd]
          exact ⟨v0, v1⟩
    have room : (ds.map V.int).length < sizeLine := by
      rw [List.length_map, sizeLine_eq]
      omega
    have md : ∀ v : Int, 0 ≤ v % m ∧ v % m < m := fun v => ⟨Int.emod_nonneg _ (by omega), Int.emod_lt_of_pos _ m0⟩
    refine ⟨_, rfl, _, _, rfl, rfl, ⟨by decide, by decide, by decide⟩, _, _, rfl, rfl, _, rfl, if2 (fun e1 => ⟨_, rfl, _, _, rfl, rfl, _, rfl, if2 (fun e2 => ?A) (fun _ => ?B)⟩) (fun _ => iteF ?B2)⟩
    case A =>
      refine ⟨.ref l, rfl, .inl ⟨rfl, _, SqL.of hL⟩, _, rfl, .inl ⟨_, rfl, _, rfl, _, _, rfl, rfl, m0, l, _, _, rfl, rfl, hL, room, ?_⟩⟩
      refine ⟨_, rfl, _, rfl, _, _, rfl, rfl, wide_div (b := 30) m0 (by omega) (by decide) (by decide), ?_⟩
      obtain ⟨s1, s2⟩ := push (rest % m) (md _).1 (md _).2
      exact ⟨s1, s2, _, _, _, rfl⟩
    all_goals
      refine ⟨_, rfl, _, rfl, _, _, rfl, rfl, .inl ⟨by decide, by decide⟩, _, _, rfl, rfl, _, _, rfl, rfl, .inl ⟨_, rfl, _, _, rfl, rfl, (by show (0 : Int) < 2147483647; decide), ?_⟩⟩
      refine ⟨_, rfl, _, rfl, _, _, rfl, rfl, _, _, rfl, rfl, .inl ⟨by omega, by omega⟩, .inl ⟨_, rfl, _, _, rfl, rfl, (by show (0 : Int) < 2147483629; decide), ?_⟩⟩
      refine ⟨_, rfl, _, rfl, _, _, rfl, rfl, _, _, rfl, rfl, .inl ⟨by omega, by omega⟩, _, rfl, _, _, rfl, rfl, .inl ⟨by decide, by decide⟩, _, _, rfl, rfl, .inl ⟨_, rfl, _, _, rfl, rfl, (by show (0 : Int) < 2147483647; decide), ?_⟩⟩
      refine ⟨.ref l, rfl, .inl ⟨rfl, _, SqL.of hL⟩, _, rfl, _, _, rfl, rfl, ⟨by decide, by decide⟩, .inl ⟨_, rfl, _, rfl, _, _, rfl, rfl, m0, l, _, _, rfl, rfl, hL, room, ?_⟩⟩
      obtain ⟨s1, s2⟩ := push _ (md _).1 (md _).2
      exact ⟨s1, s2, _, _, _, rfl⟩
  · rintro σ H2 ⟨sm, ⟨ds, hL, len, bd⟩, rest, y1, y2, rfl⟩
    exact ⟨.ref l, rfl, q H2 l ds sm nl hL len bd⟩
theorem ok_l_seed (T : Txt K mg) : Good P w K mg base 2 (He.ga K "_law_seed") ["_law_script", "_law_k"] [] (sp_l_seed K) := by
  refine good_of T.f_l_seed sc_l_seed (fun vs H Q E h => ?_) (fun _ _ _ _ _ _ us hl => match us, hl with | [_, _], _ => rfl) (fun cdv A outer s H vs Q E hr h => ?_)
  · obtain ⟨_, _, _, rfl, _⟩ := h
    rfl
  refine ⟨_, (pss_cons (ps_if (pt_cmpR op_lt (pv 1) (pe_callB call_len_seq (by rfl) T.z_len (by decide +kernel) (pa_cons (pv 0) pa_nil)) (nomark _))
    (pss_one (ps_ret (pe_callB call_abs (by rfl) T.z_abs (by decide +kernel) (pa_cons (pe_ix ix_list (pv 0) (pv 1) (fun _ _ => rfl)) pa_nil))))
    pss_nil)
  (pss_one (ps_ret (pe_ix ix_list (pe_cg (ok_l_digits T) (hr.mono (j := 1) (by decide)) (by rfl) T.g_l_digits (pa_cons (pe_op op_add (pe_op op_add (pe_cg (ok_l_cell T) (hr.mono (j := 1) (by decide)) (by rfl) T.g_l_cell (pa_cons (pv 0) (pa_cons pe_int pa_nil))) (pe_op op_mul pe_int (pv 1))) pe_int) (pa_cons pe_int (pa_cons (pe_op op_pow pe_int pe_int) pa_nil)))) pe_int (fun _ _ => rfl))))), ?_⟩
  obtain ⟨a, ns, k, rfl, hS, hk, q⟩ := h
  refine ⟨_, rfl, .ref a, rfl, a, _, rfl, .inl hS, _, _, rfl, rfl, _, rfl, if2 (fun e => ?_) (fun e => ?_)⟩
  · have lt : k < ns.length := by
      rw [List.length_map] at e
      omega
    refine ⟨.ref a, rfl, _, rfl, a, _, _, _, rfl, rfl, hS, atI_nat (get_map (List.getElem?_eq_getElem lt)), _, rfl, ?_⟩
    refine q _ H ?_ (Same.refl H)
    split <;> omega
  · refine ⟨.ref a, rfl, a, ns, 0, rfl, hS, fun c hc => ?_⟩
    refine ⟨_, rfl, _, _, rfl, rfl, .inl ⟨by decide, by decide⟩, _, _, rfl, rfl, _, _, rfl, rfl, _, _, rfl, rfl, ⟨by decide, by decide, by decide⟩, _, _, 1, rfl, by omega, by decide, by decide, by decide, fun H2 p ds sm np hp len bd => ?_⟩
    obtain ⟨d, rfl⟩ := List.length_eq_one_iff.mp len
    exact ⟨p, _, 0, _, rfl, rfl, SqL.of hp, rfl, q d H2 (bd d (List.mem_singleton.mpr rfl)).1 sm⟩
end
end K34

namespace K34
open PySem PySem.Spec PyProof.Rows L2 Fw Lay
section
variable {P : Program} {w : World} {K : PySem.W.Frag} {mg : Str → Option Value} {base : Heap}
theorem cut_take (zs : Ws) (n : Nat) (h : n ≤ zs.length) : cutV (refL zs) none (some (n : Int)) = refL (zs.take n) := by
  unfold cutV
  rw [HT.sIx_none, HT.sIx_nat, List.drop_zero, Nat.sub_zero]
  have e : (refL zs).length = zs.length := List.length_map ..
  rw [e, Nat.min_eq_left h]
  unfold refL
  rw [List.map_take]
theorem cut_mid (zs : Ws) (b s : Nat) (h : b + s ≤ zs.length) : cutV (refL zs) (some (b : Int)) (some ((b : Int) + (s : Int))) = refL ((zs.drop b).take s) := by
  have e0 : ((b : Int) + (s : Int)) = ((b + s : Nat) : Int) := by omega
  unfold cutV
  rw [e0, HT.sIx_nat, HT.sIx_nat]
  have e : (refL zs).length = zs.length := List.length_map ..
  rw [e, Nat.min_eq_left h, Nat.min_eq_left (by omega)]
  have e2 : b + s - b = s := by omega
  rw [e2]
  unfold refL
  rw [List.map_take, List.map_drop]
/-- a block without its entry -/
structure Blk3 (g g2 : Nx) (n s : Nat) : Prop where
  len : g2.length = n + s
  old : ∀ (v : Nat) (l : List Int), g[v]? = some l → ∃ more, g2[v]? = some (l ++ more) ∧ (∀ t ∈ more, (n : Int) ≤ t ∧ t < (n : Int) + s) ∧ (l.length ≤ 4 → (l ++ more).length ≤ 4)
  ring : ∀ p, p < s → ∃ l, g2[n + p]? = some l ∧ (1 < s → l = [((n + (p + 1) % s : Nat) : Int)]) ∧ (s = 1 → l = [] ∨ l = [(n : Int)])
theorem ok_l_block (T : Txt K mg) : Good P w K mg base 2 (He.ga K "_law_block") ["_law_nexts", "_law_digit", "_law_row", "_law_first"] [] (sp_l_block K) := by
  refine good_of T.f_l_block sc_l_block (fun vs H Q E h => ?_) (fun _ _ _ _ _ _ us hl => match us, hl with | [_, _, _, _], _ => rfl) (fun cdv A outer s H vs Q E hr h => ?_)
  · obtain ⟨_, _, _, _, _, _, _, rfl, _⟩ := h
    rfl
  refine ⟨_, (pss_cons (ps_set (i := 4) sc_l_block.nd rfl (Or.inl rfl) (pe_ix ix_list (pe_lst (pa_cons pe_int (pa_cons pe_int (pa_cons pe_int (pa_cons pe_int (pa_cons pe_int (pa_cons pe_int (pa_cons pe_int (pa_cons pe_int pa_nil))))))))) (pe_op op_mod (pe_callTy call_int1 (by rfl) T.z_int (by decide +kernel) (pa_cons (pv 1) pa_nil)) pe_int) (fun _ _ => rfl)))
  (C8.pss_cut (ps_if (pt_cmpR op_eq (pe_op op_mod (pe_callTy call_int1 (by rfl) T.z_int (by decide +kernel) (pa_cons (pe_op op_fdiv (pv 1) pe_int) pa_nil)) pe_int) pe_int (nomark _))
    (pss_one (ps_set (i := 4) sc_l_block.nd rfl (Or.inl rfl) pe_int))
    pss_nil)
  (pss_cons (ps_set (i := 5) sc_l_block.nd rfl (Or.inl rfl) (pe_callB call_len_seq (by rfl) T.z_len (by decide +kernel) (pa_cons (pv 0) pa_nil)))
  (pss_cons (ps_for PassesOwn.never rfl (pi_range1 (by rfl) T.z_range (pa_cons (pv 4) pa_nil)) (pg_name (i := 6) sc_l_block.nd rfl (Or.inl rfl))
    (pss_one (ps_if (pw_or (pt_cmpR op_gt (pv 4) pe_int (nomark _)) (pw_or1 (pt_cmpR op_eq (pe_op op_mod (pe_callTy call_int1 (by rfl) T.z_int (by decide +kernel) (pa_cons (pe_op op_fdiv (pv 1) pe_int) pa_nil)) pe_int) pe_int (nomark _)))).pt
    (pss_one (ps_expr (pe_bm PySem.F.plainAttrs_list PySem.F.slot_list_append PySem.F.type_list_append mt_append (pv 0) (pa_cons (pe_lst (pa_cons (pe_op op_add (pv 5) (pe_op op_mod (pe_callTy call_int1 (by rfl) T.z_int (by decide +kernel) (pa_cons (pe_op op_add (pv 6) pe_int) pa_nil)) (pv 4))) pa_nil)) pa_nil))))
    (pss_one (ps_expr (pe_bm PySem.F.plainAttrs_list PySem.F.slot_list_append PySem.F.type_list_append mt_append (pv 0) (pa_cons (pe_lst pa_nil) pa_nil)))))))
  (C8.pss_cut (ps_if (pt_cmpR op_gt (pv 5) pe_int (nomark _))
    (pss_one (ps_for PassesOwn.never rfl (pi_range1 (by rfl) T.z_range (pa_cons (pe_op op_add pe_int (pe_op op_mod (pe_callTy call_int1 (by rfl) T.z_int (by decide +kernel) (pa_cons (pe_op op_fdiv (pv 1) pe_int) pa_nil)) pe_int)) pa_nil)) (pg_name (i := 7) sc_l_block.nd rfl (Or.inl rfl))
    (pss_cons (ps_set (i := 8) sc_l_block.nd rfl (Or.inl rfl) (pe_cg (ok_l_open T) (hr.mono (j := 1) (by decide)) (by rfl) T.g_l_open (pa_cons (pe_slice sl_list (pv 0) po_none (po_some (pv 5))) (pa_cons (pe_ix ix_list (pv 2) (pe_op op_add (pv 3) (pv 7)) (fun _ _ => rfl)) pa_nil))))
  (pss_one (ps_if (pt_cmpR op_ge (pv 8) pe_int (nomark _))
    (pss_one (ps_expr (pe_bm PySem.F.plainAttrs_list PySem.F.slot_list_append PySem.F.type_list_append mt_append (pe_ix ix_list (pv 0) (pv 8) (fun _ _ => rfl)) (pa_cons (pe_op op_add (pv 5) (pe_op op_mod (pe_callTy call_int1 (by rfl) T.z_int (by decide +kernel) (pa_cons (pe_op op_fdiv (pe_ix ix_list (pv 2) (pe_op op_add (pv 3) (pv 7)) (fun _ _ => rfl)) pe_int) pa_nil)) (pv 4))) pa_nil))))
    pss_nil)))))
    pss_nil)
  (pss_one (ps_ret (pv 4)))))))), ?_⟩
  obtain ⟨a, r, H0, zs, d, f, ds, rfl, d0, hN, hzl, hr, hf, hds, q⟩ := h
  refine ⟨(by show 8 ≤ sizeLine; decide), fun o no => ?_⟩
  obtain ⟨sz, hsz, hat⟩ := at_mod (ds := [1, 2, 3, 1, 4, 2, 1, 3]) (by simp) d
  obtain ⟨s0, rfl⟩ : ∃ k : Nat, sz = k := ⟨sz.toNat, by simp at hsz; omega⟩
  have hs0 : 1 ≤ s0 ∧ s0 ≤ 4 := by
    simp at hsz
    omega
  refine ⟨_, rfl, .inl ⟨_, rfl, _, _, rfl, rfl, (by show (0 : Int) < 8; decide), o, _, _, _, rfl, rfl, SqL.of upd_same, hat, ?_⟩⟩
  have hN1 := hN.alloc (o := .lst [.int 1, .int 2, .int 3, .int 1, .int 4, .int 2, .int 1, .int 3]) no
  generalize upd H o (.lst [.int 1, .int 2, .int 3, .int 1, .int 4, .int 2, .int 1, .int 3]) = H1 at hN1 ⊢
  refine ⟨fun σ H2 => H2 = H1 ∧ ∃ s : Nat, 1 ≤ s ∧ s ≤ 13 ∧ σ = [some (.ref a), some (.int d), some (.ref r), some (.int (f : Int)), some (.int (s : Int)), none, none, none, none], ?_, ?_⟩
  · refine ⟨_, rfl, _, _, rfl, rfl, ⟨by decide, by decide⟩, .inl ⟨_, rfl, _, _, rfl, rfl, (by show (0 : Int) < 24; decide), rfl, _, rfl, if2 (fun e => ?_) (fun e => ?_)⟩⟩
    · exact ⟨rfl, 13, by omega, by omega, rfl⟩
    · exact ⟨rfl, s0, by omega, by omega, rfl⟩
  rintro σ H2 ⟨rfl, s, s1, s13, rfl⟩
  have hlen : (refL zs).length = zs.length := List.length_map ..
  refine ⟨.ref a, rfl, a, _, rfl, .inl (SqL.of hN1.at_), ?_⟩
  dsimp only
  rw [hlen]
  have hsp : (0 : Int) < (s : Int) := by omega
  refine ⟨_, rfl, (s : Int), rfl, by omega, by omega, for_range (n := s) (fun i σ H5 => (∃ ns : Ws, NxIn H0 H5 a (zs ++ ns) ∧ ns.length = i ∧ ∀ p : Nat, p < i → ∃ z, ns[p]? = some z ∧ (1 < s → z.2 = [((zs.length + (p + 1) % s : Nat) : Int)]) ∧ (s = 1 → z.2 = [] ∨ z.2 = [(zs.length : Int)])) ∧
      ∃ y6, σ = [some (.ref a), some (.int d), some (.ref r), some (.int (f : Int)), some (.int (s : Int)), some (.int (zs.length : Nat)), y6, none, none]) ⟨⟨[], by rw [List.append_nil]; exact hN1, rfl, fun p hp => absurd hp (Nat.not_lt_zero _)⟩, none, rfl⟩ ?_ ?_⟩
  · rintro i σ H5 hi ⟨⟨ns, hN5, hnl, hns⟩, y6, rfl⟩
    have hrl : (refL (zs ++ ns)).length < sizeLine := by
      unfold refL
      rw [List.length_map, List.length_append]
      exact small1000 (by omega)
    have eX : ((zs.length : Nat) : Int) + (0 + (i : Int) + 1) % (s : Int) = ((zs.length + (i + 1) % s : Nat) : Int) := by
      have e1 : (0 + (i : Int) + 1) = ((i + 1 : Nat) : Int) := by omega
      rw [e1, ← Int.natCast_emod, ← Int.natCast_add]
    have done : ∀ (c : List Int) (l : Addr), H5 l = none → (1 < s → c = [((zs.length + (i + 1) % s : Nat) : Int)]) → (s = 1 → c = [] ∨ c = [(zs.length : Int)]) →
        ∃ ns2 : Ws, NxIn H0 (upd (upd H5 l (.lst (c.map V.int))) a (.lst (refL (zs ++ ns) ++ [.ref l]))) a (zs ++ ns2) ∧ ns2.length = i + 1 ∧ ∀ p : Nat, p < i + 1 → ∃ z, ns2[p]? = some z ∧ (1 < s → z.2 = [((zs.length + (p + 1) % s : Nat) : Int)]) ∧ (s = 1 → z.2 = [] ∨ z.2 = [(zs.length : Int)]) := fun c l nl h1 h2 => by
      refine ⟨ns ++ [(l, c)], by rw [← List.append_assoc]; exact hN5.push nl, by rw [List.length_append, hnl]; rfl, fun p hp => ?_⟩
      by_cases hpi : p = i
      · rw [hpi, ← hnl]
        exact ⟨_, List.getElem?_concat_length .., by rw [hnl]; exact h1, h2⟩
      · obtain ⟨z, e1, e2⟩ := hns p (by omega)
        exact ⟨z, by rw [List.getElem?_append_left (by omega)]; exact e1, e2⟩
    by_cases hs : 1 < s
    · refine ⟨_, rfl, _, _, rfl, rfl, _, rfl, ifT (by omega) ⟨.ref a, rfl, .inl ⟨rfl, _, SqL.of hN5.at_⟩, _, rfl, _, rfl, _, _, rfl, rfl, .inl ⟨_, rfl, _, rfl, _, _, rfl, rfl, hsp, _, _, rfl, rfl, (by show 1 ≤ sizeLine; decide), fun l nl => ⟨a, _, _, rfl, rfl, same_new nl _ _ hN5.at_, hrl, ?_⟩⟩⟩⟩
      dsimp only
      rw [eX]
      obtain ⟨ns2, e1, e2, e3⟩ := done [((zs.length + (i + 1) % s : Nat) : Int)] l nl (fun _ => rfl) (fun h => by omega)
      exact ⟨⟨ns2, e1, e2, e3⟩, _, rfl⟩
    · have hs1 : s = 1 := by omega
      refine ⟨_, rfl, _, _, rfl, rfl, _, rfl, ifF (by omega) ⟨_, rfl, _, _, rfl, rfl, ⟨by decide, by decide⟩, .inl ⟨_, rfl, _, _, rfl, rfl, (by show (0 : Int) < 2; decide), rfl, _, rfl, if2 (fun e => ?_) (fun e => ?_)⟩⟩⟩
      · refine ⟨.ref a, rfl, .inl ⟨rfl, _, SqL.of hN5.at_⟩, _, rfl, _, rfl, _, _, rfl, rfl, .inl ⟨_, rfl, _, rfl, _, _, rfl, rfl, hsp, _, _, rfl, rfl, (by show 1 ≤ sizeLine; decide), fun l nl => ⟨a, _, _, rfl, rfl, same_new nl _ _ hN5.at_, hrl, ?_⟩⟩⟩
        dsimp only
        rw [eX]
        obtain ⟨ns2, e1, e2, e3⟩ := done [((zs.length + (i + 1) % s : Nat) : Int)] l nl (fun _ => rfl) (fun h => .inr (by rw [h, Nat.mod_one]; rfl))
        exact ⟨⟨ns2, e1, e2, e3⟩, _, rfl⟩
      · refine ⟨.ref a, rfl, .inl ⟨rfl, _, SqL.of hN5.at_⟩, Nat.zero_le _, fun l nl => ⟨a, _, _, rfl, rfl, same_new nl _ _ hN5.at_, hrl, ?_⟩⟩
        obtain ⟨ns2, e1, e2, e3⟩ := done [] l nl (fun h => by omega) (fun _ => .inl rfl)
        exact ⟨⟨ns2, e1, e2, e3⟩, _, rfl⟩
  rintro σ H5 ⟨⟨ns, hN5, hnl, hns⟩, y6, rfl⟩
  have hB0 : Blk3 (cts zs) (cts (zs ++ ns)) zs.length s := by
    refine ⟨by rw [cts_len, List.length_append, hnl], fun v l hv => ⟨[], ?_, fun t ht => (nomatch ht), fun h => by rw [List.append_nil]; exact h⟩, fun p hp => ?_⟩
    · obtain ⟨z, hz, rfl⟩ := get_cts hv
      have := (List.getElem?_eq_some_iff.mp hz).1
      rw [List.append_nil]
      exact cts_get (by rw [List.getElem?_append_left this]; exact hz)
    · obtain ⟨z, e1, e2, e3⟩ := hns p hp
      exact ⟨z.2, cts_get (by rw [List.getElem?_append_right (by omega)]; rw [show zs.length + p - zs.length = p by omega]; exact e1), e2, e3⟩
  generalize zs ++ ns = zs5 at hN5 hB0
  refine ⟨fun σ H7 => ∃ zs7 : Ws, NxIn H0 H7 a zs7 ∧ BlkR (cts zs) (cts zs7) zs.length s ∧ ∃ y6 y7 y8, σ = [some (.ref a), some (.int d), some (.ref r), some (.int (f : Int)), some (.int (s : Int)), some (.int (zs.length : Nat)), y6, y7, y8], ?_, ?_⟩
  · refine ⟨_, rfl, _, _, rfl, rfl, _, rfl, if2 (fun e => ?_) (fun e => ?_)⟩
    · refine ⟨_, rfl, _, _, rfl, rfl, ⟨by decide, by decide⟩, .inl ⟨_, rfl, _, _, rfl, rfl, (by show (0 : Int) < 4; decide), _, _, rfl, rfl, _, rfl, by omega, by omega, for_range (n := (1 + d / 384 % 4).toNat) (fun i σ H6 => (∃ zs6 : Ws, NxIn H0 H6 a zs6 ∧ Blk3 (cts zs) (cts zs6) zs.length s ∧ (0 < i → (∃ l ∈ cts zs, l.length < 4) → ∃ (v : Nat) (l : List Int) (t : Int), v < zs.length ∧ (cts zs6)[v]? = some l ∧ t ∈ l ∧ (zs.length : Int) ≤ t ∧ t < (zs.length : Int) + s)) ∧
          ∃ y7 y8, σ = [some (.ref a), some (.int d), some (.ref r), some (.int (f : Int)), some (.int (s : Int)), some (.int (zs.length : Nat)), y6, y7, y8]) ⟨⟨zs5, hN5, hB0, fun h => absurd h (Nat.lt_irrefl _)⟩, none, none, rfl⟩ ?_ ?_⟩⟩
      · rintro i σ H6 hi ⟨⟨zs6, hN6, hB6, hen⟩, y7, y8, rfl⟩
        have hz6l : zs6.length = zs.length + s := by
          have := hB6.len
          rw [cts_len] at this
          exact this
        have hfi : f + i < ds.length := by omega
        have hx : ds[f + i]? = some ds[f + i] := List.getElem?_eq_getElem hfi
        have hx0 := hds _ (List.getElem_mem hfi)
        generalize ds[f + i] = x at hx hx0
        have hax : atI (ds.map V.int) ((f : Int) + (0 + (i : Int))) = some (.int x) := atIe (k := f + i) (get_map hx) (by omega)
        refine ⟨_, rfl, _, rfl, _, rfl, a, _, rfl, SqL.of hN6.at_, fun p np => ?_⟩
        rw [cut_take zs6 zs.length (by omega)]
        have hN7 := hN6.alloc (o := .lst (refL (zs6.take zs.length))) np
        have hp7 : upd H6 p (.lst (refL (zs6.take zs.length))) p = some (.lst (refL (zs6.take zs.length))) := upd_same
        generalize upd H6 p (.lst (refL (zs6.take zs.length))) = H7 at hN7 hp7 ⊢
        have hr7 : SqL K H7 r (ds.map V.int) := SqL.of (hN7.same _ _ hr)
        refine ⟨.ref r, rfl, _, rfl, _, rfl, _, _, rfl, rfl, r, _, _, _, rfl, rfl, hr7, hax, p, zs6.take zs.length, x, rfl, hx0, SqL.of hp7, fun z hz => SqL.of (hN7.els z (List.mem_of_mem_take hz)).2.2, by rw [List.length_take]; omega, fun rr hrr => ?_⟩
        rcases hrr with ⟨v, z, rfl, hz, hz4⟩ | ⟨rfl, hall⟩
        · have hvn : v < zs.length := by
            have := (List.getElem?_eq_some_iff.mp hz).1
            rw [List.length_take] at this
            omega
          rw [List.getElem?_take, if_pos hvn] at hz
          have hzm := List.mem_of_getElem? hz
          have hz3 := (hN7.els z hzm).2.2
          have hm1 := Int.emod_nonneg (x / 60) (show (s : Int) ≠ 0 by omega)
          have hm2 := Int.emod_lt_of_pos (x / 60) hsp
          refine ⟨_, rfl, _, _, rfl, rfl, _, rfl, ifT (by omega) ⟨_, rfl, _, rfl, a, _, _, _, rfl, rfl, SqL.of hN7.at_, atI_nat (get_refL hz), .inl ⟨rfl, _, SqL.of hz3⟩, _, rfl, .ref r, rfl, _, rfl, _, rfl, _, _, rfl, rfl, r, _, _, _, rfl, rfl, hr7, hax, _, _, rfl, rfl, ⟨by decide, by decide⟩, .inl ⟨_, rfl, _, rfl, _, _, rfl, rfl, hsp, _, _, rfl, rfl, z.1, _, _, rfl, rfl, hz3, small1000 (by rw [List.length_map]; omega), ?_⟩⟩⟩
          have hN8 := hN7.app (x := (zs.length : Int) + x / 60 % (s : Int)) hz
          refine ⟨⟨_, hN8, ⟨?_, fun w l hw => ?_, fun p hp => ?_⟩, fun _ _ => ⟨v, z.2 ++ [(zs.length : Int) + x / 60 % (s : Int)], (zs.length : Int) + x / 60 % (s : Int), hvn, ?_, List.mem_append_right _ (List.mem_singleton.mpr rfl), by omega, by omega⟩⟩, _, _, rfl⟩
          · rw [cts_set, List.length_set]
            exact hB6.len
          · obtain ⟨more, h1, h2, h3⟩ := hB6.old w l hw
            rw [cts_set, List.getElem?_set]
            by_cases hwv : v = w
            · subst hwv
              rw [cts_get hz] at h1
              rw [if_pos rfl, if_pos (by rw [cts_len]; omega)]
              have h4 := Option.some.inj h1
              refine ⟨more ++ [(zs.length : Int) + x / 60 % (s : Int)], by rw [h4, List.append_assoc], fun t ht => ?_, fun hl => ?_⟩
              · rcases List.mem_append.mp ht with ht | ht
                · exact h2 t ht
                · rw [List.mem_singleton.mp ht]
                  omega
              · rw [h4, List.length_append] at hz4
                rw [← List.append_assoc, List.length_append, List.length_append]
                show l.length + more.length + 1 ≤ 4
                omega
            · rw [if_neg hwv]
              exact ⟨more, h1, h2, h3⟩
          · obtain ⟨l, h1, h2⟩ := hB6.ring p hp
            refine ⟨l, ?_, h2⟩
            rw [cts_set, List.getElem?_set, if_neg (by omega)]
            exact h1
          · rw [cts_set, List.getElem?_set, if_pos rfl, if_pos (by rw [cts_len]; omega)]
        · refine ⟨_, rfl, _, _, rfl, rfl, _, rfl, ifF (by omega) ⟨⟨zs6, hN7, hB6, fun _ ⟨l, hl, hl4⟩ => ?_⟩, _, _, rfl⟩⟩
          obtain ⟨w, hw, e9⟩ := List.mem_iff_getElem.mp hl
          have hwl : w < zs.length := by
            rw [cts_len] at hw
            exact hw
          obtain ⟨more, h1, h2, h3⟩ := hB6.old w l (by rw [List.getElem?_eq_getElem hw, e9])
          obtain ⟨z, hz, e10⟩ := get_cts h1
          have h4 := hall z (List.mem_of_getElem? (i := w) (by rw [List.getElem?_take, if_pos hwl]; exact hz))
          rw [e10] at h4
          cases more with
          | nil =>
            rw [List.append_nil] at h4
            omega
          | cons t more =>
            have h5 := h2 t (List.mem_cons_self ..)
            exact ⟨w, _, t, hwl, h1, List.mem_append_right _ (List.mem_cons_self ..), h5.1, h5.2⟩
      · rintro σ H6 ⟨⟨zs6, hN6, hB6, hen⟩, y7, y8, rfl⟩
        exact ⟨zs6, hN6, ⟨hB6.len, hB6.old, hB6.ring, fun _ => hen (by omega)⟩, _, _, _, rfl⟩
    · exact ⟨zs5, hN5, ⟨hB0.len, hB0.old, hB0.ring, fun h => by omega⟩, _, _, _, rfl⟩
  rintro σ H7 ⟨zs7, hN7, hB7, y6, y7, y8, rfl⟩
  exact ⟨_, rfl, q H7 zs7 s hN7 hB7 s1 s13⟩
theorem ok_l_exit (T : Txt K mg) : Good P w K mg base 2 (He.ga K "_law_exit") ["_law_nexts", "_law_before", "_law_size", "_law_digit"] [] (sp_l_exit K) := by
  refine good_of T.f_l_exit sc_l_exit (fun vs H Q E h => ?_) (fun _ _ _ _ _ _ us hl => match us, hl with | [_, _, _, _], _ => rfl) (fun cdv A outer s H vs Q E hr h => ?_)
  · obtain ⟨_, _, _, _, _, _, rfl, _⟩ := h
    rfl
  refine ⟨_, (pss_cons (ps_for PassesOwn.never rfl (pi_range2 (by rfl) T.z_range (pa_cons (pv 1) (pa_cons (pe_op op_add (pv 1) (pv 2)) pa_nil))) (pg_name (i := 4) sc_l_exit.nd rfl (Or.inl rfl))
    (pss_one (ps_for PassesOwn.never rfl (pi_list (pe_ix ix_list (pv 0) (pv 4) (fun _ _ => rfl))) (pg_name (i := 5) sc_l_exit.nd rfl (Or.inl rfl))
    (pss_one (ps_if (pw_or (pt_cmpR op_lt (pv 5) (pv 1) (nomark _)) (pw_or1 (pt_cmpR op_ge (pv 5) (pe_op op_add (pv 1) (pv 2)) (nomark _)))).pt
    (pss_one (ps_ret pe_bl))
    pss_nil)))))
  (pss_cons (ps_set (i := 6) sc_l_exit.nd rfl (Or.inl rfl) (pe_op op_add (pv 1) (pe_cg (ok_l_open T) (hr.mono (j := 1) (by decide)) (by rfl) T.g_l_open (pa_cons (pe_slice sl_list (pv 0) (po_some (pv 1)) (po_some (pe_op op_add (pv 1) (pv 2)))) (pa_cons (pv 3) pa_nil)))))
  (pss_cons (ps_expr (pe_bm PySem.F.plainAttrs_list PySem.F.slot_list_append PySem.F.type_list_append mt_append (pe_ix ix_list (pv 0) (pv 6) (fun _ _ => rfl)) (pa_cons (pe_un un_neg pe_int) pa_nil)))
  (pss_one (ps_ret pe_bl))))), ?_⟩
  obtain ⟨a, H0, zs, b, s, d, rfl, d0, hN, hzl, hbs, hz4, hop, q⟩ := h
  have hat := hN.at_
  refine ⟨_, rfl, _, rfl, _, rfl, _, _, rfl, rfl, (b : Int), _, rfl, ⟨by omega, by omega, by omega, by omega⟩, for_range (lo := (b : Int)) (n := ((b : Int) + (s : Int) - (b : Int)).toNat) (fun i σ H5 => H5 = H ∧ (∀ (v : Nat) (l : List Int), b ≤ v → v < b + i → (cts zs)[v]? = some l → ∀ t ∈ l, (b : Int) ≤ t ∧ t < (b : Int) + s) ∧ ∃ y4 y5, σ = [some (.ref a), some (.int (b : Int)), some (.int (s : Int)), some (.int d), y4, y5, none]) ⟨rfl, fun v l h1 h2 => by omega, none, none, rfl⟩ ?_ ?_⟩
  · rintro i σ H5 hi ⟨rfl, hdn, y4, y5, rfl⟩
    have hil : b + i < zs.length := by omega
    have hz : zs[b + i]? = some zs[b + i] := List.getElem?_eq_getElem hil
    have hzm : zs[b + i] ∈ zs := List.getElem_mem hil
    generalize zs[b + i] = z at hz hzm
    have hz3 := (hN.els z hzm).2.2
    have haz : atI (refL zs) ((b : Int) + (i : Int)) = some (.ref z.1) := atIe (k := b + i) (get_refL hz) (by omega)
    refine ⟨_, rfl, _, rfl, a, _, _, _, rfl, rfl, SqL.of hat, haz, z.1, rfl, ⟨_, SqL.of hz3⟩, for_list (K := K) (a := z.1) (xs := z.2.map V.int) (fun j σ H6 => H6 = H5 ∧ (∀ t ∈ z.2.take j, (b : Int) ≤ t ∧ t < (b : Int) + s) ∧ ∃ y5, σ = [some (.ref a), some (.int (b : Int)), some (.int (s : Int)), some (.int d), some (.int ((b : Int) + (i : Int))), y5, none])
      ⟨rfl, fun t ht => (nomatch ht), y5, rfl⟩ (fun j σ H6 _ h => by rw [h.1]; exact SqL.of hz3) ?_ ?_⟩
    · rintro j x σ H6 hj ⟨rfl, hdj, y5, rfl⟩
      obtain ⟨t, ht, rfl⟩ := map_get hj
      have out : (t < (b : Int) ∨ (b : Int) + s ≤ t) → Q (.bl false) H6 := fun h => q H6 zs false hN (.inl ⟨rfl, b + i, z.2, t, by omega, by omega, cts_get hz, List.mem_of_getElem? ht, h⟩)
      refine ⟨_, rfl, _, rfl, _, _, rfl, rfl, _, rfl, if2 (fun e => out (.inl e)) (fun e => ⟨_, rfl, _, rfl, _, rfl, _, _, rfl, rfl, _, _, rfl, rfl, _, rfl, if2 (fun e2 => out (.inr e2)) (fun e2 => ⟨rfl, fun t' ht' => ?_, _, rfl⟩)⟩)⟩
      rw [List.take_add_one, ht] at ht'
      rcases List.mem_append.mp ht' with h | h
      · exact hdj t' h
      · rw [List.mem_singleton.mp h]
        omega
    · rintro σ H6 ⟨rfl, hdj, y5, rfl⟩
      rw [List.length_map, List.take_length] at hdj
      refine ⟨rfl, fun v l h1 h2 hl t ht => ?_, _, _, rfl⟩
      by_cases hv : v = b + i
      · subst hv
        rw [cts_get hz] at hl
        rw [← Option.some.inj hl] at ht
        exact hdj t ht
      · exact hdn v l h1 (by omega) hl t ht
  rintro σ H5 ⟨rfl, hdn, y4, y5, rfl⟩
  have hins : ∀ (v : Nat) (l : List Int), b ≤ v → v < b + s → (cts zs)[v]? = some l → ∀ t ∈ l, (b : Int) ≤ t ∧ t < (b : Int) + s := fun v l h1 h2 => hdn v l h1 (by omega)
  obtain ⟨v0, l0, hv1, hv2, hv3, hv4⟩ := hop hins
  obtain ⟨z0, hz0, hz02⟩ := get_cts hv3
  refine ⟨_, rfl, _, rfl, _, rfl, _, rfl, _, rfl, _, rfl, _, _, rfl, rfl, _, rfl, a, _, rfl, SqL.of hat, fun p np => ?_⟩
  rw [cut_mid zs b s hbs]
  have hN7 := hN.alloc (o := .lst (refL ((zs.drop b).take s))) np
  have hp7 : upd H5 p (.lst (refL ((zs.drop b).take s))) p = some (.lst (refL ((zs.drop b).take s))) := upd_same
  generalize upd H5 p (.lst (refL ((zs.drop b).take s))) = H7 at hN7 hp7 ⊢
  have hgt : ∀ n : Nat, n < s → ((zs.drop b).take s)[n]? = zs[b + n]? := fun n hn => by rw [List.getElem?_take, if_pos hn, List.getElem?_drop]
  refine ⟨_, rfl, p, (zs.drop b).take s, d, rfl, d0, SqL.of hp7, fun z hz => SqL.of (hN7.els z (List.mem_of_mem_drop (List.mem_of_mem_take hz))).2.2, by rw [List.length_take]; omega, fun rr hrr => ?_⟩
  rcases hrr with ⟨n, z, rfl, hz, hz5⟩ | ⟨rfl, hall⟩
  · have hns : n < s := by
      have := (List.getElem?_eq_some_iff.mp hz).1
      rw [List.length_take] at this
      omega
    rw [hgt n hns] at hz
    have hzm := List.mem_of_getElem? hz
    have hz3 := (hN7.els z hzm).2.2
    have haz : atI (refL zs) ((b : Int) + (n : Int)) = some (.ref z.1) := atIe (k := b + n) (get_refL hz) (by omega)
    refine ⟨_, _, rfl, rfl, _, rfl, _, rfl, a, _, _, _, rfl, rfl, SqL.of hN7.at_, haz, .inl ⟨rfl, _, SqL.of hz3⟩, 1, rfl, z.1, _, _, rfl, rfl, hz3, small1000 (by rw [List.length_map]; omega), ?_⟩
    exact q _ _ true (hN7.app (x := -1) hz) (.inr ⟨b + n, z.2, by omega, by omega, cts_get hz, hz5, by rw [cts_set]⟩)
  · exfalso
    have h1 : z0 ∈ (zs.drop b).take s := by
      refine List.mem_of_getElem? (i := v0 - b) ?_
      rw [hgt _ (by omega)]
      have e : b + (v0 - b) = v0 := by omega
      rw [e]
      exact hz0
    have := hall z0 h1
    rw [hz02] at this
    omega
end
end K34

namespace K34
open PySem PySem.Spec PyProof.Rows L2 Fw Lay
section
variable {P : Program} {w : World} {K : PySem.W.Frag} {mg : Str → Option Value} {base : Heap}
instance (x : Str) : Decidable (NameOk x) := by
  unfold NameOk
  infer_instance
theorem ok_l_word (T : Txt K mg) : Good P w K mg base 1 (He.ga K "_law_word") ["_law_digit"] [] (sp_l_word K) := by
  refine good_of T.f_l_word sc_l_word (fun vs H Q E h => ?_) (fun _ _ _ _ _ _ us hl => match us, hl with | [_], _ => rfl) (fun cdv A outer s H vs Q E hr h => ?_)
  · obtain ⟨_, rfl, _⟩ := h
    rfl
  refine ⟨_, (pss_cons (ps_if (pt_cmpR op_eq (pe_op op_mod (pe_callTy call_int1 (by rfl) T.z_int (by decide +kernel) (pa_cons (pv 0) pa_nil)) pe_int) pe_int (nomark _))
    (pss_one (ps_ret (pe_slice sl_str pe_str po_none (po_some (pe_op op_add pe_int (pe_op op_mod (pe_callTy call_int1 (by rfl) T.z_int (by decide +kernel) (pa_cons (pe_op op_fdiv (pv 0) pe_int) pa_nil)) pe_int))))))
    pss_nil)
  (pss_one (ps_ret (pe_ix ix_list (pe_lst (pa_cons pe_str (pa_cons pe_str (pa_cons pe_str (pa_cons pe_str (pa_cons pe_str pa_nil)))))) (pe_op op_mod (pe_callTy call_int1 (by rfl) T.z_int (by decide +kernel) (pa_cons (pv 0) pa_nil)) pe_int) (fun _ _ => rfl))))), ?_⟩
  obtain ⟨d, rfl, d0, q⟩ := h
  refine ⟨_, rfl, .inl ⟨_, rfl, _, _, rfl, rfl, (by show (0 : Int) < 6; decide), rfl, _, rfl, if2 (fun e => ?_) (fun e => ?_)⟩⟩
  · have hm1 := Int.emod_nonneg (d / 6) (show (8 : Int) ≠ 0 by omega)
    have hm2 := Int.emod_lt_of_pos (d / 6) (show (0 : Int) < 8 by omega)
    refine ⟨_, rfl, _, _, rfl, rfl, ⟨by decide, by decide⟩, .inl ⟨_, rfl, _, _, rfl, rfl, (by show (0 : Int) < 8; decide), _, _, rfl, rfl, _, rfl, _, rfl, by decide, ?_⟩⟩
    refine q H _ (Same.refl _) ?_
    have h3 : d / 6 % 8 = 0 ∨ d / 6 % 8 = 1 ∨ d / 6 % 8 = 2 ∨ d / 6 % 8 = 3 ∨ d / 6 % 8 = 4 ∨ d / 6 % 8 = 5 ∨ d / 6 % 8 = 6 ∨ d / 6 % 8 = 7 := by omega
    rcases h3 with h3 | h3 | h3 | h3 | h3 | h3 | h3 | h3 <;> rw [h3] <;> decide +kernel
  · have hm1 := Int.emod_nonneg d (show (6 : Int) ≠ 0 by omega)
    have hm2 := Int.emod_lt_of_pos d (show (0 : Int) < 6 by omega)
    have e2 : d % 6 ≠ 5 := fun h => e (congrArg V.int h)
    have hat : ∃ x : Str, atI [V.str "a", V.str "b", V.str "ab", V.str "a", V.str "z"] (d % 6) = some (.str x) ∧ NameOk x := by
      have h3 : d % 6 = 0 ∨ d % 6 = 1 ∨ d % 6 = 2 ∨ d % 6 = 3 ∨ d % 6 = 4 := by omega
      rcases h3 with h3 | h3 | h3 | h3 | h3 <;> rw [h3]
      · exact ⟨"a", rfl, by decide +kernel⟩
      · exact ⟨"b", rfl, by decide +kernel⟩
      · exact ⟨"ab", rfl, by decide +kernel⟩
      · exact ⟨"a", rfl, by decide +kernel⟩
      · exact ⟨"z", rfl, by decide +kernel⟩
    obtain ⟨x, hx, hn⟩ := hat
    refine ⟨(by show 5 ≤ sizeLine; decide), fun o no => ⟨_, rfl, .inl ⟨_, rfl, _, _, rfl, rfl, (by show (0 : Int) < 6; decide), o, _, _, _, rfl, rfl, SqL.of upd_same, hx, q _ x (same_new no) hn⟩⟩⟩
theorem ok_l_price (T : Txt K mg) : Good P w K mg base 1 (He.ga K "_law_price") ["_law_digit"] [] (sp_l_price K) := by
  refine good_of T.f_l_price sc_l_price (fun vs H Q E h => ?_) (fun _ _ _ _ _ _ us hl => match us, hl with | [_], _ => rfl) (fun cdv A outer s H vs Q E hr h => ?_)
  · obtain ⟨_, rfl, _⟩ := h
    rfl
  refine ⟨_, (pss_cons (ps_if (pt_cmpR op_eq (pe_op op_mod (pe_callTy call_int1 (by rfl) T.z_int (by decide +kernel) (pa_cons (pv 0) pa_nil)) pe_int) pe_int (nomark _))
    (pss_one (ps_ret (pe_op op_add pe_int (pe_op op_mod (pe_callTy call_int1 (by rfl) T.z_int (by decide +kernel) (pa_cons (pe_op op_mul (pv 0) pe_int) pa_nil)) (pe_op op_pow pe_int pe_int)))))
    pss_nil)
  (pss_cons (ps_if (pt_cmpR op_eq (pe_op op_mod (pe_callTy call_int1 (by rfl) T.z_int (by decide +kernel) (pa_cons (pv 0) pa_nil)) pe_int) pe_int (nomark _))
    (pss_one (ps_ret (pe_op op_pow pe_int pe_int)))
    pss_nil)
  (pss_one (ps_ret (pe_op op_add pe_int (pe_op op_mod (pe_callTy call_int1 (by rfl) T.z_int (by decide +kernel) (pa_cons (pe_op op_fdiv (pv 0) pe_int) pa_nil)) pe_int)))))), ?_⟩
  obtain ⟨d, rfl, d0, q⟩ := h
  refine ⟨_, rfl, .inl ⟨_, rfl, _, _, rfl, rfl, (by show (0 : Int) < 16; decide), rfl, _, rfl, if2 (fun e => ?_) (fun e => ?_)⟩⟩
  · refine ⟨_, rfl, _, _, rfl, rfl, .inr ⟨by decide, by decide⟩, .inl ⟨_, rfl, _, _, rfl, rfl, ⟨by decide, by decide, by decide⟩, _, _, rfl, rfl, (show (0 : Int) < 10 ^ Int.toNat 9 by decide), _, _, rfl, rfl, q _ ?_⟩⟩
    have hm1 := Int.emod_nonneg (d * 1793939) (show ((10 : Int) ^ 9) ≠ 0 by decide)
    show 1 ≤ 1 + d * 1793939 % ((10 : Int) ^ 9)
    omega
  refine ⟨_, rfl, .inl ⟨_, rfl, _, _, rfl, rfl, (by show (0 : Int) < 16; decide), rfl, _, rfl, if2 (fun e => ?_) (fun e => ?_)⟩⟩
  · exact ⟨_, _, rfl, rfl, ⟨by decide, by decide, by decide⟩, q _ (by decide)⟩
  · refine ⟨_, rfl, _, _, rfl, rfl, ⟨by decide, by decide⟩, .inl ⟨_, rfl, _, _, rfl, rfl, (by show (0 : Int) < 9; decide), _, _, rfl, rfl, q _ ?_⟩⟩
    have hm1 := Int.emod_nonneg (d / 16) (show (9 : Int) ≠ 0 by omega)
    omega
end
end K34

/-! The drawn graph is a graph: each node is reached, each leads to the end. -/
namespace Lay
theorem Rc.mono {g g2 : Nx} {S : Nat → Prop} (hg : ∀ (v u : Nat) (l : List Int), g[v]? = some l → (u : Int) ∈ l → ∃ l2, g2[v]? = some l2 ∧ (u : Int) ∈ l2) {v : Nat} (h : Rc g S v) : Rc g2 S v := by
  induction h with
  | base h => exact .base h
  | step _ h1 h2 ih =>
    obtain ⟨l2, h3, h4⟩ := hg _ _ _ h1 h2
    exact .step ih h3 h4
theorem Ld.mono {g g2 : Nx} (hg : ∀ (v : Nat) (l : List Int) (t : Int), g[v]? = some l → t ∈ l → ∃ l2, g2[v]? = some l2 ∧ t ∈ l2) {v : Nat} (h : Ld g v) : Ld g2 v := by
  induction h with
  | fin h1 h2 =>
    obtain ⟨l2, h3, h4⟩ := hg _ _ _ h1 h2
    exact .fin h3 h4
  | step h1 h2 _ ih =>
    obtain ⟨l2, h3, h4⟩ := hg _ _ _ h1 h2
    exact .step h3 h4 ih
/-- one more target at a node -/
theorem set_grow {g : Nx} {v : Nat} {l : List Int} {x : Int} (h : g[v]? = some l) (w : Nat) (m : List Int) (hm : g[w]? = some m) : ∃ m2, (g.set v (l ++ [x]))[w]? = some m2 ∧ ∀ t ∈ m, t ∈ m2 := by
  have hv := (List.getElem?_eq_some_iff.mp h).1
  rw [List.getElem?_set]
  by_cases e : v = w
  · subst e
    rw [if_pos rfl, if_pos hv]
    rw [h] at hm
    rw [← Option.some.inj hm]
    exact ⟨_, rfl, fun t ht => List.mem_append_left _ ht⟩
  · rw [if_neg e]
    exact ⟨m, hm, fun t ht => ht⟩
structure BI (g : Nx) (b s : Nat) : Prop where
  s1 : 1 ≤ s
  nodes : ∀ p, p < s → ∃ i more : List Int, g[b + p]? = some (i ++ more) ∧ i.length ≤ 1 ∧ (1 < s → i = [((b + (p + 1) % s : Nat) : Int)]) ∧ (∀ t ∈ i, (b : Int) ≤ t ∧ t < (b : Int) + s) ∧ ∀ t ∈ more, t = -1 ∨ (b : Int) + s ≤ t
structure TI (g : Nx) (ss : List Nat) : Prop where
  len : g.length = ss.sum
  rng : ∀ l ∈ g, l.length ≤ 4 ∧ ∀ t ∈ l, t = -1 ∨ (0 ≤ t ∧ t < (g.length : Int))
  blk : ∀ (j s : Nat), ss[j]? = some s → BI g (ss.take j).sum s
  rch : ∀ v, v < g.length → Rc g (fun s => s = 0) v
theorem take_sum_le {ss : List Nat} {j s : Nat} (h : ss[j]? = some s) : (ss.take j).sum + s ≤ ss.sum := by
  have e : ss.take (j + 1) = ss.take j ++ [s] := by rw [List.take_add_one, h]; rfl
  have h1 : (ss.take (j + 1)).sum + (ss.drop (j + 1)).sum = ss.sum := by
    rw [← List.sum_append, List.take_append_drop]
  rw [e, List.sum_append] at h1
  simp at h1
  omega
theorem ring_rc {g : Nx} {S : Nat → Prop} {b s : Nat} (h : ∀ p, p < s → ∃ l, g[b + p]? = some l ∧ (1 < s → ((b + (p + 1) % s : Nat) : Int) ∈ l)) (hs : 1 < s) {p : Nat} (hp : p < s) (hr : Rc g S (b + p)) : ∀ k, Rc g S (b + (p + k) % s)
  | 0 => by rw [Nat.add_zero, Nat.mod_eq_of_lt hp]; exact hr
  | k + 1 => by
    have ih := ring_rc h hs hp hr k
    have hlt : (p + k) % s < s := Nat.mod_lt _ (by omega)
    obtain ⟨l, h1, h2⟩ := h _ hlt
    have e : ((p + k) % s + 1) % s = (p + (k + 1)) % s := by
      rw [Nat.mod_add_mod]
      rfl
    have h3 := h2 hs
    rw [e] at h3
    exact .step ih h1 h3
theorem ring_all {g : Nx} {S : Nat → Prop} {b s : Nat} (h : ∀ p, p < s → ∃ l, g[b + p]? = some l ∧ (1 < s → ((b + (p + 1) % s : Nat) : Int) ∈ l)) {p : Nat} (hp : p < s) (hr : Rc g S (b + p)) (q : Nat) (hq : q < s) : Rc g S (b + q) := by
  by_cases hs : 1 < s
  · have h1 := ring_rc h hs hp hr (q + s - p)
    have e : (p + (q + s - p)) % s = q := by
      have e2 : p + (q + s - p) = q + s := by omega
      rw [e2, Nat.add_mod_right, Nat.mod_eq_of_lt hq]
    rw [e] at h1
    exact h1
  · have e : q = p := by omega
    rw [e]
    exact hr
theorem ring_ld {g : Nx} {b s : Nat} (h : ∀ p, p < s → ∃ l, g[b + p]? = some l ∧ (1 < s → ((b + (p + 1) % s : Nat) : Int) ∈ l)) (hs : 1 < s) {q : Nat} (hl : Ld g (b + q)) : ∀ (k p : Nat), p < s → (p + k) % s = q → Ld g (b + p)
  | 0, p, hp, e => by
    rw [Nat.add_zero, Nat.mod_eq_of_lt hp] at e
    rw [e]
    exact hl
  | k + 1, p, hp, e => by
    obtain ⟨l, h1, h2⟩ := h p hp
    refine .step h1 (h2 hs) (ring_ld h hs hl k _ (Nat.mod_lt _ (by omega)) ?_)
    rw [Nat.mod_add_mod, ← e]
    congr 1
    omega
theorem ring_lds {g : Nx} {b s : Nat} (h : ∀ p, p < s → ∃ l, g[b + p]? = some l ∧ (1 < s → ((b + (p + 1) % s : Nat) : Int) ∈ l)) {q : Nat} (hq : q < s) (hl : Ld g (b + q)) (p : Nat) (hp : p < s) : Ld g (b + p) := by
  by_cases hs : 1 < s
  · refine ring_ld h hs hl (q + s - p) p hp ?_
    have e2 : p + (q + s - p) = q + s := by omega
    rw [e2, Nat.add_mod_right, Nat.mod_eq_of_lt hq]
  · have e : p = q := by omega
    rw [e]
    exact hl
theorem BI.ring {g : Nx} {b s : Nat} (h : BI g b s) : ∀ p, p < s → ∃ l, g[b + p]? = some l ∧ (1 < s → ((b + (p + 1) % s : Nat) : Int) ∈ l) := fun p hp => by
  obtain ⟨i, more, h1, _, h3, _, _⟩ := h.nodes p hp
  exact ⟨_, h1, fun hs => List.mem_append_left _ (by rw [h3 hs]; exact List.mem_singleton.mpr rfl)⟩
theorem TI.nil : TI [] [] := ⟨rfl, fun l hl => (nomatch hl), fun j s h => by simp at h, fun v hv => absurd hv (Nat.not_lt_zero _)⟩
/-- a block more -/
theorem TI.block {g g2 : Nx} {ss : List Nat} {s : Nat} (h : TI g ss) (hB : BlkR g g2 g.length s) (hs : 1 ≤ s) (hf : 0 < g.length → ∃ l ∈ g, l.length < 4) : TI g2 (ss ++ [s]) ∧ ∃ l ∈ g2, l.length < 4 := by
  have hgrow : ∀ (v : Nat) (l : List Int), g[v]? = some l → ∃ l2, g2[v]? = some l2 ∧ ∀ t ∈ l, t ∈ l2 := fun v l hv => by
    obtain ⟨more, h1, _⟩ := hB.old v l hv
    exact ⟨_, h1, fun t ht => List.mem_append_left _ ht⟩
  have hlen : g2.length = (ss ++ [s]).sum := by
    rw [hB.len, h.len, List.sum_append]
    simp
  have hring : ∀ p, p < s → ∃ l, g2[g.length + p]? = some l ∧ (1 < s → ((g.length + (p + 1) % s : Nat) : Int) ∈ l) := fun p hp => by
    obtain ⟨l, h1, h2, _⟩ := hB.ring p hp
    exact ⟨l, h1, fun hs => by rw [h2 hs]; exact List.mem_singleton.mpr rfl⟩
  have hnew : ∀ p, p < s → ∃ l, g2[g.length + p]? = some l ∧ l.length ≤ 1 ∧ ∀ t ∈ l, (g.length : Int) ≤ t ∧ t < (g.length : Int) + s := fun p hp => by
    obtain ⟨l, h1, h2, h3⟩ := hB.ring p hp
    by_cases hs1 : 1 < s
    · have := Nat.mod_lt (p + 1) (show 0 < s by omega)
      refine ⟨l, h1, by rw [h2 hs1]; exact Nat.le_refl _, fun t ht => ?_⟩
      rw [h2 hs1] at ht
      rw [List.mem_singleton.mp ht]
      omega
    · rcases h3 (by omega) with e | e
      · exact ⟨l, h1, by rw [e]; exact Nat.zero_le _, fun t ht => by rw [e] at ht; cases ht⟩
      · refine ⟨l, h1, by rw [e]; exact Nat.le_refl _, fun t ht => ?_⟩
        rw [e] at ht
        rw [List.mem_singleton.mp ht]
        omega
  refine ⟨⟨hlen, fun l hl => ?_, fun j s' hj => ?_, fun v hv => ?_⟩, ?_⟩
  · obtain ⟨v, hv, e⟩ := List.mem_iff_getElem.mp hl
    have hl2 := hB.len
    by_cases hvn : v < g.length
    · have hg : g[v]? = some g[v] := List.getElem?_eq_getElem hvn
      have hgm := List.getElem_mem hvn
      obtain ⟨more, h1, h2, h3⟩ := hB.old v _ hg
      rw [List.getElem?_eq_getElem hv, e] at h1
      have h4 := Option.some.inj h1
      obtain ⟨h5, h6⟩ := h.rng _ hgm
      rw [h4]
      refine ⟨h3 h5, fun t ht => ?_⟩
      rcases List.mem_append.mp ht with ht | ht
      · rcases h6 t ht with h7 | h7
        · exact .inl h7
        · exact .inr (by omega)
      · have := h2 t ht
        exact .inr (by omega)
    · obtain ⟨l2, h1, h2, h3⟩ := hnew (v - g.length) (by omega)
      rw [show g.length + (v - g.length) = v by omega, List.getElem?_eq_getElem hv, e] at h1
      rw [Option.some.inj h1]
      refine ⟨by omega, fun t ht => .inr ?_⟩
      have := h3 t ht
      omega
  · by_cases hjl : j < ss.length
    · rw [List.getElem?_append_left hjl] at hj
      rw [List.take_append_of_le_length (by omega)]
      have hb := h.blk j s' hj
      have hle := take_sum_le hj
      refine ⟨hb.s1, fun p hp => ?_⟩
      obtain ⟨i, more, h1, h2, h3, h4, h5⟩ := hb.nodes p hp
      obtain ⟨more2, h6, h7, _⟩ := hB.old _ _ h1
      refine ⟨i, more ++ more2, by rw [← List.append_assoc]; exact h6, h2, h3, h4, fun t ht => ?_⟩
      rcases List.mem_append.mp ht with ht | ht
      · exact h5 t ht
      · have := h7 t ht
        have := h.len
        exact .inr (by omega)
    · have hjl2 : j < (ss ++ [s]).length := (List.getElem?_eq_some_iff.mp hj).1
      rw [List.length_append] at hjl2
      have ej : j = ss.length := by
        have : j < ss.length + 1 := hjl2
        omega
      subst ej
      rw [List.getElem?_concat_length] at hj
      rw [← Option.some.inj hj, List.take_left, ← h.len]
      refine ⟨hs, fun p hp => ?_⟩
      obtain ⟨l, h1, h2, h3⟩ := hB.ring p hp
      obtain ⟨l', h1', h4, h5⟩ := hnew p hp
      rw [h1] at h1'
      rw [← Option.some.inj h1'] at h4 h5
      exact ⟨l, [], by rw [List.append_nil]; exact h1, h4, h2, h5, fun t ht => (nomatch ht)⟩
  · have hold : ∀ v, v < g.length → Rc g2 (fun s => s = 0) v := fun v hv => (h.rch v hv).mono fun w u l hw hu => by
      obtain ⟨l2, h1, h2⟩ := hgrow w l hw
      exact ⟨l2, h1, h2 _ hu⟩
    by_cases hvn : v < g.length
    · exact hold v hvn
    · have hl2 := hB.len
      have hent : ∃ p, p < s ∧ Rc g2 (fun s => s = 0) (g.length + p) := by
        by_cases hn : 0 < g.length
        · obtain ⟨w, l, t, h1, h2, h3, h4, h5⟩ := hB.ent hn (hf hn)
          refine ⟨(t - g.length).toNat, by omega, .step (hold w h1) h2 ?_⟩
          have e : ((g.length + (t - g.length).toNat : Nat) : Int) = t := by omega
          rw [e]
          exact h3
        · exact ⟨0, by omega, .base (by omega)⟩
      obtain ⟨p, hp, hr⟩ := hent
      have := ring_all hring hp hr (v - g.length) (by omega)
      rw [show g.length + (v - g.length) = v by omega] at this
      exact this
  · obtain ⟨l, h1, h2, _⟩ := hnew 0 (by omega)
    exact ⟨l, List.mem_of_getElem? h1, by omega⟩
/-- an end more -/
theorem TI.fin {g : Nx} {ss : List Nat} {v : Nat} {l : List Int} (h : TI g ss) (hv : g[v]? = some l) (hl : l.length < 4) : TI (g.set v (l ++ [-1])) ss := by
  have hvl := (List.getElem?_eq_some_iff.mp hv).1
  have hlm := List.mem_of_getElem? hv
  refine ⟨by rw [List.length_set]; exact h.len, fun m hm => ?_, fun j s hj => ?_, fun w hw => ?_⟩
  · rw [List.length_set]
    rcases List.mem_or_eq_of_mem_set hm with hm | hm
    · exact h.rng m hm
    · rw [hm, List.length_append]
      refine ⟨by show l.length + 1 ≤ 4; omega, fun t ht => ?_⟩
      rcases List.mem_append.mp ht with ht | ht
      · exact (h.rng l hlm).2 t ht
      · exact .inl (List.mem_singleton.mp ht)
  · have hb := h.blk j s hj
    refine ⟨hb.s1, fun p hp => ?_⟩
    obtain ⟨i, more, h1, h2, h3, h4, h5⟩ := hb.nodes p hp
    rw [List.getElem?_set]
    by_cases e : v = (ss.take j).sum + p
    · subst e
      rw [h1] at hv
      rw [if_pos rfl, if_pos hvl, ← Option.some.inj hv]
      refine ⟨i, more ++ [-1], by rw [List.append_assoc], h2, h3, h4, fun t ht => ?_⟩
      rcases List.mem_append.mp ht with ht | ht
      · exact h5 t ht
      · exact .inl (List.mem_singleton.mp ht)
    · rw [if_neg e]
      exact ⟨i, more, h1, h2, h3, h4, h5⟩
  · rw [List.length_set] at hw
    refine (h.rch w hw).mono fun x u m hx hu => ?_
    obtain ⟨m2, h1, h2⟩ := set_grow (x := -1) hv x m hx
    exact ⟨m2, h1, h2 _ hu⟩
/-- something leads out of the block -/
def EX (g : Nx) (b s : Nat) : Prop := ∃ (v : Nat) (l : List Int) (t : Int), b ≤ v ∧ v < b + s ∧ g[v]? = some l ∧ t ∈ l ∧ (t < (b : Int) ∨ (b : Int) + s ≤ t)
theorem EX.fin {g : Nx} {b s v : Nat} {l : List Int} (h : EX g b s) (hv : g[v]? = some l) : EX (g.set v (l ++ [-1])) b s := by
  obtain ⟨w, m, t, h1, h2, h3, h4, h5⟩ := h
  obtain ⟨m2, h6, h7⟩ := set_grow (x := -1) hv w m h3
  exact ⟨w, m2, t, h1, h2, h6, h7 t h4, h5⟩
theorem TI.open_ {g : Nx} {ss : List Nat} {j s : Nat} (h : TI g ss) (hj : ss[j]? = some s) (hin : ∀ (v : Nat) (l : List Int), (ss.take j).sum ≤ v → v < (ss.take j).sum + s → g[v]? = some l → ∀ t ∈ l, ((ss.take j).sum : Int) ≤ t ∧ t < ((ss.take j).sum : Int) + s) :
    ∃ (v : Nat) (l : List Int), (ss.take j).sum ≤ v ∧ v < (ss.take j).sum + s ∧ g[v]? = some l ∧ l.length < 4 := by
  have hb := h.blk j s hj
  have hs := hb.s1
  obtain ⟨i, more, h1, h2, h3, h4, h5⟩ := hb.nodes 0 (by omega)
  refine ⟨(ss.take j).sum, i ++ more, Nat.le_refl _, by omega, h1, ?_⟩
  cases more with
  | nil =>
    rw [List.append_nil]
    omega
  | cons t more =>
    have h6 := hin _ _ (Nat.le_refl _) (by omega) h1 t (List.mem_append_right _ (List.mem_cons_self ..))
    rcases h5 t (List.mem_cons_self ..) with h7 | h7 <;> omega
theorem TI.exit {g g2 : Nx} {ss : List Nat} {j s : Nat} (h : TI g ss) (hE : ExitR g g2 (ss.take j).sum s) : TI g2 ss ∧ EX g2 (ss.take j).sum s ∧ ∀ b s', EX g b s' → EX g2 b s' := by
  rcases hE with ⟨rfl, he⟩ | ⟨v, l, h1, h2, h3, h4, rfl⟩
  · exact ⟨h, he, fun b s' h => h⟩
  · have hvl := (List.getElem?_eq_some_iff.mp h3).1
    refine ⟨h.fin h3 h4, ⟨v, l ++ [-1], -1, h1, h2, ?_, List.mem_append_right _ (List.mem_singleton.mpr rfl), .inl (by omega)⟩, fun b s' he => he.fin h3⟩
    rw [List.getElem?_set, if_pos rfl, if_pos hvl]
theorem TI.ok {g : Nx} {ss : List Nat} (h : TI g ss) (hp : 0 < g.length) (hE : ∀ j s, ss[j]? = some s → EX g (ss.take j).sum s) : GOk g := by
  have hall : ∀ (k j : Nat), j + k = ss.length → ∀ v, (ss.take j).sum ≤ v → v < g.length → Ld g v := fun k => by
    induction k with
    | zero =>
      intro j hj v h1 h2
      rw [List.take_of_length_le (by omega), ← h.len] at h1
      omega
    | succ k ih =>
      intro j hj v h1 h2
      have hs : ss[j]? = some ss[j] := List.getElem?_eq_getElem (by omega)
      generalize ss[j]'(by omega) = s at hs
      have e : (ss.take (j + 1)).sum = (ss.take j).sum + s := by
        rw [List.take_add_one, hs, List.sum_append]
        simp
      by_cases hv : (ss.take j).sum + s ≤ v
      · exact ih (j + 1) (by omega) v (by rw [e]; exact hv) h2
      · have hb := h.blk j s hs
        obtain ⟨w, l, t, w1, w2, w3, w4, w5⟩ := hE j s hs
        have hw : Ld g w := by
          obtain ⟨i, more, b1, b2, b3, b4, b5⟩ := hb.nodes (w - (ss.take j).sum) (by omega)
          rw [show (ss.take j).sum + (w - (ss.take j).sum) = w by omega, w3] at b1
          have b6 := Option.some.inj b1
          rw [b6] at w4
          have ht : t = -1 ∨ ((ss.take j).sum : Int) + s ≤ t := by
            rcases List.mem_append.mp w4 with w4 | w4
            · have := b4 t w4
              omega
            · exact b5 t w4
          rw [← b6] at w4
          rcases ht with ht | ht
          · rw [ht] at w4
            exact .fin w3 w4
          · have hr := (h.rng l (List.mem_of_getElem? w3)).2 t w4
            have e3 : ((t.toNat : Nat) : Int) = t := by omega
            refine .step w3 (u := t.toNat) (by rw [e3]; exact w4) (ih (j + 1) (by omega) _ (by rw [e]; omega) (by omega))
        have := ring_lds hb.ring (q := w - (ss.take j).sum) (by omega) (by rw [show (ss.take j).sum + (w - (ss.take j).sum) = w by omega]; exact hw) (v - (ss.take j).sum) (by omega)
        rw [show (ss.take j).sum + (v - (ss.take j).sum) = v by omega] at this
        exact this
  have hends : ∀ v, v < g.length → Ld g v := fun v hv => hall ss.length 0 (by omega) v (Nat.zero_le _) hv
  refine ⟨hp, fun l hl => ?_, h.rch, hends⟩
  obtain ⟨v, hv, e⟩ := List.mem_iff_getElem.mp hl
  refine ⟨?_, h.rng l hl⟩
  have hne : ∀ {m : List Int}, g[v]? = some m → m ≠ [] → 1 ≤ l.length := fun {m} hm hne => by
    rw [List.getElem?_eq_getElem hv, e] at hm
    rw [Option.some.inj hm]
    exact List.length_pos_iff.mpr hne
  cases hends v hv with
  | fin h1 h2 => exact hne h1 (fun e => by rw [e] at h2; cases h2)
  | step h1 h2 _ => exact hne h1 (fun e => by rw [e] at h2; cases h2)
/-- an edge more -/
theorem GOk.grow {g : Nx} {v : Nat} {l : List Int} {x : Int} (h : GOk g) (hv : g[v]? = some l) (hl : l.length < 4) (h0 : 0 ≤ x) (h1 : x < (g.length : Int)) : GOk (g.set v (l ++ [x])) := by
  have hvl := (List.getElem?_eq_some_iff.mp hv).1
  have hlm := List.mem_of_getElem? hv
  refine ⟨by rw [List.length_set]; exact h.pos, fun m hm => ?_, fun w hw => ?_, fun w hw => ?_⟩
  · rw [List.length_set]
    rcases List.mem_or_eq_of_mem_set hm with hm | hm
    · exact h.rows m hm
    · rw [hm]
      obtain ⟨r1, r2, r3⟩ := h.rows l hlm
      refine ⟨by rw [List.length_append]; omega, by rw [List.length_append]; show l.length + 1 ≤ 4; omega, fun t ht => ?_⟩
      rcases List.mem_append.mp ht with ht | ht
      · exact r3 t ht
      · rw [List.mem_singleton.mp ht]
        exact .inr ⟨h0, h1⟩
  · rw [List.length_set] at hw
    refine (h.reach w hw).mono fun y u m hy hu => ?_
    obtain ⟨m2, h3, h4⟩ := set_grow (x := x) hv y m hy
    exact ⟨m2, h3, h4 _ hu⟩
  · rw [List.length_set] at hw
    refine (h.ends w hw).mono fun y m t hy ht => ?_
    obtain ⟨m2, h3, h4⟩ := set_grow (x := x) hv y m hy
    exact ⟨m2, h3, h4 _ ht⟩
/-- the nodes numbered anew -/
theorem GOk.number {g g2 : Nx} {od : List Nat} (h : GOk g) (hl : od.length = g.length) (nd : od.Nodup) (hall : ∀ v, v < g.length → v ∈ od) (h0 : od[0]? = some 0) (hl2 : g2.length = g.length)
    (hr : ∀ (i v : Nat) (l2 : List Int), od[i]? = some v → g2[i]? = some l2 → ∃ l, g[v]? = some l ∧ l2.length = l.length ∧ ∀ t : Int, t ∈ l2 ↔ (t = -1 ∧ (-1 : Int) ∈ l) ∨ ∃ j u : Nat, t = (j : Int) ∧ od[j]? = some u ∧ (u : Int) ∈ l) : GOk g2 := by
  have hinj : ∀ {i j v : Nat}, od[i]? = some v → od[j]? = some v → i = j := fun {i j v} h1 h2 => by
    have e1 := List.getElem?_eq_some_iff.mp h1
    have e2 := List.getElem?_eq_some_iff.mp h2
    exact (List.getElem_inj nd (h₀ := e1.1) (h₁ := e2.1)).mp (e1.2.trans e2.2.symm)
  have hat : ∀ {v : Nat} {l : List Int}, g[v]? = some l → ∀ i, od[i]? = some v → ∃ l2, g2[i]? = some l2 ∧ ∀ t : Int, t ∈ l2 ↔ (t = -1 ∧ (-1 : Int) ∈ l) ∨ ∃ j u : Nat, t = (j : Int) ∧ od[j]? = some u ∧ (u : Int) ∈ l := fun {v l} hv i hi => by
    have hil := (List.getElem?_eq_some_iff.mp hi).1
    have h2 : g2[i]? = some g2[i] := List.getElem?_eq_getElem (by omega)
    obtain ⟨l', e1, _, e3⟩ := hr i v _ hi h2
    rw [hv] at e1
    rw [← Option.some.inj e1] at e3
    exact ⟨_, h2, e3⟩
  have hpos : ∀ v, v < g.length → ∃ i, od[i]? = some v := fun v hv => by
    obtain ⟨i, hi, e⟩ := List.mem_iff_getElem.mp (hall v hv)
    exact ⟨i, by rw [List.getElem?_eq_getElem hi, e]⟩
  have hlt : ∀ {i v : Nat}, od[i]? = some v → v < g.length := fun {i v} hi => by
    have hil := (List.getElem?_eq_some_iff.mp hi).1
    obtain ⟨l, e1, _⟩ := hr i v _ hi (List.getElem?_eq_getElem (by omega))
    exact (List.getElem?_eq_some_iff.mp e1).1
  have hrc : ∀ v, Rc g (fun s => s = 0) v → ∀ i, od[i]? = some v → Rc g2 (fun s => s = 0) i := fun v hv => by
    induction hv with
    | base e =>
      intro i hi
      rw [e] at hi
      exact .base (hinj hi h0)
    | @step v u l _ h1 h2 ih =>
      intro i hi
      obtain ⟨k, hk⟩ := hpos v (List.getElem?_eq_some_iff.mp h1).1
      obtain ⟨l2, e1, e2⟩ := hat h1 k hk
      exact .step (ih k hk) e1 ((e2 i).mpr (.inr ⟨i, u, rfl, hi, h2⟩))
  have hld : ∀ v, Ld g v → ∀ i, od[i]? = some v → Ld g2 i := fun v hv => by
    induction hv with
    | fin h1 h2 =>
      intro i hi
      obtain ⟨l2, e1, e2⟩ := hat h1 i hi
      exact .fin e1 ((e2 (-1)).mpr (.inl ⟨rfl, h2⟩))
    | @step v u l h1 h2 h3 ih =>
      intro i hi
      have hu : u < g.length := by
        have := (h.rows l (List.mem_of_getElem? h1)).2.2 u h2
        omega
      obtain ⟨k, hk⟩ := hpos u hu
      obtain ⟨l2, e1, e2⟩ := hat h1 i hi
      exact .step e1 ((e2 k).mpr (.inr ⟨k, u, rfl, hk, h2⟩)) (ih k hk)
  refine ⟨by rw [hl2]; exact h.pos, fun l2 hm => ?_, fun i hi => ?_, fun i hi => ?_⟩
  · obtain ⟨i, hi, e⟩ := List.mem_iff_getElem.mp hm
    have hod : od[i]? = some od[i] := List.getElem?_eq_getElem (by omega)
    obtain ⟨l, e1, e2, e3⟩ := hr i _ l2 hod (by rw [List.getElem?_eq_getElem hi, e])
    obtain ⟨r1, r2, r3⟩ := h.rows l (List.mem_of_getElem? e1)
    refine ⟨by omega, by omega, fun t ht => ?_⟩
    rcases (e3 t).mp ht with ⟨h1, _⟩ | ⟨j, u, h1, h2, _⟩
    · exact .inl h1
    · have := (List.getElem?_eq_some_iff.mp h2).1
      exact .inr (by omega)
  · have hod : od[i]? = some od[i] := List.getElem?_eq_getElem (by omega)
    exact hrc _ (h.reach _ (hlt hod)) i hod
  · have hod : od[i]? = some od[i] := List.getElem?_eq_getElem (by omega)
    exact hld _ (h.ends _ (hlt hod)) i hod
end Lay

namespace K34
open PySem PySem.Spec PyProof.Rows L2 Fw Lay
section
variable {P : Program} {w : World} {K : PySem.W.Frag} {mg : Str → Option Value} {base : Heap}
theorem eqV_int (a b : Int) : eqV (.int a) (.int b) = decide (a = b) := by
  show (a == b) = _
  by_cases h : a = b
  · rw [decide_eq_true h, h, beq_self_eq_true]
  · rw [decide_eq_false h]
    exact beq_eq_false_iff_ne.mpr h
theorem refT_at {ys : Zs} {i : Nat} {z : Addr × Int × Int} (h : ys[i]? = some z) : (refT ys)[i]? = some (.ref z.1) := by
  unfold refT
  rw [List.getElem?_map, h]
  rfl
theorem ok_l_numbered (T : Txt K mg) : Good P w K mg base 2 (He.ga K "_law_numbered") ["_law_nexts", "_law_row"] [] (sp_l_numbered K) := by
  refine good_of T.f_l_numbered sc_l_numbered (fun vs H Q E h => ?_) (fun _ _ _ _ _ _ us hl => match us, hl with | [_, _], _ => rfl) (fun cdv A outer s H vs Q E hr h => ?_)
  · obtain ⟨_, _, _, _, rfl, _⟩ := h
    rfl
  refine ⟨_, (pss_cons (ps_set (i := 2) sc_l_numbered.nd rfl (Or.inl rfl) (pe_callB call_len_seq (by rfl) T.z_len (by decide +kernel) (pa_cons (pv 0) pa_nil)))
  (pss_cons (ps_set (i := 3) sc_l_numbered.nd rfl (Or.inl rfl) (pe_callB cr_sortedPO (by rfl) T.z_sorted (by decide +kernel) (pa_cons (pe_lc (own := [("_law_k", 11)]) (g := (gName 11)) (tt := tYes) rfl sc_l_numbered.nd (pi_range2 (by rfl) T.z_range (pa_cons pe_int (pa_cons (pv 2) pa_nil))) (blkOk_by (own := [("_law_k", 11)]) (N := ["_law_nexts", "_law_row", "_law_size", "_law_keys", "_law_order", "_law_rows", "_law_node", "_law_turn", "_law_turned", "_law_named", "_law_target", "_law_k", "_law_key"]) (sc := defScope s_l_numbered) (by decide +kernel)) (fun _ _ _ _ _ => (pg_name (i := 11) sc_l_numbered.nd rfl (Or.inl rfl))) (fun _ _ _ _ _ => pts_nil) (fun _ _ _ _ _ => (pe_tup (pa_cons (pe_op op_mod (pe_callTy call_int1 (by rfl) T.z_int (by decide +kernel) (pa_cons (pe_ix (ix_listE (K := K) rfl) (pv 1) (pv 11) (fun _ _ => rfl)) pa_nil)) pe_int) (pa_cons (pv 11) pa_nil))))) pa_nil)))
  (pss_cons (ps_set (i := 4) sc_l_numbered.nd rfl (Or.inl rfl) (pe_op op_cat (pe_lst (pa_cons pe_int pa_nil)) (pe_lc (own := [("_law_key", 12)]) (g := (gName 12)) (tt := tYes) rfl sc_l_numbered.nd (pi_list (pv 3)) (blkOk_by (own := [("_law_key", 12)]) (N := ["_law_nexts", "_law_row", "_law_size", "_law_keys", "_law_order", "_law_rows", "_law_node", "_law_turn", "_law_turned", "_law_named", "_law_target", "_law_k", "_law_key"]) (sc := defScope s_l_numbered) (by decide +kernel)) (fun _ _ _ _ _ => (pg_name (i := 12) sc_l_numbered.nd rfl (Or.inl rfl))) (fun _ _ _ _ _ => pts_nil) (fun _ _ _ _ _ => (pe_ix (ix_tupE (K := K) rfl) (pv 12) pe_int (fun _ _ => rfl))))))
  (pss_cons (ps_set (i := 5) sc_l_numbered.nd rfl (Or.inl rfl) (pe_lst pa_nil))
  (pss_cons (ps_for PassesOwn.never rfl (pi_list (pv 4)) (pg_name (i := 6) sc_l_numbered.nd rfl (Or.inl rfl))
    (pss_cons (ps_set (i := 7) sc_l_numbered.nd rfl (Or.inl rfl) (pe_op op_mod (pe_callTy call_int1 (by rfl) T.z_int (by decide +kernel) (pa_cons (pe_ix ix_list (pv 1) (pe_op op_add (pv 2) (pv 6)) (fun _ _ => rfl)) pa_nil)) (pe_callB call_len_seq (by rfl) T.z_len (by decide +kernel) (pa_cons (pe_ix ix_list (pv 0) (pv 6) (fun _ _ => rfl)) pa_nil))))
  (pss_cons (ps_set (i := 8) sc_l_numbered.nd rfl (Or.inl rfl) (pe_op op_cat (pe_slice sl_list (pe_ix ix_list (pv 0) (pv 6) (fun _ _ => rfl)) (po_some (pv 7)) po_none) (pe_slice sl_list (pe_ix ix_list (pv 0) (pv 6) (fun _ _ => rfl)) po_none (po_some (pv 7)))))
  (pss_cons (ps_set (i := 9) sc_l_numbered.nd rfl (Or.inl rfl) (pe_lst pa_nil))
  (pss_cons (ps_for PassesOwn.never rfl (pi_list (pv 8)) (pg_name (i := 10) sc_l_numbered.nd rfl (Or.inl rfl))
    (pss_one (ps_if (pt_cmpR op_lt (pv 10) pe_int (nomark _))
    (pss_one (ps_expr (pe_bm PySem.F.plainAttrs_list PySem.F.slot_list_append PySem.F.type_list_append mt_append (pv 9) (pa_cons (pe_un un_neg pe_int) pa_nil))))
    (pss_one (ps_expr (pe_bm PySem.F.plainAttrs_list PySem.F.slot_list_append PySem.F.type_list_append mt_append (pv 9) (pa_cons (pe_bm PySem.F.plainAttrs_list PySem.F.slot_list_index PySem.F.type_list_index mt_index (pv 4) (pa_cons (pv 10) pa_nil)) pa_nil)))))))
  (pss_one (ps_expr (pe_bm PySem.F.plainAttrs_list PySem.F.slot_list_append PySem.F.type_list_append mt_append (pv 5) (pa_cons (pe_tup (pa_cons (pe_cg (ok_l_word T) (hr.mono (j := 1) (by decide)) (by rfl) T.g_l_word (pa_cons (pe_ix ix_list (pv 1) (pe_op op_add (pe_op op_mul pe_int (pv 2)) (pv 6)) (fun _ _ => rfl)) pa_nil)) (pa_cons (pe_cg (ok_l_price T) (hr.mono (j := 1) (by decide)) (by rfl) T.g_l_price (pa_cons (pe_ix ix_list (pv 1) (pv 6) (fun _ _ => rfl)) pa_nil)) (pa_cons (pe_callTy call_tuple_of (by rfl) T.z_tuple (by decide +kernel) (pa_cons (pv 9) pa_nil)) pa_nil)))) pa_nil)))))))))
  (pss_one (ps_ret (pv 5)))))))), ?_⟩
  obtain ⟨a, r, zs, ds, rfl, hA, hL, hG, hzl, hR, hdl, hds, q⟩ := h
  have hlen : (refL zs).length = zs.length := List.length_map ..
  have hgl := cts_len zs
  have hpos : 0 < zs.length := by
    have := hG.pos
    omega
  have gd : ∀ j : Nat, j < 3 * zs.length → ∃ d, 0 ≤ d ∧ (ds.map V.int)[j]? = some (.int d) := fun j hj => by
    have hj2 : j < ds.length := by omega
    exact ⟨_, hds _ (List.getElem_mem hj2), get_map (List.getElem?_eq_getElem hj2)⟩
  refine ⟨.ref a, rfl, a, _, rfl, .inl hA, ?_⟩
  dsimp only
  rw [hlen]
  -- keys
  refine ⟨_, rfl, 1, _, rfl, ⟨by decide, by decide, by omega, by omega⟩, fun D hD => lc_range (lo := 1) (n := ((zs.length : Int) - 1).toNat) (fun i H3 => Same H H3 ∧ ∃ ys : Zs, H3 D = some (.lst (refT ys)) ∧ TL H3 ys ∧ ys.map (·.2.2) = (List.range i).map fun j : Nat => ((j + 1 : Nat) : Int)) ⟨same_new hD, [], upd_same, TL.nil, rfl⟩ ?_ ?_⟩
  · rintro i H3 hi ⟨s3, ys, h3, hT, em⟩
    have hyl : ys.length = i := by
      have e := congrArg List.length em
      rw [List.length_map, List.length_map, List.length_range] at e
      exact e
    obtain ⟨x, x0, hx⟩ := gd (1 + i) (by omega)
    have hax : atI (ds.map V.int) (1 + (i : Int)) = some (.int x) := atIe (k := 1 + i) hx (by omega)
    refine ⟨rfl, yes_then ⟨_, rfl, _, rfl, r, _, _, _, rfl, rfl, s3.seq hR, hax, .inl ⟨_, rfl, _, _, rfl, rfl, (by show (0 : Int) < 97; decide), _, rfl, (by show 2 ≤ sizeLine; decide), fun t nt => ⟨_, (by rw [upd_ne (ne_of_none h3 nt)]; exact h3), small1000 (by unfold refT; rw [List.length_map]; omega), ?_⟩⟩⟩⟩
    refine ⟨same_mut (s3.trans (same_new nt)) hD, ys ++ [(t, _, _)], ?_, hT.push h3 nt, ?_⟩
    · rw [upd_same, refT_snoc]
    · have e1 : (1 + (i : Int)) = ((i + 1 : Nat) : Int) := by omega
      rw [List.map_append, em, List.range_succ, List.map_append, e1]
      rfl
  rintro H3 ⟨s3, ys, h3, hT, em⟩
  refine tnil_go ?_
  refine sorted_tl (SqL.of h3) hT fun ys2 p pm srt np => ?_
  have hT2 : TL H3 ys2 := fun z hz => hT z (pm.mem_iff.mp hz)
  have s34 : Same H3 (upd H3 p (.lst (refT ys2))) := same_new np
  have hp4 : upd H3 p (.lst (refT ys2)) p = some (.lst (refT ys2)) := upd_same
  generalize upd H3 p (.lst (refT ys2)) = H4 at s34 hp4 ⊢
  have s4 := s3.trans s34
  have hy2l : ys2.length ≤ 1000 := by
    rw [pm.length_eq]
    have e := congrArg List.length em
    rw [List.length_map, List.length_map, List.length_range] at e
    omega
  -- order
  refine ⟨(by show 1 ≤ sizeLine; decide), fun o no => ?_⟩
  have s45 := s34.trans (same_new (o := .lst [.int 0]) no)
  have s05 := same_new (o := .lst [.int 0]) no
  have ho5 : upd H4 o (.lst [.int 0]) o = some (.lst [.int 0]) := upd_same
  generalize upd H4 o (.lst [.int 0]) = H5 at s45 s05 ho5 ⊢
  refine ⟨.ref p, rfl, p, rfl, ⟨_, SqL.of (s05 _ _ hp4)⟩, fun D2 hD2 => lc_list (K := K) (a := p) (xs := refT ys2) (fun i H6 => Same H5 H6 ∧ H6 D2 = some (ilst ((ys2.take i).map fun z : Addr × Int × Int => z.2.2))) ⟨same_new hD2, upd_same⟩ (fun i H6 _ h => SqL.of (h.1 _ _ (s05 _ _ hp4))) ?_ ?_⟩
  · rintro i x H6 hi ⟨s6, h6⟩
    obtain ⟨z, hz, hzm, rfl⟩ := refT_get hi
    have hil := (List.getElem?_eq_some_iff.mp hz).1
    refine ⟨rfl, yes_then ⟨_, rfl, z.1, _, 1, _, rfl, rfl, SqT.of (s6 _ _ (s45 _ _ (hT2 z hzm))), rfl, _, h6, small1000 (by rw [List.length_map, List.length_map, List.length_take]; omega), same_mut s6 hD2, ?_⟩⟩
    rw [upd_same, List.take_add_one, hz, List.map_append]
    unfold ilst
    rw [List.map_append]
    rfl
  rintro H6 ⟨s6, h6⟩
  have hrt : (refT ys2).length = ys2.length := List.length_map ..
  rw [hrt, List.take_length] at h6
  obtain ⟨ks, hks⟩ : ∃ ks : List Int, ks = ys2.map fun z : Addr × Int × Int => z.2.2 := ⟨_, rfl⟩
  rw [← hks] at h6
  have hkp : ks.Perm ((List.range (zs.length - 1)).map fun j : Nat => ((j + 1 : Nat) : Int)) := by
    rw [hks]
    refine (pm.map (fun z : Addr × Int × Int => z.2.2)).trans ?_
    have e : ((zs.length : Int) - 1).toNat = zs.length - 1 := by omega
    rw [e] at em
    rw [em]
  have hkl : ks.length ≤ 1000 := by
    rw [hks, List.length_map]
    exact hy2l
  refine ⟨o, D2, _, _, rfl, rfl, s6 _ _ ho5, h6, ?_, fun od nod => ?_⟩
  · rw [List.length_map]
    exact Nat.le_trans (show 1 + ks.length ≤ 1001 by omega) (by decide)
  have hk0 : ∀ x ∈ ks, 0 ≤ x := fun x hx => by
    obtain ⟨j, _, e⟩ := List.mem_map.mp (hkp.mem_iff.mp hx)
    omega
  obtain ⟨od2, hod2⟩ : ∃ od2 : List Nat, od2 = 0 :: ks.map Int.toNat := ⟨_, rfl⟩
  have ekn : nmap (ks.map Int.toNat) = ks := by
    unfold nmap
    rw [List.map_map]
    have : ∀ l : List Int, (∀ x ∈ l, 0 ≤ x) → l.map ((fun f : Nat => (f : Int)) ∘ Int.toNat) = l := fun l => by
      induction l with
      | nil => exact fun _ => rfl
      | cons x l ih =>
        intro h
        rw [List.map_cons, ih fun y hy => h y (List.mem_cons_of_mem _ hy)]
        show ((x.toNat : Nat) : Int) :: l = x :: l
        rw [Int.toNat_of_nonneg (h x (List.mem_cons_self ..))]
    exact this ks hk0
  have eod : (V.int 0 :: ks.map V.int) = (nmap od2).map V.int := by
    rw [hod2]
    show _ = V.int 0 :: (nmap (ks.map Int.toNat)).map V.int
    rw [ekn]
  have hop : od2.Perm (List.range zs.length) := by
    have e1 : zs.length = (zs.length - 1) + 1 := by omega
    rw [hod2, e1, List.range_succ_eq_map]
    refine List.Perm.cons 0 ?_
    have h2 := hkp.map Int.toNat
    rw [List.map_map] at h2
    exact h2
  have hol : od2.length = zs.length := by rw [hop.length_eq, List.length_range]
  have hond : od2.Nodup := hop.nodup_iff.mpr List.nodup_range
  have homem : ∀ v, v ∈ od2 ↔ v < zs.length := fun v => by rw [hop.mem_iff, List.mem_range]
  have h00 : od2[0]? = some 0 := by rw [hod2]; rfl
  have s7 := (s4.trans (s05.trans s6)).trans (same_new (o := .lst ([V.int 0] ++ ks.map V.int)) nod)
  have hod7 : upd H6 od (.lst ([V.int 0] ++ ks.map V.int)) od = some (ilst (nmap od2)) := by
    rw [upd_same]
    show some (HO.lst (V.int 0 :: ks.map V.int)) = _
    rw [eod]
  generalize upd H6 od (.lst ([V.int 0] ++ ks.map V.int)) = H7 at s7 hod7 ⊢
  -- rows
  refine ⟨Nat.zero_le _, fun l nl => ?_⟩
  have nlH : H l = none := s7.free nl
  have s8 := s7.trans (same_new (o := .lst []) nl)
  have hod8 := same_new (o := .lst []) nl _ _ hod7
  have hl8 : upd H7 l (.lst []) l = some (.lst (refR [])) := upd_same
  have hlod : l ≠ od := (ne_of_none hod7 nl).symm
  generalize upd H7 l (.lst []) = H8 at s8 hod8 hl8 ⊢
  have enl : ((nmap od2).map V.int).length = od2.length := by
    unfold nmap
    rw [List.length_map, List.length_map]
  have sBut : ∀ {H9 : Hp}, But l H8 H9 → Same H H9 := fun b c o e => b c o (fun e2 => by rw [e2, nlH] at e; cases e) (s8 _ _ e)
  refine ⟨.ref od, rfl, od, rfl, ⟨_, SqL.of hod8⟩, for_list (K := K) (a := od) (xs := (nmap od2).map V.int) (fun i σ H9 => But l H8 H9 ∧ (∃ rs : Rx, H9 l = some (.lst (refR rs)) ∧ RwOk H9 rs ∧ rs.length = i ∧ (∀ z ∈ rs, NameOk z.2.2.1 ∧ 1 ≤ z.2.2.2.1) ∧
      ∀ (k v : Nat) (z : Addr × Addr × Rw), od2[k]? = some v → rs[k]? = some z → ∃ m, (cts zs)[v]? = some m ∧ z.2.2.2.2.length = m.length ∧ ∀ t : Int, t ∈ z.2.2.2.2 ↔ (t = -1 ∧ (-1 : Int) ∈ m) ∨ ∃ j u : Nat, t = (j : Int) ∧ od2[j]? = some u ∧ (u : Int) ∈ m) ∧
      ∃ y6 y7 y8 y9 y10, σ = [some (.ref a), some (.ref r), some (.int (zs.length : Nat)), some (.ref p), some (.ref od), some (.ref l), y6, y7, y8, y9, y10, none, none])
    ⟨But.refl, ⟨[], hl8, fun z hz => (nomatch hz), rfl, fun z hz => (nomatch hz), fun k v z _ hz => by simp at hz⟩, none, none, none, none, none, rfl⟩ (fun i σ H9 _ h => SqL.of (h.1 _ _ hlod.symm hod8)) ?_ ?_⟩
  · rintro i x H0σ H9 hi ⟨b9, ⟨rs, hl9, hrw, hrl, hnm, hrel⟩, y6, y7, y8, y9, y10, rfl⟩
    obtain ⟨c, hc, rfl⟩ := map_get hi
    obtain ⟨v, hv, rfl⟩ : ∃ v, od2[i]? = some v ∧ c = (v : Int) := by
      unfold nmap at hc
      rw [List.getElem?_map] at hc
      obtain ⟨k, h1, h2⟩ := Option.map_eq_some_iff.mp hc
      exact ⟨k, h1, h2.symm⟩
    have hvn : v < zs.length := (homem v).mp (List.mem_of_getElem? hv)
    have hz : zs[v]? = some zs[v] := List.getElem?_eq_getElem hvn
    have hzm : zs[v] ∈ zs := List.getElem_mem hvn
    generalize zs[v] = z at hz hzm
    obtain ⟨r1, r2, r3⟩ := hG.rows z.2 (List.mem_of_getElem? (cts_get hz))
    have s9 := sBut b9
    have hZ : ∀ {H10 : Hp}, Same H9 H10 → SqL K H10 z.1 (z.2.map V.int) := fun s => (s9.trans s).seq (hL z hzm)
    have hA9 : ∀ {H10 : Hp}, Same H9 H10 → SqL K H10 a (refL zs) := fun s => (s9.trans s).seq hA
    have hR9 : ∀ {H10 : Hp}, Same H9 H10 → SqL K H10 r (ds.map V.int) := fun s => (s9.trans s).seq hR
    obtain ⟨x1, x10, hx1⟩ := gd (zs.length + v) (by omega)
    obtain ⟨x2, x20, hx2⟩ := gd (2 * zs.length + v) (by omega)
    obtain ⟨x3, x30, hx3⟩ := gd v (by omega)
    have a1 : atI (ds.map V.int) ((zs.length : Int) + (v : Int)) = some (.int x1) := atIe hx1 (by omega)
    have a2 : atI (ds.map V.int) (2 * (zs.length : Int) + (v : Int)) = some (.int x2) := atIe hx2 (by omega)
    have hm1 := Int.emod_nonneg x1 (show (((z.2.map V.int).length : Nat) : Int) ≠ 0 by rw [List.length_map]; omega)
    have hm2 := Int.emod_lt_of_pos x1 (show (0 : Int) < (((z.2.map V.int).length : Nat) : Int) by rw [List.length_map]; omega)
    obtain ⟨tn, htn⟩ : ∃ tn : Nat, x1 % (((z.2.map V.int).length : Nat) : Int) = tn := ⟨(x1 % (((z.2.map V.int).length : Nat) : Int)).toNat, by omega⟩
    have htl : tn < z.2.length := by
      rw [List.length_map] at htn hm2
      omega
    refine ⟨.ref r, rfl, _, rfl, _, rfl, _, _, rfl, rfl, r, _, _, _, rfl, rfl, hR9 (Same.refl _), a1, .inl ⟨_, rfl, _, rfl, _, rfl, a, _, _, _, rfl, rfl, hA9 (Same.refl _), atI_nat (get_refL hz), z.1, _, rfl, .inl (hZ (Same.refl _)), _, _, rfl, rfl, (by rw [List.length_map]; omega), ?_⟩⟩
    dsimp only
    rw [htn]
    refine ⟨_, rfl, _, rfl, a, _, _, _, rfl, rfl, hA9 (Same.refl _), atI_nat (get_refL hz), _, rfl, _, rfl, z.1, _, rfl, hZ (Same.refl _), fun p1 np1 => ?_⟩
    have t1 := same_new (o := .lst (cutV (z.2.map V.int) (some (tn : Int)) none)) np1
    refine ⟨_, rfl, _, rfl, a, _, _, _, rfl, rfl, hA9 t1, atI_nat (get_refL hz), _, rfl, _, rfl, z.1, _, rfl, hZ t1, fun p2 np2 => ?_⟩
    have t2 := t1.trans (same_new (o := .lst (cutV (z.2.map V.int) none (some (tn : Int)))) np2)
    have hc1 : cutV (z.2.map V.int) (some (tn : Int)) none = (z.2.drop tn).map V.int := by
      rw [cutV_map, HT.sIx_nat, HT.sIx_none, Nat.min_eq_left (by omega), List.take_of_length_le (by rw [List.length_drop]; omega)]
    have hc2 : cutV (z.2.map V.int) none (some (tn : Int)) = (z.2.take tn).map V.int := by
      rw [cutV_map, HT.sIx_nat, HT.sIx_none, Nat.min_eq_left (by omega), List.drop_zero, Nat.sub_zero]
    refine ⟨p1, p2, _, _, rfl, rfl, same_new np2 _ _ upd_same, upd_same, ?_, fun p3 np3 => ?_⟩
    · rw [hc1, hc2, List.length_map, List.length_map, List.length_drop, List.length_take]
      exact Nat.le_trans (show z.2.length - tn + min tn z.2.length ≤ 4 by omega) (by decide)
    have et : cutV (z.2.map V.int) (some (tn : Int)) none ++ cutV (z.2.map V.int) none (some (tn : Int)) = (z.2.drop tn ++ z.2.take tn).map V.int := by
      rw [hc1, hc2, List.map_append]
    rw [et]
    have t3 := t2.trans (same_new (o := .lst ((z.2.drop tn ++ z.2.take tn).map V.int)) np3)
    have hp3 : upd (upd (upd H9 p1 (.lst (cutV (z.2.map V.int) (some (tn : Int)) none))) p2 (.lst (cutV (z.2.map V.int) none (some (tn : Int))))) p3 (.lst ((z.2.drop tn ++ z.2.take tn).map V.int)) p3 = some (ilst (z.2.drop tn ++ z.2.take tn)) := upd_same
    generalize upd (upd (upd H9 p1 (.lst (cutV (z.2.map V.int) (some (tn : Int)) none))) p2 (.lst (cutV (z.2.map V.int) none (some (tn : Int))))) p3 (.lst ((z.2.drop tn ++ z.2.take tn).map V.int)) = H10 at t3 hp3 ⊢
    obtain ⟨tl, htl2⟩ : ∃ tl, tl = z.2.drop tn ++ z.2.take tn := ⟨_, rfl⟩
    rw [← htl2] at hp3
    have htll : tl.length = z.2.length := by
      rw [htl2, List.length_append, List.length_drop, List.length_take]
      omega
    have htlm : ∀ t, t ∈ tl ↔ t ∈ z.2 := fun t => by
      rw [htl2, List.mem_append]
      constructor
      · rintro (h | h)
        · exact List.mem_of_mem_drop h
        · exact List.mem_of_mem_take h
      · intro h
        have h2 : t ∈ z.2.take tn ++ z.2.drop tn := by rw [List.take_append_drop]; exact h
        exact (List.mem_append.mp h2).symm
    refine ⟨Nat.zero_le _, fun nm nnm => ?_⟩
    have t4 := t3.trans (same_new (o := .lst []) nnm)
    have hp3' := same_new (o := .lst []) nnm _ _ hp3
    have hnm4 : upd H10 nm (.lst []) nm = some (ilst []) := upd_same
    have nnm9 : H9 nm = none := t3.free nnm
    have hnm3 : p3 ≠ nm := ne_of_none hp3 nnm
    generalize upd H10 nm (.lst []) = H11 at t4 hp3' hnm4 ⊢
    have hod9 : H9 od = some (ilst (nmap od2)) := b9 _ _ hlod.symm hod8
    refine ⟨.ref p3, rfl, p3, rfl, ⟨_, SqL.of hp3'⟩, for_list (K := K) (a := p3) (xs := tl.map V.int) (fun j σ H12 => Same H9 H12 ∧ H12 p3 = some (ilst tl) ∧ (∃ cs : List Int, H12 nm = some (ilst cs) ∧ cs.length = j ∧ ∀ (k : Nat) (t t2 : Int), tl[k]? = some t → cs[k]? = some t2 → (t = -1 ∧ t2 = -1) ∨ ∃ u k2 : Nat, t = (u : Int) ∧ t2 = (k2 : Int) ∧ od2[k2]? = some u) ∧
        ∃ y10, σ = [some (.ref a), some (.ref r), some (.int (zs.length : Nat)), some (.ref p), some (.ref od), some (.ref l), some (.int (v : Int)), some (.int (tn : Int)), some (.ref p3), some (.ref nm), y10, none, none])
      ⟨t4, hp3', ⟨[], hnm4, rfl, fun k t t2 _ h => by simp at h⟩, y10, rfl⟩ (fun j σ H12 _ h => SqL.of h.2.1) ?_ ?_⟩
    · rintro j x H1σ H12 hj ⟨s12, hp12, ⟨cs, hcs, hcl, hcr⟩, y10, rfl⟩
      obtain ⟨t, ht, rfl⟩ := map_get hj
      have hjl := (List.getElem?_eq_some_iff.mp ht).1
      have hsm : (cs.map V.int).length < sizeLine := by
        rw [List.length_map]
        exact small1000 (by omega)
      have htr := r3 t ((htlm t).mp (List.mem_of_getElem? ht))
      have step : ∀ t2 : Int, ((t = -1 ∧ t2 = -1) ∨ ∃ u k2 : Nat, t = (u : Int) ∧ t2 = (k2 : Int) ∧ od2[k2]? = some u) → Same H9 (upd H12 nm (.lst (cs.map V.int ++ [.int t2]))) ∧ upd H12 nm (.lst (cs.map V.int ++ [.int t2])) p3 = some (ilst tl) ∧ ∃ cs2 : List Int, upd H12 nm (.lst (cs.map V.int ++ [.int t2])) nm = some (ilst cs2) ∧ cs2.length = j + 1 ∧ ∀ (k : Nat) (t t2 : Int), tl[k]? = some t → cs2[k]? = some t2 → (t = -1 ∧ t2 = -1) ∨ ∃ u k2 : Nat, t = (u : Int) ∧ t2 = (k2 : Int) ∧ od2[k2]? = some u := fun t2 h2 => by
        refine ⟨same_mut s12 nnm9, by rw [upd_ne hnm3]; exact hp12, cs ++ [t2], ?_, by rw [List.length_append, hcl]; rfl, fun k t' t2' hk hk2 => ?_⟩
        · rw [upd_same]
          unfold ilst
          rw [List.map_append]
          rfl
        · by_cases hkj : k < j
          · rw [List.getElem?_append_left (by omega)] at hk2
            exact hcr k t' t2' hk hk2
          · have hk3 := (List.getElem?_eq_some_iff.mp hk2).1
            rw [List.length_append] at hk3
            have ek : k = j := by
              have : k < cs.length + 1 := hk3
              omega
            rw [ek] at hk hk2
            rw [ht] at hk
            rw [← hcl, List.getElem?_concat_length] at hk2
            rw [← Option.some.inj hk, ← Option.some.inj hk2]
            exact h2
      refine ⟨_, rfl, _, _, rfl, rfl, _, rfl, if2 (fun e => ?_) (fun e => ?_)⟩
      · have et1 : t = -1 := by omega
        obtain ⟨q1, q2, q3⟩ := step (-1) (.inl ⟨et1, rfl⟩)
        exact ⟨.ref nm, rfl, .inl ⟨rfl, _, SqL.of hcs⟩, 1, rfl, nm, _, _, rfl, rfl, hcs, hsm, q1, q2, q3, _, rfl⟩
      · obtain ⟨u, rfl⟩ : ∃ u : Nat, t = u := ⟨t.toNat, by omega⟩
        have hu : u ∈ od2 := (homem u).mpr (by
          have : (u : Int) < (cts zs).length := by omega
          rw [hgl] at this
          omega)
        obtain ⟨k2, hk2, e2⟩ := List.mem_iff_getElem.mp hu
        have hk3 : od2[k2]? = some u := by rw [List.getElem?_eq_getElem hk2, e2]
        obtain ⟨q1, q2, q3⟩ := step (k2 : Int) (.inr ⟨u, k2, rfl, rfl, hk3⟩)
        refine ⟨.ref nm, rfl, .inl ⟨rfl, _, SqL.of hcs⟩, .ref od, rfl, .inl ⟨rfl, _, SqL.of (s12 _ _ hod9)⟩, _, rfl, od, _, _, k2, _, rfl, rfl, SqL.of (s12 _ _ hod9), rfl, flat_ints _, nmap_get hk3, ?_, fun m z' hm hz' => ?_, nm, _, _, rfl, rfl, hcs, hsm, q1, q2, q3, _, rfl⟩
        · rw [eqV_int]
          exact decide_eq_true rfl
        · obtain ⟨c', hc', rfl⟩ := map_get hz'
          unfold nmap at hc'
          rw [List.getElem?_map] at hc'
          obtain ⟨w, hw, rfl⟩ := Option.map_eq_some_iff.mp hc'
          rw [eqV_int]
          refine decide_eq_false fun e => ?_
          have ew : w = u := by omega
          rw [ew] at hw
          have e1 := List.getElem?_eq_some_iff.mp hw
          have e3 := List.getElem?_eq_some_iff.mp hk3
          have := (List.getElem_inj hond (h₀ := e1.1) (h₁ := e3.1)).mp (e1.2.trans e3.2.symm)
          omega
    · rintro H1σ H12 ⟨s12, hp12, ⟨cs, hcs, hcl, hcr⟩, y10, rfl⟩
      rw [List.length_map] at hcl
      have hl12 : H12 l = some (.lst (refR rs)) := s12 _ _ hl9
      refine ⟨.ref l, rfl, .inl ⟨rfl, _, SqL.of hl12⟩, .ref r, rfl, _, rfl, _, _, rfl, rfl, .inl ⟨by decide, by decide⟩, _, rfl, _, _, rfl, rfl, r, _, _, _, rfl, rfl, hR9 s12, a2, x2, rfl, x20, fun H13 w s13 hw => ?_⟩
      have s913 := s12.trans s13
      refine ⟨.ref r, rfl, _, rfl, r, _, _, _, rfl, rfl, hR9 s913, atI_nat hx3, x3, rfl, x30, fun pr hpr => ?_⟩
      refine ⟨.ref nm, rfl, nm, _, rfl, .inl ⟨SqL.of (s13 _ _ hcs), fun tt ntt => ⟨(by show 3 ≤ sizeLine; decide), fun t nt => ?_⟩⟩⟩
      have s14 := (same_new (o := .tup (cs.map V.int)) ntt).trans (same_new (o := .tup [.str w, .int pr, .ref tt]) nt)
      have s914 := s913.trans s14
      have hl14 := s14 _ _ (s13 _ _ hl12)
      have hel : ∀ (c : Addr) (xs : List V), upd (upd H13 tt (.tup (cs.map V.int))) t (.tup [.str w, .int pr, .ref tt]) c = some (.tup xs) → upd (upd (upd H13 tt (.tup (cs.map V.int))) t (.tup [.str w, .int pr, .ref tt])) l (.lst (refR rs ++ [.ref t])) c = some (.tup xs) := fun c xs h => by
        rw [upd_ne (ne_of h hl14 (fun e => nomatch e))]
        exact h
      refine ⟨l, _, _, rfl, rfl, hl14, small1000 (by unfold refR; rw [List.length_map]; have := (List.getElem?_eq_some_iff.mp hv).1; omega), fun c o n e => ?_, ⟨rs ++ [(t, tt, w, pr, cs)], ?_, fun z' hz' => ?_, by rw [List.length_append, hrl]; rfl, fun z' hz' => ?_, fun k v' z' hv' hz' => ?_⟩, _, _, _, _, _, rfl⟩
      · rw [upd_ne n]
        exact s914 _ _ (b9 c o n e)
      · rw [upd_same]
        unfold refR
        rw [List.map_append]
        rfl
      · rcases List.mem_append.mp hz' with hz' | hz'
        · exact ⟨hel _ _ (s914 _ _ (hrw z' hz').1), hel _ _ (s914 _ _ (hrw z' hz').2)⟩
        · rw [List.mem_singleton.mp hz']
          exact ⟨hel _ _ upd_same, hel _ _ (same_new nt _ _ upd_same)⟩
      · rcases List.mem_append.mp hz' with hz' | hz'
        · exact hnm z' hz'
        · rw [List.mem_singleton.mp hz']
          exact ⟨hw, hpr⟩
      · by_cases hk : k < rs.length
        · rw [List.getElem?_append_left hk] at hz'
          exact hrel k v' z' hv' hz'
        · have hk3 := (List.getElem?_eq_some_iff.mp hz').1
          rw [List.length_append] at hk3
          have ek : k = i := by
            have : k < rs.length + 1 := hk3
            omega
          rw [ek] at hv' hz'
          rw [hv] at hv'
          rw [← hrl, List.getElem?_concat_length] at hz'
          rw [← Option.some.inj hv', ← Option.some.inj hz']
          refine ⟨z.2, cts_get hz, by show cs.length = _; omega, fun t' => ⟨fun h => ?_, fun h => ?_⟩⟩
          · obtain ⟨k4, hk4, e4⟩ := List.mem_iff_getElem.mp (show t' ∈ cs from h)
            have hk5 : tl[k4]? = some tl[k4] := List.getElem?_eq_getElem (by omega)
            have hm5 := (htlm _).mp (List.getElem_mem (show k4 < tl.length by omega))
            rcases hcr k4 _ _ hk5 (List.getElem?_eq_getElem hk4) with ⟨h5, h6⟩ | ⟨u, k2, h5, h6, h7⟩
            · rw [h5] at hm5
              exact .inl ⟨by rw [← e4]; exact h6, hm5⟩
            · rw [h5] at hm5
              exact .inr ⟨k2, u, by rw [← e4]; exact h6, h7, hm5⟩
          · have hget : ∀ t0 : Int, t0 ∈ z.2 → ∃ k4, tl[k4]? = some t0 ∧ ∃ t2, cs[k4]? = some t2 ∧ t2 ∈ cs := fun t0 h0 => by
              obtain ⟨k4, hk4, e4⟩ := List.mem_iff_getElem.mp ((htlm t0).mpr h0)
              exact ⟨k4, by rw [List.getElem?_eq_getElem hk4, e4], _, List.getElem?_eq_getElem (by omega), List.getElem_mem (by omega)⟩
            rcases h with ⟨h5, h6⟩ | ⟨k2, u, h5, h6, h7⟩
            · obtain ⟨k4, h8, t2, h9, h10⟩ := hget _ h6
              rcases hcr k4 _ _ h8 h9 with ⟨_, h11⟩ | ⟨u, k2, h11, _⟩
              · rw [h5, ← h11]
                exact h10
              · omega
            · obtain ⟨k4, h8, t2, h9, h10⟩ := hget _ h7
              rcases hcr k4 _ _ h8 h9 with ⟨h11, _⟩ | ⟨u2, k3, h11, h12, h13⟩
              · omega
              · have eu : u2 = u := by omega
                rw [eu] at h13
                have e1 := List.getElem?_eq_some_iff.mp h13
                have e3 := List.getElem?_eq_some_iff.mp h6
                have ek2 := (List.getElem_inj hond (h₀ := e1.1) (h₁ := e3.1)).mp (e1.2.trans e3.2.symm)
                rw [h5, ← ek2, ← h12]
                exact h10
  · rintro H0σ H9 ⟨b9, ⟨rs, hl9, hrw, hrl, hnm, hrel⟩, y6, y7, y8, y9, y10, rfl⟩
    rw [enl, hol] at hrl
    refine ⟨_, rfl, q H9 l rs (sBut b9) nlH hl9 hrw ⟨by omega, ?_, hnm⟩ hrl⟩
    refine hG.number (od := od2) (by omega) hond (fun v hv => (homem v).mpr (by omega)) h00 (by rw [sxr_len]; omega) fun i v l2 hv hl2 => ?_
    obtain ⟨z, hz, e⟩ := sxr_get hl2
    rw [← e]
    exact hrel i v z hv hz
end
end K34

namespace K34
open PySem PySem.Spec PyProof.Rows L2 Fw Lay
section
variable {P : Program} {w : World} {K : PySem.W.Frag} {mg : Str → Option Value} {base : Heap}
/-- the heap without the list of lists -/
def hide (H : Hp) (a : Addr) (zs : Ws) : Hp := fun c => if c = a ∨ c ∈ zs.map (fun z : Addr × List Int => z.1) then none else H c
theorem hide_none {H : Hp} {a : Addr} {zs : Ws} {c : Addr} (h : hide H a zs c = none) : c = a ∨ c ∈ zs.map (fun z : Addr × List Int => z.1) ∨ H c = none := by
  unfold hide at h
  split at h
  · rename_i e
    rcases e with e | e
    · exact .inl e
    · exact .inr (.inl e)
  · exact .inr (.inr h)
theorem hide_some {H : Hp} {a : Addr} {zs : Ws} {c : Addr} {o : HO} (h1 : c ≠ a) (h2 : ∀ z ∈ zs, z.1 ≠ c) (h : H c = some o) : hide H a zs c = some o := by
  unfold hide
  rw [if_neg]
  · exact h
  · rintro (e | e)
    · exact h1 e
    · obtain ⟨z, hz, e2⟩ := List.mem_map.mp e
      exact h2 z hz e2
theorem nx_hide {H1 H : Hp} {a : Addr} {zs : Ws} (h : NxIn H1 H a zs) : NxIn (hide H a zs) H a zs := by
  refine ⟨fun c o e => ?_, ?_, h.at_, fun z hz => ⟨?_, (h.els z hz).2⟩, h.nd⟩
  · unfold hide at e
    split at e
    · cases e
    · exact e
  · unfold hide
    rw [if_pos (.inl rfl)]
  · unfold hide
    rw [if_pos (.inr (List.mem_map_of_mem (f := fun z : Addr × List Int => z.1) hz))]
theorem nx_kept {H1 H : Hp} {a c : Addr} {zs : Ws} {o : HO} (h : NxIn H1 H a zs) (e : H1 c = some o) : hide H a zs c = some o :=
  hide_some (fun e2 => by rw [e2, h.new] at e; cases e) (fun z hz e2 => by rw [← e2, (h.els z hz).1] at e; cases e) (h.same _ _ e)
theorem nx_rebase {H1 H H2 : Hp} {a : Addr} {zs zs2 : Ws} (h : NxIn H1 H a zs) (h2 : NxIn (hide H a zs) H2 a zs2) : NxIn H1 H2 a zs2 := by
  refine ⟨fun c o e => h2.same _ _ (nx_kept h e), h.new, h2.at_, fun z hz => ⟨?_, (h2.els z hz).2⟩, h2.nd⟩
  rcases hide_none (h2.els z hz).1 with e | e | e
  · rw [e]
    exact h.new
  · obtain ⟨w, hw, e2⟩ := List.mem_map.mp e
    rw [← e2]
    exact (h.els w hw).1
  · exact h.same.free e
/-- a list beside it -/
structure Bes (H1 H : Hp) (a s : Addr) (zs : Ws) (ss : List Nat) : Prop where
  new : H1 s = none
  ne : s ≠ a
  els : ∀ z ∈ zs, z.1 ≠ s
  at_ : H s = some (ilst (nmap ss))
theorem Bes.hid {H1 H : Hp} {a s : Addr} {zs : Ws} {ss : List Nat} (h : Bes H1 H a s zs ss) : hide H a zs s = some (ilst (nmap ss)) := hide_some h.ne h.els h.at_
theorem Bes.next {H1 H H2 : Hp} {a s : Addr} {zs zs2 : Ws} {ss : List Nat} (h : Bes H1 H a s zs ss) (h2 : NxIn (hide H a zs) H2 a zs2) : Bes H1 H2 a s zs2 ss :=
  ⟨h.new, h.ne, fun z hz e => (by
    have h3 := (h2.els z hz).1
    rw [e, h.hid] at h3
    cases h3), h2.same _ _ h.hid⟩
theorem ok_l_tame (T : Txt K mg) : Good P w K mg base 3 (He.ga K "_law_tame") ["_law_cell_here", "_law_blocks"] [] (sp_l_tame K) := by
  refine good_of T.f_l_tame sc_l_tame (fun vs H Q E h => ?_) (fun _ _ _ _ _ _ us hl => match us, hl with | [_, _], _ => rfl) (fun cdv A outer s H vs Q E hr h => ?_)
  · obtain ⟨_, _, rfl, _⟩ := h
    rfl
  refine ⟨_, (pss_cons (ps_set (i := 2) sc_l_tame.nd rfl (Or.inl rfl) (pe_cg (ok_l_digits T) (hr.mono (j := 1) (by decide)) (by rfl) T.g_l_digits (pa_cons (pv 0) (pa_cons pe_int (pa_cons pe_int pa_nil)))))
  (pss_cons (ps_set (i := 3) sc_l_tame.nd rfl (Or.inl rfl) (pe_lst pa_nil))
  (pss_cons (ps_set (i := 4) sc_l_tame.nd rfl (Or.inl rfl) (pe_lst pa_nil))
  (pss_cons (ps_for PassesOwn.never rfl (pi_range1 (by rfl) T.z_range (pa_cons (pe_op op_add pe_int (pe_op op_mod (pe_callTy call_int1 (by rfl) T.z_int (by decide +kernel) (pa_cons (pe_ix ix_list (pv 2) pe_int (fun _ _ => rfl)) pa_nil)) (pe_op op_add (pv 1) pe_int))) pa_nil)) (pg_name (i := 5) sc_l_tame.nd rfl (Or.inl rfl))
    (pss_one (ps_expr (pe_bm PySem.F.plainAttrs_list PySem.F.slot_list_append PySem.F.type_list_append mt_append (pv 4) (pa_cons (pe_cg (ok_l_block T) (hr.mono (j := 2) (by decide)) (by rfl) T.g_l_block (pa_cons (pv 3) (pa_cons (pe_ix ix_list (pv 2) (pe_op op_add pe_int (pv 5)) (fun _ _ => rfl)) (pa_cons (pv 2) (pa_cons (pe_op op_add pe_int (pe_op op_mul pe_int (pv 5))) pa_nil))))) pa_nil)))))
  (pss_cons (ps_for PassesOwn.never rfl (pi_range1 (by rfl) T.z_range (pa_cons (pe_op op_mod (pe_callTy call_int1 (by rfl) T.z_int (by decide +kernel) (pa_cons (pe_op op_fdiv (pe_ix ix_list (pv 2) pe_int (fun _ _ => rfl)) pe_int) pa_nil)) pe_int) pa_nil)) (pg_name (i := 6) sc_l_tame.nd rfl (Or.inl rfl))
    (pss_cons (ps_set (i := 7) sc_l_tame.nd rfl (Or.inl rfl) (pe_op op_mod (pe_callTy call_int1 (by rfl) T.z_int (by decide +kernel) (pa_cons (pe_ix ix_list (pv 2) (pe_op op_add pe_int (pv 6)) (fun _ _ => rfl)) pa_nil)) (pe_callB call_len_seq (by rfl) T.z_len (by decide +kernel) (pa_cons (pv 3) pa_nil))))
  (pss_one (ps_if (pt_cmpR op_lt (pe_callB call_len_seq (by rfl) T.z_len (by decide +kernel) (pa_cons (pe_ix ix_list (pv 3) (pv 7) (fun _ _ => rfl)) pa_nil)) pe_int (nomark _))
    (pss_one (ps_expr (pe_bm PySem.F.plainAttrs_list PySem.F.slot_list_append PySem.F.type_list_append mt_append (pe_ix ix_list (pv 3) (pv 7) (fun _ _ => rfl)) (pa_cons (pe_un un_neg pe_int) pa_nil))))
    pss_nil))))
  (pss_cons (ps_set (i := 8) sc_l_tame.nd rfl (Or.inl rfl) pe_int)
  (pss_cons (ps_for PassesOwn.never rfl (pi_range1 (by rfl) T.z_range (pa_cons (pe_callB call_len_seq (by rfl) T.z_len (by decide +kernel) (pa_cons (pv 4) pa_nil)) pa_nil)) (pg_name (i := 5) sc_l_tame.nd rfl (Or.inl rfl))
    (pss_cons (ps_expr (pe_cg (ok_l_exit T) (hr.mono (j := 2) (by decide)) (by rfl) T.g_l_exit (pa_cons (pv 3) (pa_cons (pv 8) (pa_cons (pe_ix ix_list (pv 4) (pv 5) (fun _ _ => rfl)) (pa_cons (pe_ix ix_list (pv 2) (pe_op op_add pe_int (pv 5)) (fun _ _ => rfl)) pa_nil))))))
  (pss_one (ps_set (i := 8) sc_l_tame.nd rfl (Or.inl rfl) (pe_op op_add (pv 8) (pe_ix ix_list (pv 4) (pv 5) (fun _ _ => rfl)))))))
  (pss_one (ps_ret (pe_cg (ok_l_numbered T) (hr.mono (j := 2) (by decide)) (by rfl) T.g_l_numbered (pa_cons (pv 3) (pa_cons (pe_cg (ok_l_digits T) (hr.mono (j := 1) (by decide)) (by rfl) T.g_l_digits (pa_cons (pe_op op_add (pv 0) pe_int) (pa_cons (pe_op op_mul pe_int (pe_callB call_len_seq (by rfl) T.z_len (by decide +kernel) (pa_cons (pv 3) pa_nil))) (pa_cons pe_int pa_nil)))) pa_nil)))))))))))), ?_⟩
  obtain ⟨c, B, rfl, c0, hB, q⟩ := h
  refine ⟨_, rfl, c, _, 64, rfl, c0, by omega, by decide, by decide, fun H1 rp ds s1 nr hr len bd => ?_⟩
  have gd : ∀ j : Nat, j < 64 → ∃ d, 0 ≤ d ∧ (ds.map V.int)[j]? = some (.int d) := fun j hj => by
    have hj2 : j < ds.length := by omega
    exact ⟨_, (bd _ (List.getElem_mem hj2)).1, get_map (List.getElem?_eq_getElem hj2)⟩
  have hds : ∀ x ∈ ds, 0 ≤ x := fun x hx => (bd x hx).1
  obtain ⟨e0, b0, g0⟩ := gd 0 (by omega)
  have hR : ∀ {H2 : Hp}, Same H1 H2 → SqL K H2 rp (ds.map V.int) := fun s => SqL.of (s _ _ hr)
  refine ⟨Nat.zero_le _, fun a na => ⟨Nat.zero_le _, fun sz nsz => ?_⟩⟩
  have hN0 : NxIn H1 (upd H1 a (.lst [])) a [] := ⟨same_new na, na, upd_same, fun z hz => (nomatch hz), List.nodup_nil⟩
  have hN1 := hN0.alloc (o := .lst []) nsz
  have hB1 : Bes H1 (upd (upd H1 a (.lst [])) sz (.lst [])) a sz [] [] := ⟨(same_new na).free nsz, (ne_of_none upd_same nsz).symm, fun z hz => (nomatch hz), upd_same⟩
  generalize upd (upd H1 a (.lst [])) sz (.lst []) = H2 at hN1 hB1 ⊢
  have hm1 := Int.emod_nonneg e0 (show ((B : Int) + 1) ≠ 0 by omega)
  have hm2 := Int.emod_lt_of_pos e0 (show (0 : Int) < (B : Int) + 1 by omega)
  -- blocks
  refine ⟨.ref rp, rfl, rp, _, 0, _, rfl, rfl, hR hN1.same, atI_nat (j := 0) g0, .inl ⟨_, rfl, _, rfl, _, _, rfl, rfl, _, _, rfl, rfl, by omega, _, _, rfl, rfl, _, rfl, by omega, by omega, for_range (n := (1 + e0 % ((B : Int) + 1)).toNat) (fun i σ H5 => (∃ (zs : Ws) (ss : List Nat), NxIn H1 H5 a zs ∧ Bes H1 H5 a sz zs ss ∧ ss.length = i ∧ TI (cts zs) ss ∧ (0 < zs.length → ∃ l ∈ cts zs, l.length < 4) ∧ zs.length ≤ 13 * i ∧ i ≤ zs.length) ∧
      ∃ y5, σ = [some (.int c), some (.int (B : Int)), some (.ref rp), some (.ref a), some (.ref sz), y5, none, none, none]) ⟨⟨[], [], hN1, hB1, rfl, TI.nil, fun h => absurd h (Nat.lt_irrefl _), Nat.le_refl _, Nat.le_refl _⟩, none, rfl⟩ ?_ ?_⟩⟩
  · rintro i σ H5 hi ⟨⟨zs, ss, hN, hBs, hsl, hTI, hfew, hz1, hz2⟩, y5, rfl⟩
    have hi11 : i < 11 := by omega
    obtain ⟨x, x0, hx⟩ := gd (1 + i) (by omega)
    have hax : atI (ds.map V.int) (1 + (0 + (i : Int))) = some (.int x) := atIe (k := 1 + i) hx (by omega)
    refine ⟨.ref sz, rfl, .inl ⟨rfl, _, SqL.of hBs.at_⟩, _, rfl, .ref rp, rfl, _, rfl, _, _, rfl, rfl, rp, _, _, _, rfl, rfl, hR hN.same, hax, _, rfl, _, rfl, _, _, rfl, rfl, .inl ⟨by decide, by decide⟩, _, _, rfl, rfl, a, rp, hide H5 a zs, zs, x, 8 + 4 * (0 + i), ds, rfl, x0, nx_hide hN, by omega, nx_kept hN hr, by omega, hds, fun H6 zs2 s hN2 hBk s1 s13 => ?_⟩
    have hN6 := nx_rebase hN hN2
    have hB6 := hBs.next hN2
    have hz2l : zs2.length = zs.length + s := by
      have := hBk.len
      rw [cts_len] at this
      exact this
    refine ⟨sz, _, _, rfl, rfl, hB6.at_, small1000 (by unfold nmap; rw [List.length_map, List.length_map]; omega), ?_⟩
    have hBk2 : BlkR (cts zs) (cts zs2) (cts zs).length s := by
      rw [cts_len]
      exact hBk
    obtain ⟨hT2, hf2⟩ := hTI.block hBk2 s1 (fun h => hfew (by rw [cts_len] at h; exact h))
    refine ⟨⟨zs2, ss ++ [s], ?_, ⟨hB6.new, hB6.ne, hB6.els, ?_⟩, by rw [List.length_append, hsl]; rfl, hT2, fun _ => hf2, by omega, by omega⟩, _, rfl⟩
    · refine ⟨same_mut hN6.same hB6.new, hN6.new, by rw [upd_ne hB6.ne.symm]; exact hN6.at_, fun z hz => ⟨(hN6.els z hz).1, (hN6.els z hz).2.1, by rw [upd_ne (hB6.els z hz)]; exact (hN6.els z hz).2.2⟩, hN6.nd⟩
    · rw [upd_same]
      unfold ilst nmap
      rw [List.map_append, List.map_append]
      rfl
  rintro σ H5 ⟨⟨zs, ss, hN, hBs, hsl, hTI, hfew, hz1, hz2⟩, y5, rfl⟩
  have hzpos : 0 < zs.length := by omega
  have hz143 : zs.length ≤ 143 := by omega
  have hs11 : ss.length ≤ 11 := by omega
  clear hz1 hz2 hfew
  -- ends
  have hm3 := Int.emod_nonneg (e0 / 7) (show (4 : Int) ≠ 0 by omega)
  have hm4 := Int.emod_lt_of_pos (e0 / 7) (show (0 : Int) < 4 by omega)
  refine ⟨.ref rp, rfl, rp, _, 0, _, rfl, rfl, hR hN.same, atI_nat (j := 0) g0, _, _, rfl, rfl, ⟨by decide, by decide⟩, .inl ⟨_, rfl, _, _, rfl, rfl, (by show (0 : Int) < 4; decide), _, rfl, by omega, by omega, for_range (n := (e0 / 7 % 4).toNat) (fun i σ H6 => (∃ zs2 : Ws, NxIn H1 H6 a zs2 ∧ Bes H1 H6 a sz zs2 ss ∧ TI (cts zs2) ss ∧ zs2.length = zs.length) ∧ ∃ y6 y7, σ = [some (.int c), some (.int (B : Int)), some (.ref rp), some (.ref a), some (.ref sz), y5, y6, y7, none])
    ⟨⟨zs, hN, hBs, hTI, rfl⟩, none, none, rfl⟩ ?_ ?_⟩⟩
  · rintro i σ H6 hi ⟨⟨zs2, hN2, hB2, hT2, hl2⟩, y6, y7, rfl⟩
    obtain ⟨x, x0, hx⟩ := gd (40 + i) (by omega)
    have hax : atI (ds.map V.int) (40 + (0 + (i : Int))) = some (.int x) := atIe (k := 40 + i) hx (by omega)
    have hrl : (refL zs2).length = zs2.length := List.length_map ..
    have hv1 := Int.emod_nonneg x (show ((refL zs2).length : Int) ≠ 0 by omega)
    have hv2 := Int.emod_lt_of_pos x (show (0 : Int) < ((refL zs2).length : Int) by omega)
    obtain ⟨v, hv⟩ : ∃ v : Nat, x % ((refL zs2).length : Int) = v := ⟨(x % ((refL zs2).length : Int)).toNat, by omega⟩
    have hvl : v < zs2.length := by omega
    have hz : zs2[v]? = some zs2[v] := List.getElem?_eq_getElem hvl
    have hzm : zs2[v] ∈ zs2 := List.getElem_mem hvl
    generalize zs2[v] = z at hz hzm
    have hz3 := (hN2.els z hzm).2.2
    refine ⟨.ref rp, rfl, _, rfl, _, _, rfl, rfl, rp, _, _, _, rfl, rfl, hR hN2.same, hax, .inl ⟨_, rfl, _, rfl, a, _, rfl, .inl (SqL.of hN2.at_), _, _, rfl, rfl, by omega, ?_⟩⟩
    dsimp only
    rw [hv]
    refine ⟨_, rfl, _, rfl, a, _, _, _, rfl, rfl, SqL.of hN2.at_, atI_nat (get_refL hz), z.1, _, rfl, .inl (SqL.of hz3), _, _, rfl, rfl, _, rfl, if2 (fun e => ?_) (fun e => ?_)⟩
    · rw [List.length_map] at e
      refine ⟨_, rfl, _, rfl, a, _, _, _, rfl, rfl, SqL.of hN2.at_, atI_nat (get_refL hz), .inl ⟨rfl, _, SqL.of hz3⟩, 1, rfl, z.1, _, _, rfl, rfl, hz3, small1000 (by rw [List.length_map]; omega), ?_⟩
      refine ⟨⟨_, hN2.app (x := -1) hz, ⟨hB2.new, hB2.ne, fun w hw => ?_, ?_⟩, ?_, by rw [List.length_set]; exact hl2⟩, _, _, rfl⟩
      · rcases List.mem_or_eq_of_mem_set hw with hw | hw
        · exact hB2.els w hw
        · rw [hw]
          exact hB2.els z hzm
      · rw [upd_ne (hB2.els z hzm).symm]
        exact hB2.at_
      · rw [cts_set]
        exact hT2.fin (cts_get hz) (by omega)
    · exact ⟨⟨zs2, hN2, hB2, hT2, hl2⟩, _, _, rfl⟩
  clear hN hBs hTI
  rintro σ H6 ⟨⟨zs2, hN2, hB2, hT2, hl2⟩, y6, y7, rfl⟩
  have enl : ((nmap ss).map V.int).length = ss.length := by
    unfold nmap
    rw [List.length_map, List.length_map]
  -- exits
  refine ⟨_, rfl, sz, _, rfl, .inl (SqL.of hB2.at_), (((nmap ss).map V.int).length : Nat), rfl, by omega, by omega, for_range (n := ((nmap ss).map V.int).length) (fun i σ H7 => (∃ zs3 : Ws, NxIn H1 H7 a zs3 ∧ Bes H1 H7 a sz zs3 ss ∧ TI (cts zs3) ss ∧ zs3.length = zs.length ∧ ∀ (j s : Nat), j < i → ss[j]? = some s → EX (cts zs3) (ss.take j).sum s) ∧ ∃ y5 : Option V, σ = [some (.int c), some (.int (B : Int)), some (.ref rp), some (.ref a), some (.ref sz), y5, y6, y7, some (.int ((ss.take i).sum : Nat))])
    ⟨⟨zs2, hN2, hB2, hT2, hl2, fun j s h => absurd h (Nat.not_lt_zero _)⟩, y5, rfl⟩ ?_ ?_⟩
  · rintro i σ H7 hi ⟨⟨zs3, hN3, hB3, hT3, hl3, hEX⟩, y5, rfl⟩
    obtain ⟨s, hs⟩ : ∃ s, ss[i]? = some s := ⟨_, List.getElem?_eq_getElem (by omega)⟩
    obtain ⟨x, x0, hx⟩ := gd (44 + i) (by omega)
    have hax : atI (ds.map V.int) (44 + (0 + (i : Int))) = some (.int x) := atIe (k := 44 + i) hx (by omega)
    have hsum := take_sum_le hs
    have hT3l := hT3.len
    rw [cts_len] at hT3l
    refine ⟨_, rfl, _, rfl, _, rfl, _, rfl, sz, _, _, _, rfl, rfl, SqL.of hB3.at_, atI0 (nmap_get hs), .ref rp, rfl, _, rfl, _, _, rfl, rfl, rp, _, _, _, rfl, rfl, hR hN3.same, hax, a, hide H7 a zs3, zs3, (ss.take i).sum, s, x, rfl, x0, nx_hide hN3, by omega, by omega, fun z hz => (hT3.rng _ (List.mem_map_of_mem (f := fun z : Addr × List Int => z.2) hz)).1, hT3.open_ hs, fun H8 zs4 cc hN4 hE => ?_⟩
    have hN8 := nx_rebase hN3 hN4
    have hB8 := hB3.next hN4
    obtain ⟨hT8, hE8, hEs⟩ := hT3.exit hE
    have hl8 : zs4.length = zs.length := by
      have := hT8.len
      rw [cts_len] at this
      omega
    refine ⟨_, rfl, _, rfl, _, rfl, sz, _, _, _, rfl, rfl, SqL.of hB8.at_, atI0 (nmap_get hs), _, _, rfl, rfl, ⟨zs4, hN8, hB8, hT8, hl8, fun j s' hj hs' => ?_⟩, some (.int (0 + (i : Int))), ?_⟩
    · by_cases hji : j = i
      · subst hji
        rw [hs] at hs'
        rw [← Option.some.inj hs']
        exact hE8
      · exact hEs _ _ (hEX j s' (by omega) hs')
    · have e : (((ss.take (i + 1)).sum : Nat) : Int) = ((ss.take i).sum : Nat) + (s : Int) := by
        rw [List.take_add_one, hs, List.sum_append]
        simp
      rw [e]
      rfl
  rintro σ H7 ⟨⟨zs3, hN3, hB3, hT3, hl3, hEX⟩, y5, rfl⟩
  have hG : GOk (cts zs3) := hT3.ok (by rw [cts_len]; omega) fun j s hs => hEX j s (by have := (List.getElem?_eq_some_iff.mp hs).1; omega) hs
  have hrl : (refL zs3).length = zs3.length := List.length_map ..
  refine ⟨_, rfl, _, rfl, _, _, rfl, rfl, _, rfl, a, _, rfl, .inl (SqL.of hN3.at_), _, _, rfl, rfl, .inl ⟨by decide, by decide⟩, c + 5, _, 3 * (refL zs3).length, rfl, by omega, by omega, by decide, by decide, fun H9 dp ds2 s9 nd2 hd2 len2 bd2 => ?_⟩
  have s19 := s1.trans (hN3.same.trans s9)
  refine ⟨a, dp, zs3, ds2, rfl, SqL.of (s9 _ _ hN3.at_), fun z hz => SqL.of (s9 _ _ (hN3.els z hz).2.2), hG, by omega, SqL.of hd2, by omega, fun x hx => (bd2 x hx).1, fun H10 p rs s10 np hp hrw hok hrsl => ?_⟩
  exact q H10 p rs (s19.trans s10) (s19.free np) hp hrw hok (by omega)
theorem ok_l_any (T : Txt K mg) : Good P w K mg base 4 (He.ga K "_law_any") ["_law_cell_here", "_law_blocks"] [] (sp_l_any K) := by
  refine good_of T.f_l_any sc_l_any (fun vs H Q E h => ?_) (fun _ _ _ _ _ _ us hl => match us, hl with | [_, _], _ => rfl) (fun cdv A outer s H vs Q E hr h => ?_)
  · obtain ⟨_, _, rfl, _⟩ := h
    rfl
  refine ⟨_, (pss_cons (ps_set (i := 2) sc_l_any.nd rfl (Or.inl rfl) (pe_cg (ok_l_tame T) (hr.mono (j := 3) (by decide)) (by rfl) T.g_l_tame (pa_cons (pv 0) (pa_cons (pv 1) pa_nil))))
  (pss_cons (ps_set (i := 3) sc_l_any.nd rfl (Or.inl rfl) (pe_cg (ok_l_digits T) (hr.mono (j := 1) (by decide)) (by rfl) T.g_l_digits (pa_cons (pe_op op_add (pv 0) pe_int) (pa_cons pe_int (pa_cons pe_int pa_nil)))))
  (pss_cons (ps_for PassesOwn.never rfl (pi_range1 (by rfl) T.z_range (pa_cons (pe_op op_mod (pe_callTy call_int1 (by rfl) T.z_int (by decide +kernel) (pa_cons (pe_ix ix_list (pv 3) pe_int (fun _ _ => rfl)) pa_nil)) pe_int) pa_nil)) (pg_name (i := 4) sc_l_any.nd rfl (Or.inl rfl))
    (pss_cons (ps_set (i := 5) sc_l_any.nd rfl (Or.inl rfl) (pe_op op_mod (pe_callTy call_int1 (by rfl) T.z_int (by decide +kernel) (pa_cons (pe_ix ix_list (pv 3) (pe_op op_add pe_int (pv 4)) (fun _ _ => rfl)) pa_nil)) (pe_callB call_len_seq (by rfl) T.z_len (by decide +kernel) (pa_cons (pv 2) pa_nil))))
  (pss_one (ps_if (pt_cmpR op_lt (pe_callB call_len_seq (by rfl) T.z_len (by decide +kernel) (pa_cons (pe_ix ix_tup (pe_ix ix_list (pv 2) (pv 5) (fun _ _ => rfl)) pe_int (fun _ _ => rfl)) pa_nil)) pe_int (nomark _))
    (pss_cons (ps_set (i := 6) sc_l_any.nd rfl (Or.inl rfl) (pe_op op_mod (pe_callTy call_int1 (by rfl) T.z_int (by decide +kernel) (pa_cons (pe_op op_fdiv (pe_ix ix_list (pv 3) (pe_op op_add pe_int (pv 4)) (fun _ _ => rfl)) pe_int) pa_nil)) (pe_callB call_len_seq (by rfl) T.z_len (by decide +kernel) (pa_cons (pv 2) pa_nil))))
  (pss_one (ps_asg (pe_tup (pa_cons (pe_ix ix_tup (pe_ix ix_list (pv 2) (pv 5) (fun _ _ => rfl)) pe_int (fun _ _ => rfl)) (pa_cons (pe_ix ix_tup (pe_ix ix_list (pv 2) (pv 5) (fun _ _ => rfl)) pe_int (fun _ _ => rfl)) (pa_cons (pe_op op_catX (pe_ix ix_tup (pe_ix ix_list (pv 2) (pv 5) (fun _ _ => rfl)) pe_int (fun _ _ => rfl)) (pe_tup (pa_cons (pv 6) pa_nil))) pa_nil)))) (pg_sub (pv 2) (pv 5) set_list))))
    pss_nil))))
  (pss_one (ps_ret (pv 2)))))), ?_⟩
  obtain ⟨c, B, rfl, c0, hB, q⟩ := h
  refine ⟨_, rfl, _, rfl, c, B, rfl, c0, hB, fun H1 p rs s1 np hp hrw hok hrl => ?_⟩
  refine ⟨_, rfl, _, _, rfl, rfl, c + 9, _, 8, rfl, by omega, by omega, by decide, by decide, fun H2 rp ds s2 nr hr len bd => ?_⟩
  have gd : ∀ j : Nat, j < 8 → ∃ d, 0 ≤ d ∧ (ds.map V.int)[j]? = some (.int d) := fun j hj => by
    have hj2 : j < ds.length := by omega
    exact ⟨_, (bd _ (List.getElem_mem hj2)).1, get_map (List.getElem?_eq_getElem hj2)⟩
  obtain ⟨e0, b0, g0⟩ := gd 0 (by omega)
  have hp2 := s2 _ _ hp
  have hrp : rp ≠ p := (ne_of_none hp nr).symm
  have sBut : ∀ {H3 : Hp}, But p H2 H3 → Same H H3 := fun b c o e => b c o (fun e2 => by rw [e2, np] at e; cases e) (s2 _ _ (s1 _ _ e))
  have hm1 := Int.emod_nonneg e0 (show (4 : Int) ≠ 0 by omega)
  have hm2 := Int.emod_lt_of_pos e0 (show (0 : Int) < 4 by omega)
  refine ⟨.ref rp, rfl, rp, _, 0, _, rfl, rfl, SqL.of hr, atI_nat (j := 0) g0, .inl ⟨_, rfl, _, _, rfl, rfl, (by show (0 : Int) < 4; decide), _, rfl, by omega, by omega, for_range (n := (e0 % 4).toNat) (fun i σ H5 => But p H2 H5 ∧ (∃ rs2 : Rx, H5 p = some (.lst (refR rs2)) ∧ RwOk H5 rs2 ∧ RsOk rs2 ∧ rs2.length = rs.length) ∧ ∃ y4 y5 y6, σ = [some (.int c), some (.int (B : Int)), some (.ref p), some (.ref rp), y4, y5, y6])
    ⟨But.refl, ⟨rs, hp2, hrw.same s2, hok, rfl⟩, none, none, none, rfl⟩ ?_ ?_⟩⟩
  · rintro i σ H5 hi ⟨b5, ⟨rs2, hp5, hrw5, hok5, hl5⟩, y4, y5, y6, rfl⟩
    obtain ⟨x, x0, hx⟩ := gd (1 + i) (by omega)
    have hax : atI (ds.map V.int) (1 + (0 + (i : Int))) = some (.int x) := atIe (k := 1 + i) hx (by omega)
    have hr5 : SqL K H5 rp (ds.map V.int) := SqL.of (b5 _ _ hrp hr)
    have hrl5 : (refR rs2).length = rs2.length := List.length_map ..
    have hpos : 0 < rs2.length := by rw [← sxr_len]; exact hok5.g.pos
    have hv1 := Int.emod_nonneg x (show ((refR rs2).length : Int) ≠ 0 by omega)
    have hv2 := Int.emod_lt_of_pos x (show (0 : Int) < ((refR rs2).length : Int) by omega)
    obtain ⟨v, hv⟩ : ∃ v : Nat, x % ((refR rs2).length : Int) = v := ⟨(x % ((refR rs2).length : Int)).toNat, by omega⟩
    have hvl : v < rs2.length := by omega
    have hz : rs2[v]? = some rs2[v] := List.getElem?_eq_getElem hvl
    have hzm : rs2[v] ∈ rs2 := List.getElem_mem hvl
    generalize rs2[v] = z at hz hzm
    obtain ⟨z1, z2⟩ := hrw5 z hzm
    have hT : SqT K H5 z.1 [.str z.2.2.1, .int z.2.2.2.1, .ref z.2.1] := SqT.of z1
    refine ⟨.ref rp, rfl, _, rfl, _, _, rfl, rfl, rp, _, _, _, rfl, rfl, hr5, hax, .inl ⟨_, rfl, _, rfl, p, _, rfl, .inl (SqL.of hp5), _, _, rfl, rfl, by omega, ?_⟩⟩
    dsimp only
    rw [hv]
    refine ⟨_, rfl, _, rfl, p, _, _, _, rfl, rfl, SqL.of hp5, atI_nat (get_refR hz), z.1, _, 2, _, rfl, rfl, hT, rfl, z.2.1, _, rfl, .inr (SqT.of z2), _, _, rfl, rfl, _, rfl, if2 (fun e => ?_) (fun e => ?_)⟩
    · rw [List.length_map] at e
      have ht1 := Int.emod_nonneg (x / 60) (show ((refR rs2).length : Int) ≠ 0 by omega)
      have ht2 := Int.emod_lt_of_pos (x / 60) (show (0 : Int) < ((refR rs2).length : Int) by omega)
      refine ⟨.ref rp, rfl, _, rfl, _, _, rfl, rfl, rp, _, _, _, rfl, rfl, hr5, hax, _, _, rfl, rfl, ⟨by decide, by decide⟩, .inl ⟨_, rfl, _, rfl, p, _, rfl, .inl (SqL.of hp5), _, _, rfl, rfl, by omega, ?_⟩⟩
      dsimp only
      generalize x / 60 % ((refR rs2).length : Int) = t at ht1 ht2 ⊢
      refine ⟨_, rfl, _, rfl, p, _, _, _, rfl, rfl, SqL.of hp5, atI_nat (get_refR hz), z.1, _, 0, _, rfl, rfl, hT, rfl, _, rfl, _, rfl, p, _, _, _, rfl, rfl, SqL.of hp5, atI_nat (get_refR hz), z.1, _, 1, _, rfl, rfl, hT, rfl, _, rfl, _, rfl, p, _, _, _, rfl, rfl, SqL.of hp5, atI_nat (get_refR hz), z.1, _, 2, _, rfl, rfl, hT, rfl, _, rfl, (by show 1 ≤ sizeLine; decide), fun t1 n1 => ⟨z.2.1, t1, z.2.2.2.2.map V.int, [.int t], rfl, rfl, same_new n1 _ _ z2, upd_same, ?_, fun H7 u s7 hu => ⟨(by show 3 ≤ sizeLine; decide), fun tt ntt => ?_⟩⟩⟩
      · rw [List.length_map]
        exact Nat.le_trans (show z.2.2.2.2.length + 1 ≤ 10 by omega) (by decide)
      have s57 := (same_new (o := .tup [.int t]) n1).trans s7
      have s58 := s57.trans (same_new (o := .tup [.str z.2.2.1, .int z.2.2.2.1, .ref u]) ntt)
      have hp8 := s58 _ _ hp5
      have hel : ∀ (c : Addr) (xs : List V), upd H7 tt (.tup [.str z.2.2.1, .int z.2.2.2.1, .ref u]) c = some (.tup xs) → upd (upd H7 tt (.tup [.str z.2.2.1, .int z.2.2.2.1, .ref u])) p (.lst ((refR rs2).set v (.ref tt))) c = some (.tup xs) := fun c xs h => by
        rw [upd_ne (ne_of h hp8 (fun e => nomatch e))]
        exact h
      refine ⟨_, rfl, _, rfl, p, _, _, v, rfl, rfl, hp8, ixN_nat (by omega), fun c o n e => ?_, ⟨rs2.set v (tt, u, z.2.2.1, z.2.2.2.1, z.2.2.2.2 ++ [t]), ?_, fun w hw => ?_, ⟨by rw [List.length_set]; exact hok5.few, ?_, fun w hw => ?_⟩, by rw [List.length_set]; exact hl5⟩, _, _, _, rfl⟩
      · rw [upd_ne n]
        exact s58 _ _ (b5 c o n e)
      · rw [upd_same]
        unfold refR
        rw [List.map_set]
      · rcases List.mem_or_eq_of_mem_set hw with hw | hw
        · exact ⟨hel _ _ (s58 _ _ (hrw5 w hw).1), hel _ _ (s58 _ _ (hrw5 w hw).2)⟩
        · rw [hw]
          refine ⟨hel _ _ upd_same, ?_⟩
          have hu2 : H7 u = some (itup (z.2.2.2.2 ++ [t])) := by
            rw [hu]
            unfold itup
            rw [List.map_append]
            rfl
          exact hel _ _ (same_new ntt _ _ hu2)
      · have e9 : sxr (rs2.set v (tt, u, z.2.2.1, z.2.2.2.1, z.2.2.2.2 ++ [t])) = (sxr rs2).set v (z.2.2.2.2 ++ [t]) := by
          unfold sxr
          rw [List.map_set]
        rw [e9]
        exact hok5.g.grow (get_sxr hz) (by omega) ht1 (by rw [sxr_len]; omega)
      · rcases List.mem_or_eq_of_mem_set hw with hw | hw
        · exact hok5.nm w hw
        · rw [hw]
          exact hok5.nm z hzm
    · exact ⟨b5, ⟨rs2, hp5, hrw5, hok5, hl5⟩, _, _, _, rfl⟩
  · rintro σ H5 ⟨b5, ⟨rs2, hp5, hrw5, hok5, hl5⟩, y4, y5, y6, rfl⟩
    exact ⟨_, rfl, q H5 p rs2 (sBut b5) np hp5 hrw5 hok5 (by omega)⟩
end
end K34

namespace K34
open PySem PySem.Spec PyProof.Rows L2 Fw Lay
section
variable {P : Program} {w : World} {K : PySem.W.Frag} {mg : Str → Option Value} {base : Heap}
theorem ok_is_name (T : Txt K mg) : Good P w K mg base 1 (He.ga K "is_name") ["text"] [] (sp_is_name K) := by
  refine good_of T.f_is_name sc_is_name (fun vs H Q E h => ?_) (fun _ _ _ _ _ _ us hl => match us, hl with | [_], _ => rfl) (fun cdv A outer s H vs Q E hr h => ?_)
  · obtain ⟨_, rfl, _⟩ := h
    rfl
  refine ⟨_, (pss_cons (ps_if (pt_not (pt_chain op_le op_le pe_int (pe_callB call_len_str (by rfl) T.z_len (by decide +kernel) (pa_cons (pv 0) pa_nil)) pe_int))
    (pss_one (ps_ret pe_bl))
    pss_nil)
  (pss_cons (ps_for PassesOwn.never rfl (pi_str (pv 0)) (pg_name (i := 1) sc_is_name.nd rfl (Or.inl rfl))
    (pss_one (ps_if (pt_cmpR op_notIn_sign (pv 1) pe_str (by rfl))
    (pss_one (ps_ret pe_bl))
    pss_nil)))
  (pss_one (ps_ret pe_bl)))), ?_⟩
  obtain ⟨x, rfl, ⟨h1, h2, h3⟩, q⟩ := h
  have hl : x.length = (x.cps.size : Nat) := rfl
  refine ⟨_, rfl, x, rfl, Nat.le_trans (show x.length ≤ 8 by rw [hl]; omega) (by decide), _, _, rfl, rfl, _, rfl, ifT (by rw [hl]; omega) ⟨_, _, rfl, rfl, _, rfl, ?_⟩⟩
  refine ifNF (show (x.length : Int) ≤ 8 by rw [hl]; omega) ?_
  refine ⟨_, rfl, x, rfl, for_it (walk_str (z := x)) (fun i σ H2 => H2 = H ∧ ∃ y, σ = [some (.str x), y]) ⟨rfl, none, rfl⟩ (fun _ _ _ _ _ => trivial) ?_ ?_⟩
  · rintro i v σ H2 H3 hi ⟨rfl, y, rfl⟩ ⟨rfl, c, hc, rfl⟩
    have hcm : c ∈ x.cps.toList := by
      rw [Array.mem_toList_iff]
      exact Array.mem_of_getElem? hc
    refine ⟨_, rfl, c, _, rfl, rfl, _, rfl, ?_⟩
    exact ifNF (h3 c hcm) ⟨rfl, _, rfl⟩
  · rintro σ H2 ⟨rfl, y, rfl⟩
    exact q
theorem ok_distinct (T : Txt K mg) : Good P w K mg base 1 (He.ga K "distinct") ["row"] [] (sp_distinct K) := by
  refine good_of T.f_distinct sc_distinct (fun vs H Q E h => ?_) (fun _ _ _ _ _ _ us hl => match us, hl with | [_], _ => rfl) (fun cdv A outer s H vs Q E hr h => ?_)
  · obtain ⟨_, _, rfl, _⟩ := h
    rfl
  refine ⟨_, (pss_one (ps_ret (pe_callB (cr_sortedSet rfl) (by rfl) T.z_sorted (by decide +kernel) (pa_cons (pe_callTy (cr_setL rfl) (by rfl) T.z_set (by decide +kernel) (pa_cons (pv 0) pa_nil)) pa_nil)))), ?_⟩
  obtain ⟨a, ns, rfl, hS, hl, q⟩ := h
  refine ⟨.ref a, rfl, a, ns, rfl, hS, ?_, fun b c nb hc => ?_⟩
  · have : scanBound = 4096 := rfl
    omega
  refine ⟨b, _, c, rfl, upd_same, by omega, fun ds p pw mem _ np => ?_⟩
  refine q _ p ds ?_ ?_ upd_same pw fun x => ?_
  · exact (same_new nb).trans (same_new np)
  · exact (same_new nb).free np
  · rw [mem]
    exact decide_eq_true_iff
theorem ok_copied (T : Txt K mg) : Good P w K mg base 1 (He.ga K "copied") ["rows"] [] (sp_copied K) := by
  refine good_of T.f_copied sc_copied (fun vs H Q E h => ?_) (fun _ _ _ _ _ _ us hl => match us, hl with | [_], _ => rfl) (fun cdv A outer s H vs Q E hr h => ?_)
  · obtain ⟨_, _, rfl, _⟩ := h
    rfl
  refine ⟨_, (pss_one (ps_ret (pe_lc (own := [("row", 1)]) (g := (gName 1)) (tt := tYes) rfl sc_copied.nd (pi_list (pv 0)) (blkOk_by (own := [("row", 1)]) (N := ["rows", "row"]) (sc := defScope s_copied) (by decide +kernel)) (fun _ _ _ _ _ => (pg_name (i := 1) sc_copied.nd rfl (Or.inl rfl))) (fun _ _ _ _ _ => pts_nil) (fun _ _ _ _ _ => (pe_callTy (call_list_ofE (K := K) rfl) (by rfl) T.z_list (by decide +kernel) (pa_cons (pv 1) pa_nil)))))), ?_⟩
  obtain ⟨a, ws, rfl, hS, hL, hl, q⟩ := h
  refine ⟨.ref a, rfl, a, rfl, ⟨_, hS⟩, fun D hD => lc_list (K := K) (a := a) (xs := refL ws) (fun i H2 => Same H H2 ∧ ∃ us : Ws, H2 D = some (.lst (refL us)) ∧ (∀ u ∈ us, u.1 ≠ D ∧ H u.1 = none ∧ H2 u.1 = some (ilst u.2)) ∧ us.map (·.2) = (ws.take i).map (·.2))
    ⟨same_new hD, [], upd_same, fun u hu => (nomatch hu), rfl⟩ (fun i H2 _ h => h.1.seq hS) ?_ ?_⟩
  · rintro i x H3 hi ⟨s3, us, h3, hu3, em⟩
    obtain ⟨w, hw, hwm, rfl⟩ := refL_get hi
    have hilt := (List.getElem?_eq_some_iff.mp hw).1
    have hul : us.length ≤ i := by
      have e := congrArg List.length em
      rw [List.length_map, List.length_map, List.length_take] at e
      omega
    refine ⟨rfl, yes_then ?_⟩
    refine ⟨_, rfl, w.1, _, rfl, .inl (hL.same s3 w hwm), fun l nl => ⟨_, same_new nl _ _ h3, small1000 (by unfold refL; rw [List.length_map]; omega), ?_⟩⟩
    have hlD : l ≠ D := (ne_of_none h3 nl).symm
    refine ⟨same_mut (s3.trans (same_new nl)) hD, us ++ [(l, w.2)], ?_, fun w' h => ?_, ?_⟩
    · rw [upd_same]
      unfold refL
      rw [List.map_append]
      rfl
    · rcases List.mem_append.mp h with h | h
      · refine ⟨(hu3 w' h).1, (hu3 w' h).2.1, ?_⟩
        rw [upd_ne (hu3 w' h).1]
        exact same_new nl _ _ (hu3 w' h).2.2
      · rw [List.mem_singleton.mp h]
        refine ⟨hlD, s3.free nl, ?_⟩
        show upd (upd H3 l _) D _ l = _
        rw [upd_ne hlD, upd_same]
    · rw [List.map_append, em, List.take_add_one, hw, List.map_append]
      rfl
  · rintro H3 ⟨s3, us, h3, hu3, em⟩
    rw [List.take_of_length_le (by unfold refL; rw [List.length_map]; exact Nat.le_refl _)] at em
    exact q H3 D us s3 hD h3 (fun u hu => (hu3 u hu).2) em
theorem ok_Graph_price (T : Txt K mg) : Good P w K mg base 1 (He.ma K (He.ga K "Graph") "price") ["self", "node"] [] (sp_Graph_price K) := by
  refine good_of T.f_Graph_price sc_Graph_price (fun vs H Q E h => ?_) (fun _ _ _ _ _ _ us hl => match us, hl with | [_, _], _ => rfl) (fun cdv A outer s H vs Q E hr h => ?_)
  · obtain ⟨_, _, _, _, rfl, _⟩ := h
    rfl
  refine ⟨_, (pss_one (ps_ret (pe_ix ix_tup (pe_ix ix_tup (pe_fld (pv 0) rfl) (pv 1) (fun _ _ => rfl)) pe_int (fun _ _ => rfl)))), ?_⟩
  obtain ⟨g, rs, i, qr, rfl, ⟨dx, ra, h1, h2, h3⟩, hq, q⟩ := h
  exact ⟨_, rfl, g, _, dx, _, _, rfl, h1, T.cl_Graph, T.na_Graph_rows, rfl, _, rfl, ra, _, _, _, rfl, rfl, SqT.of h2, atI_nat (get_refR hq), qr.1, _, 1, _, rfl, rfl, SqT.of (h3 qr (List.mem_of_getElem? hq)).1, rfl, q⟩
theorem ok_Graph_successors (T : Txt K mg) : Good P w K mg base 1 (He.ma K (He.ga K "Graph") "successors") ["self", "node"] [] (sp_Graph_successors K) := by
  refine good_of T.f_Graph_successors sc_Graph_successors (fun vs H Q E h => ?_) (fun _ _ _ _ _ _ us hl => match us, hl with | [_, _], _ => rfl) (fun cdv A outer s H vs Q E hr h => ?_)
  · obtain ⟨_, _, _, _, rfl, _⟩ := h
    rfl
  refine ⟨_, (pss_one (ps_ret (pe_ix ix_tup (pe_ix ix_tup (pe_fld (pv 0) rfl) (pv 1) (fun _ _ => rfl)) pe_int (fun _ _ => rfl)))), ?_⟩
  obtain ⟨g, rs, i, qr, rfl, ⟨dx, ra, h1, h2, h3⟩, hq, q⟩ := h
  exact ⟨_, rfl, g, _, dx, _, _, rfl, h1, T.cl_Graph, T.na_Graph_rows, rfl, _, rfl, ra, _, _, _, rfl, rfl, SqT.of h2, atI_nat (get_refR hq), qr.1, _, 2, _, rfl, rfl, SqT.of (h3 qr (List.mem_of_getElem? hq)).1, rfl, q⟩
theorem ok_prefix_length (T : Txt K mg) : Good P w K mg base 1 (He.ga K "prefix_length") ["run", "schedule"] [] (sp_prefix_length K) := by
  refine good_of T.f_prefix_length sc_prefix_length (fun vs H Q E h => ?_) (fun _ _ _ _ _ _ us hl => match us, hl with | [_, _], _ => rfl) (fun cdv A outer s H vs Q E hr h => ?_)
  · obtain ⟨_, _, _, _, rfl, _⟩ := h
    rfl
  refine ⟨_, (pss_cons (ps_set (i := 2) sc_prefix_length.nd rfl (Or.inl rfl) pe_int)
  (pss_cons (ps_for PassesOwn.never rfl (pi_list (pv 1)) (pg_name (i := 3) sc_prefix_length.nd rfl (Or.inl rfl))
    (pss_one (ps_if (pw_and (pt_cmpR op_lt (pv 2) (pe_callB call_len_seq (by rfl) T.z_len (by decide +kernel) (pa_cons (pv 0) pa_nil)) (nomark _)) (pw_and1 (pt_cmpR op_eq (pe_ix ix_list (pv 0) (pv 2) (fun _ _ => rfl)) (pv 3) (nomark _)))).pt
    (pss_one (ps_set (i := 2) sc_prefix_length.nd rfl (Or.inl rfl) (pe_op op_add (pv 2) pe_int)))
    pss_nil)))
  (pss_one (ps_ret (pv 2))))), ?_⟩
  obtain ⟨a, b, r, S, rfl, hA, hB, q⟩ := h
  refine ⟨.ref b, rfl, b, rfl, ⟨_, hB⟩, for_list (K := K) (a := b) (xs := S.map V.int) (fun i σ H2 => H2 = H ∧ ∃ y, σ = [some (.ref a), some (.ref b), some (.int (pfx r (S.take i) : Nat)), y]) ⟨rfl, none, rfl⟩ (fun i σ H2 _ h => by rw [h.1]; exact hB) ?_ ?_⟩
  · rintro i x σ H2 hi ⟨rfl, y, rfl⟩
    obtain ⟨c, hc, rfl⟩ := map_get hi
    refine ⟨_, rfl, .ref a, rfl, a, _, rfl, .inl hA, _, _, rfl, rfl, _, rfl, if2 (fun e => ?_) (fun e => ?_)⟩
    · rw [List.length_map] at e
      have hlt : pfx r (S.take i) < r.length := by omega
      have hg : r[pfx r (S.take i)]? = some r[pfx r (S.take i)] := List.getElem?_eq_getElem hlt
      refine ⟨.ref a, rfl, _, rfl, a, _, _, _, rfl, rfl, hA, atI_nat (get_map hg), _, rfl, rfl, _, rfl, if2 (fun e2 => ?_) (fun e2 => ?_)⟩
      · have e3 : pfx r (S.take (i + 1)) = pfx r (S.take i) + 1 := by
          rw [pfx_take r hc]
          unfold pst
          rw [if_pos (by rw [hg, V.int.inj e2])]
        refine ⟨_, rfl, _, _, rfl, rfl, rfl, some (.int c), ?_⟩
        rw [e3]
        rfl
      · have e3 : pfx r (S.take (i + 1)) = pfx r (S.take i) := by
          rw [pfx_take r hc]
          unfold pst
          rw [if_neg (by rw [hg]; exact fun h => e2 (by rw [Option.some.inj h]))]
        refine ⟨rfl, some (.int c), ?_⟩
        rw [e3]
        rfl
    · rw [List.length_map] at e
      have e3 : pfx r (S.take (i + 1)) = pfx r (S.take i) := by
        rw [pfx_take r hc]
        unfold pst
        rw [if_neg (by rw [List.getElem?_eq_none (by omega)]; exact fun h => nomatch h)]
      refine ⟨rfl, some (.int c), ?_⟩
      rw [e3]
      rfl
  · rintro σ H2 ⟨rfl, y, rfl⟩
    rw [List.length_map, List.take_length]
    exact ⟨_, rfl, q⟩
end
end K34

namespace K34
open PySem PySem.Spec PyProof.Rows L2 Fw Lay
section
variable {P : Program} {w : World} {K : PySem.W.Frag} {mg : Str → Option Value} {base : Heap}
theorem ok_prefixes (T : Txt K mg) : Good P w K mg base 2 (He.ga K "prefixes") ["runs", "schedule"] [] (sp_prefixes K) := by
  refine good_of T.f_prefixes sc_prefixes (fun vs H Q E h => ?_) (fun _ _ _ _ _ _ us hl => match us, hl with | [_, _], _ => rfl) (fun cdv A outer s H vs Q E hr h => ?_)
  · obtain ⟨_, _, _, _, rfl, _⟩ := h
    rfl
  refine ⟨_, (pss_one (ps_ret (pe_lc (own := [("run", 2)]) (g := (gName 2)) (tt := tYes) rfl sc_prefixes.nd (pi_list (pv 0)) (blkOk_by (own := [("run", 2)]) (N := ["runs", "schedule", "run"]) (sc := defScope s_prefixes) (by decide +kernel)) (fun _ _ _ _ _ => (pg_name (i := 2) sc_prefixes.nd rfl (Or.inl rfl))) (fun _ _ _ _ _ => pts_nil) (fun _ _ _ _ _ => (pe_cg (ok_prefix_length T) (hr.mono (j := 1) (by decide)) (by rfl) T.g_prefix_length (pa_cons (pv 2) (pa_cons (pv 1) pa_nil))))))), ?_⟩
  obtain ⟨a, b, ws, S, rfl, hA, hL, hl, hB, q⟩ := h
  refine ⟨.ref a, rfl, a, rfl, ⟨_, hA⟩, fun D hD => lc_list (K := K) (a := a) (xs := refL ws) (fun i H2 => Same H H2 ∧ H2 D = some (ilst (nmap ((ws.take i).map fun w : Addr × List Int => pfx w.2 S)))) ⟨same_new hD, upd_same⟩ (fun i H2 _ h => h.1.seq hA) ?_ ?_⟩
  · rintro i x H3 hi ⟨s3, h3⟩
    obtain ⟨w, hw, hwm, rfl⟩ := refL_get hi
    have hilt := (List.getElem?_eq_some_iff.mp hw).1
    refine ⟨rfl, yes_then ⟨_, rfl, _, rfl, w.1, b, w.2, S, rfl, hL.same s3 w hwm, s3.seq hB, _, h3, small1000 (by unfold nmap; rw [List.length_map, List.length_map, List.length_map, List.length_take]; omega), same_mut s3 hD, ?_⟩⟩
    rw [upd_same, List.take_add_one, hw]
    unfold ilst nmap
    rw [List.map_append, List.map_append, List.map_append]
    rfl
  · rintro H3 ⟨s3, h3⟩
    rw [List.take_of_length_le (by unfold refL; rw [List.length_map]; exact Nat.le_refl _)] at h3
    exact q H3 D s3 hD h3
theorem ok_is_complete (T : Txt K mg) : Good P w K mg base 2 (He.ga K "is_complete") ["runs", "schedule"] [] (sp_is_complete K) := by
  refine good_of T.f_is_complete sc_is_complete (fun vs H Q E h => ?_) (fun _ _ _ _ _ _ us hl => match us, hl with | [_, _], _ => rfl) (fun cdv A outer s H vs Q E hr h => ?_)
  · obtain ⟨_, _, _, _, rfl, _⟩ := h
    rfl
  refine ⟨_, (pss_cons (ps_for PassesOwn.never rfl (pi_list (pv 0)) (pg_name (i := 2) sc_is_complete.nd rfl (Or.inl rfl))
    (pss_one (ps_if (pt_cmpR op_lt (pe_cg (ok_prefix_length T) (hr.mono (j := 1) (by decide)) (by rfl) T.g_prefix_length (pa_cons (pv 2) (pa_cons (pv 1) pa_nil))) (pe_callB call_len_seq (by rfl) T.z_len (by decide +kernel) (pa_cons (pv 2) pa_nil)) (nomark _))
    (pss_one (ps_ret pe_bl))
    pss_nil)))
  (pss_one (ps_ret pe_bl))), ?_⟩
  obtain ⟨a, b, ws, S, rfl, hA, hL, hB, q⟩ := h
  refine ⟨.ref a, rfl, a, rfl, ⟨_, hA⟩, for_list (K := K) (a := a) (xs := refL ws) (fun i σ H2 => H2 = H ∧ (∀ w ∈ ws.take i, pfx w.2 S = w.2.length) ∧ ∃ y, σ = [some (.ref a), some (.ref b), y]) ⟨rfl, fun w hw => (nomatch hw), none, rfl⟩ (fun i σ H2 _ h => by rw [h.1]; exact hA) ?_ ?_⟩
  · rintro i x σ H2 hi ⟨rfl, hdn, y, rfl⟩
    obtain ⟨w, hw, hwm, rfl⟩ := refL_get hi
    have hle := pfx_le w.2 S
    refine ⟨_, rfl, _, rfl, w.1, b, w.2, S, rfl, hL w hwm, hB, _, rfl, w.1, _, rfl, .inl (hL w hwm), _, _, rfl, rfl, _, rfl, if2 (fun e => ?_) (fun e => ?_)⟩
    · rw [List.length_map] at e
      refine q false ⟨fun h => (nomatch h), fun h => ?_⟩
      have := h w hwm
      omega
    · rw [List.length_map] at e
      refine ⟨rfl, fun w' hw' => ?_, _, rfl⟩
      rw [List.take_add_one, hw] at hw'
      rcases List.mem_append.mp hw' with h | h
      · exact hdn w' h
      · rw [List.mem_singleton.mp h]
        omega
  · rintro σ H2 ⟨rfl, hdn, y, rfl⟩
    rw [List.take_of_length_le (by unfold refL; rw [List.length_map]; exact Nat.le_refl _)] at hdn
    exact q true ⟨fun _ => hdn, fun _ => rfl⟩
theorem ok_is_good_row (T : Txt K mg) : Good P w K mg base 2 (He.ga K "is_good_row") ["row", "size"] [] (sp_is_good_row K) := by
  refine good_of T.f_is_good_row sc_is_good_row (fun vs H Q E h => ?_) (fun _ _ _ _ _ _ us hl => match us, hl with | [_, _], _ => rfl) (fun cdv A outer s H vs Q E hr h => ?_)
  · obtain ⟨_, _, rfl, _⟩ := h
    rfl
  refine ⟨_, (pss_cons (ps_if (pw_or (pt_not (pt_val (pe_cg (ok_is_name T) (hr.mono (j := 1) (by decide)) (by rfl) T.g_is_name (pa_cons (pe_ix ix_tup (pv 0) pe_int (fun _ _ => rfl)) pa_nil)))) (pw_or1 (pt_cmpR op_lt (pe_ix ix_tup (pv 0) pe_int (fun _ _ => rfl)) pe_int (nomark _)))).pt
    (pss_one (ps_ret pe_bl))
    pss_nil)
  (pss_cons (ps_if (pt_not (pt_chain op_le op_le pe_int (pe_callB call_len_seq (by rfl) T.z_len (by decide +kernel) (pa_cons (pe_ix ix_tup (pv 0) pe_int (fun _ _ => rfl)) pa_nil)) pe_int))
    (pss_one (ps_ret pe_bl))
    pss_nil)
  (pss_cons (ps_for PassesOwn.never rfl (pi_tup (pe_ix ix_tup (pv 0) pe_int (fun _ _ => rfl))) (pg_name (i := 2) sc_is_good_row.nd rfl (Or.inl rfl))
    (pss_one (ps_if (pw_and (pt_cmpR op_ne (pv 2) (pe_glob (v := .int (-1)) (by rfl) T.k_END.choose_spec ⟨_, rfl⟩) (nomark _)) (pw_and1 (pt_not (pt_chain op_le op_lt pe_int (pv 2) (pv 1))))).pt
    (pss_one (ps_ret pe_bl))
    pss_nil)))
  (pss_one (ps_ret pe_bl))))), ?_⟩
  obtain ⟨qr, n, rfl, hrw, hnm, hp, ⟨hr1, hr2, hr3⟩, q⟩ := h
  obtain ⟨h1, h2⟩ := hrw qr (List.mem_singleton.mpr rfl)
  have hT : SqT K H qr.1 [.str qr.2.2.1, .int qr.2.2.2.1, .ref qr.2.1] := SqT.of h1
  have hU : SqT K H qr.2.1 (qr.2.2.2.2.map V.int) := SqT.of h2
  refine ⟨_, rfl, qr.1, _, 0, _, rfl, rfl, hT, rfl, qr.2.2.1, rfl, hnm, true, rfl, iteF ⟨_, rfl, qr.1, _, 1, _, rfl, rfl, hT, rfl, _, _, rfl, rfl, _, rfl, ifF (by omega) ?_⟩⟩
  refine ⟨_, rfl, qr.1, _, 2, _, rfl, rfl, hT, rfl, qr.2.1, _, rfl, .inr hU, _, _, rfl, rfl, _, rfl, ifT (by rw [List.length_map]; omega) ⟨_, _, rfl, rfl, _, rfl, ifNF (show (((qr.2.2.2.2.map V.int).length : Nat) : Int) ≤ 4 by rw [List.length_map]; omega) ?_⟩⟩
  refine ⟨_, rfl, qr.1, _, 2, _, rfl, rfl, hT, rfl, qr.2.1, rfl, ⟨_, hU⟩, for_it (walk_tup (K := K) (a := qr.2.1) (xs := qr.2.2.2.2.map V.int)) (fun i σ H2 => H2 = H ∧ ∃ y, σ = [some (.ref qr.1), some (.int (n : Int)), y]) ⟨rfl, none, rfl⟩ (fun i σ H2 _ h => by rw [h.1]; exact hU) ?_ ?_⟩
  · rintro i x σ H2 H3 hi ⟨rfl, y, rfl⟩ ⟨rfl, hx⟩
    obtain ⟨t, ht, rfl⟩ := map_get hx
    have h3 := hr3 t (List.mem_of_getElem? ht)
    by_cases he : t = -1
    · exact ⟨_, rfl, rfl, _, rfl, ifNF (by rw [he]) ⟨rfl, _, rfl⟩⟩
    · refine ⟨_, rfl, rfl, _, rfl, ifNT (int_ne he) ⟨_, rfl, _, _, rfl, rfl, _, rfl, ifT (by omega) ⟨_, rfl, _, _, rfl, rfl, _, rfl, ifNF (show t < (n : Int) by omega) ⟨rfl, _, rfl⟩⟩⟩⟩
  · rintro σ H2 ⟨rfl, y, rfl⟩
    exact q
theorem ok_check_rows (T : Txt K mg) : Good P w K mg base 3 (He.ga K "check_rows") ["rows"] [] (sp_check_rows K) := by
  refine good_of T.f_check_rows sc_check_rows (fun vs H Q E h => ?_) (fun _ _ _ _ _ _ us hl => match us, hl with | [_], _ => rfl) (fun cdv A outer s H vs Q E hr h => ?_)
  · obtain ⟨_, _, rfl, _⟩ := h
    rfl
  refine ⟨_, (pss_cons (ps_if (pt_cmpR op_eq (pe_callB call_len_seq (by rfl) T.z_len (by decide +kernel) (pa_cons (pv 0) pa_nil)) pe_int (nomark _))
    (pss_one ps_never)
    pss_nil)
  (pss_one (ps_for PassesOwn.never rfl (pi_range1 (by rfl) T.z_range (pa_cons (pe_callB call_len_seq (by rfl) T.z_len (by decide +kernel) (pa_cons (pv 0) pa_nil)) pa_nil)) (pg_name (i := 1) sc_check_rows.nd rfl (Or.inl rfl))
    (pss_one (ps_if (pt_not (pt_val (pe_cg (ok_is_good_row T) (hr.mono (j := 2) (by decide)) (by rfl) T.g_is_good_row (pa_cons (pe_ix ix_list (pv 0) (pv 1) (fun _ _ => rfl)) (pa_cons (pe_callB call_len_seq (by rfl) T.z_len (by decide +kernel) (pa_cons (pv 0) pa_nil)) pa_nil)))))
    (pss_one ps_never)
    pss_nil))))), ?_⟩
  obtain ⟨a, rs, rfl, hS, hrw, hok, q⟩ := h
  have hlen : (refR rs).length = rs.length := List.length_map ..
  have hpos : 0 < rs.length := by rw [← sxr_len]; exact hok.g.pos
  have hfew := hok.few
  refine ⟨.ref a, rfl, a, _, rfl, .inl hS, rfl, _, rfl, ifF (int_ne (by omega)) ?_⟩
  refine ⟨.ref a, rfl, a, _, rfl, .inl hS, ((refR rs).length : Nat), rfl, by omega, by omega, for_range (n := (refR rs).length) (fun i σ H2 => H2 = H ∧ ∃ y, σ = [some (.ref a), y]) ⟨rfl, none, rfl⟩ ?_ ?_⟩
  · rintro i σ H2 hi ⟨rfl, y, rfl⟩
    have hi2 : i < rs.length := by omega
    have hq : rs[i]? = some rs[i] := List.getElem?_eq_getElem hi2
    have hqm := List.getElem_mem hi2
    refine ⟨_, rfl, _, rfl, a, _, _, _, rfl, rfl, hS, atI0 (get_refR hq), .ref a, rfl, a, _, rfl, .inl hS, rs[i], (refR rs).length, rfl, fun z hz => by rw [List.mem_singleton.mp hz]; exact hrw _ hqm, (hok.nm _ hqm).1, (hok.nm _ hqm).2, ?_, true, rfl, iteF ⟨rfl, _, rfl⟩⟩
    have := hok.g.rows _ (List.mem_of_getElem? (get_sxr hq))
    rw [sxr_len] at this
    rw [hlen]
    exact this
  · rintro σ H2 ⟨rfl, y, rfl⟩
    exact q
theorem ok_fault_place (T : Txt K mg) : Good P w K mg base 2 (He.ga K "fault_place") ["graph", "run"] [] (sp_fault_place K) := by
  refine good_of T.f_fault_place sc_fault_place (fun vs H Q E h => ?_) (fun _ _ _ _ _ _ us hl => match us, hl with | [_, _], _ => rfl) (fun cdv A outer s H vs Q E hr h => ?_)
  · obtain ⟨_, _, _, _, rfl, _⟩ := h
    rfl
  refine ⟨_, (pss_cons (ps_if (pw_or (pt_cmpR op_eq (pe_callB call_len_seq (by rfl) T.z_len (by decide +kernel) (pa_cons (pv 1) pa_nil)) pe_int (nomark _)) (pw_or1 (pt_cmpR op_ne (pe_ix ix_list (pv 1) pe_int (fun _ _ => rfl)) pe_int (nomark _)))).pt
    (pss_one (ps_ret pe_int))
    pss_nil)
  (pss_cons (ps_for PassesOwn.never rfl (pi_range2 (by rfl) T.z_range (pa_cons pe_int (pa_cons (pe_callB call_len_seq (by rfl) T.z_len (by decide +kernel) (pa_cons (pv 1) pa_nil)) pa_nil))) (pg_name (i := 2) sc_fault_place.nd rfl (Or.inl rfl))
    (pss_one (ps_if (pw_or (pt_not (pt_chain op_le op_lt pe_int (pe_ix ix_list (pv 1) (pv 2) (fun _ _ => rfl)) (pe_fld (pv 0) rfl))) (pw_or1 (pt_cmpR op_notIn_seq (pe_ix ix_list (pv 1) (pv 2) (fun _ _ => rfl)) (pe_mtg (pv 0) T.cl_Graph T.me_Graph_successors (ok_Graph_successors T) (hr.mono (j := 1) (by decide)) (pa_cons (pe_ix ix_list (pv 1) (pe_op op_sub (pv 2) pe_int) (fun _ _ => rfl)) pa_nil)) (by rfl)))).pt
    (pss_one (ps_ret (pv 2)))
    pss_nil)))
  (pss_cons (ps_if (pt_cmpR op_notIn_seq (pe_glob (v := .int (-1)) (by rfl) T.k_END.choose_spec ⟨_, rfl⟩) (pe_mtg (pv 0) T.cl_Graph T.me_Graph_successors (ok_Graph_successors T) (hr.mono (j := 1) (by decide)) (pa_cons (pe_ix ix_list (pv 1) (pe_un un_neg pe_int) (fun _ _ => rfl)) pa_nil)) (by rfl))
    (pss_one (ps_ret (pe_callB call_len_seq (by rfl) T.z_len (by decide +kernel) (pa_cons (pv 1) pa_nil))))
    pss_nil)
  (pss_one (ps_ret pe_non))))), ?_⟩
  obtain ⟨g, a, rs, r, rfl, hG, hA, hl, hR, q⟩ := h
  obtain ⟨dx, ra, h1, h2, h3⟩ := id hG
  have hgl : (sxr rs).length = rs.length := sxr_len rs
  have hpos : 0 < r.length := (List.getElem?_eq_some_iff.mp hR.first).1
  have hlen : (r.map V.int).length = r.length := List.length_map ..
  have hsucc : ∀ {x : Int} {l : List Int}, 0 ≤ x → (sxr rs)[x.toNat]? = some l → ∃ (n : Nat) (qr : Addr × Addr × Rw), x = (n : Int) ∧ rs[n]? = some qr ∧ qr.2.2.2.2 = l ∧ H qr.2.1 = some (itup l) := fun {x l} h0 hx => by
    obtain ⟨qr, e1, e2⟩ := sxr_get hx
    refine ⟨x.toNat, qr, by omega, e1, e2, ?_⟩
    rw [← e2]
    exact (h3 qr (List.mem_of_getElem? e1)).2
  refine ⟨.ref a, rfl, a, _, rfl, .inl hA, rfl, _, rfl, ifF (int_ne (by omega)) ⟨.ref a, rfl, a, _, 0, _, rfl, rfl, hA, atI_nat (j := 0) (get_map hR.first), rfl, _, rfl, ifNF rfl ?_⟩⟩
  refine ⟨.ref a, rfl, a, _, rfl, .inl hA, 1, _, rfl, ⟨by decide, by decide, by omega, by omega⟩, for_range (lo := 1) (n := (((r.map V.int).length : Nat) - (1 : Int)).toNat) (fun i σ H2 => H2 = H ∧ ∃ y, σ = [some (.ref g), some (.ref a), y]) ⟨rfl, none, rfl⟩ ?_ ?_⟩
  · rintro i σ H2 hi ⟨rfl, y, rfl⟩
    have hi1 : i + 1 < r.length := by omega
    have hx : r[i]? = some r[i] := List.getElem?_eq_getElem (by omega)
    have hy : r[i + 1]? = some r[i + 1] := List.getElem?_eq_getElem hi1
    obtain ⟨l, hl1, hl2⟩ := hR.next i _ _ hx hy
    have hxr := hR.rng _ (List.mem_of_getElem? hx)
    have hyr := hR.rng _ (List.mem_of_getElem? hy)
    generalize r[i] = x at hx hl1 hxr
    generalize r[i + 1] = z at hy hl2 hyr
    obtain ⟨n, qr, rfl, e1, e2, e3⟩ := hsucc hxr.1 hl1
    have a1 : atI (r.map V.int) (1 + (i : Int)) = some (.int z) := atIe (k := i + 1) (get_map hy) (by omega)
    have a2 : atI (r.map V.int) (1 + (i : Int) - 1) = some (.int (n : Int)) := atIe (k := i) (get_map hx) (by omega)
    refine ⟨.ref a, rfl, _, rfl, a, _, _, _, rfl, rfl, hA, a1, _, _, rfl, rfl, _, rfl, ifT hyr.1 ⟨_, rfl, g, _, dx, _, _, rfl, h1, T.cl_Graph, T.na_Graph_size, rfl, _, _, rfl, rfl, _, rfl, ifNF (show z < (rs.length : Int) by omega) ?_⟩⟩
    refine ⟨.ref a, rfl, _, rfl, a, _, _, _, rfl, rfl, hA, a1, _, rfl, g, dx, _, rfl, h1, rfl, .ref a, rfl, _, rfl, _, _, rfl, rfl, a, _, _, _, rfl, rfl, hA, a2, g, rs, n, qr, rfl, hG, e1, qr.2.1, _, rfl, .inr (SqT.of e3), rfl, flat_ints _, _, rfl, ?_⟩
    show (if (!inV (.int z) (l.map V.int)) = true then _ else _)
    rw [neg_in hl2]
    exact iteF ⟨rfl, _, rfl⟩
  · rintro σ H2 ⟨rfl, y, rfl⟩
    obtain ⟨x, l, hx, hl1, hl2⟩ := hR.last
    have hxr := hR.rng _ (List.mem_of_getElem? hx)
    have a1 := atI_end hx
    obtain ⟨n, qr, rfl, e1, e2, e3⟩ := hsucc hxr.1 hl1
    refine ⟨_, rfl, g, dx, _, rfl, h1, rfl, .ref a, rfl, 1, rfl, a, _, _, _, rfl, rfl, hA, a1, g, rs, n, qr, rfl, hG, e1, qr.2.1, _, rfl, .inr (SqT.of e3), rfl, flat_ints _, _, rfl, ?_⟩
    show (if (!inV (.int (-1)) (l.map V.int)) = true then _ else _)
    rw [neg_in hl2]
    exact iteF q
theorem ok_check_team (T : Txt K mg) : Good P w K mg base 3 (He.ga K "check_team") ["graph", "runs"] [] (sp_check_team K) := by
  refine good_of T.f_check_team sc_check_team (fun vs H Q E h => ?_) (fun _ _ _ _ _ _ us hl => match us, hl with | [_, _], _ => rfl) (fun cdv A outer s H vs Q E hr h => ?_)
  · obtain ⟨_, _, _, _, rfl, _⟩ := h
    rfl
  refine ⟨_, (pss_one (ps_for PassesOwn.never rfl (pi_range1 (by rfl) T.z_range (pa_cons (pe_callB call_len_seq (by rfl) T.z_len (by decide +kernel) (pa_cons (pv 1) pa_nil)) pa_nil)) (pg_name (i := 2) sc_check_team.nd rfl (Or.inl rfl))
    (pss_cons (ps_set (i := 3) sc_check_team.nd rfl (Or.inl rfl) (pe_cg (ok_fault_place T) (hr.mono (j := 2) (by decide)) (by rfl) T.g_fault_place (pa_cons (pv 0) (pa_cons (pe_ix ix_list (pv 1) (pv 2) (fun _ _ => rfl)) pa_nil))))
  (pss_one (ps_if (pt_cmpR op_notN (pv 3) pe_non (nomark _))
    (pss_one ps_never)
    pss_nil))))), ?_⟩
  obtain ⟨g, a, rs, ws, rfl, hG, hA, hL, hl, hR, q⟩ := h
  have hlen : (refL ws).length = ws.length := List.length_map ..
  refine ⟨.ref a, rfl, a, _, rfl, .inl hA, ((refL ws).length : Nat), rfl, by omega, by omega, for_range (n := (refL ws).length) (fun i σ H2 => H2 = H ∧ ∃ y2 y3, σ = [some (.ref g), some (.ref a), y2, y3]) ⟨rfl, none, none, rfl⟩ ?_ ?_⟩
  · rintro i σ H2 hi ⟨rfl, y2, y3, rfl⟩
    have hi2 : i < ws.length := by omega
    have hw : ws[i]? = some ws[i] := List.getElem?_eq_getElem hi2
    have hwm := List.getElem_mem hi2
    have hw2 : (refL ws)[i]? = some (.ref ws[i].1) := by
      unfold refL
      rw [List.getElem?_map, hw]
      rfl
    refine ⟨_, rfl, _, rfl, _, rfl, a, _, _, _, rfl, rfl, hA, atI0 hw2, g, ws[i].1, rs, ws[i].2, rfl, hG, hL _ hwm, (hR _ hwm).1, (hR _ hwm).2, ?_⟩
    exact ⟨_, rfl, rfl, _, rfl, ifNF rfl ⟨rfl, _, _, rfl⟩⟩
  · rintro σ H2 ⟨rfl, y2, y3, rfl⟩
    exact q
end
end K34

namespace K34
open PySem PySem.Spec PyProof.Rows L2 Fw Lay
section
variable {P : Program} {w : World} {K : PySem.W.Frag} {mg : Str → Option Value} {base : Heap}
theorem Rc_mono {g g2 : Nx} {S S2 : Nat → Prop} (hg : ∀ (v u : Nat) (l : List Int), g[v]? = some l → (u : Int) ∈ l → ∃ l2, g2[v]? = some l2 ∧ (u : Int) ∈ l2) (hS : ∀ v, S v → S2 v) {v : Nat} (h : Rc g S v) : Rc g2 S2 v := by
  induction h with
  | base h => exact .base (hS _ h)
  | step _ h1 h2 ih =>
    obtain ⟨l2, h3, h4⟩ := hg _ _ _ h1 h2
    exact .step ih h3 h4
theorem all_marks {n : Nat} {bs : List Bool} (hl : bs.length = n) (h : ∀ v, v < n → bs[v]? = some true) : inV (.bl false) (bs.map V.bl) = false := by
  unfold inV
  rw [List.any_map, List.any_eq_false]
  intro b hb
  obtain ⟨j, hj, e⟩ := List.mem_iff_getElem.mp hb
  have h1 := h j (by omega)
  rw [List.getElem?_eq_getElem hj, e] at h1
  rw [Option.some.inj h1]
  decide
theorem flat_bls (bs : List Bool) : (bs.map V.bl).all flatV = true := by
  rw [List.all_map]
  exact List.all_eq_true.mpr fun d _ => rfl
theorem filter_take {f : Int → Bool} {ts : List Int} {j : Nat} {t : Int} (h : ts[j]? = some t) : (ts.take (j + 1)).filter f = (ts.take j).filter f ++ if f t = true then [t] else [] := by
  rw [List.take_add_one, h, List.filter_append]
  congr 1
  show List.filter f [t] = _
  by_cases hf : f t = true
  · rw [if_pos hf, List.filter_cons_of_pos hf, List.filter_nil]
  · rw [if_neg hf, List.filter_cons_of_neg hf, List.filter_nil]
theorem ok_nexts_of (T : Txt K mg) : Good P w K mg base 1 (He.ga K "nexts_of") ["rows"] [] (sp_nexts_of K) := by
  refine good_of T.f_nexts_of sc_nexts_of (fun vs H Q E h => ?_) (fun _ _ _ _ _ _ us hl => match us, hl with | [_], _ => rfl) (fun cdv A outer s H vs Q E hr h => ?_)
  · obtain ⟨_, _, rfl, _⟩ := h
    rfl
  refine ⟨_, (pss_one (ps_ret (pe_lc (own := [("row", 1)]) (g := (gName 1)) (tt := tYes) rfl sc_nexts_of.nd (pi_list (pv 0)) (blkOk_by (own := [("row", 1)]) (N := ["rows", "row", "target"]) (sc := defScope s_nexts_of) (by decide +kernel)) (fun _ _ _ _ _ => (pg_name (i := 1) sc_nexts_of.nd rfl (Or.inl rfl))) (fun _ _ _ _ _ => pts_nil) (fun _ _ _ _ _ => (pe_lc (own := [("target", 2)]) (g := (gName 2)) rfl sc_nexts_of.nd (pi_tupE (K := K) rfl (pi_tup (pe_ix (ix_tupE (K := K) rfl) (pv 1) pe_int (fun _ _ => rfl)))) (blkOk_by (own := [("target", 2)]) (N := ["rows", "row", "target"]) (sc := { kind := .function, names := [(".0", .local), ("row", .local)], isGenerator := false, isCoroutine := false }) (by decide +kernel)) (fun _ _ _ _ _ => (pg_name (i := 2) sc_nexts_of.nd rfl (Or.inl rfl))) (fun _ _ _ _ _ => (pts_one (pt_cmpR op_ne (pv 2) (pe_glob (v := .int (-1)) (by rfl) T.k_END.choose_spec ⟨_, rfl⟩) (nomark _)))) (fun _ _ _ _ _ => (pv 2))))))), ?_⟩
  obtain ⟨a, rs, rfl, hS, hrw, hl, h4, q⟩ := h
  have hlen : (refR rs).length = rs.length := List.length_map ..
  refine ⟨.ref a, rfl, a, rfl, ⟨_, hS⟩, fun D hD => lc_list (K := K) (a := a) (xs := refR rs) (fun i H3 => Same H H3 ∧ ∃ ns : Ws, H3 D = some (.lst (refL ns)) ∧ (∀ z ∈ ns, z.1 ≠ D ∧ H3 z.1 = some (ilst z.2)) ∧ ns.map (·.2) = (rs.take i).map (fun q : Addr × Addr × Rw => q.2.2.2.2.filter fun t => decide (t ≠ -1)))
    ⟨same_new hD, [], upd_same, fun u hu => (nomatch hu), rfl⟩ (fun i H2 _ h => h.1.seq hS) ?_ ?_⟩
  · rintro i x H3 hi ⟨s3, ns, h3, hn3, em⟩
    obtain ⟨qr, hq, hqm, rfl⟩ := refR_get hi
    have hilt := (List.getElem?_eq_some_iff.mp hq).1
    have hnl : ns.length ≤ i := by
      have e := congrArg List.length em
      rw [List.length_map, List.length_map, List.length_take] at e
      omega
    obtain ⟨q1, q2⟩ := hrw qr hqm
    have hU : ∀ {H4 : Hp}, Same H3 H4 → SqT K H4 qr.2.1 (qr.2.2.2.2.map V.int) := fun s => SqT.of (s _ _ (s3 _ _ q2))
    have hq4 := h4 qr hqm
    refine ⟨rfl, yes_then ?_⟩
    refine ⟨_, rfl, qr.1, _, 2, _, rfl, rfl, SqT.of (s3 _ _ q1), rfl, qr.2.1, rfl, ⟨_, hU (Same.refl _)⟩, fun D2 hD2 => lc_tup (K := K) (a := qr.2.1) (xs := qr.2.2.2.2.map V.int) (fun j H4 => Same H3 H4 ∧ H4 D2 = some (ilst ((qr.2.2.2.2.take j).filter fun t => decide (t ≠ -1)))) ⟨same_new hD2, upd_same⟩ (fun j H4 _ h => hU h.1) ?_ ?_⟩
    · rintro j x H4 hj ⟨s4, hD4⟩
      obtain ⟨t, ht, rfl⟩ := map_get hj
      have hjl := (List.getElem?_eq_some_iff.mp ht).1
      by_cases he : t = -1
      · refine ⟨rfl, _, rfl, rfl, _, rfl, ifNF (by rw [he]) ⟨s4, ?_⟩⟩
        rw [filter_take ht, if_neg (by simp [he]), List.append_nil]
        exact hD4
      · refine ⟨rfl, _, rfl, rfl, _, rfl, ifNT (int_ne he) ⟨_, rfl, _, hD4, small1000 (by rw [List.length_map]; have := List.length_filter_le (fun t : Int => decide (t ≠ -1)) (qr.2.2.2.2.take j); rw [List.length_take] at this; omega), same_mut s4 hD2, ?_⟩⟩
        rw [upd_same, filter_take ht, if_pos (by simp [he])]
        unfold ilst
        rw [List.map_append]
        rfl
    · rintro H4 ⟨s4, hD4⟩
      rw [List.length_map, List.take_length] at hD4
      have hlD : D2 ≠ D := (ne_of_none h3 hD2).symm
      refine ⟨_, s4 _ _ h3, small1000 (by unfold refL; rw [List.length_map]; omega), same_mut (s3.trans s4) hD, ns ++ [(D2, qr.2.2.2.2.filter fun t => decide (t ≠ -1))], ?_, fun w' h => ?_, ?_⟩
      · rw [upd_same]
        unfold refL
        rw [List.map_append]
        rfl
      · rcases List.mem_append.mp h with h | h
        · refine ⟨(hn3 w' h).1, ?_⟩
          rw [upd_ne (hn3 w' h).1]
          exact s4 _ _ (hn3 w' h).2
        · rw [List.mem_singleton.mp h]
          refine ⟨hlD, ?_⟩
          show upd H4 D _ D2 = _
          rw [upd_ne hlD]
          exact hD4
      · rw [List.map_append, em, List.take_add_one, hq, List.map_append]
        rfl
  · rintro H3 ⟨s3, ns, h3, hn3, em⟩
    rw [hlen, List.take_length] at em
    refine q H3 D ns s3 hD h3 (fun z hz => (hn3 z hz).2) ?_
    rw [em]
    unfold sxr
    rw [List.map_map]
    rfl
theorem ok_backs_of (T : Txt K mg) : Good P w K mg base 1 (He.ga K "backs_of") ["rows"] [] (sp_backs_of K) := by
  refine good_of T.f_backs_of sc_backs_of (fun vs H Q E h => ?_) (fun _ _ _ _ _ _ us hl => match us, hl with | [_], _ => rfl) (fun cdv A outer s H vs Q E hr h => ?_)
  · obtain ⟨_, _, rfl, _⟩ := h
    rfl
  refine ⟨_, (pss_cons (ps_setLc (i := 1) (own := [("row", 4)]) (g := (gName 4)) (tt := tYes) rfl sc_backs_of.nd rfl rfl (sw_true rfl rfl rfl (by decide +kernel)) (pi_list (pv 0)) (blkOk_by (own := [("row", 4)]) (N := ["rows", "backs", "node", "target", "row"]) (sc := defScope s_backs_of) (by decide +kernel)) (fun _ _ _ _ _ => (pg_name (i := 4) sc_backs_of.nd rfl (Or.inl rfl))) (fun _ _ _ _ _ => pts_nil) (fun _ _ _ _ _ => (pe_lst pa_nil)))
  (pss_cons (ps_for PassesOwn.never rfl (pi_range1 (by rfl) T.z_range (pa_cons (pe_callB call_len_seq (by rfl) T.z_len (by decide +kernel) (pa_cons (pv 0) pa_nil)) pa_nil)) (pg_name (i := 2) sc_backs_of.nd rfl (Or.inl rfl))
    (pss_one (ps_for PassesOwn.never rfl (pi_tup (pe_ix ix_tup (pe_ix ix_list (pv 0) (pv 2) (fun _ _ => rfl)) pe_int (fun _ _ => rfl))) (pg_name (i := 3) sc_backs_of.nd rfl (Or.inl rfl))
    (pss_one (ps_if (pt_cmpR op_ne (pv 3) (pe_glob (v := .int (-1)) (by rfl) T.k_END.choose_spec ⟨_, rfl⟩) (nomark _))
    (pss_one (ps_expr (pe_bm PySem.F.plainAttrs_list PySem.F.slot_list_append PySem.F.type_list_append mt_append (pe_ix ix_list (pv 1) (pv 3) (fun _ _ => rfl)) (pa_cons (pv 2) pa_nil))))
    pss_nil)))))
  (pss_one (ps_ret (pv 1))))), ?_⟩
  obtain ⟨a, rs, rfl, hS, hrw, hl, hrow, q⟩ := h
  have hlen : (refR rs).length = rs.length := List.length_map ..
  refine ⟨.ref a, rfl, a, rfl, ⟨_, hS⟩, fun D hD => lc_list (K := K) (a := a) (xs := refR rs) (fun i H3 => Same H H3 ∧ ∃ as : List Addr, H3 D = some (.lst (as.map V.ref)) ∧ (∀ z ∈ as, H z = none ∧ z ≠ D ∧ H3 z = some (ilst [])) ∧ as.Nodup ∧ as.length = i)
    ⟨same_new hD, [], upd_same, fun u hu => (nomatch hu), List.nodup_nil, rfl⟩ (fun i H2 _ h => h.1.seq hS) ?_ ?_⟩
  · rintro i x H3 hi ⟨s3, as, h3, ha3, nd, hal⟩
    obtain ⟨qr, hq, hqm, rfl⟩ := refR_get hi
    have hilt := (List.getElem?_eq_some_iff.mp hq).1
    refine ⟨rfl, yes_then ⟨Nat.zero_le _, fun l nl => ?_⟩⟩
    have hlD : l ≠ D := (ne_of_none h3 nl).symm
    refine ⟨_, same_new nl _ _ h3, small1000 (by rw [List.length_map]; omega), same_mut (s3.trans (same_new nl)) hD, as ++ [l], ?_, fun z hz => ?_, ?_, by rw [List.length_append, hal]; rfl⟩
    · rw [upd_same, List.map_append]
      rfl
    · rcases List.mem_append.mp hz with hz | hz
      · obtain ⟨z1, z2, z3⟩ := ha3 z hz
        refine ⟨z1, z2, ?_⟩
        rw [upd_ne z2]
        exact same_new nl _ _ z3
      · rw [List.mem_singleton.mp hz]
        refine ⟨s3.free nl, hlD, ?_⟩
        rw [upd_ne hlD, upd_same]
        rfl
    · refine List.nodup_append.mpr ⟨nd, List.pairwise_singleton _ _, fun x hx y hy e => ?_⟩
      have h1 := (ha3 x hx).2.2
      rw [e, List.mem_singleton.mp (show y ∈ [l] from hy), nl] at h1
      cases h1
  rintro H2 ⟨s2, as, h2, ha2, nd, hal⟩
  rw [hlen] at hal
  dsimp only
  have hAD : ∀ z ∈ as, z ≠ D := fun z hz => (ha2 z hz).2.1
  refine ⟨.ref a, rfl, a, _, rfl, .inl (s2.seq hS), ((refR rs).length : Nat), rfl, by omega, by omega, for_range (n := (refR rs).length) (fun i σ H5 => Same H H5 ∧ H5 D = some (.lst (as.map V.ref)) ∧ (∃ cs : List (List Int), cs.length = rs.length ∧ (∀ (j : Nat) (z : Addr) (c : List Int), as[j]? = some z → cs[j]? = some c → H5 z = some (ilst c)) ∧ (∀ c ∈ cs, c.length ≤ 4 * i ∧ ∀ t ∈ c, 0 ≤ t ∧ t < (rs.length : Int)) ∧
      ∀ (v u : Nat) (l : List Int), v < i → (sxr rs)[v]? = some l → (u : Int) ∈ l → ∃ c, cs[u]? = some c ∧ (v : Int) ∈ c) ∧ ∃ y2 y3, σ = [some (.ref a), some (.ref D), y2, y3, none])
    ⟨s2, h2, ⟨List.replicate rs.length [], List.length_replicate .., fun j z c hz hc => ?_, fun c hc => ?_, fun v u l hv => absurd hv (Nat.not_lt_zero _)⟩, none, none, rfl⟩ ?_ ?_⟩
  · rw [List.getElem?_replicate] at hc
    split at hc
    · rw [← Option.some.inj hc]
      exact (ha2 z (List.mem_of_getElem? hz)).2.2
    · cases hc
  · rw [List.eq_of_mem_replicate hc]
    exact ⟨Nat.zero_le _, fun t ht => nomatch ht⟩
  · rintro i σ H5 hi ⟨s5, h5, ⟨cs, hcl, hcs, hcb, hcd⟩, y2, y3, rfl⟩
    have hi2 : i < rs.length := by omega
    have hq : rs[i]? = some rs[i] := List.getElem?_eq_getElem hi2
    have hqm : rs[i] ∈ rs := List.getElem_mem hi2
    generalize rs[i] = qr at hq hqm
    obtain ⟨q1, q2⟩ := hrw qr hqm
    obtain ⟨r1, r2, r3⟩ := hrow _ (List.mem_of_getElem? (get_sxr hq))
    refine ⟨_, rfl, _, rfl, a, _, _, _, rfl, rfl, s5.seq hS, atI0 (get_refR hq), qr.1, _, 2, _, rfl, rfl, SqT.of (s5 _ _ q1), rfl, qr.2.1, rfl, ⟨_, SqT.of (s5 _ _ q2)⟩, for_it (walk_tup (K := K) (a := qr.2.1) (xs := qr.2.2.2.2.map V.int)) (fun j σ H6 => Same H H6 ∧ H6 D = some (.lst (as.map V.ref)) ∧ (∃ cs : List (List Int), cs.length = rs.length ∧ (∀ (j : Nat) (z : Addr) (c : List Int), as[j]? = some z → cs[j]? = some c → H6 z = some (ilst c)) ∧ (∀ c ∈ cs, c.length ≤ 4 * i + j ∧ ∀ t ∈ c, 0 ≤ t ∧ t < (rs.length : Int)) ∧
        (∀ (v u : Nat) (l : List Int), v < i → (sxr rs)[v]? = some l → (u : Int) ∈ l → ∃ c, cs[u]? = some c ∧ (v : Int) ∈ c) ∧ ∀ u : Nat, (u : Int) ∈ qr.2.2.2.2.take j → ∃ c, cs[u]? = some c ∧ (i : Int) ∈ c) ∧ ∃ y3, σ = [some (.ref a), some (.ref D), some (.int (0 + (i : Int))), y3, none])
      ⟨s5, h5, ⟨cs, hcl, hcs, fun c hc => ⟨by have := (hcb c hc).1; omega, (hcb c hc).2⟩, hcd, fun u hu => (nomatch hu)⟩, y3, rfl⟩ (fun j σ H6 _ h => SqT.of (h.1 _ _ q2)) ?_ ?_⟩
    · rintro j x σ H6 H7 hj ⟨s6, h6, ⟨cs, hcl, hcs, hcb, hcd, hcj⟩, y3, rfl⟩ ⟨rfl, hx⟩
      obtain ⟨t, ht, rfl⟩ := map_get hx
      have hjl := (List.getElem?_eq_some_iff.mp ht).1
      have htk : ∀ u : Nat, (u : Int) ∈ qr.2.2.2.2.take (j + 1) → (u : Int) ∈ qr.2.2.2.2.take j ∨ (u : Int) = t := fun u hu => by
        rw [List.take_add_one, ht] at hu
        rcases List.mem_append.mp hu with h | h
        · exact .inl h
        · exact .inr (List.mem_singleton.mp h)
      by_cases he : t = -1
      · refine ⟨_, rfl, rfl, _, rfl, ifNF (by rw [he]) ⟨s6, h6, ⟨cs, hcl, hcs, fun c hc => ⟨by have := (hcb c hc).1; omega, (hcb c hc).2⟩, hcd, fun u hu => ?_⟩, _, rfl⟩⟩
        rcases htk u hu with h | h
        · exact hcj u h
        · omega
      · have h3 := r3 t (List.mem_of_getElem? ht)
        obtain ⟨tn, rfl⟩ : ∃ tn : Nat, t = tn := ⟨t.toNat, by omega⟩
        have htl : tn < rs.length := by omega
        have hz : as[tn]? = some as[tn] := List.getElem?_eq_getElem (by omega)
        have hc : cs[tn]? = some cs[tn] := List.getElem?_eq_getElem (by omega)
        have hzm : as[tn] ∈ as := List.getElem_mem _
        have hcm : cs[tn] ∈ cs := List.getElem_mem _
        generalize as[tn]'(by omega) = z at hz hzm
        generalize cs[tn]'(by omega) = c at hc hcm
        have hzc := hcs tn z c hz hc
        have hz2 : (as.map V.ref)[tn]? = some (.ref z) := by rw [List.getElem?_map, hz]; rfl
        have hcl4 := (hcb c hcm).1
        refine ⟨_, rfl, rfl, _, rfl, ifNT (int_ne he) ⟨_, rfl, _, rfl, D, _, _, _, rfl, rfl, SqL.of h6, atI_nat hz2, .inl ⟨rfl, _, SqL.of hzc⟩, _, rfl, z, _, _, rfl, rfl, hzc, ?_, ?_⟩⟩
        · rw [List.length_map]
          exact Nat.lt_of_le_of_lt (show c.length ≤ 5000 by omega) (by decide)
        have ei : (0 + (i : Int)) = (i : Int) := by omega
        rw [ei]
        refine ⟨same_mut s6 (ha2 z hzm).1, ?_, ⟨cs.set tn (c ++ [(i : Int)]), by rw [List.length_set]; exact hcl, fun k z2 c2 hz2 hc2 => ?_, fun c2 hc2 => ?_, fun v u l hv hl hu => ?_, fun u hu => ?_⟩, _, by rfl⟩
        · rw [upd_ne (hAD z hzm).symm]
          exact h6
        · rw [List.getElem?_set] at hc2
          by_cases hk : tn = k
          · subst hk
            rw [if_pos rfl, if_pos (by omega)] at hc2
            rw [hz] at hz2
            rw [← Option.some.inj hz2, ← Option.some.inj hc2, upd_same]
            unfold ilst
            rw [List.map_append]
            rfl
          · rw [if_neg hk] at hc2
            have hne : z2 ≠ z := fun e => by
              rw [e] at hz2
              have h1 := (List.getElem?_eq_some_iff.mp hz).1
              have h2 := (List.getElem?_eq_some_iff.mp hz2).1
              exact hk ((List.getElem_inj nd (h₀ := h1) (h₁ := h2)).mp (by rw [(List.getElem?_eq_some_iff.mp hz).2, (List.getElem?_eq_some_iff.mp hz2).2]))
            rw [upd_ne hne]
            exact hcs k z2 c2 hz2 hc2
        · rcases List.mem_or_eq_of_mem_set hc2 with h | h
          · exact ⟨by have := (hcb c2 h).1; omega, (hcb c2 h).2⟩
          · rw [h, List.length_append]
            refine ⟨by show c.length + 1 ≤ _; omega, fun t ht => ?_⟩
            rcases List.mem_append.mp ht with ht | ht
            · exact (hcb c hcm).2 t ht
            · rw [List.mem_singleton.mp ht]
              omega
        · obtain ⟨c2, h1, h2⟩ := hcd v u l hv hl hu
          by_cases hk : tn = u
          · subst hk
            rw [hc] at h1
            refine ⟨_, by rw [List.getElem?_set, if_pos rfl, if_pos (by omega)], ?_⟩
            rw [Option.some.inj h1]
            exact List.mem_append_left _ h2
          · exact ⟨c2, by rw [List.getElem?_set, if_neg hk]; exact h1, h2⟩
        · rcases htk u hu with h | h
          · obtain ⟨c2, h1, h2⟩ := hcj u h
            by_cases hk : tn = u
            · subst hk
              rw [hc] at h1
              refine ⟨_, by rw [List.getElem?_set, if_pos rfl, if_pos (by omega)], ?_⟩
              rw [Option.some.inj h1]
              exact List.mem_append_left _ h2
            · exact ⟨c2, by rw [List.getElem?_set, if_neg hk]; exact h1, h2⟩
          · have hk : tn = u := by omega
            subst hk
            exact ⟨_, by rw [List.getElem?_set, if_pos rfl, if_pos (by omega)], List.mem_append_right _ (List.mem_singleton.mpr rfl)⟩
    · rintro σ H6 ⟨s6, h6, ⟨cs, hcl, hcs, hcb, hcd, hcj⟩, y3, rfl⟩
      rw [List.length_map] at hcb hcj
      rw [List.take_length] at hcj
      refine ⟨s6, h6, ⟨cs, hcl, hcs, fun c hc => ⟨by have := (hcb c hc).1; omega, (hcb c hc).2⟩, fun v u l hv hl hu => ?_⟩, _, _, rfl⟩
      by_cases hvi : v = i
      · subst hvi
        rw [get_sxr hq] at hl
        rw [← Option.some.inj hl] at hu
        exact hcj u hu
      · exact hcd v u l (by omega) hl hu
  · rintro σ H5 ⟨s5, h5, ⟨cs, hcl, hcs, hcb, hcd⟩, y2, y3, rfl⟩
    have hle : as.length ≤ cs.length := by omega
    have hle2 : cs.length ≤ as.length := by omega
    refine ⟨_, rfl, q H5 D (as.zip cs) s5 hD ?_ (fun z hz => ?_) (by rw [List.length_zip]; omega) (fun z hz => ?_) (fun v u l hl hu => ?_)⟩
    · rw [h5]
      have e : (as.zip cs).map Prod.fst = as := List.map_fst_zip hle
      unfold refL
      rw [← e, List.map_map, List.map_fst_zip hle]
      rfl
    · obtain ⟨j, hj, e⟩ := List.mem_iff_getElem.mp hz
      rw [List.length_zip] at hj
      rw [List.getElem_zip] at e
      rw [← e]
      exact hcs j _ _ (List.getElem?_eq_getElem (by omega)) (List.getElem?_eq_getElem (by omega))
    · exact (hcb z.2 (List.of_mem_zip (a := z.1) (b := z.2) hz).2).2
    · rw [List.map_snd_zip hle2]
      have hv : v < rs.length := by
        have := (List.getElem?_eq_some_iff.mp hl).1
        rw [sxr_len] at this
        exact this
      exact hcd v u l (by omega) hl hu
end
end K34

namespace K34
open PySem PySem.Spec PyProof.Rows L2 Fw Lay
section
variable {P : Program} {w : World} {K : PySem.W.Frag} {mg : Str → Option Value} {base : Heap}
theorem perm_few {n : Nat} {qs : List Nat} (nd : qs.Nodup) (h : ∀ v ∈ qs, v < n) : qs.length ≤ n := nodup_lt n qs nd h
theorem ok_spread (T : Txt K mg) : Good P w K mg base 1 (He.ga K "spread") ["lists", "starts"] [] (sp_spread K) := by
  refine good_of T.f_spread sc_spread (fun vs H Q E h => ?_) (fun _ _ _ _ _ _ us hl => match us, hl with | [_, _], _ => rfl) (fun cdv A outer s H vs Q E hr h => ?_)
  · obtain ⟨_, _, _, _, rfl, _⟩ := h
    rfl
  refine ⟨_, (pss_cons (ps_set (i := 2) sc_spread.nd rfl (Or.inl rfl) (pe_op op_rep (pe_lst (pa_cons pe_bl pa_nil)) (pe_callB call_len_seq (by rfl) T.z_len (by decide +kernel) (pa_cons (pv 0) pa_nil))))
  (pss_cons (ps_for PassesOwn.never rfl (pi_list (pv 1)) (pg_name (i := 3) sc_spread.nd rfl (Or.inl rfl))
    (pss_one (ps_asg pe_bl (pg_sub (pv 2) (pv 3) set_list))))
  (pss_cons (ps_set (i := 4) sc_spread.nd rfl (Or.inl rfl) (pe_callTy call_list_of (by rfl) T.z_list (by decide +kernel) (pa_cons (pv 1) pa_nil)))
  (pss_cons (ps_set (i := 5) sc_spread.nd rfl (Or.inl rfl) pe_int)
  (pss_cons (ps_while PassesOwn.never (pt_cmpR op_lt (pv 5) (pe_callB call_len_seq (by rfl) T.z_len (by decide +kernel) (pa_cons (pv 4) pa_nil)) (nomark _))
    (pss_cons (ps_for PassesOwn.never rfl (pi_list (pe_ix ix_list (pv 0) (pe_ix ix_list (pv 4) (pv 5) (fun _ _ => rfl)) (fun _ _ => rfl))) (pg_name (i := 6) sc_spread.nd rfl (Or.inl rfl))
    (pss_one (ps_if (pt_not (pt_val (pe_ix ix_list (pv 2) (pv 6) (fun _ _ => rfl))))
    (pss_cons (ps_asg pe_bl (pg_sub (pv 2) (pv 6) set_list))
  (pss_one (ps_expr (pe_bm PySem.F.plainAttrs_list PySem.F.slot_list_append PySem.F.type_list_append mt_append (pv 4) (pa_cons (pv 6) pa_nil)))))
    pss_nil)))
  (pss_one (ps_aug (i := 5) sc_spread.nd rfl (Or.inl rfl) pe_int ip_add))))
  (pss_one (ps_ret (pv 2)))))))), ?_⟩
  obtain ⟨a, b, ns, ss, rfl, hA, hL, hrg, hl, hB, hnd, hss, q⟩ := h
  have hlen : (refL ns).length = ns.length := List.length_map ..
  refine ⟨by show 1 ≤ sizeLine; decide, fun o no => ?_⟩
  refine ⟨.ref a, rfl, a, _, rfl, .inl ((same_new no).seq hA), o, _, _, rfl, rfl, upd_same, by omega, by omega, ?_, fun m nm => ?_⟩
  · rw [hlen]
    exact Nat.le_trans (show 1 * (ns.length : Int).toNat ≤ 1000 by omega) (by decide)
  have e0 : (List.replicate ((refL ns).length : Int).toNat [V.bl false]).flatten = (List.replicate ns.length false).map V.bl := by
    rw [List.flatten_replicate_singleton, List.map_replicate, hlen, Int.toNat_natCast]
  have s1 := (same_new (o := .lst [V.bl false]) no).trans (same_new (o := .lst (List.replicate ((refL ns).length : Int).toNat [V.bl false]).flatten) nm)
  have hmH : H m = none := (same_new (o := .lst [V.bl false]) no).free nm
  have hm1 : upd (upd H o (.lst [V.bl false])) m (.lst (List.replicate ((refL ns).length : Int).toNat [V.bl false]).flatten) m = some (.lst ((List.replicate ns.length false).map V.bl)) := by
    rw [upd_same, e0]
  generalize upd (upd H o (.lst [V.bl false])) m (.lst (List.replicate ((refL ns).length : Int).toNat [V.bl false]).flatten) = H1 at s1 hm1 ⊢
  refine ⟨.ref b, rfl, b, rfl, ⟨_, s1.seq hB⟩, for_list (K := K) (a := b) (xs := (nmap ss).map V.int) (fun i σ H2 => Same H H2 ∧ (∃ bs : List Bool, H2 m = some (.lst (bs.map V.bl)) ∧ bs.length = ns.length ∧ ∀ v : Nat, bs[v]? = some true ↔ v ∈ ss.take i) ∧ ∃ y3, σ = [some (.ref a), some (.ref b), some (.ref m), y3, none, none, none])
    ⟨s1, ⟨_, hm1, List.length_replicate .., fun v => ?_⟩, none, rfl⟩ (fun i σ H2 _ h => h.1.seq hB) ?_ ?_⟩
  · rw [List.getElem?_replicate]
    constructor
    · intro h
      split at h
      · cases h
      · cases h
    · intro h
      cases h
  · rintro i x σ H2 hi ⟨s2, ⟨bs, h2, hbl, hbs⟩, y3, rfl⟩
    obtain ⟨s, hs, rfl⟩ : ∃ s, ss[i]? = some s ∧ x = .int (s : Int) := by
      unfold nmap at hi
      rw [List.map_map, List.getElem?_map] at hi
      cases e : ss[i]? with
      | none =>
        rw [e] at hi
        cases hi
      | some s =>
        rw [e] at hi
        exact ⟨s, rfl, (Option.some.inj hi).symm⟩
    have hsl := hss s (List.mem_of_getElem? hs)
    refine ⟨_, rfl, _, rfl, m, _, _, s, rfl, rfl, h2, ixN_nat (by rw [List.length_map]; omega), same_mut s2 hmH, ⟨bs.set s true, ?_, by rw [List.length_set]; exact hbl, fun v => ?_⟩, _, rfl⟩
    · rw [upd_same, List.map_set]
    · rw [List.take_add_one, hs, List.getElem?_set, List.mem_append]
      by_cases hv : s = v
      · subst hv
        rw [if_pos rfl, if_pos (by omega)]
        exact ⟨fun _ => .inr (List.mem_singleton.mpr rfl), fun _ => rfl⟩
      · rw [if_neg hv, hbs]
        exact ⟨.inl, fun h => h.elim id fun h => absurd (List.mem_singleton.mp h).symm hv⟩
  rintro σ H2 ⟨s2, ⟨bs0, h2, hbl0, hbs0⟩, y3, rfl⟩
  have el : ((nmap ss).map V.int).length = ss.length := by
    unfold nmap
    rw [List.length_map, List.length_map]
  rw [el, List.take_length] at hbs0
  refine ⟨.ref b, rfl, b, _, rfl, .inl (s2.seq hB), fun qa nqa => ?_⟩
  have nqH : H qa = none := s2.free nqa
  have s3 := s2.trans (same_new (o := .lst ((nmap ss).map V.int)) nqa)
  have hmq : m ≠ qa := ne_of_none h2 nqa
  have h3m := same_new (o := .lst ((nmap ss).map V.int)) nqa _ _ h2
  have h3q : upd H2 qa (.lst ((nmap ss).map V.int)) qa = some (ilst (nmap ss)) := upd_same
  generalize upd H2 qa (.lst ((nmap ss).map V.int)) = H3 at s3 h3m h3q ⊢
  have hZn : ∀ {v : Nat} {l : List Int}, (ns.map (·.2))[v]? = some l → ∃ z, ns[v]? = some z ∧ z ∈ ns ∧ z.2 = l := fun {v l} h => by
    rw [List.getElem?_map] at h
    obtain ⟨z, h1, h2⟩ := Option.map_eq_some_iff.mp h
    exact ⟨z, h1, List.mem_of_getElem? h1, h2⟩
  refine ⟨fun k σ H5 => Same H H5 ∧ ∃ (qs : List Nat) (bs : List Bool) (i : Nat), H5 qa = some (ilst (nmap qs)) ∧ H5 m = some (.lst (bs.map V.bl)) ∧ bs.length = ns.length ∧ (∀ v : Nat, bs[v]? = some true ↔ v ∈ qs) ∧ qs.Nodup ∧ (∀ v ∈ qs, v < ns.length) ∧ (∀ s ∈ ss, s ∈ qs) ∧ i ≤ qs.length ∧
      (∀ (j v u : Nat) (l : List Int), j < i → qs[j]? = some v → (ns.map (·.2))[v]? = some l → (u : Int) ∈ l → u ∈ qs) ∧ k = ns.length - i ∧ ∃ y3 y6, σ = [some (.ref a), some (.ref b), some (.ref m), y3, some (.ref qa), some (.int (i : Nat)), y6],
    ⟨_, s3, ss, bs0, 0, h3q, h3m, hbl0, hbs0, hnd, hss, fun s hs => hs, Nat.zero_le _, fun j v u l h => absurd h (Nat.not_lt_zero _), rfl, y3, none, rfl⟩, ?_⟩
  rintro k σ H5 ⟨s5, qs, bs, i, h5q, h5m, hbl, hbs, qnd, hql, hsq, hiq, hcl, rfl, y3, y6, rfl⟩
  have hqn := perm_few qnd hql
  have enq : ((nmap qs).map V.int).length = qs.length := by
    unfold nmap
    rw [List.length_map, List.length_map]
  refine ⟨_, rfl, _, rfl, qa, _, rfl, .inl (SqL.of h5q), _, _, rfl, rfl, _, rfl, if2 (fun e => ?_) (fun e => ?_)⟩
  · refine ⟨_, fun σ' H' h => h, ?_⟩
    have hil : i < qs.length := by omega
    obtain ⟨v, hv⟩ : ∃ v, qs[i]? = some v := ⟨_, List.getElem?_eq_getElem hil⟩
    have hvl := hql v (List.mem_of_getElem? hv)
    obtain ⟨z, hz⟩ : ∃ z, ns[v]? = some z := ⟨_, List.getElem?_eq_getElem hvl⟩
    have hzm := List.mem_of_getElem? hz
    have hz2 : (refL ns)[v]? = some (.ref z.1) := by
      unfold refL
      rw [List.getElem?_map, hz]
      rfl
    have hnz : H m = none := hmH
    have hkeep : ∀ {H6 : Hp}, But2 m qa H5 H6 → SqL K H6 z.1 (z.2.map V.int) := fun {H6} b6 => by
      have hs6 : Same H H6 := fun c o e => b6 c o (fun e2 => by rw [e2, hmH] at e; cases e) (fun e2 => by rw [e2, nqH] at e; cases e) (s5 _ _ e)
      exact hs6.seq (hL z hzm)
    refine ⟨_, rfl, .ref qa, rfl, _, rfl, qa, _, _, _, rfl, rfl, SqL.of h5q, atI_nat (nmap_get hv), a, _, _, _, rfl, rfl, s5.seq hA, atI_nat hz2, z.1, rfl, ⟨_, s5.seq (hL z hzm)⟩, for_list (K := K) (a := z.1) (xs := z.2.map V.int) (fun j σ H6 => But2 m qa H5 H6 ∧ ∃ (qs2 : List Nat) (bs2 : List Bool), H6 qa = some (ilst (nmap qs2)) ∧ H6 m = some (.lst (bs2.map V.bl)) ∧ bs2.length = ns.length ∧ (∀ v : Nat, bs2[v]? = some true ↔ v ∈ qs2) ∧ qs2.Nodup ∧ (∀ v ∈ qs2, v < ns.length) ∧ qs <+: qs2 ∧
        (∀ u : Nat, (u : Int) ∈ z.2.take j → u ∈ qs2) ∧ ∃ y6, σ = [some (.ref a), some (.ref b), some (.ref m), y3, some (.ref qa), some (.int (i : Nat)), y6])
      ⟨fun c o _ _ h => h, qs, bs, h5q, h5m, hbl, hbs, qnd, hql, List.prefix_refl _, fun u hu => (nomatch hu), y6, rfl⟩ (fun j σ H6 _ h => hkeep h.1) ?_ ?_⟩
    · rintro j x σ H6 hj ⟨b6, qs2, bs2, h6q, h6m, hbl2, hbs2, qnd2, hql2, hpre, hdn, y6, rfl⟩
      obtain ⟨t, ht, rfl⟩ := map_get hj
      have hr := hrg z hzm t (List.mem_of_getElem? ht)
      obtain ⟨u, rfl⟩ : ∃ u : Nat, t = u := ⟨t.toNat, by omega⟩
      have hul : u < ns.length := by omega
      obtain ⟨c, hc⟩ : ∃ c, bs2[u]? = some c := ⟨_, List.getElem?_eq_getElem (by omega)⟩
      have hqn2 := perm_few qnd2 hql2
      have htk : ∀ w : Nat, (w : Int) ∈ z.2.take (j + 1) → (w : Int) ∈ z.2.take j ∨ w = u := fun w hw => by
        rw [List.take_add_one, ht] at hw
        rcases List.mem_append.mp hw with h | h
        · exact .inl h
        · exact .inr (by have := List.mem_singleton.mp h; omega)
      have hcb : (bs2.map V.bl)[u]? = some (.bl c) := by rw [List.getElem?_map, hc]; rfl
      refine ⟨_, rfl, _, rfl, m, _, _, _, rfl, rfl, SqL.of h6m, atI_nat hcb, c, rfl, ?_⟩
      cases c with
      | true =>
        refine iteF ⟨b6, qs2, bs2, h6q, h6m, hbl2, hbs2, qnd2, hql2, hpre, fun w hw => ?_, _, rfl⟩
        rcases htk w hw with h | h
        · exact hdn w h
        · rw [h]
          exact (hbs2 u).mp hc
      | false =>
        have hnu : ¬ u ∈ qs2 := fun h => by
          have := (hbs2 u).mpr h
          rw [hc] at this
          cases this
        refine iteT ⟨_, rfl, _, rfl, m, _, _, u, rfl, rfl, h6m, ixN_nat (by rw [List.length_map]; omega), ?_⟩
        have h7q : upd H6 m (.lst ((bs2.map V.bl).set u (.bl true))) qa = some (ilst (nmap qs2)) := by
          rw [upd_ne hmq.symm]
          exact h6q
        refine ⟨.ref qa, rfl, .inl ⟨rfl, _, SqL.of h7q⟩, _, rfl, qa, _, _, rfl, rfl, h7q, ?_, ?_⟩
        · unfold nmap
          rw [List.length_map, List.length_map]
          exact small1000 (by omega)
        refine ⟨fun c o n1 n2 e => ?_, qs2 ++ [u], bs2.set u true, ?_, ?_, by rw [List.length_set]; exact hbl2, fun w => ?_, ?_, fun w hw => ?_, ?_, fun w hw => ?_, _, rfl⟩
        · rw [upd_ne n2, upd_ne n1]
          exact b6 c o n1 n2 e
        · rw [upd_same]
          unfold ilst nmap
          rw [List.map_append, List.map_append]
          rfl
        · rw [upd_ne hmq, upd_same, List.map_set]
        · rw [List.getElem?_set, List.mem_append]
          by_cases hw : u = w
          · subst hw
            rw [if_pos rfl, if_pos (by omega)]
            exact ⟨fun _ => .inr (List.mem_singleton.mpr rfl), fun _ => rfl⟩
          · rw [if_neg hw, hbs2]
            exact ⟨.inl, fun h => h.elim id fun h => absurd (List.mem_singleton.mp h).symm hw⟩
        · exact List.nodup_append.mpr ⟨qnd2, List.pairwise_singleton _ _, fun x hx y hy e => hnu (by rw [← List.mem_singleton.mp (show y ∈ [u] from hy), ← e]; exact hx)⟩
        · rcases List.mem_append.mp hw with hw | hw
          · exact hql2 w hw
          · rw [List.mem_singleton.mp hw]
            exact hul
        · exact hpre.trans (List.prefix_append _ _)
        · rcases htk w hw with h | h
          · exact List.mem_append_left _ (hdn w h)
          · rw [h]
            exact List.mem_append_right _ (List.mem_singleton.mpr rfl)
    · rintro σ H6 ⟨b6, qs2, bs2, h6q, h6m, hbl2, hbs2, qnd2, hql2, ⟨more, rfl⟩, hdn, y6, rfl⟩
      rw [List.length_map, List.take_length] at hdn
      have s6 : Same H H6 := fun c o e => b6 c o (fun e2 => by rw [e2, hmH] at e; cases e) (fun e2 => by rw [e2, nqH] at e; cases e) (s5 _ _ e)
      refine ⟨_, rfl, _, _, rfl, rfl, ns.length - (i + 1), by omega, s6, qs ++ more, bs2, i + 1, h6q, h6m, hbl2, hbs2, qnd2, hql2, fun s hs => List.mem_append_left _ (hsq s hs), by rw [List.length_append]; omega, fun j w u l hj hw hl hu => ?_, rfl, y3, y6, ?_⟩
      · by_cases hji : j = i
        · subst hji
          rw [List.getElem?_append_left hil, hv] at hw
          rw [← Option.some.inj hw] at hl
          obtain ⟨z2, hz2', _, e2⟩ := hZn hl
          rw [hz] at hz2'
          rw [← e2, ← Option.some.inj hz2'] at hu
          exact hdn u hu
        · rw [List.getElem?_append_left (by omega)] at hw
          exact List.mem_append_left _ (hcl j w u l (by omega) hw hl hu)
      · have e4 : ((i + 1 : Nat) : Int) = (i : Int) + 1 := by omega
        rw [e4]
        rfl
  · refine ⟨_, rfl, q H5 m bs s5 hmH h5m hbl fun v hv => (hbs v).mpr ?_⟩
    induction hv with
    | base h => exact hsq _ h
    | step _ h1 h2 ih =>
      obtain ⟨j, hj, e3⟩ := List.mem_iff_getElem.mp ih
      exact hcl j _ _ _ (by omega) (by rw [List.getElem?_eq_getElem hj, e3]) h1 h2
theorem ok_check_reached (T : Txt K mg) : Good P w K mg base 2 (He.ga K "check_reached") ["rows"] [] (sp_check_reached K) := by
  refine good_of T.f_check_reached sc_check_reached (fun vs H Q E h => ?_) (fun _ _ _ _ _ _ us hl => match us, hl with | [_], _ => rfl) (fun cdv A outer s H vs Q E hr h => ?_)
  · obtain ⟨_, _, rfl, _⟩ := h
    rfl
  refine ⟨_, (pss_cons (ps_set (i := 1) sc_check_reached.nd rfl (Or.inl rfl) (pe_cg (ok_spread T) (hr.mono (j := 1) (by decide)) (by rfl) T.g_spread (pa_cons (pe_cg (ok_nexts_of T) (hr.mono (j := 1) (by decide)) (by rfl) T.g_nexts_of (pa_cons (pv 0) pa_nil)) (pa_cons (pe_lst (pa_cons pe_int pa_nil)) pa_nil))))
  (pss_one (ps_if (pt_cmpR op_in_seq pe_bl (pv 1) (by rfl))
    (pss_one ps_never)
    pss_nil))), ?_⟩
  obtain ⟨a, rs, rfl, hS, hrw, hok, q⟩ := h
  have hg := hok.g
  have hgl := sxr_len rs
  refine ⟨_, rfl, a, rs, rfl, hS, hrw, hok.few, fun z hz => (hg.rows _ (List.mem_map_of_mem (f := fun q : Addr × Addr × Rw => q.2.2.2.2) hz)).2.1, fun H2 p ns s2 np hp hns em => ⟨(by show 1 ≤ sizeLine; decide), fun o no => ?_⟩⟩
  have hnl : ns.length = rs.length := by
    have e := congrArg List.length em
    rw [List.length_map, List.length_map, hgl] at e
    exact e
  have s3 := same_new (o := .lst [.int 0]) no
  refine ⟨p, o, ns, [0], rfl, SqL.of (s3 _ _ hp), fun z hz => SqL.of (s3 _ _ (hns z hz)), fun z hz t ht => ?_, by rw [hnl]; exact hok.few, SqL.of upd_same, List.pairwise_singleton _ _, fun s hs => ?_, fun H3 mk bs s4 nmk hmk hbl hall => ?_⟩
  · have h1 : z.2 ∈ ns.map (·.2) := List.mem_map_of_mem (f := fun w : Addr × List Int => w.2) hz
    rw [em] at h1
    obtain ⟨l, hl, e⟩ := List.mem_map.mp h1
    rw [← e] at ht
    obtain ⟨ht1, ht2⟩ := List.mem_filter.mp ht
    have h3 := (hg.rows l hl).2.2 t ht1
    have h4 := of_decide_eq_true ht2
    omega
  · rw [List.mem_singleton.mp hs, hnl, ← hgl]
    exact hg.pos
  · have hin : inV (.bl false) (bs.map V.bl) = false := all_marks (n := ns.length) hbl fun v hv => hall v (Rc_mono (fun w u l hw hu => by
      refine ⟨l.filter fun t => decide (t ≠ -1), ?_, List.mem_filter.mpr ⟨hu, decide_eq_true (by omega)⟩⟩
      rw [em, List.getElem?_map, hw]
      rfl) (fun w hw => List.mem_singleton.mpr hw) (hg.reach v (by omega)))
    refine ⟨_, rfl, mk, _, rfl, .inl (SqL.of hmk), rfl, flat_bls bs, _, rfl, ?_⟩
    show (if inV (.bl false) (bs.map V.bl) = true then _ else _)
    rw [hin]
    exact iteF (q H3 ((s2.trans s3).trans s4))
theorem ok_check_ends (T : Txt K mg) : Good P w K mg base 2 (He.ga K "check_ends") ["rows"] [] (sp_check_ends K) := by
  refine good_of T.f_check_ends sc_check_ends (fun vs H Q E h => ?_) (fun _ _ _ _ _ _ us hl => match us, hl with | [_], _ => rfl) (fun cdv A outer s H vs Q E hr h => ?_)
  · obtain ⟨_, _, rfl, _⟩ := h
    rfl
  refine ⟨_, (pss_cons (ps_set (i := 1) sc_check_ends.nd rfl (Or.inl rfl) (pe_cg (ok_spread T) (hr.mono (j := 1) (by decide)) (by rfl) T.g_spread (pa_cons (pe_cg (ok_backs_of T) (hr.mono (j := 1) (by decide)) (by rfl) T.g_backs_of (pa_cons (pv 0) pa_nil)) (pa_cons (pe_lc (own := [("node", 2)]) (g := (gName 2)) rfl sc_check_ends.nd (pi_range1 (by rfl) T.z_range (pa_cons (pe_callB call_len_seq (by rfl) T.z_len (by decide +kernel) (pa_cons (pv 0) pa_nil)) pa_nil)) (blkOk_by (own := [("node", 2)]) (N := ["rows", "marks", "node"]) (sc := defScope s_check_ends) (by decide +kernel)) (fun _ _ _ _ _ => (pg_name (i := 2) sc_check_ends.nd rfl (Or.inl rfl))) (fun _ _ _ _ _ => (pts_one (pt_cmpR (op_in_seqE (K := K) rfl) (pe_glob (v := .int (-1)) (by rfl) T.k_END.choose_spec ⟨_, rfl⟩) (pe_ix (ix_tupE (K := K) rfl) (pe_ix (ix_listE (K := K) rfl) (pv 0) (pv 2) (fun _ _ => rfl)) pe_int (fun _ _ => rfl)) (by rfl)))) (fun _ _ _ _ _ => (pv 2))) pa_nil))))
  (pss_one (ps_if (pt_cmpR op_in_seq pe_bl (pv 1) (by rfl))
    (pss_one ps_never)
    pss_nil))), ?_⟩
  obtain ⟨a, rs, rfl, hS, hrw, hok, q⟩ := h
  have hg := hok.g
  have hgl := sxr_len rs
  have hfew := hok.few
  have hlen : (refR rs).length = rs.length := List.length_map ..
  refine ⟨_, rfl, a, rs, rfl, hS, hrw, hok.few, fun l hl => by rw [← hgl]; exact hg.rows l hl, fun H2 p ns s2 np hp hns hnl hrg hbk => ?_⟩
  refine ⟨.ref a, rfl, a, _, rfl, .inl (s2.seq hS), ((refR rs).length : Nat), rfl, by omega, by omega, fun D hD => lc_range (n := (refR rs).length) (fun i H3 => Same H2 H3 ∧ ∃ ss : List Nat, H3 D = some (ilst (nmap ss)) ∧ ss.Nodup ∧ ss.length ≤ i ∧ (∀ s ∈ ss, s < i) ∧ ∀ (v : Nat) (l : List Int), v < i → (sxr rs)[v]? = some l → (-1 : Int) ∈ l → v ∈ ss)
    ⟨same_new hD, [], upd_same, List.nodup_nil, Nat.le_refl _, fun s hs => (nomatch hs), fun v l hv => absurd hv (Nat.not_lt_zero _)⟩ ?_ ?_⟩
  · rintro i H3 hi ⟨s3, ss, h3, nd, hsl, hsi, hse⟩
    have hi2 : i < rs.length := by omega
    have hq : rs[i]? = some rs[i] := List.getElem?_eq_getElem hi2
    have hqm : rs[i] ∈ rs := List.getElem_mem hi2
    generalize rs[i] = qr at hq hqm
    obtain ⟨q1, q2⟩ := hrw qr hqm
    have s23 := s2.trans s3
    refine ⟨rfl, _, rfl, _, rfl, a, _, _, _, rfl, rfl, s23.seq hS, atI0 (get_refR hq), qr.1, _, 2, _, rfl, rfl, SqT.of (s23 _ _ q1), rfl, qr.2.1, _, rfl, .inr (SqT.of (s23 _ _ q2)), rfl, flat_ints _, _, rfl, ?_⟩
    show (if inV (.int (-1)) (qr.2.2.2.2.map V.int) = true then _ else _)
    rw [inV_int]
    by_cases he : (-1 : Int) ∈ qr.2.2.2.2
    · refine ifT he ⟨_, rfl, _, h3, small1000 (by unfold nmap; rw [List.length_map, List.length_map]; omega), same_mut s3 hD, ss ++ [i], ?_, ?_, ?_, fun s hs => ?_, fun v l hv hl hm => ?_⟩
      · have ei : (0 + (i : Int)) = (i : Int) := by omega
        rw [upd_same, ei]
        unfold ilst nmap
        rw [List.map_append, List.map_append]
        rfl
      · exact List.nodup_append.mpr ⟨nd, List.pairwise_singleton _ _, fun x hx y hy e => by
          have h1 := hsi x hx
          have h2 := List.mem_singleton.mp (show y ∈ [i] from hy)
          omega⟩
      · rw [List.length_append]
        show ss.length + 1 ≤ i + 1
        omega
      · rcases List.mem_append.mp hs with h | h
        · have := hsi s h
          omega
        · rw [List.mem_singleton.mp h]
          exact Nat.lt_succ_self _
      · by_cases hvi : v = i
        · rw [hvi]
          exact List.mem_append_right _ (List.mem_singleton.mpr rfl)
        · exact List.mem_append_left _ (hse v l (by omega) hl hm)
    · refine ifF he ⟨s3, ss, h3, nd, by omega, fun s hs => by have := hsi s hs; omega, fun v l hv hl hm => ?_⟩
      by_cases hvi : v = i
      · subst hvi
        rw [get_sxr hq] at hl
        rw [← Option.some.inj hl] at hm
        exact absurd hm he
      · exact hse v l (by omega) hl hm
  · rintro H3 ⟨s3, ss, h3, nd, hsl, hsi, hse⟩
    rw [hlen] at hsi hse
    refine tnil_go ?_
    refine ⟨p, D, ns, ss, rfl, SqL.of (s3 _ _ hp), fun z hz => SqL.of (s3 _ _ (hns z hz)), fun z hz t ht => by rw [hnl]; exact hrg z hz t ht, by rw [hnl]; exact hfew, SqL.of h3, nd, fun s hs => by rw [hnl]; exact hsi s hs, fun H4 mk bs s4 nmk hmk hbl hall => ?_⟩
    have hld : ∀ v, Ld (sxr rs) v → Rc (ns.map (·.2)) (fun s => s ∈ ss) v := fun v hv => by
      induction hv with
      | fin h1 h2 =>
        refine .base (hse _ _ ?_ h1 h2)
        have := (List.getElem?_eq_some_iff.mp h1).1
        omega
      | step h1 h2 _ ih =>
        obtain ⟨bk, h5, h6⟩ := hbk _ _ _ h1 h2
        exact .step ih h5 h6
    have hin : inV (.bl false) (bs.map V.bl) = false := all_marks (n := ns.length) hbl fun v hv => hall v (hld v (hg.ends v (by omega)))
    refine ⟨_, rfl, mk, _, rfl, .inl (SqL.of hmk), rfl, flat_bls bs, _, rfl, ?_⟩
    show (if inV (.bl false) (bs.map V.bl) = true then _ else _)
    rw [hin]
    exact iteF (q H4 ((s2.trans s3).trans s4))
theorem ok_Graph_init (T : Txt K mg) : Good P w K mg base 4 (He.ma K (He.ga K "Graph") "__init__") ["self", "rows"] [] (sp_Graph_init K) := by
  refine good_of T.f_Graph_init sc_Graph_init (fun vs H Q E h => ?_) (fun _ _ _ _ _ _ us hl => match us, hl with | [_, _], _ => rfl) (fun cdv A outer s H vs Q E hr h => ?_)
  · obtain ⟨_, _, _, _, rfl, _⟩ := h
    rfl
  refine ⟨_, (pss_cons (ps_setLc (i := 2) (own := [("row", 3)]) (g := (gName 3)) (tt := tYes) rfl sc_Graph_init.nd rfl rfl (sw_true rfl rfl rfl (by decide +kernel)) (pi_list (pv 1)) (blkOk_by (own := [("row", 3)]) (N := ["self", "rows", "kept", "row"]) (sc := defScope s_Graph_init) (by decide +kernel)) (fun _ _ _ _ _ => (pg_name (i := 3) sc_Graph_init.nd rfl (Or.inl rfl))) (fun _ _ _ _ _ => pts_nil) (fun _ _ _ _ _ => (pe_tup (pa_cons (pe_ix (ix_tupE (K := K) rfl) (pv 3) pe_int (fun _ _ => rfl)) (pa_cons (pe_ix (ix_tupE (K := K) rfl) (pv 3) pe_int (fun _ _ => rfl)) (pa_cons (pe_callTy (call_tuple_ofE (K := K) rfl) (by rfl) T.z_tuple (by decide +kernel) (pa_cons (pe_ix (ix_tupE (K := K) rfl) (pv 3) pe_int (fun _ _ => rfl)) pa_nil)) pa_nil))))))
  (pss_cons (ps_expr (pe_cg (ok_check_rows T) (hr.mono (j := 3) (by decide)) (by rfl) T.g_check_rows (pa_cons (pv 2) pa_nil)))
  (pss_cons (ps_expr (pe_cg (ok_check_reached T) (hr.mono (j := 2) (by decide)) (by rfl) T.g_check_reached (pa_cons (pv 2) pa_nil)))
  (pss_cons (ps_expr (pe_cg (ok_check_ends T) (hr.mono (j := 2) (by decide)) (by rfl) T.g_check_ends (pa_cons (pv 2) pa_nil)))
  (pss_cons (ps_fld (pv 0) (pe_callB call_len_seq (by rfl) T.z_len (by decide +kernel) (pa_cons (pv 2) pa_nil)) rfl)
  (pss_one (ps_fld (pv 0) (pe_callTy call_tuple_of (by rfl) T.z_tuple (by decide +kernel) (pa_cons (pv 2) pa_nil)) rfl))))))), ?_⟩
  obtain ⟨g, dx, a, rs, rfl, hg0, hS, hrw, hok, q⟩ := h
  have hlen : (refR rs).length = rs.length := List.length_map ..
  have hfew := hok.few
  refine ⟨.ref a, rfl, a, rfl, ⟨_, hS⟩, fun D hD => lc_list (K := K) (a := a) (xs := refR rs) (fun i H3 => Same H H3 ∧ ∃ r2 : Rx, H3 D = some (.lst (refR r2)) ∧ RwOk H3 r2 ∧ r2.map (·.2.2) = (rs.take i).map (·.2.2)) ⟨same_new hD, [], upd_same, fun z hz => (nomatch hz), rfl⟩ (fun i H3 _ h => h.1.seq hS) ?_ ?_⟩
  · rintro i x H3 hi ⟨s3, r2, h3, hr2, em⟩
    obtain ⟨qr, hq, hqm, rfl⟩ := refR_get hi
    have hilt := (List.getElem?_eq_some_iff.mp hq).1
    have hr2l : r2.length ≤ i := by
      have e := congrArg List.length em
      rw [List.length_map, List.length_map, List.length_take] at e
      omega
    obtain ⟨q1, q2⟩ := hrw qr hqm
    have hT : SqT K H3 qr.1 [.str qr.2.2.1, .int qr.2.2.2.1, .ref qr.2.1] := SqT.of (s3 _ _ q1)
    have hU : SqT K H3 qr.2.1 (qr.2.2.2.2.map V.int) := SqT.of (s3 _ _ q2)
    refine ⟨rfl, yes_then ⟨_, rfl, qr.1, _, 0, _, rfl, rfl, hT, rfl, _, rfl, qr.1, _, 1, _, rfl, rfl, hT, rfl, _, rfl, qr.1, _, 2, _, rfl, rfl, hT, rfl, qr.2.1, _, rfl, .inr ⟨hU, (by show 3 ≤ sizeLine; decide), fun t nt => ?_⟩⟩⟩
    have hp3 := same_new (o := .tup [.str qr.2.2.1, .int qr.2.2.2.1, .ref qr.2.1]) nt _ _ h3
    have htD : t ≠ D := (ne_of_none h3 nt).symm
    refine ⟨_, hp3, small1000 (by unfold refR; rw [List.length_map]; omega), same_mut (s3.trans (same_new nt)) hD, r2 ++ [(t, qr.2.1, qr.2.2)], ?_, fun z hz => ?_, ?_⟩
    · rw [upd_same]
      unfold refR
      rw [List.map_append]
      rfl
    · have hel : ∀ (c : Addr) (xs : List V), upd H3 t (.tup [.str qr.2.2.1, .int qr.2.2.2.1, .ref qr.2.1]) c = some (.tup xs) → upd (upd H3 t (.tup [.str qr.2.2.1, .int qr.2.2.2.1, .ref qr.2.1])) D (.lst (refR r2 ++ [.ref t])) c = some (.tup xs) := fun c xs h => by
        rw [upd_ne (ne_of h hp3 (fun e => nomatch e))]
        exact h
      rcases List.mem_append.mp hz with hz | hz
      · exact ⟨hel _ _ (same_new nt _ _ (hr2 z hz).1), hel _ _ (same_new nt _ _ (hr2 z hz).2)⟩
      · rw [List.mem_singleton.mp hz]
        exact ⟨hel _ _ upd_same, hel _ _ (same_new nt _ _ (s3 _ _ q2))⟩
    · rw [List.map_append, em, List.take_add_one, hq, List.map_append]
      rfl
  rintro H3 ⟨s3, r2, h3, hr2, em⟩
  rw [hlen, List.take_length] at em
  dsimp only
  have hr2l : r2.length = rs.length := by
    have e := congrArg List.length em
    rw [List.length_map, List.length_map] at e
    exact e
  have hsx : sxr r2 = sxr rs := by
    unfold sxr
    have e := congrArg (List.map fun w : Rw => w.2.2) em
    rw [List.map_map, List.map_map] at e
    exact e
  have hok2 : RsOk r2 := ⟨by omega, by rw [hsx]; exact hok.g, fun z hz => by
    have h1 : z.2.2 ∈ r2.map (·.2.2) := List.mem_map_of_mem (f := fun q : Addr × Addr × Rw => q.2.2) hz
    rw [em] at h1
    obtain ⟨w, hw, e⟩ := List.mem_map.mp h1
    rw [← e]
    exact hok.nm w hw⟩
  refine ⟨_, rfl, D, r2, rfl, SqL.of h3, hr2, hok2, ?_⟩
  refine ⟨_, rfl, D, r2, rfl, SqL.of h3, hr2, hok2, fun H4 s4 => ?_⟩
  refine ⟨_, rfl, D, r2, rfl, SqL.of (s4 _ _ h3), hr2.same s4, hok2, fun H5 s5 => ?_⟩
  have s35 := s4.trans s5
  have h5 := s35 _ _ h3
  have hg5 := s35 _ _ (s3 _ _ hg0)
  have hr5 := hr2.same s35
  have hgD : g ≠ D := ne_of hg5 h5 (fun e => nomatch e)
  have hrl : (refR r2).length = r2.length := List.length_map ..
  refine ⟨.ref D, rfl, D, _, rfl, .inl (SqL.of h5), _, rfl, g, _, dx, _, rfl, hg5, T.cl_Graph, T.na_Graph_size, by decide, ?_⟩
  have b1 : But g H (upd H5 g (.ins (He.ga K "Graph") dx (putF "size" (.int ((refR r2).length : Int)) []))) := (But.refl.then (s3.trans s35)).own
  have f1 : upd H5 g (.ins (He.ga K "Graph") dx (putF "size" (.int ((refR r2).length : Int)) [])) g = some (.ins (He.ga K "Graph") dx [("size", .int (r2.length : Int))]) := by
    rw [upd_same, putF_new _ _ _ rfl, hrl]
    rfl
  have d1 : upd H5 g (.ins (He.ga K "Graph") dx (putF "size" (.int ((refR r2).length : Int)) [])) D = some (.lst (refR r2)) := by
    rw [upd_ne hgD.symm]
    exact h5
  have r1 : RwOk (upd H5 g (.ins (He.ga K "Graph") dx (putF "size" (.int ((refR r2).length : Int)) []))) r2 := fun z hz => by
    rw [upd_ne (ne_of (hr5 z hz).1 hg5 (fun e => nomatch e)), upd_ne (ne_of (hr5 z hz).2 hg5 (fun e => nomatch e))]
    exact hr5 z hz
  generalize upd H5 g (.ins (He.ga K "Graph") dx (putF "size" (.int ((refR r2).length : Int)) [])) = H6 at b1 f1 d1 r1 ⊢
  refine ⟨.ref D, rfl, D, _, rfl, .inl ⟨SqL.of d1, fun t nt => ?_⟩⟩
  have gt : g ≠ t := ne_of_none f1 nt
  have f2 := same_new (o := .tup (refR r2)) nt _ _ f1
  refine ⟨_, rfl, g, _, dx, _, rfl, f2, T.cl_Graph, T.na_Graph_rows, (by show 1 < 1000; decide), ?_⟩
  refine q _ r2 (b1.new nt).own ⟨dx, t, ?_, ?_, fun z hz => ?_⟩ em
  · rw [upd_same, putF_new _ _ _ rfl]
    rfl
  · rw [upd_ne gt.symm, upd_same]
  · have h1 := same_new (o := .tup (refR r2)) nt _ _ (r1 z hz).1
    have h2 := same_new (o := .tup (refR r2)) nt _ _ (r1 z hz).2
    rw [upd_ne (ne_of h1 f2 (fun e => nomatch e)), upd_ne (ne_of h2 f2 (fun e => nomatch e))]
    exact ⟨h1, h2⟩
end
end K34

namespace K34
open PySem PySem.Spec PyProof.Rows L2 Fw Lay
section
variable {P : Program} {w : World} {K : PySem.W.Frag} {mg : Str → Option Value} {base : Heap}
theorem nmap_at {ds : List Nat} {i d : Nat} (h : ds[i]? = some d) : ((nmap ds).map V.int)[i]? = some (.int (d : Int)) := nmap_get h
theorem ok_Machine_over (T : Txt K mg) : Good P w K mg base 1 (propAt K "Machine" "over") ["self"] [] (sp_Machine_over K) := by
  refine good_of T.f_Machine_over sc_Machine_over (fun vs H Q E h => ?_) (fun _ _ _ _ _ _ us hl => match us, hl with | [_], _ => rfl) (fun cdv A outer s H vs Q E hr h => ?_)
  · obtain ⟨_, _, _, _, _, _, _, _, _, rfl, _⟩ := h
    rfl
  refine ⟨_, (pss_cons (ps_for PassesOwn.never rfl (pi_range1 (by rfl) T.z_range (pa_cons (pe_callB call_len_seq (by rfl) T.z_len (by decide +kernel) (pa_cons (pe_fld (pv 0) rfl) pa_nil)) pa_nil)) (pg_name (i := 1) sc_Machine_over.nd rfl (Or.inl rfl))
    (pss_one (ps_if (pt_cmpR op_lt (pe_ix ix_list (pe_fld (pv 0) rfl) (pv 1) (fun _ _ => rfl)) (pe_callB call_len_seq (by rfl) T.z_len (by decide +kernel) (pa_cons (pe_ix ix_list (pe_fld (pv 0) rfl) (pv 1) (fun _ _ => rfl)) pa_nil)) (nomark _))
    (pss_one (ps_ret pe_bl))
    pss_nil)))
  (pss_one (ps_ret pe_bl))), ?_⟩
  obtain ⟨m, g, ta, sa, na, ws, ds, bs, b, rfl, hM, hl, q⟩ := h
  obtain ⟨⟨dx, hi⟩, tm, rn, st, nd, ln, le, n1, n2, n3, n4⟩ := hM
  have hlen : (refL ws).length = ws.length := List.length_map ..
  refine ⟨_, rfl, m, _, dx, _, _, rfl, hi, T.cl_Machine, T.na_Machine_team, rfl, ta, _, rfl, .inl (SqL.of tm), ((refL ws).length : Nat), rfl, by omega, by omega, for_range (n := (refL ws).length) (fun i σ H2 => H2 = H ∧ (∀ (j : Nat) (w : Addr × List Int) (d : Nat), j < i → ws[j]? = some w → ds[j]? = some d → d = w.2.length) ∧ ∃ y, σ = [some (.ref m), y]) ⟨rfl, fun j w d hj => absurd hj (Nat.not_lt_zero _), none, rfl⟩ ?_ ?_⟩
  · rintro i σ H2 hi2 ⟨rfl, hdn, y, rfl⟩
    have hiw : i < ws.length := by omega
    have hw : ws[i]? = some ws[i] := List.getElem?_eq_getElem hiw
    have hd : ds[i]? = some ds[i] := List.getElem?_eq_getElem (by omega)
    have hwm : ws[i] ∈ ws := List.getElem_mem hiw
    generalize ws[i] = w at hw hwm
    generalize ds[i]'(by omega) = d at hd
    have hw2 : (refL ws)[i]? = some (.ref w.1) := by
      unfold refL
      rw [List.getElem?_map, hw]
      rfl
    have hle := le i w d hw hd
    refine ⟨_, rfl, m, _, dx, _, _, rfl, hi, T.cl_Machine, T.na_Machine_steps, rfl, _, rfl, sa, _, _, _, rfl, rfl, SqL.of st, atI0 (nmap_at hd), _, rfl, m, _, dx, _, _, rfl, hi, T.cl_Machine, T.na_Machine_team, rfl, _, rfl, ta, _, _, _, rfl, rfl, SqL.of tm, atI0 hw2, w.1, _, rfl, .inl (SqL.of (rn w hwm)), _, _, rfl, rfl, _, rfl, if2 (fun e => ?_) (fun e => ?_)⟩
    · rw [List.length_map] at e
      refine q false ⟨fun h => (nomatch h), fun h => ?_⟩
      rw [h, List.getElem?_map, hw] at hd
      have h9 : w.2.length = d := Option.some.inj hd
      omega
    · rw [List.length_map] at e
      refine ⟨rfl, fun j w' d' hj hw' hd' => ?_, _, rfl⟩
      by_cases hji : j = i
      · subst hji
        rw [hw] at hw'
        rw [hd] at hd'
        rw [← Option.some.inj hw', ← Option.some.inj hd']
        omega
      · exact hdn j w' d' (by omega) hw' hd'
  · rintro σ H2 ⟨rfl, hdn, y, rfl⟩
    refine q true ⟨fun _ => List.ext_getElem? fun j => ?_, fun _ => rfl⟩
    by_cases hj : j < ws.length
    · have h1 : ds[j]? = some ds[j] := List.getElem?_eq_getElem (by omega)
      have h2 : ws[j]? = some ws[j] := List.getElem?_eq_getElem hj
      rw [h1, List.getElem?_map, h2, hdn j _ _ (by omega) h2 h1]
      rfl
    · rw [List.getElem?_eq_none (by omega), List.getElem?_eq_none (by rw [List.length_map]; omega)]
theorem ok_Machine_place_of (T : Txt K mg) : Good P w K mg base 1 (He.ma K (He.ga K "Machine") "place_of") ["self", "lane"] [] (sp_Machine_place_of K) := by
  refine good_of T.f_Machine_place_of sc_Machine_place_of (fun vs H Q E h => ?_) (fun _ _ _ _ _ _ us hl => match us, hl with | [_, _], _ => rfl) (fun cdv A outer s H vs Q E hr h => ?_)
  · obtain ⟨_, _, _, _, _, _, _, _, _, _, _, _, rfl, _⟩ := h
    rfl
  refine ⟨_, (pss_cons (ps_if (pt_cmpR op_lt (pe_ix ix_list (pe_fld (pv 0) rfl) (pv 1) (fun _ _ => rfl)) (pe_callB call_len_seq (by rfl) T.z_len (by decide +kernel) (pa_cons (pe_ix ix_list (pe_fld (pv 0) rfl) (pv 1) (fun _ _ => rfl)) pa_nil)) (nomark _))
    (pss_one (ps_ret (pe_ix ix_list (pe_ix ix_list (pe_fld (pv 0) rfl) (pv 1) (fun _ _ => rfl)) (pe_ix ix_list (pe_fld (pv 0) rfl) (pv 1) (fun _ _ => rfl)) (fun _ _ => rfl))))
    pss_nil)
  (pss_one (ps_ret (pe_glob (v := .int (-1)) (by rfl) T.k_END.choose_spec ⟨_, rfl⟩)))), ?_⟩
  obtain ⟨m, g, ta, sa, na, ws, ds, bs, b, i, w, d, rfl, hM, hw, hd, q⟩ := h
  obtain ⟨⟨dx, hi⟩, tm, rn, st, nd, ln, le, n1, n2, n3, n4⟩ := hM
  have hwm := List.mem_of_getElem? hw
  have hw2 : (refL ws)[i]? = some (.ref w.1) := by
    unfold refL
    rw [List.getElem?_map, hw]
    rfl
  refine ⟨_, rfl, m, _, dx, _, _, rfl, hi, T.cl_Machine, T.na_Machine_steps, rfl, _, rfl, sa, _, _, _, rfl, rfl, SqL.of st, atI_nat (nmap_at hd), _, rfl, m, _, dx, _, _, rfl, hi, T.cl_Machine, T.na_Machine_team, rfl, _, rfl, ta, _, _, _, rfl, rfl, SqL.of tm, atI_nat hw2, w.1, _, rfl, .inl (SqL.of (rn w hwm)), _, _, rfl, rfl, _, rfl, if2 (fun e => ?_) (fun e => ?_)⟩
  · rw [List.length_map] at e
    have hg : w.2[d]? = some w.2[d] := List.getElem?_eq_getElem (by omega)
    have e2 : plc w.2 d = w.2[d] := by
      unfold plc
      rw [hg]
      rfl
    refine ⟨_, rfl, m, _, dx, _, _, rfl, hi, T.cl_Machine, T.na_Machine_team, rfl, _, rfl, ta, _, _, _, rfl, rfl, SqL.of tm, atI_nat hw2, _, rfl, m, _, dx, _, _, rfl, hi, T.cl_Machine, T.na_Machine_steps, rfl, _, rfl, sa, _, _, _, rfl, rfl, SqL.of st, atI_nat (nmap_at hd), w.1, _, _, _, rfl, rfl, SqL.of (rn w hwm), atI_nat (get_map hg), ?_⟩
    rw [← e2]
    exact q
  · rw [List.length_map] at e
    have e2 : plc w.2 d = -1 := by
      unfold plc
      rw [List.getElem?_eq_none (by omega)]
      rfl
    rw [e2] at q
    exact q
theorem ok_Machine_done (T : Txt K mg) : Good P w K mg base 1 (He.ma K (He.ga K "Machine") "done") ["self"] [] (sp_Machine_done K) := by
  refine good_of T.f_Machine_done sc_Machine_done (fun vs H Q E h => ?_) (fun _ _ _ _ _ _ us hl => match us, hl with | [_], _ => rfl) (fun cdv A outer s H vs Q E hr h => ?_)
  · obtain ⟨_, _, _, _, _, _, _, _, _, rfl, _⟩ := h
    rfl
  refine ⟨_, (pss_one (ps_ret (pe_callTy call_list_of (by rfl) T.z_list (by decide +kernel) (pa_cons (pe_fld (pv 0) rfl) pa_nil)))), ?_⟩
  obtain ⟨m, g, ta, sa, na, ws, ds, bs, b, rfl, hM, q⟩ := h
  obtain ⟨⟨dx, hi⟩, tm, rn, st, nd, ln, le, n1, n2, n3, n4⟩ := hM
  exact ⟨_, rfl, m, _, dx, _, _, rfl, hi, T.cl_Machine, T.na_Machine_steps, rfl, sa, _, rfl, .inl (SqL.of st), fun p np => q _ p (same_new np) np upd_same⟩
theorem ok_Machine_at (T : Txt K mg) : Good P w K mg base 2 (He.ma K (He.ga K "Machine") "at") ["self", "node"] [] (sp_Machine_at K) := by
  refine good_of T.f_Machine_at sc_Machine_at (fun vs H Q E h => ?_) (fun _ _ _ _ _ _ us hl => match us, hl with | [_, _], _ => rfl) (fun cdv A outer s H vs Q E hr h => ?_)
  · obtain ⟨_, _, _, _, _, _, _, _, _, _, rfl, _⟩ := h
    rfl
  refine ⟨_, (pss_one (ps_ret (pe_lc (own := [("lane", 2)]) (g := (gName 2)) rfl sc_Machine_at.nd (pi_range1 (by rfl) T.z_range (pa_cons (pe_callB call_len_seq (by rfl) T.z_len (by decide +kernel) (pa_cons (pe_fld (pv 0) rfl) pa_nil)) pa_nil)) (blkOk_by (own := [("lane", 2)]) (N := ["self", "node", "lane"]) (sc := defScope s_Machine_at) (by decide +kernel)) (fun _ _ _ _ _ => (pg_name (i := 2) sc_Machine_at.nd rfl (Or.inl rfl))) (fun _ _ _ _ _ => (pts_one (pt_cmpR op_eq (pe_mtg (pv 0) T.cl_Machine T.me_Machine_place_of (ok_Machine_place_of T) (hr.mono (j := 1) (by decide)) (pa_cons (pv 2) pa_nil)) (pv 1) (nomark _)))) (fun _ _ _ _ _ => (pv 2))))), ?_⟩
  obtain ⟨m, g, ta, sa, na, ws, ds, bs, b, x, rfl, hM, hl, q⟩ := h
  obtain ⟨⟨dx, hi⟩, tm, rn, st, nd, ln, le, n1, n2, n3, n4⟩ := id hM
  have hlen : (refL ws).length = ws.length := List.length_map ..
  refine ⟨_, rfl, m, _, dx, _, _, rfl, hi, T.cl_Machine, T.na_Machine_team, rfl, ta, _, rfl, .inl (SqL.of tm), ((refL ws).length : Nat), rfl, by omega, by omega, fun D hD => lc_range (n := (refL ws).length) (fun i H3 => Same H H3 ∧ H3 D = some (ilst (nmap ((List.range i).filter fun k => decide (plc ((ws.map (·.2)).getD k []) (ds.getD k 0) = x))))) ⟨same_new hD, upd_same⟩ ?_ ?_⟩
  · rintro i H3 hi2 ⟨s3, h3⟩
    have hiw : i < ws.length := by omega
    have hw : ws[i]? = some ws[i] := List.getElem?_eq_getElem hiw
    have hd : ds[i]? = some ds[i] := List.getElem?_eq_getElem (by omega)
    generalize ws[i] = w at hw
    generalize ds[i]'(by omega) = d at hd
    have ew : (ws.map (·.2)).getD i [] = w.2 := by
      rw [List.getD_eq_getElem?_getD, List.getElem?_map, hw]
      rfl
    have ed : ds.getD i 0 = d := by
      rw [List.getD_eq_getElem?_getD, hd]
      rfl
    have hfl := List.length_filter_le (fun k => decide (plc ((ws.map (·.2)).getD k []) (ds.getD k 0) = x)) (List.range i)
    rw [List.length_range] at hfl
    refine ⟨rfl, _, rfl, m, dx, _, rfl, s3 _ _ hi, rfl, _, rfl, m, g, ta, sa, na, ws, ds, bs, b, 0 + i, w, d, rfl, hM.same s3, by rw [Nat.zero_add]; exact hw, by rw [Nat.zero_add]; exact hd, _, rfl, rfl, _, rfl, if2 (fun e => ?_) (fun e => ?_)⟩
    · refine ⟨_, rfl, _, h3, small1000 (by unfold nmap; rw [List.length_map, List.length_map]; omega), same_mut s3 hD, ?_⟩
      have ei : (0 + (i : Int)) = (i : Int) := by omega
      rw [upd_same, List.range_succ, List.filter_append, ei]
      have e3 : [i].filter (fun k => decide (plc ((ws.map (·.2)).getD k []) (ds.getD k 0) = x)) = [i] := by
        rw [List.filter_cons_of_pos (by rw [ew, ed]; exact decide_eq_true (V.int.inj e)), List.filter_nil]
      rw [e3]
      unfold ilst nmap
      rw [List.map_append, List.map_append]
      rfl
    · refine ⟨s3, ?_⟩
      have e3 : [i].filter (fun k => decide (plc ((ws.map (·.2)).getD k []) (ds.getD k 0) = x)) = [] := by
        rw [List.filter_cons_of_neg (by rw [ew, ed]; exact fun h => e (congrArg V.int (of_decide_eq_true h))), List.filter_nil]
      rw [List.range_succ, List.filter_append, e3, List.append_nil]
      exact h3
  · rintro H3 ⟨s3, h3⟩
    refine q H3 D s3 hD ?_
    unfold lanesAt
    rw [List.length_map]
    rw [hlen] at h3
    exact h3
theorem ok_Machine_init (T : Txt K mg) : Good P w K mg base 4 (He.ma K (He.ga K "Machine") "__init__") ["self", "graph", "runs"] [] (sp_Machine_init K) := by
  refine good_of T.f_Machine_init sc_Machine_init (fun vs H Q E h => ?_) (fun _ _ _ _ _ _ us hl => match us, hl with | [_, _, _], _ => rfl) (fun cdv A outer s H vs Q E hr h => ?_)
  · obtain ⟨_, _, _, _, _, _, rfl, _⟩ := h
    rfl
  refine ⟨_, (pss_cons (ps_expr (pe_cg (ok_check_team T) (hr.mono (j := 3) (by decide)) (by rfl) T.g_check_team (pa_cons (pv 1) (pa_cons (pv 2) pa_nil))))
  (pss_cons (ps_fld (pv 0) (pv 1) rfl)
  (pss_cons (ps_fld (pv 0) (pe_cg (ok_copied T) (hr.mono (j := 1) (by decide)) (by rfl) T.g_copied (pa_cons (pv 2) pa_nil)) rfl)
  (pss_cons (ps_fld (pv 0) (pe_op op_rep (pe_lst (pa_cons pe_int pa_nil)) (pe_callB call_len_seq (by rfl) T.z_len (by decide +kernel) (pa_cons (pv 2) pa_nil))) rfl)
  (pss_cons (ps_fld (pv 0) (pe_lst pa_nil) rfl)
  (pss_one (ps_fld (pv 0) pe_int rfl))))))), ?_⟩
  obtain ⟨m, dx, g, a, rs, ws, rfl, hm0, hG, hA, hL, hl, hR, q⟩ := h
  have hlen : (refL ws).length = ws.length := List.length_map ..
  refine ⟨_, rfl, _, rfl, g, a, rs, ws, rfl, hG, hA, hL, hl, hR, ?_⟩
  refine ⟨_, rfl, _, rfl, m, _, dx, _, rfl, hm0, T.cl_Machine, T.na_Machine_graph, by decide, ?_⟩
  have b1 : But m H (upd H m (.ins (He.ga K "Machine") dx (putF "graph" (.ref g) []))) := But.refl.own
  have f1 : upd H m (.ins (He.ga K "Machine") dx (putF "graph" (.ref g) [])) m = some (.ins (He.ga K "Machine") dx [("graph", .ref g)]) := by
    rw [upd_same, putF_new _ _ _ rfl]
    rfl
  generalize upd H m (.ins (He.ga K "Machine") dx (putF "graph" (.ref g) [])) = H1 at b1 f1 ⊢
  have hLb : ∀ {H3 : Hp}, But m H H3 → LL K H3 ws := fun b w hw => b.seq hm0 (hL w hw)
  refine ⟨_, rfl, a, ws, rfl, b1.seq hm0 hA, hLb b1, hl, fun H2 ta us s2 nta hta hus0 eus => ?_⟩
  have hus : ∀ u ∈ us, H2 u.1 = some (ilst u.2) := fun u hu => (hus0 u hu).2
  have nH : ∀ {H3 : Hp} {c : Addr}, But m H H3 → H3 m ≠ none → H3 c = none → H c = none := fun {H3 c} b hm hc => by
    cases e : H c with
    | none => rfl
    | some o =>
      by_cases h : c = m
      · rw [h] at hc
        exact absurd hc hm
      · rw [b c o h e] at hc
        cases hc
  have b2 := b1.then s2
  have f2 := s2 _ _ f1
  have hmt : m ≠ ta := ne_of_none f1 nta
  refine ⟨_, rfl, m, _, dx, _, rfl, f2, T.cl_Machine, T.na_Machine_team, (by show 1 < 1000; decide), ?_⟩
  have b3 : But m H (upd H2 m (.ins (He.ga K "Machine") dx (putF "team" (.ref ta) [("graph", .ref g)]))) := b2.own
  have f3 : upd H2 m (.ins (He.ga K "Machine") dx (putF "team" (.ref ta) [("graph", .ref g)])) m = some (.ins (He.ga K "Machine") dx [("graph", .ref g), ("team", .ref ta)]) := by
    rw [upd_same, putF_new _ _ _ rfl]
    rfl
  have t3 : upd H2 m (.ins (He.ga K "Machine") dx (putF "team" (.ref ta) [("graph", .ref g)])) ta = some (.lst (refL us)) := by
    rw [upd_ne hmt.symm]
    exact hta
  have u3 : ∀ u ∈ us, upd H2 m (.ins (He.ga K "Machine") dx (putF "team" (.ref ta) [("graph", .ref g)])) u.1 = some (ilst u.2) := fun u hu => by
    rw [upd_ne (ne_of (hus u hu) f2 (fun e => nomatch e))]
    exact hus u hu
  generalize upd H2 m (.ins (He.ga K "Machine") dx (putF "team" (.ref ta) [("graph", .ref g)])) = H3 at b3 f3 t3 u3 ⊢
  have hul : us.length = ws.length := by
    have e := congrArg List.length eus
    rw [List.length_map, List.length_map] at e
    exact e
  refine ⟨(by show 1 ≤ sizeLine; decide), fun o no => ?_⟩
  have s4 := same_new (o := .lst [.int 0]) no
  refine ⟨.ref a, rfl, a, _, rfl, .inl (s4.seq (b3.seq hm0 hA)), o, _, _, rfl, rfl, upd_same, by omega, by omega, ?_, fun sa nsa => ?_⟩
  · rw [hlen]
    exact Nat.le_trans (show 1 * (ws.length : Int).toNat ≤ 1000 by omega) (by decide)
  have e0 : (List.replicate ((refL ws).length : Int).toNat [V.int 0]).flatten = (nmap (us.map fun _ => 0)).map V.int := by
    rw [List.flatten_replicate_singleton, hlen, Int.toNat_natCast, ← hul]
    unfold nmap
    rw [List.map_map, List.map_map]
    exact (List.map_const' ..).symm
  rw [e0]
  have s5 := s4.trans (same_new (o := .lst ((nmap (us.map fun _ => 0)).map V.int)) nsa)
  have sa5 : upd (upd H3 o (.lst [.int 0])) sa (.lst ((nmap (us.map fun _ => 0)).map V.int)) sa = some (ilst (nmap (us.map fun _ => 0))) := upd_same
  have nsa3 : H3 sa = none := s4.free nsa
  generalize upd (upd H3 o (.lst [.int 0])) sa (.lst ((nmap (us.map fun _ => 0)).map V.int)) = H5 at s5 sa5 ⊢
  have f5 := s5 _ _ f3
  have t5 := s5 _ _ t3
  have u5 : ∀ u ∈ us, H5 u.1 = some (ilst u.2) := fun u hu => s5 _ _ (u3 u hu)
  have hmsa : m ≠ sa := ne_of_none f3 nsa3
  refine ⟨_, rfl, m, _, dx, _, rfl, f5, T.cl_Machine, T.na_Machine_steps, (by show 2 < 1000; decide), ?_⟩
  have b6 : But m H (upd H5 m (.ins (He.ga K "Machine") dx (putF "steps" (.ref sa) [("graph", .ref g), ("team", .ref ta)]))) := (b3.then s5).own
  have f6 : upd H5 m (.ins (He.ga K "Machine") dx (putF "steps" (.ref sa) [("graph", .ref g), ("team", .ref ta)])) m = some (.ins (He.ga K "Machine") dx [("graph", .ref g), ("team", .ref ta), ("steps", .ref sa)]) := by
    rw [upd_same, putF_new _ _ _ rfl]
    rfl
  have k6 : ∀ {c : Addr} {xs : List V}, H5 c = some (.lst xs) → upd H5 m (.ins (He.ga K "Machine") dx (putF "steps" (.ref sa) [("graph", .ref g), ("team", .ref ta)])) c = some (.lst xs) := fun {c xs} h => by
    rw [upd_ne (ne_of h f5 (fun e => nomatch e))]
    exact h
  have t6 := k6 t5
  have sa6 := k6 sa5
  have u6 := fun u hu => k6 (u5 u hu)
  generalize upd H5 m (.ins (He.ga K "Machine") dx (putF "steps" (.ref sa) [("graph", .ref g), ("team", .ref ta)])) = H6 at b6 f6 t6 sa6 u6 ⊢
  refine ⟨Nat.zero_le _, fun na nna => ?_⟩
  have s7 := same_new (o := .lst []) nna
  have na7 : upd H6 na (.lst []) na = some (ilst []) := upd_same
  generalize upd H6 na (.lst []) = H7 at s7 na7 ⊢
  have f7 := s7 _ _ f6
  refine ⟨_, rfl, m, _, dx, _, rfl, f7, T.cl_Machine, T.na_Machine_named, (by show 3 < 1000; decide), ?_⟩
  have b8 : But m H (upd H7 m (.ins (He.ga K "Machine") dx (putF "named" (.ref na) [("graph", .ref g), ("team", .ref ta), ("steps", .ref sa)]))) := (b6.then s7).own
  have f8 : upd H7 m (.ins (He.ga K "Machine") dx (putF "named" (.ref na) [("graph", .ref g), ("team", .ref ta), ("steps", .ref sa)])) m = some (.ins (He.ga K "Machine") dx [("graph", .ref g), ("team", .ref ta), ("steps", .ref sa), ("named", .ref na)]) := by
    rw [upd_same, putF_new _ _ _ rfl]
    rfl
  have k8 : ∀ {c : Addr} {xs : List V}, H7 c = some (.lst xs) → upd H7 m (.ins (He.ga K "Machine") dx (putF "named" (.ref na) [("graph", .ref g), ("team", .ref ta), ("steps", .ref sa)])) c = some (.lst xs) := fun {c xs} h => by
    rw [upd_ne (ne_of h f7 (fun e => nomatch e))]
    exact h
  have t8 := k8 (s7 _ _ t6)
  have sa8 := k8 (s7 _ _ sa6)
  have na8 := k8 na7
  have u8 := fun u hu => k8 (s7 _ _ (u6 u hu))
  generalize upd H7 m (.ins (He.ga K "Machine") dx (putF "named" (.ref na) [("graph", .ref g), ("team", .ref ta), ("steps", .ref sa)])) = H8 at b8 f8 t8 sa8 na8 u8 ⊢
  refine ⟨_, rfl, m, _, dx, _, rfl, f8, T.cl_Machine, T.na_Machine_bill, (by show 4 < 1000; decide), ?_⟩
  have k9 : ∀ {c : Addr} {xs : List V}, H8 c = some (.lst xs) → upd H8 m (.ins (He.ga K "Machine") dx (putF "bill" (.int 0) [("graph", .ref g), ("team", .ref ta), ("steps", .ref sa), ("named", .ref na)])) c = some (.lst xs) := fun {c xs} h => by
    rw [upd_ne (ne_of h f8 (fun e => nomatch e))]
    exact h
  have hH1 : H1 m ≠ none := by rw [f1]; exact fun e => nomatch e
  refine q _ ta sa na us b8.own (fun c hc => ?_) ⟨⟨dx, ?_⟩, k9 t8, fun w hw => k9 (u8 w hw), k9 sa8, k9 na8, by rw [List.length_map], fun i w d hw hd => ?_, ne_of_none sa6 nna, ne_of_none t3 nsa3, ne_of_none t6 nna, fun w hw => ⟨ne_of_none (u3 w hw) nsa3, ne_of_none (u6 w hw) nna⟩⟩ eus
  · rcases hc with rfl | rfl | rfl | ⟨w, hw, rfl⟩
    · exact nH b1 hH1 nta
    · exact nH b3 (by rw [f3]; exact fun e => nomatch e) nsa3
    · exact nH b6 (by rw [f6]; exact fun e => nomatch e) nna
    · exact nH b1 hH1 (hus0 w hw).1
  · rw [upd_same, putF_new _ _ _ rfl]
    rfl
  · rw [List.getElem?_map] at hd
    obtain ⟨_, _, e⟩ := Option.map_eq_some_iff.mp hd
    omega
end
end K34

namespace K34
open PySem PySem.Spec PyProof.Rows L2 Fw Lay
section
variable {P : Program} {w : World} {K : PySem.W.Frag} {mg : Str → Option Value} {base : Heap}
theorem asc_eq : ∀ (xs ys : List Int), xs.Pairwise (· < ·) → ys.Pairwise (· < ·) → (∀ x, x ∈ xs ↔ x ∈ ys) → xs = ys
  | [], [], _, _, _ => rfl
  | [], y :: ys, _, _, h => absurd ((h y).mpr (List.mem_cons_self ..)) (fun e => nomatch e)
  | x :: xs, [], _, _, h => absurd ((h x).mp (List.mem_cons_self ..)) (fun e => nomatch e)
  | x :: xs, y :: ys, hx, hy, h => by
    have hx1 := List.pairwise_cons.mp hx
    have hy1 := List.pairwise_cons.mp hy
    have e : x = y := by
      rcases List.mem_cons.mp ((h x).mp (List.mem_cons_self ..)) with e | e
      · exact e
      · rcases List.mem_cons.mp ((h y).mpr (List.mem_cons_self ..)) with e2 | e2
        · exact e2.symm
        · have := hx1.1 y e2
          have := hy1.1 x e
          omega
    subst e
    rw [asc_eq xs ys hx1.2 hy1.2 fun z => ?_]
    constructor
    · intro hz
      rcases List.mem_cons.mp ((h z).mp (List.mem_cons_of_mem _ hz)) with e | e
      · have := hx1.1 z hz
        omega
      · exact e
    · intro hz
      rcases List.mem_cons.mp ((h z).mpr (List.mem_cons_of_mem _ hz)) with e | e
      · have := hy1.1 z hz
        omega
      · exact e
theorem moved_nil (ds : List Nat) : moved ds [] = ds := by
  unfold moved
  refine List.ext_getElem? fun j => ?_
  by_cases hj : j < ds.length
  · rw [List.getElem?_map, List.getElem?_range hj]
    show some (ds.getD j 0 + if j ∈ [] then 1 else 0) = _
    rw [if_neg (fun h => nomatch h), List.getD_eq_getElem?_getD, List.getElem?_eq_getElem hj]
    rfl
  · rw [List.getElem?_eq_none (by rw [List.length_map, List.length_range]; omega), List.getElem?_eq_none (by omega)]
theorem moved_len (ds ls : List Nat) : (moved ds ls).length = ds.length := by
  unfold moved
  rw [List.length_map, List.length_range]
theorem moved_get {ds ls : List Nat} {k d : Nat} (h : ds[k]? = some d) : (moved ds ls)[k]? = some (d + if k ∈ ls then 1 else 0) := by
  have hk := (List.getElem?_eq_some_iff.mp h).1
  unfold moved
  rw [List.getElem?_map, List.getElem?_range hk]
  show some (ds.getD k 0 + if k ∈ ls then 1 else 0) = _
  rw [List.getD_eq_getElem?_getD, h]
  rfl
theorem moved_snoc {ds ls : List Nat} {k d : Nat} (h : ds[k]? = some d) (hn : ¬ k ∈ ls) : moved ds (ls ++ [k]) = (moved ds ls).set k (d + 1) := by
  have hk := (List.getElem?_eq_some_iff.mp h).1
  refine List.ext_getElem? fun j => ?_
  rw [List.getElem?_set]
  by_cases hj : k = j
  · subst hj
    rw [if_pos rfl, if_pos (by rw [moved_len]; exact hk), moved_get h, if_pos (List.mem_append_right _ (List.mem_singleton.mpr rfl))]
  · rw [if_neg hj]
    by_cases hjl : j < ds.length
    · have hd : ds[j]? = some ds[j] := List.getElem?_eq_getElem hjl
      rw [moved_get hd, moved_get hd]
      have e : j ∈ ls ++ [k] ↔ j ∈ ls := by
        rw [List.mem_append, List.mem_singleton]
        exact ⟨fun h => h.elim id fun h => absurd h.symm hj, .inl⟩
      by_cases hm : j ∈ ls
      · rw [if_pos hm, if_pos (e.mpr hm)]
      · rw [if_neg hm, if_neg fun h => hm (e.mp h)]
    · rw [List.getElem?_eq_none (by rw [moved_len]; omega), List.getElem?_eq_none (by rw [moved_len]; omega)]
theorem lanes_asc (rs : List (List Int)) (ds : List Nat) (x : Int) : (lanesAt rs ds x).Pairwise (· < ·) := (List.pairwise_lt_range (n := rs.length)).sublist List.filter_sublist
theorem lanes_mem {rs : List (List Int)} {ds : List Nat} {x : Int} {k : Nat} (h : k ∈ lanesAt rs ds x) : k < rs.length ∧ plc (rs.getD k []) (ds.getD k 0) = x := by
  obtain ⟨h1, h2⟩ := List.mem_filter.mp h
  exact ⟨List.mem_range.mp h1, of_decide_eq_true h2⟩
theorem plc_lt {r : List Int} {d : Nat} {x : Nat} (h : plc r d = (x : Int)) : d < r.length := by
  by_cases hd : d < r.length
  · exact hd
  · exfalso
    unfold plc at h
    rw [List.getElem?_eq_none (by omega)] at h
    have : (-1 : Int) = x := h
    omega
theorem ok_Machine_beat (T : Txt K mg) : GoodK P w K mg base 3 (He.ma K (He.ga K "Machine") "beat") ["self", "node", "lanes"] [.non] 2 ["lanes"] (sp_Machine_beat K) := by
  refine good_kwK (kws := [("lanes", .non)]) (n := 2) T.f_Machine_beat sc_Machine_beat (fun vs H Q E h => ?_) (List.cons_ne_nil _ _) rfl (fun D doc pm an cdv ct us ks h1 h2 => match us, ks, h1, h2 with | [_, _], [_], _, _ => ⟨_, _, _, _, _, _, rfl, rfl, rfl⟩) ?kwb (fun cdv A outer s H vs Q E hr h => ?_)
  case kwb => exact fun kV doc pm an cdv ct us ws h1 h2 s => match us, ws, h1, h2 with | [_, _], [_], _, _ => .of_eq rfl
  · obtain ⟨_, _, _, _, _, _, _, _, _, _, _, _, _, _, rfl, _⟩ := h
    rfl
  refine ⟨_, (pss_cons (ps_if (pt_not (pt_chain op_le op_lt pe_int (pv 1) (pe_fld (pe_fld (pv 0) rfl) rfl)))
    (pss_one ps_never)
    pss_nil)
  (pss_cons (ps_set (i := 3) sc_Machine_beat.nd rfl (Or.inl rfl) (pe_mtg (pv 0) T.cl_Machine T.me_Machine_at (ok_Machine_at T) (hr.mono (j := 2) (by decide)) (pa_cons (pv 1) pa_nil)))
  (C8.pss_cut (ps_if (pt_cmpR op_notN (pv 2) pe_non (nomark _))
    (pss_cons (ps_for PassesOwn.never rfl (pi_list (pv 2)) (pg_name (i := 4) sc_Machine_beat.nd rfl (Or.inl rfl))
    (pss_one (ps_if (pt_cmpR op_notIn_seq (pv 4) (pv 3) (by rfl))
    (pss_one ps_never)
    pss_nil)))
  (pss_one (ps_set (i := 3) sc_Machine_beat.nd rfl (Or.inl rfl) (pe_cg (ok_distinct T) (hr.mono (j := 1) (by decide)) (by rfl) T.g_distinct (pa_cons (pv 2) pa_nil)))))
    pss_nil)
  (pss_cons (ps_for PassesOwn.never rfl (pi_list (pv 3)) (pg_name (i := 4) sc_Machine_beat.nd rfl (Or.inl rfl))
    (pss_one (ps_asg (pe_op op_add (pe_ix ix_list (pe_fld (pv 0) rfl) (pv 4) (fun _ _ => rfl)) pe_int) (pg_sub (pe_fld (pv 0) rfl) (pv 4) set_list))))
  (pss_cons (ps_expr (pe_bm PySem.F.plainAttrs_list PySem.F.slot_list_append PySem.F.type_list_append mt_append (pe_fld (pv 0) rfl) (pa_cons (pv 1) pa_nil)))
  (pss_cons (ps_fld (pv 0) (pe_op op_add (pe_fld (pv 0) rfl) (pe_mtg (pe_fld (pv 0) rfl) T.cl_Graph T.me_Graph_price (ok_Graph_price T) (hr.mono (j := 1) (by decide)) (pa_cons (pv 1) pa_nil))) rfl)
  (pss_one (ps_ret (pv 3))))))))), ?_⟩
  obtain ⟨m, g, ta, sa, na, rs, ws, ds, bs, b, x, qr, lv, ls, rfl, hM, hG, hq, hwl, hbl, hlv, q⟩ := h
  obtain ⟨⟨dx, hi⟩, tm, rn, st, nd, ln, le, n1, n2, n3, n4⟩ := id hM
  obtain ⟨gdx, gra, hg1, hg2, hg3⟩ := id hG
  have hxl := (List.getElem?_eq_some_iff.mp hq).1
  have hwl2 : (ws.map (·.2)).length = ws.length := List.length_map ..
  have hls : ls.Pairwise (· < ·) ∧ ∀ k ∈ ls, k ∈ lanesAt (ws.map (·.2)) ds x := by
    rcases hlv with ⟨_, e⟩ | ⟨la, _, _, h1, h2⟩
    · rw [e]
      exact ⟨lanes_asc _ _ _, fun k hk => hk⟩
    · exact ⟨h1, h2⟩
  have hlnd : ls.Nodup := hls.1.imp fun h => by omega
  have hlk : ∀ k ∈ ls, k < ws.length := fun k hk => by
    have := (lanes_mem (hls.2 k hk)).1
    omega
  have hll := nodup_lt ws.length ls hlnd hlk
  refine ⟨_, rfl, _, _, rfl, rfl, _, rfl, ifT (by omega) ⟨_, rfl, m, _, dx, _, _, rfl, hi, T.cl_Machine, T.na_Machine_graph, rfl, g, _, gdx, _, _, rfl, hg1, T.cl_Graph, T.na_Graph_size, rfl, _, _, rfl, rfl, _, rfl, ifNF (show (x : Int) < (rs.length : Int) by omega) ?_⟩⟩
  refine ⟨_, rfl, m, dx, _, rfl, hi, rfl, _, rfl, m, g, ta, sa, na, ws, ds, bs, b, x, rfl, hM, by omega, fun H2 p s2 np hp => ?_⟩
  refine ⟨fun σ H7 => Same H H7 ∧ ∃ (p2 : Addr) (y4 : Option V), H p2 = none ∧ H7 p2 = some (ilst (nmap ls)) ∧ σ = [some (.ref m), some (.int (x : Int)), some lv, some (.ref p2), y4], ?_, ?_⟩
  · rcases hlv with ⟨rfl, e⟩ | ⟨la, rfl, hla, h1, h2⟩
    · refine ⟨_, rfl, rfl, _, rfl, ifNF rfl ⟨s2, p, none, np, ?_, rfl⟩⟩
      rw [e]
      exact hp
    · refine ⟨_, rfl, rfl, _, rfl, ifNT (fun e => nomatch e) ?_⟩
      refine ⟨_, rfl, la, rfl, ⟨_, s2.seq hla⟩, for_list (K := K) (a := la) (xs := (nmap ls).map V.int) (fun i σ H3 => H3 = H2 ∧ ∃ y, σ = [some (.ref m), some (.int (x : Int)), some (.ref la), some (.ref p), y]) ⟨rfl, none, rfl⟩ (fun i σ H3 _ h => by rw [h.1]; exact s2.seq hla) ?_ ?_⟩
      · rintro i v σ H3 hi2 ⟨rfl, y, rfl⟩
        obtain ⟨c, hc, rfl⟩ := map_get hi2
        have hcm : c ∈ nmap (lanesAt (ws.map (·.2)) ds x) := by
          obtain ⟨k, hk, e⟩ := List.mem_map.mp (List.mem_of_getElem? hc)
          rw [← e]
          exact List.mem_map_of_mem (f := fun z : Nat => (z : Int)) (h2 k hk)
        refine ⟨_, rfl, _, rfl, p, _, rfl, .inl (SqL.of hp), rfl, flat_ints _, _, rfl, ?_⟩
        show (if (!inV (.int c) ((nmap (lanesAt (ws.map (·.2)) ds x)).map V.int)) = true then _ else _)
        rw [neg_in hcm]
        exact iteF ⟨rfl, _, rfl⟩
      · rintro σ H3 ⟨rfl, y, rfl⟩
        refine ⟨_, rfl, la, nmap ls, rfl, s2.seq hla, by unfold nmap; rw [List.length_map]; omega, fun H4 p2 ds2 s4 np2 hp2 srt mem => ?_⟩
        have e : ds2 = nmap ls := asc_eq _ _ srt (List.pairwise_map.mpr (h1.imp fun h => by omega)) mem
        rw [e] at hp2
        exact ⟨s2.trans s4, p2, _, s2.free np2, hp2, rfl⟩
  rintro σ H7 ⟨s7, p2, y4, np2, hp2, rfl⟩
  have hM7 := hM.same s7
  have hps : p2 ≠ sa := (ne_of_none st np2).symm
  have hpn : p2 ≠ na := (ne_of_none nd np2).symm
  have enl : ((nmap ls).map V.int).length = ls.length := by
    unfold nmap
    rw [List.length_map, List.length_map]
  refine ⟨_, rfl, p2, rfl, ⟨_, SqL.of hp2⟩, for_list (K := K) (a := p2) (xs := (nmap ls).map V.int) (fun i σ H8 => But sa H7 H8 ∧ H8 sa = some (ilst (nmap (moved ds (ls.take i)))) ∧ ∃ y, σ = [some (.ref m), some (.int (x : Int)), some lv, some (.ref p2), y])
    ⟨But.refl, by rw [List.take_zero, moved_nil]; exact s7 _ _ st, y4, rfl⟩ (fun i σ H8 _ h => SqL.of (h.1 _ _ hps hp2)) ?_ ?_⟩
  · rintro i v σ H8 hi2 ⟨b8, h8, y, rfl⟩
    obtain ⟨c, hc, rfl⟩ := map_get hi2
    obtain ⟨k, hk, rfl⟩ : ∃ k, ls[i]? = some k ∧ c = (k : Int) := by
      unfold nmap at hc
      rw [List.getElem?_map] at hc
      obtain ⟨k, h1, h2⟩ := Option.map_eq_some_iff.mp hc
      exact ⟨k, h1, h2.symm⟩
    have hkw := hlk k (List.mem_of_getElem? hk)
    have hd : ds[k]? = some ds[k] := List.getElem?_eq_getElem (by omega)
    generalize ds[k]'(by omega) = d at hd
    have hnk : ¬ k ∈ ls.take i := fun h => by
      obtain ⟨j, hj, e⟩ := List.mem_take_iff_getElem.mp h
      have h1 := (List.getElem?_eq_some_iff.mp hk).1
      have h2 := (List.getElem_inj hlnd (h₀ := by omega) (h₁ := h1)).mp (e.trans (List.getElem?_eq_some_iff.mp hk).2.symm)
      omega
    have hg : (moved ds (ls.take i))[k]? = some d := by
      rw [moved_get hd, if_neg hnk]
      rfl
    have hsam : sa ≠ m := (ne_of hi st (fun e => nomatch e)).symm
    have hi8 := b8 _ _ hsam.symm (s7 _ _ hi)
    refine ⟨_, rfl, m, _, dx, _, _, rfl, hi8, T.cl_Machine, T.na_Machine_steps, rfl, _, rfl, sa, _, _, _, rfl, rfl, SqL.of h8, atI_nat (nmap_at hg), _, _, rfl, rfl, _, rfl, m, _, dx, _, _, rfl, hi8, T.cl_Machine, T.na_Machine_steps, rfl, _, rfl, sa, _, _, k, rfl, rfl, h8, ixN_nat ?_, b8.own, ?_, _, rfl⟩
    · unfold nmap
      rw [List.length_map, List.length_map, moved_len]
      omega
    · rw [upd_same, List.take_add_one, hk]
      show _ = some (ilst (nmap (moved ds (ls.take i ++ [k]))))
      rw [moved_snoc hd hnk]
      unfold ilst
      rw [← nmap_set]
      rfl
  rintro σ H8 ⟨b8, h8, y, rfl⟩
  rw [enl, List.take_length] at h8
  have hsam : m ≠ sa := ne_of hi st (fun e => nomatch e)
  have hnam : m ≠ na := ne_of hi nd (fun e => nomatch e)
  have hi8 := b8 _ _ hsam (s7 _ _ hi)
  have nd8 := b8 _ _ n1.symm (s7 _ _ nd)
  have hbn : (bs.map V.int).length < sizeLine := by
    rw [List.length_map]
    exact Nat.lt_of_le_of_lt hbl (by decide)
  refine ⟨_, rfl, m, _, dx, _, _, rfl, hi8, T.cl_Machine, T.na_Machine_named, rfl, .inl ⟨rfl, _, SqL.of nd8⟩, _, rfl, na, _, _, rfl, rfl, nd8, hbn, ?_⟩
  have hi9 : upd H8 na (.lst (bs.map V.int ++ [.int (x : Int)])) m = some (.ins (He.ga K "Machine") dx [("graph", .ref g), ("team", .ref ta), ("steps", .ref sa), ("named", .ref na), ("bill", .int b)]) := by
    rw [upd_ne hnam]
    exact hi8
  have b9 : ∀ c o, c ≠ sa → c ≠ na → H c = some o → upd H8 na (.lst (bs.map V.int ++ [.int (x : Int)])) c = some o := fun c o n1 n2 e => by
    rw [upd_ne n2]
    exact b8 c o n1 (s7 _ _ e)
  have h9s : upd H8 na (.lst (bs.map V.int ++ [.int (x : Int)])) sa = some (ilst (nmap (moved ds ls))) := by
    rw [upd_ne n1]
    exact h8
  have h9n : upd H8 na (.lst (bs.map V.int ++ [.int (x : Int)])) na = some (ilst (bs ++ [(x : Int)])) := by
    rw [upd_same]
    unfold ilst
    rw [List.map_append]
    rfl
  have h9p : upd H8 na (.lst (bs.map V.int ++ [.int (x : Int)])) p2 = some (ilst (nmap ls)) := by
    rw [upd_ne hpn]
    exact b8 _ _ hps hp2
  generalize upd H8 na (.lst (bs.map V.int ++ [.int (x : Int)])) = H9 at hi9 b9 h9s h9n h9p ⊢
  have hG9 : GrAt K H9 g rs := ⟨gdx, gra, b9 _ _ (ne_of hg1 st (fun e => nomatch e)) (ne_of hg1 nd (fun e => nomatch e)) hg1, b9 _ _ (ne_of hg2 st (fun e => nomatch e)) (ne_of hg2 nd (fun e => nomatch e)) hg2, fun z hz => ⟨b9 _ _ (ne_of (hg3 z hz).1 st (fun e => nomatch e)) (ne_of (hg3 z hz).1 nd (fun e => nomatch e)) (hg3 z hz).1, b9 _ _ (ne_of (hg3 z hz).2 st (fun e => nomatch e)) (ne_of (hg3 z hz).2 nd (fun e => nomatch e)) (hg3 z hz).2⟩⟩
  obtain ⟨gdx9, gra9, hg91, _, _⟩ := id hG9
  refine ⟨_, rfl, m, _, dx, _, _, rfl, hi9, T.cl_Machine, T.na_Machine_bill, rfl, _, rfl, m, _, dx, _, _, rfl, hi9, T.cl_Machine, T.na_Machine_graph, rfl, g, gdx9, _, rfl, hg91, rfl, _, rfl, g, rs, x, qr, rfl, hG9, hq, _, _, rfl, rfl, _, rfl, m, _, dx, _, rfl, hi9, T.cl_Machine, T.na_Machine_bill, (by show 5 < 1000; decide), ?_⟩
  have hk : ∀ {c : Addr} {xs : List V}, H9 c = some (.lst xs) → upd H9 m (.ins (He.ga K "Machine") dx (putF "bill" (.int (b + qr.2.2.2.1)) [("graph", .ref g), ("team", .ref ta), ("steps", .ref sa), ("named", .ref na), ("bill", .int b)])) c = some (.lst xs) := fun {c xs} h => by
    rw [upd_ne (ne_of h hi9 (fun e => nomatch e))]
    exact h
  refine ⟨_, rfl, q _ p2 (fun c o n1 n2 n3 e => ?_) np2 (hk h9p) ⟨⟨dx, ?_⟩, hk (b9 _ _ n2 n3 tm), fun w hw => hk (b9 _ _ (n4 w hw).1 (n4 w hw).2 (rn w hw)), hk h9s, hk h9n, by rw [moved_len]; exact ln, fun i w d hw hd => ?_, n1, n2, n3, n4⟩⟩
  · rw [upd_ne n1]
    exact b9 c o n2 n3 e
  · rw [upd_same]
    rfl
  · have hiw := (List.getElem?_eq_some_iff.mp hw).1
    have hd0 : ds[i]? = some ds[i] := List.getElem?_eq_getElem (by omega)
    have h0 := le i w _ hw hd0
    generalize ds[i]'(by omega) = d0 at hd0 h0
    rw [moved_get hd0] at hd
    have hd2 := Option.some.inj hd
    by_cases hm : i ∈ ls
    · rw [if_pos hm] at hd2
      have h1 := (lanes_mem (hls.2 i hm)).2
      rw [List.getD_eq_getElem?_getD, List.getElem?_map, hw, List.getD_eq_getElem?_getD, hd0] at h1
      have h3 : d0 < w.2.length := plc_lt h1
      omega
    · rw [if_neg hm] at hd2
      omega
end
end K34

namespace K34
open PySem PySem.Spec PyProof.Rows L2 Fw Lay
section
variable {P : Program} {w : World} {K : PySem.W.Frag} {mg : Str → Option Value} {base : Heap}
theorem ok_l_home (T : Txt K mg) : Good P w K mg base 1 (He.ga K "_law_home") ["_law_rows"] [] (sp_l_home K) := by
  refine good_of T.f_l_home sc_l_home (fun vs H Q E h => ?_) (fun _ _ _ _ _ _ us hl => match us, hl with | [_], _ => rfl) (fun cdv A outer s H vs Q E hr h => ?_)
  · obtain ⟨_, _, rfl, _⟩ := h
    rfl
  refine ⟨_, (pss_cons (ps_set (i := 1) sc_l_home.nd rfl (Or.inl rfl) (pe_op op_rep (pe_lst (pa_cons (pe_op op_mul pe_int (pe_callB call_len_seq (by rfl) T.z_len (by decide +kernel) (pa_cons (pv 0) pa_nil))) pa_nil)) (pe_callB call_len_seq (by rfl) T.z_len (by decide +kernel) (pa_cons (pv 0) pa_nil))))
  (pss_cons (ps_for PassesOwn.never rfl (pi_range1 (by rfl) T.z_range (pa_cons (pe_callB call_len_seq (by rfl) T.z_len (by decide +kernel) (pa_cons (pv 0) pa_nil)) pa_nil)) (pg_name (i := 2) sc_l_home.nd rfl (Or.inl rfl))
    (pss_one (ps_for PassesOwn.never rfl (pi_range1 (by rfl) T.z_range (pa_cons (pe_callB call_len_seq (by rfl) T.z_len (by decide +kernel) (pa_cons (pv 0) pa_nil)) pa_nil)) (pg_name (i := 3) sc_l_home.nd rfl (Or.inl rfl))
    (pss_one (ps_for PassesOwn.never rfl (pi_tup (pe_ix ix_tup (pe_ix ix_list (pv 0) (pv 3) (fun _ _ => rfl)) pe_int (fun _ _ => rfl))) (pg_name (i := 4) sc_l_home.nd rfl (Or.inl rfl))
    (pss_one (ps_if (pt_cmpR op_lt (pv 4) pe_int (nomark _))
    (pss_one (ps_asg pe_int (pg_sub (pv 1) (pv 3) set_list)))
    (pss_one (ps_if (pt_cmpR op_lt (pe_op op_add (pe_ix ix_list (pv 1) (pv 4) (fun _ _ => rfl)) pe_int) (pe_ix ix_list (pv 1) (pv 3) (fun _ _ => rfl)) (nomark _))
    (pss_one (ps_asg (pe_op op_add (pe_ix ix_list (pv 1) (pv 4) (fun _ _ => rfl)) pe_int) (pg_sub (pv 1) (pv 3) set_list)))
    pss_nil)))))))))
  (pss_one (ps_ret (pv 1))))), ?_⟩
  obtain ⟨a, rs, rfl, hA, hrw, hok, q⟩ := h
  have hlen : (refR rs).length = rs.length := List.length_map ..
  have hfew := hok.few
  have hgl := sxr_len rs
  have hpos : 0 < rs.length := by
    have := hok.g.pos
    omega
  refine ⟨.ref a, rfl, a, _, rfl, .inl hA, _, _, rfl, rfl, .inl ⟨by decide, by decide⟩, (by show 1 ≤ sizeLine; decide), fun o no => ?_⟩
  dsimp only
  rw [hlen]
  refine ⟨.ref a, rfl, a, _, rfl, .inl ((same_new no).seq hA), o, _, _, rfl, rfl, upd_same, by omega, by omega, ?_, fun p np => ?_⟩
  · rw [hlen]
    exact Nat.le_trans (show 1 * (rs.length : Int).toNat ≤ 1000 by omega) (by decide)
  have e0 : (List.replicate ((refR rs).length : Int).toNat [V.int (2 * (rs.length : Int))]).flatten = (nmap (List.replicate rs.length (2 * rs.length))).map V.int := by
    rw [List.flatten_replicate_singleton, hlen, Int.toNat_natCast]
    unfold nmap
    rw [List.map_replicate, List.map_replicate]
    rfl
  rw [e0]
  have s1 := (same_new (o := .lst [V.int (2 * (rs.length : Int))]) no).trans (same_new (o := .lst ((nmap (List.replicate rs.length (2 * rs.length))).map V.int)) np)
  have hpH : H p = none := (same_new (o := .lst [V.int (2 * (rs.length : Int))]) no).free np
  have hp1 : upd (upd H o (.lst [V.int (2 * (rs.length : Int))])) p (.lst ((nmap (List.replicate rs.length (2 * rs.length))).map V.int)) p = some (ilst (nmap (List.replicate rs.length (2 * rs.length)))) := upd_same
  generalize upd (upd H o (.lst [V.int (2 * (rs.length : Int))])) p (.lst ((nmap (List.replicate rs.length (2 * rs.length))).map V.int)) = H1 at s1 hp1 ⊢
  have h0 := Hm.start (sxr rs)
  rw [hgl] at h0
  refine ⟨_, rfl, a, _, rfl, .inl (s1.seq hA), ((refR rs).length : Nat), rfl, by omega, by omega, for_range (n := (refR rs).length) (fun t σ H2 => Same H H2 ∧ (∃ hs, H2 p = some (ilst (nmap hs)) ∧ Hm (sxr rs) t 0 hs) ∧ ∃ y2 y3 y4, σ = [some (.ref a), some (.ref p), y2, y3, y4])
    ⟨s1, ⟨_, hp1, h0⟩, none, none, none, rfl⟩ ?_ ?_⟩
  · rintro t σ H2 ht ⟨s2, ⟨hs, h2, hm⟩, y2, y3, y4, rfl⟩
    refine ⟨_, rfl, a, _, rfl, .inl (s2.seq hA), ((refR rs).length : Nat), rfl, by omega, by omega, for_range (n := (refR rs).length) (fun v σ H3 => Same H H3 ∧ (∃ hs, H3 p = some (ilst (nmap hs)) ∧ Hm (sxr rs) t v hs) ∧ ∃ y2 y3 y4, σ = [some (.ref a), some (.ref p), y2, y3, y4])
      ⟨s2, ⟨_, h2, hm⟩, _, _, _, rfl⟩ ?_ ?_⟩
    · clear hm h2 hs
      rintro v σ H3 hv ⟨s3, ⟨hs, h3, hm⟩, y2, y3, y4, rfl⟩
      have hvl : v < rs.length := by omega
      have hq : rs[v]? = some rs[v] := List.getElem?_eq_getElem hvl
      have hqm : rs[v] ∈ rs := List.getElem_mem hvl
      generalize rs[v] = qr at hq hqm
      obtain ⟨hr1, hr2⟩ := hrw qr hqm
      have hgv := get_sxr hq
      have hrow := hok.g.rows _ (List.mem_of_getElem? hgv)
      rw [hgl] at hrow
      obtain ⟨w1, w2, w3⟩ := hrow
      refine ⟨_, rfl, _, rfl, a, _, _, _, rfl, rfl, s3.seq hA, atI0 (get_refR hq), qr.1, _, 2, _, rfl, rfl, SqT.of (s3 _ _ hr1), rfl, qr.2.1, rfl, ⟨_, SqT.of (s3 _ _ hr2)⟩, for_it (walk_tup (K := K) (a := qr.2.1) (xs := qr.2.2.2.2.map V.int)) (fun j σ H4 => Same H H4 ∧ (∃ hs, H4 p = some (ilst (nmap hs)) ∧ Hin (sxr rs) t v (qr.2.2.2.2.take j) hs) ∧ ∃ y2 y4, σ = [some (.ref a), some (.ref p), y2, some (.int (0 + (v : Int))), y4])
        ⟨s3, ⟨hs, h3, by rw [List.take_zero]; exact Hin.start hm⟩, _, _, rfl⟩ (fun j σ H4 _ h => SqT.of (h.1 _ _ hr2)) ?_ ?_⟩
      · clear hm h3 hs
        rintro j x σ H5 H4 hj ⟨s4, ⟨hs, h4, hi⟩, y2, y4, rfl⟩ ⟨rfl, hx⟩
        obtain ⟨tt, htt, rfl⟩ := map_get hx
        have htm := List.mem_of_getElem? htt
        have hsl : hs.length = rs.length := by
          have := hi.hm.len
          omega
        have hhv : hs[v]? = some hs[v] := List.getElem?_eq_getElem (by omega)
        generalize hs[v]'(by omega) = hv0 at hhv
        have hj1 := (hi.hm.jv v hv0 _ hhv hgv).1
        have hnl : ((nmap hs).map V.int).length = rs.length := by
          unfold nmap
          rw [List.length_map, List.length_map, hsl]
        have set : ∀ x : Nat, upd H4 p (.lst (((nmap hs).map V.int).set v (.int (x : Int)))) p = some (ilst (nmap (hs.set v x))) := fun x => by
          rw [upd_same]
          unfold ilst nmap
          rw [List.map_set, List.map_set]
        refine ⟨_, rfl, _, _, rfl, rfl, _, rfl, if2 (fun e => ?_) (fun e => ?_)⟩
        · have et : tt = -1 := by
            rcases w3 tt htm with h | h
            · exact h
            · omega
          refine ⟨_, rfl, _, rfl, p, _, _, v, rfl, rfl, h4, ?_, ?_⟩
          · rw [show (0 + (v : Int)) = v by omega]
            exact ixN_nat (by omega)
          refine ⟨same_mut s4 hpH, ⟨hs.set v 1, set 1, ?_⟩, _, _, rfl⟩
          rw [List.take_add_one, htt]
          exact hi.set hhv hgv hj1 (Nat.le_refl _) (.inl ⟨rfl, et, htm⟩)
        · obtain ⟨u, rfl⟩ : ∃ u : Nat, tt = u := ⟨tt.toNat, by omega⟩
          have hul : u < rs.length := by
            rcases w3 u htm with h | h
            · omega
            · omega
          have hhu : hs[u]? = some hs[u] := List.getElem?_eq_getElem (by omega)
          generalize hs[u]'(by omega) = hu0 at hhu
          refine ⟨_, rfl, _, rfl, p, _, _, _, rfl, rfl, SqL.of h4, atI_nat (nmap_at hhu), _, _, rfl, rfl, _, rfl, _, rfl, p, _, _, _, rfl, rfl, SqL.of h4, atI0 (nmap_at hhv), _, _, rfl, rfl, _, rfl, if2 (fun e2 => ?_) (fun e2 => ?_)⟩
          · refine ⟨_, rfl, _, rfl, p, _, _, _, rfl, rfl, SqL.of h4, atI_nat (nmap_at hhu), _, _, rfl, rfl, _, rfl, _, rfl, p, _, _, v, rfl, rfl, h4, ?_, ?_⟩
            · rw [show (0 + (v : Int)) = v by omega]
              exact ixN_nat (by omega)
            refine ⟨same_mut s4 hpH, ⟨hs.set v (hu0 + 1), set (hu0 + 1), ?_⟩, _, _, rfl⟩
            rw [List.take_add_one, htt]
            refine hi.set hhv hgv (by omega) (by omega) (.inr ⟨u, hu0, rfl, htm, fun e => ?_, hhu, rfl⟩)
            rw [e, hhv] at hhu
            have := Option.some.inj hhu
            omega
          · refine ⟨s4, ⟨hs, h4, ?_⟩, _, _, rfl⟩
            rw [List.take_add_one, htt]
            refine hi.skip (fun e => by omega) (fun u2 hu2 hv2 e3 e4 e5 => ?_)
            have e6 : u = u2 := by omega
            rw [← e6, hhu] at e4
            rw [hhv] at e5
            have := Option.some.inj e4
            have := Option.some.inj e5
            omega
      · rintro σ H4 ⟨s4, ⟨hs, h4, hi⟩, y2, y4, rfl⟩
        rw [List.length_map, List.take_length] at hi
        refine ⟨s4, ⟨hs, h4, hi.row hgv fun u hu => ?_⟩, _, _, _, rfl⟩
        rcases w3 u hu with h | h
        · omega
        · omega
    · rintro σ H3 ⟨s3, ⟨hs, h3, hm⟩, y2, y3, y4, rfl⟩
      rw [hlen, ← hgl] at hm
      exact ⟨s3, ⟨hs, h3, hm.turn⟩, _, _, _, rfl⟩
  · rintro σ H2 ⟨s2, ⟨hs, h2, hm⟩, y2, y3, y4, rfl⟩
    rw [hlen, ← hgl] at hm
    exact ⟨_, rfl, q H2 p hs s2 hpH h2 (hm.done hok.g)⟩
end
end K34

namespace K34
open PySem PySem.Spec PyProof.Rows L2 Fw Lay
section
variable {P : Program} {w : World} {K : PySem.W.Frag} {mg : Str → Option Value} {base : Heap}
theorem ok_l_run (T : Txt K mg) : Good P w K mg base 2 (He.ga K "_law_run") ["_law_rows", "_law_cell_here", "_law_most"] [] (sp_l_run K) := by
  refine good_of T.f_l_run sc_l_run (fun vs H Q E h => ?_) (fun _ _ _ _ _ _ us hl => match us, hl with | [_, _, _], _ => rfl) (fun cdv A outer s H vs Q E hr h => ?_)
  · obtain ⟨_, _, _, _, rfl, _⟩ := h
    rfl
  refine ⟨_, (pss_cons (ps_set (i := 3) sc_l_run.nd rfl (Or.inl rfl) (pe_cg (ok_l_home T) (hr.mono (j := 1) (by decide)) (by rfl) T.g_l_home (pa_cons (pv 0) pa_nil)))
  (pss_cons (ps_set (i := 4) sc_l_run.nd rfl (Or.inl rfl) (pe_cg (ok_l_digits T) (hr.mono (j := 1) (by decide)) (by rfl) T.g_l_digits (pa_cons (pv 1) (pa_cons (pv 2) (pa_cons pe_int pa_nil)))))
  (pss_cons (ps_set (i := 5) sc_l_run.nd rfl (Or.inl rfl) (pe_lst (pa_cons pe_int pa_nil)))
  (pss_cons (ps_for PassesOwn.never rfl (pi_range1 (by rfl) T.z_range (pa_cons (pe_op op_add (pe_op op_add (pv 2) (pe_callB call_len_seq (by rfl) T.z_len (by decide +kernel) (pa_cons (pv 0) pa_nil))) pe_int) pa_nil)) (pg_name (i := 6) sc_l_run.nd rfl (Or.inl rfl))
    (pss_cons (ps_set (i := 7) sc_l_run.nd rfl (Or.inl rfl) (pe_ix ix_tup (pe_ix ix_list (pv 0) (pe_ix ix_list (pv 5) (pe_un un_neg pe_int) (fun _ _ => rfl)) (fun _ _ => rfl)) pe_int (fun _ _ => rfl)))
  (pss_cons (ps_set (i := 8) sc_l_run.nd rfl (Or.inl rfl) (pe_ix ix_tup (pv 7) pe_int (fun _ _ => rfl)))
  (C8.pss_cut (ps_if (pt_cmpR op_lt (pv 6) (pv 2) (nomark _))
    (pss_one (ps_set (i := 8) sc_l_run.nd rfl (Or.inl rfl) (pe_ix ix_tup (pv 7) (pe_op op_mod (pe_callTy call_int1 (by rfl) T.z_int (by decide +kernel) (pa_cons (pe_ix ix_list (pv 4) (pv 6) (fun _ _ => rfl)) pa_nil)) (pe_callB call_len_seq (by rfl) T.z_len (by decide +kernel) (pa_cons (pv 7) pa_nil))) (fun _ _ => rfl))))
    (pss_one (ps_for PassesOwn.never rfl (pi_tup (pv 7)) (pg_name (i := 9) sc_l_run.nd rfl (Or.inl rfl))
    (pss_one (ps_if (pw_or (pt_cmpR op_lt (pv 9) pe_int (nomark _)) (pw_or1 (pw_and (pt_cmpR op_ge (pv 8) pe_int (nomark _)) (pw_and1 (pt_cmpR op_lt (pe_ix ix_list (pv 3) (pv 9) (fun _ _ => rfl)) (pe_ix ix_list (pv 3) (pv 8) (fun _ _ => rfl)) (nomark _)))).pt)).pt
    (pss_one (ps_set (i := 8) sc_l_run.nd rfl (Or.inl rfl) (pv 9)))
    pss_nil)))))
  (pss_cons (ps_if (pt_cmpR op_lt (pv 8) pe_int (nomark _))
    (pss_one (ps_ret (pv 5)))
    pss_nil)
  (pss_one (ps_expr (pe_bm PySem.F.plainAttrs_list PySem.F.slot_list_append PySem.F.type_list_append mt_append (pv 5) (pa_cons (pv 8) pa_nil)))))))))
  (pss_one (ps_ret (pv 5))))))), ?_⟩
  obtain ⟨a, rs, c, m, rfl, hA, hrw, hok, c0, hm, q⟩ := h
  have hlen : (refR rs).length = rs.length := List.length_map ..
  have hfew := hok.few
  have hgl := sxr_len rs
  have hpos : 0 < rs.length := by
    have := hok.g.pos
    omega
  refine ⟨_, rfl, a, rs, rfl, hA, hrw, hok, fun H1 hp hs s1 nhp hhp hO => ?_⟩
  refine ⟨_, rfl, _, rfl, c, 60, m, rfl, c0, by omega, by decide, by decide, fun H2 rp ds s2 nr hr len bd => ?_⟩
  have s02 := s1.trans s2
  refine ⟨(by show 1 ≤ sizeLine; decide), fun p np => ?_⟩
  have npH : H p = none := s02.free np
  have s3 := s02.trans (same_new (o := .lst [V.int 0]) np)
  have hr3 := same_new (o := .lst [V.int 0]) np _ _ hr
  have hh3 := same_new (o := .lst [V.int 0]) np _ _ (s2 _ _ hhp)
  have hpr : rp ≠ p := ne_of_none hr np
  have hph : hp ≠ p := ne_of_none (s2 _ _ hhp) np
  have hp3 : upd H2 p (.lst [V.int 0]) p = some (ilst [0]) := upd_same
  generalize upd H2 p (.lst [V.int 0]) = H3 at s3 hr3 hh3 hp3 ⊢
  have hOl : hs.length = rs.length := by
    have := hO.1
    omega
  have hO0 : ∀ (v h : Nat), hs[v]? = some h → h ≤ rs.length := fun v h hv => by
    have hvl := (List.getElem?_eq_some_iff.mp hv).1
    have hl : (sxr rs)[v]? = some ((sxr rs)[v]'(by omega)) := List.getElem?_eq_getElem (by omega)
    have := (hO.2 v h _ hv hl).2.1
    omega
  refine ⟨_, rfl, .ref a, rfl, a, _, rfl, .inl (s3.seq hA), _, _, rfl, rfl, _, _, rfl, rfl, _, rfl, by omega, by omega, for_range (n := ((m : Int) + ((refR rs).length : Nat) + 1).toNat) (fun k σ H5 => (Same H H5 ∧ H5 rp = some (ilst ds) ∧ H5 hp = some (ilst (nmap hs))) ∧ (∃ r, H5 p = some (ilst r) ∧ PRun (sxr rs) r ∧ r.length = k + 1 ∧ (m ≤ k → ∀ (w h : Nat), r[r.length - 1]? = some (w : Int) → hs[w]? = some h → h + (k - m) ≤ rs.length)) ∧
      ∃ y6 y7 y8 y9, σ = [some (.ref a), some (.int c), some (.int (m : Int)), some (.ref hp), some (.ref rp), some (.ref p), y6, y7, y8, y9]) ⟨⟨s3, hr3, hh3⟩, ⟨[0], hp3, ⟨rfl, fun x hx => ?_, fun i x y _ hy => ?_⟩, rfl, fun h0 w h _ hh => ?_⟩, none, none, none, none, rfl⟩ ?_ ?_⟩
  · rw [List.mem_singleton.mp hx]
    omega
  · rw [List.getElem?_eq_none (by simp)] at hy
    cases hy
  · have := hO0 w h hh
    omega
  · rintro k σ H5 hk ⟨⟨s5, hr5, hh5⟩, ⟨r, hp5, hP, hrl, hdn⟩, y6, y7, y8, y9, rfl⟩
    have hkb : k < m + rs.length + 1 := by omega
    obtain ⟨x, hx⟩ : ∃ x, r[r.length - 1]? = some x := ⟨_, List.getElem?_eq_getElem (by omega)⟩
    have hxr := hP.rng x (List.mem_of_getElem? hx)
    obtain ⟨w, rfl⟩ : ∃ w : Nat, x = w := ⟨x.toNat, by omega⟩
    have hwl : w < rs.length := by omega
    have hq : rs[w]? = some rs[w] := List.getElem?_eq_getElem hwl
    have hqm : rs[w] ∈ rs := List.getElem_mem hwl
    generalize rs[w] = qr at hq hqm
    obtain ⟨hr1, hr2⟩ := hrw qr hqm
    have hgv := get_sxr hq
    have hrow := hok.g.rows _ (List.mem_of_getElem? hgv)
    rw [hgl] at hrow
    obtain ⟨w1, w2, w3⟩ := hrow
    generalize hL : qr.2.2.2.2 = l at hgv w1 w2 w3
    rw [hL] at hr2
    obtain ⟨hw, hhw⟩ : ∃ hw, hs[w]? = some hw := ⟨_, List.getElem?_eq_getElem (by omega)⟩
    obtain ⟨_, _, hOw⟩ := hO.2 w hw l hhw hgv
    have hU : SqT K H5 qr.2.1 (l.map V.int) := SqT.of (s5 _ _ hr2)
    have hll : (l.map V.int).length = l.length := List.length_map ..
    obtain ⟨t0, ht0⟩ : ∃ t, l[0]? = some t := ⟨_, List.getElem?_eq_getElem (by omega)⟩
    have hun : ∀ {u : Int}, u ∈ l → ¬ u < 0 → ∃ (n h : Nat), u = n ∧ n < rs.length ∧ hs[n]? = some h := fun {u} hu h0 => by
      have hn : u.toNat < rs.length := by
        rcases w3 u hu with h | h
        · omega
        · omega
      exact ⟨u.toNat, _, by omega, hn, List.getElem?_eq_getElem (by omega)⟩
    refine ⟨_, rfl, _, rfl, 1, rfl, p, _, _, _, rfl, rfl, SqL.of hp5, atI_end hx, a, _, _, _, rfl, rfl, s5.seq hA, atI_nat (get_refR hq), qr.1, _, 2, _, rfl, rfl, SqT.of (s5 _ _ hr1), rfl, ?_⟩
    refine ⟨_, rfl, qr.2.1, _, 0, _, rfl, rfl, hU, atI_nat (j := 0) (get_map ht0), ?_⟩
    refine ⟨fun σ H6 => H6 = H5 ∧ ∃ (t : Int) (y9 : Option V), t ∈ l ∧ (m ≤ k → 0 ≤ t → ∀ ht : Nat, hs[t.toNat]? = some ht → ht < hw) ∧ σ = [some (.ref a), some (.int c), some (.int (m : Int)), some (.ref hp), some (.ref rp), some (.ref p), some (.int (0 + (k : Int))), some (.ref qr.2.1), some (.int t), y9], ?_, ?_⟩
    · refine ⟨_, rfl, _, rfl, _, _, rfl, rfl, _, rfl, if2 (fun e => ?_) (fun e => ?_)⟩
      · have hkl : k < ds.length := by omega
        have hdk : (ds.map V.int)[k]? = some (.int ds[k]) := get_map (List.getElem?_eq_getElem hkl)
        generalize ds[k] = dk at hdk
        have hm1 := Int.emod_nonneg dk (show (((l.map V.int).length : Nat) : Int) ≠ 0 by omega)
        have hm2 := Int.emod_lt_of_pos dk (show (0 : Int) < ((l.map V.int).length : Nat) by omega)
        obtain ⟨t, ht⟩ : ∃ t, l[(dk % (((l.map V.int).length : Nat) : Int)).toNat]? = some t := ⟨_, List.getElem?_eq_getElem (by omega)⟩
        refine ⟨_, rfl, _, rfl, _, rfl, rp, _, _, _, rfl, rfl, SqL.of hr5, atI0 hdk, .inl ⟨_, rfl, _, rfl, qr.2.1, _, rfl, .inr hU, _, _, rfl, rfl, by omega, qr.2.1, _, _, _, rfl, rfl, hU, atIe (get_map ht) (by omega), ?_⟩⟩
        exact ⟨rfl, t, y9, List.mem_of_getElem? ht, fun h => by omega, rfl⟩
      · refine ⟨_, rfl, qr.2.1, rfl, ⟨_, hU⟩, for_it (walk_tup (K := K) (a := qr.2.1) (xs := l.map V.int)) (fun j σ H6 => H6 = H5 ∧ (∃ (t : Int) (y9 : Option V), t ∈ l ∧ ((-1 : Int) ∈ l.take j → t = -1) ∧ (0 ≤ t → ∀ (ht u hu : Nat), hs[t.toNat]? = some ht → (u : Int) ∈ l.take j → hs[u]? = some hu → ht ≤ hu) ∧
          σ = [some (.ref a), some (.int c), some (.int (m : Int)), some (.ref hp), some (.ref rp), some (.ref p), some (.int (0 + (k : Int))), some (.ref qr.2.1), some (.int t), y9]))
          ⟨rfl, t0, y9, List.mem_of_getElem? ht0, fun h => (nomatch h), fun _ _ _ _ _ h _ => (nomatch h), rfl⟩ (fun j σ H6 _ h => by rw [h.1]; exact hU) ?_ ?_⟩
        · rintro j z σ H6 H7 hj ⟨rfl, t, y9, htm, hf1, hf2, rfl⟩ ⟨rfl, hz⟩
          obtain ⟨o, ho, rfl⟩ := map_get hz
          have hom := List.mem_of_getElem? ho
          have htk : l.take (j + 1) = l.take j ++ [o] := by rw [List.take_add_one, ho]; rfl
          rw [htk]
          refine ⟨_, rfl, _, _, rfl, rfl, _, rfl, if2 (fun e1 => ?_) (fun e1 => ⟨_, rfl, _, _, rfl, rfl, _, rfl, if2 (fun e2 => ?_) (fun e2 => ?_)⟩)⟩
          · have eo : o = -1 := by
              rcases w3 o hom with h | h
              · exact h
              · omega
            exact ⟨_, rfl, rfl, o, _, hom, fun _ => eo, fun h => by omega, rfl⟩
          · obtain ⟨on, oh, rfl, _, hoh⟩ := hun hom e1
            obtain ⟨tn, th, rfl, _, hth⟩ := hun htm (by omega)
            refine ⟨_, rfl, _, rfl, hp, _, _, _, rfl, rfl, SqL.of hh5, atI_nat (nmap_at hoh), _, rfl, _, rfl, hp, _, _, _, rfl, rfl, SqL.of hh5, atI_nat (nmap_at hth), _, _, rfl, rfl, _, rfl, if2 (fun e3 => ?_) (fun e3 => ?_)⟩
            · refine ⟨_, rfl, rfl, _, _, hom, fun h => ?_, fun _ ht u hu h1 h2 h3 => ?_, rfl⟩
              · rcases List.mem_append.mp h with h | h
                · have := hf1 h
                  omega
                · exact (List.mem_singleton.mp h).symm
              · rw [Int.toNat_natCast, hoh] at h1
                have e4 := Option.some.inj h1
                rcases List.mem_append.mp h2 with h | h
                · have := hf2 e2 th u hu (by rw [Int.toNat_natCast]; exact hth) h h3
                  omega
                · have e5 : u = on := Int.ofNat.inj (List.mem_singleton.mp h)
                  rw [e5, hoh] at h3
                  have := Option.some.inj h3
                  omega
            · refine ⟨rfl, _, _, htm, fun h => ?_, fun _ ht u hu h1 h2 h3 => ?_, rfl⟩
              · rcases List.mem_append.mp h with h | h
                · exact hf1 h
                · have := List.mem_singleton.mp h
                  omega
              · rcases List.mem_append.mp h2 with h | h
                · exact hf2 e2 ht u hu h1 h h3
                · have e5 : u = on := Int.ofNat.inj (List.mem_singleton.mp h)
                  rw [e5, hoh] at h3
                  rw [Int.toNat_natCast, hth] at h1
                  have := Option.some.inj h3
                  have := Option.some.inj h1
                  omega
          · refine ⟨rfl, _, _, htm, fun h => ?_, fun h0 => absurd h0 e2, rfl⟩
            rcases w3 t htm with h4 | h4
            · exact h4
            · omega
        · rintro σ H6 ⟨rfl, t, y9, htm, hf1, hf2, rfl⟩
          rw [hll, List.take_length] at hf1 hf2
          refine ⟨rfl, t, y9, htm, fun _ h0 ht hht => ?_, rfl⟩
          rcases hOw with h | ⟨u, hu, h1, h2, h3⟩
          · have := hf1 h
            omega
          · have := hf2 h0 ht u hu hht h1 h2
            omega
    rintro σ H6 ⟨rfl, t, y9, htm, hft, rfl⟩
    refine ⟨_, rfl, _, _, rfl, rfl, _, rfl, if2 (fun e => ?_) (fun e => ?_)⟩
    · have et : t = -1 := by
        rcases w3 t htm with h | h
        · exact h
        · omega
      refine ⟨_, rfl, q H6 p r s5 npH hp5 ⟨hP.first, hP.rng, hP.next, (w : Int), l, hx, by rw [Int.toNat_natCast]; exact hgv, by rw [← et]; exact htm⟩ (by omega)⟩
    · obtain ⟨n, h, rfl, hnl, hhn⟩ := hun htm e
      refine ⟨.ref p, rfl, .inl ⟨rfl, _, SqL.of hp5⟩, _, rfl, p, _, _, rfl, rfl, hp5, ?_, ⟨same_mut s5 npH, ?_, ?_⟩, ⟨r ++ [(n : Int)], ?_, hP.snoc hx hgv htm (by omega) (by omega), ?_, fun hmk v hv e1 e2 => ?_⟩, _, _, _, _, rfl⟩
      · rw [List.length_map, hrl]
        exact Nat.lt_of_lt_of_le (show k + 1 < 3000 by omega) (by decide)
      · rw [upd_ne hpr]
        exact hr5
      · rw [upd_ne hph]
        exact hh5
      · rw [upd_same]
        unfold ilst
        rw [List.map_append]
        rfl
      · rw [List.length_append, hrl]
        rfl
      · rw [List.length_append] at e1
        have e3 : r.length + [(n : Int)].length - 1 = r.length := rfl
        rw [e3, List.getElem?_concat_length] at e1
        have e4 : n = v := Int.ofNat.inj (Option.some.inj e1)
        rw [← e4, hhn] at e2
        have e5 := Option.some.inj e2
        by_cases hk2 : m ≤ k
        · have h1 := hft hk2 (by omega) h (by rw [Int.toNat_natCast]; exact hhn)
          have h2 := hdn hk2 w hw hx hhw
          omega
        · have := hO0 n h hhn
          omega
  · rintro σ H5 ⟨⟨s5, hr5, hh5⟩, ⟨r, hp5, hP, hrl, hdn⟩, y6, y7, y8, y9, rfl⟩
    exfalso
    obtain ⟨x, hx⟩ : ∃ x, r[r.length - 1]? = some x := ⟨_, List.getElem?_eq_getElem (by omega)⟩
    have hxr := hP.rng x (List.mem_of_getElem? hx)
    obtain ⟨w, rfl⟩ : ∃ w : Nat, x = w := ⟨x.toNat, by omega⟩
    obtain ⟨hw, hhw⟩ : ∃ hw, hs[w]? = some hw := ⟨_, List.getElem?_eq_getElem (by omega)⟩
    have := hdn (by omega) w hw hx hhw
    have := (hO.2 w hw _ hhw (List.getElem?_eq_getElem (show w < (sxr rs).length by omega))).1
    omega
end
end K34

namespace K34
open PySem PySem.Spec PyProof.Rows L2 Fw Lay
section
variable {P : Program} {w : World} {K : PySem.W.Frag} {mg : Str → Option Value} {base : Heap}
theorem ok_l_team (T : Txt K mg) : Good P w K mg base 3 (He.ga K "_law_team") ["_law_script", "_law_rows", "_law_first", "_law_count", "_law_most"] [] (sp_l_team K) := by
  refine good_of T.f_l_team sc_l_team (fun vs H Q E h => ?_) (fun _ _ _ _ _ _ us hl => match us, hl with | [_, _, _, _, _], _ => rfl) (fun cdv A outer s H vs Q E hr h => ?_)
  · obtain ⟨_, _, _, _, _, _, _, rfl, _⟩ := h
    rfl
  refine ⟨_, (pss_one (ps_ret (pe_lc (own := [("_law_k", 5)]) (g := (gName 5)) (tt := tYes) rfl sc_l_team.nd (pi_range1 (by rfl) T.z_range (pa_cons (pv 3) pa_nil)) (blkOk_by (own := [("_law_k", 5)]) (N := ["_law_script", "_law_rows", "_law_first", "_law_count", "_law_most", "_law_k"]) (sc := defScope s_l_team) (by decide +kernel)) (fun _ _ _ _ _ => (pg_name (i := 5) sc_l_team.nd rfl (Or.inl rfl))) (fun _ _ _ _ _ => pts_nil) (fun _ _ _ _ _ => (pe_cg (ok_l_run T) (hr.mono (j := 2) (by decide)) (by rfl) T.g_l_run (pa_cons (pv 1) (pa_cons (pe_cg (ok_l_seed T) (hr.mono (j := 2) (by decide)) (by rfl) T.g_l_seed (pa_cons (pv 0) (pa_cons (pe_op op_add (pv 2) (pv 5)) pa_nil))) (pa_cons (pv 4) pa_nil)))))))), ?_⟩
  obtain ⟨s, a, ns, rs, f, c, m, rfl, hS, hA, hrw, hok, hfc, hm, q⟩ := h
  refine ⟨_, rfl, (c : Int), rfl, by omega, by omega, fun D hD => lc_range (n := c) (fun i H3 => Same H H3 ∧ ∃ us : Ws, H3 D = some (.lst (refL us)) ∧ us.length = i ∧ ∀ u ∈ us, H u.1 = none ∧ u.1 ≠ D ∧ H3 u.1 = some (ilst u.2) ∧ RunOk (sxr rs) u.2 ∧ u.2.length ≤ 3000) ⟨same_new hD, [], upd_same, rfl, fun u hu => (nomatch hu)⟩ ?_ ?_⟩
  · rintro i H3 hi ⟨s3, us, h3, hul, hus⟩
    refine ⟨rfl, yes_then ⟨_, rfl, _, rfl, _, rfl, _, rfl, _, _, rfl, rfl, s, ns, f + (0 + i), rfl, s3.seq hS, by omega, fun c2 H4 c0 s4 => ?_⟩⟩
    have s34 := s3.trans s4
    refine ⟨_, rfl, a, rs, c2, m, rfl, s34.seq hA, hrw.same s34, hok, c0, hm, fun H5 p r s5 np hp hR hrl => ?_⟩
    have hD5 := s5 _ _ (s4 _ _ h3)
    have hpD : p ≠ D := (ne_of_none (s4 _ _ h3) np).symm
    refine ⟨_, hD5, small1000 (by unfold refL; rw [List.length_map]; omega), same_mut (s34.trans s5) hD, us ++ [(p, r)], ?_, by rw [List.length_append, hul]; rfl, fun u hu => ?_⟩
    · rw [upd_same]
      unfold refL
      rw [List.map_append]
      rfl
    · rcases List.mem_append.mp hu with hu | hu
      · obtain ⟨h1, h2, h4, h5⟩ := hus u hu
        refine ⟨h1, h2, ?_, h5⟩
        rw [upd_ne h2]
        exact s5 _ _ (s4 _ _ h4)
      · rw [List.mem_singleton.mp hu]
        refine ⟨s34.free np, hpD, ?_, hR, hrl⟩
        show upd H5 D _ p = _
        rw [upd_ne hpD]
        exact hp
  · rintro H3 ⟨s3, us, h3, hul, hus⟩
    exact q H3 D us s3 hD h3 hul hus
end
end K34

namespace K34
open PySem PySem.Spec PyProof.Rows L2 Fw Lay
section
variable {P : Program} {w : World} {K : PySem.W.Frag} {mg : Str → Option Value} {base : Heap}
theorem ok_l_prefix (T : Txt K mg) : Good P w K mg base 1 (He.ga K "_law_prefix") ["_law_run_here", "_law_schedule"] [] (sp_l_prefix K) := by
  refine good_of T.f_l_prefix sc_l_prefix (fun vs H Q E h => ?_) (fun _ _ _ _ _ _ us hl => match us, hl with | [_, _], _ => rfl) (fun cdv A outer s H vs Q E hr h => ?_)
  · obtain ⟨_, _, _, _, rfl, _⟩ := h
    rfl
  refine ⟨_, (pss_cons (ps_set (i := 2) sc_l_prefix.nd rfl (Or.inl rfl) pe_int)
  (pss_cons (ps_for PassesOwn.never rfl (pi_list (pv 1)) (pg_name (i := 3) sc_l_prefix.nd rfl (Or.inl rfl))
    (pss_one (ps_if (pw_and (pt_cmpR op_lt (pv 2) (pe_callB call_len_seq (by rfl) T.z_len (by decide +kernel) (pa_cons (pv 0) pa_nil)) (nomark _)) (pw_and1 (pt_cmpR op_eq (pe_ix ix_list (pv 0) (pv 2) (fun _ _ => rfl)) (pv 3) (nomark _)))).pt
    (pss_one (ps_set (i := 2) sc_l_prefix.nd rfl (Or.inl rfl) (pe_op op_add (pv 2) pe_int)))
    pss_nil)))
  (pss_one (ps_ret (pv 2))))), ?_⟩
  obtain ⟨a, b, r, S, rfl, hA, hB, q⟩ := h
  refine ⟨.ref b, rfl, b, rfl, ⟨_, hB⟩, for_list (K := K) (a := b) (xs := S.map V.int) (fun i σ H2 => H2 = H ∧ ∃ y, σ = [some (.ref a), some (.ref b), some (.int (pfx r (S.take i) : Nat)), y]) ⟨rfl, none, rfl⟩ (fun i σ H2 _ h => by rw [h.1]; exact hB) ?_ ?_⟩
  · rintro i x σ H2 hi ⟨rfl, y, rfl⟩
    obtain ⟨c, hc, rfl⟩ := map_get hi
    refine ⟨_, rfl, .ref a, rfl, a, _, rfl, .inl hA, _, _, rfl, rfl, _, rfl, if2 (fun e => ?_) (fun e => ?_)⟩
    · rw [List.length_map] at e
      have hlt : pfx r (S.take i) < r.length := by omega
      have hg : r[pfx r (S.take i)]? = some r[pfx r (S.take i)] := List.getElem?_eq_getElem hlt
      refine ⟨.ref a, rfl, _, rfl, a, _, _, _, rfl, rfl, hA, atI_nat (get_map hg), _, rfl, rfl, _, rfl, if2 (fun e2 => ?_) (fun e2 => ?_)⟩
      · have e3 : pfx r (S.take (i + 1)) = pfx r (S.take i) + 1 := by
          rw [pfx_take r hc]
          unfold pst
          rw [if_pos (by rw [hg, V.int.inj e2])]
        refine ⟨_, rfl, _, _, rfl, rfl, rfl, some (.int c), ?_⟩
        rw [e3]
        rfl
      · have e3 : pfx r (S.take (i + 1)) = pfx r (S.take i) := by
          rw [pfx_take r hc]
          unfold pst
          rw [if_neg (by rw [hg]; exact fun h => e2 (by rw [Option.some.inj h]))]
        refine ⟨rfl, some (.int c), ?_⟩
        rw [e3]
        rfl
    · rw [List.length_map] at e
      have e3 : pfx r (S.take (i + 1)) = pfx r (S.take i) := by
        rw [pfx_take r hc]
        unfold pst
        rw [if_neg (by rw [List.getElem?_eq_none (by omega)]; exact fun h => nomatch h)]
      refine ⟨rfl, some (.int c), ?_⟩
      rw [e3]
      rfl
  · rintro σ H2 ⟨rfl, y, rfl⟩
    rw [List.length_map, List.take_length]
    exact ⟨_, rfl, q⟩
theorem pxr_at {rs : Rx} {n : Nat} {qr : Addr × Addr × Rw} (h : rs[n]? = some qr) : (pxr rs).getD n 0 = qr.2.2.2.1 := by
  rw [List.getD_eq_getElem?_getD, get_pxr h]
  rfl
theorem ok_l_price_of (T : Txt K mg) : Good P w K mg base 1 (He.ga K "_law_price_of") ["_law_rows", "_law_visited"] [] (sp_l_price_of K) := by
  refine good_of T.f_l_price_of sc_l_price_of (fun vs H Q E h => ?_) (fun _ _ _ _ _ _ us hl => match us, hl with | [_, _], _ => rfl) (fun cdv A outer s H vs Q E hr h => ?_)
  · obtain ⟨_, _, _, _, rfl, _⟩ := h
    rfl
  refine ⟨_, (pss_one (ps_ret (pe_callB (cr_sum rfl) (by rfl) T.z_sum (by decide +kernel) (pa_cons (pe_lc (own := [("_law_node", 2)]) (g := (gName 2)) (tt := tYes) rfl sc_l_price_of.nd (pi_list (pv 1)) (blkOk_by (own := [("_law_node", 2)]) (N := ["_law_rows", "_law_visited", "_law_node"]) (sc := defScope s_l_price_of) (by decide +kernel)) (fun _ _ _ _ _ => (pg_name (i := 2) sc_l_price_of.nd rfl (Or.inl rfl))) (fun _ _ _ _ _ => pts_nil) (fun _ _ _ _ _ => (pe_ix (ix_tupE (K := K) rfl) (pe_ix (ix_listE (K := K) rfl) (pv 0) (pv 2) (fun _ _ => rfl)) pe_int (fun _ _ => rfl)))) pa_nil)))), ?_⟩
  obtain ⟨a, b, rs, S, rfl, hA, hrw, hB, hin, hl, q⟩ := h
  refine ⟨.ref b, rfl, b, rfl, ⟨_, hB⟩, fun D hD => lc_list (K := K) (a := b) (xs := S.map V.int) (fun i H3 => Same H H3 ∧ H3 D = some (ilst ((S.take i).map fun x => (pxr rs).getD x.toNat 0))) ⟨same_new hD, upd_same⟩ (fun i H3 _ h => h.1.seq hB) ?_ ?_⟩
  · rintro i x H3 hi ⟨s3, h3⟩
    obtain ⟨z, hz, rfl⟩ := map_get hi
    have hilt := (List.getElem?_eq_some_iff.mp hz).1
    obtain ⟨z0, z1⟩ := hin z (List.mem_of_getElem? hz)
    obtain ⟨n, rfl⟩ : ∃ n : Nat, z = n := ⟨z.toNat, by omega⟩
    have hq : rs[n]? = some (rs[n]'(by omega)) := List.getElem?_eq_getElem (by omega)
    have hqm : rs[n]'(by omega) ∈ rs := List.getElem_mem _
    generalize rs[n]'(by omega) = qr at hq hqm
    refine ⟨rfl, yes_then ⟨_, rfl, _, rfl, a, _, _, _, rfl, rfl, s3.seq hA, atI_nat (get_refR hq), qr.1, _, 1, _, rfl, rfl, SqT.of (s3 _ _ (hrw qr hqm).1), rfl, _, h3, ?_, same_mut s3 hD, ?_⟩⟩
    · rw [List.length_map, List.length_map, List.length_take]
      exact Nat.lt_of_le_of_lt (show min i S.length ≤ 100000 by omega) (by decide)
    · rw [upd_same, List.take_add_one, hz]
      unfold ilst
      rw [List.map_append, List.map_append]
      show _ = some (HO.lst (_ ++ [V.int ((pxr rs).getD ((n : Int)).toNat 0)]))
      rw [Int.toNat_natCast, pxr_at hq]
  · rintro H3 ⟨s3, h3⟩
    rw [List.length_map, List.take_length] at h3
    exact tnil_go ⟨D, _, rfl, SqL.of h3, q H3 s3⟩
theorem ok_l_ints (T : Txt K mg) : Good P w K mg base 2 (He.ga K "_law_ints") ["_law_row"] [] (sp_l_ints K) := by
  refine good_of T.f_l_ints sc_l_ints (fun vs H Q E h => ?_) (fun _ _ _ _ _ _ us hl => match us, hl with | [_], _ => rfl) (fun cdv A outer s H vs Q E hr h => ?_)
  · obtain ⟨_, _, rfl, _⟩ := h
    rfl
  refine ⟨_, (pss_cons (ps_if (pt_not (pt_val (pe_callB call_isi (by rfl) T.z_isinstance (by decide +kernel) (pa_cons (pv 0) (pa_cons (pe_bltn (v := .ty "list") (u := .type "list") (by rfl) T.z_list (by decide +kernel) rfl) pa_nil)))))
    (pss_one (ps_ret pe_bl))
    pss_nil)
  (pss_cons (ps_for PassesOwn.never rfl (pi_list (pv 0)) (pg_name (i := 1) sc_l_ints.nd rfl (Or.inl rfl))
    (pss_one (ps_if (pt_not (pt_val (pe_cg (ok_l_is_int T) (hr.mono (j := 1) (by decide)) (by rfl) T.g_l_is_int (pa_cons (pv 1) pa_nil))))
    (pss_one (ps_ret pe_bl))
    pss_nil)))
  (pss_one (ps_ret pe_bl)))), ?_⟩
  obtain ⟨a, S, rfl, hA, q⟩ := h
  refine ⟨_, rfl, .ref a, .ty "list", _, _, true, rfl, .ty _, .base (.lst hA), kit_ty (by decide +kernel), true, rfl, iteF ?_⟩
  refine ⟨_, rfl, a, rfl, ⟨_, SqL.of hA⟩, for_list (K := K) (a := a) (xs := S.map V.int) (fun i σ H2 => H2 = H ∧ ∃ y, σ = [some (.ref a), y]) ⟨rfl, none, rfl⟩ (fun i σ H2 _ h => by rw [h.1]; exact SqL.of hA) ?_ ?_⟩
  · rintro i x σ H2 hi ⟨rfl, y, rfl⟩
    obtain ⟨n, hn, rfl⟩ := map_get hi
    exact ⟨_, rfl, n, rfl, true, rfl, iteF ⟨rfl, _, rfl⟩⟩
  · rintro σ H2 ⟨rfl, y, rfl⟩
    exact q
theorem plcs_succ {rs : List (List Int)} {ds : List Nat} {i d : Nat} {r : List Int} (h1 : rs[i]? = some r) (h2 : ds[i]? = some d) : (List.range (i + 1)).map (fun k => plc (rs.getD k []) (ds.getD k 0)) = (List.range i).map (fun k => plc (rs.getD k []) (ds.getD k 0)) ++ [plc r d] := by
  rw [List.range_succ, List.map_append]
  show _ ++ [plc (rs.getD i []) (ds.getD i 0)] = _
  rw [List.getD_eq_getElem?_getD, List.getD_eq_getElem?_getD, h1, h2]
  rfl
theorem ok_l_places (T : Txt K mg) : Good P w K mg base 1 (He.ga K "_law_places") ["_law_runs", "_law_done"] [] (sp_l_places K) := by
  refine good_of T.f_l_places sc_l_places (fun vs H Q E h => ?_) (fun _ _ _ _ _ _ us hl => match us, hl with | [_, _], _ => rfl) (fun cdv A outer s H vs Q E hr h => ?_)
  · obtain ⟨_, _, _, _, rfl, _⟩ := h
    rfl
  refine ⟨_, (pss_cons (ps_set (i := 2) sc_l_places.nd rfl (Or.inl rfl) (pe_lst pa_nil))
  (pss_cons (ps_for PassesOwn.never rfl (pi_range1 (by rfl) T.z_range (pa_cons (pe_callB call_len_seq (by rfl) T.z_len (by decide +kernel) (pa_cons (pv 0) pa_nil)) pa_nil)) (pg_name (i := 3) sc_l_places.nd rfl (Or.inl rfl))
    (pss_one (ps_if (pt_cmpR op_lt (pe_ix ix_list (pv 1) (pv 3) (fun _ _ => rfl)) (pe_callB call_len_seq (by rfl) T.z_len (by decide +kernel) (pa_cons (pe_ix ix_list (pv 0) (pv 3) (fun _ _ => rfl)) pa_nil)) (nomark _))
    (pss_one (ps_expr (pe_bm PySem.F.plainAttrs_list PySem.F.slot_list_append PySem.F.type_list_append mt_append (pv 2) (pa_cons (pe_ix ix_list (pe_ix ix_list (pv 0) (pv 3) (fun _ _ => rfl)) (pe_ix ix_list (pv 1) (pv 3) (fun _ _ => rfl)) (fun _ _ => rfl)) pa_nil))))
    (pss_one (ps_expr (pe_bm PySem.F.plainAttrs_list PySem.F.slot_list_append PySem.F.type_list_append mt_append (pv 2) (pa_cons (pe_un un_neg pe_int) pa_nil)))))))
  (pss_one (ps_ret (pv 2))))), ?_⟩
  obtain ⟨a, b, ws, ds, rfl, hA, hL, hB, hdl, hl, q⟩ := h
  have hlen : (refL ws).length = ws.length := List.length_map ..
  refine ⟨Nat.zero_le _, fun p np => ?_⟩
  have s1 := same_new (o := .lst []) np
  refine ⟨_, rfl, a, _, rfl, .inl (s1.seq hA), ((refL ws).length : Nat), rfl, by omega, by omega, for_range (n := (refL ws).length) (fun i σ H3 => Same H H3 ∧ H3 p = some (ilst ((List.range i).map fun k => plc ((ws.map (·.2)).getD k []) (ds.getD k 0))) ∧ ∃ y, σ = [some (.ref a), some (.ref b), some (.ref p), y]) ⟨s1, upd_same, none, rfl⟩ ?_ ?_⟩
  · rintro i σ H3 hi ⟨s3, h3, y, rfl⟩
    have hw : ws[i]? = some (ws[i]'(by omega)) := List.getElem?_eq_getElem (by omega)
    have hwm : ws[i]'(by omega) ∈ ws := List.getElem_mem _
    generalize ws[i]'(by omega) = w at hw hwm
    have hd : ds[i]? = some (ds[i]'(by omega)) := List.getElem?_eq_getElem (by omega)
    generalize ds[i]'(by omega) = d at hd
    have hw2 : (ws.map (·.2))[i]? = some w.2 := by rw [List.getElem?_map, hw]; rfl
    have hrun := s3.seq (hL w hwm)
    have room : ∀ f : Nat → Int, (((List.range i).map f).map V.int).length < sizeLine := fun f => by
      rw [List.length_map, List.length_map, List.length_range]
      exact small1000 (by omega)
    have push : ∀ x, x = plc w.2 d → Same H (upd H3 p (.lst (((List.range i).map fun k => plc ((ws.map (·.2)).getD k []) (ds.getD k 0)).map V.int ++ [.int x]))) ∧ upd H3 p (.lst (((List.range i).map fun k => plc ((ws.map (·.2)).getD k []) (ds.getD k 0)).map V.int ++ [.int x])) p = some (ilst ((List.range (i + 1)).map fun k => plc ((ws.map (·.2)).getD k []) (ds.getD k 0))) := fun x hx => by
      refine ⟨same_mut s3 np, ?_⟩
      rw [upd_same, plcs_succ hw2 hd, hx]
      unfold ilst
      rw [List.map_append]
      rfl
    refine ⟨_, rfl, _, rfl, b, _, _, _, rfl, rfl, s3.seq hB, atI0 (nmap_at hd), _, rfl, _, rfl, a, _, _, _, rfl, rfl, s3.seq hA, atI0 (get_refL hw), w.1, _, rfl, .inl hrun, _, _, rfl, rfl, _, rfl, if2 (fun e => ?_) (fun e => ?_)⟩
    · rw [List.length_map] at e
      have hx : w.2[d]? = some (w.2[d]'(by omega)) := List.getElem?_eq_getElem (by omega)
      generalize w.2[d]'(by omega) = x at hx
      refine ⟨_, rfl, .inl ⟨rfl, _, SqL.of h3⟩, _, rfl, _, rfl, a, _, _, _, rfl, rfl, s3.seq hA, atI0 (get_refL hw), _, rfl, _, rfl, b, _, _, _, rfl, rfl, s3.seq hB, atI0 (nmap_at hd), w.1, _, _, _, rfl, rfl, hrun, atI_nat (get_map hx), p, _, _, rfl, rfl, h3, room _, ?_⟩
      obtain ⟨h4, h5⟩ := push x (by unfold plc; rw [hx]; rfl)
      exact ⟨h4, h5, _, rfl⟩
    · rw [List.length_map] at e
      refine ⟨_, rfl, .inl ⟨rfl, _, SqL.of h3⟩, 1, rfl, p, _, _, rfl, rfl, h3, room _, ?_⟩
      obtain ⟨h4, h5⟩ := push (-1) (by unfold plc; rw [List.getElem?_eq_none (by omega)]; rfl)
      exact ⟨h4, h5, _, rfl⟩
  · rintro σ H3 ⟨s3, h3, y, rfl⟩
    refine ⟨_, rfl, q H3 p s3 np ?_⟩
    unfold plcs
    rw [List.length_map, ← hlen]
    exact h3
theorem ok_l_aim (T : Txt K mg) : Good P w K mg base 1 (He.ga K "_law_aim") ["_law_rows", "_law_places_here", "_law_digit"] [] (sp_l_aim K) := by
  refine good_of T.f_l_aim sc_l_aim (fun vs H Q E h => ?_) (fun _ _ _ _ _ _ us hl => match us, hl with | [_, _, _], _ => rfl) (fun cdv A outer s H vs Q E hr h => ?_)
  · obtain ⟨_, _, _, _, _, rfl, _⟩ := h
    rfl
  refine ⟨_, (pss_cons (ps_set (i := 3) sc_l_aim.nd rfl (Or.inl rfl) (pe_callB cr_sortedI (by rfl) T.z_sorted (by decide +kernel) (pa_cons (pe_lc (own := [("_law_place", 4)]) (g := (gName 4)) rfl sc_l_aim.nd (pi_list (pv 1)) (blkOk_by (own := [("_law_place", 4)]) (N := ["_law_rows", "_law_places_here", "_law_digit", "_law_occupied", "_law_place"]) (sc := defScope s_l_aim) (by decide +kernel)) (fun _ _ _ _ _ => (pg_name (i := 4) sc_l_aim.nd rfl (Or.inl rfl))) (fun _ _ _ _ _ => (pts_one (pt_cmpR op_ge (pv 4) pe_int (nomark _)))) (fun _ _ _ _ _ => (pv 4))) pa_nil)))
  (pss_cons (ps_if (pw_or (pt_cmpR op_eq (pe_op op_mod (pe_callTy call_int1 (by rfl) T.z_int (by decide +kernel) (pa_cons (pv 2) pa_nil)) pe_int) pe_int (nomark _)) (pw_or1 (pt_cmpR op_eq (pe_callB call_len_seq (by rfl) T.z_len (by decide +kernel) (pa_cons (pv 3) pa_nil)) pe_int (nomark _)))).pt
    (pss_one (ps_ret (pe_op op_mod (pe_callTy call_int1 (by rfl) T.z_int (by decide +kernel) (pa_cons (pe_op op_fdiv (pv 2) pe_int) pa_nil)) (pe_callB call_len_seq (by rfl) T.z_len (by decide +kernel) (pa_cons (pv 0) pa_nil)))))
    pss_nil)
  (pss_one (ps_ret (pe_ix ix_list (pv 3) (pe_op op_mod (pe_callTy call_int1 (by rfl) T.z_int (by decide +kernel) (pa_cons (pe_op op_fdiv (pv 2) pe_int) pa_nil)) (pe_callB call_len_seq (by rfl) T.z_len (by decide +kernel) (pa_cons (pv 3) pa_nil))) (fun _ _ => rfl)))))), ?_⟩
  obtain ⟨a, b, rs, ps, d, rfl, hA, hpos, hl, hB, hpl, hps, d0, q⟩ := h
  have hlen : (refR rs).length = rs.length := List.length_map ..
  refine ⟨.ref b, rfl, b, rfl, ⟨_, hB⟩, fun D hD => lc_list (K := K) (a := b) (xs := ps.map V.int) (fun i H3 => Same H H3 ∧ H3 D = some (ilst ((ps.take i).filter fun x => decide (0 ≤ x)))) ⟨same_new hD, upd_same⟩ (fun i H3 _ h => h.1.seq hB) ?_ ?_⟩
  · rintro i x H3 hi ⟨s3, h3⟩
    obtain ⟨z, hz, rfl⟩ := map_get hi
    have hilt := (List.getElem?_eq_some_iff.mp hz).1
    have hfl := List.length_filter_le (fun x : Int => decide (0 ≤ x)) (ps.take i)
    rw [List.length_take] at hfl
    have htk : ps.take (i + 1) = ps.take i ++ [z] := by rw [List.take_add_one, hz]; rfl
    rw [htk, List.filter_append]
    refine ⟨rfl, _, rfl, _, _, rfl, rfl, _, rfl, if2 (fun e => ?_) (fun e => ?_)⟩
    · refine ⟨_, rfl, _, h3, small1000 (by rw [List.length_map]; omega), same_mut s3 hD, ?_⟩
      have e3 : [z].filter (fun x => decide (0 ≤ x)) = [z] := by
        rw [List.filter_cons_of_pos (by exact decide_eq_true e), List.filter_nil]
      rw [upd_same, e3]
      unfold ilst
      rw [List.map_append]
      rfl
    · refine ⟨s3, ?_⟩
      have e3 : [z].filter (fun x => decide (0 ≤ x)) = [] := by
        rw [List.filter_cons_of_neg (by exact fun h => e (of_decide_eq_true h)), List.filter_nil]
      rw [e3, List.append_nil]
      exact h3
  rintro H3 ⟨s3, h3⟩
  rw [List.length_map, List.take_length] at h3
  refine tnil_go ⟨D, _, rfl, SqL.of h3, fun os p pm srt np => ?_⟩
  have s4 := s3.trans (same_new (o := .lst (os.map V.int)) np)
  have hp4 : upd H3 p (.lst (os.map V.int)) p = some (ilst os) := upd_same
  generalize upd H3 p (.lst (os.map V.int)) = H4 at s4 hp4 ⊢
  have hos : ∀ x ∈ os, 0 ≤ x ∧ x < (rs.length : Int) := fun x hx => by
    obtain ⟨h1, h2⟩ := List.mem_filter.mp (pm.mem_iff.mp hx)
    exact ⟨of_decide_eq_true h2, hps x h1⟩
  have hol : (os.map V.int).length = os.length := List.length_map ..
  have fin : ∃ (v : V), V.ref a = v ∧ True := ⟨_, rfl, trivial⟩
  have hm1 := Int.emod_nonneg (d / 6) (show (((refR rs).length : Nat) : Int) ≠ 0 by omega)
  have hm2 := Int.emod_lt_of_pos (d / 6) (show (0 : Int) < ((refR rs).length : Nat) by omega)
  obtain ⟨n, hn⟩ : ∃ n : Nat, d / 6 % (((refR rs).length : Nat) : Int) = n := ⟨_, (Int.toNat_of_nonneg hm1).symm⟩
  have hlast : Q (.int (d / 6 % (((refR rs).length : Nat) : Int))) H4 := by
    rw [hn]
    exact q H4 n s4 (by omega)
  refine ⟨_, rfl, .inl ⟨_, rfl, _, _, rfl, rfl, (by show (0 : Int) < 6; decide), rfl, _, rfl, if2 (fun e => ?_) (fun e => ⟨_, rfl, p, _, rfl, .inl (SqL.of hp4), rfl, _, rfl, if2 (fun e2 => ?_) (fun e2 => ?_)⟩)⟩⟩
  · exact ⟨_, rfl, _, _, rfl, rfl, ⟨by decide, by decide⟩, .inl ⟨_, rfl, _, rfl, a, _, rfl, .inl (s4.seq hA), _, _, rfl, rfl, by omega, hlast⟩⟩
  · exact ⟨_, rfl, _, _, rfl, rfl, ⟨by decide, by decide⟩, .inl ⟨_, rfl, _, rfl, a, _, rfl, .inl (s4.seq hA), _, _, rfl, rfl, by omega, hlast⟩⟩
  · have hop : 0 < os.length := by
      rw [hol] at e2
      have : os.length ≠ 0 := fun h => e2 (by rw [h]; rfl)
      omega
    have hk1 := Int.emod_nonneg (d / 6) (show (((os.map V.int).length : Nat) : Int) ≠ 0 by omega)
    have hk2 := Int.emod_lt_of_pos (d / 6) (show (0 : Int) < ((os.map V.int).length : Nat) by omega)
    obtain ⟨x, hx⟩ : ∃ x, os[(d / 6 % (((os.map V.int).length : Nat) : Int)).toNat]? = some x := ⟨_, List.getElem?_eq_getElem (by omega)⟩
    obtain ⟨x0, x1⟩ := hos x (List.mem_of_getElem? hx)
    obtain ⟨v, rfl⟩ : ∃ v : Nat, x = v := ⟨x.toNat, by omega⟩
    exact ⟨_, rfl, _, rfl, _, _, rfl, rfl, ⟨by decide, by decide⟩, .inl ⟨_, rfl, _, rfl, p, _, rfl, .inl (SqL.of hp4), _, _, rfl, rfl, by omega, p, _, _, _, rfl, rfl, SqL.of hp4, atIe (get_map hx) (by omega), q H4 v s4 (by omega)⟩⟩
theorem ok_l_some (T : Txt K mg) : Good P w K mg base 1 (He.ga K "_law_some") ["_law_here", "_law_digit", "_law_rest"] [] (sp_l_some K) := by
  refine good_of T.f_l_some sc_l_some (fun vs H Q E h => ?_) (fun _ _ _ _ _ _ us hl => match us, hl with | [_, _, _], _ => rfl) (fun cdv A outer s H vs Q E hr h => ?_)
  · obtain ⟨_, _, _, _, rfl, _⟩ := h
    rfl
  refine ⟨_, (pss_cons (ps_if (pt_cmpR op_gt (pe_op op_mod (pe_callTy call_int1 (by rfl) T.z_int (by decide +kernel) (pa_cons (pv 1) pa_nil)) pe_int) pe_int (nomark _))
    (pss_one (ps_ret (pe_callTy call_list_of (by rfl) T.z_list (by decide +kernel) (pa_cons (pv 0) pa_nil))))
    pss_nil)
  (pss_cons (ps_set (i := 3) sc_l_some.nd rfl (Or.inl rfl) (pe_lst pa_nil))
  (pss_cons (ps_for PassesOwn.never rfl (pi_list (pv 0)) (pg_name (i := 4) sc_l_some.nd rfl (Or.inl rfl))
    (pss_cons (ps_if (pt_cmpR op_eq (pe_op op_mod (pe_callTy call_int1 (by rfl) T.z_int (by decide +kernel) (pa_cons (pv 2) pa_nil)) pe_int) pe_int (nomark _))
    (pss_one (ps_expr (pe_bm PySem.F.plainAttrs_list PySem.F.slot_list_append PySem.F.type_list_append mt_append (pv 3) (pa_cons (pv 4) pa_nil))))
    pss_nil)
  (pss_one (ps_set (i := 2) sc_l_some.nd rfl (Or.inl rfl) (pe_op op_fdiv (pv 2) pe_int)))))
  (pss_one (ps_ret (pv 3)))))), ?_⟩
  obtain ⟨a, ls, d, r, rfl, hA, hl, q⟩ := h
  have hlen : ((nmap ls).map V.int).length = ls.length := by unfold nmap; rw [List.length_map, List.length_map]
  refine ⟨_, rfl, .inl ⟨_, rfl, _, _, rfl, rfl, (by show (0 : Int) < 8; decide), _, _, rfl, rfl, _, rfl, if2 (fun e => ?_) (fun e => ?_)⟩⟩
  · exact ⟨_, rfl, a, _, rfl, .inl hA, fun p np => q _ p ls (same_new np) np upd_same (List.Sublist.refl _)⟩
  refine ⟨Nat.zero_le _, fun p np => ?_⟩
  refine ⟨_, rfl, a, rfl, ⟨_, (same_new np).seq hA⟩, for_list (K := K) (a := a) (xs := (nmap ls).map V.int) (fun i σ H3 => Same H H3 ∧ (∃ ms : List Nat, H3 p = some (ilst (nmap ms)) ∧ ms.Sublist (ls.take i)) ∧ ∃ (r : Int) (y : Option V), σ = [some (.ref a), some (.int d), some (.int r), some (.ref p), y])
    ⟨same_new np, ⟨[], upd_same, List.nil_sublist _⟩, r, none, rfl⟩ (fun i σ H3 _ h => h.1.seq hA) ?_ ?_⟩
  · rintro i x σ H3 hi ⟨s3, ⟨ms, h3, hs⟩, r, y, rfl⟩
    obtain ⟨c, hc, rfl⟩ := map_get hi
    obtain ⟨k, hk, rfl⟩ : ∃ k, ls[i]? = some k ∧ c = (k : Int) := by
      unfold nmap at hc
      rw [List.getElem?_map] at hc
      obtain ⟨k, h1, h2⟩ := Option.map_eq_some_iff.mp hc
      exact ⟨k, h1, h2.symm⟩
    have hml := hs.length_le
    rw [List.length_take] at hml
    have htk : ls.take (i + 1) = ls.take i ++ [k] := by rw [List.take_add_one, hk]; rfl
    rw [htk]
    refine ⟨_, rfl, .inl ⟨_, rfl, _, _, rfl, rfl, (by show (0 : Int) < 2; decide), rfl, _, rfl, if2 (fun e => ?_) (fun e => ?_)⟩⟩
    · refine ⟨_, rfl, .inl ⟨rfl, _, SqL.of h3⟩, _, rfl, p, _, _, rfl, rfl, h3, small1000 (by unfold nmap; rw [List.length_map, List.length_map]; omega), ?_⟩
      refine ⟨_, rfl, _, _, rfl, rfl, ⟨by decide, by decide⟩, same_mut s3 np, ⟨ms ++ [k], ?_, List.Sublist.append hs (List.Sublist.refl _)⟩, _, _, rfl⟩
      rw [upd_same]
      unfold ilst nmap
      rw [List.map_append, List.map_append]
      rfl
    · exact ⟨_, rfl, _, _, rfl, rfl, ⟨by decide, by decide⟩, s3, ⟨ms, h3, hs.trans (List.sublist_append_left _ _)⟩, _, _, rfl⟩
  · rintro σ H3 ⟨s3, ⟨ms, h3, hs⟩, r, y, rfl⟩
    rw [hlen, List.take_length] at hs
    exact ⟨_, rfl, q H3 p ms s3 np h3 hs⟩
end
end K34

/-! [list(row) for row in rows]: the copies so far. -/
namespace Fw
open PySem PySem.Spec PyProof.Rows L2 Lay
def Cop (H0 H3 : Hp) (D : Addr) (ws : Ws) (i : Nat) : Prop := Same H0 H3 ∧ ∃ us : Ws, H3 D = some (.lst (refL us)) ∧ (∀ u ∈ us, H0 u.1 = none ∧ u.1 ≠ D ∧ H3 u.1 = some (ilst u.2)) ∧ us.map (·.2) = (ws.take i).map (·.2)
theorem Cop.start {H : Hp} {D : Addr} {ws : Ws} (hD : H D = none) : Cop H (upd H D (.lst [])) D ws 0 := ⟨same_new hD, [], upd_same, fun u hu => (nomatch hu), by rw [List.take_zero]⟩
theorem Cop.go {H0 H3 : Hp} {D l : Addr} {ws : Ws} {i : Nat} {w : Addr × List Int} (h : Cop H0 H3 D ws i) (nD : H0 D = none) (hw : ws[i]? = some w) (hl : ws.length ≤ 1000) (nl : H3 l = none) :
    ∃ acc, upd H3 l (.lst (w.2.map V.int)) D = some (.lst acc) ∧ acc.length < sizeLine ∧ Cop H0 (upd (upd H3 l (.lst (w.2.map V.int))) D (.lst (acc ++ [.ref l]))) D ws (i + 1) := by
  obtain ⟨s3, us, h1, h2, h3⟩ := h
  have hilt := (List.getElem?_eq_some_iff.mp hw).1
  have hul : us.length = i := by
    have e := congrArg List.length h3
    rw [List.length_map, List.length_map, List.length_take] at e
    omega
  have hlD : l ≠ D := (ne_of_none h1 nl).symm
  refine ⟨refL us, ?_, ?_, same_mut (s3.trans (same_new nl)) nD, us ++ [(l, w.2)], ?_, fun u hu => ?_, ?_⟩
  · rw [upd_ne hlD.symm]
    exact h1
  · unfold refL
    rw [List.length_map]
    exact small1000 (by omega)
  · rw [upd_same]
    unfold refL
    rw [List.map_append]
    rfl
  · rcases List.mem_append.mp hu with hu | hu
    · obtain ⟨e1, e2, e3⟩ := h2 u hu
      refine ⟨e1, e2, ?_⟩
      rw [upd_ne e2]
      exact same_new nl _ _ e3
    · rw [List.mem_singleton.mp hu]
      refine ⟨s3.free nl, hlD, ?_⟩
      show upd (upd H3 l _) D _ l = _
      rw [upd_ne hlD, upd_same]
  · rw [List.map_append, h3, List.take_add_one, hw, List.map_append]
    rfl
end Fw

namespace K34
open PySem PySem.Spec PyProof.Rows L2 Fw Lay
section
variable {P : Program} {w : World} {K : PySem.W.Frag} {mg : Str → Option Value} {base : Heap}
theorem pf_eq {us ws : Ws} (h : us.map (·.2) = ws.map (·.2)) (S : List Int) : us.map (fun u => pfx u.2 S) = ws.map fun w => pfx w.2 S := by
  have e := congrArg (List.map fun r => pfx r S) h
  rw [List.map_map, List.map_map] at e
  exact e
theorem ln_eq {us ws : Ws} (h : us.map (·.2) = ws.map (·.2)) : us.map (fun u => u.2.length) = ws.map fun w => w.2.length := by
  have e := congrArg (List.map List.length) h
  rw [List.map_map, List.map_map] at e
  exact e
theorem pl_iff (ws : Ws) (S : List Int) : (∀ w ∈ ws, pfx w.2 S = w.2.length) ↔ ws.map (fun w => pfx w.2 S) = ws.map fun w => w.2.length := by
  rw [List.map_inj_left]
theorem ok_l_free (T : Txt K mg) : Good P w K mg base 3 (He.ga K "_law_free") ["_law_machine", "_law_runs", "_law_rows", "_law_beats"] [] (sp_l_free K) := by
  refine good_of T.f_l_free sc_l_free (fun vs H Q E h => ?_) (fun _ _ _ _ _ _ us hl => match us, hl with | [_, _, _, _], _ => rfl) (fun cdv A outer s H vs Q E hr h => ?_)
  · obtain ⟨_, _, _, _, _, _, _, _, _, _, _, _, rfl, _⟩ := h
    rfl
  refine ⟨_, (pss_cons (ps_setLc (i := 4) (own := [("_law_run_here", 7)]) (g := (gName 7)) (tt := tYes) rfl sc_l_free.nd rfl rfl (sw_true rfl rfl rfl (by decide +kernel)) (pi_list (pv 1)) (blkOk_by (own := [("_law_run_here", 7)]) (N := ["_law_machine", "_law_runs", "_law_rows", "_law_beats", "_law_whole", "_law_told", "_law_complete", "_law_run_here"]) (sc := defScope s_l_free) (by decide +kernel)) (fun _ _ _ _ _ => (pg_name (i := 7) sc_l_free.nd rfl (Or.inl rfl))) (fun _ _ _ _ _ => pts_nil) (fun _ _ _ _ _ => (pe_cg (ok_l_prefix T) (hr.mono (j := 1) (by decide)) (by rfl) T.g_l_prefix (pa_cons (pv 7) (pa_cons (pv 3) pa_nil)))))
  (pss_cons (ps_set (i := 5) sc_l_free.nd rfl (Or.inl rfl) (pe_mtg0 (pv 0) T.cl_Machine T.me_Machine_done (ok_Machine_done T) (hr.mono (j := 1) (by decide))))
  (pss_cons (ps_if (pw_or (pt_not (pt_val (pe_cg (ok_l_ints T) (hr.mono (j := 2) (by decide)) (by rfl) T.g_l_ints (pa_cons (pv 5) pa_nil)))) (pw_or1 (pt_cmpR (op_neD hr.units) (pv 5) (pv 4) (nomark _)))).pt
    (pss_one (ps_ret pe_bl))
    pss_nil)
  (pss_cons (ps_if (pw_or (pt_not (pt_val (pe_cg (ok_l_is_int T) (hr.mono (j := 1) (by decide)) (by rfl) T.g_l_is_int (pa_cons (pe_fld (pv 0) rfl) pa_nil)))) (pw_or1 (pt_cmpR op_ne (pe_fld (pv 0) rfl) (pe_cg (ok_l_price_of T) (hr.mono (j := 1) (by decide)) (by rfl) T.g_l_price_of (pa_cons (pv 2) (pa_cons (pv 3) pa_nil))) (nomark _)))).pt
    (pss_one (ps_ret pe_bl))
    pss_nil)
  (pss_cons (ps_set (i := 5) sc_l_free.nd rfl (Or.inl rfl) (pe_cg (ok_prefixes T) (hr.mono (j := 2) (by decide)) (by rfl) T.g_prefixes (pa_cons (pe_lc (own := [("_law_run_here", 7)]) (g := (gName 7)) (tt := tYes) rfl sc_l_free.nd (pi_list (pv 1)) (blkOk_by (own := [("_law_run_here", 7)]) (N := ["_law_machine", "_law_runs", "_law_rows", "_law_beats", "_law_whole", "_law_told", "_law_complete", "_law_run_here"]) (sc := defScope s_l_free) (by decide +kernel)) (fun _ _ _ _ _ => (pg_name (i := 7) sc_l_free.nd rfl (Or.inl rfl))) (fun _ _ _ _ _ => pts_nil) (fun _ _ _ _ _ => (pe_callTy (call_list_ofE (K := K) rfl) (by rfl) T.z_list (by decide +kernel) (pa_cons (pv 7) pa_nil)))) (pa_cons (pe_callTy call_list_of (by rfl) T.z_list (by decide +kernel) (pa_cons (pv 3) pa_nil)) pa_nil))))
  (pss_cons (ps_if (pw_or (pt_not (pt_val (pe_cg (ok_l_ints T) (hr.mono (j := 2) (by decide)) (by rfl) T.g_l_ints (pa_cons (pv 5) pa_nil)))) (pw_or1 (pt_cmpR (op_neD hr.units) (pv 5) (pv 4) (nomark _)))).pt
    (pss_one (ps_ret pe_bl))
    pss_nil)
  (pss_cons (ps_set (i := 6) sc_l_free.nd rfl (Or.inl rfl) (pe_cg (ok_is_complete T) (hr.mono (j := 2) (by decide)) (by rfl) T.g_is_complete (pa_cons (pe_lc (own := [("_law_run_here", 7)]) (g := (gName 7)) (tt := tYes) rfl sc_l_free.nd (pi_list (pv 1)) (blkOk_by (own := [("_law_run_here", 7)]) (N := ["_law_machine", "_law_runs", "_law_rows", "_law_beats", "_law_whole", "_law_told", "_law_complete", "_law_run_here"]) (sc := defScope s_l_free) (by decide +kernel)) (fun _ _ _ _ _ => (pg_name (i := 7) sc_l_free.nd rfl (Or.inl rfl))) (fun _ _ _ _ _ => pts_nil) (fun _ _ _ _ _ => (pe_callTy (call_list_ofE (K := K) rfl) (by rfl) T.z_list (by decide +kernel) (pa_cons (pv 7) pa_nil)))) (pa_cons (pe_callTy call_list_of (by rfl) T.z_list (by decide +kernel) (pa_cons (pv 3) pa_nil)) pa_nil))))
  (pss_cons (ps_if (pt_cmpR (op_eqD hr.units) (pv 4) (pe_lc (own := [("_law_run_here", 7)]) (g := (gName 7)) (tt := tYes) rfl sc_l_free.nd (pi_list (pv 1)) (blkOk_by (own := [("_law_run_here", 7)]) (N := ["_law_machine", "_law_runs", "_law_rows", "_law_beats", "_law_whole", "_law_told", "_law_complete", "_law_run_here"]) (sc := defScope s_l_free) (by decide +kernel)) (fun _ _ _ _ _ => (pg_name (i := 7) sc_l_free.nd rfl (Or.inl rfl))) (fun _ _ _ _ _ => pts_nil) (fun _ _ _ _ _ => (pe_callB (call_lenE (K := K) rfl) (by rfl) T.z_len (by decide +kernel) (pa_cons (pv 7) pa_nil)))) (nomark _))
    (pss_one (ps_ret (pe_and (pe_cmpR op_is_bl (pe_propG (pv 0) T.cl_Machine T.pr_Machine_over (ok_Machine_over T) (hr.mono (j := 2) (by decide)) rfl) pe_bl (nomark _)) (pe_one (pe_cmpR op_is_bl (pv 6) pe_bl (nomark _))))))
    pss_nil)
  (pss_one (ps_ret (pe_and (pe_cmpR op_is_bl (pe_propG (pv 0) T.cl_Machine T.pr_Machine_over (ok_Machine_over T) (hr.mono (j := 2) (by decide)) rfl) pe_bl (nomark _)) (pe_one (pe_cmpR op_is_bl (pv 6) pe_bl (nomark _)))))))))))))), ?_⟩
  obtain ⟨m, a, b, c, g, ta, sa, na, us, ws, rs, S, rfl, hM, hus, hA, hL, hl, hB, hrw, hC, hin, hSl, hwl, q⟩ := h
  obtain ⟨⟨dx, hi⟩, tm, rn, st, nd, ln, le, n1, n2, n3, n4⟩ := id hM
  have hlen : (refL ws).length = ws.length := List.length_map ..
  have hul : us.length = ws.length := by
    have e := congrArg List.length hus
    rw [List.length_map, List.length_map] at e
    exact e
  -- whole
  refine ⟨.ref a, rfl, a, rfl, ⟨_, hA⟩, fun D hD => lc_list (K := K) (a := a) (xs := refL ws) (fun i H2 => Same H H2 ∧ H2 D = some (ilst (nmap ((ws.take i).map fun w : Addr × List Int => pfx w.2 S)))) ⟨same_new hD, upd_same⟩ (fun i H2 _ h => h.1.seq hA) ?_ ?_⟩
  · rintro i x H3 hi ⟨s3, h3⟩
    obtain ⟨w, hw, hwm, rfl⟩ := refL_get hi
    have hilt := (List.getElem?_eq_some_iff.mp hw).1
    refine ⟨rfl, yes_then ⟨_, rfl, _, rfl, w.1, c, w.2, S, rfl, hL.same s3 w hwm, s3.seq hC, _, h3, small1000 (by unfold nmap; rw [List.length_map, List.length_map, List.length_map, List.length_take]; omega), same_mut s3 hD, ?_⟩⟩
    rw [upd_same, List.take_add_one, hw]
    unfold ilst nmap
    rw [List.map_append, List.map_append, List.map_append]
    rfl
  rintro H3 ⟨s3, h3⟩
  rw [List.take_of_length_le (by rw [hlen]; exact Nat.le_refl _), ← pf_eq hus] at h3
  -- done
  refine ⟨_, rfl, m, dx, _, rfl, s3 _ _ hi, rfl, m, g, ta, sa, na, us, _, S, _, rfl, hM.same s3, fun H4 p s4 np hp => ?_⟩
  have h4 := s4 _ _ h3
  have s04 := s3.trans s4
  refine ⟨_, rfl, p, _, rfl, hp, true, rfl, iteF ⟨_, rfl, _, rfl, neL (SqL.of hp) (SqL.of h4) ⟨_, rfl, ifNF rfl ?_⟩⟩⟩
  refine ⟨_, rfl, m, _, dx, _, _, rfl, s04 _ _ hi, T.cl_Machine, T.na_Machine_bill, rfl, _, rfl, true, rfl, iteF ⟨_, rfl, m, _, dx, _, _, rfl, s04 _ _ hi, T.cl_Machine, T.na_Machine_bill, rfl, _, rfl, _, rfl, b, c, rs, S, rfl, s04.seq hB, hrw.same s04, s04.seq hC, hin, hSl, fun H5 s5 => ⟨rfl, _, rfl, ifNF rfl ?_⟩⟩⟩
  have s05 := s04.trans s5
  have h5 := s5 _ _ h4
  -- prefixes
  refine ⟨.ref a, rfl, a, rfl, ⟨_, s05.seq hA⟩, fun D2 hD2 => lc_list (K := K) (a := a) (xs := refL ws) (fun i H6 => Cop H5 H6 D2 ws i) (Cop.start hD2) (fun i H6 _ h => h.1.seq (s05.seq hA)) ?_ ?_⟩
  · rintro i x H6 hi hc
    obtain ⟨w, hw, hwm, rfl⟩ := refL_get hi
    exact ⟨rfl, yes_then ⟨_, rfl, w.1, _, rfl, .inl (hc.1.seq (s05.seq (hL w hwm))), fun l nl => hc.go hD2 hw (by omega) nl⟩⟩
  rintro H6 ⟨s6, vs, h61, h62, h63⟩
  rw [List.take_of_length_le (by rw [hlen]; exact Nat.le_refl _)] at h63
  have s06 := s05.trans s6
  refine ⟨_, rfl, c, _, rfl, .inl (s06.seq hC), fun l nl => ?_⟩
  have s7 := same_new (o := .lst (S.map V.int)) nl
  have hvl : vs.length = ws.length := by
    have e := congrArg List.length h63
    rw [List.length_map, List.length_map] at e
    exact e
  refine ⟨D2, l, vs, S, rfl, SqL.of (s7 _ _ h61), fun u hu => SqL.of (s7 _ _ (h62 u hu).2.2), by omega, SqL.of upd_same, fun H8 p2 s8 np2 hp2 => ?_⟩
  have s58 := s6.trans (s7.trans s8)
  have s08 := s05.trans s58
  rw [pf_eq (h63.trans hus.symm)] at hp2
  have h8 := s58 _ _ h5
  refine ⟨_, rfl, p2, _, rfl, hp2, true, rfl, iteF ⟨_, rfl, _, rfl, neL (SqL.of hp2) (SqL.of h8) ⟨_, rfl, ifNF rfl ?_⟩⟩⟩
  -- is_complete
  refine ⟨.ref a, rfl, a, rfl, ⟨_, s08.seq hA⟩, fun D3 hD3 => lc_list (K := K) (a := a) (xs := refL ws) (fun i H6 => Cop H8 H6 D3 ws i) (Cop.start hD3) (fun i H6 _ h => h.1.seq (s08.seq hA)) ?_ ?_⟩
  · rintro i x H6 hi hc
    obtain ⟨w, hw, hwm, rfl⟩ := refL_get hi
    exact ⟨rfl, yes_then ⟨_, rfl, w.1, _, rfl, .inl (hc.1.seq (s08.seq (hL w hwm))), fun l nl => hc.go hD3 hw (by omega) nl⟩⟩
  rintro H9 ⟨s9, vs2, h91, h92, h93⟩
  rw [List.take_of_length_le (by rw [hlen]; exact Nat.le_refl _)] at h93
  have s09 := s08.trans s9
  refine ⟨_, rfl, c, _, rfl, .inl (s09.seq hC), fun l2 nl2 => ?_⟩
  have s10 := same_new (o := .lst (S.map V.int)) nl2
  refine ⟨D3, l2, vs2, S, rfl, SqL.of (s10 _ _ h91), fun u hu => SqL.of (s10 _ _ (h92 u hu).2.2), SqL.of upd_same, fun cm hcm => ?_⟩
  rw [pl_iff, pf_eq (h93.trans hus.symm), ln_eq (h93.trans hus.symm)] at hcm
  have s11 := s09.trans s10
  have h11 := s10 _ _ (s9 _ _ h8)
  clear h91 h92 h93
  generalize upd H9 l2 (.lst (S.map V.int)) = H11 at s11 h11 ⊢
  -- the whole runs
  refine ⟨_, rfl, .ref a, rfl, a, rfl, ⟨_, s11.seq hA⟩, fun D4 hD4 => lc_list (K := K) (a := a) (xs := refL ws) (fun i H2 => Same H11 H2 ∧ H2 D4 = some (ilst (nmap ((ws.take i).map fun w : Addr × List Int => w.2.length)))) ⟨same_new hD4, upd_same⟩ (fun i H2 _ h => h.1.seq (s11.seq hA)) ?_ ?_⟩
  · rintro i x H12 hi ⟨s12, h12⟩
    obtain ⟨w, hw, hwm, rfl⟩ := refL_get hi
    have hilt := (List.getElem?_eq_some_iff.mp hw).1
    refine ⟨rfl, yes_then ⟨_, rfl, w.1, _, rfl, .inl (s12.seq (s11.seq (hL w hwm))), _, h12, small1000 (by unfold nmap; rw [List.length_map, List.length_map, List.length_map, List.length_take]; omega), same_mut s12 hD4, ?_⟩⟩
    rw [upd_same, List.take_add_one, hw, List.length_map]
    unfold ilst nmap
    rw [List.map_append, List.map_append, List.map_append]
    rfl
  rintro H12 ⟨s12, h12⟩
  rw [List.take_of_length_le (by rw [hlen]; exact Nat.le_refl _), ← ln_eq hus] at h12
  have s012 := s11.trans s12
  have hov : ∀ {cv : Bool}, (cv = true ↔ us.map (fun u => pfx u.2 S) = us.map fun w => w.2.length) → cv = decide (us.map (fun u => pfx u.2 S) = us.map fun w => w.2.length) := fun {cv} h => by
    by_cases e : us.map (fun u => pfx u.2 S) = us.map fun w => w.2.length
    · rw [decide_eq_true e]
      exact h.mpr e
    · rw [decide_eq_false e]
      exact Bool.eq_false_iff.mpr fun h2 => e (h.mp h2)
  have ecm := hov hcm
  refine eqL (SqL.of (s12 _ _ h11)) (SqL.of h12) ⟨_, rfl, if2 (fun e => ?_) (fun e => ?_)⟩
  · have e2 := nmap_inj e
    rw [decide_eq_true e2] at ecm
    subst ecm
    refine ⟨_, rfl, m, dx, _, rfl, s012 _ _ hi, m, g, ta, sa, na, us, _, S, _, rfl, hM.same s012, by omega, fun cv hcv => ?_⟩
    have ecv := hov hcv
    rw [decide_eq_true e2] at ecv
    subst ecv
    exact ⟨true, true, rfl, rfl, _, rfl, ifT rfl ⟨_, rfl, true, true, rfl, rfl, q H12 s012⟩⟩
  · have e2 := fun h => e (congrArg nmap h)
    rw [decide_eq_false e2] at ecm
    subst ecm
    refine ⟨_, rfl, m, dx, _, rfl, s012 _ _ hi, m, g, ta, sa, na, us, _, S, _, rfl, hM.same s012, by omega, fun cv hcv => ?_⟩
    have ecv := hov hcv
    rw [decide_eq_false e2] at ecv
    subst ecv
    exact ⟨false, false, rfl, rfl, _, rfl, ifT rfl ⟨_, rfl, false, false, rfl, rfl, q H12 s012⟩⟩
theorem ok_l_held (T : Txt K mg) : Good P w K mg base 3 (He.ga K "_law_held") ["_law_machine", "_law_runs", "_law_rows", "_law_beats", "_law_done"] [] (sp_l_held K) := by
  refine good_of T.f_l_held sc_l_held (fun vs H Q E h => ?_) (fun _ _ _ _ _ _ us hl => match us, hl with | [_, _, _, _, _], _ => rfl) (fun cdv A outer s H vs Q E hr h => ?_)
  · obtain ⟨_, _, _, _, _, _, _, _, _, _, _, _, _, _, rfl, _⟩ := h
    rfl
  refine ⟨_, (pss_cons (ps_set (i := 5) sc_l_held.nd rfl (Or.inl rfl) (pe_mtg0 (pv 0) T.cl_Machine T.me_Machine_done (ok_Machine_done T) (hr.mono (j := 1) (by decide))))
  (pss_cons (ps_if (pw_or (pt_not (pt_val (pe_cg (ok_l_ints T) (hr.mono (j := 2) (by decide)) (by rfl) T.g_l_ints (pa_cons (pv 5) pa_nil)))) (pw_or (pt_cmpR (op_neD hr.units) (pv 5) (pv 4) (nomark _)) (pw_or1 (pt_cmpR op_ne (pe_fld (pv 0) rfl) (pe_cg (ok_l_price_of T) (hr.mono (j := 1) (by decide)) (by rfl) T.g_l_price_of (pa_cons (pv 2) (pa_cons (pv 3) pa_nil))) (nomark _))))).pt
    (pss_one (ps_ret pe_bl))
    pss_nil)
  (pss_cons (ps_for PassesOwn.never rfl (pi_range1 (by rfl) T.z_range (pa_cons (pe_callB call_len_seq (by rfl) T.z_len (by decide +kernel) (pa_cons (pv 1) pa_nil)) pa_nil)) (pg_name (i := 6) sc_l_held.nd rfl (Or.inl rfl))
    (pss_one (ps_if (pt_cmpR op_gt (pe_ix ix_list (pv 5) (pv 6) (fun _ _ => rfl)) (pe_cg (ok_l_prefix T) (hr.mono (j := 1) (by decide)) (by rfl) T.g_l_prefix (pa_cons (pe_ix ix_list (pv 1) (pv 6) (fun _ _ => rfl)) (pa_cons (pv 3) pa_nil))) (nomark _))
    (pss_one (ps_ret pe_bl))
    pss_nil)))
  (pss_cons (ps_if (pt_cmpR (op_eqD hr.units) (pv 4) (pe_lc (own := [("_law_run_here", 7)]) (g := (gName 7)) (tt := tYes) rfl sc_l_held.nd (pi_list (pv 1)) (blkOk_by (own := [("_law_run_here", 7)]) (N := ["_law_machine", "_law_runs", "_law_rows", "_law_beats", "_law_done", "_law_told", "_law_k", "_law_run_here"]) (sc := defScope s_l_held) (by decide +kernel)) (fun _ _ _ _ _ => (pg_name (i := 7) sc_l_held.nd rfl (Or.inl rfl))) (fun _ _ _ _ _ => pts_nil) (fun _ _ _ _ _ => (pe_callB (call_lenE (K := K) rfl) (by rfl) T.z_len (by decide +kernel) (pa_cons (pv 7) pa_nil)))) (nomark _))
    (pss_one (ps_ret (pe_cmpR op_is_bl (pe_propG (pv 0) T.cl_Machine T.pr_Machine_over (ok_Machine_over T) (hr.mono (j := 2) (by decide)) rfl) pe_bl (nomark _))))
    pss_nil)
  (pss_one (ps_ret (pe_cmpR op_is_bl (pe_propG (pv 0) T.cl_Machine T.pr_Machine_over (ok_Machine_over T) (hr.mono (j := 2) (by decide)) rfl) pe_bl (nomark _)))))))), ?_⟩
  obtain ⟨m, a, b, c, d, g, ta, sa, na, us, ws, rs, S, ds, rfl, hM, hus, hA, hL, hl, hB, hrw, hC, hin, hSl, hD0, hds, q⟩ := h
  obtain ⟨⟨dx, hi⟩, tm, rn, st, nd, ln, le, n1, n2, n3, n4⟩ := id hM
  have hlen : (refL ws).length = ws.length := List.length_map ..
  have hul : us.length = ws.length := by
    have e := congrArg List.length hus
    rw [List.length_map, List.length_map] at e
    exact e
  refine ⟨_, rfl, m, dx, _, rfl, hi, rfl, m, g, ta, sa, na, us, ds, S, _, rfl, hM, fun H4 p s4 np hp => ?_⟩
  refine ⟨_, rfl, p, _, rfl, hp, true, rfl, iteF ⟨_, rfl, _, rfl, neL (SqL.of hp) (s4.seq hD0) ⟨_, rfl, ifNF rfl ?_⟩⟩⟩
  refine ⟨_, rfl, m, _, dx, _, _, rfl, s4 _ _ hi, T.cl_Machine, T.na_Machine_bill, rfl, _, rfl, _, rfl, b, c, rs, S, rfl, s4.seq hB, hrw.same s4, s4.seq hC, hin, hSl, fun H5 s5 => ⟨rfl, _, rfl, ifNF rfl ?_⟩⟩
  have s05 := s4.trans s5
  have h5 := s5 _ _ hp
  refine ⟨_, rfl, a, _, rfl, .inl (s05.seq hA), ((refL ws).length : Nat), rfl, by omega, by omega, for_range (n := (refL ws).length) (fun i σ H6 => H6 = H5 ∧ ∃ y, σ = [some (.ref m), some (.ref a), some (.ref b), some (.ref c), some (.ref d), some (.ref p), y, none]) ⟨rfl, none, rfl⟩ ?_ ?_⟩
  · rintro i σ H6 hi2 ⟨rfl, y, rfl⟩
    have hw : ws[i]? = some (ws[i]'(by omega)) := List.getElem?_eq_getElem (by omega)
    have hwm : ws[i]'(by omega) ∈ ws := List.getElem_mem _
    generalize ws[i]'(by omega) = w at hw hwm
    have hd : ds[i]? = some (ds[i]'(by omega)) := List.getElem?_eq_getElem (by omega)
    generalize ds[i]'(by omega) = e at hd
    have hle := hds i w e hw hd
    refine ⟨_, rfl, _, rfl, p, _, _, _, rfl, rfl, SqL.of h5, atI0 (nmap_at hd), _, rfl, _, rfl, a, _, _, _, rfl, rfl, s05.seq hA, atI0 (get_refL hw), _, rfl, w.1, c, w.2, S, rfl, s05.seq (hL w hwm), s05.seq hC, _, _, rfl, rfl, _, rfl, ifF (by omega) ⟨rfl, _, rfl⟩⟩
  rintro σ H6 ⟨rfl, y, rfl⟩
  refine ⟨_, rfl, .ref a, rfl, a, rfl, ⟨_, s05.seq hA⟩, fun D4 hD4 => lc_list (K := K) (a := a) (xs := refL ws) (fun i H2 => Same H6 H2 ∧ H2 D4 = some (ilst (nmap ((ws.take i).map fun w : Addr × List Int => w.2.length)))) ⟨same_new hD4, upd_same⟩ (fun i H2 _ h => h.1.seq (s05.seq hA)) ?_ ?_⟩
  · rintro i x H12 hi ⟨s12, h12⟩
    obtain ⟨w, hw, hwm, rfl⟩ := refL_get hi
    have hilt := (List.getElem?_eq_some_iff.mp hw).1
    refine ⟨rfl, yes_then ⟨_, rfl, w.1, _, rfl, .inl (s12.seq (s05.seq (hL w hwm))), _, h12, small1000 (by unfold nmap; rw [List.length_map, List.length_map, List.length_map, List.length_take]; omega), same_mut s12 hD4, ?_⟩⟩
    rw [upd_same, List.take_add_one, hw, List.length_map]
    unfold ilst nmap
    rw [List.map_append, List.map_append, List.map_append]
    rfl
  rintro H12 ⟨s12, h12⟩
  rw [List.take_of_length_le (by rw [hlen]; exact Nat.le_refl _), ← ln_eq hus] at h12
  have s012 := s05.trans s12
  refine eqL (s012.seq hD0) (SqL.of h12) ⟨_, rfl, if2 (fun e => ?_) (fun e => ?_)⟩
  · refine ⟨_, rfl, m, dx, _, rfl, s012 _ _ hi, m, g, ta, sa, na, us, _, S, _, rfl, hM.same s012, by omega, fun cv hcv => ?_⟩
    obtain rfl : cv = true := hcv.mpr (nmap_inj e)
    exact ⟨true, true, rfl, rfl, q H12 s012⟩
  · refine ⟨_, rfl, m, dx, _, rfl, s012 _ _ hi, m, g, ta, sa, na, us, _, S, _, rfl, hM.same s012, by omega, fun cv hcv => ?_⟩
    obtain rfl : cv = false := Bool.eq_false_iff.mpr fun h2 => e (congrArg nmap (hcv.mp h2))
    exact ⟨false, false, rfl, rfl, q H12 s012⟩
end
end K34

/-! The two machines of the law, side by side. -/
namespace K34
open PySem PySem.Spec PyProof.Rows L2 Fw Lay
structure Ad where
  f : Addr
  ta1 : Addr
  sa1 : Addr
  na1 : Addr
  h : Addr
  ta2 : Addr
  sa2 : Addr
  na2 : Addr
  g : Addr
  a : Addr
  b : Addr
  d : Addr
  c : Addr
  us1 : Ws
  us2 : Ws
  ws : Ws
  rs : Rx
  rg : Rx
/-- none of the objects that change -/
def Ad.Free (A : Ad) (x : Addr) : Prop := (x ≠ A.f ∧ x ≠ A.sa1 ∧ x ≠ A.na1) ∧ (x ≠ A.h ∧ x ≠ A.sa2 ∧ x ≠ A.na2) ∧ x ≠ A.d ∧ x ≠ A.c
/-- what does not change -/
structure Ad.Ok (A : Ad) (K : PySem.W.Frag) (H : Hp) : Prop where
  nx : ∀ x, MaO A.f A.ta1 A.sa1 A.na1 A.us1 x → (x ≠ A.h ∧ x ≠ A.sa2 ∧ x ≠ A.na2) ∧ x ≠ A.d ∧ x ≠ A.c
  ny : ∀ x, MaO A.h A.ta2 A.sa2 A.na2 A.us2 x → (x ≠ A.f ∧ x ≠ A.sa1 ∧ x ≠ A.na1) ∧ x ≠ A.d ∧ x ≠ A.c
  dc : A.d ≠ A.c
  ot : ∀ x, (x = A.a ∨ x = A.b ∨ x = A.g ∨ ∃ w ∈ A.ws, x = w.1) → A.Free x
  e1 : A.us1.map (·.2) = A.ws.map (·.2)
  e2 : A.us2.map (·.2) = A.ws.map (·.2)
  la : H A.a = some (.lst (refL A.ws))
  lw : ∀ w ∈ A.ws, H w.1 = some (ilst w.2)
  few : A.ws.length ≤ 60
  wl : ∀ w ∈ A.ws, w.2.length ≤ 3000
  rn : ∀ w ∈ A.ws, InN A.rs.length w.2
  lb : H A.b = some (.lst (refR A.rs))
  rw_ : RwOk H A.rs
  rok : RsOk A.rs
  gr : GrAt K H A.g A.rg
  er : A.rg.map (·.2.2) = A.rs.map (·.2.2)
/-- what changes -/
structure Ad.Dyn (A : Ad) (K : PySem.W.Frag) (H : Hp) (S : List Int) (ds : List Nat) : Prop where
  m1 : MaAt K H A.f A.g A.ta1 A.sa1 A.na1 A.us1 (A.us1.map fun u => pfx u.2 S) S (prS A.rs S)
  m2 : MaAt K H A.h A.g A.ta2 A.sa2 A.na2 A.us2 ds S (prS A.rs S)
  ld : H A.d = some (ilst (nmap ds))
  lc : H A.c = some (ilst S)
  le : ∀ (k : Nat) (w : Addr × List Int) (e : Nat), A.ws[k]? = some w → ds[k]? = some e → e ≤ pfx w.2 S
  inn : InN A.rs.length S
def Ad.Kp (A : Ad) (H H2 : Hp) : Prop := ∀ x o, (A.Free x ∨ ∃ ys, o = .tup ys) → H x = some o → H2 x = some o
theorem Ad.Kp.of {A : Ad} {H H2 : Hp} (s : Same H H2) : A.Kp H H2 := fun x o _ e => s x o e
theorem Ad.Kp.trans {A : Ad} {H H2 H3 : Hp} (h : A.Kp H H2) (h2 : A.Kp H2 H3) : A.Kp H H3 := fun x o i e => h2 x o i (h x o i e)
theorem Ad.Kp.m1 {A : Ad} {K : PySem.W.Frag} {H H2 : Hp} {ds : List Nat} {bs : List Int} {b : Int} (M : MaAt K H A.f A.g A.ta1 A.sa1 A.na1 A.us1 ds bs b) (k : ButM A.f A.sa1 A.na1 H H2) : A.Kp H H2 := by
  obtain ⟨⟨dx, h1⟩, h2, h3, h4, h5, h6⟩ := M
  rintro x o (i | ⟨ys, rfl⟩) e
  · exact k x o i.1.1 i.1.2.1 i.1.2.2 e
  · exact k x _ (ne_of e h1 fun e => nomatch e) (ne_of e h4 fun e => nomatch e) (ne_of e h5 fun e => nomatch e) e
theorem Ad.Kp.m2 {A : Ad} {K : PySem.W.Frag} {H H2 : Hp} {ds : List Nat} {bs : List Int} {b : Int} (M : MaAt K H A.h A.g A.ta2 A.sa2 A.na2 A.us2 ds bs b) (k : ButM A.h A.sa2 A.na2 H H2) : A.Kp H H2 := by
  obtain ⟨⟨dx, h1⟩, h2, h3, h4, h5, h6⟩ := M
  rintro x o (i | ⟨ys, rfl⟩) e
  · exact k x o i.2.1.1 i.2.1.2.1 i.2.1.2.2 e
  · exact k x _ (ne_of e h1 fun e => nomatch e) (ne_of e h4 fun e => nomatch e) (ne_of e h5 fun e => nomatch e) e
theorem Ad.Kp.uc {A : Ad} {H : Hp} {xs : List V} {o : HO} (h : H A.c = some (.lst xs)) : A.Kp H (upd H A.c o) := by
  rintro x p (i | ⟨ys, rfl⟩) e
  · rw [upd_ne i.2.2.2]
    exact e
  · rw [upd_ne (ne_of e h fun e => nomatch e)]
    exact e
theorem Ad.Kp.bd {A : Ad} {H H2 : Hp} {xs : List V} (h : H A.d = some (.lst xs)) (k : But A.d H H2) : A.Kp H H2 := by
  rintro x p (i | ⟨ys, rfl⟩) e
  · exact k x p i.2.2.1 e
  · exact k x _ (ne_of e h fun e => nomatch e) e
theorem Ad.Ok.keep {A : Ad} {K : PySem.W.Frag} {H H2 : Hp} (h : A.Ok K H) (k : A.Kp H H2) : A.Ok K H2 := by
  obtain ⟨dx, ra, g1, g2, g3⟩ := h.gr
  exact { h with
    la := k _ _ (.inl (h.ot _ (.inl rfl))) h.la
    lw := fun w hw => k _ _ (.inl (h.ot _ (.inr (.inr (.inr ⟨w, hw, rfl⟩))))) (h.lw w hw)
    lb := k _ _ (.inl (h.ot _ (.inr (.inl rfl)))) h.lb
    rw_ := fun q hq => ⟨k _ _ (.inr ⟨_, rfl⟩) (h.rw_ q hq).1, k _ _ (.inr ⟨_, rfl⟩) (h.rw_ q hq).2⟩
    gr := ⟨dx, ra, k _ _ (.inl (h.ot _ (.inr (.inr (.inl rfl))))) g1, k _ _ (.inr ⟨_, rfl⟩) g2, fun q hq => ⟨k _ _ (.inr ⟨_, rfl⟩) (g3 q hq).1, k _ _ (.inr ⟨_, rfl⟩) (g3 q hq).2⟩⟩ }
theorem grow_iff {r S : List Int} {x : Int} (h : 0 ≤ x) : pfx r S < pfx r (S ++ [x]) ↔ plc r (pfx r S) = x := by
  rw [pfx_snoc]
  unfold pst plc
  cases e : r[pfx r S]? with
  | none =>
    rw [if_neg (fun e => nomatch e)]
    show _ < _ ↔ (-1 : Int) = x
    constructor
    · intro h
      omega
    · intro h
      omega
  | some y =>
    show _ ↔ y = x
    by_cases hy : y = x
    · rw [if_pos (by rw [hy])]
      exact ⟨fun _ => hy, fun _ => Nat.lt_succ_self _⟩
    · rw [if_neg fun e => hy (Option.some.inj e)]
      exact ⟨fun h => absurd h (Nat.lt_irrefl _), fun h => absurd h hy⟩
theorem pfx_mono {r S : List Int} {x : Int} : pfx r S ≤ pfx r (S ++ [x]) := by
  rw [pfx_snoc]
  unfold pst
  split <;> omega
theorem held_le {r S : List Int} {x : Int} {d : Nat} (h0 : 0 ≤ x) (h : d ≤ pfx r S) (hp : plc r d = x) : d + 1 ≤ pfx r (S ++ [x]) := by
  by_cases e : d = pfx r S
  · have := (grow_iff (r := r) (S := S) h0).mpr (by rw [← e]; exact hp)
    omega
  · have := pfx_mono (r := r) (S := S) (x := x)
    omega
def sp_l_both (K : PySem.W.Frag) : Sp := fun vs H Q _ => ∃ (A : Ad) (S : List Int) (ds : List Nat) (x y : Int), vs = [.ref A.f, .ref A.h, .ref A.b, .ref A.a, .ref A.d, .ref A.c, .int x, .int y] ∧ A.Ok K H ∧ A.Dyn K H S ds ∧ S.length ≤ 1000 ∧ 0 ≤ x ∧
  ∀ (H2 : Hp) (S2 : List Int) (ds2 : List Nat), A.Kp H H2 → A.Dyn K H2 S2 ds2 → S2.length = S.length + 1 → Q (.bl true) H2
def sp_law (K : PySem.W.Frag) : Sp := fun vs H Q _ => ∃ (a : Addr) (ns : List Int), vs = [.ref a] ∧ SqL K H a (ns.map V.int) ∧ ns.length ≤ 63 ∧ ∀ H2 : Hp, Q (.bl true) H2
end K34

namespace K34
open PySem PySem.Spec PyProof.Rows L2 Fw Lay
section
variable {P : Program} {w : World} {K : PySem.W.Frag} {mg : Str → Option Value} {base : Heap}
theorem lan_succ {rs : List (List Int)} {ds : List Nat} {i d : Nat} {r : List Int} {x : Int} (h1 : rs[i]? = some r) (h2 : ds[i]? = some d) :
    (List.range (i + 1)).filter (fun k => decide (plc (rs.getD k []) (ds.getD k 0) = x)) = (List.range i).filter (fun k => decide (plc (rs.getD k []) (ds.getD k 0) = x)) ++ if plc r d = x then [i] else [] := by
  rw [List.range_succ, List.filter_append]
  have e1 : rs.getD i [] = r := by rw [List.getD_eq_getElem?_getD, h1]; rfl
  have e2 : ds.getD i 0 = d := by rw [List.getD_eq_getElem?_getD, h2]; rfl
  by_cases h : plc r d = x
  · rw [if_pos h, List.filter_cons_of_pos (by rw [e1, e2]; exact decide_eq_true h), List.filter_nil]
  · rw [if_neg h, List.filter_cons_of_neg (by rw [e1, e2]; exact fun e => h (of_decide_eq_true e)), List.filter_nil]
theorem plcs_get {rs : List (List Int)} {ds : List Nat} {i d : Nat} {r : List Int} (h1 : rs[i]? = some r) (h2 : ds[i]? = some d) : (plcs rs ds)[i]? = some (plc r d) := by
  have hi := (List.getElem?_eq_some_iff.mp h1).1
  unfold plcs
  rw [List.getElem?_map, List.getElem?_range hi]
  show some (plc (rs.getD i []) (ds.getD i 0)) = _
  rw [List.getD_eq_getElem?_getD, List.getD_eq_getElem?_getD, h1, h2]
  rfl
theorem pst_eq {r : List Int} {d : Nat} {x : Int} (h : 0 ≤ x) : pst r d x = d + if plc r d = x then 1 else 0 := by
  unfold pst plc
  cases e : r[d]? with
  | none =>
    rw [if_neg (fun e => nomatch e), if_neg]
    · rfl
    · show ¬ (-1 : Int) = x
      omega
  | some y =>
    by_cases hy : y = x
    · rw [if_pos (by rw [hy]), if_pos (by exact hy)]
    · rw [if_neg fun e => hy (Option.some.inj e), if_neg (by exact hy)]
      rfl
theorem moved_pf {us : Ws} {S : List Int} {x : Int} (h : 0 ≤ x) : moved (us.map fun u => pfx u.2 S) (lanesAt (us.map (·.2)) (us.map fun u => pfx u.2 S) x) = us.map fun u => pfx u.2 (S ++ [x]) := by
  refine List.ext_getElem? fun k => ?_
  by_cases hk : k < us.length
  · have hu : us[k]? = some us[k] := List.getElem?_eq_getElem hk
    generalize us[k] = u at hu
    have h1 : (us.map fun u => pfx u.2 S)[k]? = some (pfx u.2 S) := by rw [List.getElem?_map, hu]; rfl
    have h2 : (us.map (·.2))[k]? = some u.2 := by rw [List.getElem?_map, hu]; rfl
    rw [moved_get h1, List.getElem?_map, hu]
    show _ = some (pfx u.2 (S ++ [x]))
    rw [pfx_snoc, pst_eq h]
    have e : k ∈ lanesAt (us.map (·.2)) (us.map fun u => pfx u.2 S) x ↔ plc u.2 (pfx u.2 S) = x := by
      unfold lanesAt
      rw [List.mem_filter, List.mem_range, List.length_map, List.getD_eq_getElem?_getD, List.getD_eq_getElem?_getD, h1, h2]
      exact ⟨fun h => of_decide_eq_true h.2, fun h => ⟨hk, decide_eq_true h⟩⟩
    by_cases hp : plc u.2 (pfx u.2 S) = x
    · rw [if_pos hp, if_pos (e.mpr hp)]
    · rw [if_neg hp, if_neg fun h => hp (e.mp h)]
  · rw [List.getElem?_eq_none (by rw [moved_len, List.length_map]; omega), List.getElem?_eq_none (by rw [List.length_map]; omega)]
theorem prS_snoc (rs : Rx) (S : List Int) (n : Nat) : prS rs (S ++ [(n : Int)]) = prS rs S + (pxr rs).getD n 0 := by
  unfold prS
  rw [List.map_append, List.sum_append]
  show _ + ((pxr rs).getD ((n : Int)).toNat 0 + 0) = _
  rw [Int.toNat_natCast, Int.add_zero]
theorem pxr_eq {rg rs : Rx} (h : rg.map (·.2.2) = rs.map (·.2.2)) : pxr rg = pxr rs := by
  have e := congrArg (List.map fun q : Rw => q.2.1) h
  rw [List.map_map, List.map_map] at e
  exact e
theorem nmap_ge {ls : List Nat} {i : Nat} {x : V} (h : ((nmap ls).map V.int)[i]? = some x) : ∃ k, ls[i]? = some k ∧ x = .int (k : Int) := by
  unfold nmap at h
  rw [List.map_map, List.getElem?_map] at h
  obtain ⟨k, h1, h2⟩ := Option.map_eq_some_iff.mp h
  exact ⟨k, h1, h2.symm⟩
theorem ok_l_both (T : Txt K mg) : Good P w K mg base 4 (He.ga K "_law_both") ["_law_free_here", "_law_held_here", "_law_rows", "_law_runs", "_law_done", "_law_beats", "_law_digit", "_law_rest"] [] (sp_l_both K) := by
  refine good_of T.f_l_both sc_l_both (fun vs H Q E h => ?_) (fun _ _ _ _ _ _ us hl => match us, hl with | [_, _, _, _, _, _, _, _], _ => rfl) (fun cdv A outer s H vs Q E hr h => ?_)
  · obtain ⟨_, _, _, _, _, rfl, _⟩ := h
    rfl
  refine ⟨_, (pss_cons (ps_set (i := 8) sc_l_both.nd rfl (Or.inr rfl) (pe_lc (own := [("_law_run_here", 16)]) (g := (gName 16)) (tt := tYes) rfl sc_l_both.nd (pi_list (pv 3)) (blkOk_by (own := [("_law_run_here", 16)]) (N := ["_law_free_here", "_law_held_here", "_law_rows", "_law_runs", "_law_done", "_law_beats", "_law_digit", "_law_rest", "_law_whole", "_law_places_here", "_law_node", "_law_here", "_law_due", "_law_moved", "_law_told", "_law_k", "_law_run_here"]) (sc := defScope s_l_both) (by decide +kernel)) (fun _ _ _ _ _ => (pg_name (i := 16) sc_l_both.nd rfl (Or.inl rfl))) (fun _ _ _ _ _ => pts_nil) (fun _ _ _ _ _ => (pe_cg (ok_l_prefix T) (hr.mono (j := 1) (by decide)) (by rfl) T.g_l_prefix (pa_cons (pv 16) (pa_cons (pv 5) pa_nil))))))
  (pss_cons (ps_set (i := 9) sc_l_both.nd rfl (Or.inr rfl) (pe_lst (pa_cons (pe_cg (ok_l_places T) (hr.mono (j := 1) (by decide)) (by rfl) T.g_l_places (pa_cons (pv 3) (pa_cons (pv 8) pa_nil))) (pa_cons (pe_cg (ok_l_places T) (hr.mono (j := 1) (by decide)) (by rfl) T.g_l_places (pa_cons (pv 3) (pa_cons (pv 4) pa_nil))) pa_nil))))
  (pss_cons (ps_set (i := 10) sc_l_both.nd rfl (Or.inr rfl) (pe_cg (ok_l_aim T) (hr.mono (j := 1) (by decide)) (by rfl) T.g_l_aim (pa_cons (pv 2) (pa_cons (pe_ix ix_list (pv 9) (pe_op op_mod (pe_callTy call_int1 (by rfl) T.z_int (by decide +kernel) (pa_cons (pv 7) pa_nil)) pe_int) (fun _ _ => rfl)) (pa_cons (pe_op op_fdiv (pv 6) pe_int) pa_nil)))))
  (pss_cons (ps_setLc (i := 11) (own := [("_law_k", 15)]) (g := (gName 15)) rfl sc_l_both.nd rfl rfl (sw_true rfl rfl rfl (by decide +kernel)) (pi_range1 (by rfl) T.z_range (pa_cons (pe_callB call_len_seq (by rfl) T.z_len (by decide +kernel) (pa_cons (pv 3) pa_nil)) pa_nil)) (blkOk_by (own := [("_law_k", 15)]) (N := ["_law_free_here", "_law_held_here", "_law_rows", "_law_runs", "_law_done", "_law_beats", "_law_digit", "_law_rest", "_law_whole", "_law_places_here", "_law_node", "_law_here", "_law_due", "_law_moved", "_law_told", "_law_k", "_law_run_here"]) (sc := defScope s_l_both) (by decide +kernel)) (fun _ _ _ _ _ => (pg_name (i := 15) sc_l_both.nd rfl (Or.inl rfl))) (fun _ _ _ _ _ => (pts_one (pt_cmpR op_eq (pe_ix (ix_listE (K := K) rfl) (pe_ix (ix_listE (K := K) rfl) (pv 9) pe_int (fun _ _ => rfl)) (pv 15) (fun _ _ => rfl)) (pv 10) (nomark _)))) (fun _ _ _ _ _ => (pv 15)))
  (pss_cons (ps_set (i := 12) sc_l_both.nd rfl (Or.inl rfl) (pe_cg (ok_l_some T) (hr.mono (j := 1) (by decide)) (by rfl) T.g_l_some (pa_cons (pv 11) (pa_cons (pv 6) (pa_cons (pe_op op_fdiv (pv 7) pe_int) pa_nil)))))
  (pss_cons (ps_expr (pe_bm PySem.F.plainAttrs_list PySem.F.slot_list_append PySem.F.type_list_append mt_append (pv 5) (pa_cons (pv 10) pa_nil)))
  (pss_cons (ps_set (i := 13) sc_l_both.nd rfl (Or.inl rfl) (pe_mtg (pv 0) T.cl_Machine T.me_Machine_beat (ok_Machine_beat T).good (hr.mono (j := 3) (by decide)) (pa_cons (pv 10) pa_nil)))
  (pss_cons (ps_if (pw_or (pt_not (pt_val (pe_cg (ok_l_ints T) (hr.mono (j := 2) (by decide)) (by rfl) T.g_l_ints (pa_cons (pv 13) pa_nil)))) (pw_or1 (pt_cmpR (op_neD hr.units) (pv 13) (pe_lc (own := [("_law_k", 15)]) (g := (gName 15)) rfl sc_l_both.nd (pi_range1 (by rfl) T.z_range (pa_cons (pe_callB call_len_seq (by rfl) T.z_len (by decide +kernel) (pa_cons (pv 3) pa_nil)) pa_nil)) (blkOk_by (own := [("_law_k", 15)]) (N := ["_law_free_here", "_law_held_here", "_law_rows", "_law_runs", "_law_done", "_law_beats", "_law_digit", "_law_rest", "_law_whole", "_law_places_here", "_law_node", "_law_here", "_law_due", "_law_moved", "_law_told", "_law_k", "_law_run_here"]) (sc := defScope s_l_both) (by decide +kernel)) (fun _ _ _ _ _ => (pg_name (i := 15) sc_l_both.nd rfl (Or.inl rfl))) (fun _ _ _ _ _ => (pts_one (pt_cmpR op_gt (pe_cg (ok_l_prefix T) (hr.mono (j := 1) (by decide)) (by rfl) T.g_l_prefix (pa_cons (pe_ix (ix_listE (K := K) rfl) (pv 3) (pv 15) (fun _ _ => rfl)) (pa_cons (pv 5) pa_nil))) (pe_ix (ix_listE (K := K) rfl) (pv 8) (pv 15) (fun _ _ => rfl)) (nomark _)))) (fun _ _ _ _ _ => (pv 15))) (nomark _)))).pt
    (pss_one (ps_ret pe_bl))
    pss_nil)
  (C8.pss_cut (ps_if (pw_and (pt_cmpR (op_eqD hr.units) (pv 12) (pv 11) (nomark _)) (pw_and1 (pt_cmpR op_eq (pe_op op_mod (pe_callTy call_int1 (by rfl) T.z_int (by decide +kernel) (pa_cons (pv 6) pa_nil)) pe_int) pe_int (nomark _)))).pt
    (pss_one (ps_set (i := 14) sc_l_both.nd rfl (Or.inl rfl) (pe_mtg (pv 1) T.cl_Machine T.me_Machine_beat (ok_Machine_beat T).good (hr.mono (j := 3) (by decide)) (pa_cons (pv 10) pa_nil))))
    (pss_one (ps_set (i := 14) sc_l_both.nd rfl (Or.inl rfl) (pe_mtgK (pv 1) T.cl_Machine T.me_Machine_beat (ok_Machine_beat T) (hr.mono (j := 3) (by decide)) (pa_cons (pv 10) pa_nil) (pk_cons (pe_callTy call_list_of (by rfl) T.z_list (by decide +kernel) (pa_cons (pv 12) pa_nil)) pk_nil)))))
  (pss_cons (ps_if (pw_or (pt_not (pt_val (pe_cg (ok_l_ints T) (hr.mono (j := 2) (by decide)) (by rfl) T.g_l_ints (pa_cons (pv 14) pa_nil)))) (pw_or1 (pt_cmpR (op_neD hr.units) (pv 14) (pv 12) (nomark _)))).pt
    (pss_one (ps_ret pe_bl))
    pss_nil)
  (pss_cons (ps_for PassesOwn.never rfl (pi_list (pv 12)) (pg_name (i := 15) sc_l_both.nd rfl (Or.inl rfl))
    (pss_one (ps_asg (pe_op op_add (pe_ix ix_list (pv 4) (pv 15) (fun _ _ => rfl)) pe_int) (pg_sub (pv 4) (pv 15) set_list))))
  (pss_one (ps_ret (pe_and (pe_cg (ok_l_free T) (hr.mono (j := 3) (by decide)) (by rfl) T.g_l_free (pa_cons (pv 0) (pa_cons (pv 3) (pa_cons (pv 2) (pa_cons (pv 5) pa_nil))))) (pe_one (pe_cg (ok_l_held T) (hr.mono (j := 3) (by decide)) (by rfl) T.g_l_held (pa_cons (pv 1) (pa_cons (pv 3) (pa_cons (pv 2) (pa_cons (pv 5) (pa_cons (pv 4) pa_nil))))))))))))))))))))), ?_⟩
  obtain ⟨A, S, ds, x, y, rfl, O, Y, hSl, x0, q⟩ := h
  have hlen : (refL A.ws).length = A.ws.length := List.length_map ..
  have few := O.few
  have hu1 : A.us1.length = A.ws.length := by
    have e := congrArg List.length O.e1
    rw [List.length_map, List.length_map] at e
    exact e
  have hu2 : A.us2.length = A.ws.length := by
    have e := congrArg List.length O.e2
    rw [List.length_map, List.length_map] at e
    exact e
  have hdl : ds.length = A.ws.length := Y.m2.ln.trans hu2
  have hwl2 : (A.ws.map (·.2)).length = A.ws.length := List.length_map ..
  have hgr : A.rg.length = A.rs.length := by
    have e := congrArg List.length O.er
    rw [List.length_map, List.length_map] at e
    exact e
  have hwsi : ∀ {i : Nat}, i < A.ws.length → ∃ (w : Addr × List Int) (e : Nat), w ∈ A.ws ∧ A.ws[i]? = some w ∧ ds[i]? = some e ∧ (A.ws.map (·.2))[i]? = some w.2 ∧ (A.ws.map fun w => pfx w.2 S)[i]? = some (pfx w.2 S) := fun {i} hi => by
    have hw : A.ws[i]? = some A.ws[i] := List.getElem?_eq_getElem hi
    refine ⟨_, _, List.getElem_mem hi, hw, List.getElem?_eq_getElem (by omega), ?_, ?_⟩
    · rw [List.getElem?_map, hw]
      rfl
    · rw [List.getElem?_map, hw]
      rfl
  have hrpos : 0 < A.rs.length := by
    have := O.rok.g.pos
    rw [sxr_len] at this
    exact this
  have hrfew := O.rok.few
  -- whole
  refine ⟨.ref A.a, rfl, A.a, rfl, ⟨_, SqL.of O.la⟩, fun D hD => lc_list (K := K) (a := A.a) (xs := refL A.ws) (fun i H2 => Same H H2 ∧ H2 D = some (ilst (nmap ((A.ws.take i).map fun w : Addr × List Int => pfx w.2 S)))) ⟨same_new hD, upd_same⟩ (fun i H2 _ h => SqL.of (h.1 _ _ O.la)) ?_ ?_⟩
  · rintro i z H3 hi ⟨s3, h3⟩
    obtain ⟨w, hw, hwm, rfl⟩ := refL_get hi
    have hilt := (List.getElem?_eq_some_iff.mp hw).1
    refine ⟨rfl, yes_then ⟨_, rfl, _, rfl, w.1, A.c, w.2, S, rfl, SqL.of (s3 _ _ (O.lw w hwm)), SqL.of (s3 _ _ Y.lc), _, h3, small1000 (by unfold nmap; rw [List.length_map, List.length_map, List.length_map, List.length_take]; omega), same_mut s3 hD, ?_⟩⟩
    rw [upd_same, List.take_add_one, hw]
    unfold ilst nmap
    rw [List.map_append, List.map_append, List.map_append]
    rfl
  rintro H1 ⟨s1, h1⟩
  rw [List.take_of_length_le (by rw [hlen]; exact Nat.le_refl _)] at h1
  -- places
  refine ⟨_, rfl, _, rfl, A.a, D, A.ws, A.ws.map (fun w => pfx w.2 S), rfl, SqL.of (s1 _ _ O.la), fun w hw => SqL.of (s1 _ _ (O.lw w hw)), SqL.of h1, by rw [List.length_map], by omega, fun H2 p1 s2 np1 hp1 => ?_⟩
  have s02 := s1.trans s2
  refine ⟨_, rfl, _, rfl, A.a, A.d, A.ws, ds, rfl, SqL.of (s02 _ _ O.la), fun w hw => SqL.of (s02 _ _ (O.lw w hw)), SqL.of (s02 _ _ Y.ld), hdl, by omega, fun H3 p2 s3 np2 hp2 => ?_⟩
  have s03 := s02.trans s3
  refine ⟨(by show 2 ≤ sizeLine; decide), fun P nP => ?_⟩
  have s34 := same_new (o := .lst [.ref p1, .ref p2]) nP
  have s04 := s03.trans s34
  have hP : upd H3 P (.lst [.ref p1, .ref p2]) P = some (.lst [.ref p1, .ref p2]) := upd_same
  have hp1 := s34 _ _ (s3 _ _ hp1)
  have hp2 := s34 _ _ hp2
  have h4 := s34 _ _ (s3 _ _ (s2 _ _ h1))
  generalize upd H3 P (.lst [.ref p1, .ref p2]) = H4 at s04 hP hp1 hp2 h4 ⊢
  have hpsr : ∀ es : List Nat, ∀ z ∈ plcs (A.ws.map (·.2)) es, z < (A.rs.length : Int) := fun es z hz => by
    unfold plcs at hz
    obtain ⟨k, hk, rfl⟩ := List.mem_map.mp hz
    rw [List.mem_range, hwl2] at hk
    obtain ⟨w, e, hwm, hw, _, hw2, _⟩ := hwsi hk
    rw [List.getD_eq_getElem?_getD, hw2]
    show plc w.2 _ < _
    unfold plc
    cases e2 : w.2[es.getD k 0]? with
    | none =>
      show (-1 : Int) < _
      omega
    | some v => exact (O.rn w hwm v (List.mem_of_getElem? e2)).2
  have hpsl : ∀ es : List Nat, (plcs (A.ws.map (·.2)) es).length ≤ 1000 := fun es => by
    unfold plcs
    rw [List.length_map, List.length_range]
    omega
  obtain ⟨pp, es, hpp, hat⟩ : ∃ (pp : Addr) (es : List Nat), H4 pp = some (ilst (plcs (A.ws.map (·.2)) es)) ∧ atI [V.ref p1, V.ref p2] (y % 2) = some (.ref pp) := by
    have h1 := Int.emod_nonneg y (show (2 : Int) ≠ 0 by omega)
    have h2 := Int.emod_lt_of_pos y (show (0 : Int) < 2 by omega)
    by_cases e : y % 2 = 0
    · rw [e]
      exact ⟨p1, _, hp1, rfl⟩
    · have e : y % 2 = 1 := by omega
      rw [e]
      exact ⟨p2, _, hp2, rfl⟩
  refine ⟨_, rfl, _, rfl, _, rfl, .inl ⟨_, rfl, _, _, rfl, rfl, (by show (0 : Int) < 2; decide), P, _, _, _, rfl, rfl, SqL.of hP, hat, ?_⟩⟩
  refine ⟨_, rfl, _, _, rfl, rfl, ⟨by decide, by decide⟩, A.b, pp, A.rs, plcs (A.ws.map (·.2)) es, x / 8, rfl, SqL.of (s04 _ _ O.lb), hrpos, hrfew, SqL.of hpp, hpsl es, hpsr es, by omega, fun H5 xn s5 hxn => ?_⟩
  have s05 := s04.trans s5
  -- here
  refine ⟨_, rfl, A.a, _, rfl, .inl (SqL.of (s05 _ _ O.la)), ((refL A.ws).length : Nat), rfl, by omega, by omega, fun D2 hD2 => lc_range (n := (refL A.ws).length) (fun i H6 => Same H5 H6 ∧ H6 D2 = some (ilst (nmap ((List.range i).filter fun k => decide (plc ((A.ws.map (·.2)).getD k []) (ds.getD k 0) = (xn : Int)))))) ⟨same_new hD2, upd_same⟩ ?_ ?_⟩
  · rintro i H6 hi ⟨s6, h6⟩
    rw [hlen] at hi
    obtain ⟨w, e, hwm, hw, he, hw2, _⟩ := hwsi hi
    have hfl := List.length_filter_le (fun k => decide (plc ((A.ws.map (·.2)).getD k []) (ds.getD k 0) = (xn : Int))) (List.range i)
    rw [List.length_range] at hfl
    rw [lan_succ hw2 he]
    refine ⟨rfl, _, rfl, P, _, 1, _, rfl, rfl, SqL.of (s6 _ _ (s5 _ _ hP)), rfl, _, rfl, p2, _, _, _, rfl, rfl, SqL.of (s6 _ _ (s5 _ _ hp2)), atI0 (get_map (plcs_get hw2 he)), _, rfl, rfl, _, rfl, if2 (fun e => ?_) (fun e => ?_)⟩
    · rw [if_pos (V.int.inj e)]
      refine ⟨_, rfl, _, h6, small1000 (by unfold nmap; rw [List.length_map, List.length_map]; omega), same_mut s6 hD2, ?_⟩
      have ei : (0 + (i : Int)) = (i : Int) := by omega
      rw [upd_same, ei]
      unfold ilst nmap
      rw [List.map_append, List.map_append]
      rfl
    · rw [if_neg fun h => e (congrArg V.int h), List.append_nil]
      exact ⟨s6, h6⟩
  rintro H6 ⟨s6, h6⟩
  rw [hlen] at h6
  have s06 := s05.trans s6
  obtain ⟨ls, hls⟩ : ∃ ls, ls = lanesAt (A.ws.map (·.2)) ds (xn : Int) := ⟨_, rfl⟩
  have h6 : H6 D2 = some (ilst (nmap ls)) := by
    rw [hls]
    unfold lanesAt
    rw [hwl2]
    exact h6
  have hll : ls.length ≤ A.ws.length := by
    rw [hls]
    unfold lanesAt
    have := List.length_filter_le (fun k => decide (plc ((A.ws.map (·.2)).getD k []) (ds.getD k 0) = (xn : Int))) (List.range (A.ws.map (·.2)).length)
    rw [List.length_range, hwl2] at this
    rw [hwl2]
    exact this
  -- due
  refine ⟨_, rfl, _, rfl, _, rfl, _, _, rfl, rfl, ⟨by decide, by decide⟩, D2, ls, x, y / 2, rfl, SqL.of h6, by omega, fun H7 pd ms s7 npd hpd hsub => ?_⟩
  have s07 := s06.trans s7
  have h7 := s7 _ _ (s6 _ _ (s5 _ _ h4))
  have h72 := s7 _ _ h6
  have hmm : ∀ k ∈ ms, k ∈ lanesAt (A.ws.map (·.2)) ds (xn : Int) := fun k hk => by
    rw [← hls]
    exact hsub.subset hk
  have hma : ms.Pairwise (· < ·) := (by rw [hls] at hsub; exact (lanes_asc _ _ _).sublist hsub)
  have hmn : ms.Nodup := hma.imp fun h => by omega
  -- beats.append
  have hc7 := s07 _ _ Y.lc
  refine ⟨_, rfl, .inl ⟨rfl, _, SqL.of hc7⟩, _, rfl, A.c, _, _, rfl, rfl, hc7, ?_, ?_⟩
  · rw [List.length_map]
    exact Nat.lt_of_le_of_lt hSl (by decide)
  have k7 : A.Kp H7 (upd H7 A.c (.lst (S.map V.int ++ [.int (xn : Int)]))) := Ad.Kp.uc hc7
  have b7 : But A.c H7 (upd H7 A.c (.lst (S.map V.int ++ [.int (xn : Int)]))) := But.refl.own
  have hc8 : upd H7 A.c (.lst (S.map V.int ++ [.int (xn : Int)])) A.c = some (ilst (S ++ [(xn : Int)])) := by
    rw [upd_same]
    unfold ilst
    rw [List.map_append]
    rfl
  generalize upd H7 A.c (.lst (S.map V.int ++ [.int (xn : Int)])) = H8 at k7 b7 hc8 ⊢
  have k08 := (Ad.Kp.of s07).trans k7
  have O8 := O.keep k08
  have M1 := (Y.m1.same s07).keep fun z o hz e => b7 z o (O.nx z hz).2.2 e
  have M2 := (Y.m2.same s07).keep fun z o hz e => b7 z o (O.ny z hz).2.2 e
  have hd8 := b7 _ _ O.dc (s07 _ _ Y.ld)
  have hne : ∀ {z : Addr} {o : HO}, H7 z = some o → H z = none → z ≠ A.c := fun h1 h2 e => by
    rw [e, Y.lc] at h2
    cases h2
  have nD2 : H D2 = none := s05.free hD2
  have nD : H D = none := hD
  have npdH : H pd = none := s06.free npd
  have h8 := b7 _ _ (hne h7 nD) h7
  have h82 := b7 _ _ (hne h72 nD2) h72
  have hpd8 := b7 _ _ (hne hpd npdH) hpd
  obtain ⟨⟨dx1, hi1⟩, _, _, hst1, hnd1, _⟩ := id M1
  obtain ⟨⟨dx2, hi2⟩, _, _, hst2, hnd2, _⟩ := id M2
  have hqr : A.rg[xn]? = some (A.rg[xn]'(by omega)) := List.getElem?_eq_getElem (by omega)
  generalize A.rg[xn]'(by omega) = qr at hqr
  have hqp : (pxr A.rs).getD xn 0 = qr.2.2.2.1 := by
    rw [← pxr_eq O.er]
    exact pxr_at hqr
  have hxn0 : (0 : Int) ≤ (xn : Int) := by omega
  -- free.beat
  refine ⟨_, rfl, A.f, dx1, _, rfl, hi1, rfl, _, rfl, A.f, A.g, A.ta1, A.sa1, A.na1, A.rg, A.us1, _, S, _, xn, qr, .non, _, rfl, M1, O8.gr, hqr, by omega, Nat.le_trans hSl (by decide), .inl ⟨rfl, rfl⟩, fun H9 pm k9 npm hpm M19 => ?_⟩
  rw [moved_pf hxn0, ← hqp, ← prS_snoc] at M19
  rw [pf_eq O.e1, O.e1] at hpm
  have kp9 := Ad.Kp.m1 M1 k9
  have O9 := O8.keep kp9
  have M29 := M2.keep fun z o hz e => k9 z o (O.ny z hz).1.1 (O.ny z hz).1.2.1 (O.ny z hz).1.2.2 e
  have hf3 : ∀ {z : Addr} {o : HO}, H8 z = some o → H z = none → z ≠ A.f ∧ z ≠ A.sa1 ∧ z ≠ A.na1 ∧ z ≠ A.h ∧ z ≠ A.sa2 ∧ z ≠ A.na2 ∧ z ≠ A.d := fun {z o} h1 h2 => by
    obtain ⟨⟨_, e1⟩, _, _, e2, e3, _⟩ := Y.m1
    obtain ⟨⟨_, e4⟩, _, _, e5, e6, _⟩ := Y.m2
    exact ⟨(ne_of_none e1 h2).symm, (ne_of_none e2 h2).symm, (ne_of_none e3 h2).symm, (ne_of_none e4 h2).symm, (ne_of_none e5 h2).symm, (ne_of_none e6 h2).symm, (ne_of_none Y.ld h2).symm⟩
  have kf9 : ∀ {z : Addr} {o : HO}, H8 z = some o → H z = none → H9 z = some o := fun h1 h2 => k9 _ _ (hf3 h1 h2).1 (hf3 h1 h2).2.1 (hf3 h1 h2).2.2.1 h1
  have h9 := kf9 h8 nD
  have h92 := kf9 h82 nD2
  have hpd9 := kf9 hpd8 npdH
  have hO1 : ∀ z, z = A.f ∨ z = A.sa1 ∨ z = A.na1 → MaO A.f A.ta1 A.sa1 A.na1 A.us1 z := fun z hz => hz.elim .inl fun hz => hz.elim (fun h => .inr (.inr (.inl h))) fun h => .inr (.inr (.inr (.inl h)))
  have hO2 : ∀ z, z = A.h ∨ z = A.sa2 ∨ z = A.na2 → MaO A.h A.ta2 A.sa2 A.na2 A.us2 z := fun z hz => hz.elim .inl fun hz => hz.elim (fun h => .inr (.inr (.inl h))) fun h => .inr (.inr (.inr (.inl h)))
  have hdf : A.d ≠ A.f ∧ A.d ≠ A.sa1 ∧ A.d ≠ A.na1 := ⟨(O.nx _ (hO1 _ (.inl rfl))).2.1.symm, (O.nx _ (hO1 _ (.inr (.inl rfl)))).2.1.symm, (O.nx _ (hO1 _ (.inr (.inr rfl)))).2.1.symm⟩
  have hcf : A.c ≠ A.f ∧ A.c ≠ A.sa1 ∧ A.c ≠ A.na1 := ⟨(O.nx _ (hO1 _ (.inl rfl))).2.2.symm, (O.nx _ (hO1 _ (.inr (.inl rfl)))).2.2.symm, (O.nx _ (hO1 _ (.inr (.inr rfl)))).2.2.symm⟩
  have hdh : A.d ≠ A.h ∧ A.d ≠ A.sa2 ∧ A.d ≠ A.na2 := ⟨(O.ny _ (hO2 _ (.inl rfl))).2.1.symm, (O.ny _ (hO2 _ (.inr (.inl rfl)))).2.1.symm, (O.ny _ (hO2 _ (.inr (.inr rfl)))).2.1.symm⟩
  have hch : A.c ≠ A.h ∧ A.c ≠ A.sa2 ∧ A.c ≠ A.na2 := ⟨(O.ny _ (hO2 _ (.inl rfl))).2.2.symm, (O.ny _ (hO2 _ (.inr (.inl rfl)))).2.2.symm, (O.ny _ (hO2 _ (.inr (.inr rfl)))).2.2.symm⟩
  have hd9 := k9 _ _ hdf.1 hdf.2.1 hdf.2.2 hd8
  have hc9 := k9 _ _ hcf.1 hcf.2.1 hcf.2.2 hc8
  -- what moved
  refine ⟨_, rfl, pm, _, rfl, hpm, true, rfl, iteF ⟨_, rfl, _, rfl, A.a, _, rfl, .inl (SqL.of O9.la), ((refL A.ws).length : Nat), rfl, by omega, by omega, fun D3 hD3 => lc_range (n := (refL A.ws).length) (fun i H6 => Same H9 H6 ∧ H6 D3 = some (ilst (nmap ((List.range i).filter fun k => decide (plc ((A.ws.map (·.2)).getD k []) ((A.ws.map fun w => pfx w.2 S).getD k 0) = (xn : Int)))))) ⟨same_new hD3, upd_same⟩ ?_ ?_⟩⟩
  · rintro i H6 hi ⟨s6, h6⟩
    rw [hlen] at hi
    obtain ⟨w, e, hwm, hw, he, hw2, hw3⟩ := hwsi hi
    have hfl := List.length_filter_le (fun k => decide (plc ((A.ws.map (·.2)).getD k []) ((A.ws.map fun w => pfx w.2 S).getD k 0) = (xn : Int))) (List.range i)
    rw [List.length_range] at hfl
    rw [lan_succ hw2 hw3]
    have hgi := grow_iff (r := w.2) (S := S) hxn0
    refine ⟨rfl, _, rfl, _, rfl, A.a, _, _, _, rfl, rfl, SqL.of (s6 _ _ O9.la), atI0 (get_refL hw), _, rfl, w.1, A.c, w.2, S ++ [(xn : Int)], rfl, SqL.of (s6 _ _ (O9.lw w hwm)), SqL.of (s6 _ _ hc9), _, rfl, _, rfl, D, _, _, _, rfl, rfl, SqL.of (s6 _ _ h9), atI0 (nmap_at hw3), _, _, rfl, rfl, _, rfl, if2 (fun e => ?_) (fun e => ?_)⟩
    · rw [if_pos (hgi.mp (by omega))]
      refine ⟨_, rfl, _, h6, small1000 (by unfold nmap; rw [List.length_map, List.length_map]; omega), same_mut s6 hD3, ?_⟩
      have ei : (0 + (i : Int)) = (i : Int) := by omega
      rw [upd_same, ei]
      unfold ilst nmap
      rw [List.map_append, List.map_append]
      rfl
    · rw [if_neg fun h => e (by have := hgi.mpr h; omega), List.append_nil]
      exact ⟨s6, h6⟩
  rintro H10 ⟨s10, h10⟩
  have h10 : H10 D3 = some (ilst (nmap (lanesAt (A.ws.map (·.2)) (A.ws.map fun w => pfx w.2 S) (xn : Int)))) := by
    unfold lanesAt
    rw [hwl2, ← hlen]
    exact h10
  refine neL (SqL.of (s10 _ _ hpm)) (SqL.of h10) ⟨_, rfl, ifNF rfl ?_⟩
  have O10 := O9.keep (Ad.Kp.of s10)
  have M210 := M29.same s10
  have M110 := M19.same s10
  have k010 := (k08.trans kp9).trans (Ad.Kp.of s10)
  have h102 := s10 _ _ h92
  have hpd10 := s10 _ _ hpd9
  have hd10 := s10 _ _ hd9
  have hc10 := s10 _ _ hc9
  obtain ⟨⟨dx3, hi3⟩, _, _, hst3, hnd3, _⟩ := id M210
  have hpdh := hf3 hpd8 npdH
  -- held.beat
  refine ⟨fun σ H11 => ∃ pt, A.Kp H10 H11 ∧ MaAt K H11 A.h A.g A.ta2 A.sa2 A.na2 A.us2 (moved ds ms) (S ++ [(xn : Int)]) (prS A.rs (S ++ [(xn : Int)])) ∧ MaAt K H11 A.f A.g A.ta1 A.sa1 A.na1 A.us1 (A.us1.map fun u => pfx u.2 (S ++ [(xn : Int)])) (S ++ [(xn : Int)]) (prS A.rs (S ++ [(xn : Int)])) ∧ H11 pt = some (ilst (nmap ms)) ∧ H11 pd = some (ilst (nmap ms)) ∧ H11 A.d = some (ilst (nmap ds)) ∧ H11 A.c = some (ilst (S ++ [(xn : Int)])) ∧
    σ = [some (.ref A.f), some (.ref A.h), some (.ref A.b), some (.ref A.a), some (.ref A.d), some (.ref A.c), some (.int x), some (.int y), some (.ref D), some (.ref P), some (.int (xn : Int)), some (.ref D2), some (.ref pd), some (.ref pm), some (.ref pt), none, none], ?_, ?_⟩
  · have after : ∀ {H11 H10' : Hp} {pt : Addr}, Same H10 H10' → ButM A.h A.sa2 A.na2 H10' H11 → H11 pt = some (ilst (nmap ms)) → MaAt K H11 A.h A.g A.ta2 A.sa2 A.na2 A.us2 (moved ds ms) (S ++ [(xn : Int)]) (prS A.rs S + qr.2.2.2.1) →
        A.Kp H10 H11 ∧ MaAt K H11 A.h A.g A.ta2 A.sa2 A.na2 A.us2 (moved ds ms) (S ++ [(xn : Int)]) (prS A.rs (S ++ [(xn : Int)])) ∧ MaAt K H11 A.f A.g A.ta1 A.sa1 A.na1 A.us1 (A.us1.map fun u => pfx u.2 (S ++ [(xn : Int)])) (S ++ [(xn : Int)]) (prS A.rs (S ++ [(xn : Int)])) ∧ H11 pt = some (ilst (nmap ms)) ∧ H11 pd = some (ilst (nmap ms)) ∧ H11 A.d = some (ilst (nmap ds)) ∧ H11 A.c = some (ilst (S ++ [(xn : Int)])) := fun {H11 H10' pt} s k hpt M => by
      refine ⟨(Ad.Kp.of s).trans (Ad.Kp.m2 (M210.same s) k), by rw [prS_snoc, hqp]; exact M, (M110.same s).keep fun z o hz e => k z o (O.nx z hz).1.1 (O.nx z hz).1.2.1 (O.nx z hz).1.2.2 e, hpt, ?_, ?_, ?_⟩
      · exact k _ _ hpdh.2.2.2.1 hpdh.2.2.2.2.1 hpdh.2.2.2.2.2.1 (s _ _ hpd10)
      · exact k _ _ hdh.1 hdh.2.1 hdh.2.2 (s _ _ hd10)
      · exact k _ _ hch.1 hch.2.1 hch.2.2 (s _ _ hc10)
    refine ⟨_, rfl, _, rfl, eqL (SqL.of hpd10) (SqL.of h102) ⟨_, rfl, if2 (fun e => ⟨_, rfl, .inl ⟨_, rfl, _, _, rfl, rfl, (by show (0 : Int) < 8; decide), rfl, _, rfl, if2 (fun e2 => ?A) (fun e2 => ?B)⟩⟩) (fun e => ?C)⟩⟩
    case A =>
      have em : ms = ls := nmap_inj e
      refine ⟨_, rfl, A.h, dx3, _, rfl, hi3, rfl, _, rfl, A.h, A.g, A.ta2, A.sa2, A.na2, A.rg, A.us2, ds, S, _, xn, qr, .non, ms, rfl, M210, O10.gr, hqr, by omega, Nat.le_trans hSl (by decide), .inl ⟨rfl, by rw [em, hls, O.e2]⟩, fun H11 pt k11 npt hpt M11 => ?_⟩
      obtain ⟨r1, r2, r3, r4, r5, r6, r7⟩ := after (Same.refl _) k11 hpt M11
      exact ⟨pt, r1, r2, r3, r4, r5, r6, r7, rfl⟩
    all_goals
      refine ⟨_, rfl, A.h, dx3, _, rfl, hi3, rfl, _, rfl, _, rfl, pd, _, rfl, .inl (SqL.of hpd10), fun l nl => ?_⟩
      have sl := same_new (o := .lst ((nmap ms).map V.int)) nl
      refine ⟨rfl, rfl, A.h, A.g, A.ta2, A.sa2, A.na2, A.rg, A.us2, ds, S, _, xn, qr, .ref l, ms, rfl, M210.same sl, O10.gr.same sl, hqr, by omega, Nat.le_trans hSl (by decide), .inr ⟨l, rfl, SqL.of upd_same, hma, by rw [O.e2]; exact hmm⟩, fun H11 pt k11 npt hpt M11 => ?_⟩
      obtain ⟨r1, r2, r3, r4, r5, r6, r7⟩ := after sl k11 hpt M11
      exact ⟨pt, r1, r2, r3, r4, r5, r6, r7, rfl⟩
  rintro σ H11 ⟨pt, k11, M211, M111, hpt, hpd11, hd11, hc11, rfl⟩
  refine ⟨_, rfl, pt, _, rfl, hpt, true, rfl, iteF ⟨_, rfl, _, rfl, neL (SqL.of hpt) (SqL.of hpd11) ⟨_, rfl, ifNF rfl ?_⟩⟩⟩
  have enl : ((nmap ms).map V.int).length = ms.length := by
    unfold nmap
    rw [List.length_map, List.length_map]
  have hpdd : pd ≠ A.d := hpdh.2.2.2.2.2.2
  -- done
  refine ⟨_, rfl, pd, rfl, ⟨_, SqL.of hpd11⟩, for_list (K := K) (a := pd) (xs := (nmap ms).map V.int) (fun i σ H12 => But A.d H11 H12 ∧ H12 A.d = some (ilst (nmap (moved ds (ms.take i)))) ∧ ∃ y15, σ = [some (.ref A.f), some (.ref A.h), some (.ref A.b), some (.ref A.a), some (.ref A.d), some (.ref A.c), some (.int x), some (.int y), some (.ref D), some (.ref P), some (.int (xn : Int)), some (.ref D2), some (.ref pd), some (.ref pm), some (.ref pt), y15, none])
    ⟨But.refl, by rw [List.take_zero, moved_nil]; exact hd11, none, rfl⟩ (fun i σ H12 _ h => SqL.of (h.1 _ _ hpdd hpd11)) ?_ ?_⟩
  · rintro i v σ H12 hi ⟨b12, h12, y15, rfl⟩
    obtain ⟨k, hk, rfl⟩ := nmap_ge hi
    have hkm := List.mem_of_getElem? hk
    have hkl := (lanes_mem (hmm k hkm)).1
    rw [hwl2] at hkl
    obtain ⟨w, e, hwm, hw, he, hw2, hw3⟩ := hwsi hkl
    have hnk : ¬ k ∈ ms.take i := fun h => by
      obtain ⟨j, hj, e⟩ := List.mem_take_iff_getElem.mp h
      have h1 := (List.getElem?_eq_some_iff.mp hk).1
      have h2 := (List.getElem_inj hmn (h₀ := by omega) (h₁ := h1)).mp (e.trans (List.getElem?_eq_some_iff.mp hk).2.symm)
      omega
    have hg : (moved ds (ms.take i))[k]? = some e := by
      rw [moved_get he, if_neg hnk]
      rfl
    refine ⟨_, rfl, _, rfl, A.d, _, _, _, rfl, rfl, SqL.of h12, atI_nat (nmap_at hg), _, _, rfl, rfl, _, rfl, _, rfl, A.d, _, _, k, rfl, rfl, h12, ixN_nat ?_, b12.own, ?_, _, rfl⟩
    · unfold nmap
      rw [List.length_map, List.length_map, moved_len]
      omega
    · rw [upd_same, List.take_add_one, hk]
      show _ = some (ilst (nmap (moved ds (ms.take i ++ [k]))))
      rw [moved_snoc he hnk]
      unfold ilst nmap
      rw [List.map_set, List.map_set]
      rfl
  rintro σ H12 ⟨b12, h12, y15, rfl⟩
  rw [enl, List.take_length] at h12
  have k12 := Ad.Kp.bd hd11 b12
  have O12 := (O10.keep k11).keep k12
  have M112 := M111.keep fun z o hz e => b12 z o (O.nx z hz).2.1 e
  have M212 := M211.keep fun z o hz e => b12 z o (O.ny z hz).2.1 e
  have hc12 := b12 _ _ O.dc.symm hc11
  have hin : InN A.rs.length (S ++ [(xn : Int)]) := fun z hz => by
    rcases List.mem_append.mp hz with hz | hz
    · exact Y.inn z hz
    · rw [List.mem_singleton.mp hz]
      omega
  have hle : ∀ (k : Nat) (w : Addr × List Int) (e : Nat), A.ws[k]? = some w → (moved ds ms)[k]? = some e → e ≤ pfx w.2 (S ++ [(xn : Int)]) := fun k w e hw he => by
    have hkl := (List.getElem?_eq_some_iff.mp hw).1
    obtain ⟨w', d, _, hw', hd, hw2, _⟩ := hwsi hkl
    have ew : w' = w := Option.some.inj (hw'.symm.trans hw)
    subst ew
    rw [moved_get hd] at he
    rw [← Option.some.inj he]
    have hdle := Y.le k w' d hw' hd
    by_cases hk : k ∈ ms
    · rw [if_pos hk]
      refine held_le hxn0 hdle ?_
      have h1 := (lanes_mem (hmm k hk)).2
      rw [List.getD_eq_getElem?_getD, List.getD_eq_getElem?_getD, hw2, hd] at h1
      exact h1
    · rw [if_neg hk]
      exact Nat.le_trans hdle pfx_mono
  have hSl2 : (S ++ [(xn : Int)]).length = S.length + 1 := List.length_append
  have h1e5 : (S ++ [(xn : Int)]).length ≤ 100000 := by rw [hSl2]; omega
  have hY : ∀ {H13 : Hp}, Same H12 H13 → A.Dyn K H13 (S ++ [(xn : Int)]) (moved ds ms) := fun s => ⟨M112.same s, M212.same s, s _ _ h12, s _ _ hc12, hle, hin⟩
  refine ⟨_, rfl, _, rfl, _, rfl, _, rfl, A.f, A.a, A.b, A.c, A.g, A.ta1, A.sa1, A.na1, A.us1, A.ws, A.rs, S ++ [(xn : Int)], rfl, M112, O.e1, SqL.of O12.la, fun w hw => SqL.of (O12.lw w hw), O.few, SqL.of O12.lb, O12.rw_, SqL.of hc12, hin, h1e5, O.wl, fun H13 s13 => ⟨true, rfl, iteT ?_⟩⟩
  have O13 := O12.keep (Ad.Kp.of s13)
  refine ⟨_, rfl, _, rfl, _, rfl, _, rfl, _, rfl, A.h, A.a, A.b, A.c, A.d, A.g, A.ta2, A.sa2, A.na2, A.us2, A.ws, A.rs, S ++ [(xn : Int)], moved ds ms, rfl, M212.same s13, O.e2, SqL.of O13.la, fun w hw => SqL.of (O13.lw w hw), O.few, SqL.of O13.lb, O13.rw_, SqL.of (s13 _ _ hc12), hin, h1e5, SqL.of (s13 _ _ h12), hle, fun H14 s14 => ?_⟩
  exact q H14 _ _ (((k010.trans k11).trans k12).trans (Ad.Kp.of (s13.trans s14))) (hY (s13.trans s14)) hSl2
end
end K34

namespace Fw
open PySem PySem.Spec PyProof.Rows L2
/-- the law's def, its function object named ahead -/
theorem law_of {P : Program} {w : World} {K : PySem.W.Frag} {mg : Str → Option Value} {base : Heap} {k : Nat} {f : Addr} {N ps : List Str} {sp : Sp} {x q : Str} {pa : Arguments} {bd : List Stmt} {sc : Scope} {fd : FuncData}
    (F : FunD K x q pa bd sc [] [] f fd) (S : FnScope N ps sc) (len : ∀ vs H Q E, sp vs H Q E → vs.length = ps.length)
    (hbody : ∀ (cdv : Value) (A : Around) (outer : List Env) (s : Shared) (H : Hp) (vs : List V) (Q : VK) (E : XK), Room k (A.deeper (envOfC q sc s.heap.objs.size f cdv)) → sp vs H Q E →
      ∃ t, PSs (cxOf CX0 P w K mg base N q sc f cdv A outer s H E).nox bd t ∧ t { nx := fun _ H2 => Q .non H2, rt := Q } (start N vs) H) : FnOk P w K mg base CX0 (k + 1) f fd ps sp := by
  refine F.ok S len fun cdv A outer s H vs Q E hr h => ?_
  obtain ⟨t, h1, h2⟩ := hbody cdv A outer s H vs Q E hr h
  exact ⟨t, h1.nox, h2⟩
end Fw

namespace K34
open PySem PySem.Spec PyProof.Rows L2 Fw Lay
section
variable {P : Program} {w : World} {K : PySem.W.Frag} {mg : Str → Option Value} {base : Heap}
theorem make_same {H1 H2 : Hp} {x dx : Addr} {o o' : HO} (nx : H1 x = none) (nd : H1 dx = none) (b : But x (upd (upd H1 dx o') x o) H2) : Same H1 H2 := fun c u e => by
  have h1 := ne_of_none e nx
  exact b c u h1 (by rw [upd_ne h1, upd_ne (ne_of_none e nd)]; exact e)
theorem make_new {H1 : Hp} {x dx c : Addr} {o o' : HO} (h : upd (upd H1 dx o') x o c = none) : H1 c = none := by
  by_cases h1 : c = x
  · rw [h1, upd_same] at h
    cases h
  · rw [upd_ne h1] at h
    by_cases h2 : c = dx
    · rw [h2, upd_same] at h
      cases h
    · rw [upd_ne h2] at h
      exact h
theorem MaAt.here {K : PySem.W.Frag} {H : Hp} {m g ta sa na x : Addr} {ws : Ws} {ds : List Nat} {bs : List Int} {b : Int} (h : MaAt K H m g ta sa na ws ds bs b) (i : MaO m ta sa na ws x) : ∃ o, H x = some o := by
  obtain ⟨⟨dx, h1⟩, h2, h3, h4, h5, _⟩ := h
  rcases i with rfl | rfl | rfl | rfl | ⟨w, hw, rfl⟩
  · exact ⟨_, h1⟩
  · exact ⟨_, h2⟩
  · exact ⟨_, h4⟩
  · exact ⟨_, h5⟩
  · exact ⟨_, h3 w hw⟩
theorem sxr_eq {rg rs : Rx} (h : rg.map (·.2.2) = rs.map (·.2.2)) : sxr rg = sxr rs := by
  have e := congrArg (List.map fun q : Rw => q.2.2) h
  rw [List.map_map, List.map_map] at e
  exact e
theorem ok_law (T : Txt K mg) {fd : FuncData} (F : FunD K "law" "law" (defArgs s_law) (defBody s_law) (defScope s_law) [] [] (He.ga K "law") fd) : FnOk P w K mg base CX0 6 (He.ga K "law") fd ["_law_script"] (sp_law K) := by
  refine law_of F sc_law (fun vs H Q E h => ?_) (fun cdv A outer s H vs Q E hr h => ?_)
  · obtain ⟨_, _, rfl, _⟩ := h
    rfl
  refine ⟨_, (pss_cons (ps_set (i := 1) sc_law.nd rfl (Or.inl rfl) (pe_cg (ok_l_any T) (hr.mono (j := 4) (by decide)) (by rfl) T.g_l_any (pa_cons (pe_cg (ok_l_seed T) (hr.mono (j := 2) (by decide)) (by rfl) T.g_l_seed (pa_cons (pv 0) (pa_cons pe_int pa_nil))) (pa_cons pe_int pa_nil))))
  (pss_cons (ps_set (i := 2) sc_law.nd rfl (Or.inl rfl) (pe_cg (ok_l_digits T) (hr.mono (j := 1) (by decide)) (by rfl) T.g_l_digits (pa_cons (pe_cg (ok_l_seed T) (hr.mono (j := 2) (by decide)) (by rfl) T.g_l_seed (pa_cons (pv 0) (pa_cons pe_int pa_nil))) (pa_cons pe_int (pa_cons pe_int pa_nil)))))
  (pss_cons (ps_set (i := 3) sc_law.nd rfl (Or.inl rfl) (pe_op op_mod (pe_callTy call_int1 (by rfl) T.z_int (by decide +kernel) (pa_cons (pe_ix ix_list (pv 2) pe_int (fun _ _ => rfl)) pa_nil)) pe_int))
  (C8.pss_cut (ps_if (pt_cmpR op_eq (pe_op op_mod (pe_callTy call_int1 (by rfl) T.z_int (by decide +kernel) (pa_cons (pe_op op_fdiv (pe_ix ix_list (pv 2) pe_int (fun _ _ => rfl)) pe_int) pa_nil)) pe_int) pe_int (nomark _))
    (pss_one (ps_set (i := 3) sc_law.nd rfl (Or.inl rfl) (pe_op op_add (pv 3) pe_int)))
    pss_nil)
  (pss_cons (ps_set (i := 4) sc_law.nd rfl (Or.inl rfl) (pe_cg (ok_l_team T) (hr.mono (j := 3) (by decide)) (by rfl) T.g_l_team (pa_cons (pv 0) (pa_cons (pv 1) (pa_cons pe_int (pa_cons (pv 3) (pa_cons (pe_op op_add pe_int (pe_op op_mod (pe_callTy call_int1 (by rfl) T.z_int (by decide +kernel) (pa_cons (pe_op op_fdiv (pe_ix ix_list (pv 2) pe_int (fun _ _ => rfl)) pe_int) pa_nil)) pe_int)) pa_nil)))))))
  (C8.pss_cut (ps_if (pw_and (pt_cmpR op_gt (pe_callB call_len_seq (by rfl) T.z_len (by decide +kernel) (pa_cons (pv 4) pa_nil)) pe_int (nomark _)) (pw_and1 (pt_cmpR op_eq (pe_op op_mod (pe_callTy call_int1 (by rfl) T.z_int (by decide +kernel) (pa_cons (pe_ix ix_list (pv 2) pe_int (fun _ _ => rfl)) pa_nil)) pe_int) pe_int (nomark _)))).pt
    (pss_one (ps_asg (pe_callTy call_list_of (by rfl) T.z_list (by decide +kernel) (pa_cons (pe_ix ix_list (pv 4) pe_int (fun _ _ => rfl)) pa_nil)) (pg_sub (pv 4) pe_int set_list)))
    pss_nil)
  (pss_cons (ps_set (i := 5) sc_law.nd rfl (Or.inl rfl) (pe_mkg T.mk_Graph (ok_Graph_init T) (hr.mono (j := 5) (by decide)) (by rfl) T.g_Graph (pa_cons (pe_callTy call_list_of (by rfl) T.z_list (by decide +kernel) (pa_cons (pv 1) pa_nil)) pa_nil)))
  (pss_cons (ps_set (i := 6) sc_law.nd rfl (Or.inl rfl) (pe_mkg T.mk_Machine (ok_Machine_init T) (hr.mono (j := 5) (by decide)) (by rfl) T.g_Machine (pa_cons (pv 5) (pa_cons (pe_lc (own := [("_law_run_here", 14)]) (g := (gName 14)) (tt := tYes) rfl sc_law.nd (pi_list (pv 4)) (blkOk_by (own := [("_law_run_here", 14)]) (N := ["_law_script", "_law_rows", "_law_row", "_law_count", "_law_runs", "_law_graph", "_law_free_here", "_law_held_here", "_law_done", "_law_beats", "_law_draw", "_law_more", "_law_k", "_law_named", "_law_run_here", "_law_node"]) (sc := defScope s_law) (by decide +kernel)) (fun _ _ _ _ _ => (pg_name (i := 14) sc_law.nd rfl (Or.inl rfl))) (fun _ _ _ _ _ => pts_nil) (fun _ _ _ _ _ => (pe_callTy (call_list_ofE (K := K) rfl) (by rfl) T.z_list (by decide +kernel) (pa_cons (pv 14) pa_nil)))) pa_nil))))
  (pss_cons (ps_set (i := 7) sc_law.nd rfl (Or.inl rfl) (pe_mkg T.mk_Machine (ok_Machine_init T) (hr.mono (j := 5) (by decide)) (by rfl) T.g_Machine (pa_cons (pv 5) (pa_cons (pe_lc (own := [("_law_run_here", 14)]) (g := (gName 14)) (tt := tYes) rfl sc_law.nd (pi_list (pv 4)) (blkOk_by (own := [("_law_run_here", 14)]) (N := ["_law_script", "_law_rows", "_law_row", "_law_count", "_law_runs", "_law_graph", "_law_free_here", "_law_held_here", "_law_done", "_law_beats", "_law_draw", "_law_more", "_law_k", "_law_named", "_law_run_here", "_law_node"]) (sc := defScope s_law) (by decide +kernel)) (fun _ _ _ _ _ => (pg_name (i := 14) sc_law.nd rfl (Or.inl rfl))) (fun _ _ _ _ _ => pts_nil) (fun _ _ _ _ _ => (pe_callTy (call_list_ofE (K := K) rfl) (by rfl) T.z_list (by decide +kernel) (pa_cons (pv 14) pa_nil)))) pa_nil))))
  (pss_cons (ps_set (i := 8) sc_law.nd rfl (Or.inl rfl) (pe_op op_rep (pe_lst (pa_cons pe_int pa_nil)) (pe_callB call_len_seq (by rfl) T.z_len (by decide +kernel) (pa_cons (pv 4) pa_nil))))
  (pss_cons (ps_set (i := 9) sc_law.nd rfl (Or.inl rfl) (pe_lst pa_nil))
  (pss_cons (ps_if (pw_or (pt_not (pt_val (pe_cg (ok_l_free T) (hr.mono (j := 3) (by decide)) (by rfl) T.g_l_free (pa_cons (pv 6) (pa_cons (pv 4) (pa_cons (pv 1) (pa_cons (pv 9) pa_nil))))))) (pw_or1 (pt_not (pt_val (pe_cg (ok_l_held T) (hr.mono (j := 3) (by decide)) (by rfl) T.g_l_held (pa_cons (pv 7) (pa_cons (pv 4) (pa_cons (pv 1) (pa_cons (pv 9) (pa_cons (pv 8) pa_nil)))))))))).pt
    (pss_one (ps_ret pe_bl))
    pss_nil)
  (pss_cons (ps_set (i := 10) sc_law.nd rfl (Or.inl rfl) (pe_cg (ok_l_digits T) (hr.mono (j := 1) (by decide)) (by rfl) T.g_l_digits (pa_cons (pe_cg (ok_l_seed T) (hr.mono (j := 2) (by decide)) (by rfl) T.g_l_seed (pa_cons (pv 0) (pa_cons pe_int pa_nil))) (pa_cons pe_int (pa_cons pe_int pa_nil)))))
  (pss_cons (ps_set (i := 11) sc_law.nd rfl (Or.inl rfl) (pe_cg (ok_l_digits T) (hr.mono (j := 1) (by decide)) (by rfl) T.g_l_digits (pa_cons (pe_cg (ok_l_seed T) (hr.mono (j := 2) (by decide)) (by rfl) T.g_l_seed (pa_cons (pv 0) (pa_cons pe_int pa_nil))) (pa_cons pe_int (pa_cons pe_int pa_nil)))))
  (pss_cons (ps_for PassesOwn.never rfl (pi_range1 (by rfl) T.z_range (pa_cons (pe_op op_add pe_int (pe_op op_mod (pe_callTy call_int1 (by rfl) T.z_int (by decide +kernel) (pa_cons (pe_ix ix_list (pv 2) pe_int (fun _ _ => rfl)) pa_nil)) pe_int)) pa_nil)) (pg_name (i := 12) sc_law.nd rfl (Or.inl rfl))
    (pss_one (ps_if (pt_not (pt_val (pe_cg (ok_l_both T) (hr.mono (j := 4) (by decide)) (by rfl) T.g_l_both (pa_cons (pv 6) (pa_cons (pv 7) (pa_cons (pv 1) (pa_cons (pv 4) (pa_cons (pv 8) (pa_cons (pv 9) (pa_cons (pe_ix ix_list (pv 10) (pv 12) (fun _ _ => rfl)) (pa_cons (pe_ix ix_list (pv 11) (pv 12) (fun _ _ => rfl)) pa_nil)))))))))))
    (pss_one (ps_ret pe_bl))
    pss_nil)))
  (pss_cons (ps_set (i := 13) sc_law.nd rfl (Or.inl rfl) (pe_callTy call_list_of (by rfl) T.z_list (by decide +kernel) (pa_cons (pv 9) pa_nil)))
  (pss_cons (ps_for PassesOwn.never rfl (pi_list (pv 4)) (pg_name (i := 14) sc_law.nd rfl (Or.inl rfl))
    (pss_one (ps_for PassesOwn.never rfl (pi_list (pe_slice sl_list (pv 14) (po_some (pe_cg (ok_l_prefix T) (hr.mono (j := 1) (by decide)) (by rfl) T.g_l_prefix (pa_cons (pv 14) (pa_cons (pv 13) pa_nil)))) po_none)) (pg_name (i := 15) sc_law.nd rfl (Or.inl rfl))
    (pss_cons (ps_expr (pe_mtg (pv 6) T.cl_Machine T.me_Machine_beat (ok_Machine_beat T).good (hr.mono (j := 3) (by decide)) (pa_cons (pv 15) pa_nil)))
  (pss_one (ps_expr (pe_bm PySem.F.plainAttrs_list PySem.F.slot_list_append PySem.F.type_list_append mt_append (pv 13) (pa_cons (pv 15) pa_nil))))))))
  (pss_one (ps_ret (pe_and (pe_cg (ok_l_free T) (hr.mono (j := 3) (by decide)) (by rfl) T.g_l_free (pa_cons (pv 6) (pa_cons (pv 4) (pa_cons (pv 1) (pa_cons (pv 13) pa_nil))))) (pe_one (pe_cg (ok_l_held T) (hr.mono (j := 3) (by decide)) (by rfl) T.g_l_held (pa_cons (pv 7) (pa_cons (pv 4) (pa_cons (pv 1) (pa_cons (pv 9) (pa_cons (pv 8) pa_nil))))))))))))))))))))))))))), ?_⟩
  obtain ⟨a, ns, rfl, hS, hnl, q⟩ := h
  refine ⟨_, rfl, a, ns, 0, rfl, hS, by omega, fun c1 H1 c10 s1 => ?_⟩
  refine ⟨c1, 2, rfl, c10, by omega, fun H2 b rs s2 nb hb hrw hok hrl => ?_⟩
  have s02 := s1.trans s2
  refine ⟨_, rfl, a, ns, 1, rfl, s02.seq hS, by omega, fun c2 H3 c20 s3 => ?_⟩
  refine ⟨c2, 55440, 3, rfl, c20, by omega, by decide, by decide, fun H4 rp es s4 nr hr len bd => ?_⟩
  have s24 := s3.trans s4
  have s04 := s02.trans s24
  have gd : ∀ j : Nat, j < 3 → ∃ d, 0 ≤ d ∧ (es.map V.int)[j]? = some (.int d) := fun j hj => by
    have hj2 : j < es.length := by omega
    exact ⟨_, (bd _ (List.getElem_mem hj2)).1, get_map (List.getElem?_eq_getElem hj2)⟩
  obtain ⟨e0, e00, g0⟩ := gd 0 (by omega)
  obtain ⟨e1, e10, g1⟩ := gd 1 (by omega)
  obtain ⟨e2, e20, g2⟩ := gd 2 (by omega)
  have hb4 := s24 _ _ hb
  have hrw4 := hrw.same s24
  have hS4 := s04.seq hS
  have hR := SqL.of (K := K) hr
  have hc1 := Int.emod_nonneg e0 (show (5 : Int) ≠ 0 by omega)
  have hc2 := Int.emod_lt_of_pos e0 (show (0 : Int) < 5 by omega)
  obtain ⟨cn0, hcn0⟩ : ∃ n : Nat, e0 % 5 = n := ⟨_, (Int.toNat_of_nonneg hc1).symm⟩
  refine ⟨_, rfl, rp, _, 0, _, rfl, rfl, hR, atI_nat (j := 0) g0, .inl ⟨_, rfl, _, _, rfl, rfl, (by show (0 : Int) < 5; decide), ?_⟩⟩
  dsimp only
  rw [hcn0]
  refine ⟨fun σ H5 => H5 = H4 ∧ ∃ cn : Nat, cn ≤ 9 ∧ σ = [some (.ref a), some (.ref b), some (.ref rp), some (.int (cn : Int)), none, none, none, none, none, none, none, none, none, none, none, none], ?_, ?_⟩
  · refine ⟨_, rfl, rp, _, 1, _, rfl, rfl, hR, atI_nat (j := 1) g1, _, _, rfl, rfl, ⟨by decide, by decide⟩, .inl ⟨_, rfl, _, _, rfl, rfl, (by show (0 : Int) < 8; decide), rfl, _, rfl, if2 (fun e => ?_) (fun e => ?_)⟩⟩
    · exact ⟨_, rfl, _, _, rfl, rfl, rfl, cn0 + 5, by omega, rfl⟩
    · exact ⟨rfl, cn0, by omega, rfl⟩
  rintro σ H5 ⟨rfl, cn, hcn, rfl⟩
  have hm1 := Int.emod_nonneg (e0 / 5) (show (11 : Int) ≠ 0 by omega)
  have hm2 := Int.emod_lt_of_pos (e0 / 5) (show (0 : Int) < 11 by omega)
  obtain ⟨m0, hm0⟩ : ∃ n : Nat, e0 / 5 % 11 = n := ⟨_, (Int.toNat_of_nonneg hm1).symm⟩
  refine ⟨_, rfl, _, rfl, _, rfl, _, rfl, rp, _, 0, _, rfl, rfl, hR, atI_nat (j := 0) g0, _, _, rfl, rfl, ⟨by decide, by decide⟩, .inl ⟨_, rfl, _, _, rfl, rfl, (by show (0 : Int) < 11; decide), _, _, rfl, rfl, ?_⟩⟩
  dsimp only
  rw [hm0]
  refine ⟨a, b, ns, rs, 2, cn, 2 + m0, rfl, hS4, SqL.of hb4, hrw4, hok, by omega, by omega, fun H6 p us s6 np hp hul hus => ?_⟩
  -- the runs
  refine ⟨fun σ H7 => Same H5 H7 ∧ ∃ ws : Ws, H7 p = some (.lst (refL ws)) ∧ ws.length ≤ 9 ∧ (∀ w ∈ ws, H7 w.1 = some (ilst w.2) ∧ RunOk (sxr rs) w.2 ∧ w.2.length ≤ 3000) ∧
    σ = [some (.ref a), some (.ref b), some (.ref rp), some (.int (cn : Int)), some (.ref p), none, none, none, none, none, none, none, none, none, none, none], ?_, ?_⟩
  · have hplen : (refL us).length = us.length := List.length_map ..
    refine ⟨_, rfl, p, _, rfl, .inl (SqL.of hp), _, _, rfl, rfl, _, rfl, if2 (fun e => ⟨_, rfl, rp, _, 1, _, rfl, rfl, s6.seq hR, atI_nat (j := 1) g1, .inl ⟨_, rfl, _, _, rfl, rfl, (by show (0 : Int) < 3; decide), rfl, _, rfl, if2 (fun e2 => ?A) (fun e2 => ?B)⟩⟩) (fun e => ?C)⟩
    case A =>
      rw [hplen] at e
      have hu0 : us[0]? = some (us[0]'(by omega)) := List.getElem?_eq_getElem (by omega)
      have hum : us[0]'(by omega) ∈ us := List.getElem_mem _
      generalize us[0]'(by omega) = u at hu0 hum
      obtain ⟨u1, u2, u3, u4, u5⟩ := hus u hum
      refine ⟨_, rfl, p, _, 0, _, rfl, rfl, SqL.of hp, atI_nat (j := 0) (get_refL hu0), u.1, _, rfl, .inl (SqL.of u3), fun l nl => ?_⟩
      have hlp : l ≠ p := (ne_of_none hp nl).symm
      refine ⟨_, rfl, p, _, _, 1, rfl, rfl, same_new nl _ _ hp, (ixN_nat (show 1 < (refL us).length by rw [hplen]; omega)), same_mut (s6.trans (same_new nl)) np, us.set 1 (l, u.2), ?_, by rw [List.length_set]; omega, fun w hw => ?_, rfl⟩
      · rw [upd_same]
        unfold refL
        rw [List.map_set]
      · rcases List.mem_or_eq_of_mem_set hw with hw | rfl
        · obtain ⟨h1, h2, h3, h4, h5⟩ := hus w hw
          refine ⟨?_, h4, h5⟩
          rw [upd_ne h2]
          exact same_new nl _ _ h3
        · refine ⟨?_, u4, u5⟩
          show upd (upd H6 l _) p _ l = _
          rw [upd_ne hlp, upd_same]
    all_goals exact ⟨s6, us, hp, by omega, fun w hw => (hus w hw).2.2, rfl⟩
  clear hus hul hp
  rintro σ H7 ⟨s7, ws, hp, hwl, hws, rfl⟩
  have s07 := s04.trans s7
  have hlen : (refL ws).length = ws.length := List.length_map ..
  have hb7 := s7 _ _ hb4
  have hrw7 := hrw4.same s7
  -- the graph
  refine ⟨_, rfl, b, _, rfl, .inl (SqL.of hb7), fun l nl => fun g gx ng ngx hgx => ?_⟩
  have sl := same_new (o := .lst (refR rs)) nl
  have ng7 := sl.free ng
  have ngx7 := sl.free ngx
  have sg : Same (upd H7 l (.lst (refR rs))) (upd (upd (upd H7 l (.lst (refR rs))) gx (.own g)) g (.ins (He.ga K "Graph") gx [])) := make_same ng ngx But.refl
  refine ⟨g, gx, l, rs, rfl, upd_same, SqL.of (sg _ _ upd_same), (hrw7.same sl).same sg, hok, fun H8 rg k8 hG hem => ?_⟩
  have s78 := sl.trans (make_same ng ngx k8)
  clear sg sl
  refine ⟨rfl, ?_⟩
  have s08 := s07.trans s78
  have hp8 := s78 _ _ hp
  have hws8 : ∀ w ∈ ws, H8 w.1 = some (ilst w.2) := fun w hw => s78 _ _ (hws w hw).1
  have esx := sxr_eq hem
  have hvs : ∀ {vs : Ws}, vs.map (·.2) = ws.map (·.2) → (∀ v ∈ vs, v.2.length ≤ 100000 ∧ RunOk (sxr rg) v.2) ∧ vs.length = ws.length := fun {vs} e => by
    refine ⟨fun v hv => ?_, ?_⟩
    · have h1 : v.2 ∈ ws.map (·.2) := by
        rw [← e]
        exact List.mem_map_of_mem (f := fun z : Addr × List Int => z.2) hv
      obtain ⟨w, hw, e2⟩ := List.mem_map.mp h1
      rw [← e2, esx]
      exact ⟨Nat.le_trans (hws w hw).2.2 (by decide), (hws w hw).2.1⟩
    · have e2 := congrArg List.length e
      rw [List.length_map, List.length_map] at e2
      exact e2
  -- the first machine
  refine ⟨_, rfl, .ref p, rfl, p, rfl, ⟨_, SqL.of hp8⟩, fun D hD => lc_list (K := K) (a := p) (xs := refL ws) (fun i H6 => Cop H8 H6 D ws i) (Cop.start hD) (fun i H6 _ h => SqL.of (h.1 _ _ hp8)) ?_ ?_⟩
  · rintro i x H6 hi hc
    obtain ⟨w, hw, hwm, rfl⟩ := refL_get hi
    exact ⟨rfl, yes_then ⟨_, rfl, w.1, _, rfl, .inl (SqL.of (hc.1 _ _ (hws8 w hwm))), fun l nl => hc.go hD hw (by omega) nl⟩⟩
  rintro H9 ⟨s9, vs, h91, h92, h93⟩
  rw [List.take_of_length_le (by rw [hlen]; exact Nat.le_refl _)] at h93
  refine fun f fx nf nfx hfx => ?_
  have sf : Same H9 (upd (upd H9 fx (.own f)) f (.ins (He.ga K "Machine") fx [])) := make_same nf nfx But.refl
  refine ⟨f, fx, g, D, rg, vs, rfl, upd_same, (hG.same s9).same sf, SqL.of (sf _ _ h91), fun w hw => SqL.of (sf _ _ (h92 w hw).2.2), by rw [(hvs h93).2]; omega, (hvs h93).1, fun H10 ta1 sa1 na1 us1 k10 fr1 M1 eus1 => ?_⟩
  have fr1 : ∀ z, MaO f ta1 sa1 na1 us1 z → H9 z = none := fun z hz => by
    rcases hz with rfl | hz
    · exact nf
    · exact make_new (fr1 z hz)
  have s910 := make_same nf nfx k10
  clear sf k10
  have e1 := eus1.trans h93
  refine ⟨rfl, ?_⟩
  have s810 := s9.trans s910
  have hp10 := s810 _ _ hp8
  have hws10 : ∀ w ∈ ws, H10 w.1 = some (ilst w.2) := fun w hw => s810 _ _ (hws8 w hw)
  -- the second machine
  refine ⟨_, rfl, .ref p, rfl, p, rfl, ⟨_, SqL.of hp10⟩, fun D2 hD2 => lc_list (K := K) (a := p) (xs := refL ws) (fun i H6 => Cop H10 H6 D2 ws i) (Cop.start hD2) (fun i H6 _ h => SqL.of (h.1 _ _ hp10)) ?_ ?_⟩
  · rintro i x H6 hi hc
    obtain ⟨w, hw, hwm, rfl⟩ := refL_get hi
    exact ⟨rfl, yes_then ⟨_, rfl, w.1, _, rfl, .inl (SqL.of (hc.1 _ _ (hws10 w hwm))), fun l nl => hc.go hD2 hw (by omega) nl⟩⟩
  rintro H11 ⟨s11, vs2, h111, h112, h113⟩
  rw [List.take_of_length_le (by rw [hlen]; exact Nat.le_refl _)] at h113
  refine fun h hx nh nhx hhx => ?_
  have sh : Same H11 (upd (upd H11 hx (.own h)) h (.ins (He.ga K "Machine") hx [])) := make_same nh nhx But.refl
  refine ⟨h, hx, g, D2, rg, vs2, rfl, upd_same, ((hG.same s810).same s11).same sh, SqL.of (sh _ _ h111), fun w hw => SqL.of (sh _ _ (h112 w hw).2.2), by rw [(hvs h113).2]; omega, (hvs h113).1, fun H12 ta2 sa2 na2 us2 k12 fr2 M2 eus2 => ?_⟩
  have fr2 : ∀ z, MaO h ta2 sa2 na2 us2 z → H11 z = none := fun z hz => by
    rcases hz with rfl | hz
    · exact nh
    · exact make_new (fr2 z hz)
  have s1112 := make_same nh nhx k12
  clear sh k12
  have e2' := eus2.trans h113
  refine ⟨rfl, ?_⟩
  have s1012 := s11.trans s1112
  have hp12 := s1012 _ _ hp10
  have hul2 : us2.length = ws.length := (hvs e2').2
  -- done
  refine ⟨(by show 1 ≤ sizeLine; decide), fun o no => ?_⟩
  have so := same_new (o := .lst [.int 0]) no
  refine ⟨_, rfl, p, _, rfl, .inl (SqL.of (so _ _ hp12)), o, _, _, rfl, rfl, upd_same, by omega, by omega, ?_, fun d nd => ?_⟩
  · rw [hlen]
    exact Nat.le_trans (show 1 * (ws.length : Int).toNat ≤ 1000 by omega) (by decide)
  have ed : (List.replicate ((refL ws).length : Int).toNat [V.int 0]).flatten = (nmap (us2.map fun _ => 0)).map V.int := by
    rw [List.flatten_replicate_singleton, hlen, Int.toNat_natCast, ← hul2]
    unfold nmap
    rw [List.map_map, List.map_map]
    exact (List.map_const' ..).symm
  rw [ed]
  have nd12 := so.free nd
  have sd := so.trans (same_new (o := .lst ((nmap (us2.map fun _ => 0)).map V.int)) nd)
  have hd13 : upd (upd H12 o (.lst [.int 0])) d (.lst ((nmap (us2.map fun _ => 0)).map V.int)) d = some (ilst (nmap (us2.map fun _ => 0))) := upd_same
  generalize upd (upd H12 o (.lst [.int 0])) d (.lst ((nmap (us2.map fun _ => 0)).map V.int)) = H13 at sd hd13 ⊢
  -- beats
  refine ⟨Nat.zero_le _, fun c nc => ?_⟩
  have sc := same_new (o := .lst []) nc
  have hc14 : upd H13 c (.lst []) c = some (.lst []) := upd_same
  have hdc : d ≠ c := ne_of_none hd13 nc
  have hd14 := sc _ _ hd13
  have nc12 := sd.free nc
  generalize upd H13 c (.lst []) = H14 at sc hc14 hd14 ⊢
  have s1214 := sd.trans sc
  have s814 := (s810.trans s1012).trans s1214
  have s014 := s08.trans s814
  have M114 : MaAt K H14 f g ta1 sa1 na1 us1 (us1.map fun _ => 0) [] 0 := (M1.same s1012).same s1214
  have M214 : MaAt K H14 h g ta2 sa2 na2 us2 (us2.map fun _ => 0) [] 0 := M2.same s1214
  have hmm1 : ∀ z, z = f ∨ z = sa1 ∨ z = na1 → MaO f ta1 sa1 na1 us1 z := fun z hz => hz.elim .inl fun hz => hz.elim (fun h => .inr (.inr (.inl h))) fun h => .inr (.inr (.inr (.inl h)))
  have hmm2 : ∀ z, z = h ∨ z = sa2 ∨ z = na2 → MaO h ta2 sa2 na2 us2 z := fun z hz => hz.elim .inl fun hz => hz.elim (fun h => .inr (.inr (.inl h))) fun h => .inr (.inr (.inr (.inl h)))
  have free8 : ∀ z oz, H8 z = some oz → (z ≠ f ∧ z ≠ sa1 ∧ z ≠ na1) ∧ (z ≠ h ∧ z ≠ sa2 ∧ z ≠ na2) ∧ z ≠ d ∧ z ≠ c := fun z oz hz => by
    have n1 : ∀ y, MaO f ta1 sa1 na1 us1 y → z ≠ y := fun y hy => ne_of_none (s9 _ _ hz) (fr1 y hy)
    have n2 : ∀ y, MaO h ta2 sa2 na2 us2 y → z ≠ y := fun y hy => ne_of_none (s11 _ _ (s810 _ _ hz)) (fr2 y hy)
    exact ⟨⟨n1 _ (hmm1 _ (.inl rfl)), n1 _ (hmm1 _ (.inr (.inl rfl))), n1 _ (hmm1 _ (.inr (.inr rfl)))⟩, ⟨n2 _ (hmm2 _ (.inl rfl)), n2 _ (hmm2 _ (.inr (.inl rfl))), n2 _ (hmm2 _ (.inr (.inr rfl)))⟩,
      ne_of_none (s1012 _ _ (s810 _ _ hz)) nd12, ne_of_none (s1012 _ _ (s810 _ _ hz)) nc12⟩
  obtain ⟨A, hA⟩ : ∃ A : Ad, A = ⟨f, ta1, sa1, na1, h, ta2, sa2, na2, g, p, b, d, c, us1, us2, ws, rs, rg⟩ := ⟨_, rfl⟩
  have O : A.Ok K H14 := by
    rw [hA]
    refine ⟨fun z hz => ?_, fun z hz => ?_, hdc, fun z hz => ?_, e1, e2', s814 _ _ hp8, fun w hw => s814 _ _ (hws8 w hw), by show ws.length ≤ 60; omega, fun w hw => (hws w hw).2.2, fun w hw x hx => ?_, s814 _ _ (s78 _ _ hb7), (hrw7.same s78).same s814, hok, hG.same s814, hem⟩
    · obtain ⟨oz, ez⟩ := M1.here hz
      have n2 : ∀ y, MaO h ta2 sa2 na2 us2 y → z ≠ y := fun y hy => ne_of_none (s11 _ _ ez) (fr2 y hy)
      exact ⟨⟨n2 _ (hmm2 _ (.inl rfl)), n2 _ (hmm2 _ (.inr (.inl rfl))), n2 _ (hmm2 _ (.inr (.inr rfl)))⟩, ne_of_none (s1012 _ _ ez) nd12, ne_of_none (s1012 _ _ ez) nc12⟩
    · obtain ⟨oz, ez⟩ := M2.here hz
      have n1 : ∀ y, MaO f ta1 sa1 na1 us1 y → z ≠ y := fun y hy => by
        obtain ⟨oy, ey⟩ := M1.here hy
        exact (ne_of_none (s11 _ _ ey) (fr2 z hz)).symm
      exact ⟨⟨n1 _ (hmm1 _ (.inl rfl)), n1 _ (hmm1 _ (.inr (.inl rfl))), n1 _ (hmm1 _ (.inr (.inr rfl)))⟩, ne_of_none ez nd12, ne_of_none ez nc12⟩
    · rcases hz with rfl | rfl | rfl | ⟨w, hw, rfl⟩
      · exact free8 _ _ hp8
      · exact free8 _ _ (s78 _ _ hb7)
      · obtain ⟨_, _, h1, _⟩ := hG
        exact free8 _ _ h1
      · exact free8 _ _ (hws8 w hw)
    · have := (hws w hw).2.1.rng x hx
      rw [sxr_len] at this
      exact this
  have Y : A.Dyn K H14 [] (us2.map fun _ => 0) := by
    rw [hA]
    exact ⟨M114, M214, hd14, hc14, fun k w e _ he => by
      rw [List.getElem?_map] at he
      obtain ⟨_, _, e3⟩ := Option.map_eq_some_iff.mp he
      omega, fun x hx => nomatch hx⟩
  have eA : (A.f = f ∧ A.h = h ∧ A.b = b ∧ A.a = p ∧ A.d = d ∧ A.c = c) ∧ A.ws = ws := by rw [hA]; exact ⟨⟨rfl, rfl, rfl, rfl, rfl, rfl⟩, rfl⟩
  have hwA : A.ws.length ≤ 9 := by rw [eA.2]; exact hwl
  have hS14 := s014.seq hS
  have hr14 := s814 _ _ (s78 _ _ (s7 _ _ hr))
  obtain ⟨⟨rfl, rfl, rfl, rfl, rfl, rfl⟩, _⟩ := eA
  clear hA M114 M214 hd14 hc14 hdc free8 hmm1 hmm2 hG M1 M2 fr1 fr2 hd13 nd12 nc12 nc nd no hp12 hp10 hp8 hp
  -- asked at the start
  refine ⟨_, rfl, _, rfl, _, rfl, _, rfl, A.f, A.a, A.b, A.c, A.g, A.ta1, A.sa1, A.na1, A.us1, A.ws, A.rs, [], rfl, Y.m1, O.e1, SqL.of O.la, fun w hw => SqL.of (O.lw w hw), O.few, SqL.of O.lb, O.rw_, SqL.of Y.lc, Y.inn, Nat.zero_le _, O.wl, fun H15 s15 => ⟨true, rfl, iteF ?_⟩⟩
  have O15 := O.keep (Ad.Kp.of s15)
  refine ⟨_, rfl, _, rfl, _, rfl, _, rfl, _, rfl, A.h, A.a, A.b, A.c, A.d, A.g, A.ta2, A.sa2, A.na2, A.us2, A.ws, A.rs, [], _, rfl, Y.m2.same s15, O.e2, SqL.of O15.la, fun w hw => SqL.of (O15.lw w hw), O.few, SqL.of O15.lb, O15.rw_, SqL.of (s15 _ _ Y.lc), Y.inn, Nat.zero_le _, SqL.of (s15 _ _ Y.ld), Y.le, fun H16 s16 => ⟨true, rfl, iteF ?_⟩⟩
  have s1416 := s15.trans s16
  -- what is drawn
  refine ⟨_, rfl, a, ns, 14, rfl, s1416.seq hS14, by omega, fun c3 H17 c30 s17 => ?_⟩
  refine ⟨c3, 55440, 40, rfl, c30, by omega, by decide, by decide, fun H18 dr es3 s18 ndr hdr len3 bd3 => ?_⟩
  have s1418 := s1416.trans (s17.trans s18)
  refine ⟨_, rfl, a, ns, 15, rfl, s1418.seq hS14, by omega, fun c4 H19 c40 s19 => ?_⟩
  refine ⟨c4, 55440, 40, rfl, c40, by omega, by decide, by decide, fun H20 mo es4 s20 nmo hmo len4 bd4 => ?_⟩
  have s1420 := s1418.trans (s19.trans s20)
  have hdr20 := s20 _ _ (s19 _ _ hdr)
  have ndr14 : H14 dr = none := (s1416.trans s17).free ndr
  have nmo14 : H14 mo = none := (s1418.trans s19).free nmo
  have hFree : ∀ z, H14 z = none → A.Free z := fun z hz => by
    obtain ⟨⟨_, h1⟩, _, _, h2, h3, _⟩ := Y.m1
    obtain ⟨⟨_, h4⟩, _, _, h5, h6, _⟩ := Y.m2
    exact ⟨⟨(ne_of_none h1 hz).symm, (ne_of_none h2 hz).symm, (ne_of_none h3 hz).symm⟩, ⟨(ne_of_none h4 hz).symm, (ne_of_none h5 hz).symm, (ne_of_none h6 hz).symm⟩, (ne_of_none Y.ld hz).symm, (ne_of_none Y.lc hz).symm⟩
  have O20 := O.keep (Ad.Kp.of s1420)
  have Y20 : A.Dyn K H20 [] (us2.map fun _ => 0) := ⟨Y.m1.same s1420, Y.m2.same s1420, s1420 _ _ Y.ld, s1420 _ _ Y.lc, Y.le, Y.inn⟩
  have hr20 := s1420 _ _ hr14
  have hk1 := Int.emod_nonneg e2 (show (40 : Int) ≠ 0 by omega)
  have hk2 := Int.emod_lt_of_pos e2 (show (0 : Int) < 40 by omega)
  refine ⟨_, rfl, rp, _, 2, _, rfl, rfl, SqL.of hr20, atI_nat (j := 2) g2, .inl ⟨_, rfl, _, _, rfl, rfl, (by show (0 : Int) < 40; decide), _, _, rfl, rfl, _, rfl, by omega, by omega, for_range (n := (1 + e2 % 40).toNat) (fun i σ H21 => A.Kp H20 H21 ∧ (∃ S ds, A.Dyn K H21 S ds ∧ S.length = i) ∧ ∃ y12, σ = [some (.ref a), some (.ref A.b), some (.ref rp), some (.int (cn : Int)), some (.ref A.a), some (.ref g), some (.ref A.f), some (.ref A.h), some (.ref A.d), some (.ref A.c), some (.ref dr), some (.ref mo), y12, none, none, none]) ⟨Ad.Kp.of (Same.refl _), ⟨[], _, Y20, rfl⟩, none, rfl⟩ ?_ ?_⟩⟩
  · rintro i σ H21 hi ⟨k21, ⟨S, ds, Y21, hSl⟩, y12, rfl⟩
    have hx : (es3.map V.int)[i]? = some (.int (es3[i]'(by omega))) := get_map (List.getElem?_eq_getElem (by omega))
    have hx0 := (bd3 _ (List.getElem_mem (show i < es3.length by omega))).1
    generalize es3[i]'(by omega) = x at hx hx0
    have hy : (es4.map V.int)[i]? = some (.int (es4[i]'(by omega))) := get_map (List.getElem?_eq_getElem (by omega))
    generalize es4[i]'(by omega) = y at hy
    have hdr21 := k21 _ _ (.inl (hFree _ ndr14)) hdr20
    have hmo21 := k21 _ _ (.inl (hFree _ nmo14)) hmo
    refine ⟨_, rfl, _, rfl, _, rfl, _, rfl, _, rfl, _, rfl, _, rfl, _, rfl, dr, _, _, _, rfl, rfl, SqL.of hdr21, atI0 hx, _, rfl, _, rfl, mo, _, _, _, rfl, rfl, SqL.of hmo21, atI0 hy, A, S, ds, x, y, rfl, O20.keep k21, Y21, by omega, hx0, fun H22 S2 ds2 k22 Y22 hl2 => ?_⟩
    exact ⟨true, rfl, iteF ⟨k21.trans k22, ⟨S2, ds2, Y22, by omega⟩, _, rfl⟩⟩
  rintro σ H21 ⟨k21, ⟨S, ds, Y21, hSl⟩, y12, rfl⟩
  have hS40 : S.length ≤ 40 := by omega
  have O21 := O20.keep k21
  -- the rests
  refine ⟨_, rfl, A.c, _, rfl, .inl (SqL.of Y21.lc), fun nm nnm => ?_⟩
  have snm := same_new (o := .lst (S.map V.int)) nnm
  have hnm22 : upd H21 nm (.lst (S.map V.int)) nm = some (ilst S) := upd_same
  generalize upd H21 nm (.lst (S.map V.int)) = H22 at snm hnm22 ⊢
  have hMo : ∀ {z : Addr}, MaO A.f A.ta1 A.sa1 A.na1 A.us1 z → z ≠ nm := fun hz => by
    obtain ⟨oz, ez⟩ := Y21.m1.here hz
    exact ne_of_none ez nnm
  have hnf : nm ≠ A.f := (hMo (.inl rfl)).symm
  have hns : nm ≠ A.sa1 := (hMo (.inr (.inr (.inl rfl)))).symm
  have hnn : nm ≠ A.na1 := (hMo (.inr (.inr (.inr (.inl rfl))))).symm
  have gA : A.rg.length = A.rs.length := by
    have e := congrArg List.length O.er
    rw [List.length_map, List.length_map] at e
    exact e
  have hal : (refL A.ws).length = A.ws.length := List.length_map ..
  refine ⟨_, rfl, A.a, rfl, ⟨_, SqL.of (snm _ _ O21.la)⟩, for_list (K := K) (a := A.a) (xs := refL A.ws) (fun i σ H23 => ButM A.f A.sa1 A.na1 H21 H23 ∧ (∃ S2, MaAt K H23 A.f A.g A.ta1 A.sa1 A.na1 A.us1 (A.us1.map fun u => pfx u.2 S2) S2 (prS A.rs S2) ∧ H23 nm = some (ilst S2) ∧ InN A.rs.length S2 ∧ S2.length ≤ 40 + 3000 * i) ∧
      ∃ y14 y15, σ = [some (.ref a), some (.ref A.b), some (.ref rp), some (.int (cn : Int)), some (.ref A.a), some (.ref g), some (.ref A.f), some (.ref A.h), some (.ref A.d), some (.ref A.c), some (.ref dr), some (.ref mo), y12, some (.ref nm), y14, y15])
    ⟨fun z oz _ _ _ e => snm _ _ e, ⟨S, Y21.m1.same snm, hnm22, Y21.inn, by omega⟩, none, none, rfl⟩ (fun i σ H23 _ h => SqL.of (h.1 _ _ (O.ot _ (.inl rfl)).1.1 (O.ot _ (.inl rfl)).1.2.1 (O.ot _ (.inl rfl)).1.2.2 O21.la)) ?_ ?_⟩
  · rintro i x σ H23 hi ⟨b23, ⟨S2, M23, hnm23, hin23, hS2⟩, y14, y15, rfl⟩
    obtain ⟨w, hw, hwm, rfl⟩ := refL_get hi
    have hil := (List.getElem?_eq_some_iff.mp hw).1
    have hwo := (O.ot _ (.inr (.inr (.inr ⟨w, hwm, rfl⟩)))).1
    have hw23 := b23 _ _ hwo.1 hwo.2.1 hwo.2.2 (O21.lw w hwm)
    have hwlw := O.wl w hwm
    refine ⟨_, rfl, _, rfl, _, rfl, w.1, nm, w.2, S2, rfl, SqL.of hw23, SqL.of hnm23, _, rfl, w.1, _, rfl, SqL.of hw23, fun sl nsl => ?_⟩
    have ecut : cutV (w.2.map V.int) (some ((pfx w.2 S2 : Nat) : Int)) none = (w.2.drop (pfx w.2 S2)).map V.int := by
      unfold cutV
      rw [HT.sIx_none, HT.sIx_nat, List.length_map, Nat.min_eq_left (pfx_le _ _), List.map_drop, List.take_of_length_le (by rw [List.length_drop, List.length_map]; omega)]
    rw [ecut]
    have s24 := same_new (o := .lst ((w.2.drop (pfx w.2 S2)).map V.int)) nsl
    have hsl24 : upd H23 sl (.lst ((w.2.drop (pfx w.2 S2)).map V.int)) sl = some (ilst (w.2.drop (pfx w.2 S2))) := upd_same
    have nsl23 := nsl
    have hslf : ∀ {z : Addr} {oz : HO}, H23 z = some oz → sl ≠ z := fun e => (ne_of_none e nsl).symm
    obtain ⟨⟨_, i1⟩, _, _, i4, i5, _⟩ := id M23
    generalize upd H23 sl (.lst ((w.2.drop (pfx w.2 S2)).map V.int)) = H24 at s24 hsl24 ⊢
    refine ⟨sl, rfl, ⟨_, SqL.of hsl24⟩, for_list (K := K) (a := sl) (xs := (w.2.drop (pfx w.2 S2)).map V.int) (fun j σ H25 => ButM A.f A.sa1 A.na1 H21 H25 ∧ H25 sl = some (ilst (w.2.drop (pfx w.2 S2))) ∧ (∃ S3, MaAt K H25 A.f A.g A.ta1 A.sa1 A.na1 A.us1 (A.us1.map fun u => pfx u.2 S3) S3 (prS A.rs S3) ∧ H25 nm = some (ilst S3) ∧ InN A.rs.length S3 ∧ S3.length ≤ 40 + 3000 * i + j) ∧
        ∃ y15, σ = [some (.ref a), some (.ref A.b), some (.ref rp), some (.int (cn : Int)), some (.ref A.a), some (.ref g), some (.ref A.f), some (.ref A.h), some (.ref A.d), some (.ref A.c), some (.ref dr), some (.ref mo), y12, some (.ref nm), some (.ref w.1), y15])
      ⟨fun z oz n1 n2 n3 e => s24 _ _ (b23 _ _ n1 n2 n3 e), hsl24, ⟨S2, M23.same s24, s24 _ _ hnm23, hin23, by omega⟩, _, rfl⟩ (fun j σ H25 _ h => SqL.of h.2.1) ?_ ?_⟩
    · rintro j z σ H25 hj ⟨b25, hsl25, ⟨S3, M25, hnm25, hin25, hS3⟩, y15, rfl⟩
      obtain ⟨v, hv, rfl⟩ := map_get hj
      have hjl := (List.getElem?_eq_some_iff.mp hv).1
      rw [List.length_drop] at hjl
      obtain ⟨v0, v1⟩ := O.rn w hwm v (List.mem_of_mem_drop (List.mem_of_getElem? hv))
      obtain ⟨n, rfl⟩ : ∃ n : Nat, v = n := ⟨v.toNat, by omega⟩
      have hqr : A.rg[n]? = some (A.rg[n]'(by omega)) := List.getElem?_eq_getElem (by omega)
      generalize A.rg[n]'(by omega) = qr at hqr
      have hqp : (pxr A.rs).getD n 0 = qr.2.2.2.1 := by
        rw [← pxr_eq O.er]
        exact pxr_at hqr
      have O25 := O21.keep (Ad.Kp.m1 Y21.m1 b25)
      obtain ⟨⟨dx, hi25⟩, _⟩ := id M25
      refine ⟨_, rfl, A.f, dx, _, rfl, hi25, rfl, _, rfl, A.f, A.g, A.ta1, A.sa1, A.na1, A.rg, A.us1, _, S3, _, n, qr, .non, _, rfl, M25, O25.gr, hqr, ?_, ?_, .inl ⟨rfl, rfl⟩, fun H26 pm k26 npm hpm M26 => ?_⟩
      · have e := congrArg List.length O.e1
        rw [List.length_map, List.length_map] at e
        have := O.few
        omega
      · exact Nat.le_trans hS3 (by omega)
      rw [moved_pf (show (0 : Int) ≤ (n : Int) by omega), ← hqp, ← prS_snoc] at M26
      have hnm26 := k26 _ _ hnf hns hnn hnm25
      have hsl26 := k26 _ _ (hslf i1) (hslf i4) (hslf i5) hsl25
      refine ⟨_, rfl, .inl ⟨rfl, _, SqL.of hnm26⟩, _, rfl, nm, _, _, rfl, rfl, hnm26, ?_, fun z oz n1 n2 n3 e => ?_, ?_, ⟨S3 ++ [(n : Int)], M26.keep fun z oz hz e => ?_, ?_, fun z hz => ?_, ?_⟩, _, rfl⟩
      · rw [List.length_map]
        exact Nat.lt_of_le_of_lt (show S3.length ≤ 100000 by omega) (by decide)
      · rw [upd_ne (ne_of_none e nnm)]
        exact k26 _ _ n1 n2 n3 (b25 _ _ n1 n2 n3 e)
      · rw [upd_ne (hslf hnm23)]
        exact hsl26
      · rw [upd_ne (hMo hz)]
        exact e
      · rw [upd_same]
        unfold ilst
        rw [List.map_append]
        rfl
      · rcases List.mem_append.mp hz with hz | hz
        · exact hin25 z hz
        · rw [List.mem_singleton.mp hz]
          omega
      · rw [List.length_append]
        show S3.length + 1 ≤ _
        omega
    · rintro σ H25 ⟨b25, hsl25, ⟨S3, M25, hnm25, hin25, hS3⟩, y15, rfl⟩
      rw [List.length_map, List.length_drop] at hS3
      exact ⟨b25, ⟨S3, M25, hnm25, hin25, by omega⟩, _, _, rfl⟩
  rintro σ H23 ⟨b23, ⟨S2, M23, hnm23, hin23, hS2⟩, y14, y15, rfl⟩
  rw [hal] at hS2
  have O23 := O21.keep (Ad.Kp.m1 Y21.m1 b23)
  have hO1 : ∀ z, z = A.f ∨ z = A.sa1 ∨ z = A.na1 → MaO A.f A.ta1 A.sa1 A.na1 A.us1 z := fun z hz => hz.elim .inl fun hz => hz.elim (fun h => .inr (.inr (.inl h))) fun h => .inr (.inr (.inr (.inl h)))
  have M223 := Y21.m2.keep fun z oz hz e => b23 z oz (O.ny z hz).1.1 (O.ny z hz).1.2.1 (O.ny z hz).1.2.2 e
  have hd23 := b23 _ _ (O.nx _ (hO1 _ (.inl rfl))).2.1.symm (O.nx _ (hO1 _ (.inr (.inl rfl)))).2.1.symm (O.nx _ (hO1 _ (.inr (.inr rfl)))).2.1.symm Y21.ld
  have hc23 := b23 _ _ (O.nx _ (hO1 _ (.inl rfl))).2.2.symm (O.nx _ (hO1 _ (.inr (.inl rfl)))).2.2.symm (O.nx _ (hO1 _ (.inr (.inr rfl)))).2.2.symm Y21.lc
  refine ⟨_, rfl, _, rfl, _, rfl, _, rfl, A.f, A.a, A.b, nm, A.g, A.ta1, A.sa1, A.na1, A.us1, A.ws, A.rs, S2, rfl, M23, O.e1, SqL.of O23.la, fun w hw => SqL.of (O23.lw w hw), O.few, SqL.of O23.lb, O23.rw_, SqL.of hnm23, hin23, by omega, O.wl, fun H24 s24 => ⟨true, rfl, iteT ?_⟩⟩
  have O24 := O23.keep (Ad.Kp.of s24)
  exact ⟨_, rfl, _, rfl, _, rfl, _, rfl, _, rfl, A.h, A.a, A.b, A.c, A.d, A.g, A.ta2, A.sa2, A.na2, A.us2, A.ws, A.rs, S, ds, rfl, M223.same s24, O.e2, SqL.of O24.la, fun w hw => SqL.of (O24.lw w hw), O.few, SqL.of O24.lb, O24.rw_, SqL.of (s24 _ _ hc23), Y21.inn, by omega, SqL.of (s24 _ _ hd23), Y21.le, fun H25 s25 => q H25⟩
end
end K34

open PySem PySem.W PySem.Calls PyProof.Rows
theorem PySem.Challenge.cw_foreworth_k34_whole_beats_longest_beginn_holds : PySem.Challenge.rw_foreworth_k34_whole_beats_longest_beginn.Holds := by
  w_on; o_law
  refine HandSHeadRun.head_any (r := K34.R) (q := view K34.R.prog [56]) (H := K34.hk) (ob := K34.ob) (M := 4000) (loose := K34.loose) (d := HandSHeadRun.topDef K34.R.prog 56) (kwd := []) K34.ob_eq
    (by kernel_rfl) (fun s => by kernel_rfl) K34.run (by kernel_rfl) (by kernel_rfl) (by kernel_rfl) (by rfl) (by first | assumption | decide +kernel) (by decide +kernel) ⟨rfl, rfl, rfl, rfl, rfl, by decide +kernel⟩ ?hw ?hc
  case hw => w_witness2
  case hc =>
    refine Fw.walk_bits (l := PySem.Challenge.rw_foreworth_k34_whole_beats_longest_beginn) (n := 63) (k := 6) (x := "_law_script") rfl (by decide) (by kernel_rfl) ⟨rfl, by decide, by decide⟩ ?F
    intro w mg fa h Y G hmg0
    obtain ⟨K, KX, c⟩ := Y
    have hmg : mg ("law" : PySem.Str) = some (.ref fa) := by
      have e : (HandSHeadRun.topDef K34.R.prog 56).name = ("law" : PySem.Str) := by kernel_rfl
      rw [← e]
      exact hmg0
    have T := K34.txt_of KX G c
    have e := hmg.symm.trans T.g_law
    cases e
    obtain ⟨fd, F⟩ := T.f_law
    have b := L2.FunD.bindsA (ps := ["_law_script"]) F fun _ _ _ _ _ _ us hl => match us, hl with | [_], _ => rfl
    exact ⟨K, fd, K34.sp_law K, KX, fun s v => b s [v] rfl, fun H a ns hl _ hS => ⟨a, ns, rfl, hS, hl, fun _ => rfl⟩, fun base _ _ => K34.ok_law T F⟩
