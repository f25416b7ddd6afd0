import PyProof.Rows.All
import Wide.All
import OpenK.AllK
import Wide.FinOn
import HandS.Nested
import HandS.ExcInit
import KE.KExcSuper
import HandS.TryMany
import HandS.ExcIs
import HandS.ExcField
import HandS.ForMost
import HandS.ForExc
import HandS.CallSlots
import HandS.DictComp
import HandS.Conv
import HandS.Style
import HandS.FStr
import HandS.Flow
import HandS.IsInst
import HandS.Small
import KE.KxField
import HandS.Words
import HandS.WordsExc
import HandS.ForList
import HandS.EndBits
import PySem.Challenge.RW_weirbook_k32_turns
set_option linter.all false
set_option Elab.async false
set_option maxRecDepth 100000
namespace Wb
open PySem PySem.Spec PyProof.Rows L2
open PySem.W (kxs_mw KxsFacts kxs_ValueError ks_superIn ks_superObj)
section
variable {X : Cx} {pins : List (Addr × Obj)} {σ : L2.St} {H : Hp} {s : Shared} {a C u : Addr} {E : Value → Shared → Prop} {A : Around}
/-- ValueError.__init__, bound to the exception, called -/
theorem call_mw {us : List Value} {Q : Value → Shared → Prop} (T : OexC X.K C) (I : Inv X pins σ H s) (e : H a = some (exo a C none)) (hu : s.heap.get? u = some (kxs_mw "ValueError.__init__" a)) (hl : us.length ≤ sizeLine) (h : ∀ s', Inv X pins σ H s' → Q .none s') :
    wpAny (model X.prog X.w) A (call (.ref u) us) Q E s := by
  obtain ⟨nm, q, N, bs, bm, sn, sub, ab, col, dd, k0, k1, k2, k3, k5, hC, hbm⟩ := T.cls
  obtain ⟨t1, ho⟩ := exo_at I.hok e
  have fin : ∀ h' t2, (∀ b o, b ≠ a → s.heap.get? b = some o → h'.get? b = some o) → h'.get? a = some ({ cls := .ref C, dict := none, data := .fields #[.ref t2, .none, .none, .none, .bool false, .none] } : Obj) → Q .none { s with heap := h' } := fun h' t2 k hx => by
    have J := I.write (t' := s.toks) (x := a) (e := a) (o := exo a C none) (by rw [e]; exact True.intro) (.inl rfl) k ⟨_, hx⟩ (exo_ok hx)
    have eu : upd H a (exo a C none) = H := by
      funext b
      by_cases hb : b = a
      · rw [hb, upd_same, e]
      · rw [upd_ne hb]
    rw [eu] at J
    exact h _ J
  have hC' := I.kIn _ _ hC
  obtain ⟨hh, g, d, tk, os⟩ := s
  refine wpAny_call (codeAny_of_tree ?_)
  show wpAny _ A.in1 (callAny (.ref u) ⟨us, []⟩) _ _ _
  simp only [callAny]
  refine wpAny_bind (wpAny_load hu ?_)
  simp only [kxs_mw, show (Value.type "method-wrapper" == Value.type "method" || Value.type "method-wrapper" == Value.type "builtin_function_or_method" || Value.type "method-wrapper" == Value.type "method-wrapper") = true by decide, if_true]
  refine PySem.W.KFB.if_so (by decide) ?_
  refine wpAny_bind (PySem.W.check_bound_init F.excBase_ValueError.toExcCallFacts hC' ho rfl ?_)
  refine wpAny_bind (wpAny_pure (wpAny_pure ?_))
  refine ⟨plainId_quiet F.excBase_ValueError.init.plain _, codeAny_builtin F.excBase_ValueError.initEntry ?_⟩
  exact PySem.W.exc_init_tree (cls := .ref C) (t0 := t1) (dv := none) (c2 := .none) (c3 := .none) (b4 := .bool false) ho hl fun h' k hx _ => fin h' _ k hx
end
end Wb
namespace Wb
open PySem PySem.Spec PyProof.Rows L2
open PySem.W (kxs_mw KxsFacts kxs_ValueError ks_superIn ks_superObj)
/-- what the written part says of an own __init__ that says super().__init__(..) -/
structure IniK (prog : Program) (K : PySem.W.Frag) (mg : Str → Option Value) (C f cc cda : Addr) (fd : FuncData) (ar : Arg) (scope : Scope) : Prop where
  T : OexC K C
  fn : ∃ oc od osl, K.lookup f = some ⟨oc, od, .func fd, osl⟩
  hp : (fd.params.posonlyargs ++ fd.params.args).head? = some ar
  code : ∃ ccl cdd vs ccs file tf, K.lookup cda = some ⟨ccl, cdd, .fields vs, ccs⟩ ∧ vs[2]? = some (.str file tf) ∧ ((prog.main.file : Str) == file) = true
  cell : ∃ cl cld csl, K.lookup cc = some ⟨cl, cld, .cell (some (.ref C)), csl⟩
  sub : PySem.W.mroIn K C (.ref C) = some true
  sup : ks_superIn K C C "__init__" = some (some (.builtin "ValueError.__init__"))
  isB : PySem.W.subIn K (.ref C) (.type "ValueError") = some true
  ns : PySem.W.nsIn K cStatics "thirdparty.any" = some none
  sg : mg "super" = none
  ks : scope.names.lookup ("super" : Str) = some .globalImplicit
  kc : scope.names.lookup ("__class__" : Str) = some .free
  ka : scope.names.lookup ar.arg = some .local
  top : (prog.main.scope.names.lookup ("super" : Str)).isSome = false
section
variable {X : Cx} {pins : List (Addr × Obj)} {σ : L2.St} {H : Hp} {s : Shared} {a C u f cc cda : Addr} {A : Around} {fd : FuncData} {ar : Arg}
/-- super() -/
theorem super_obj {body : List Stmt} {p0 p1 : Pos} {whole : Sem Value} {Q : Value → Shared → Prop} (K : IniK X.prog X.K X.mg C f cc cda fd ar X.env.scope) (hfu : X.env.func = some f) (hco : X.env.code = .ref cda) (hcl : X.env.cells.lookup ("__class__" : Str) = some cc)
    (I : Inv X pins σ H s) (h0 : X.N[0]? = some ar.arg) (hs : σ[0]? = some (some (.ref a))) (e : H a = some (exo a C none))
    (h : ∀ so h', Inv X pins σ H { s with heap := h' } → h'.get? so = some (ks_superObj C a C) → Q (.ref so) { s with heap := h' }) :
    PySem.wpAt (model X.prog X.w) X.A (.func body X.env) (attributeBase (.Call (.Name "super" p0) [] [] p1) "__init__" X.env whole) Q X.xe s := by
  obtain ⟨oc, od, osl, hf⟩ := K.fn
  obtain ⟨ccl, cdd, vs, ccs, file, tf, hcode, hvs, hfile⟩ := K.code
  obtain ⟨cl, cld, csl, hcell⟩ := K.cell
  obtain ⟨nm, q, N, bs, bm, sn, sub, ab, col, dd, k0, k1, k2, k3, k5, hC, hbm⟩ := K.T.cls
  obtain ⟨t1, ho⟩ := exo_at I.hok e
  obtain ⟨m, hns, hlk⟩ := I.loc
  obtain ⟨mb, hb1, hb2⟩ := I.mod.blt
  have hv : m ar.arg = some (.ref a) := by
    obtain ⟨u, ru, hu⟩ := hlk 0 ar.arg _ h0 hs (.inl K.ka)
    obtain rfl : u = Value.ref a := ru
    rcases hu with ⟨_, z⟩ | ⟨z, _⟩
    · exact z
    · have ka : X.env.kindOf ar.arg = some .local := K.ka
      rw [ka] at z
      rcases z with z | z <;> cases z
  have KX := I.kIn
  have hg := I.mod.glob.keeps I.bk
  have hb := hb1.keeps I.bk
  obtain ⟨hh, g, d, t, os⟩ := s
  refine ks_wpAt_super_base (env := X.env) (attr := "__init__") K.ks K.kc (by decide) hfu (KX _ _ hf) rfl K.hp hco (KX _ _ hcode) rfl hvs hfile K.top ?_
  refine PySem.W.ks_loadName_global I.ok.kind K.ks (Calls.loadGlobal_builtin (by rw [I.ok.glob]; exact hg) K.sg (by rw [I.ok.blt]; exact hb) ((hb2 "super" (by decide)).trans (by first | rfl | decide +kernel)) ⟨rfl, ?_⟩)
  refine wpAny_loadName_free I.ok.kind K.kc hcl ⟨_, KX _ _ hcell, rfl⟩ ?_
  refine wpAny_loadName_local I.ok.kind K.ka hns hv ?_
  refine ks_wpAny_isType_cls (KX _ _ hC) rfl ⟨rfl, ?_⟩
  refine ks_wpAny_call_super (KX _ _ hC) rfl ho rfl (fun c z => by cases z) (PySem.W.looks_mroIn KX K.sub) (fun h' e' k => ?_)
  exact h _ _ (I.kept (t' := t) k) e'
end
end Wb
namespace Wb
open PySem PySem.Spec PyProof.Rows L2
open PySem.W (kxs_mw KxsFacts kxs_ValueError ks_superIn ks_superObj)
section
variable {X : Cx} {pins : List (Addr × Obj)} {σ : L2.St} {H : Hp} {s : Shared} {a C u f cc cda : Addr} {A : Around} {fd : FuncData} {ar : Arg}
theorem mcall_eq {env : PySem.Env} {o e1 : Expr} {name : Str} {ap cp : Pos} (hl : (ap.endLine == cp.line) = true) (he : starEach [e1] env = (false, eval e1 env) :: starEach [] env) :
    eval (.Call (.Attribute o name ap) [e1] [] cp) env = (do
      let ov ← attributeBase o name env (eval o env)
      standAt ap.atName
      let (f, first) ← holding [ov] (getMethod ov name (do return (← importBound o env).getD true))
      callWith cp f first (backTo cp (starEach [e1] env)) []) := by
  have e2 : starEach [] env = [] := rfl
  have hf : methodCallForm 1 (backTo cp (starEach [e1] env)) (backToKw cp (keywordEach [] env)) = true := by
    rw [he, e2]
    rfl
  have hp : methodCallPos true o env ap cp = pure cp := by
    unfold methodCallPos
    rw [hl]
    rfl
  rw [arm_eval_Call]
  unfold methodCall
  show (do
      let ov ← attributeBase o name env (eval o env)
      standAt ap.atName
      let (f, first) ← holding [ov] (calleeOf (methodCallForm 1 (backTo cp (starEach [e1] env)) (backToKw cp (keywordEach [] env))) o env ov name)
      let callPos ← methodCallPos (methodCallForm 1 (backTo cp (starEach [e1] env)) (backToKw cp (keywordEach [] env))) o env ap cp
      callWith callPos f first (backTo cp (starEach [e1] env)) []) = _
  rw [hf, hp]
  rfl
/-- super().__init__(e) -/
theorem super_call {body : List Stmt} {p0 p1 ap cp ep : Pos} {e1 : Expr} {ta : TA} {Q : Flow → Shared → Prop} (K : IniK X.prog X.K X.mg C f cc cda fd ar X.env.scope) (hfu : X.env.func = some f) (hco : X.env.code = .ref cda) (hcl : X.env.cells.lookup ("__class__" : Str) = some cc)
    (I : Inv X [] σ H s) (h0 : X.N[0]? = some ar.arg) (hs : σ[0]? = some (some (.ref a))) (e : H a = some (exo a C none)) (ha : PA X [e1] ta) (hi : interactive X.env = false)
    (ht : ta σ H fun vs H1 => H1 = H ∧ vs.length ≤ 1000) (h : ∀ s', Inv X [] σ H s' → Q .next s')
    (hline : (ap.endLine == cp.line) = true) (he : starEach [e1] X.env = (false, eval e1 X.env) :: starEach [] X.env := by rfl) (hpl : (backTo cp (starEach [e1] X.env)).any (·.1) = false := by rfl) :
    PySem.wpAt (model X.prog X.w) X.A (.func body X.env) (exec (.Expr (.Call (.Attribute (.Call (.Name "super" p0) [] [] p1) "__init__" ap) [e1] [] cp) ep) X.env) Q X.xe s := by
  refine ks_wpAt_Expr_any (ks_wpAt_MethodCall (he := mcall_eq hline he) (super_obj K hfu hco hcl I h0 hs e fun so h' I' hso => ?_)) hi rfl
  · obtain ⟨nm, q, N, bs, bm, sn, sub, ab, col, dd, k0, k1, k2, k3, k5, hC, hbm⟩ := K.T.cls
    have hcd : PySem.W.clsIn X.K C = some { name := nm, bases := bs, mro := .ref C :: bm, ns := N, qualname := q, hasDict := true, slotNames := sn, subclasses := sub, abstract := ab, collection := col, hasDel := false } := by unfold PySem.W.clsIn; rw [hC] <;> rfl
    have hsup := K.sup
    unfold ks_superIn at hsup
    rw [hcd] at hsup
    obtain ⟨t1, ho⟩ := exo_at I'.hok e
    have KX := I'.kIn
    have II : PySem.W.InstAt h' a ({ cls := .ref C, dict := none, data := .fields #[.ref t1, .none, .none, .none, .bool false, .none] } : Obj) C none := ⟨ho, rfl, rfl, trivial⟩
    obtain ⟨hh, g, d, t, os⟩ := s
    refine PySem.W.kxs_getMethod kxs_ValueError hso (PySem.W.looks_opaque KX K.ns) (l₀ := .ref C :: bm) ?_ rfl KX hsup (II.type.andThen (PySem.W.looks_subIn KX K.isB)) (PySem.W.ks_ne KX II hcd) (by decide) ?_
    · exact fun A Q E s k q => wpAny_bind ((PySem.W.looks_clsIn KX hcd) A _ E s k (wpAny_pure q))
    · have kk : ∀ b o, h'.get? b = some o → (h'.push (kxs_mw "ValueError.__init__" a)).get? b = some o := fun b o z => Heap.get?_push_of_some _ z
      have I2 : Inv X [] σ H ⟨h'.push (kxs_mw "ValueError.__init__" a), g, d, t + 1, os⟩ := I'.kept (t' := t + 1) kk
      have hget : (h'.push (kxs_mw "ValueError.__init__" a)).get? h'.objs.size = some (kxs_mw "ValueError.__init__" a) := Heap.get?_push_at rfl rfl
      have I3 : Inv X [(h'.objs.size, kxs_mw "ValueError.__init__" a)] σ H ⟨h'.push (kxs_mw "ValueError.__init__" a), g, d, t + 1, os⟩ := I2.pins_of fun p hp => by
        obtain rfl := List.mem_singleton.mp hp
        obtain ⟨m, ⟨oL, _, _, hL, _⟩, _⟩ := I'.loc
        have lt : ∀ b o, h'.get? b = some o → b ≠ h'.objs.size := fun b o z => Nat.ne_of_lt (Heap.lt_size z)
        refine ⟨hget, I'.hok.fresh (Nat.le_refl _), fun z => lt _ _ hL z.symm, fun z => ?_, fun v z => by cases z⟩
        obtain ⟨_, o, ho', _⟩ := I'.ok.funs.mem z
        exact Nat.lt_irrefl _ (Nat.lt_of_lt_of_le (Heap.lt_size ho') I'.sz)
      refine PySem.W.kxs_callWith (i := "ValueError.__init__") (x := a) hpl ?_
      rw [he]
      refine Calls.evalArgs_plain ?_
      have ht' := ha.run cp _ _ σ H (fun vs H1 => H1 = H ∧ vs.length ≤ 1000) I3 ht
      rw [he] at ht'
      refine thn ht' fun us s2 ⟨vs, H2, J, r, e2, hl⟩ => ?_
      subst e2
      refine ⟨(J.pin _ (List.mem_append_right _ (List.mem_singleton.mpr rfl))).1, ?_⟩
      refine call_mw K.T J e (J.pin _ (List.mem_append_right _ (List.mem_singleton.mpr rfl))).1 (show us.length ≤ sizeLine by rw [← Paired.length r, sizeLine_eq]; omega) fun s3 J3 => h s3 ?_
      exact J3.pins_of fun p hp => by cases hp
end
end Wb
namespace Wb
open PySem PySem.Spec PyProof.Rows L2 NdefX
open PySem.W (kxs_mw KxsFacts kxs_ValueError ks_superIn ks_superObj)
theorem lk1 {y : Str} {c cc : Addr} (z : ([("__class__", cc)] : List (Str × Addr)).lookup y = some c) : y = "__class__" ∧ c = cc := by
  by_cases e : y = ("__class__" : Str)
  · subst e
    simp [List.lookup] at z
    exact ⟨rfl, z.symm⟩
  · have e' : (y == ("__class__" : Str)) = false := by simpa using e
    simp [List.lookup, e'] at z
/-- an own __init__ that says super().__init__(..) first: what it promises, by the rest of its body -/
theorem ini_of {CX : CXT} {P : Program} {w : World} {K : PySem.W.Frag} {mg : Str → Option Value} {base : Heap} {k : Nat} {C f cc cda : Addr} {name qual : Str} {params : Arguments} {rest : List Stmt} {scope : Scope} {dV kV doc pm ct : Value} {an : Option Addr} {ar : Arg}
    {N ps : List Str} {sp : Sp} {p0 p1 ap cp ep : Pos} {e1 : Expr}
    (KI : IniK P K mg C f cc cda (PySem.W.fnX name qual params (.Expr (.Call (.Attribute (.Call (.Name "super" p0) [] [] p1) "__init__" ap) [e1] [] cp) ep :: rest) scope [("__class__", cc)] dV kV doc pm an (.ref cda) ct) ar scope)
    (hcd : PySem.W.codeIn K (.ref cda) qual = true) (S : NScope N ps ["__class__"] scope) (h0 : N[0]? = some ar.arg) (hline : (ap.endLine == cp.line) = true)
    (len : ∀ vs H Q E, sp vs H Q E → vs.length = ps.length)
    (hbody : ∀ (A : Around) (outer : List Env) (s : Shared) (H : Hp) (vs : List V) (Q : VK) (E : XK), Room k (A.deeper (envF ⟨name, qual, params, [], scope, [("__class__", cc)], cda⟩ f s.heap.objs.size)) → sp vs H Q E →
      ∃ (a : Addr) (ta : TA) (t : TS), vs.head? = some (.ref a) ∧ H a = some (exo a C none) ∧ PA (ncx CX P w K mg base N ⟨name, qual, params, [], scope, [("__class__", cc)], cda⟩ f A outer s H E) [e1] ta ∧ (ta (startF N vs [none]) H fun vs H1 => H1 = H ∧ vs.length ≤ 1000) ∧
        PSs (ncx CX P w K mg base N ⟨name, qual, params, [], scope, [("__class__", cc)], cda⟩ f A outer s H E) rest t ∧ t { nx := fun _ H' => Q .non H', rt := Q } (startF N vs [none]) H)
    (he : ∀ env : PySem.Env, starEach [e1] env = (false, eval e1 env) :: starEach [] env) :
    FnOk P w K mg base CX (k + 1) f (PySem.W.fnX name qual params (.Expr (.Call (.Attribute (.Call (.Name "super" p0) [] [] p1) "__init__" ap) [e1] [] cp) ep :: rest) scope [("__class__", cc)] dV kV doc pm an (.ref cda) ct) ps sp := by
  refine ⟨len, fun A outer s H args us vs Q E hr e0 hb r hsp => ?_⟩
  have hl := len _ _ _ _ hsp
  have KX : K.In s.heap := e0.mod.kin.keeps fun b o e => (e0.bs b o e).1
  have lim : s.heap.NoLimit := e0.mod.nolimit.keeps fun b o e => (e0.bs b o e).1
  obtain ⟨oc, od, osl, lk⟩ := KI.fn
  obtain ⟨cl, cld, csl, hcell⟩ := KI.cell
  refine codeAny_call_function hr.depth (KX _ _ lk) rfl S.co S.gen rfl (PySem.W.codeRec_of KX hcd) (hb _ _ _ _ ?_)
  refine wpAny_newFunctionEnv S.nocell (fun ⟨n, _⟩ hy => S.par n (List.of_mem_zip hy).1) (fun h₁ hns hsb => ⟨lim.fresh _ hsb, ?_⟩) S.kind
  have kp : ∀ b o, s.heap.get? b = some o → h₁.get? b = some o := fun b o e => hsb.extBut b o (Nat.ne_of_lt (Heap.lt_size e)) (Heap.get?_push_of_some _ e)
  obtain ⟨a, ta, t, hv0, ea, hpa, hta, ht, hq⟩ := hbody A outer s H vs Q E (hr.deeper _) hsp
  have bcell : H cc = none := (e0.bs cc _ (e0.mod.kin _ _ hcell)).2
  have CA : CellsAt [("__class__", cc)] ["__class__"] [none] s.heap H := by
    refine ⟨rfl, fun y c z => ?_, fun x y c z1 z2 => ?_, fun i y z => ?_⟩
    · obtain ⟨_, rfl⟩ := lk1 z
      exact ⟨bcell, _, _, KX _ _ hcell, rfl⟩
    · rw [(lk1 z1).1, (lk1 z2).1]
    · cases i with
      | succ i => simp at z
      | zero =>
        have z' : ("__class__" : Str) = y := by simpa using z
        subst z'
        exact ⟨cc, by simp [List.lookup], fun v q => by simp at q⟩
  have I : Inv (ncx CX P w K mg base N ⟨name, qual, params, [], scope, [("__class__", cc)], cda⟩ f A outer s H E) [] (startF N vs [none]) H { s with heap := h₁, toks := s.toks + (ps.zip us).length } := inv_startN S hr.hd e0 hl r CA hns kp
  show codeAny _ _ (.func (.Expr (.Call (.Attribute (.Call (.Name "super" p0) [] [] p1) "__init__" ap) [e1] [] cp) ep :: rest) (envF ⟨name, qual, params, [], scope, [("__class__", cc)], cda⟩ f s.heap.objs.size)) _ _
  refine ks_codeAny_funcAt ?_
  have hσ : (startF N vs [none])[0]? = some (some (.ref a)) := by
    cases vs with
    | nil => cases hv0
    | cons v vr => cases hv0; rfl
  refine ks_wpAt_execs_cons (super_call (X := ncx CX P w K mg base N ⟨name, qual, params, [], scope, [("__class__", cc)], cda⟩ f A outer s H E) KI rfl rfl (by simp [ncx]) I h0 hσ ea hpa (by unfold interactive; show (scope.kind == .module && _) = false; rw [S.kind]; rfl) hta (fun s' J => ?_) hline (he _) ?_)
  · refine wpAt_of_wpAny (wpAny_mono (ht.run [] s' (startF N vs [none]) H _ J hq) (fun fl s' hs => ?_) fun e s' hs => hs)
    have fin : ∀ {σ' : L2.St} {H' : Hp} {v : V} {u : Value}, Inv (ncx CX P w K mg base N ⟨name, qual, params, [], scope, [("__class__", cc)], cda⟩ f A outer s H E) [] σ' H' s' → L2.RelV v u → Q v H' → CE outer P w H s Q u s' :=
      fun {σ' H' v u} J rv q => ⟨v, H', J.os, J.bare, J.base, J.hok, rv, q⟩
    cases fl with
    | ret u =>
      obtain ⟨v, σ', H', J, rv, q⟩ := hs
      exact fin J rv q
    | next =>
      obtain ⟨σ', H', J, q⟩ := hs
      exact fin (v := V.non) (u := Value.none) J rfl q
    | brk =>
      obtain ⟨_, _, _, q⟩ := hs
      exact False.elim q
    | cont =>
      obtain ⟨_, _, _, q⟩ := hs
      exact False.elim q
  · first | (rw [he]; done) | (rw [he]; rfl)
end Wb
namespace L2
open PySem PySem.Spec PyProof.Rows
/-- with a name behind as: its slot goes -/
def dAs (o : Option Nat) (D : Ends) : Ends := match o with
  | none => D
  | some i => { nx := fun σ' H' => D.nx (σ'.set i none) H', rt := D.rt, bk := fun σ' H' => D.bk (σ'.set i none) H', ct := fun σ' H' => D.ct (σ'.set i none) H' }
def sAs (o : Option Nat) (a : Addr) (σ : St) : St := match o with
  | none => σ
  | some i => σ.set i (some (.ref a))
def wAll (K : PySem.W.Frag) (Wout : WX) (D : Ends) : List (Value × Option Nat × (Addr → Value → Option Addr → TS)) → WX
  | [] => Wout
  | (c, o, ts) :: r => fun cls d σ H => ∃ b, PySem.W.exmOne K cls c = some b ∧ (b = true → ∀ a, H a = none → ts a cls d (dAs o D) (sAs o a σ) H) ∧ (b = false → wAll K Wout D r cls d σ H)
inductive HdsA (X : Cx) : List ExceptHandler → List (Value × Option Nat × (Addr → Value → Option Addr → TS)) → Prop
  | nil : HdsA X [] []
  | no {x : Str} {c : Value} {ts : Addr → Value → Option Addr → TS} {b₀ : Stmt} {suite : List Stmt} {np pos' : Pos} {hds : List ExceptHandler} {l : List (Value × Option Nat × (Addr → Value → Option Addr → TS))} (hc : Names X x c)
      (hsu : ∀ (a : Addr) (oe : Obj) (cls : Value) (d : Option Addr) (pn : List (Addr × Obj)), Zc cls d oe → (∃ vs, oe.data = .fields vs) → PSs (X.suite a ((a, oe) :: pn)) (b₀ :: suite) (ts a cls d)) (r : HdsA X hds l) :
      HdsA X (.ExceptHandler (some (.Name x np)) none (b₀ :: suite) pos' :: hds) ((c, none, ts) :: l)
  | as {x n : Str} {i : Nat} {c : Value} {ts : Addr → Value → Option Addr → TS} {b₀ : Stmt} {suite : List Stmt} {np pos' : Pos} {hds : List ExceptHandler} {l : List (Value × Option Nat × (Addr → Value → Option Addr → TS))} (hi : X.N[i]? = some n) (hln : X.env.kindOf n = some .local) (hc : Names X x c)
      (hsu : ∀ (a : Addr) (oe : Obj) (cls : Value) (d : Option Addr) (pn : List (Addr × Obj)), Zc cls d oe → (∃ vs, oe.data = .fields vs) → PSs (X.suite a ((a, oe) :: pn)) (b₀ :: suite) (ts a cls d)) (r : HdsA X hds l) :
      HdsA X (.ExceptHandler (some (.Name x np)) (some n) (b₀ :: suite) pos' :: hds) ((c, some i, ts) :: l)
section
variable {X : Cx} {body : List Stmt} {h₀ : ExceptHandler} {hds : List ExceptHandler} {l : List (Value × Option Nat × (Addr → Value → Option Addr → TS))} {pos : Pos} {tb : WX → TS} {Wout : WX}
theorem ps_try_all (hs : X.stack = X.env :: X.outer) (hf : X.env.frame = some X.env.locals) (hN : X.N.Nodup) (tk : Takes X Wout)
    (hb : ∀ (W : WX) (pn : List (Addr × Obj)) (xe : Value → Shared → Prop), Takes (X.tr pn xe) W → PassesOwn (model X.prog X.w) X.A X.env xe → PSs (X.tr pn xe) body (tb W))
    (hh : HdsA X (h₀ :: hds) l) : PS X (.Try body (h₀ :: hds) [] [] pos) (fun D σ H => tb (wAll X.K Wout D l) D σ H) := by
  refine ⟨fun pins s σ H D I h => ?_⟩
  have ok := I.ok
  have hfr : X.A.frames = some (X.env :: X.outer) := by rw [ok.frames, hs]
  refine wpAny_Try_except ?_
  refine wpAny_mono ((hb (wAll X.K Wout D l) (X.pn ++ pins) (fun e s₁ => wpAny (model X.prog X.w) X.A (noteFrame e X.env) (fun _ s₂ => wpAny (model X.prog X.w) X.A (setFlight e none) (fun _ s₃ =>
    wpAny (model X.prog X.w) X.A (handleBy e X.env (h₀ :: hds)) (SP X pins D) X.xe s₃) X.xe s₂) X.xe s₁) (fun u s' xx => ?_) PassesOwn.looking).run [] s σ H D (I.toTry _) h) (fun f s1 hsp => ?_) (fun e s1 he => he)
  · -- the catch
    obtain ⟨a, B, sI, pins', σ', H', cls, d, rfl, J', nb, up, sky, na, os, ag, w⟩ := xx
    have J : Inv X pins σ' H' sI := J'.ofTry ok
    have sky' : Sky B (X.env :: X.outer) a (Zc cls d) X.env.locals s'.heap := by rw [← hs]; exact sky
    show wpAny (model X.prog X.w) X.A (noteFrame (.ref a) X.env) _ _ _
    refine Sky.land Zc.steady hfr hf sky' fun h3 fl3 up3 => ?_
    have J3 : Inv X pins σ' H' { s' with heap := h3 } := J.landed nb fl3.1 (up.trans up3) os ag
    obtain ⟨oe3, vs3, he3, hz3, hd3⟩ := fl3.there
    have notFr : ∀ {h : Heap} {o : Obj} {vs : Array Value}, h.FunFrames B (X.env :: X.outer) → h.get? a = some o → o.data = .fields vs → a ∉ frs (X.env :: X.outer) := fun {h o vs} ff e dd hm => by
      obtain ⟨_, o', e', hnf⟩ := ff.mem hm
      rw [e] at e'; cases e'
      exact hnf _ dd
    have nfr := notFr fl3.2.2.1 he3 hd3
    have nL : a ≠ X.env.locals := fun z => nfr (List.mem_filterMap.mpr ⟨X.env, List.mem_cons_self, by rw [hf, z]⟩)
    have nF : a ∉ X.fs := fun hm => by
      obtain ⟨e, he, q⟩ := List.mem_filterMap.mp hm
      exact nfr (List.mem_filterMap.mpr ⟨e, List.mem_cons_of_mem _ he, q⟩)
    have S3 := J3.suite he3 hd3 na nL nF
    have LT : PySem.W.Looks (model X.prog X.w) h3 (typeOf (.ref a)) cls := fun A Q E s k q => wpAny_typeOf_ref (k _ _ he3) (by rw [hz3.1]; exact q)
    have test : ∀ {x : Str} {c : Value} {np : Pos} {Q : Value → Shared → Prop} {E : Value → Shared → Prop}, Names X x c → Q c { s' with heap := h3 } → wpAny (model X.prog X.w) (X.A.mark (some (.ref a))) (eval (.Name x np) X.env) Q E { s' with heap := h3 } := fun {x c np Q E} hc q => by
      obtain ⟨hg, hdbg, hm | ⟨hm, hv, hnn⟩⟩ := hc
      · exact ld_glob (X := X.suite a ((a, oe3) :: (X.pn ++ pins))) S3 hg hm q hdbg
      · exact ld_blt (X := X.suite a ((a, oe3) :: (X.pn ++ pins))) S3 hg hm hv q hnn hdbg
    have go : ∀ {hds' : List ExceptHandler} {l' : List (Value × Option Nat × (Addr → Value → Option Addr → TS))}, HdsA X hds' l' → wAll X.K Wout D l' cls d σ' H' →
        wpAny (model X.prog X.w) X.A (handleBy (.ref a) X.env hds') (SP X pins D) X.xe { s' with heap := h3 } := by
      intro hds' l' hk
      induction hk with
      | nil =>
        intro w
        refine wpAny_handleBy_nil ?_
        obtain ⟨k1, k2, k3, oe, vs, T, oT, ts', he, hz, hd, h1, hr⟩ := id fl3
        unfold PySem.passOn
        refine wpAny_bind (wpAny_field he hd h1 ?_)
        rw [if_neg (show ¬ ((Value.ref T == Value.none) = true) from by simp)]
        have fin : wpAny (model X.prog X.w) X.A (setFlight (.ref a) X.env.frame) (fun _ s4 => wpAny (model X.prog X.w) X.A (throw (.ref a) : Sem Flow) (SP X pins D) X.xe s4) X.xe { s' with heap := h3 } := by
          rw [hf]
          refine HandSPX.setFlight_upZ fl3 fun h4 hh4 up4 => wpAny_throw (tk _ _ ?_)
          exact ⟨a, B, sI, pins, σ', H', cls, d, rfl, J, nb, (up.trans up3).trans up4, .inr (.inr (by rw [hs]; exact hh4)), na, os, ag, w⟩
        first
          | exact wpAny_bind (wpAny_pure (wpAny_bind fin))
          | exact wpAny_bind fin
      | @no x c ts b₀ suite np pos' hds2 l2 hc hsu r ih =>
        intro w
        obtain ⟨b, hb1, hyes, hno⟩ := w
        refine wpAny_handleBy_cons (codeAny_handlers_test ?_) (by intro q; cases q)
        have LM := PySem.W.exm_one (M := model X.prog X.w) (J3.kIn) LT hb1
        refine test hc (LM.here ?_)
        cases b with
        | true =>
          refine codeAny_handlers_suite ?_
          refine HandSPX.lands_againZ fl3 fun h4 fl4 up4 => ?_
          have J4 : Inv X pins σ' H' { s' with heap := h4 } := J.landed nb fl4.1 ((up.trans up3).trans up4) os ag
          obtain ⟨oe4, vs4, he4, hz4, hd4⟩ := fl4.there
          have S4 := J4.suite he4 hd4 na nL nF
          refine wpAny_mono ((hsu a oe4 cls d (X.pn ++ pins) hz4 ⟨_, hd4⟩).run [] _ _ H' _ S4 (hyes rfl a na)) (fun f s6 hsp => ?_) (fun _ _ z => False.elim z)
          cases f with
          | next =>
            obtain ⟨σ6, H6, S6, q6⟩ := hsp
            exact ⟨_, _, S6.unsuite ok, q6⟩
          | brk =>
            obtain ⟨σ6, H6, S6, q6⟩ := hsp
            exact ⟨_, _, S6.unsuite ok, q6⟩
          | cont =>
            obtain ⟨σ6, H6, S6, q6⟩ := hsp
            exact ⟨_, _, S6.unsuite ok, q6⟩
          | ret u =>
            obtain ⟨v6, σ6, H6, S6, r6, q6⟩ := hsp
            exact ⟨_, _, _, S6.unsuite ok, r6, q6⟩
        | false =>
          show wpAny _ X.A (handleBy (.ref a) X.env hds2) _ _ _
          exact ih (hno rfl)
      | @as x n i c ts b₀ suite np pos' hds2 l2 hi hln hc hsu r ih =>
        intro w
        obtain ⟨b, hb1, hyes, hno⟩ := w
        have hloc : Loc X.env.scope n := .inl hln
        refine wpAny_handleBy_cons (codeAny_handlers_test ?_) (by intro q; cases q)
        have LM := PySem.W.exm_one (M := model X.prog X.w) (J3.kIn) LT hb1
        refine test hc (LM.here ?_)
        cases b with
        | true =>
          refine codeAny_handlers_suite_as ?_
          refine HandSPX.lands_againZ fl3 fun h4 fl4 up4 => ?_
          have J4 : Inv X pins σ' H' { s' with heap := h4 } := J.landed nb fl4.1 ((up.trans up3).trans up4) os ag
          obtain ⟨oe4, vs4, he4, hz4, hd4⟩ := fl4.there
          have S4 := J4.suite he4 hd4 na nL nF
          refine store_ok (X := X.suite a ((a, oe4) :: (X.pn ++ pins))) (v := .ref a) S4 hN hi hloc rfl (fun s5 S5 => ?_) (.inr hln)
          refine wpAny_mono ((hsu a oe4 cls d (X.pn ++ pins) hz4 ⟨_, hd4⟩).run [] s5 _ H' _ S5 (hyes rfl a na)) (fun f s6 hsp => ?_) (fun _ _ z => False.elim z)
          have end_ : ∀ {σ6 : St} {H6 : Hp} {Q : Shared → Prop}, Inv (X.suite a ((a, oe4) :: (X.pn ++ pins))) [] σ6 H6 s6 → (∀ s7, Inv X pins (σ6.set i none) H6 s7 → Q s7) →
              wpAny (model X.prog X.w) X.A (do bindName X.env n .none; unbindBehindTheSuite X.env n pos') (fun _ s7 => Q s7) X.xe s6 := fun {σ6 H6 Q} S6 hq => gone_ok (S6.unsuite ok) hN hi hln hq
          cases f with
          | next =>
            obtain ⟨σ6, H6, S6, q6⟩ := hsp
            exact end_ S6 fun s7 J7 => ⟨_, _, J7, q6⟩
          | brk =>
            obtain ⟨σ6, H6, S6, q6⟩ := hsp
            exact end_ S6 fun s7 J7 => ⟨_, _, J7, q6⟩
          | cont =>
            obtain ⟨σ6, H6, S6, q6⟩ := hsp
            exact end_ S6 fun s7 J7 => ⟨_, _, J7, q6⟩
          | ret u =>
            obtain ⟨v6, σ6, H6, S6, r6, q6⟩ := hsp
            exact end_ S6 fun s7 J7 => ⟨_, _, _, J7, r6, q6⟩
        | false =>
          show wpAny _ X.A (handleBy (.ref a) X.env hds2) _ _ _
          exact ih (hno rfl)
    exact go hh w
  · cases f with
    | next =>
      obtain ⟨σ', H', J', q⟩ := hsp
      exact wpAny_execs_nil ⟨σ', H', J'.ofTry ok, q⟩
    | brk =>
      obtain ⟨σ', H', J', q⟩ := hsp
      exact ⟨σ', H', J'.ofTry ok, q⟩
    | cont =>
      obtain ⟨σ', H', J', q⟩ := hsp
      exact ⟨σ', H', J'.ofTry ok, q⟩
    | ret u =>
      obtain ⟨v, σ', H', J', r, q⟩ := hsp
      exact ⟨v, σ', H', J'.ofTry ok, r, q⟩
end
end L2
/-! isinstance of a caught error of an own class that has a dict -/
namespace Wb
open PySem PySem.Spec PySem.Calls PyProof.Rows
open PySem.W
section
variable {prog : Program} {w : World} {A : Around} {E : Value → Shared → Prop} {s : Shared} {K : Frag} {x D : Addr} {ox : Obj} {od : Option Obj}
theorem findObj_dataD {C : Addr} {name : Str} {a g : Value} (hc : (clsIn K C).isSome = true) (ha : findIn K (.ref C) name = some (some a)) (hg : specialIn K a "__get__" = some (some g)) (ht : takesIn K a = some true) : findObj K C od name = some (.bind g a) := by
  obtain ⟨cd, hc⟩ := Option.isSome_iff_exists.mp hc
  unfold findObj
  rw [hc, Option.bind_some, ha, Option.bind_some]
  simp [hg, ht]
theorem kin_classD {Q : Option Value → Shared → Prop} (hga : findIn K (.ref D) "__getattribute__" = some (some (.builtin "BaseException.__getattribute__"))) (hgt : findIn K (.ref D) "__getattr__" = some none) (hsub : subIn K (.ref D) (.type "BaseException") = some true)
    (hdct : hasDictIn K D = true) (ha : findIn K (.ref D) "__class__" = some (some (.builtin "object.__class__")))
    (hn : specialIn K (.builtin "object.__class__") "__get__" = some (some (.builtin "getset_descriptor.__get__"))) (htk : takesIn K (.builtin "object.__class__") = some true) (hm : mroIn K D (.type "object") = some true)
    (X : K.In s.heap) (I : InstAt s.heap x ox D od) (h : Q (some (.ref D)) { s with toks := s.toks + 1 }) : wpAny (model prog w) A (getAttr? (.ref x) "__class__") Q E s := by
  have hf : findObj K D od "__class__" = some (.bind (.builtin "getset_descriptor.__get__") (.builtin "object.__class__")) := findObj_dataD (by obtain ⟨cd, hc, _⟩ := any_some hdct; rw [hc]; rfl) ha hn htk
  obtain ⟨hp, g, d, t, os⟩ := s
  have L0 := I.type (M := model prog w)
  have L1 := looks_findIn (M := model prog w) X hga
  have L2 := looks_findIn (M := model prog w) X hgt
  have L3 := looks_find (M := model prog w) X I hf
  have sub : Looks (model prog w) hp (isInstance (.ref x) (.type "BaseException")) true := L0.andThen (looks_subIn X hsub)
  have hx0 : (false && onTheHeap (Value.builtin "BaseException.__getattribute__")) = false := rfl
  have hx2 : (Value.builtin "BaseException.__getattribute__" == Value.builtin "object.__getattribute__") = false := by decide +kernel
  have hx1 : (onTheHeap (Value.ref D) && Value.builtin "BaseException.__getattribute__" == Value.builtin "object.__getattribute__") = false := by rw [hx2]; rfl
  unfold getAttr? getAttrBy? getAttrBy
  refine wpAny_bind (wpAny_mkText (wpAny_bind (wpAny_attempt (wpAny_holding (wpAny_bind (L0.at (wpAny_bind (L1.at ?_))))))))
  show wpAny _ _ (if (onTheHeap (Value.ref D) && Value.builtin "BaseException.__getattribute__" == Value.builtin "object.__getattribute__") = true then _ else _) _ _ _
  rw [hx1, if_neg Bool.false_ne_true]
  unfold getAttrByItsOwn hookBefore
  refine wpAny_bind ?_
  rw [if_pos (show onTheHeap (Value.ref D) = true from rfl)]
  refine L2.at ?_
  refine wpAny_bind (wpAny_attempt (wpAny_holding ?_))
  unfold callGetattribute
  rw [hx0, if_neg Bool.false_ne_true]
  unfold boundAndCalled
  rw [PySem.F.excAttr_ValueError.ga.bind (.ref x)]
  refine wpAny_bind (wpAny_pure ?_)
  show wpAny _ _ (call (.builtin "BaseException.__getattribute__") [.ref x, .str "__class__" t]) _ _ _
  refine wpAny_call (codeAny_call_builtin PySem.F.excAttr_ValueError.ga.plain PySem.F.entry_bexc_ga ?_)
  refine @check_slot (model prog w) _ _ ⟨hp, g, d, t + 1, os⟩ "BaseException.__getattribute__" "BaseException" "__getattribute__" (.ref x) [.str "__class__" t] [] _ (by decide +kernel) (by decide +kernel) sub (PySem.F.args_bexc_ga (.ref x) (.str "__class__" t)) ?_
  unfold Builtin.«object.__getattribute__»
  refine wpAny_bind (wpAny_of_eq (a := ((Value.ref x : Value), [Value.str "__class__" t])) (by first | rfl | (simp only [slotArgs]; rfl)) ?_)
  refine wpAny_bind (wpAny_pure (wpAny_bind (L0.at (wpAny_bind (L3.at ?_)))))
  show wpAny _ _ (holding [Value.builtin "object.__class__"] (call (.builtin "getset_descriptor.__get__") [.builtin "object.__class__", .ref x, .ref D]) >>= ret) _ _ _
  refine wpAny_bind (wpAny_holding (wpAny_call (class_get (s := ⟨hp, g, d, t + 1, os⟩) (ox := ox) (od := od) X I hm ?_)))
  refine wpAny_pure ?_
  show wpAny _ _ (handedOut (.ref D)) _ _ _
  rw [handedOut_of (v := .ref D) rfl]
  first
    | exact wpAny_pure (wpAny_pure h)
    | exact wpAny_pure h
    | exact wpAny_pure (wpAny_bind (wpAny_pure (wpAny_pure h)))
theorem kitx_excD (hga : findIn K (.ref D) "__getattribute__" = some (some (.builtin "BaseException.__getattribute__"))) (hgt : findIn K (.ref D) "__getattr__" = some none) (hsub : subIn K (.ref D) (.type "BaseException") = some true) (hdct : hasDictIn K D = true) (ha : findIn K (.ref D) "__class__" = some (some (.builtin "object.__class__")))
    (hn : specialIn K (.builtin "object.__class__") "__get__" = some (some (.builtin "getset_descriptor.__get__"))) (htk : takesIn K (.builtin "object.__class__") = some true) (hm : mroIn K D (.type "object") = some true) :
    KitX K (.ref x) (.ref D) (fun h => InstAt h x ox D od) where
  ty := fun _ _ _ I => I.type
  it := fun _ _ X _ => by
    obtain ⟨cdD, hcD, _⟩ := any_some hdct
    unfold clsIn at hcD
    split at hcD
    · rename_i c' d' cd' sl' ho
      intro A' Q' E' s' k q
      unfold isType loadHead
      exact wpAny_bind (wpAny_loadPart (k _ _ (X _ _ ho)) (wpAny_pure q))
    · cases hcD
  ne := fun h tp dd its n sl X htp => by
    obtain ⟨cdD, hcD, _⟩ := any_some hdct
    refine Bool.eq_false_iff.mpr fun q => ?_
    have e : D = tp := Value.ref.inj (beq_iff_eq.mp q)
    subst e
    unfold clsIn at hcD
    split at hcD
    · rename_i c' d' cd' sl' ho
      have z := (X _ _ ho).symm.trans htp
      cases z
    · cases hcD
  ca := fun X I k => kin_classD hga hgt hsub hdct ha hn htk hm X I k
end
end Wb
namespace L2
open PySem PySem.Spec PyProof.Rows
/-- isinstance(e, c): d is the dict of e -/
def rIsD (K : PySem.W.Frag) (D a : Addr) (d : Addr) : List V → Hp → VK → Prop := fun xs H Q => ∃ (c : V) (cv : Value) (b : Bool), xs = [.ref a, c] ∧ (∀ u, RelV c u → u = cv) ∧ PySem.W.kitOne K (.ref D) cv = some b ∧ (∃ fs, H d = some (.xd fs)) ∧ Q (.bl b) H
theorem call_isD {X : Cx} {a D d : Addr} {oe : Obj} {pn : List (Addr × Obj)} (C : ExcC X.K D) (hz : Zc (.ref D) (some d) oe) (hf : ∃ vs, oe.data = .fields vs) : CallR (X.suite a ((a, oe) :: pn)) (.builtin "isinstance") (rIsD X.K D a d) := by
  intro pins s σ H xs us Q I r h
  obtain ⟨c, cv, b, rfl, hcv, e, ⟨fs, hd⟩, q⟩ := h
  cases r with
  | cons rx rr =>
    cases rr with
    | cons rt rr =>
      cases rr
      cases rx
      have ec := hcv _ rt
      subst ec
      obtain ⟨hget, _⟩ := I.pin (a, oe) (List.mem_append.mpr (.inl List.mem_cons_self))
      obtain ⟨vs, hv⟩ := hf
      have hx : ObjOk X.prog X.w H s.heap d (.xd fs) := I.hok d _ hd
      obtain ⟨mA, hns, hr⟩ := hx
      obtain ⟨od, ho, hl⟩ := lookIn_ns hns
      have J : PySem.W.InstAt s.heap a oe D (some od) := ⟨hget, hz.1, by unfold PySem.W.notCls; rw [hv] <;> rfl, by rw [hz.2]; exact ho⟩
      exact PySem.W.kia_one (Wb.kitx_excD C.hg C.hk C.hs C.hd C.ha C.hn C.ht C.hm) I.kIn J e (fun z => nomatch z) fun tk => ⟨.bl b, H, I.kept (t' := tk) fun _ _ z => z, rfl, q⟩
end L2
namespace Wb
open PySem

abbrev Key := L2.Key
inductive W where
  | non | bl (b : Bool) | int (i : Int) | str (s : Str)
  | tup (ws : List W) | lst (ws : List W) | ro (ws : List W) | dct (kvs : List (Key × W)) | ins (c : Str) (fs : List (Str × W)) | ref (n : Nat)
instance : Inhabited W := ⟨.non⟩
inductive Flag where
  | v | o | k
  deriving DecidableEq
structure Cell where
  cls : Str
  fs : List (Str × (Flag × W))
abbrev Store := List Cell
abbrev Env := List (Option (Flag × W))
inductive R (α : Type) where
  | ok (a : α) (S : Store)
  | exn (c : Str) (fs : List (Str × W)) (S : Store)
  | bad
def R.bind {α β : Type} (r : R α) (f : α → Store → R β) : R β := match r with
  | .ok a S => f a S
  | .exn c fs S => .exn c fs S
  | .bad => .bad
@[simp] theorem R.bind_ok {α β : Type} (a : α) (S : Store) (f : α → Store → R β) : (R.ok a S).bind f = f a S := id rfl
@[simp] theorem R.bind_exn {α β : Type} (c : Str) (fs : List (Str × W)) (S : Store) (f : α → Store → R β) : (R.exn c fs S : R α).bind f = .exn c fs S := id rfl
@[simp] theorem R.bind_bad {α β : Type} (f : α → Store → R β) : (R.bad : R α).bind f = .bad := id rfl

theorem R.bind_assoc {α β γ : Type} (r : R α) (f : α → Store → R β) (k : β → Store → R γ) : (r.bind f).bind k = r.bind fun a S => (f a S).bind k := by cases r <;> rfl

/-- what an expression is wanted for: a value to keep, one to be read, a new container -/
inductive Ctx where
  | V | S | B | F
  deriving DecidableEq
inductive Bin where
  | add | sub | mul | fdiv | mod
  deriving DecidableEq
inductive Cmp where
  | eq | ne | lt | le | gt | ge | isIn | notIn | isN | notN
  deriving DecidableEq
/-- builtins called by name -/
inductive BI where
  | len | int | str | abs | min2 | max2 | min1 | max1 | sum | sorted | list | tuple | dict | divmod
  deriving DecidableEq
/-- methods of builtin types that change nothing -/
inductive BM where
  | get1 | get2 | join | split | replace | index
  deriving DecidableEq
inductive Ty where
  | int | bool | str | tuple | list | dict
  deriving DecidableEq

structure Fn where
  nm : Str
  cls : Option Str
  lvl : Nat
  own : List Bool
  fresh : Bool
  dfl : List W
  sem : Store → List W → R (W × List W)
def Fn.plain (f : Fn) : Bool := f.own.all fun b => !b
/-- the last k defaults -/
def Fn.dv (f : Fn) (k : Nat) : List W := f.dfl.drop (f.dfl.length - k)

inductive Tg where
  | one (i : Nat)
  | many (is : List Nat)
inductive Src where
  | iter | range | zip
  deriving DecidableEq

inductive E where
  | var (i : Nat)
  | glob (x : Str) (w : W)
  | cst (w : W)
  | bin (o : Bin) (a b : E)
  | neg (a : E)
  | not (a : E)
  | cmp (o : Cmp) (a b : E)
  | chain (o1 o2 : Cmp) (a b c : E)
  | and (a b : E)
  | or (a b : E)
  | ite (c a b : E)
  | tup (es : List E)
  | lst (es : List E)
  | dct (kvs : List E)
  | lc (tg : Tg) (k : Src) (srcs conds : List E) (elt : E) (own : List (Str × Nat))
  | dc (tg : Tg) (k : Src) (srcs conds : List E) (ke ve : E) (own : List (Str × Nat))
  | fstr (ps : List E)
  | fmt (e : E)
  | fmtw (n : Nat) (e : E)
  | sub (a i : E)
  | slice (a : E) (lo hi : List E)
  | rev (a : E)
  | attr (a : E) (f : Str)
  | call (f : Fn) (es : List E) (k : Nat)
  | meth (f : Fn) (o : E) (es : List E) (k : Nat)
  | mk (c : Str) (f : Fn) (es : List E)
  | mkF (c : Str) (f : Fn) (es : List E)
  | bcall (b : BI) (es : List E)
  | bmeth (b : BM) (o : E) (es : List E)
  | isi (a : E) (t : Ty)
  | tru (a : E)
instance : Inhabited E := ⟨.cst .non⟩

/-! ### values -/
def sizeL : Nat := 16777216
def mulOk (i j : Int) : Bool := (decide (-(2 ^ 64) < i) && decide (i < 2 ^ 64)) || (decide (-(2 ^ 64) < j) && decide (j < 2 ^ 64))
/-- (a new container?, the value) -/
abbrev PV := Option (Bool × W)
def binW : Bin → W → W → PV
  | .add, .int i, .int j => some (false, .int (i + j))
  | .add, .str x, .str y => if x.length + y.length ≤ sizeL then some (false, .str (x ++ y)) else none
  | .add, .lst xs, .lst ys => if xs.length + ys.length ≤ sizeL then some (true, .lst (xs ++ ys)) else none
  | .sub, .int i, .int j => some (false, .int (i - j))
  | .mul, .int i, .int j => if mulOk i j then some (false, .int (i * j)) else none
  | .mul, .lst xs, .int k => if 0 ≤ k ∧ k < 2 ^ 62 ∧ xs.length * k.toNat ≤ sizeL then some (true, .lst (List.replicate k.toNat xs).flatten) else none
  | .fdiv, .int i, .int j => if j ≠ 0 ∧ j.natAbs < 1073741824 then some (false, .int (i.fdiv j)) else none
  | .mod, .int i, .int j => if j ≠ 0 then some (false, .int (i.fmod j)) else none
  | _, _, _ => none

mutual
def toPy : W → Option PyData
  | .non => some .none
  | .bl b => some (.bool b)
  | .int i => some (.int i)
  | .str s => some (.str s)
  | .tup ws => (toPys ws).map .tuple
  | .lst ws => (toPys ws).map .list
  | _ => none
def toPys : List W → Option (List PyData)
  | [] => some []
  | w :: ws => match toPy w, toPys ws with
    | some d, some ds => some (d :: ds)
    | _, _ => none
end
def eqW (a b : W) : Option Bool := match toPy a, toPy b with
  | some d, some e => if SeqAt.shaped d && SeqAt.shaped e then some (PyData.eqv d e) else none
  | _, _ => none
def flatW : W → Bool
  | .non => true | .bl _ => true | .int _ => true | .str _ => true
  | _ => false
/-- == of flat things -/
def eqF : W → W → Bool
  | .non, .non => true
  | .bl a, .bl b => a == b
  | .bl a, .int j => (if a then 1 else 0) == j
  | .int i, .bl b => i == (if b then 1 else 0)
  | .int i, .int j => i == j
  | .str x, .str y => x == y
  | _, _ => false
def keyW : W → Option Key
  | .int i => some (.inl i)
  | .str s => some (.inr s)
  | _ => none
def kW : Key → W
  | .inl i => .int i
  | .inr s => .str s
def valW (kvs : List (Key × W)) (k : Key) : Option W := (kvs.find? fun kv => decide (kv.1 = k)).map (·.2)
def putW (kvs : List (Key × W)) (k : Key) (v : W) : List (Key × W) :=
  if kvs.any fun kv => decide (kv.1 = k) then kvs.map fun kv => if kv.1 = k then (kv.1, v) else kv else kvs ++ [(k, v)]
def ltS (a b : Str) : Bool := decide (a.cps.toList < b.cps.toList)
/-- x in y -/
def inW (x y : W) : Option Bool := match y with
  | .lst ws => if flatW x && ws.all flatW then some (ws.any fun y => eqF y x) else none
  | .tup ws => if flatW x && ws.all flatW then some (ws.any fun y => eqF y x) else none
  | .dct kvs => (keyW x).map fun k => (valW kvs k).isSome
  | .str z => match x with
    | .str c => some (!(Builtin.Str.occurrences z c 0 z.length 1).isEmpty)
    | _ => none
  | _ => none
def isNon : W → Bool
  | .non => true
  | _ => false
def cmpW : Cmp → W → W → Option Bool
  | .eq, a, b => eqW a b
  | .ne, a, b => (eqW a b).map (! ·)
  | .lt, .int i, .int j => some (decide (i < j))
  | .le, .int i, .int j => some (decide (i ≤ j))
  | .gt, .int i, .int j => some (decide (j < i))
  | .ge, .int i, .int j => some (decide (j ≤ i))
  | .lt, .str i, .str j => some (ltS i j)
  | .le, .str i, .str j => some (!ltS j i)
  | .gt, .str i, .str j => some (ltS j i)
  | .ge, .str i, .str j => some (!ltS i j)
  | .isIn, a, b => inW a b
  | .notIn, a, b => (inW a b).map (! ·)
  | .isN, a, .non => some (isNon a)
  | .notN, a, .non => some (!isNon a)
  | _, _, _ => none
def truW : W → Option Bool
  | .non => some false
  | .bl b => some b
  | .int i => some (i != 0)
  | .str s => if s.length ≤ sizeL then some ((s.length : Int) != 0) else none
  | .lst ws => some (!ws.isEmpty)
  | .ro ws => some (!ws.isEmpty)
  | .tup ws => some (!ws.isEmpty)
  | _ => none
/-- an item -/
def subW (a i : W) : Option W := match a, i with
  | .lst ws, .int k => L2.atI ws k
  | .ro ws, .int k => L2.atI ws k
  | .tup ws, .int k => L2.atI ws k
  | .str z, .int k => if z.length ≤ sizeL then (L2.atI z.cps.toList k).map fun c => .str ⟨#[c]⟩ else none
  | .dct kvs, i => (keyW i).bind (valW kvs)
  | _, _ => none
def optI : List W → Option (Option Int)
  | [] => some none
  | [.int i] => some (some i)
  | _ => none
def cutL {α : Type} (xs : List α) (lo hi : Option Int) : List α := (xs.drop (HT.sIx xs.length 0 lo)).take (HT.sIx xs.length xs.length hi - HT.sIx xs.length 0 lo)
def sliceW (a : W) (l h : Option Int) : PV := match a with
  | .lst ws => some (true, .lst (cutL ws l h))
  | .str z => if z.length ≤ sizeL then some (false, .str (L2.cutS z l h)) else none
  | _ => none
def optR (l : List W) (S : Store) : R (Option Int) := match optI l with
  | some o => .ok o S
  | none => .bad
def revW : W → PV
  | .lst ws => some (true, .lst ws.reverse)
  | _ => none
def lenW : W → Option Nat
  | .str s => if s.length ≤ sizeL then some s.length else none
  | .lst ws => some ws.length
  | .ro ws => some ws.length
  | .tup ws => some ws.length
  | .dct kvs => some kvs.length
  | _ => none
def intsW : List W → Option (List Int)
  | [] => some []
  | .int i :: r => (intsW r).map (i :: ·)
  | _ => none
def strsW : List W → Option (List Str)
  | [] => some []
  | .str s :: r => (strsW r).map (s :: ·)
  | _ => none
def maxI : Int → List Int → Int
  | a, [] => a
  | a, b :: r => maxI (if b > a then b else a) r
def minI : Int → List Int → Int
  | a, [] => a
  | a, b :: r => minI (if b < a then b else a) r
def insI (i : Int) : List Int → List Int
  | [] => [i]
  | j :: r => if i ≤ j then i :: j :: r else j :: insI i r
def sortI : List Int → List Int
  | [] => []
  | i :: r => insI i (sortI r)
def insS (i : Str) : List Str → List Str
  | [] => [i]
  | j :: r => if ltS j i then j :: insS i r else i :: j :: r
def sortS : List Str → List Str
  | [] => []
  | i :: r => insS i (sortS r)
def biW : BI → List W → PV
  | .len, [a] => match lenW a with
    | some n => some (false, .int (n : Int))
    | none => none
  | .int, [.int i] => some (false, .int i)
  | .int, [.bl b] => some (false, .int (if b then 1 else 0))
  | .int, [.str s] => match intText? s with
    | some n => if s.length ≤ 640 then some (false, .int n) else none
    | none => none
  | .str, [.int i] => if i.natAbs.log2 < 1920 then some (false, .str (toString i)) else none
  | .abs, [.int i] => some (false, .int (if i < 0 then -i else i))
  | .max2, [.int i, .int j] => some (false, .int (if j > i then j else i))
  | .min2, [.int i, .int j] => some (false, .int (if j < i then j else i))
  | .dict, [.dct kvs] => some (true, .dct kvs)
  | .max1, [.lst ws] => match intsW ws with
    | some (i :: r) => some (false, .int (maxI i r))
    | _ => none
  | .min1, [.lst ws] => match intsW ws with
    | some (i :: r) => some (false, .int (minI i r))
    | _ => none
  | .sum, [.lst ws] => (intsW ws).map fun ns => (false, .int ns.sum)
  | .sorted, [.lst ws] => match intsW ws with
    | some ns => if ns.length < 64 then some (true, .lst ((sortI ns).map .int)) else none
    | none => none
  | .list, [.lst ws] => some (true, .lst ws)
  | .list, [.tup ws] => some (true, .lst ws)
  | .list, [.dct kvs] => some (true, .lst (kvs.map fun kv => kW kv.1))
  | .tuple, [.lst ws] => some (false, .tup ws)
  | .tuple, [.tup ws] => some (false, .tup ws)
  | .divmod, [.int i, .int j] => if 0 < j ∧ j < 1073741824 then some (false, .tup [.int (i / j), .int (i % j)]) else none
  | _, _ => none
def bmW : BM → W → List W → PV
  | .get1, .dct kvs, [k] => (keyW k).map fun k => (false, (valW kvs k).getD .non)
  | .get2, .dct kvs, [k, d] => (keyW k).map fun k => (false, (valW kvs k).getD d)
  | .join, .str s, [.lst ws] => match strsW ws with
    | some ss => if (ss.map (·.length)).sum + ss.length * s.length ≤ sizeL then some (false, .str (Txt.join s ss)) else none
    | none => none
  | .split, .str s, [.str t] => if (t.length == 0) = false ∧ s.length + 2 ≤ sizeL then some (true, .lst ((Txt.split s t).map .str)) else none
  | _, _, _ => none
def rcvW : BM → W → Bool
  | .get1, .dct _ => true
  | .get2, .dct _ => true
  | .join, .str _ => true
  | .split, .str _ => true
  | _, _ => false
def tyW : W → Option Ty
  | .bl _ => some .bool | .int _ => some .int | .str _ => some .str | .tup _ => some .tuple | .lst _ => some .list | .dct _ => some .dict
  | _ => none
def isiW (a : W) (t : Ty) : Option Bool := match a with
  | .non => some false
  | a => (tyW a).map fun s => decide (s = t) || (decide (s = .bool) && decide (t = .int))
/-- a number of n digits at least -/
def padT (n : Nat) (i : Int) : Str := ⟨(List.replicate (n - (Nat.toDigits 10 i.natAbs).length) 48).toArray⟩ ++ Str.ofString (toString i)
def padS (n : Nat) : Str := ⟨#[48, 48 + n, 100]⟩
def padW (n : Nat) (i : Int) : Option Str := if 0 ≤ i ∧ i < 10000 then some (padT n i) else none
def fmtW : W → Option Str
  | .str s => if s.length ≤ sizeL then some s else none
  | .int i => if i.natAbs.log2 < 1920 then some (toString i) else none
  | _ => none
/-- what a loop walks -/
def itemsW : Src → List W → Option (List W)
  | .iter, [.lst ws] => some ws
  | .iter, [.ro ws] => some ws
  | .iter, [.tup ws] => some ws
  | .iter, [.str s] => some (s.cps.toList.map fun c => .str ⟨#[c]⟩)
  | .range, [.int n] => if -4611686018427387904 ≤ n ∧ n < 4611686018427387904 then some ((List.range n.toNat).map fun i : Nat => .int (i : Int)) else none
  | .range, [.int a, .int b] => if -4611686018427387904 ≤ a ∧ a < 4611686018427387904 ∧ -4611686018427387904 ≤ b ∧ b < 4611686018427387904 then some ((List.range (b - a).toNat).map fun i : Nat => .int (a + (i : Int))) else none
  | .zip, [.lst xs, .lst ys] => some ((xs.zip ys).map fun p => .tup [p.1, p.2])
  | _, _ => none
def itemsR (k : Src) (ss : List W) (S : Store) : R (List W) := match itemsW k ss with
  | some items => .ok items S
  | none => .bad
/-- k, v, k, v .. -/
def pairsW : List W → Option (List (Key × W))
  | [] => some []
  | k :: v :: r => match keyW k, pairsW r with
    | some k, some ps => some ((k, v) :: ps)
    | _, _ => none
  | _ => none
def unpackW : W → Option (List W)
  | .tup ws => some ws
  | _ => none

/-! ### the state -/
def Env.at (env : Env) (i : Nat) : Option (Flag × W) := (env[i]?).join
def Env.put (env : Env) (i : Nat) (x : Flag × W) : Env := env.set i (some x)
def bindTg (tg : Tg) (w : W) (env : Env) : Option Env := match tg with
  | .one i => some (env.put i (.v, w))
  | .many is => match unpackW w with
    | some ws => if ws.length = is.length then some ((is.zip ws).foldl (fun e p => e.put p.1 (.v, p.2)) env) else none
    | none => none
def ofPV (c : Ctx) (p : PV) (S : Store) : R W := match p with
  | some (fresh, w) => if c = .F ∧ fresh = false then .bad else .ok w S
  | none => .bad
def ofW (c : Ctx) (p : Option W) (S : Store) : R W := match p with
  | some w => if c = .F then .bad else .ok w S
  | none => .bad
def ofB (c : Ctx) (p : Option Bool) (S : Store) : R W := ofW c (p.map .bl) S
def clsOf (w : W) (S : Store) : Option Str := match w with
  | .ins c _ => some c
  | .ref n => S[n]?.map (·.cls)
  | _ => none
/-- a field: read in a context -/
def attrW (c : Ctx) (w : W) (f : Str) (S : Store) : R W := match w with
  | .ins _ fs => ofW c (fs.lookup f) S
  | .ref n => match S[n]? with
    | some cl => match cl.fs.lookup f with
      | some (.v, w') => ofW c (some w') S
      | some (_, w') => if c = .B then .ok w' S else .bad
      | none => .bad
    | none => .bad
  | _ => .bad
/-- a block's own names forgotten -/
def wipeE (env : Env) : List Nat → Env
  | [] => env
  | v :: vs => (wipeE env vs).set v none
/-- a loop over items, filling a list -/
def lcGo (tg : Tg) (cond : Env → Store → R Bool) (elt : Env → Store → R W) (env : Env) : List W → List W → Store → R (List W)
  | [], acc, S => .ok acc S
  | x :: xs, acc, S => match bindTg tg x env with
    | none => .bad
    | some env' => (cond env' S).bind fun b S => if b then (elt env' S).bind fun w S => if acc.length < sizeL then lcGo tg cond elt env xs (acc ++ [w]) S else .bad else lcGo tg cond elt env xs acc S
def dcGo (tg : Tg) (cond : Env → Store → R Bool) (ke ve : Env → Store → R W) (env : Env) : List W → List (Key × W) → Store → R (List (Key × W))
  | [], acc, S => .ok acc S
  | x :: xs, acc, S => match bindTg tg x env with
    | none => .bad
    | some env' => (cond env' S).bind fun b S => if b then (ke env' S).bind fun kw S => (ve env' S).bind fun w S => match keyW kw with
        | some k => if acc.length < sizeL then dcGo tg cond ke ve env xs (putW acc k w) S else .bad
        | none => .bad
      else dcGo tg cond ke ve env xs acc S
def noExn {α : Type} : R α → R α
  | .exn _ _ _ => .bad
  | r => r

mutual
/-- changes no object -/
def quiet : E → Bool
  | .var _ => true | .glob _ _ => true | .cst _ => true
  | .bin _ a b => quiet a && quiet b
  | .neg a => quiet a
  | .not a => quiet a
  | .cmp _ a b => quiet a && quiet b
  | .chain _ _ a b c => quiet a && quiet b && quiet c
  | .and a b => quiet a && quiet b
  | .or a b => quiet a && quiet b
  | .ite c a b => quiet c && quiet a && quiet b
  | .tup es => quiets es
  | .lst es => quiets es
  | .dct kvs => quiets kvs
  | .fstr ps => quiets ps
  | .fmt e => quiet e
  | .fmtw _ e => quiet e
  | .sub a i => quiet a && quiet i
  | .slice a lo hi => quiet a && quiets lo && quiets hi
  | .rev a => quiet a
  | .attr a _ => quiet a
  | .bcall _ es => quiets es
  | .bmeth _ o es => quiet o && quiets es
  | .isi a _ => quiet a
  | .tru a => quiet a
  | _ => false
def quiets : List E → Bool
  | [] => true
  | e :: es => quiet e && quiets es
end
/-- the context of what is held while b is reckoned -/
def Ctx.held (q : Bool) : Ctx := if q then .B else .S
/-- a place whose container is one's own -/
inductive PR where
  | slot (i : Nat) | fld (n : Nat) (f : Str)
def updF (f : Str) (x : Flag × W) : List (Str × (Flag × W)) → List (Str × (Flag × W))
  | [] => [(f, x)]
  | (g, y) :: r => if g = f then (g, x) :: r else (g, y) :: updF f x r
def Store.setF (S : Store) (n : Nat) (f : Str) (x : Flag × W) : Store := S.modify n fun c => ⟨c.cls, updF f x c.fs⟩
def Store.getF (S : Store) (n : Nat) (f : Str) : Option (Flag × W) := (S[n]?).bind fun c => c.fs.lookup f
def PR.get : PR → Env → Store → Option (Flag × W)
  | .slot i, env, _ => env.at i
  | .fld n f, _, S => S.getF n f
def PR.setE : PR → Flag × W → Env → Env
  | .slot i, x, env => env.put i x
  | .fld _ _, _, env => env
def PR.setS : PR → Flag × W → Store → Store
  | .slot _, _, S => S
  | .fld n f, x, S => S.setF n f x

/-- by a bool -/
def selB {α : Type} (x : W) (t f : R α) : R α := match x with
  | .bl true => t
  | .bl false => f
  | _ => .bad
/-- a value's truth -/
def tstR (x : W) (S : Store) : R Bool := match truW x with
  | some b => .ok b S
  | none => .bad
mutual
def ev : Ctx → E → Env → Store → R W
  | c, .var i, env, S => match env.at i with
    | some (.v, w) => if c = .F then .bad else .ok w S
    | some (_, w) => if c = .B ∨ c = .S then .ok w S else .bad
    | none => .bad
  | c, .glob _ w, _, S => ofW c (some w) S
  | c, .cst w, _, S => ofW c (some w) S
  | c, .bin o a b, env, S => (ev (.held (quiet b)) a env S).bind fun x S => (ev .B b env S).bind fun y S => ofPV c (binW o x y) S
  | c, .neg a, env, S => (ev .B a env S).bind fun x S => match x with
    | .int i => ofW c (some (.int (-i))) S
    | _ => .bad
  | c, .not a, env, S => (ev .B a env S).bind fun x S => ofB c ((truW x).map (! ·)) S
  | c, .cmp o a b, env, S => (ev (.held (quiet b)) a env S).bind fun x S => (ev .B b env S).bind fun y S => ofB c (cmpW o x y) S
  | c, .chain o1 o2 a b d, env, S => (ev .V a env S).bind fun x S => (ev .V b env S).bind fun y S => match cmpW o1 x y with
    | some true => (ev .V d env S).bind fun z S => ofB c (cmpW o2 y z) S
    | some false => ofB c (some false) S
    | none => .bad
  | c, .and a b, env, S => (ev .B a env S).bind fun x S => selB x (ev c b env S) (ofW c (some (.bl false)) S)
  | c, .or a b, env, S => (ev .B a env S).bind fun x S => selB x (ofW c (some (.bl true)) S) (ev c b env S)
  | c, .ite t a b, env, S => (ev .B t env S).bind fun x S => (tstR x S).bind fun k S => if k then ev c a env S else ev c b env S
  | c, .tup es, env, S => (evs .V es env S).bind fun ws S => ofW c (if ws.length ≤ sizeL then some (.tup ws) else none) S
  | c, .lst es, env, S => (evs .V es env S).bind fun ws S => if ws.length ≤ sizeL then .ok (.lst ws) S else .bad
  | c, .dct kvs, env, S => (evs .V kvs env S).bind fun ws S => match pairsW ws with
    | some ps => if ps.length ≤ 15 then .ok (.dct (ps.foldl (fun acc p => putW acc p.1 p.2) [])) S else .bad
    | none => .bad
  | c, .lc tg k srcs conds elt own, env, S => ((evs .V srcs env S).bind (itemsR k)).bind fun items S =>
      noExn ((lcGo tg (fun env' S' => evc conds env' S') (fun env' S' => ev .V elt env' S') (wipeE env (own.map (·.2))) items [] S).bind fun ws S' => .ok (.lst ws) S')
  | c, .dc tg k srcs conds ke ve own, env, S => ((evs .V srcs env S).bind (itemsR k)).bind fun items S =>
      noExn ((dcGo tg (fun env' S' => evc conds env' S') (fun env' S' => ev .V ke env' S') (fun env' S' => ev .V ve env' S') (wipeE env (own.map (·.2))) items [] S).bind fun kvs S' => .ok (.dct kvs) S')
  | c, .fstr ps, env, S => (evj ps Str.empty env S).bind fun z S => ofW c (some (.str z)) S
  | c, .fmt e, env, S => (ev .B e env S).bind fun x S => ofW c ((fmtW x).map .str) S
  | c, .fmtw n e, env, S => (ev .B e env S).bind fun x S => match x with
    | .int i => ofW c ((padW n i).map .str) S
    | _ => .bad
  | c, .sub a i, env, S => (ev (.held (quiet i)) a env S).bind fun x S => (ev .V i env S).bind fun y S => ofW c (subW x y) S
  | c, .slice a lo hi, env, S => (ev (.held (quiets lo && quiets hi)) a env S).bind fun x S => ((evs .V lo env S).bind optR).bind fun l S => ((evs .V hi env S).bind optR).bind fun h S => ofPV c (sliceW x l h) S
  | c, .rev a, env, S => (ev .B a env S).bind fun x S => ofPV c (revW x) S
  | c, .attr a f, env, S => (ev .B a env S).bind fun x S => attrW c x f S
  | c, .call f es k, env, S => (evs .V es env S).bind fun ws S => if c = .F ∧ f.fresh = false then .bad else if f.plain then (f.sem S (ws ++ f.dv k)).bind fun r S => .ok r.1 S else .bad
  | c, .meth f o es k, env, S => (ev .V o env S).bind fun x S => if clsOf x S = f.cls ∧ f.cls ≠ none then (evs .V es env S).bind fun ws S => if c = .F ∧ f.fresh = false then .bad else if f.plain then (f.sem S (x :: (ws ++ f.dv k))).bind fun r S => .ok r.1 S else .bad else .bad
  | c, .mk cl f es, env, S => (evs .V es env S).bind fun ws S => if c = .F then .bad else (f.sem (S ++ [⟨cl, []⟩]) (.ref S.length :: ws)).bind fun r S' => match r.1 with
    | .non => .ok (.ref S.length) S'
    | _ => .bad
  | c, .mkF cl f es, env, S => (evs .V es env S).bind fun ws S => (f.sem S (.ins cl [] :: ws)).bind fun r S' => match r with
    | (.non, [w]) => .ok w S'
    | _ => .bad
  | c, .bcall b es, env, S => match es with
    | [e] => (ev .B e env S).bind fun w S => ofPV c (biW b [w]) S
    | es => (evs .V es env S).bind fun ws S => ofPV c (biW b ws) S
  | c, .bmeth b o es, env, S => (ev (.held (quiets es)) o env S).bind fun x S => if rcvW b x then (evs .V es env S).bind fun ws S => ofPV c (bmW b x ws) S else .bad
  | c, .isi a t, env, S => (ev .B a env S).bind fun x S => ofB c (isiW x t) S
  | c, .tru a, env, S => (ev .B a env S).bind fun x S => ofB c (truW x) S
def evs : Ctx → List E → Env → Store → R (List W)
  | _, [], _, S => .ok [] S
  | c, e :: es, env, S => (ev c e env S).bind fun w S => (evs c es env S).bind fun ws S => .ok (w :: ws) S
/-- the texts, one behind the other, from acc on -/
def evj : List E → Str → Env → Store → R Str
  | [], acc, _, S => .ok acc S
  | e :: es, acc, env, S => (ev .V e env S).bind fun w S => match w with
    | .str s => if (acc ++ s).length ≤ sizeL then evj es (acc ++ s) env S else .bad
    | _ => .bad
/-- the tests of a comprehension -/
def evc : List E → Env → Store → R Bool
  | [], _, S => .ok true S
  | [e], env, S => (ev .B e env S).bind tstR
  | _, _, _ => .bad
end

/-! ### exceptions -/
/-- what a field of an exception holds: an argument, a constant -/
inductive XF where
  | arg (i : Nat) | cst (s : Str)
  deriving DecidableEq
/-- an exception class: its name, how many arguments, its fields as they are stored -/
structure Xc where
  nm : Str
  n : Nat
  flds : List (Str × XF)
def Xc.vals (x : Xc) (ws : List W) : List (Str × W) := x.flds.reverse.map fun p => (p.1, match p.2 with
  | .arg i => ws.getD i .non
  | .cst s => .str s)
/-- every class of errors lies right below the package's own one -/
def isSub (c x : Str) : Bool := decide (c = x) || decide (x = "WeirError") || decide (x = "ValueError")
/-- parts of what an except suite hands back -/
inductive X0 where
  | cst (w : W) | fld (f : Str) | var (i : Nat)
inductive XV where
  | one (x : X0) | tup (xs : List X0)
inductive XS where
  | pass | brk | cont | retN
  | ret (v : XV) | asg (i : Nat) (v : XV)
  | ifx (cs : List (Bool × Str)) (s : XS)
structure Hnd where
  cls : Str
  as : Option Nat
  suite : List XS
def X0.val (fs : List (Str × W)) (env : Env) : X0 → Option W
  | .cst w => some w
  | .fld f => fs.lookup f
  | .var i => match env.at i with
    | some (.v, w) => some w
    | _ => none
def valsX (fs : List (Str × W)) (env : Env) : List X0 → Option (List W)
  | [] => some []
  | x :: xs => match x.val fs env, valsX fs env xs with
    | some w, some ws => some (w :: ws)
    | _, _ => none
def XV.val (fs : List (Str × W)) (env : Env) : XV → Option W
  | .one x => x.val fs env
  | .tup xs => (valsX fs env xs).map .tup

/-! ### statements -/
inductive Pl where
  | slot (i : Nat) | fld (o : E) (f : Str)
inductive S where
  | pass | brk | cont
  | expr (e : E)
  | asg (i : Nat) (e : E)
  | asgO (i : Nat) (e : E)
  | asgT (is : List Nat) (e : E)
  | aug (i : Nat) (o : Bin) (e : E)
  | seta (o : E) (f : Str) (e : E)
  | setaO (o : E) (f : Str) (e : E)
  | self (i : Nat) (f : Str) (e : E)
  | augA (o : E) (f : Str) (op : Bin) (e : E)
  | seti (p : Pl) (k e : E)
  | augi (p : Pl) (k : E) (op : Bin) (e : E)
  | app (p : Pl) (e : E)
  | ext (p : Pl) (e : E)
  | rem (p : Pl) (e : E)
  | ife (c : E) (a b : List S)
  | for_ (tg : Tg) (k : Src) (srcs : List E) (body : List S)
  | whl (c : E) (body : List S)
  | ret (e : E)
  | retF (e : E)
  | retO (i : Nat)
  | retN
  | raise (x : Xc) (es : List E)
  | try_ (cs : List Str) (body : List S) (hs : List Hnd)
  | frz (i : Nat)
  | callO (t : Option Nat) (f : Fn) (args : List (Nat ⊕ E))
  | never
inductive Out where
  | nx (env : Env) (S : Store)
  | ret (w : W) (env : Env) (S : Store)
  | brk (env : Env) (S : Store)
  | ct (env : Env) (S : Store)
  | exn (c : Str) (fs : List (Str × W)) (env : Env) (S : Store)
  | bad
def Out.then (o : Out) (f : Env → Store → Out) : Out := match o with
  | .nx env S => f env S
  | o => o
def R.out {α : Type} (r : R α) (env : Env) (f : α → Store → Out) : Out := match r with
  | .ok a S => f a S
  | .exn c fs S => .exn c fs env S
  | .bad => .bad
@[simp] theorem Out.then_nx (env : Env) (S : Store) (f : Env → Store → Out) : (Out.nx env S).then f = f env S := id rfl
@[simp] theorem Out.then_ret (w : W) (env : Env) (S : Store) (f : Env → Store → Out) : (Out.ret w env S).then f = .ret w env S := id rfl
@[simp] theorem Out.then_brk (env : Env) (S : Store) (f : Env → Store → Out) : (Out.brk env S).then f = .brk env S := id rfl
@[simp] theorem Out.then_ct (env : Env) (S : Store) (f : Env → Store → Out) : (Out.ct env S).then f = .ct env S := id rfl
@[simp] theorem Out.then_exn (c : Str) (fs : List (Str × W)) (env : Env) (S : Store) (f : Env → Store → Out) : (Out.exn c fs env S).then f = .exn c fs env S := id rfl
@[simp] theorem Out.then_bad (f : Env → Store → Out) : Out.bad.then f = .bad := id rfl
@[simp] theorem R.out_ok {α : Type} (a : α) (S : Store) (env : Env) (f : α → Store → Out) : (R.ok a S).out env f = f a S := id rfl
@[simp] theorem R.out_exn {α : Type} (c : Str) (fs : List (Str × W)) (S : Store) (env : Env) (f : α → Store → Out) : (R.exn c fs S : R α).out env f = .exn c fs env S := id rfl
@[simp] theorem R.out_bad {α : Type} (env : Env) (f : α → Store → Out) : (R.bad : R α).out env f = .bad := id rfl
def plc : Pl → Env → Store → R PR
  | .slot i, _, S => .ok (.slot i) S
  | .fld o f, env, S => (ev .V o env S).bind fun x S => match x with
    | .ref n => .ok (.fld n f) S
    | _ => .bad
/-- x[k] = v, in the container itself -/
def setItW (w k v : W) : Option W := match w with
  | .lst ws => match k with
    | .int i => (L2.ixN ws.length i).map fun j => .lst (ws.set j v)
    | _ => none
  | .dct kvs => match keyW k with
    | some k => if kvs.length < sizeL then some (.dct (putW kvs k v)) else none
    | none => none
  | _ => none
def appW (w v : W) : Option W := match w with
  | .lst ws => if ws.length < sizeL then some (.lst (ws ++ [v])) else none
  | _ => none
def extW (w v : W) : Option W := match w, v with
  | .lst ws, .lst vs => if ws.length + vs.length ≤ sizeL then some (.lst (ws ++ vs)) else none
  | _, _ => none
/-- a own container at a place is changed -/
def chg (p : PR) (g : W → Option W) (env : Env) (S : Store) : Out := match p.get env S with
  | some (.o, w) => match g w with
    | some w' => .nx (p.setE (.o, w') env) (p.setS (.o, w') S)
    | none => .bad
  | _ => .bad
def ownL (p : PR) (env : Env) (S : Store) : Bool := match p.get env S with
  | some (.o, .lst _) => true
  | _ => false
def ownA (p : PR) (env : Env) (S : Store) : Bool := match p.get env S with
  | some (.o, _) => true
  | _ => false
def forGo (tg : Tg) (body : Env → Store → Out) : List W → Env → Store → Out
  | [], env, S => .nx env S
  | x :: xs, env, S => match bindTg tg x env with
    | none => .bad
    | some env' => match body env' S with
      | .nx env S => forGo tg body xs env S
      | .ct env S => forGo tg body xs env S
      | .brk env S => .nx env S
      | o => o
def whlGo (c : Env → Store → R Bool) (body : Env → Store → Out) : Nat → Env → Store → Out
  | 0, _, _ => .bad
  | n + 1, env, S => (c env S).out env fun b S => if b then match body env S with
      | .nx env S => whlGo c body n env S
      | .ct env S => whlGo c body n env S
      | .brk env S => .nx env S
      | o => o
    else .nx env S
def fuel : Nat := 1000000000000
def evt (e : E) (env : Env) (S : Store) : R Bool := (ev .B e env S).bind tstR
/-- the arguments of a call that takes own containers -/
def ioArgs : List (Nat ⊕ E) → List Bool → Env → Store → R (List W)
  | [], [], _, S => .ok [] S
  | .inl i :: as, true :: bs, env, S => match env.at i with
    | some (.o, w) => (ioArgs as bs env S).bind fun ws S => .ok (w :: ws) S
    | _ => .bad
  | .inr e :: as, false :: bs, env, S => (ev .V e env S).bind fun w S => (ioArgs as bs env S).bind fun ws S => .ok (w :: ws) S
  | _, _, _, _ => .bad
def ioBack : List (Nat ⊕ E) → List W → Env → Env
  | .inl i :: as, w :: ws, env => ioBack as ws (env.put i (.o, w))
  | .inr _ :: as, ws, env => ioBack as ws env
  | _, _, env => env
def ioGone : List (Nat ⊕ E) → Env → Env
  | .inl i :: as, env => ioGone as (env.set i none)
  | .inr _ :: as, env => ioGone as env
  | [], env => env
def distinct : List (Nat ⊕ E) → Bool
  | .inl i :: as => (as.all fun a => match a with | .inl j => i != j | _ => true) && distinct as
  | _ :: as => distinct as
  | [] => true
def runX (c : Str) (fs : List (Str × W)) : XS → Env → Store → Out
  | .pass, env, S => .nx env S
  | .brk, env, S => .brk env S
  | .cont, env, S => .ct env S
  | .retN, env, S => .ret .non env S
  | .ret v, env, S => match v.val fs env with
    | some w => .ret w env S
    | none => .bad
  | .asg i v, env, S => match v.val fs env with
    | some w => .nx (env.put i (.v, w)) S
    | none => .bad
  | .ifx cs s, env, S => if cs.any (fun p => isSub c p.2 == p.1) then runX c fs s env S else .nx env S
def runXs (c : Str) (fs : List (Str × W)) : List XS → Env → Store → Out
  | [], env, S => .nx env S
  | s :: r, env, S => (runX c fs s env S).then fun env S => runXs c fs r env S
def wipeO : Option Nat → Env → Env
  | none, env => env
  | some i, env => env.set i none
def Out.wipe (o : Option Nat) : Out → Out
  | .nx env S => .nx (wipeO o env) S
  | .brk env S => .brk (wipeO o env) S
  | .ct env S => .ct (wipeO o env) S
  | .ret w env S => .ret w (wipeO o env) S
  | _ => .bad
/-- the clauses, one after the other -/
def hGo (c : Str) (fs : List (Str × W)) : List Hnd → Env → Store → Out
  | [], env, S => .exn c fs env S
  | h :: r, env, S => if isSub c h.cls then (runXs c fs h.suite (wipeO h.as env) S).wipe h.as else hGo c fs r env S
mutual
def exec : S → Env → Store → Out
  | .pass, env, S => .nx env S
  | .brk, env, S => .brk env S
  | .cont, env, S => .ct env S
  | .expr e, env, S => (ev .B e env S).out env fun _ S => .nx env S
  | .asg i e, env, S => (ev .V e env S).out env fun w S => .nx (env.put i (.v, w)) S
  | .asgO i e, env, S => (ev .F e env S).out env fun w S => .nx (env.put i (.o, w)) S
  | .asgT is e, env, S => (ev .V e env S).out env fun w S => match bindTg (.many is) w env with
    | some env' => .nx env' S
    | none => .bad
  | .aug i o e, env, S => match env.at i with
    | some (.v, x) => (ev .B e env S).out env fun y S => match binW o x y with
      | some (false, z) => .nx (env.put i (.v, z)) S
      | _ => .bad
    | _ => .bad
  | .seta o f e, env, S => (ev .V e env S).out env fun w S => (ev .V o env S).out env fun x S => match x with
    | .ref n => .nx env (S.setF n f (.v, w))
    | _ => .bad
  | .setaO o f e, env, S => (ev .F e env S).out env fun w S => (ev .V o env S).out env fun x S => match x with
    | .ref n => .nx env (S.setF n f (.o, w))
    | _ => .bad
  | .self i f e, env, S => (ev .V e env S).out env fun w S => match env.at i with
    | some (.o, .ins c fs) => .nx (env.put i (.o, .ins c (fs ++ [(f, w)]))) S
    | _ => .bad
  | .augA o f op e, env, S => (ev .V o env S).out env fun x S => match x with
    | .ref n => match S.getF n f with
      | some (.v, a) => (ev .B e env S).out env fun y S => match binW op a y with
        | some (false, z) => .nx env (S.setF n f (.v, z))
        | _ => .bad
      | _ => .bad
    | _ => .bad
  | .seti p k e, env, S => (ev .V e env S).out env fun v S => (plc p env S).out env fun q S => if ownA q env S then (ev .V k env S).out env fun kw S => chg q (fun w => setItW w kw v) env S else .bad
  | .augi p k op e, env, S => (plc p env S).out env fun q S => if ownA q env S then (ev .V k env S).out env fun kw S => match q.get env S with
    | some (.o, w) => match subW w kw with
      | some a => (ev .B e env S).out env fun y S => match binW op a y with
        | some (false, z) => chg q (fun w => setItW w kw z) env S
        | _ => .bad
      | none => .bad
    | _ => .bad else .bad
  | .app p e, env, S => (plc p env S).out env fun q S => if ownL q env S then (ev .V e env S).out env fun v S => chg q (fun w => appW w v) env S else .bad
  | .ext p e, env, S => (plc p env S).out env fun q S => if ownL q env S then (ev .V e env S).out env fun v S => chg q (fun w => extW w v) env S else .bad
  | .rem p e, env, S => .bad
  | .ife c a b, env, S => (evt c env S).out env fun t S => if t then execs a env S else execs b env S
  | .for_ tg k srcs body, env, S => ((evs .V srcs env S).bind (itemsR k)).out env fun items S => forGo tg (fun env S => execs body env S) items env S
  | .whl c body, env, S => whlGo (fun env S => evt c env S) (fun env S => execs body env S) fuel env S
  | .ret e, env, S => (ev .V e env S).out env fun w S => .ret w env S
  | .retF e, env, S => (ev .F e env S).out env fun w S => .ret w env S
  | .retO i, env, S => match env.at i with
    | some (.o, w) => .ret w env S
    | _ => .bad
  | .retN, env, S => .ret .non env S
  | .raise x es, env, S => (evs .V es env S).out env fun ws S => if ws.length = x.n then .exn x.nm (x.vals ws) env S else .bad
  | .try_ cs body hs, env, S => match execs body env S with
    | .exn c fs env S => if c ∈ cs then hGo c fs hs env S else .bad
    | o => o
  | .frz i, env, S => match env.at i with
    | some (.o, w) => .nx (env.put i (.v, w)) S
    | _ => .bad
  | .callO t f args, env, S => if distinct args then (ioArgs args f.own env S).out env fun ws S => match f.sem S ws with
      | .ok (w, fin) S => match t with
        | none => .nx (ioBack args fin env) S
        | some i => .nx ((ioBack args fin env).put i (.v, w)) S
      | .exn c fs S => .exn c fs (ioGone args env) S
      | .bad => .bad
    else .bad
  | .never, env, S => .bad
def execs : List S → Env → Store → Out
  | [], env, S => .nx env S
  | s :: r, env, S => (exec s env S).then fun env S => execs r env S
end
def finW : List Bool → Nat → Env → Option (List W)
  | [], _, _ => some []
  | true :: r, i, env => match env.at i with
    | some (.o, w) => (finW r (i + 1) env).map (w :: ·)
    | _ => none
  | false :: r, i, env => finW r (i + 1) env
def env0 (n : Nat) (own : List Bool) (ws : List W) : Env := ((own.zip ws).map fun p => some ((if p.1 then Flag.o else Flag.v), p.2)) ++ List.replicate (n - ws.length) none
def runDef (n : Nat) (own : List Bool) (fresh : Bool) (body : List S) (St : Store) (ws : List W) : R (W × List W) :=
  if own.length = ws.length then
    match execs body (env0 n own ws) St with
    | .nx env S => if fresh then .bad else match finW own 0 env with
      | some fs => .ok (.non, fs) S
      | none => .bad
    | .ret w env S => match finW own 0 env with
      | some fs => .ok (w, fs) S
      | none => .bad
    | .exn c fs _ S => .exn c fs S
    | _ => .bad
  else .bad
end Wb
namespace Wb
open PySem PySem.Spec PyProof.Rows
open L2 (V Hp HO Rd upd upd_same upd_ne SqL SqT VK TE TT TA TS TG TI TO Ends WX XK R2 Cx Inv RelV Vals ne_of_none)

inductive Lab where
  | out | frz | slot (i : Nat) | cell (n : Nat) | fld (n : Nat) (f : Str)
  deriving DecidableEq
structure Gh where
  L : Addr → Lab
  ι : Nat → Addr
/-- of the written part -/
def KT (K : PySem.W.Frag) (a : Addr) (xs : List V) : Prop :=
  ∃ (o : Obj) (its : Array Value) (n : Nat), K.lookup a = some o ∧ o.cls = .type "tuple" ∧ o.data = .seq its n ∧ its.size ≤ sizeLine ∧ Vals xs its.toList
def KL (K : PySem.W.Frag) (a : Addr) (xs : List V) : Prop :=
  ∃ (o : Obj) (its : Array Value) (n : Nat), K.lookup a = some o ∧ o.cls = .type "list" ∧ o.dict = none ∧ o.data = .seq its n ∧ its.size ≤ sizeLine ∧ Vals xs its.toList
/-- what is fixed: the written part, the classes' places -/
structure Tx where
  K : PySem.W.Frag
  ca : Str → Addr
  prog : Program
  w : World
  base : Heap
  mg : Str → Option Value

section
variable (T : Tx) (g : Gh) (H : Hp)
def Rep : Nat → V → W → Prop
  | 0, _, _ => False
  | n + 1, x, w => match w with
    | .non => x = .non
    | .bl b => x = .bl b
    | .int i => x = .int i
    | .str s => x = .str s
    | .tup ws => ∃ a xs, x = .ref a ∧ ((g.L a = .frz ∧ Rd H a (.tup xs)) ∨ KT T.K a xs) ∧ Paired (Rep n) xs ws
    | .lst ws => ∃ a xs, x = .ref a ∧ (g.L a = .frz ∧ Rd H a (.lst xs)) ∧ Paired (Rep n) xs ws
    | .ro ws => ∃ a xs, x = .ref a ∧ ((g.L a = .frz ∧ Rd H a (.lst xs)) ∨ KL T.K a xs) ∧ Paired (Rep n) xs ws
    | .dct kvs => ∃ a ks, x = .ref a ∧ g.L a = .frz ∧ Rd H a (.dK ks) ∧ Paired (fun (p : Key × V) (q : Key × W) => p.1 = q.1 ∧ Rep n p.2 q.2) ks kvs
    | .ins c fs => ∃ a dx gs, x = .ref a ∧ g.L a = .frz ∧ H a = some (.ins (T.ca c) dx gs) ∧ Paired (fun (p : Str × V) (q : Str × W) => p.1 = q.1 ∧ Rep n p.2 q.2) gs fs
    | .ref m => x = .ref (g.ι m) ∧ g.L (g.ι m) = .cell m
def RepX (x : V) (w : W) : Prop := ∃ n, Rep T g H n x w
/-- a container (of values) at a -/
def Own (fl : Flag) (a : Addr) : W → Prop
  | .lst ws => ∃ xs, H a = some (.lst xs) ∧ Paired (RepX T g H) xs ws
  | .dct kvs => ∃ ks, (if fl = .k then ∃ od, H a = some (.frz od (.dK ks)) else H a = some (.dK ks)) ∧ Paired (fun (p : Key × V) (q : Key × W) => p.1 = q.1 ∧ RepX T g H p.2 q.2) ks kvs
  | .ins c fs => ∃ dx gs, H a = some (.ins (T.ca c) dx gs) ∧ Paired (fun (p : Str × V) (q : Str × W) => p.1 = q.1 ∧ RepX T g H p.2 q.2) gs fs
  | _ => False
def RdS (x : V) (w : W) : Prop := RepX T g H x w ∨ ∃ a fl, x = .ref a ∧ Own T g H fl a w ∧ (g.L a = .out ∨ ∃ i, g.L a = .slot i) ∧ H a ≠ none
def RdX (x : V) (w : W) : Prop := RepX T g H x w ∨ ∃ a fl, x = .ref a ∧ Own T g H fl a w
def SlotOk (σ : L2.St) (i : Nat) : Flag → W → Prop
  | .v, w => ∃ x, σ[i]? = some (some x) ∧ RepX T g H x w
  | fl, w => ∃ a, σ[i]? = some (some (.ref a)) ∧ g.L a = .slot i ∧ Own T g H fl a w
def FldOk (n : Nat) (f : Str) (x : V) : Flag → W → Prop
  | .v, w => RepX T g H x w
  | fl, w => ∃ a, x = .ref a ∧ g.L a = .fld n f ∧ Own T g H fl a w
def CellOk (n : Nat) (c : Cell) : Prop :=
  g.L (g.ι n) = .cell n ∧ ∃ dx gs, H (g.ι n) = some (.ins (T.ca c.cls) dx gs) ∧ Paired (fun (p : Str × V) (q : Str × (Flag × W)) => p.1 = q.1 ∧ FldOk T g H n p.1 p.2 q.2.1 q.2.2) gs c.fs
structure Sim (env : Env) (S : Store) (σ : L2.St) : Prop where
  wf : ∀ a, H a = none → g.L a = .out
  len : env.length = σ.length
  slots : ∀ i fl w, env.at i = some (fl, w) → SlotOk T g H σ i fl w
  cells : ∀ n c, S[n]? = some c → CellOk T g H n c
end

/-! ### what stays -/
/-- kept: the labels P, objects and labels -/
structure Ext (q : Bool) (g : Gh) (H : Hp) (g' : Gh) (H' : Hp) : Prop where
  keep : ∀ a, H a ≠ none → (q = true ∨ g.L a = .out ∨ g.L a = .frz ∨ ∃ i, g.L a = .slot i) → g'.L a = g.L a ∧ H' a = H a
  cel : ∀ m, g.L (g.ι m) = .cell m → g'.ι m = g.ι m ∧ g'.L (g.ι m) = .cell m
  some : ∀ a, H a ≠ none → H' a ≠ none
  slot : ∀ a i, H a ≠ none → g'.L a = .slot i → ∃ j, g.L a = .slot j
/-- of a statement: the frame's own containers may change -/
structure ExtS (g : Gh) (H : Hp) (g' : Gh) (H' : Hp) : Prop where
  keep : ∀ a, H a ≠ none → (g.L a = .out ∨ g.L a = .frz) → g'.L a = g.L a ∧ H' a = H a
  cel : ∀ m, g.L (g.ι m) = .cell m → g'.ι m = g.ι m ∧ g'.L (g.ι m) = .cell m
  some : ∀ a, H a ≠ none → H' a ≠ none
  slot : ∀ a i, H a ≠ none → g'.L a = .slot i → ∃ j, g.L a = .slot j
theorem Ext.refl {q : Bool} {g : Gh} {H : Hp} : Ext q g H g H := ⟨fun _ _ _ => ⟨rfl, rfl⟩, fun _ h => ⟨rfl, h⟩, fun _ h => h, fun _ i _ h => ⟨i, h⟩⟩
theorem Ext.weak {q q' : Bool} {g g' : Gh} {H H' : Hp} (e : Ext q g H g' H') (h : q' = true → q = true) : Ext q' g H g' H' :=
  ⟨fun a n p => e.keep a n (p.imp_left h), e.cel, e.some, e.slot⟩
theorem Ext.trans {q : Bool} {g g1 g2 : Gh} {H H1 H2 : Hp} (a : Ext q g H g1 H1) (b : Ext q g1 H1 g2 H2) : Ext q g H g2 H2 := by
  refine ⟨fun x n p => ?_, fun m h => ?_, fun x n => b.some x (a.some x n), fun x i n h => ?_⟩
  · obtain ⟨l1, h1⟩ := a.keep x n p
    obtain ⟨l2, h2⟩ := b.keep x (by rw [h1]; exact n) (by rw [l1]; exact p)
    exact ⟨l2.trans l1, h2.trans h1⟩
  · obtain ⟨i1, l1⟩ := a.cel m h
    obtain ⟨i2, l2⟩ := b.cel m (by rw [i1]; exact l1)
    rw [i1] at i2 l2
    exact ⟨i2, l2⟩
  · obtain ⟨j, h2⟩ := b.slot x i (a.some x n) h
    exact a.slot x j n h2
theorem Ext.trans' {q1 q2 : Bool} {g g1 g2 : Gh} {H H1 H2 : Hp} (a : Ext q1 g H g1 H1) (b : Ext q2 g1 H1 g2 H2) : Ext (q1 && q2) g H g2 H2 :=
  (a.weak (by simp; intro h _; exact h)).trans (b.weak (by simp))
theorem ExtS.refl {g : Gh} {H : Hp} : ExtS g H g H := ⟨fun _ _ _ => ⟨rfl, rfl⟩, fun _ h => ⟨rfl, h⟩, fun _ h => h, fun _ i _ h => ⟨i, h⟩⟩
theorem ExtS.trans {g g1 g2 : Gh} {H H1 H2 : Hp} (a : ExtS g H g1 H1) (b : ExtS g1 H1 g2 H2) : ExtS g H g2 H2 := by
  refine ⟨fun x n p => ?_, fun m h => ?_, fun x n => b.some x (a.some x n), fun x i n h => ?_⟩
  · obtain ⟨l1, h1⟩ := a.keep x n p
    obtain ⟨l2, h2⟩ := b.keep x (by rw [h1]; exact n) (by rw [l1]; exact p)
    exact ⟨l2.trans l1, h2.trans h1⟩
  · obtain ⟨i1, l1⟩ := a.cel m h
    obtain ⟨i2, l2⟩ := b.cel m (by rw [i1]; exact l1)
    rw [i1] at i2 l2
    exact ⟨i2, l2⟩
  · obtain ⟨j, h2⟩ := b.slot x i (a.some x n) h
    exact a.slot x j n h2
theorem Ext.toS {q : Bool} {g g' : Gh} {H H' : Hp} (e : Ext q g H g' H') : ExtS g H g' H' :=
  ⟨fun a n p => e.keep a n (by rcases p with p | p <;> simp [p]), e.cel, e.some, e.slot⟩

section
variable {T : Tx} {g g' : Gh} {H H' : Hp} {q : Bool}
theorem rd_some {a : Addr} {u : HO} (h : Rd H a u) : H a ≠ none := by
  rcases h with h | ⟨o, h⟩ <;> rw [h] <;> simp
theorem paired_imp {α β : Type} {F G : α → β → Prop} {l₁ : List α} {l₂ : List β} (h : Paired F l₁ l₂) (f : ∀ a b, F a b → G a b) : Paired G l₁ l₂ := L2.Paired.mapP h f
theorem Rep.up : ∀ {n : Nat} {x : V} {w : W}, Rep T g H n x w → Rep T g H (n + 1) x w
  | 0, _, _, h => h.elim
  | n + 1, x, .non, h => h
  | n + 1, x, .bl _, h => h
  | n + 1, x, .int _, h => h
  | n + 1, x, .str _, h => h
  | n + 1, x, .ref _, h => h
  | n + 1, x, .tup ws, ⟨a, xs, e, l, r⟩ => ⟨a, xs, e, l, paired_imp r fun _ _ => Rep.up⟩
  | n + 1, x, .lst ws, ⟨a, xs, e, l, r⟩ => ⟨a, xs, e, l, paired_imp r fun _ _ => Rep.up⟩
  | n + 1, x, .ro ws, ⟨a, xs, e, l, r⟩ => ⟨a, xs, e, l, paired_imp r fun _ _ => Rep.up⟩
  | n + 1, x, .dct ws, ⟨a, xs, e, l, h, r⟩ => ⟨a, xs, e, l, h, paired_imp r fun _ _ z => ⟨z.1, Rep.up z.2⟩⟩
  | n + 1, x, .ins c ws, ⟨a, dx, xs, e, l, h, r⟩ => ⟨a, dx, xs, e, l, h, paired_imp r fun _ _ z => ⟨z.1, Rep.up z.2⟩⟩
theorem Rep.le {n m : Nat} {x : V} {w : W} (h : Rep T g H n x w) (l : n ≤ m) : Rep T g H m x w := by
  induction l with
  | refl => exact h
  | step _ ih => exact ih.up
/-- a common depth -/
theorem paired_depth {xs : List V} {ws : List W} (h : Paired (RepX T g H) xs ws) : ∃ n, Paired (Rep T g H n) xs ws := by
  induction h with
  | nil => exact ⟨0, .nil⟩
  | cons r _ ih =>
    obtain ⟨n, hn⟩ := r
    obtain ⟨m, hm⟩ := ih
    exact ⟨n + m, .cons (hn.le (Nat.le_add_right _ _)) (paired_imp hm fun _ _ z => z.le (Nat.le_add_left _ _))⟩
theorem paired_depth2 {α : Type} {xs : List (α × V)} {ws : List (α × W)} (h : Paired (fun (p : α × V) (q : α × W) => p.1 = q.1 ∧ RepX T g H p.2 q.2) xs ws) : ∃ n, Paired (fun (p : α × V) (q : α × W) => p.1 = q.1 ∧ Rep T g H n p.2 q.2) xs ws := by
  induction h with
  | nil => exact ⟨0, .nil⟩
  | cons r _ ih =>
    obtain ⟨e, n, hn⟩ := r
    obtain ⟨m, hm⟩ := ih
    exact ⟨n + m, .cons ⟨e, hn.le (Nat.le_add_right _ _)⟩ (paired_imp hm fun _ _ z => ⟨z.1, z.2.le (Nat.le_add_left _ _)⟩)⟩
theorem repX_lst {a : Addr} {xs : List V} {ws : List W} (h : g.L a = .frz ∧ Rd H a (.lst xs)) (r : Paired (RepX T g H) xs ws) : RepX T g H (.ref a) (.lst ws) := by
  obtain ⟨n, hn⟩ := paired_depth r
  exact ⟨n + 1, a, xs, rfl, h, hn⟩
theorem repX_tup {a : Addr} {xs : List V} {ws : List W} (h : (g.L a = .frz ∧ Rd H a (.tup xs)) ∨ KT T.K a xs) (r : Paired (RepX T g H) xs ws) : RepX T g H (.ref a) (.tup ws) := by
  obtain ⟨n, hn⟩ := paired_depth r
  exact ⟨n + 1, a, xs, rfl, h, hn⟩
theorem repX_dct {a : Addr} {ks : List (Key × V)} {ws : List (Key × W)} (l : g.L a = .frz) (h : Rd H a (.dK ks)) (r : Paired (fun (p : Key × V) (q : Key × W) => p.1 = q.1 ∧ RepX T g H p.2 q.2) ks ws) : RepX T g H (.ref a) (.dct ws) := by
  obtain ⟨n, hn⟩ := paired_depth2 r
  exact ⟨n + 1, a, ks, rfl, l, h, hn⟩
theorem repX_ins {a dx : Addr} {c : Str} {ks : List (Str × V)} {ws : List (Str × W)} (l : g.L a = .frz) (h : H a = some (.ins (T.ca c) dx ks)) (r : Paired (fun (p : Str × V) (q : Str × W) => p.1 = q.1 ∧ RepX T g H p.2 q.2) ks ws) : RepX T g H (.ref a) (.ins c ws) := by
  obtain ⟨n, hn⟩ := paired_depth2 r
  exact ⟨n + 1, a, dx, ks, rfl, l, h, hn⟩
theorem lst_inv {x : V} {ws : List W} (h : RepX T g H x (.lst ws)) : ∃ a xs, x = .ref a ∧ (g.L a = .frz ∧ Rd H a (.lst xs)) ∧ Paired (RepX T g H) xs ws := by
  obtain ⟨n, hn⟩ := h
  cases n with
  | zero => exact hn.elim
  | succ n =>
    obtain ⟨a, xs, e, l, r⟩ := hn
    exact ⟨a, xs, e, l, paired_imp r fun _ _ z => ⟨n, z⟩⟩
theorem tup_inv {x : V} {ws : List W} (h : RepX T g H x (.tup ws)) : ∃ a xs, x = .ref a ∧ ((g.L a = .frz ∧ Rd H a (.tup xs)) ∨ KT T.K a xs) ∧ Paired (RepX T g H) xs ws := by
  obtain ⟨n, hn⟩ := h
  cases n with
  | zero => exact hn.elim
  | succ n =>
    obtain ⟨a, xs, e, l, r⟩ := hn
    exact ⟨a, xs, e, l, paired_imp r fun _ _ z => ⟨n, z⟩⟩
theorem ro_inv {x : V} {ws : List W} (h : RepX T g H x (.ro ws)) : ∃ a xs, x = .ref a ∧ ((g.L a = .frz ∧ Rd H a (.lst xs)) ∨ KL T.K a xs) ∧ Paired (RepX T g H) xs ws := by
  obtain ⟨n, hn⟩ := h
  cases n with
  | zero => exact hn.elim
  | succ n =>
    obtain ⟨a, xs, e, l, r⟩ := hn
    exact ⟨a, xs, e, l, paired_imp r fun _ _ z => ⟨n, z⟩⟩
theorem dct_inv {x : V} {ws : List (Key × W)} (h : RepX T g H x (.dct ws)) : ∃ a ks, x = .ref a ∧ g.L a = .frz ∧ Rd H a (.dK ks) ∧ Paired (fun (p : Key × V) (q : Key × W) => p.1 = q.1 ∧ RepX T g H p.2 q.2) ks ws := by
  obtain ⟨n, hn⟩ := h
  cases n with
  | zero => exact hn.elim
  | succ n =>
    obtain ⟨a, xs, e, l, h, r⟩ := hn
    exact ⟨a, xs, e, l, h, paired_imp r fun _ _ z => ⟨z.1, n, z.2⟩⟩
theorem ins_inv {x : V} {c : Str} {ws : List (Str × W)} (h : RepX T g H x (.ins c ws)) : ∃ a dx gs, x = .ref a ∧ g.L a = .frz ∧ H a = some (.ins (T.ca c) dx gs) ∧ Paired (fun (p : Str × V) (q : Str × W) => p.1 = q.1 ∧ RepX T g H p.2 q.2) gs ws := by
  obtain ⟨n, hn⟩ := h
  cases n with
  | zero => exact hn.elim
  | succ n =>
    obtain ⟨a, dx, xs, e, l, h, r⟩ := hn
    exact ⟨a, dx, xs, e, l, h, paired_imp r fun _ _ z => ⟨z.1, n, z.2⟩⟩
theorem ref_inv {x : V} {m : Nat} (h : RepX T g H x (.ref m)) : x = .ref (g.ι m) ∧ g.L (g.ι m) = .cell m := by
  obtain ⟨n, hn⟩ := h
  cases n with
  | zero => exact hn.elim
  | succ n => exact hn
theorem non_inv {x : V} (h : RepX T g H x .non) : x = .non := by
  obtain ⟨n, hn⟩ := h
  cases n with
  | zero => exact hn.elim
  | succ n => exact hn
theorem bl_inv {x : V} {b : Bool} (h : RepX T g H x (.bl b)) : x = .bl b := by
  obtain ⟨n, hn⟩ := h
  cases n with
  | zero => exact hn.elim
  | succ n => exact hn
theorem int_inv {x : V} {b : Int} (h : RepX T g H x (.int b)) : x = .int b := by
  obtain ⟨n, hn⟩ := h
  cases n with
  | zero => exact hn.elim
  | succ n => exact hn
theorem str_inv {x : V} {b : Str} (h : RepX T g H x (.str b)) : x = .str b := by
  obtain ⟨n, hn⟩ := h
  cases n with
  | zero => exact hn.elim
  | succ n => exact hn
theorem repX_non : RepX T g H .non .non := ⟨1, rfl⟩
theorem repX_bl {b : Bool} : RepX T g H (.bl b) (.bl b) := ⟨1, rfl⟩
theorem repX_int {b : Int} : RepX T g H (.int b) (.int b) := ⟨1, rfl⟩
theorem repX_str {b : Str} : RepX T g H (.str b) (.str b) := ⟨1, rfl⟩

/-- the minimal condition under which values stay -/
structure Stay (g : Gh) (H : Hp) (g' : Gh) (H' : Hp) : Prop where
  frz : ∀ a, g.L a = .frz → H a ≠ none → g'.L a = .frz
  rd : ∀ a u, g.L a = .frz → Rd H a u → Rd H' a u
  ins : ∀ a C dx fs, g.L a = .frz → H a = some (.ins C dx fs) → H' a = some (.ins C dx fs)
  cel : ∀ m, g.L (g.ι m) = .cell m → g'.ι m = g.ι m ∧ g'.L (g.ι m) = .cell m
theorem Stay.rep (s : Stay g H g' H') : ∀ {n : Nat} {x : V} {w : W}, Rep T g H n x w → Rep T g' H' n x w
  | 0, _, _, h => h.elim
  | n + 1, x, .non, h => h
  | n + 1, x, .bl _, h => h
  | n + 1, x, .int _, h => h
  | n + 1, x, .str _, h => h
  | n + 1, x, .ref m, ⟨h1, h2⟩ => by
    obtain ⟨e1, e2⟩ := s.cel m h2
    exact ⟨by rw [e1]; exact h1, by rw [e1]; exact e2⟩
  | n + 1, x, .tup ws, ⟨a, xs, e, l, r⟩ => ⟨a, xs, e, l.imp_left fun z => ⟨s.frz a z.1 (rd_some z.2), s.rd a _ z.1 z.2⟩, paired_imp r fun _ _ => s.rep⟩
  | n + 1, x, .ro ws, ⟨a, xs, e, l, r⟩ => ⟨a, xs, e, l.imp_left fun z => ⟨s.frz a z.1 (rd_some z.2), s.rd a _ z.1 z.2⟩, paired_imp r fun _ _ => s.rep⟩
  | n + 1, x, .lst ws, ⟨a, xs, e, z, r⟩ => ⟨a, xs, e, ⟨s.frz a z.1 (rd_some z.2), s.rd a _ z.1 z.2⟩, paired_imp r fun _ _ => s.rep⟩
  | n + 1, x, .dct ws, ⟨a, xs, e, l, h, r⟩ => ⟨a, xs, e, s.frz a l (rd_some h), s.rd a _ l h, paired_imp r fun _ _ z => ⟨z.1, s.rep z.2⟩⟩
  | n + 1, x, .ins c ws, ⟨a, dx, xs, e, l, h, r⟩ => ⟨a, dx, xs, e, s.frz a l (by rw [h]; simp), s.ins a _ _ _ l h, paired_imp r fun _ _ z => ⟨z.1, s.rep z.2⟩⟩
theorem Stay.repX (s : Stay g H g' H') {x : V} {w : W} (h : RepX T g H x w) : RepX T g' H' x w := let ⟨n, hn⟩ := h; ⟨n, s.rep hn⟩
theorem ExtS.stay (e : ExtS g H g' H') : Stay g H g' H' where
  frz := fun a l n => by rw [(e.keep a n (.inr l)).1]; exact l
  rd := fun a u l r => by
    have h := (e.keep a (rd_some r) (.inr l)).2
    unfold Rd
    rw [h]
    exact r
  ins := fun a C dx fs l h => by rw [(e.keep a (by rw [h]; simp) (.inr l)).2]; exact h
  cel := e.cel
theorem Ext.stay (e : Ext q g H g' H') : Stay g H g' H' := e.toS.stay
theorem Own.stay (s : Stay g H g' H') {fl : Flag} {a : Addr} {w : W} (ha : H' a = H a) (h : Own T g H fl a w) : Own T g' H' fl a w := by
  cases w with
  | lst ws =>
    obtain ⟨xs, e, r⟩ := h
    exact ⟨xs, ha.trans e, paired_imp r fun _ _ => s.repX⟩
  | dct kvs =>
    obtain ⟨xs, e, r⟩ := h
    refine ⟨xs, ?_, paired_imp r fun _ _ z => ⟨z.1, s.repX z.2⟩⟩
    rw [ha]
    exact e
  | ins c fs =>
    obtain ⟨dx, xs, e, r⟩ := h
    exact ⟨dx, xs, ha.trans e, paired_imp r fun _ _ z => ⟨z.1, s.repX z.2⟩⟩
  | _ => exact h.elim
theorem Own.some {fl : Flag} {a : Addr} {w : W} (h : Own T g H fl a w) : H a ≠ none := by
  cases w with
  | lst ws => obtain ⟨xs, e, r⟩ := h; rw [e]; simp
  | dct kvs =>
    obtain ⟨xs, e, r⟩ := h
    split at e
    · obtain ⟨od, e⟩ := e; rw [e]; simp
    · rw [e]; simp
  | ins c fs => obtain ⟨dx, xs, e, r⟩ := h; rw [e]; simp
  | _ => exact h.elim
theorem RdS.ext (e : Ext q g H g' H') {x : V} {w : W} (h : RdS T g H x w) : RdS T g' H' x w := by
  rcases h with h | ⟨a, fl, ex, o, l, n⟩
  · exact .inl (e.stay.repX h)
  · obtain ⟨e1, e2⟩ := e.keep a n (by rcases l with l | ⟨i, l⟩ <;> simp [l])
    exact .inr ⟨a, fl, ex, o.stay e.stay e2, by rw [e1]; exact l, by rw [e2]; exact n⟩
theorem RdX.extQ (e : Ext true g H g' H') {x : V} {w : W} (h : RdX T g H x w) : RdX T g' H' x w := by
  rcases h with h | ⟨a, fl, ex, o⟩
  · exact .inl (e.stay.repX h)
  · exact .inr ⟨a, fl, ex, o.stay e.stay (e.keep a o.some (.inl rfl)).2⟩
theorem RdS.rdX {x : V} {w : W} (h : RdS T g H x w) : RdX T g H x w := by
  rcases h with h | ⟨a, fl, ex, o, _⟩
  · exact .inl h
  · exact .inr ⟨a, fl, ex, o⟩
theorem RepX.rdX {x : V} {w : W} (h : RepX T g H x w) : RdX T g H x w := .inl h

/-! ### reading -/
theorem rdx_lst {x : V} {ws : List W} (h : RdX T g H x (.lst ws)) : ∃ a xs, x = .ref a ∧ Rd H a (.lst xs) ∧ Paired (RepX T g H) xs ws := by
  rcases h with h | ⟨a, fl, e, xs, ha, r⟩
  · obtain ⟨a, xs, e, l, r⟩ := lst_inv h
    exact ⟨a, xs, e, l.2, r⟩
  · exact ⟨a, xs, e, .inl ha, r⟩
theorem rdx_tup {x : V} {ws : List W} (h : RdX T g H x (.tup ws)) : ∃ a xs, x = .ref a ∧ SqT T.K H a xs ∧ Paired (RepX T g H) xs ws := by
  rcases h with h | ⟨a, fl, e, h⟩
  · obtain ⟨a, xs, e, l, r⟩ := tup_inv h
    refine ⟨a, xs, e, ?_, r⟩
    rcases l with ⟨_, l⟩ | l
    · exact .inl l
    · exact .inr l
  · exact h.elim
theorem rdx_ro {x : V} {ws : List W} (h : RdX T g H x (.ro ws)) : ∃ a xs, x = .ref a ∧ SqL T.K H a xs ∧ Paired (RepX T g H) xs ws := by
  rcases h with h | ⟨a, fl, e, h⟩
  · obtain ⟨a, xs, e, l, r⟩ := ro_inv h
    refine ⟨a, xs, e, ?_, r⟩
    rcases l with ⟨_, l⟩ | l
    · exact .inl l
    · exact .inr l
  · exact h.elim
theorem rdx_dct {x : V} {kvs : List (Key × W)} (h : RdX T g H x (.dct kvs)) : ∃ a ks, x = .ref a ∧ Rd H a (.dK ks) ∧ Paired (fun (p : Key × V) (q : Key × W) => p.1 = q.1 ∧ RepX T g H p.2 q.2) ks kvs := by
  rcases h with h | ⟨a, fl, e, ks, ha, r⟩
  · obtain ⟨a, ks, e, _, l, r⟩ := dct_inv h
    exact ⟨a, ks, e, l, r⟩
  · refine ⟨a, ks, e, ?_, r⟩
    split at ha
    · obtain ⟨od, ha⟩ := ha; exact .inr ⟨od, ha⟩
    · exact .inl ha
theorem rdx_ins {x : V} {c : Str} {fs : List (Str × W)} (h : RdX T g H x (.ins c fs)) : ∃ a dx gs, x = .ref a ∧ H a = some (.ins (T.ca c) dx gs) ∧ Paired (fun (p : Str × V) (q : Str × W) => p.1 = q.1 ∧ RepX T g H p.2 q.2) gs fs := by
  rcases h with h | ⟨a, fl, e, dx, gs, ha, r⟩
  · obtain ⟨a, dx, gs, e, _, l, r⟩ := ins_inv h
    exact ⟨a, dx, gs, e, l, r⟩
  · exact ⟨a, dx, gs, e, ha, r⟩
theorem rdx_int {x : V} {i : Int} (h : RdX T g H x (.int i)) : x = .int i := by
  rcases h with h | ⟨a, fl, e, h⟩
  · exact int_inv h
  · exact h.elim
theorem rdx_str {x : V} {i : Str} (h : RdX T g H x (.str i)) : x = .str i := by
  rcases h with h | ⟨a, fl, e, h⟩
  · exact str_inv h
  · exact h.elim
theorem rdx_bl {x : V} {i : Bool} (h : RdX T g H x (.bl i)) : x = .bl i := by
  rcases h with h | ⟨a, fl, e, h⟩
  · exact bl_inv h
  · exact h.elim
theorem rdx_non {x : V} (h : RdX T g H x .non) : x = .non := by
  rcases h with h | ⟨a, fl, e, h⟩
  · exact non_inv h
  · exact h.elim
theorem rdx_ref {x : V} {m : Nat} (h : RdX T g H x (.ref m)) : x = .ref (g.ι m) ∧ g.L (g.ι m) = .cell m := by
  rcases h with h | ⟨a, fl, e, h⟩
  · exact ref_inv h
  · exact h.elim
end
end Wb
namespace Wb
open PySem PySem.Spec PyProof.Rows
open L2 (V Hp HO Rd upd upd_same upd_ne SqL SqT VK TE TT TA TS TG TI TO Ends WX XK R2 Cx Inv RelV Vals ne_of_none PE PT PA PS PSs PG PI OpR UnR CallR MtR)

section
variable (T : Tx) (W' : WX)
/-- what an expression hands on, by its context; H: the heap at its start -/
def Res (c : Ctx) (H : Hp) (g' : Gh) (H' : Hp) (x : V) (w : W) : Prop := match c with
  | .V => RepX T g' H' x w
  | .S => RdS T g' H' x w
  | .B => RdX T g' H' x w
  | .F => ∃ a, x = .ref a ∧ H a = none ∧ g'.L a = .out ∧ Own T g' H' .o a w
def ResA (c : Ctx) (H : Hp) (g' : Gh) (H' : Hp) (xs : List V) (ws : List W) : Prop := Paired (Res T c H g' H') xs ws
def ResB (H : Hp) (g' : Gh) (H' : Hp) (x : Bool) (w : Bool) : Prop := x = w
def ExOk (g' : Gh) (H' : Hp) (d : Addr) (fs : List (Str × W)) : Prop := ∃ gs, H' d = some (.xd gs) ∧ Paired (fun (p : Str × V) (q : Str × W) => p.1 = q.1 ∧ RepX T g' H' p.2 q.2) gs fs
def Post {α β : Type} (q : Bool) (Kr : Hp → Gh → Hp → β → α → Prop) (g : Gh) (env : Env) (σ : L2.St) (H : Hp) (r : R α) (Q : β → Hp → Prop) : Prop := match r with
  | .ok a S' => ∀ x g' H', Ext q g H g' H' → Sim T g' H' env S' σ → Kr H g' H' x a → Q x H'
  | .exn c fs S' => ∀ d g' H', Ext false g H g' H' → Sim T g' H' env S' σ → ExOk T g' H' d fs → W' (.ref (T.ca c)) (some d) σ H'
  | .bad => False
def tE (c : Ctx) (e : E) : TE := fun σ H Q => ∃ g env S, Sim T g H env S σ ∧ Post T W' (quiet e) (Res T c) g env σ H (ev c e env S) Q
def tT (e : E) : TT := fun σ H Q => ∃ g env S, Sim T g H env S σ ∧ Post T W' (quiet e) ResB g env σ H (evt e env S) Q
def tA (c : Ctx) (es : List E) : TA := fun σ H Q => ∃ g env S, Sim T g H env S σ ∧ Post T W' (quiets es) (ResA T c) g env σ H (evs c es env S) Q
end
def BaseMono {α β : Type} (Kr : Hp → Gh → Hp → β → α → Prop) : Prop := ∀ H H1 g' H' x a, (∀ p, H p ≠ none → H1 p ≠ none) → Kr H1 g' H' x a → Kr H g' H' x a
theorem bm_res {T : Tx} {c : Ctx} : BaseMono (Res T c) := by
  intro H H1 g' H' x w hs h
  cases c with
  | F =>
    obtain ⟨a, e, n, l, o⟩ := h
    refine ⟨a, e, ?_, l, o⟩
    cases q : H a with
    | none => rfl
    | some u => exact absurd n (hs a (by rw [q]; simp))
  | _ => exact h
theorem bm_resA {T : Tx} {c : Ctx} : BaseMono (ResA T c) := fun H H1 g' H' x w hs h => paired_imp h fun a b => bm_res H H1 g' H' a b hs
theorem bm_resB : BaseMono ResB := fun _ _ _ _ _ _ _ h => h

section
variable {T : Tx} {W' : WX} {g g1 : Gh} {env : Env} {S S1 : Store} {σ : L2.St} {H H1 : Hp} {q qa qb : Bool}
/-- the wish behind a first part -/
theorem Post.rest {α β : Type} {Kr : Hp → Gh → Hp → β → α → Prop} {r : R α} {Q : β → Hp → Prop} (hK : BaseMono Kr) (hq : q = true → (qa && qb) = true) (e : Ext qa g H g1 H1) (h : Post T W' q Kr g env σ H r Q) : Post T W' qb Kr g1 env σ H1 r Q := by
  cases r with
  | bad => exact h
  | ok a S' => exact fun x g' H' e' s k => h x g' H' ((e.trans' e').weak hq) s (hK _ _ _ _ _ _ e.some k)
  | exn c fs S' => exact fun d g' H' e' s k => h d g' H' ((e.weak (q' := false) (by simp)).trans e') s k
theorem Post.bind {α β α' β' : Type} {Ka : Hp → Gh → Hp → β → α → Prop} {Kr : Hp → Gh → Hp → β' → α' → Prop} {ra : R α} {f : α → Store → R α'} {Q' : β' → Hp → Prop} {Q : β → Hp → Prop} (hK : BaseMono Kr)
    (hq : q = true → (qa && qb) = true) (h : Post T W' q Kr g env σ H (ra.bind f) Q')
    (k : ∀ a S1 x g1 H1, ra = .ok a S1 → Ext qa g H g1 H1 → Sim T g1 H1 env S1 σ → Ka H g1 H1 x a → Post T W' qb Kr g1 env σ H1 (f a S1) Q' → Q x H1) : Post T W' qa Ka g env σ H ra Q := by
  cases ra with
  | bad => exact h
  | ok a S' => exact fun x g' H' e' s kk => k a S' x g' H' rfl e' s kk (Post.rest hK hq e' h)
  | exn c fs S' => exact h
theorem Post.imp {α β β' : Type} {Ka : Hp → Gh → Hp → β → α → Prop} {Kb : Hp → Gh → Hp → β' → α → Prop} {r : R α} {Q : β → Hp → Prop} {Q' : β' → Hp → Prop} (h : Post T W' q Ka g env σ H r Q) (hq : q = true → qa = true)
    (k : ∀ a S1 x g1 H1, r = .ok a S1 → Ext qa g H g1 H1 → Sim T g1 H1 env S1 σ → Kb H g1 H1 x a → (∀ y, Ka H g1 H1 y a → Q y H1) → Q' x H1) : Post T W' qa Kb g env σ H r Q' := by
  cases r with
  | bad => exact h
  | ok a S' => exact fun x g' H' e' s kk => k a S' x g' H' rfl e' s kk fun y ky => h y g' H' (e'.weak hq) s ky
  | exn c fs S' => exact h

/-! ### the state behind a new object -/
theorem Sim.ext {H' : Hp} {g' : Gh} (s : Sim T g H env S σ) (e : Ext true g H g' H') (wf : ∀ a, H' a = none → g'.L a = .out) : Sim T g' H' env S σ where
  wf := wf
  len := s.len
  slots := fun i fl w h => by
    have z := s.slots i fl w h
    cases fl with
    | v =>
      obtain ⟨x, ex, r⟩ := z
      exact ⟨x, ex, e.stay.repX r⟩
    | o =>
      obtain ⟨a, ex, l, o⟩ := z
      obtain ⟨l1, h1⟩ := e.keep a o.some (.inl rfl)
      exact ⟨a, ex, l1.trans l, o.stay e.stay h1⟩
    | k =>
      obtain ⟨a, ex, l, o⟩ := z
      obtain ⟨l1, h1⟩ := e.keep a o.some (.inl rfl)
      exact ⟨a, ex, l1.trans l, o.stay e.stay h1⟩
  cells := fun n c h => by
    obtain ⟨l, dx, gs, hh, r⟩ := s.cells n c h
    obtain ⟨e1, e2⟩ := e.cel n l
    refine ⟨by rw [e1]; exact e2, dx, gs, ?_, paired_imp r fun p q z => ⟨z.1, ?_⟩⟩
    · rw [e1, (e.keep _ (by rw [hh]; simp) (.inl rfl)).2]; exact hh
    · have z2 := z.2
      revert z2
      cases q.2.1 with
      | v => exact fun z2 => e.stay.repX z2
      | o =>
        rintro ⟨a, ex, l, o⟩
        obtain ⟨l1, h1⟩ := e.keep a o.some (.inl rfl)
        exact ⟨a, ex, l1.trans l, o.stay e.stay h1⟩
      | k =>
        rintro ⟨a, ex, l, o⟩
        obtain ⟨l1, h1⟩ := e.keep a o.some (.inl rfl)
        exact ⟨a, ex, l1.trans l, o.stay e.stay h1⟩
def Gh.lab (g : Gh) (p : Addr) (l : Lab) : Gh := ⟨fun a => if a = p then l else g.L a, g.ι⟩
theorem lab_same {p : Addr} {l : Lab} : (g.lab p l).L p = l := if_pos rfl
theorem lab_ne {p a : Addr} {l : Lab} (h : a ≠ p) : (g.lab p l).L a = g.L a := if_neg h
theorem ext_new {p : Addr} {o : HO} {l : Lab} (hp : H p = none) (hl : g.L p = .out) : Ext true g H (g.lab p l) (upd H p o) := by
  refine ⟨fun a n _ => ?_, fun m h => ?_, fun a n => ?_, fun a i n h => ⟨i, by rw [lab_ne fun z => n (by rw [z]; exact hp)] at h; exact h⟩⟩
  · have na : a ≠ p := fun z => n (by rw [z]; exact hp)
    exact ⟨lab_ne na, upd_ne na⟩
  · have na : g.ι m ≠ p := fun z => by rw [z, hl] at h; cases h
    exact ⟨rfl, by show (g.lab p l).L (g.ι m) = _; rw [lab_ne na]; exact h⟩
  · have na : a ≠ p := fun z => n (by rw [z]; exact hp)
    rw [upd_ne na]; exact n
theorem wf_new {p : Addr} {o : HO} {l : Lab} (wf : ∀ a, H a = none → g.L a = .out) : ∀ a, upd H p o a = none → (g.lab p l).L a = .out := by
  intro a h
  have na : a ≠ p := fun z => by rw [z, upd_same] at h; cases h
  rw [upd_ne na] at h
  rw [lab_ne na]
  exact wf a h
theorem Sim.new {p : Addr} {o : HO} (l : Lab) (s : Sim T g H env S σ) (hp : H p = none) : Sim T (g.lab p l) (upd H p o) env S σ :=
  s.ext (ext_new hp (s.wf p hp)) (wf_new s.wf)
/-- a container's contents as they stay behind a new label -/
theorem own_rep {p : Addr} {w : W} (hl : g.L p = .frz) (o : Own T g H .o p w) : RepX T g H (.ref p) w := by
  cases w with
  | lst ws =>
    obtain ⟨xs, e, r⟩ := o
    exact repX_lst ⟨hl, .inl e⟩ r
  | dct kvs =>
    obtain ⟨xs, e, r⟩ := o
    exact repX_dct hl (.inl (by simpa using e)) r
  | ins c fs =>
    obtain ⟨dx, xs, e, r⟩ := o
    exact repX_ins hl e r
  | _ => exact o.elim
theorem stay_lab {p : Addr} {l : Lab} (hl : g.L p = .out) : Stay g H (g.lab p l) H := by
  refine ⟨fun a e n => ?_, fun a u _ r => r, fun a C dx fs _ r => r, fun m e => ⟨rfl, ?_⟩⟩
  · have na : a ≠ p := fun z => by rw [z, hl] at e; cases e
    rw [lab_ne na]; exact e
  · have na : g.ι m ≠ p := fun z => by rw [z, hl] at e; cases e
    show (g.lab p l).L (g.ι m) = _
    rw [lab_ne na]; exact e
theorem Sim.lab {p : Addr} {l : Lab} (s : Sim T g H env S σ) (hl : g.L p = .out) (hp : H p ≠ none) : Sim T (g.lab p l) H env S σ where
  wf := fun a h => by
    have na : a ≠ p := fun z => hp (by rw [← z]; exact h)
    rw [lab_ne na]; exact s.wf a h
  len := s.len
  slots := fun i fl w h => by
    have z := s.slots i fl w h
    have st := stay_lab (g := g) (H := H) (l := l) hl
    cases fl with
    | v =>
      obtain ⟨x, ex, r⟩ := z
      exact ⟨x, ex, st.repX r⟩
    | o =>
      obtain ⟨a, ex, la, o⟩ := z
      have na : a ≠ p := fun z => by rw [z, hl] at la; cases la
      exact ⟨a, ex, (lab_ne na).trans la, o.stay st rfl⟩
    | k =>
      obtain ⟨a, ex, la, o⟩ := z
      have na : a ≠ p := fun z => by rw [z, hl] at la; cases la
      exact ⟨a, ex, (lab_ne na).trans la, o.stay st rfl⟩
  cells := fun n c h => by
    have st := stay_lab (g := g) (H := H) (l := l) hl
    obtain ⟨la, dx, gs, hh, r⟩ := s.cells n c h
    refine ⟨(st.cel n la).2, dx, gs, hh, paired_imp r fun p q z => ⟨z.1, ?_⟩⟩
    have z2 := z.2
    revert z2
    cases q.2.1 with
    | v => exact fun z2 => st.repX z2
    | o =>
      rintro ⟨a, ex, la, o⟩
      have na : a ≠ _ := fun z => by rw [z, hl] at la; cases la
      exact ⟨a, ex, (lab_ne na).trans la, o.stay st rfl⟩
    | k =>
      rintro ⟨a, ex, la, o⟩
      have na : a ≠ _ := fun z => by rw [z, hl] at la; cases la
      exact ⟨a, ex, (lab_ne na).trans la, o.stay st rfl⟩
/-- a fresh container, whatever it is wanted for -/
theorem res_fresh {c : Ctx} {H' : Hp} {g' : Gh} {p : Addr} {w : W} (hp : H p = none) (e : Ext q g H g' H') (s : Sim T g' H' env S σ) (hl : g'.L p = .out) (o : Own T g' H' .o p w) {Q : V → Hp → Prop}
    (h : ∀ x g' H', Ext q g H g' H' → Sim T g' H' env S σ → Res T c H g' H' x w → Q x H') : Q (.ref p) H' := by
  cases c with
  | F => exact h _ _ _ e s ⟨p, rfl, hp, hl, o⟩
  | S => exact h _ _ _ e s (.inr ⟨p, .o, rfl, o, .inl hl, o.some⟩)
  | B => exact h _ _ _ e s (.inr ⟨p, .o, rfl, o⟩)
  | V =>
    have o' : Own T (g'.lab p .frz) H' .o p w := o.stay (stay_lab hl) rfl
    refine h _ (g'.lab p .frz) _ ?_ (s.lab hl o.some) (own_rep lab_same o')
    refine ⟨fun a n pp => ?_, fun m hm => ?_, e.some, fun a i n h => e.slot a i n (by rw [lab_ne fun z => n (by rw [z]; exact hp)] at h; exact h)⟩
    · have na : a ≠ p := fun z => n (by rw [z]; exact hp)
      obtain ⟨l1, h1⟩ := e.keep a n pp
      exact ⟨(lab_ne na).trans l1, h1⟩
    · obtain ⟨i1, l1⟩ := e.cel m hm
      refine ⟨i1, ?_⟩
      have na : g.ι m ≠ p := fun z => by rw [z, hl] at l1; cases l1
      rw [lab_ne na]; exact l1
/-- a value that is no container -/
theorem res_val {c : Ctx} {w : W} {x : V} (hc : c ≠ .F) {H' : Hp} {g' : Gh} (r : RepX T g' H' x w) : Res T c H g' H' x w := by
  cases c with
  | F => exact absurd rfl hc
  | V => exact r
  | S => exact .inl r
  | B => exact .inl r
theorem ofW_ok {c : Ctx} {p : Option W} {S : Store} {Q : V → Hp → Prop} (h : Post T W' q (Res T c) g env σ H (ofW c p S) Q) : ∃ w, p = some w ∧ c ≠ .F ∧ Post T W' q (Res T c) g env σ H (.ok w S) Q := by
  cases p with
  | none => exact h.elim
  | some w =>
    unfold ofW at h
    by_cases hc : c = .F
    · simp only [hc, if_true] at h
      exact h.elim
    · simp only [hc, if_false] at h
      exact ⟨w, rfl, hc, h⟩
theorem ofPV_ok {c : Ctx} {p : PV} {S : Store} {Q : V → Hp → Prop} (h : Post T W' q (Res T c) g env σ H (ofPV c p S) Q) : ∃ fr w, p = some (fr, w) ∧ (fr = false → c ≠ .F) ∧ Post T W' q (Res T c) g env σ H (.ok w S) Q := by
  cases p with
  | none => exact h.elim
  | some y =>
    obtain ⟨fr, w⟩ := y
    unfold ofPV at h
    by_cases hc : c = .F ∧ fr = false
    · simp only [hc, and_self, if_true] at h
      exact h.elim
    · simp only [hc, if_false] at h
      exact ⟨fr, w, rfl, fun e z => hc ⟨z, e⟩, h⟩
/-- the wish of a plain value, at once -/
theorem Post.val {c : Ctx} {w : W} {x : V} {Q : V → Hp → Prop} (hc : c ≠ .F) (s : Sim T g H env S σ) (r : RepX T g H x w) (h : Post T W' q (Res T c) g env σ H (.ok w S) Q) : Q x H :=
  h x g H (Ext.refl) s (res_val hc r)
/-- the wish of a new container, at once -/
theorem Post.new {c : Ctx} {w : W} {p : Addr} {o : HO} {Q : V → Hp → Prop} (h : Post T W' q (Res T c) g env σ H (.ok w S) Q) (s : Sim T g H env S σ) (hp : H p = none) (r : ∀ g', Stay g H g' (upd H p o) → Own T g' (upd H p o) .o p w) : Q (.ref p) (upd H p o) := by
  have e := ext_new (o := o) (l := .out) hp (s.wf p hp)
  exact res_fresh hp (e.weak fun _ => rfl) (s.new .out hp) lab_same (r _ e.stay) h
end

theorem pe_imp {X : Cx} {e : Expr} {t t' : TE} (h : PE X e t) (i : ∀ σ H Q, t' σ H Q → t σ H Q) : PE X e t' := ⟨fun pins s σ H Q I q => h.run pins s σ H Q I (i σ H Q q)⟩
theorem pt_imp {X : Cx} {e : Expr} {t t' : TT} (h : PT X e t) (i : ∀ σ H Q, t' σ H Q → t σ H Q) : PT X e t' := ⟨fun pins s σ H Q I q => h.run pins s σ H Q I (i σ H Q q)⟩
theorem ps_imp {X : Cx} {e : Stmt} {t t' : TS} (h : PS X e t) (i : ∀ D σ H, t' D σ H → t D σ H) : PS X e t' := ⟨fun pins s σ H D I q => h.run pins s σ H D I (i D σ H q)⟩
theorem pss_imp {X : Cx} {e : List Stmt} {t t' : TS} (h : PSs X e t) (i : ∀ D σ H, t' D σ H → t D σ H) : PSs X e t' := ⟨fun pins s σ H D I q => h.run pins s σ H D I (i D σ H q)⟩
theorem pa_imp {X : Cx} {e : List Expr} {t t' : TA} (h : PA X e t) (i : ∀ σ H Q, t' σ H Q → t σ H Q) : PA X e t' := ⟨fun pos pins s σ H Q I q => h.run pos pins s σ H Q I (i σ H Q q)⟩
end Wb
namespace Wb
open PySem PySem.Spec PyProof.Rows
open L2 (V Hp HO Rd upd upd_same upd_ne SqL SqT VK TE TT TA TS TG TI TO Ends WX XK R2 Cx Inv RelV Vals ne_of_none PE PT PA PS PSs PG PI OpR UnR CallR MtR)

theorem sizeL_eq : sizeL = sizeLine := by rw [sizeLine_eq]; rfl
theorem vals_of_paired {F : V → W → Prop} : ∀ {xs : List V} {ws : List W}, Paired F xs ws → xs.length = ws.length := fun h => Paired.length h
theorem paired_append {α β : Type} {F : α → β → Prop} {a b : List α} {c d : List β} (h : Paired F a c) (k : Paired F b d) : Paired F (a ++ b) (c ++ d) := by
  induction h with
  | nil => exact k
  | cons r _ ih => exact .cons r ih
theorem paired_rep {α β : Type} {F : α → β → Prop} {a : List α} {c : List β} (h : Paired F a c) (k : Nat) : Paired F (List.replicate k a).flatten (List.replicate k c).flatten := by
  induction k with
  | zero => exact .nil
  | succ k ih => rw [List.replicate_succ, List.replicate_succ, List.flatten_cons, List.flatten_cons]; exact paired_append h ih
theorem paired_get {α β : Type} {F : α → β → Prop} {a : List α} {c : List β} (h : Paired F a c) : ∀ {i : Nat} {y : β}, c[i]? = some y → ∃ x, a[i]? = some x ∧ F x y := by
  induction h with
  | nil => intro i y e; simp at e
  | cons r _ ih =>
    intro i y e
    cases i with
    | zero =>
      rw [List.getElem?_cons_zero] at e
      cases e
      exact ⟨_, rfl, r⟩
    | succ i => exact ih (by simpa using e)
theorem paired_take {α β : Type} {F : α → β → Prop} {a : List α} {c : List β} (h : Paired F a c) : ∀ (k : Nat), Paired F (a.take k) (c.take k) := by
  induction h with
  | nil => intro k; rw [List.take_nil, List.take_nil]; exact .nil
  | cons r _ ih =>
    intro k
    cases k with
    | zero => exact .nil
    | succ k => exact .cons r (ih k)
theorem paired_drop {α β : Type} {F : α → β → Prop} {a : List α} {c : List β} (h : Paired F a c) : ∀ (k : Nat), Paired F (a.drop k) (c.drop k) := by
  induction h with
  | nil => intro k; rw [List.drop_nil, List.drop_nil]; exact .nil
  | cons r t ih =>
    intro k
    cases k with
    | zero => exact .cons r t
    | succ k => exact ih k
theorem paired_reverse {α β : Type} {F : α → β → Prop} {a : List α} {c : List β} (h : Paired F a c) : Paired F a.reverse c.reverse := by
  induction h with
  | nil => exact .nil
  | cons r _ ih =>
    rw [List.reverse_cons, List.reverse_cons]
    exact paired_append ih (.cons r .nil)
theorem paired_set {α β : Type} {F : α → β → Prop} {a : List α} {c : List β} (h : Paired F a c) {x : α} {y : β} (r : F x y) : ∀ (k : Nat), Paired F (a.set k x) (c.set k y) := by
  induction h with
  | nil => intro k; exact .nil
  | cons r' t ih =>
    intro k
    cases k with
    | zero => exact .cons r t
    | succ k => exact .cons r' (ih k)
theorem paired_map {α β γ : Type} {F : α → β → Prop} {f : γ → α} {h : γ → β} (r : ∀ x, F (f x) (h x)) : ∀ l : List γ, Paired F (l.map f) (l.map h)
  | [] => .nil
  | x :: l => .cons (r x) (paired_map r l)

section
variable {X : Cx}
theorem rd_list {pins : List (Addr × Obj)} {s : Shared} {σ : L2.St} {H : Hp} {l : Addr} {xs : List V} (I : Inv X pins σ H s) (h : Rd H l (.lst xs)) :
    xs.length ≤ sizeLine ∧ ∃ (its : List Value) (n : Nat), Vals xs its ∧ xs.length = its.length ∧ s.heap.get? l = some { cls := .type "list", data := .seq its.toArray n } := by
  obtain ⟨z, its, n, r, e⟩ := h.ok I.hok
  exact ⟨z, its, n, r, r.length, e⟩
/-- list + list, whatever reads them -/
def rCatR : R2 := fun x y H Q => ∃ l b xs zs, x = .ref l ∧ y = .ref b ∧ Rd H l (.lst xs) ∧ Rd H b (.lst zs) ∧ xs.length + zs.length ≤ sizeLine ∧ ∀ p, H p = none → Q (.ref p) (upd H p (.lst (xs ++ zs)))
theorem opCatR : OpR X (binaryOp .Add) rCatR := by
  intro pins s σ H x y v u Q I rx ry h
  obtain ⟨l, b, xs, zs, rfl, rfl, hl, hb, hz, q⟩ := h
  cases rx; cases ry
  obtain ⟨_, its, n, r, el, e⟩ := rd_list I hl
  obtain ⟨_, its2, n2, r2, el2, e2⟩ := rd_list I hb
  refine PySem.P.add_list e e2 ?_ (by simp only [List.size_toArray]; omega)
  rw [show its.toArray ++ its2.toArray = (its ++ its2).toArray from by simp]
  exact ⟨.ref _, _, I.lnew (t' := s.toks) (r.append r2) (by rw [List.length_append]; exact hz), rfl, q _ I.fresh⟩
def rRepR : R2 := fun x y H Q => ∃ l k xs, x = .ref l ∧ y = .int k ∧ Rd H l (.lst xs) ∧ 0 ≤ k ∧ k < 2 ^ 62 ∧ xs.length * k.toNat ≤ sizeLine ∧ ∀ p, H p = none → Q (.ref p) (upd H p (.lst (List.replicate k.toNat xs).flatten))
theorem opRepR : OpR X (binaryOp .Mult) rRepR := by
  intro pins s σ H x y v u Q I rx ry h
  obtain ⟨l, k, xs, rfl, rfl, hl, h0, h1, hz, q⟩ := h
  cases rx
  obtain ⟨t, rfl⟩ := ry
  obtain ⟨_, its, n, r, el, e⟩ := rd_list I hl
  have hsz : its.toArray.size * k.toNat ≤ sizeLine := by
    rw [List.size_toArray, ← el]
    exact hz
  have c1 : ¬ its.toArray.size * k.toNat > (2 ^ 63 - 1) / 8 := by
    have z : (sizeLine : Nat) ≤ (2 ^ 63 - 1) / 8 := by decide
    omega
  have c2 : ¬ (!Builtin.List.listFitsIndex k) = true := by
    rw [fitsIndex_both (by omega) (by omega)]
    simp
  have c3 : ¬ Builtin.List.listTooLong (its.toArray.size * k.toNat) = true := by
    rw [L2.notLongL hsz]
    simp
  have hn : List.foldl (fun a b => a ++ b) #[] (List.replicate (if its.toArray.isEmpty = true then 0 else k.toNat) its.toArray)
      = (List.replicate k.toNat its).flatten.toArray := by
    have f (m : Nat) : List.foldl (fun a b => a ++ b) #[] (List.replicate m its.toArray) = (List.replicate m its).flatten.toArray := by
      have z := L2.foldl_rep its m []
      rwa [List.nil_append] at z
    rw [f]
    cases its with
    | nil => simp
    | cons a r' => simp
  refine wpAny_binaryOp_repeat_ref (T := "list") (U := "int") (by decide) ⟨_, e, rfl⟩ (fun s' => typeIs_int s' k t)
    noFill_list_mul F.fills_int_mul F.slot_int_rmul repeat_list F.slot_int_index.lookup ?_
  refine call_meets F.slot_int_rmul (typeIs_int s k t) F.entry_int_rmul (F.args_int_rmul_2 _ _)
    (int___rmul___int_list k t l its.toArray n) ⟨e, rfl, ⟨_, e, rfl⟩, ?_⟩
  refine call_meets F.slot_list_mul ⟨_, e, rfl⟩ F.entry_list_mul (F.args_list_mul_2 _ _)
    (AutoListH.list___mul___list_int_3 l its.toArray n k t c2 c1 c3) ⟨e, ?_⟩
  rw [hn]
  exact ⟨.ref _, _, I.lnew (t' := s.toks) (r.rep k.toNat) (by rw [PyProof.Rows.lm_len_rep_flat, Nat.mul_comm]; exact hz), rfl, q _ I.fresh⟩
end
def opOf : Bin → Operator
  | .add => .Add | .sub => .Sub | .mul => .Mult | .fdiv => .FloorDiv | .mod => .Mod
def rStrAdd : R2 := fun x y H Q => ∃ i j, x = .str i ∧ y = .str j ∧ i.length + j.length ≤ sizeLine ∧ Q (.str (i ++ j)) H
def rBin : Bin → R2
  | .add => fun x y H Q => L2.rI0 (fun i j => .int (i + j)) x y H Q ∨ rStrAdd x y H Q ∨ rCatR x y H Q
  | .sub => L2.rI0 fun i j => .int (i - j)
  | .mul => fun x y H Q => L2.rI L2.CMul (fun i j => .int (i * j)) x y H Q ∨ rRepR x y H Q
  | .fdiv => L2.rI L2.CDivN fun i j => .int (i.fdiv j)
  | .mod => L2.rI (fun _ j => j ≠ 0) fun i j => .int (i.fmod j)
theorem binOk {X : Cx} : ∀ o : Bin, OpR X (binaryOp (opOf o)) (rBin o)
  | .add => L2.OpR.or L2.op_add (L2.OpR.or L2.op_add_str opCatR)
  | .sub => L2.op_sub
  | .mul => L2.OpR.or L2.op_mul opRepR
  | .fdiv => L2.op_fdivN
  | .mod => L2.op_modN
section
variable {T : Tx} {W' : WX} {g : Gh} {env : Env} {S : Store} {σ : L2.St} {H : Hp} {q : Bool} {c : Ctx}
theorem mulOk_of {i j : Int} (h : mulOk i j = true) : L2.CMul i j := by
  unfold mulOk at h
  simp only [Bool.or_eq_true, Bool.and_eq_true, decide_eq_true_eq] at h
  exact h
theorem bin_sem {o : Bin} {x y : V} {a b w : W} {fr : Bool} {Q : V → Hp → Prop} (s : Sim T g H env S σ) (hx : RdX T g H x a) (hy : RdX T g H y b) (e : binW o a b = some (fr, w)) (hc : fr = false → c ≠ .F) (h : Post T W' q (Res T c) g env σ H (.ok w S) Q) : rBin o x y H Q := by
  unfold binW at e
  split at e
  · cases e
    exact .inl ⟨_, _, rdx_int hx, rdx_int hy, Post.val (hc rfl) s repX_int h⟩
  · rename_i x y
    split at e
    · rename_i hz
      cases e
      exact .inr (.inl ⟨_, _, rdx_str hx, rdx_str hy, by rw [← sizeL_eq]; exact hz, Post.val (hc rfl) s repX_str h⟩)
    · cases e
  · split at e
    · rename_i xs ys hz
      cases e
      obtain ⟨a, us, e1, h1, r1⟩ := rdx_lst hx
      obtain ⟨b, vs, e2, h2, r2⟩ := rdx_lst hy
      refine .inr (.inr ⟨a, b, us, vs, e1, e2, h1, h2, ?_, fun p hp => ?_⟩)
      · rw [r1.length, r2.length, ← sizeL_eq]; exact hz
      · exact Post.new h s hp fun g' st => ⟨_, upd_same, paired_append (paired_imp r1 fun _ _ => st.repX) (paired_imp r2 fun _ _ => st.repX)⟩
    · cases e
  · cases e
    exact ⟨_, _, rdx_int hx, rdx_int hy, Post.val (hc rfl) s repX_int h⟩
  · split at e
    · rename_i hm
      cases e
      exact .inl ⟨_, _, rdx_int hx, rdx_int hy, mulOk_of hm, Post.val (hc rfl) s repX_int h⟩
    · cases e
  · split at e
    · rename_i xs k hz
      cases e
      obtain ⟨a, us, e1, h1, r1⟩ := rdx_lst hx
      refine .inr ⟨a, k, us, e1, rdx_int hy, h1, hz.1, hz.2.1, ?_, fun p hp => ?_⟩
      · rw [r1.length, ← sizeL_eq]; exact hz.2.2
      · exact Post.new h s hp fun g' st => ⟨_, upd_same, paired_rep (paired_imp r1 fun _ _ => st.repX) _⟩
    · cases e
  · split at e
    · rename_i hm
      cases e
      exact ⟨_, _, rdx_int hx, rdx_int hy, hm, Post.val (hc rfl) s repX_int h⟩
    · cases e
  · split at e
    · rename_i hm
      cases e
      exact ⟨_, _, rdx_int hx, rdx_int hy, hm, Post.val (hc rfl) s repX_int h⟩
    · cases e
  · cases e
end

/-! ### comparisons -/
section
variable {T : Tx} {g : Gh} {H : Hp}
theorem dp_of : ∀ (n : Nat) (x : V) (w : W) (d : PyData), Rep T g H n x w → toPy w = some d → L2.Dp T.K H x d
  | 0, _, _, _, h, _ => h.elim
  | n + 1, x, .non, d, h, e => by
    unfold toPy at e; cases e; obtain rfl : x = .non := h; exact .non
  | n + 1, x, .bl b, d, h, e => by
    unfold toPy at e; cases e; obtain rfl : x = .bl b := h; exact .bl b
  | n + 1, x, .int b, d, h, e => by
    unfold toPy at e; cases e; obtain rfl : x = .int b := h; exact .int b
  | n + 1, x, .str b, d, h, e => by
    unfold toPy at e; cases e; obtain rfl : x = .str b := h; exact .str b
  | n + 1, x, .tup ws, d, h, e => by
    obtain ⟨a, xs, rfl, l, r⟩ := h
    unfold toPy at e
    cases q : toPys ws with
    | none => rw [q] at e; cases e
    | some ds =>
      rw [q] at e; cases e
      refine .tup (xs := xs) (l.imp_left (·.2)) ?_
      clear l
      induction r generalizing ds with
      | nil => unfold toPys at q; cases q; exact .nil
      | @cons y w ys ws r' _ ih =>
        unfold toPys at q
        split at q
        · rename_i d ds' h1 h2
          cases q
          exact .cons (dp_of n y w d r' h1) (ih ds' h2)
        · cases q
  | n + 1, x, .lst ws, d, h, e => by
    obtain ⟨a, xs, rfl, l, r⟩ := h
    unfold toPy at e
    cases q : toPys ws with
    | none => rw [q] at e; cases e
    | some ds =>
      rw [q] at e; cases e
      refine .lst (xs := xs) (.inl l.2) ?_
      clear l
      induction r generalizing ds with
      | nil => unfold toPys at q; cases q; exact .nil
      | @cons y w ys ws r' _ ih =>
        unfold toPys at q
        split at q
        · rename_i d ds' h1 h2
          cases q
          exact .cons (dp_of n y w d r' h1) (ih ds' h2)
        · cases q
  | n + 1, x, .ro _, d, h, e => by unfold toPy at e; cases e
  | n + 1, x, .dct _, d, h, e => by unfold toPy at e; cases e
  | n + 1, x, .ins _ _, d, h, e => by unfold toPy at e; cases e
  | n + 1, x, .ref _, d, h, e => by unfold toPy at e; cases e
theorem dps_of {xs : List V} {ws : List W} (r : Paired (RepX T g H) xs ws) : ∀ {ds : List PyData}, toPys ws = some ds → L2.DpAll T.K H xs ds := by
  induction r with
  | nil => intro ds q; unfold toPys at q; cases q; exact .nil
  | @cons y w ys ws r' _ ih =>
    intro ds q
    unfold toPys at q
    split at q
    · rename_i d ds' h1 h2
      cases q
      obtain ⟨n, r'⟩ := r'
      exact .cons (dp_of n y w d r' h1) (ih h2)
    · cases q
theorem dp_rdx {x : V} {w : W} {d : PyData} (h : RdX T g H x w) (e : toPy w = some d) : L2.Dp T.K H x d := by
  rcases h with ⟨n, h⟩ | ⟨a, fl, rfl, o⟩
  · exact dp_of n x w d h e
  · cases w with
    | lst ws =>
      obtain ⟨xs, ha, r⟩ := o
      unfold toPy at e
      cases q : toPys ws with
      | none => rw [q] at e; cases e
      | some ds =>
        rw [q] at e; cases e
        exact .lst (.inl (.inl ha)) (dps_of r q)
    | dct _ => unfold toPy at e; cases e
    | ins _ _ => unfold toPy at e; cases e
    | _ => exact o.elim
theorem eqW_inv {a b : W} {r : Bool} (h : eqW a b = some r) : ∃ d e, toPy a = some d ∧ toPy b = some e ∧ SeqAt.shaped d = true ∧ SeqAt.shaped e = true ∧ r = PyData.eqv d e := by
  unfold eqW at h
  split at h
  · rename_i d e h1 h2
    split at h
    · rename_i hs
      rw [Bool.and_eq_true] at hs
      cases h
      exact ⟨d, e, h1, h2, hs.1, hs.2, rfl⟩
    · cases h
  · cases h
def toV : W → V
  | .bl b => .bl b
  | .int i => .int i
  | .str s => .str s
  | _ => .non
theorem flat_rdx {x : V} {w : W} (h : RdX T g H x w) (f : flatW w = true) : x = toV w ∧ L2.flatV x = true := by
  cases w with
  | non => have e := rdx_non h; rw [e]; exact ⟨rfl, rfl⟩
  | bl b => have e := rdx_bl h; rw [e]; exact ⟨rfl, rfl⟩
  | int b => have e := rdx_int h; rw [e]; exact ⟨rfl, rfl⟩
  | str b => have e := rdx_str h; rw [e]; exact ⟨rfl, rfl⟩
  | _ => cases f
theorem eqF_V {a b : W} (ha : flatW a = true) (hb : flatW b = true) : L2.eqV (toV a) (toV b) = eqF a b := by
  cases a with
  | non | bl _ | int _ | str _ =>
    cases b with
    | non | bl _ | int _ | str _ => rfl
    | _ => exact absurd hb Bool.false_ne_true
  | _ => exact absurd ha Bool.false_ne_true
theorem flats {xs : List V} {ws : List W} (r : Paired (RepX T g H) xs ws) (f : ws.all flatW = true) : xs.all L2.flatV = true ∧ ∀ x : W, flatW x = true → L2.inV (toV x) xs = ws.any fun y => eqF y x := by
  induction r with
  | nil => exact ⟨rfl, fun _ _ => rfl⟩
  | @cons y w ys ws r' _ ih =>
    rw [List.all_cons, Bool.and_eq_true] at f
    obtain ⟨i1, i2⟩ := ih f.2
    obtain ⟨e1, e2⟩ := flat_rdx r'.rdX f.1
    refine ⟨by rw [List.all_cons, e2, i1]; rfl, fun x fx => ?_⟩
    have z := i2 x fx
    unfold L2.inV at z ⊢
    rw [List.any_cons, List.any_cons, z, e1, eqF_V f.1 fx]
end
def cmpOf : Cmp → CmpOp
  | .eq => .Eq | .ne => .NotEq | .lt => .Lt | .le => .LtE | .gt => .Gt | .ge => .GtE | .isIn => .In | .notIn => .NotIn | .isN => .Is | .notN => .IsNot
def rOrS (f : Int → Int → Bool) (h : Str → Str → Bool) : R2 := fun x y H Q => L2.rI0 (fun i j => .bl (f i j)) x y H Q ∨ ∃ i j, x = .str i ∧ y = .str j ∧ Q (.bl (h i j)) H
def rInD (neg : Bool) : R2 := fun y x H Q => ∃ a o, x = .ref a ∧ L2.DGet H a y o ∧ Q (.bl (if neg then !o.isSome else o.isSome)) H
def rInS (neg : Bool) : R2 := fun x y H Q => ∃ i j, x = .str i ∧ y = .str j ∧ Q (.bl (if neg then !(!(Builtin.Str.occurrences j i 0 j.length 1).isEmpty) else !(Builtin.Str.occurrences j i 0 j.length 1).isEmpty)) H
def rCmp (K : PySem.W.Frag) : Cmp → R2
  | .eq => L2.rEqD K
  | .ne => L2.rNeD K
  | .lt => rOrS (fun i j => decide (i < j)) ltS
  | .le => rOrS (fun i j => decide (i ≤ j)) fun i j => !ltS j i
  | .gt => rOrS (fun i j => decide (j < i)) fun i j => ltS j i
  | .ge => rOrS (fun i j => decide (j ≤ i)) fun i j => !ltS i j
  | .isIn => fun x y H Q => L2.rIn K false x y H Q ∨ rInD false x y H Q ∨ rInS false x y H Q
  | .notIn => fun x y H Q => L2.rIn K true x y H Q ∨ rInD true x y H Q ∨ rInS true x y H Q
  | .isN => fun x y H Q => y = .non ∧ Q (.bl (decide (x = .non))) H
  | .notN => fun x y H Q => y = .non ∧ Q (.bl (!decide (x = .non))) H
section
variable {X : Cx}
theorem op_inD (hu : X.A.units + 1 < cLine) : OpR X (compareOp .In) (rInD false) := by
  intro pins s σ H y x v u Q I ry rx h
  obtain ⟨a, o, rfl, d, q⟩ := h
  cases rx
  exact L2.d_in hu I d ry fun s' I' => ⟨.bl o.isSome, H, I', rfl, q⟩
theorem op_ninD (hu : X.A.units + 1 < cLine) : OpR X (compareOp .NotIn) (rInD true) := by
  intro pins s σ H y x v u Q I ry rx h
  obtain ⟨a, o, rfl, d, q⟩ := h
  cases rx
  exact L2.d_notIn hu I d ry fun s' I' => ⟨.bl (!o.isSome), H, I', rfl, q⟩
theorem cmpOk (hu : X.A.units + 64 < cLine) : ∀ o : Cmp, OpR X (compareOp (cmpOf o)) (rCmp X.K o)
  | .eq => L2.op_eqD hu
  | .ne => L2.op_neD hu
  | .lt => L2.OpR.or L2.op_lt L2.op_lt_str
  | .le => L2.OpR.or L2.op_le L2.op_le_str
  | .gt => L2.OpR.or L2.op_gt L2.op_gt_str
  | .ge => L2.OpR.or L2.op_ge L2.op_ge_str
  | .isIn => L2.OpR.or L2.op_in_seq (L2.OpR.or (op_inD (by omega)) L2.op_in_str)
  | .notIn => L2.OpR.or L2.op_notIn_seq (L2.OpR.or (op_ninD (by omega)) L2.op_notIn_str)
  | .isN => L2.op_isN
  | .notN => L2.op_notN
end
section
variable {T : Tx} {g : Gh} {H : Hp}
theorem key_inv {w : W} {k : Key} (h : keyW w = some k) : w = kW k := by
  cases w with
  | int i => cases h; rfl
  | str i => cases h; rfl
  | _ => cases h
theorem key_rdx {x : V} {w : W} {k : Key} (h : RdX T g H x w) (e : keyW w = some k) : x = L2.kV k := by
  have e' := key_inv e
  subst e'
  cases k with
  | inl i => exact rdx_int h
  | inr i => exact rdx_str h
theorem repX_kV {k : Key} : RepX T g H (L2.kV k) (kW k) := by
  cases k with
  | inl i => exact repX_int
  | inr i => exact repX_str
theorem val_paired {ks : List (Key × V)} {kvs : List (Key × W)} (r : Paired (fun (p : Key × V) (q : Key × W) => p.1 = q.1 ∧ RepX T g H p.2 q.2) ks kvs) (k : Key) :
    (valW kvs k = none ∧ L2.valV ks k = none) ∨ ∃ w x, valW kvs k = some w ∧ L2.valV ks k = some x ∧ RepX T g H x w := by
  induction r with
  | nil => exact .inl ⟨rfl, rfl⟩
  | @cons p q ks kvs z _ ih =>
    by_cases h : q.1 = k
    · refine .inr ⟨q.2, p.2, ?_, ?_, z.2⟩
      · simp [valW, List.find?_cons, h]
      · exact L2.valV_pos (z.1.trans h)
    · have e1 : valW (q :: kvs) k = valW kvs k := by simp [valW, List.find?_cons, h]
      have e2 : L2.valV (p :: ks) k = L2.valV ks k := L2.valV_neg fun e => h (z.1.symm.trans e)
      rw [e1, e2]
      exact ih
/-- what a dict holds -/
theorem get_rdx {x y : V} {kvs : List (Key × W)} {i : W} {k : Key} (h : RdX T g H x (.dct kvs)) (hk : RdX T g H y i) (e : keyW i = some k) :
    ∃ a o, x = .ref a ∧ L2.DGet H a y o ∧ ((valW kvs k = none ∧ o = none) ∨ ∃ w v, valW kvs k = some w ∧ o = some v ∧ RepX T g H v w) := by
  obtain ⟨a, ks, ex, hr, r⟩ := rdx_dct h
  refine ⟨a, L2.valV ks k, ex, .inl ⟨ks, k, hr, key_rdx hk e, rfl⟩, ?_⟩
  rcases val_paired r k with ⟨h1, h2⟩ | ⟨w, v, h1, h2, h3⟩
  · exact .inl ⟨h1, h2⟩
  · exact .inr ⟨w, v, h1, h2, h3⟩
theorem in_sem {x y : V} {a b : W} {r neg : Bool} {Q : V → Hp → Prop} (hx : RdX T g H x a) (hy : RdX T g H y b) (e : inW a b = some r) (q : Q (.bl (if neg then !r else r)) H) :
    L2.rIn T.K neg x y H Q ∨ rInD neg x y H Q ∨ rInS neg x y H Q := by
  unfold inW at e
  split at e
  · split at e
    · rename_i ws hf
      rw [Bool.and_eq_true] at hf
      cases e
      obtain ⟨p, xs, e1, h1, r1⟩ := rdx_lst hy
      obtain ⟨f1, f2⟩ := flats r1 hf.2
      obtain ⟨e2, f3⟩ := flat_rdx hx hf.1
      refine .inl ⟨p, xs, e1, .inl (.inl h1), f3, f1, ?_⟩
      rw [e2, f2 _ hf.1]
      exact q
    · cases e
  · split at e
    · rename_i ws hf
      rw [Bool.and_eq_true] at hf
      cases e
      obtain ⟨p, xs, e1, h1, r1⟩ := rdx_tup hy
      obtain ⟨f1, f2⟩ := flats r1 hf.2
      obtain ⟨e2, f3⟩ := flat_rdx hx hf.1
      refine .inl ⟨p, xs, e1, .inr h1, f3, f1, ?_⟩
      rw [e2, f2 _ hf.1]
      exact q
    · cases e
  · rename_i kvs
    cases hk : keyW a with
    | none => rw [hk] at e; cases e
    | some k =>
      rw [hk] at e; cases e
      obtain ⟨p, o, e1, d, ho⟩ := get_rdx hy hx hk
      refine .inr (.inl ⟨p, o, e1, d, ?_⟩)
      rcases ho with ⟨h1, rfl⟩ | ⟨w, v, h1, rfl, _⟩
      · dsimp only at q; rw [h1] at q; exact q
      · dsimp only at q; rw [h1] at q; exact q
  · split at e
    · cases e
      exact .inr (.inr ⟨_, _, rdx_str hx, rdx_str hy, q⟩)
    · cases e
  · cases e
theorem isN_inv {a b : W} {r : Bool} (e : cmpW .isN a b = some r) : b = .non ∧ r = isNon a := by
  unfold cmpW at e
  split at e <;> first | (rename_i h; cases h; done) | skip
  all_goals first | (cases e; done) | skip
  exact ⟨rfl, (Option.some.inj e).symm⟩
theorem notN_inv {a b : W} {r : Bool} (e : cmpW .notN a b = some r) : b = .non ∧ r = !isNon a := by
  unfold cmpW at e
  split at e <;> first | (rename_i h; cases h; done) | skip
  all_goals first | (cases e; done) | skip
  exact ⟨rfl, (Option.some.inj e).symm⟩
theorem isN_sem {x : V} {a : W} (hx : RdX T g H x a) : decide (x = .non) = isNon a := by
  cases a with
  | non => rw [rdx_non hx]; rfl
  | bl b => rw [rdx_bl hx]; rfl
  | int b => rw [rdx_int hx]; rfl
  | str b => rw [rdx_str hx]; rfl
  | tup ws => obtain ⟨a, xs, e, _⟩ := rdx_tup hx; rw [e]; rfl
  | lst ws => obtain ⟨a, xs, e, _⟩ := rdx_lst hx; rw [e]; rfl
  | ro ws => obtain ⟨a, xs, e, _⟩ := rdx_ro hx; rw [e]; rfl
  | dct ws => obtain ⟨a, xs, e, _⟩ := rdx_dct hx; rw [e]; rfl
  | ins c ws => obtain ⟨a, xs, ys, e, _⟩ := rdx_ins hx; rw [e]; rfl
  | ref n => rw [(rdx_ref hx).1]; rfl
def Ord (f : Int → Int → Bool) (h : Str → Str → Bool) (a b : W) (r : Bool) : Prop := (∃ i j, a = .int i ∧ b = .int j ∧ r = f i j) ∨ ∃ i j, a = .str i ∧ b = .str j ∧ r = h i j
theorem ord_lt {a b : W} {r : Bool} (e : cmpW .lt a b = some r) : Ord (fun i j => decide (i < j)) ltS a b r := by
  unfold cmpW at e
  split at e <;> first | (rename_i h; cases h; done) | skip
  all_goals first | (cases e; done) | skip
  · exact .inl ⟨_, _, rfl, rfl, (Option.some.inj e).symm⟩
  · exact .inr ⟨_, _, rfl, rfl, (Option.some.inj e).symm⟩
theorem ord_le {a b : W} {r : Bool} (e : cmpW .le a b = some r) : Ord (fun i j => decide (i ≤ j)) (fun i j => !ltS j i) a b r := by
  unfold cmpW at e
  split at e <;> first | (rename_i h; cases h; done) | skip
  all_goals first | (cases e; done) | skip
  · exact .inl ⟨_, _, rfl, rfl, (Option.some.inj e).symm⟩
  · exact .inr ⟨_, _, rfl, rfl, (Option.some.inj e).symm⟩
theorem ord_gt {a b : W} {r : Bool} (e : cmpW .gt a b = some r) : Ord (fun i j => decide (j < i)) (fun i j => ltS j i) a b r := by
  unfold cmpW at e
  split at e <;> first | (rename_i h; cases h; done) | skip
  all_goals first | (cases e; done) | skip
  · exact .inl ⟨_, _, rfl, rfl, (Option.some.inj e).symm⟩
  · exact .inr ⟨_, _, rfl, rfl, (Option.some.inj e).symm⟩
theorem ord_ge {a b : W} {r : Bool} (e : cmpW .ge a b = some r) : Ord (fun i j => decide (j ≤ i)) (fun i j => !ltS i j) a b r := by
  unfold cmpW at e
  split at e <;> first | (rename_i h; cases h; done) | skip
  all_goals first | (cases e; done) | skip
  · exact .inl ⟨_, _, rfl, rfl, (Option.some.inj e).symm⟩
  · exact .inr ⟨_, _, rfl, rfl, (Option.some.inj e).symm⟩
theorem ord_sem {f : Int → Int → Bool} {h : Str → Str → Bool} {x y : V} {a b : W} {r : Bool} {Q : V → Hp → Prop} (hx : RdX T g H x a) (hy : RdX T g H y b) (e : Ord f h a b r) (q : Q (.bl r) H) : rOrS f h x y H Q := by
  rcases e with ⟨i, j, rfl, rfl, rfl⟩ | ⟨i, j, rfl, rfl, rfl⟩
  · exact .inl ⟨i, j, rdx_int hx, rdx_int hy, q⟩
  · exact .inr ⟨i, j, rdx_str hx, rdx_str hy, q⟩
theorem cmp_sem {o : Cmp} {x y : V} {a b : W} {r : Bool} {Q : V → Hp → Prop} (hx : RdX T g H x a) (hy : RdX T g H y b) (e : cmpW o a b = some r) (q : Q (.bl r) H) : rCmp T.K o x y H Q := by
  cases o with
  | eq =>
    obtain ⟨d, e', h1, h2, s1, s2, rfl⟩ := eqW_inv (show eqW a b = some r from e)
    exact ⟨d, e', dp_rdx hx h1, dp_rdx hy h2, s1, s2, q⟩
  | ne =>
    cases hq : eqW a b with
    | none => rw [show cmpW .ne a b = (eqW a b).map (! ·) from rfl, hq] at e; cases e
    | some r' =>
      rw [show cmpW .ne a b = (eqW a b).map (! ·) from rfl, hq] at e; cases e
      obtain ⟨d, e', h1, h2, s1, s2, rfl⟩ := eqW_inv hq
      exact ⟨d, e', dp_rdx hx h1, dp_rdx hy h2, s1, s2, q⟩
  | lt => exact ord_sem hx hy (f := fun i j => decide (i < j)) (h := ltS) (ord_lt e) q
  | le => exact ord_sem hx hy (f := fun i j => decide (i ≤ j)) (h := fun i j => !ltS j i) (ord_le e) q
  | gt => exact ord_sem hx hy (f := fun i j => decide (j < i)) (h := fun i j => ltS j i) (ord_gt e) q
  | ge => exact ord_sem hx hy (f := fun i j => decide (j ≤ i)) (h := fun i j => !ltS i j) (ord_ge e) q
  | isIn => exact in_sem (neg := false) hx hy (show inW a b = some r from e) q
  | notIn =>
    cases hq : inW a b with
    | none => rw [show cmpW .notIn a b = (inW a b).map (! ·) from rfl, hq] at e; cases e
    | some r' =>
      rw [show cmpW .notIn a b = (inW a b).map (! ·) from rfl, hq] at e; cases e
      exact in_sem (neg := true) hx hy hq q
  | isN =>
    obtain ⟨rfl, e1⟩ := isN_inv e
    exact ⟨rdx_non hy, by rw [isN_sem hx, ← e1]; exact q⟩
  | notN =>
    obtain ⟨rfl, e1⟩ := notN_inv e
    exact ⟨rdx_non hy, by rw [isN_sem hx, ← e1]; exact q⟩
theorem if_some {α : Type} {p : Prop} [Decidable p] {x y : α} (h : (if p then some x else none) = some y) : p ∧ x = y := by
  split at h
  · exact ⟨by assumption, Option.some.inj h⟩
  · cases h
/-! ### truth, items, slices, len -/
theorem isEmpty_paired {α β : Type} {F : α → β → Prop} {a : List α} {c : List β} (h : Paired F a c) : a.isEmpty = c.isEmpty := by cases h <;> rfl
theorem tru_sem {x : V} {w : W} {r : Bool} (h : RdX T g H x w) (e : truW w = some r) : L2.TruV T.K x H r := by
  cases w with
  | non => rw [rdx_non h]; cases e; exact rfl
  | bl b => rw [rdx_bl h]; cases e; exact rfl
  | int b => rw [rdx_int h]; cases e; exact rfl
  | str b =>
    rw [rdx_str h]
    obtain ⟨hz, e1⟩ := if_some (show (if b.length ≤ sizeL then some ((b.length : Int) != 0) else none) = some r from e)
    exact ⟨by rw [← sizeL_eq]; exact hz, e1.symm⟩
  | lst ws =>
    obtain ⟨a, xs, ex, hr, r⟩ := rdx_lst h
    cases e
    rw [ex]
    exact .inl ⟨xs, .inl hr, by rw [isEmpty_paired r]⟩
  | ro ws =>
    obtain ⟨a, xs, ex, hr, r⟩ := rdx_ro h
    cases e
    rw [ex]
    exact .inl ⟨xs, hr, by rw [isEmpty_paired r]⟩
  | tup ws =>
    obtain ⟨a, xs, ex, hr, r⟩ := rdx_tup h
    cases e
    rw [ex]
    exact .inr (.inl ⟨xs, hr, by rw [isEmpty_paired r]⟩)
  | _ => cases e
theorem at_paired {F : V → W → Prop} {xs : List V} {ws : List W} (r : Paired F xs ws) {i : Int} {w : W} (h : L2.atI ws i = some w) : ∃ x, L2.atI xs i = some x ∧ F x w := by
  unfold L2.atI at h ⊢
  rw [r.length]
  cases q : L2.ixN ws.length i with
  | none => rw [q] at h; cases h
  | some j =>
    rw [q] at h
    exact paired_get r h
theorem sub_sem {x y : V} {a i w : W} {Q : V → Hp → Prop} (hx : RdX T g H x a) (hy : RdX T g H y i) (e : subW a i = some w) (q : ∀ v, RepX T g H v w → Q v H) :
    L2.rIx T.K x y H Q ∨ ∃ p v, x = .ref p ∧ L2.DGet H p y (some v) ∧ Q v H := by
  unfold subW at e
  split at e
  · obtain ⟨p, xs, e1, h1, r1⟩ := rdx_lst hx
    obtain ⟨v, e2, r2⟩ := at_paired r1 e
    exact .inl (.inl ⟨p, xs, _, v, e1, rdx_int hy, .inl h1, e2, q v r2⟩)
  · obtain ⟨p, xs, e1, h1, r1⟩ := rdx_ro hx
    obtain ⟨v, e2, r2⟩ := at_paired r1 e
    exact .inl (.inl ⟨p, xs, _, v, e1, rdx_int hy, h1, e2, q v r2⟩)
  · obtain ⟨p, xs, e1, h1, r1⟩ := rdx_tup hx
    obtain ⟨v, e2, r2⟩ := at_paired r1 e
    exact .inl (.inr (.inl ⟨p, xs, _, v, e1, rdx_int hy, h1, e2, q v r2⟩))
  · split at e
    · rename_i z k hz
      cases hc : L2.atI z.cps.toList k with
      | none => rw [hc] at e; cases e
      | some c =>
        rw [hc] at e; cases e
        exact .inl (.inr (.inr ⟨z, k, c, rdx_str hx, rdx_int hy, by rw [← sizeL_eq]; exact hz, hc, q _ repX_str⟩))
    · cases e
  · cases hk : keyW i with
    | none => rw [hk] at e; cases e
    | some k =>
      rw [hk] at e
      obtain ⟨p, o, e1, d, ho⟩ := get_rdx hx hy hk
      rcases ho with ⟨h1, rfl⟩ | ⟨w', v, h1, rfl, h3⟩
      · rw [Option.bind_some, h1] at e; cases e
      · rw [Option.bind_some, h1] at e; cases e
        exact .inr ⟨p, v, e1, d, q v h3⟩
  · cases e
end
end Wb
namespace Wb
open PySem PySem.Spec PyProof.Rows
open L2 (V Hp HO Rd upd upd_same upd_ne SqL SqT VK TE TT TA TS TG TI TO Ends WX XK R2 Cx Inv RelV Vals ne_of_none PE PT PA PS PSs PG PI OpR UnR CallR MtR Gl Vis Loc)

/-- what a context must have -/
structure XG (X : Cx) (T : Tx) : Prop where
  eK : X.K = T.K
  eP : X.prog = T.prog
  eW : X.w = T.w
  eB : X.base = T.base
  eM : X.mg = T.mg
  nd : X.N.Nodup
  hu : X.A.units + 64 < cLine
  calm : X.calm = true

section
variable {T : Tx} {g g' : Gh} {H H' H0 : Hp} {q : Bool}
theorem held_rdx {x : V} {w : W} (h : Res T (.held q) H0 g H x w) (e : Ext q g H g' H') : RdX T g' H' x w := by
  cases q with
  | true => exact RdX.extQ e h
  | false => exact (RdS.ext e h).rdX
theorem resB_V {x : V} {w : W} (h : Res T .V H0 g H x w) : RdX T g H x w := .inl h
end

/-! ### what an expression's text must be for the rules to hold -/
def okx : Expr → Bool
  | .Starred _ _ => false
  | .Slice _ _ _ _ => false
  | .Set _ _ _ => false
  | .Call (.Name x _) [] [] _ => x != "super"
  | _ => true
def okxs (es : List Expr) : Bool := es.all okx
theorem star_cons {env : PySem.Env} {e : Expr} (h : okx e = true) (es : List Expr) : starEach (e :: es) env = (false, eval e env) :: starEach es env := by
  cases e <;> first | rfl | exact absurd h Bool.false_ne_true
theorem star_none {env : PySem.Env} : ∀ {es : List Expr}, okxs es = true → ∀ pos : Pos, (backTo pos (starEach es env)).any (·.1) = false
  | [], _, pos => rfl
  | e :: es, h, pos => by
    have h' : (okx e && okxs es) = true := h
    rw [Bool.and_eq_true] at h'
    rw [star_cons h'.1]
    show (false || (backTo pos (starEach es env)).any (·.1)) = false
    rw [star_none h'.2 pos]
    rfl
theorem base_ok {env : PySem.Env} {e : Expr} (h : okx e = true) (f : Str) : attributeBase e f env (eval e env) = eval e env := by
  unfold attributeBase
  split
  · rename_i id p pos
    have hn : (id != "super") = true := h
    simp [hn]
  · rfl
theorem plain_ix {b : Expr} (h : okx b = true) : L2.PlainIx b := by
  intro o i
  cases b <;> first | rfl | exact absurd h Bool.false_ne_true
theorem no_mark {b : Expr} (h : okx b = true) (op : CmpOp) : behindInMarks op b = false := by
  cases b <;> first | rfl | exact absurd h Bool.false_ne_true

section
variable {X : Cx} {T : Tx} {W' : WX} {c : Ctx} {pos : Pos}
theorem se_var {i : Nat} {x : Str} (hN : X.N[i]? = some x) (hv : Vis X.env.scope x) (hd : (x == ("__debug__" : Str)) = false) (hcd : (x == ("__classdict__" : Str)) = false) : PE X (.Name x pos) (tE T W' c (.var i)) := by
  refine pe_imp (L2.pe_var hN hv hd hcd) fun σ H Q ⟨g, env, S, s, p⟩ => ?_
  unfold ev at p
  split at p
  · rename_i w hw
    by_cases hc : c = .F
    · simp only [hc, if_true] at p
      exact p.elim
    · simp only [hc, if_false] at p
      obtain ⟨x, ex, r⟩ := s.slots i _ _ hw
      exact ⟨x, ex, Post.val hc s r p⟩
  · rename_i fl w hfl hw
    by_cases hc : c = .B ∨ c = .S
    · simp only [hc, if_true] at p
      have key : ∃ a, σ[i]? = some (some (.ref a)) ∧ g.L a = .slot i ∧ ∃ fl, Own T g H fl a w := by
        have z := s.slots i _ _ hw
        cases fl with
        | v => exact absurd rfl hfl
        | o => obtain ⟨a, h1, h2, h3⟩ := z; exact ⟨a, h1, h2, _, h3⟩
        | k => obtain ⟨a, h1, h2, h3⟩ := z; exact ⟨a, h1, h2, _, h3⟩
      obtain ⟨a, h1, h2, fl, h3⟩ := key
      refine ⟨.ref a, h1, p _ g H Ext.refl s ?_⟩
      rcases hc with rfl | rfl
      · exact .inr ⟨a, fl, rfl, h3⟩
      · exact .inr ⟨a, fl, rfl, h3, .inr ⟨i, h2⟩, h3.some⟩
    · simp only [hc, if_false] at p
      exact p.elim
  · exact p.elim
/-- a value that is the same in every state -/
def Stable (T : Tx) (v : V) (w : W) : Prop := ∀ g H, RepX T g H v w
theorem se_const {e : Expr} {v : V} {w : W} {ir : E} (h : PE X e (L2.tC v)) (r : Stable T v w) (he : ∀ c env S, ev c ir env S = ofW c (some w) S) : PE X e (tE T W' c ir) := by
  refine pe_imp h fun σ H Q ⟨g, env, S, s, p⟩ => ?_
  rw [he] at p
  obtain ⟨w', e1, hc, p⟩ := ofW_ok p
  cases e1
  exact Post.val hc s (r g H) p
theorem se_bin {a b : Expr} {a' b' : E} {o : Bin} (ha : PE X a (tE T W' (.held (quiet b')) a')) (hb : PE X b (tE T W' .B b')) : PE X (.BinOp a (opOf o) b pos) (tE T W' c (.bin o a' b')) := by
  refine pe_imp (L2.pe_op (binOk o) ha hb) fun σ H Q ⟨g, env, S, s, p⟩ => ?_
  unfold ev at p
  refine ⟨g, env, S, s, Post.bind (qa := quiet a') (qb := quiet b') bm_res (by simp [quiet]) p fun av S1 x g1 H1 _ e1 s1 r1 p1 => ?_⟩
  refine ⟨g1, env, S1, s1, Post.bind (qa := quiet b') (qb := true) bm_res (by simp) p1 fun bv S2 y g2 H2 _ e2 s2 r2 p2 => ?_⟩
  obtain ⟨fr, w, e, hc, p3⟩ := ofPV_ok p2
  exact bin_sem s2 (held_rdx r1 e2) r2 e hc p3
theorem se_neg {a : Expr} {a' : E} (ha : PE X a (tE T W' .B a')) : PE X (.UnaryOp .USub a pos) (tE T W' c (.neg a')) := by
  refine pe_imp (L2.pe_un L2.un_neg ha) fun σ H Q ⟨g, env, S, s, p⟩ => ?_
  unfold ev at p
  refine ⟨g, env, S, s, Post.bind (qa := quiet a') (qb := true) bm_res (by simp [quiet]) p fun av S1 x g1 H1 _ e1 s1 r1 p1 => ?_⟩
  split at p1
  · obtain ⟨w, e, hc, p3⟩ := ofW_ok p1
    cases e
    exact ⟨_, rdx_int r1, Post.val hc s1 repX_int p3⟩
  · exact p1.elim
theorem ofB_ok {T : Tx} {W' : WX} {q : Bool} {g : Gh} {env : Env} {σ : L2.St} {H : Hp} {c : Ctx} {p : Option Bool} {S : Store} {Q : V → Hp → Prop} (h : Post T W' q (Res T c) g env σ H (ofB c p S) Q) : ∃ b, p = some b ∧ c ≠ .F ∧ Post T W' q (Res T c) g env σ H (.ok (.bl b) S) Q := by
  obtain ⟨w, e, hc, h⟩ := ofW_ok h
  cases p with
  | none => cases e
  | some b => cases e; exact ⟨b, rfl, hc, h⟩
theorem se_cmp (G : XG X T) {a b : Expr} {a' b' : E} {o : Cmp} (ha : PE X a (tE T W' (.held (quiet b')) a')) (hb : PE X b (tE T W' .B b')) (ok : okx b = true) : PE X (.Compare a [cmpOf o] [b] pos) (tE T W' c (.cmp o a' b')) := by
  have z := cmpOk G.hu o
  rw [G.eK] at z
  refine pe_imp (L2.pe_cmpR z ha hb (no_mark ok _)) fun σ H Q ⟨g, env, S, s, p⟩ => ?_
  unfold ev at p
  refine ⟨g, env, S, s, Post.bind (qa := quiet a') (qb := quiet b') bm_res (by simp [quiet]) p fun av S1 x g1 H1 _ e1 s1 r1 p1 => ?_⟩
  refine ⟨g1, env, S1, s1, Post.bind (qa := quiet b') (qb := true) bm_res (by simp) p1 fun bv S2 y g2 H2 _ e2 s2 r2 p2 => ?_⟩
  obtain ⟨k, e, hc, p3⟩ := ofB_ok p2
  exact cmp_sem (held_rdx r1 e2) r2 e (Post.val hc s2 repX_bl p3)
theorem st_cmp (G : XG X T) {a b : Expr} {a' b' : E} {o : Cmp} (ha : PE X a (tE T W' (.held (quiet b')) a')) (hb : PE X b (tE T W' .B b')) (ok : okx b = true) : PT X (.Compare a [cmpOf o] [b] pos) (tT T W' (.cmp o a' b')) := by
  have z := cmpOk G.hu o
  rw [G.eK] at z
  refine pt_imp (L2.pt_cmpR z ha hb (no_mark ok _)) fun σ H Q ⟨g, env, S, s, p⟩ => ?_
  unfold evt ev at p
  refine ⟨g, env, S, s, ?_⟩
  revert p
  cases hx : ev (.held (quiet b')) a' env S with
  | bad => exact fun p => p
  | exn cc fs S' => exact fun p => p
  | ok av S1 =>
    rw [R.bind_ok]
    intro p x g1 H1 e1 s1 r1
    refine ⟨g1, env, S1, s1, ?_⟩
    revert p
    cases hy : ev .B b' env S1 with
    | bad => exact fun p => p
    | exn cc fs S' => exact fun p d g' H' e' s' k => p d g' H' ((e1.weak (by simp)).trans e') s' k
    | ok bv S2 =>
      rw [R.bind_ok]
      intro p y g2 H2 e2 s2 r2
      cases hk : cmpW o av bv with
      | none =>
        rw [hk] at p
        exact p.elim
      | some k =>
        rw [hk] at p
        refine cmp_sem (held_rdx r1 e2) r2 hk ⟨k, rfl, ?_⟩
        exact p k g2 H2 ((e1.trans' e2).weak (by simp [quiet])) s2 rfl
theorem chain_sem {a' b' d' : E} {o1 o2 : Cmp} {σ : L2.St} {H : Hp} {Q : VK} (h : tE T W' c (.chain o1 o2 a' b' d') σ H Q) : L2.tChain (rCmp T.K o1) (rCmp T.K o2) (tE T W' .V a') (tE T W' .V b') (tE T W' .V d') σ H Q := by
  obtain ⟨g, env, S, s, p⟩ := h
  unfold ev at p
  refine ⟨g, env, S, s, Post.bind (qa := quiet a') (qb := quiet b' && quiet d') bm_res (by simp [quiet, Bool.and_assoc]) p fun av S1 x g1 H1 _ e1 s1 r1 p1 => ?_⟩
  refine ⟨g1, env, S1, s1, Post.bind (qa := quiet b') (qb := quiet d') bm_res (by simp) p1 fun bv S2 y g2 H2 _ e2 s2 r2 p2 => ?_⟩
  have r1' := e2.stay.repX r1
  split at p2
  · rename_i hk
    refine cmp_sem r1'.rdX (resB_V r2) hk ⟨true, rfl, ?_⟩
    rw [if_pos rfl]
    refine ⟨g2, env, S2, s2, Post.bind (qa := quiet d') (qb := true) bm_res (by simp) p2 fun dv S3 w g3 H3 _ e3 s3 r3 p3 => ?_⟩
    obtain ⟨k, e, hc, p4⟩ := ofB_ok p3
    exact cmp_sem (e3.stay.repX r2).rdX (resB_V r3) e (Post.val hc s3 repX_bl p4)
  · rename_i hk
    refine cmp_sem r1'.rdX (resB_V r2) hk ⟨false, rfl, ?_⟩
    rw [if_neg Bool.false_ne_true]
    obtain ⟨k, e, hc, p4⟩ := ofB_ok p2
    cases e
    exact Post.val hc s2 repX_bl p4
  · exact p2.elim
theorem se_chain (G : XG X T) {a b d : Expr} {a' b' d' : E} {o1 o2 : Cmp} (ha : PE X a (tE T W' .V a')) (hb : PE X b (tE T W' .V b')) (hd : PE X d (tE T W' .V d')) (ok : okx d = true) : PE X (.Compare a [cmpOf o1, cmpOf o2] [b, d] pos) (tE T W' c (.chain o1 o2 a' b' d')) := by
  have z1 := cmpOk G.hu o1
  have z2 := cmpOk G.hu o2
  rw [G.eK] at z1 z2
  exact pe_imp (L2.pe_chain z1 z2 ha hb hd (no_mark ok _)) fun σ H Q h => chain_sem h
theorem ofB_bl {p : Option Bool} {S S' : Store} {w : W} (h : ofB c p S = .ok w S') : ∃ k, w = .bl k := by
  cases p with
  | none => cases h
  | some b =>
    unfold ofB ofW at h
    dsimp only [Option.map] at h
    split at h
    · cases h
    · cases h; exact ⟨b, rfl⟩
theorem R.bind_inv {α β : Type} {r : R α} {f : α → Store → R β} {b : β} {S : Store} (h : r.bind f = .ok b S) : ∃ a S1, r = .ok a S1 ∧ f a S1 = .ok b S := by
  cases r with
  | ok a S1 => exact ⟨a, S1, rfl, h⟩
  | exn _ _ _ => cases h
  | bad => cases h
theorem chain_bl {a' b' d' : E} {o1 o2 : Cmp} {env : Env} {S S' : Store} {w : W} (h : ev c (.chain o1 o2 a' b' d') env S = .ok w S') : ∃ k, w = .bl k := by
  unfold ev at h
  obtain ⟨x, S1, _, h⟩ := R.bind_inv h
  obtain ⟨y, S2, _, h⟩ := R.bind_inv h
  split at h
  · obtain ⟨z, S3, _, h⟩ := R.bind_inv h
    exact ofB_bl h
  · exact ofB_bl h
  · cases h
theorem st_chain (G : XG X T) {a b d : Expr} {a' b' d' : E} {o1 o2 : Cmp} (ha : PE X a (tE T W' .V a')) (hb : PE X b (tE T W' .V b')) (hd : PE X d (tE T W' .V d')) (ok : okx d = true) : PT X (.Compare a [cmpOf o1, cmpOf o2] [b, d] pos) (tT T W' (.chain o1 o2 a' b' d')) := by
  have z1 := cmpOk G.hu o1
  have z2 := cmpOk G.hu o2
  rw [G.eK] at z1 z2
  refine pt_imp (L2.pt_chain z1 z2 ha hb hd (no_mark ok _)) fun σ H Q ⟨g, env, S, s, p⟩ => chain_sem (c := .B) ⟨g, env, S, s, ?_⟩
  unfold evt at p
  refine Post.bind (Ka := Res T .B) (qb := true) bm_resB (by simp) p fun av S1 x g1 H1 ea e1 s1 r1 p1 => ?_
  obtain ⟨k, rfl⟩ := chain_bl ea
  exact ⟨k, rdx_bl r1, p1 k g1 H1 Ext.refl s1 rfl⟩
theorem se_and {a b : Expr} {rest : List Expr} {a' b' : E} (ha : PE X a (tE T W' .B a')) (hb : PE X (.BoolOp .And (b :: rest) pos) (tE T W' c b')) : PE X (.BoolOp .And (a :: b :: rest) pos) (tE T W' c (.and a' b')) := by
  refine pe_imp (L2.pe_and ha hb) fun σ H Q ⟨g, env, S, s, p⟩ => ?_
  unfold ev at p
  refine ⟨g, env, S, s, Post.bind (qa := quiet a') (qb := quiet b') bm_res (by simp [quiet]) p fun av S1 x g1 H1 _ e1 s1 r1 p1 => ?_⟩
  unfold selB at p1
  split at p1
  · refine ⟨true, rdx_bl r1, ?_⟩
    rw [if_pos rfl]
    exact ⟨g1, env, S1, s1, p1⟩
  · refine ⟨false, rdx_bl r1, ?_⟩
    rw [if_neg Bool.false_ne_true]
    obtain ⟨w, e, hc, p4⟩ := ofW_ok p1
    cases e
    exact Post.val hc s1 repX_bl p4
  · exact p1.elim
theorem se_or {a b : Expr} {rest : List Expr} {a' b' : E} (ha : PE X a (tE T W' .B a')) (hb : PE X (.BoolOp .Or (b :: rest) pos) (tE T W' c b')) : PE X (.BoolOp .Or (a :: b :: rest) pos) (tE T W' c (.or a' b')) := by
  refine pe_imp (L2.pe_or ha hb) fun σ H Q ⟨g, env, S, s, p⟩ => ?_
  unfold ev at p
  refine ⟨g, env, S, s, Post.bind (qa := quiet a') (qb := quiet b') bm_res (by simp [quiet]) p fun av S1 x g1 H1 _ e1 s1 r1 p1 => ?_⟩
  unfold selB at p1
  split at p1
  · refine ⟨true, rdx_bl r1, ?_⟩
    rw [if_pos rfl]
    obtain ⟨w, e, hc, p4⟩ := ofW_ok p1
    cases e
    exact Post.val hc s1 repX_bl p4
  · refine ⟨false, rdx_bl r1, ?_⟩
    rw [if_neg Bool.false_ne_true]
    exact ⟨g1, env, S1, s1, p1⟩
  · exact p1.elim
/-- the test of an expression, after its value -/
theorem evt_ok {e : E} {env : Env} {S S1 : Store} {x : W} (h : ev .B e env S = .ok x S1) : evt e env S = match truW x with | some b => .ok b S1 | none => .bad := by
  unfold evt
  rw [h]
  rfl
/-- a test by its value's truth -/
theorem st_val (G : XG X T) {a : Expr} {a' : E} (ha : PE X a (tE T W' .B a')) (he : ∀ whole, isTrue a X.env whole = (do let v ← whole; standAt a.pos; holding [v] (truthy v))) : PT X a (tT T W' a') := by
  refine pt_imp (L2.pt_truth ha he) fun σ H Q ⟨g, env, S, s, p⟩ => ?_
  unfold evt at p
  refine ⟨g, env, S, s, Post.bind (Ka := Res T .B) (qa := quiet a') (qb := true) bm_resB (by simp) p fun av S1 x g1 H1 _ e1 s1 r1 p1 => ?_⟩
  rw [G.eK]
  unfold tstR at p1
  cases hk : truW av with
  | none => rw [hk] at p1; exact p1.elim
  | some b =>
    rw [hk] at p1
    exact ⟨b, tru_sem r1 hk, p1 b g1 H1 Ext.refl s1 rfl⟩
theorem st_tru {a : Expr} {a' : E} (ha : PT X a (tT T W' a')) : PT X a (tT T W' (.tru a')) := by
  refine pt_imp ha fun σ H Q ⟨g, env, S, s, p⟩ => ?_
  refine ⟨g, env, S, s, ?_⟩
  unfold evt ev at p
  unfold evt
  revert p
  show Post T W' (quiet a') _ _ _ _ _ _ _ → _
  cases hx : ev .B a' env S with
  | bad => exact fun p => p
  | exn cc fs S' => exact fun p => p
  | ok av S1 =>
    rw [R.bind_ok, R.bind_ok]
    unfold tstR
    cases hk : truW av with
    | none => exact fun p => p
    | some b => exact fun p => p
theorem st_not {a : Expr} {a' : E} (ha : PT X a (tT T W' a')) : PT X (.UnaryOp .Not a pos) (tT T W' (.not a')) := by
  refine pt_imp (L2.pt_not ha) fun σ H Q ⟨g, env, S, s, p⟩ => ?_
  refine ⟨g, env, S, s, ?_⟩
  unfold evt ev at p
  unfold evt
  revert p
  show Post T W' (quiet a') _ _ _ _ _ _ _ → _
  cases hx : ev .B a' env S with
  | bad => exact fun p => p
  | exn cc fs S' => exact fun p => p
  | ok av S1 =>
    rw [R.bind_ok, R.bind_ok]
    unfold tstR
    cases hk : truW av with
    | none => exact fun p => p
    | some b =>
      intro p x g' H' e s' k
      cases k
      exact p (!b) g' H' e s' rfl
theorem sw_one {a : Expr} {a' : E} (ha : PT X a (tT T W' a')) : ∀ op : BoolOp, L2.PW X (.BoolOp op [a] pos) (tT T W' a')
  | .And => L2.pw_and1 ha
  | .Or => L2.pw_or1 ha
theorem sw_and {a b : Expr} {rest : List Expr} {a' b' : E} (ha : PT X a (tT T W' a')) (hb : L2.PW X (.BoolOp .And (b :: rest) pos) (tT T W' b')) : L2.PW X (.BoolOp .And (a :: b :: rest) pos) (tT T W' (.and a' b')) := by
  have h := L2.pw_and ha hb
  refine ⟨fun whole pins s σ H Q I ⟨g, env, S, si, p⟩ => h.run whole pins s σ H Q I ⟨g, env, S, si, ?_⟩⟩
  unfold evt ev at p
  unfold evt
  revert p
  cases hx : ev .B a' env S with
  | bad => exact fun p => p
  | exn cc fs S' => exact fun p => p
  | ok av S1 =>
    rw [R.bind_ok, R.bind_ok]
    intro p
    unfold selB at p
    unfold tstR
    split at p
    · intro x g1 H1 e1 s1 k
      cases k
      rw [if_pos rfl]
      exact ⟨g1, env, S1, s1, Post.rest bm_resB (by simp [quiet]) e1 p⟩
    · intro x g1 H1 e1 s1 k
      cases k
      rw [if_neg Bool.false_ne_true]
      exact p false g1 H1 (e1.weak (by simp [quiet]; intro h _; exact h)) s1 rfl
    · exact p.elim
theorem sw_or {a b : Expr} {rest : List Expr} {a' b' : E} (ha : PT X a (tT T W' a')) (hb : L2.PW X (.BoolOp .Or (b :: rest) pos) (tT T W' b')) : L2.PW X (.BoolOp .Or (a :: b :: rest) pos) (tT T W' (.or a' b')) := by
  have h := L2.pw_or ha hb
  refine ⟨fun whole pins s σ H Q I ⟨g, env, S, si, p⟩ => h.run whole pins s σ H Q I ⟨g, env, S, si, ?_⟩⟩
  unfold evt ev at p
  unfold evt
  revert p
  cases hx : ev .B a' env S with
  | bad => exact fun p => p
  | exn cc fs S' => exact fun p => p
  | ok av S1 =>
    rw [R.bind_ok, R.bind_ok]
    intro p
    unfold selB at p
    unfold tstR
    split at p
    · intro x g1 H1 e1 s1 k
      cases k
      rw [if_pos rfl]
      exact p true g1 H1 (e1.weak (by simp [quiet]; intro h _; exact h)) s1 rfl
    · intro x g1 H1 e1 s1 k
      cases k
      rw [if_neg Bool.false_ne_true]
      exact ⟨g1, env, S1, s1, Post.rest bm_resB (by simp [quiet]) e1 p⟩
    · exact p.elim
theorem se_not (G : XG X T) {a : Expr} {a' : E} (ha : PE X a (tE T W' .B a')) : PE X (.UnaryOp .Not a pos) (tE T W' c (.not a')) := by
  refine pe_imp (L2.pe_notT ha) fun σ H Q ⟨g, env, S, s, p⟩ => ?_
  unfold ev at p
  refine ⟨g, env, S, s, Post.bind (qa := quiet a') (qb := true) bm_res (by simp [quiet]) p fun av S1 x g1 H1 _ e1 s1 r1 p1 => ?_⟩
  obtain ⟨b, e, hc, p2⟩ := ofB_ok p1
  rw [G.eK]
  cases hk : truW av with
  | none => rw [hk] at e; cases e
  | some k =>
    rw [hk] at e
    cases e
    exact ⟨k, tru_sem r1 hk, Post.val hc s1 repX_bl p2⟩
theorem se_ite {t a b : Expr} {t' a' b' : E} (ht : PT X t (tT T W' t')) (ha : PE X a (tE T W' c a')) (hb : PE X b (tE T W' c b')) : PE X (.IfExp t a b pos) (tE T W' c (.ite t' a' b')) := by
  refine pe_imp (L2.pe_ifExp ht ha hb) fun σ H Q ⟨g, env, S, s, p⟩ => ?_
  refine ⟨g, env, S, s, ?_⟩
  unfold ev at p
  unfold evt
  revert p
  cases hx : ev .B t' env S with
  | bad => exact fun p => p
  | exn cc fs S' => exact fun p => p
  | ok av S1 =>
    rw [R.bind_ok, R.bind_ok]
    unfold tstR
    cases hk : truW av with
    | none => exact fun p => p.elim
    | some k =>
      intro p x g1 H1 e1 s1 kk
      cases kk
      cases k with
      | true =>
        rw [if_pos rfl]
        exact ⟨g1, env, S1, s1, Post.rest bm_res (by simp [quiet]; intro h1 h2 h3; exact ⟨h1, h2⟩) e1 p⟩
      | false =>
        rw [if_neg Bool.false_ne_true]
        exact ⟨g1, env, S1, s1, Post.rest bm_res (by simp [quiet]; intro h1 h2 h3; exact ⟨h1, h3⟩) e1 p⟩
end
end Wb
namespace Wb
open PySem PySem.Spec PyProof.Rows
open L2 (V Hp HO Rd upd upd_same upd_ne SqL SqT VK TE TT TA TS TG TI TO Ends WX XK R2 Cx Inv RelV Vals ne_of_none PE PT PA PS PSs PG PI OpR UnR CallR MtR Gl Vis Loc)

section
variable {X : Cx} {T : Tx} {W' : WX} {c : Ctx} {pos : Pos}
theorem sa_nil : PA X [] (tA T W' c []) := by
  refine pa_imp L2.pa_nil fun σ H Q ⟨g, env, S, s, p⟩ => ?_
  unfold evs at p
  exact p [] g H Ext.refl s .nil
/-- several, as values -/
theorem sa_cons {e : Expr} {es : List Expr} {e' : E} {es' : List E} (he : PE X e (tE T W' .V e')) (hs : PA X es (tA T W' .V es')) (ok : okx e = true) : PA X (e :: es) (tA T W' .V (e' :: es')) := by
  refine pa_imp (L2.pa_cons he hs (star_cons ok es)) fun σ H Q ⟨g, env, S, s, p⟩ => ?_
  unfold evs at p
  refine ⟨g, env, S, s, Post.bind (qa := quiet e') (qb := quiets es') bm_resA (by simp [quiets]) p fun av S1 x g1 H1 _ e1 s1 r1 p1 => ?_⟩
  refine ⟨g1, env, S1, s1, Post.bind (qa := quiets es') (qb := true) bm_resA (by simp) p1 fun bv S2 y g2 H2 _ e2 s2 r2 p2 => ?_⟩
  exact p2 (x :: y) g2 H2 Ext.refl s2 (.cons (e2.stay.repX r1) r2)
/-- one, as it is wanted -/
theorem sa_one (hc : c ≠ .F) {e : Expr} {e' : E} (he : PE X e (tE T W' c e')) (ok : okx e = true) : PA X [e] (tA T W' c [e']) := by
  refine pa_imp (L2.pa_cons he L2.pa_nil (star_cons ok [])) fun σ H Q ⟨g, env, S, s, p⟩ => ?_
  unfold evs at p
  refine ⟨g, env, S, s, Post.bind (qa := quiet e') (qb := true) bm_resA (by simp [quiets]) p fun av S1 x g1 H1 _ e1 s1 r1 p1 => ?_⟩
  unfold evs at p1
  exact p1 [x] g1 H1 Ext.refl s1 (.cons (by cases c <;> first | exact r1 | exact absurd rfl hc) .nil)
theorem resA_V {H0 H : Hp} {g : Gh} {xs : List V} {ws : List W} (h : ResA T .V H0 g H xs ws) : Paired (RepX T g H) xs ws := h
theorem se_tup {es : List Expr} {es' : List E} {k : Nat} (he : PA X es (tA T W' .V es')) : PE X (.Tuple es k pos) (tE T W' c (.tup es')) := by
  refine pe_imp (L2.pe_tup he) fun σ H Q ⟨g, env, S, s, p⟩ => ?_
  unfold ev at p
  refine ⟨g, env, S, s, Post.bind (qa := quiets es') (qb := true) bm_res (by simp [quiet]) p fun av S1 x g1 H1 _ e1 s1 r1 p1 => ?_⟩
  obtain ⟨w, e, hc, p2⟩ := ofW_ok p1
  obtain ⟨hz, rfl⟩ := if_some e
  have r := resA_V r1
  refine ⟨by rw [r.length, ← sizeL_eq]; exact hz, fun q hq => ?_⟩
  have ex := ext_new (g := g1) (o := .tup x) (l := .frz) hq (s1.wf q hq)
  exact p2 _ _ _ (ex.weak fun _ => rfl) (s1.new .frz hq) (res_val hc (repX_tup (.inl ⟨lab_same, .inl upd_same⟩) (paired_imp r fun _ _ => ex.stay.repX)))
theorem se_lst {es : List Expr} {es' : List E} (he : PA X es (tA T W' .V es')) : PE X (.List es pos) (tE T W' c (.lst es')) := by
  refine pe_imp (L2.pe_lst he) fun σ H Q ⟨g, env, S, s, p⟩ => ?_
  unfold ev at p
  refine ⟨g, env, S, s, Post.bind (qa := quiets es') (qb := true) bm_res (by simp [quiet]) p fun av S1 x g1 H1 _ e1 s1 r1 p1 => ?_⟩
  split at p1
  · rename_i hz
    have r := resA_V r1
    refine ⟨by rw [r.length, ← sizeL_eq]; exact hz, fun q hq => ?_⟩
    exact Post.new p1 s1 hq fun g' st => ⟨_, upd_same, paired_imp r fun _ _ => st.repX⟩
  · exact p1.elim
theorem se_dnew : PE X (.Dict [] [] pos) (tE T W' c (.dct [])) := by
  refine pe_imp L2.pe_dnewK fun σ H Q ⟨g, env, S, s, p⟩ => ?_
  intro q hq
  unfold ev evs at p
  exact Post.new p s hq fun g' st => ⟨_, by simp [upd_same], .nil⟩
/-! ### subscripts -/
theorem ix_dict (hu : X.A.units + 1 < cLine) : L2.IxR X (fun x y H Q => ∃ a v, x = .ref a ∧ L2.DGet H a y (some v) ∧ Q v H) := by
  intro value slice pins s σ H x y v u Q I rx ry h hs
  obtain ⟨a, o, rfl, d, q⟩ := h
  obtain rfl : v = Value.ref a := rx
  exact tail_any (L2.dict_typeIs I d) PySem.F.slot_dict_getitem.lookup (L2.d_getItem hu I d ry fun w' s3 I3 rw' => ⟨o, H, I3, rw', q⟩) hs
theorem se_sub (G : XG X T) {a b : Expr} {a' b' : E} (ha : PE X a (tE T W' (.held (quiet b')) a')) (hb : PE X b (tE T W' .V b')) (ok : okx b = true) : PE X (.Subscript a b pos) (tE T W' c (.sub a' b')) := by
  have z1 : PE X (.Subscript a b pos) _ := L2.pe_ix (L2.ix_seq.or (ix_dict (by have := G.hu; omega))) ha hb (plain_ix ok)
  rw [G.eK] at z1
  refine pe_imp z1 fun σ H Q ⟨g, env, S, s, p⟩ => ?_
  unfold ev at p
  refine ⟨g, env, S, s, Post.bind (qa := quiet a') (qb := quiet b') bm_res (by simp [quiet]) p fun av S1 x g1 H1 _ e1 s1 r1 p1 => ?_⟩
  refine ⟨g1, env, S1, s1, Post.bind (qa := quiet b') (qb := true) bm_res (by simp) p1 fun bv S2 y g2 H2 _ e2 s2 r2 p2 => ?_⟩
  obtain ⟨w, e, hc, p3⟩ := ofW_ok p2
  exact sub_sem (Q := Q) (held_rdx r1 e2) (resB_V r2) e (fun v r => Post.val hc s2 r p3)
/-- a slice's part -/
def evo (es : List E) (env : Env) (S : Store) : R (Option Int) := (evs .V es env S).bind optR
def ResO (H : Hp) (g' : Gh) (H' : Hp) (x w : Option Int) : Prop := x = w
theorem bm_resO : BaseMono ResO := fun _ _ _ _ _ _ _ h => h
def tO (T : Tx) (W' : WX) (es' : List E) : L2.TO := fun σ H Q => ∃ g env S, Sim T g H env S σ ∧ Post T W' (quiets es') ResO g env σ H (evo es' env S) Q
theorem so_none : L2.PO X none (tO T W' []) := by
  refine ⟨fun pins s σ H Q I ⟨g, env, S, si, p⟩ => L2.po_none.run pins s σ H Q I ?_⟩
  unfold evo evs at p
  exact p none g H Ext.refl si rfl
theorem so_some {e : Expr} {e' : E} (he : PE X e (tE T W' .V e')) : L2.PO X (some e) (tO T W' [e']) := by
  refine ⟨fun pins s σ H Q I ⟨g, env, S, si, p⟩ => (L2.po_some he).run pins s σ H Q I ?_⟩
  unfold evo evs at p
  refine ⟨g, env, S, si, ?_⟩
  show Post T W' (quiet e') _ _ _ _ _ _ _
  revert p
  cases hx : ev .V e' env S with
  | bad => exact fun p => p
  | exn cc fs S' => exact fun p => p
  | ok av S1 =>
    unfold evs
    intro p x g1 H1 e1 s1 r1
    cases av with
    | int i => exact ⟨i, int_inv r1, p (some i) g1 H1 (e1.weak (by simp [quiets])) s1 rfl⟩
    | _ => exact p.elim
theorem cut_paired {F : V → W → Prop} {xs : List V} {ws : List W} (r : Paired F xs ws) (l h : Option Int) : Paired F (L2.cutV xs l h) (cutL ws l h) := by
  unfold L2.cutV cutL
  rw [r.length]
  exact paired_take (paired_drop r _) _
theorem se_slice (G : XG X T) {a : Expr} {a' : E} {lo hi : Option Expr} {lo' hi' : List E} {p2 : Pos} (ha : PE X a (tE T W' (.held (quiets lo' && quiets hi')) a')) (hl : L2.PO X lo (tO T W' lo')) (hh : L2.PO X hi (tO T W' hi')) : PE X (.Subscript a (.Slice lo hi none p2) pos) (tE T W' c (.slice a' lo' hi')) := by
  have z := L2.pe_slice (pos := pos) (p2 := p2) (L2.SlR.or L2.sl_list L2.sl_str) ha hl hh
  rw [G.eK] at z
  refine pe_imp z fun σ H Q ⟨g, env, S, s, p⟩ => ?_
  unfold ev at p
  refine ⟨g, env, S, s, Post.bind (qa := quiet a') (qb := quiets lo' && quiets hi') bm_res (by simp [quiet, Bool.and_assoc]) p fun av S1 x g1 H1 _ e1 s1 r1 p1 => ?_⟩
  refine ⟨g1, env, S1, s1, Post.bind (qa := quiets lo') (qb := quiets hi') bm_res (by simp) p1 fun lv S2 l g2 H2 _ e2 s2 r2 p2 => ?_⟩
  refine ⟨g2, env, S2, s2, Post.bind (qa := quiets hi') (qb := true) bm_res (by simp) p2 fun hv S3 h g3 H3 _ e3 s3 r3 p3 => ?_⟩
  cases r2
  cases r3
  obtain ⟨fr, w, e, hc, p4⟩ := ofPV_ok p3
  have rx := held_rdx r1 (e2.trans' e3)
  unfold sliceW at e
  split at e
  · rename_i ws
    cases e
    obtain ⟨d, xs, ed, hr, r⟩ := rdx_lst rx
    refine .inl ⟨d, xs, ed, .inl hr, fun q hq => Post.new p4 s3 hq fun g' st => ⟨_, upd_same, paired_imp (cut_paired r _ _) fun _ _ => st.repX⟩⟩
  · obtain ⟨hz, e⟩ := if_some e
    cases e
    exact .inr ⟨_, rdx_str rx, by rw [← sizeL_eq]; exact hz, Post.val (hc rfl) s3 repX_str p4⟩
  · cases e
theorem se_rev (G : XG X T) {a : Expr} {a' : E} {k : Nat} {p1 p2 p3 : Pos} (ha : PE X a (tE T W' .B a')) : PE X (.Subscript a (.Slice none none (some (.UnaryOp .USub (.Constant (.int 1) k p1) p2)) p3) pos) (tE T W' c (.rev a')) := by
  have z := L2.pe_revL (k := k) (p1 := p1) (p2 := p2) (p3 := p3) (pos := pos) ha
  rw [G.eK] at z
  refine pe_imp z fun σ H Q ⟨g, env, S, s, p⟩ => ?_
  unfold ev at p
  refine ⟨g, env, S, s, Post.bind (qa := quiet a') (qb := true) bm_res (by simp [quiet]) p fun av S1 x g1 H1 _ e1 s1 r1 p1 => ?_⟩
  obtain ⟨fr, w, e, hc, p4⟩ := ofPV_ok p1
  unfold revW at e
  split at e
  · cases e
    obtain ⟨d, xs, ed, hr, r⟩ := rdx_lst r1
    exact ⟨d, xs, ed, .inl hr, fun q hq => Post.new p4 s1 hq fun g' st => ⟨_, upd_same, paired_imp (paired_reverse r) fun _ _ => st.repX⟩⟩
  · cases e
/-! ### texts -/
theorem se_fmt {a : Expr} {a' : E} (ha : PE X a (tE T W' .B a')) : PE X (.FormattedValue a (-1) none pos) (tE T W' c (.fmt a')) := by
  refine pe_imp (L2.pe_fmt ha) fun σ H Q ⟨g, env, S, s, p⟩ => ?_
  unfold ev at p
  refine ⟨g, env, S, s, Post.bind (qa := quiet a') (qb := true) bm_res (by simp [quiet]) p fun av S1 x g1 H1 _ e1 s1 r1 p1 => ?_⟩
  obtain ⟨w, e, hc, p2⟩ := ofW_ok p1
  unfold fmtW at e
  split at e
  · rename_i z _
    by_cases hz : z.length ≤ sizeL
    · rw [if_pos hz] at e; cases e
      exact .inl ⟨_, rdx_str r1, by rw [← sizeL_eq]; exact hz, Post.val hc s1 repX_str p2⟩
    · rw [if_neg hz] at e; cases e
  · rename_i i _
    by_cases hz : i.natAbs.log2 < 1920
    · rw [if_pos hz] at e; cases e
      exact .inr ⟨_, rdx_int r1, hz, Post.val hc s1 repX_str p2⟩
    · rw [if_neg hz] at e; cases e
  · cases e
/-- the parts of an f-string, with what stands before -/
inductive PJ (X : Cx) (T : Tx) (W' : WX) : List Expr → List E → Prop where
  | nil : PJ X T W' [] []
  | cons {e : Expr} {e' : E} {es : List Expr} {es' : List E} (h : PE X e (tE T W' .V e')) (r : PJ X T W' es es') : PJ X T W' (e :: es) (e' :: es')
def tsOf (T : Tx) (W' : WX) : List E → List TE
  | [] => []
  | e :: es => tE T W' .V e :: tsOf T W' es
theorem PJ.to {es : List Expr} {es' : List E} (h : PJ X T W' es es') : L2.PJ X es (tsOf T W' es') := by
  induction h with
  | nil => exact .nil
  | cons h _ ih => exact .cons h ih
def ResT (H : Hp) (g' : Gh) (H' : Hp) (x w : Str) : Prop := x = w
theorem bm_resT : BaseMono ResT := fun _ _ _ _ _ _ _ h => h
theorem js_sem : ∀ (es : List E) (acc : Str) (σ : L2.St) (H : Hp) (Q : Str → Hp → Prop) (g : Gh) (env : Env) (S : Store), Sim T g H env S σ → Post T W' (quiets es) ResT g env σ H (evj es acc env S) Q → L2.tJs (tsOf T W' es) acc σ H Q
  | [], acc, σ, H, Q, g, env, S, s, p => p acc g H Ext.refl s rfl
  | e :: es, acc, σ, H, Q, g, env, S, s, p => by
    unfold evj at p
    refine ⟨g, env, S, s, Post.bind (Kr := ResT) (qa := quiet e) (qb := quiets es) bm_resT (by simp [quiets]) p fun av S1 x g1 H1 _ e1 s1 r1 p1 => ?_⟩
    split at p1
    · rename_i z
      split at p1
      · rename_i hz
        exact ⟨_, str_inv r1, by rw [← sizeL_eq]; exact hz, js_sem es _ σ H1 Q g1 env S1 s1 p1⟩
      · exact p1.elim
    · exact p1.elim
theorem se_fstr {e1 e2 : Expr} {es : List Expr} {es' : List E} (h : PJ X T W' (e1 :: e2 :: es) es') : PE X (.JoinedStr (e1 :: e2 :: es) pos) (tE T W' c (.fstr es')) := by
  refine pe_imp (L2.pe_joined h.to) fun σ H Q ⟨g, env, S, s, p⟩ => ?_
  unfold ev at p
  refine js_sem es' Str.empty σ H _ g env S s (Post.bind (qa := quiets es') (qb := true) bm_res (by simp [quiet]) p fun av S1 x g1 H1 _ e1 s1 r1 p1 => ?_)
  cases r1
  obtain ⟨w, e, hc, p2⟩ := ofW_ok p1
  cases e
  exact Post.val hc s1 repX_str p2
theorem empty_add (s : Str) : Str.empty ++ s = s := by
  show Str.append Str.empty s = s
  unfold Str.append Str.empty
  simp
theorem se_fstr1 {e : Expr} {e' : E} (h : PE X e (tE T W' .V e')) : PE X (.JoinedStr [e] pos) (tE T W' c (.fstr [e'])) := by
  refine pe_imp (L2.pe_joined1 h) fun σ H Q ⟨g, env, S, s, p⟩ => ?_
  unfold ev evj at p
  refine ⟨g, env, S, s, ?_⟩
  show Post T W' (quiet e') _ _ _ _ _ _ _
  revert p
  cases hx : ev .V e' env S with
  | bad => exact fun p => p
  | exn cc fs S' => exact fun p => p
  | ok av S1 =>
    rw [R.bind_ok]
    intro p x g1 H1 e1 s1 r1
    split at p
    · split at p
      · unfold evj at p
        rw [R.bind_ok] at p
        obtain ⟨w, e, hc, p2⟩ := ofW_ok p
        cases e
        rw [empty_add] at p2
        exact p2 x g1 H1 (e1.weak (by simp [quiet, quiets])) s1 (res_val hc r1)
      · exact p.elim
    · exact p.elim
/-! ### built-ins by name -/
def biTy : BI → Bool
  | .int => true | .str => true | .list => true | .tuple => true | .dict => true
  | _ => false
def biNm : BI → String
  | .len => "len" | .int => "int" | .str => "str" | .abs => "abs" | .min2 => "min" | .max2 => "max" | .min1 => "min" | .max1 => "max" | .sum => "sum" | .sorted => "sorted" | .list => "list" | .tuple => "tuple" | .dict => "dict" | .divmod => "divmod"
end
end Wb
namespace Wb
open PySem PySem.Spec PyProof.Rows
open L2 (V Hp HO Rd upd upd_same upd_ne SqL SqT VK TE TT TA TS TG TI TO Ends WX XK R2 Cx Inv RelV Vals ne_of_none PE PT PA PS PSs PG PI OpR UnR CallR MtR Gl Vis Loc)

theorem CallR.or {X : Cx} {f : Value} {r r' : List V → Hp → VK → Prop} (h : CallR X f r) (h' : CallR X f r') : CallR X f (fun xs H Q => r xs H Q ∨ r' xs H Q) := by
  intro pins s σ H xs us Q I rx q
  rcases q with q | q
  · exact h pins s σ H xs us Q I rx q
  · exact h' pins s σ H xs us Q I rx q
def rLen (K : PySem.W.Frag) : List V → Hp → VK → Prop := fun xs H Q => ∃ x n, xs = [x] ∧ L2.LenV K x H n ∧ Q (.int n) H
def rLenD : List V → Hp → VK → Prop := fun xs H Q => ∃ p kvs, xs = [.ref p] ∧ Rd H p (.dK kvs) ∧ Q (.int kvs.length) H
theorem call_lenD {X : Cx} : CallR X (.builtin "len") rLenD := by
  intro pins s σ H xs us Q I r h
  obtain ⟨p, kvs, rfl, hd, q⟩ := h
  obtain ⟨u, rfl, rx⟩ := L2.vals1 r
  cases rx
  exact L2.d_len I hd fun t s' I' => ⟨.int kvs.length, H, I', ⟨t, rfl⟩, q⟩
def rInt1 : List V → Hp → VK → Prop := fun xs H Q => (∃ i, xs = [.int i] ∧ Q (.int i) H) ∨ ∃ k, xs = [.bl k] ∧ Q (.int (if k then 1 else 0)) H
def rIntS : List V → Hp → VK → Prop := fun xs H Q => ∃ a n, xs = [.str a] ∧ PySem.intText? a = some n ∧ a.length ≤ 640 ∧ Q (.int n) H
def rStrI : List V → Hp → VK → Prop := fun xs H Q => ∃ i, xs = [.int i] ∧ i.natAbs.log2 < 1920 ∧ Q (.str (toString i)) H
def rAbs : List V → Hp → VK → Prop := fun xs H Q => ∃ i, xs = [.int i] ∧ Q (.int (if i < 0 then -i else i)) H
def rMax2 : List V → Hp → VK → Prop := fun xs H Q => ∃ i j, xs = [.int i, .int j] ∧ Q (.int (if j > i then j else i)) H
def rMin2 : List V → Hp → VK → Prop := fun xs H Q => ∃ i j, xs = [.int i, .int j] ∧ Q (.int (if j < i then j else i)) H
def rListOf (K : PySem.W.Frag) : List V → Hp → VK → Prop := fun xs H Q => ∃ p ys, xs = [.ref p] ∧ (SqL K H p ys ∨ SqT K H p ys) ∧ ∀ l, H l = none → Q (.ref l) (upd H l (.lst ys))
def rListD : List V → Hp → VK → Prop := fun xs H Q => ∃ (a : Addr) (kvs : List (L2.Key × V)), xs = [.ref a] ∧ Rd H a (.dK kvs) ∧ ∀ p, H p = none → Q (.ref p) (upd H p (.lst (kvs.map fun kv => L2.kV kv.1)))
def rDictD : List V → Hp → VK → Prop := fun xs H Q => ∃ (a : Addr) (kvs : List (L2.Key × V)), xs = [.ref a] ∧ Rd H a (.dK kvs) ∧ ∀ p, H p = none → Q (.ref p) (upd H p (.dK kvs))
def rTupOf (K : PySem.W.Frag) : List V → Hp → VK → Prop := fun xs H Q => ∃ p ys, xs = [.ref p] ∧ ((SqL K H p ys ∧ ∀ l, H l = none → Q (.ref l) (upd H l (.tup ys))) ∨ (SqT K H p ys ∧ Q (.ref p) H))
def rDm : List V → Hp → VK → Prop := fun xs H Q => ∃ i j, xs = [.int i, .int j] ∧ L2.CDiv i j ∧ ∀ p, H p = none → Q (.ref p) (upd H p (.tup [.int (i / j), .int (i % j)]))
def rB (K : PySem.W.Frag) : BI → List V → Hp → VK → Prop
  | .len => fun xs H Q => rLen K xs H Q ∨ rLenD xs H Q
  | .int => fun xs H Q => rInt1 xs H Q ∨ rIntS xs H Q
  | .str => rStrI
  | .abs => rAbs
  | .min2 => rMin2
  | .max2 => rMax2
  | .min1 => L2.rMin K
  | .max1 => L2.rMax K
  | .sum => L2.rSum K
  | .sorted => L2.rSorted K
  | .list => fun xs H Q => rListOf K xs H Q ∨ rListD xs H Q
  | .tuple => rTupOf K
  | .dict => rDictD
  | .divmod => rDm
def vB : BI → Value
  | .len => .builtin "len" | .int => .type "int" | .str => .type "str" | .abs => .builtin "abs" | .min2 => .builtin "min" | .max2 => .builtin "max" | .min1 => .builtin "min" | .max1 => .builtin "max"
  | .sum => .builtin "sum" | .sorted => .builtin "sorted" | .list => .type "list" | .tuple => .type "tuple" | .dict => .type "dict" | .divmod => .builtin "divmod"
def nB : BI → Str
  | .len => "len" | .int => "int" | .str => "str" | .abs => "abs" | .min2 => "min" | .max2 => "max" | .min1 => "min" | .max1 => "max" | .sum => "sum" | .sorted => "sorted" | .list => "list" | .tuple => "tuple" | .dict => "dict" | .divmod => "divmod"
theorem okB {X : Cx} (hc : X.calm = true) : ∀ b, CallR X (vB b) (rB X.K b)
  | .len => CallR.or L2.call_len call_lenD
  | .int => CallR.or L2.call_int1 L2.call_int_str
  | .str => L2.call_str_int
  | .abs => L2.call_abs
  | .min2 => L2.call_min2 hc
  | .max2 => L2.call_max2 hc
  | .min1 => L2.cr_min hc
  | .max1 => L2.cr_max hc
  | .sum => L2.cr_sum hc
  | .sorted => L2.cr_sorted
  | .list => CallR.or L2.call_list_of (L2.call_listD hc)
  | .tuple => L2.call_tuple_of
  | .dict => L2.call_dictD
  | .divmod => L2.call_divmod
theorem bootB : ∀ b, bootBuiltins (nB b) = some (vB b) := by
  intro b
  cases b <;> decide +kernel
theorem nB_name : ∀ b, nB b ≠ "__name__" := by intro b; cases b <;> decide +kernel
theorem nB_debug : ∀ b, (nB b == ("__debug__" : Str)) = false := by intro b; cases b <;> decide +kernel
/-- f(e, ..), a built-in -/
theorem pe_bi {X : Cx} {b : BI} {p pos : Pos} {e : Expr} {es : List Expr} {t : TA} (hc : X.calm = true) (hg : Gl X (nB b)) (hm : X.mg (nB b) = none) (ha : PA X (e :: es) t) (ok : okx e = true) (oks : okxs es = true) :
    PE X (.Call (.Name (nB b) p) (e :: es) [] pos) (L2.tCB (rB X.K b) t) := by
  have h := okB hc b
  have hv := bootB b
  cases hb : vB b with
  | type n =>
    rw [hb] at h hv
    exact L2.pe_callTy h hg hm hv ha (nB_name b) (nB_debug b) (star_cons ok es) (star_none oks pos)
  | builtin n =>
    rw [hb] at h hv
    exact L2.pe_callB h hg hm hv ha (nB_name b) (nB_debug b) (star_cons ok es) (star_none oks pos)
  | _ => exfalso; cases b <;> cases hb

/-! ### what they answer -/
theorem intsW_paired {F : V → W → Prop} (hF : ∀ x i, F x (.int i) → x = .int i) {xs : List V} {ws : List W} (r : Paired F xs ws) : ∀ {ns : List Int}, intsW ws = some ns → xs = ns.map V.int := by
  induction r with
  | nil => intro ns e; cases e; rfl
  | @cons y w ys ws r' _ ih =>
    intro ns e
    cases w with
    | int i =>
      unfold intsW at e
      cases q : intsW ws with
      | none => rw [q] at e; cases e
      | some ms =>
        rw [q] at e; cases e
        rw [ih q, hF _ _ r']
        rfl
    | _ => cases e
theorem strsW_paired {F : V → W → Prop} (hF : ∀ x i, F x (.str i) → x = .str i) {xs : List V} {ws : List W} (r : Paired F xs ws) : ∀ {ns : List Str}, strsW ws = some ns → xs = ns.map V.str := by
  induction r with
  | nil => intro ns e; cases e; rfl
  | @cons y w ys ws r' _ ih =>
    intro ns e
    cases w with
    | str i =>
      unfold strsW at e
      cases q : strsW ws with
      | none => rw [q] at e; cases e
      | some ms =>
        rw [q] at e; cases e
        rw [ih q, hF _ _ r']
        rfl
    | _ => cases e
theorem maxI_ok : ∀ (r : List Int) (i : Int), (maxI i r = i ∨ maxI i r ∈ r) ∧ i ≤ maxI i r ∧ ∀ y ∈ r, y ≤ maxI i r
  | [], i => ⟨.inl rfl, Int.le_refl _, fun _ h => nomatch h⟩
  | j :: r, i => by
    obtain ⟨h1, h2, h3⟩ := maxI_ok r (if j > i then j else i)
    show (maxI (if j > i then j else i) r = i ∨ maxI (if j > i then j else i) r ∈ j :: r) ∧ i ≤ maxI (if j > i then j else i) r ∧ ∀ y ∈ j :: r, y ≤ maxI (if j > i then j else i) r
    refine ⟨?_, ?_, fun y hy => ?_⟩
    · rcases h1 with h1 | h1
      · by_cases hj : j > i
        · rw [if_pos hj] at h1; rw [if_pos hj, h1]; exact .inr (by simp)
        · rw [if_neg hj] at h1; rw [if_neg hj, h1]; exact .inl rfl
      · exact .inr (List.mem_cons_of_mem _ h1)
    · refine Int.le_trans ?_ h2
      split <;> omega
    · rcases List.mem_cons.mp hy with rfl | hy
      · refine Int.le_trans ?_ h2
        split <;> omega
      · exact h3 y hy
theorem minI_ok : ∀ (r : List Int) (i : Int), (minI i r = i ∨ minI i r ∈ r) ∧ minI i r ≤ i ∧ ∀ y ∈ r, minI i r ≤ y
  | [], i => ⟨.inl rfl, Int.le_refl _, fun _ h => nomatch h⟩
  | j :: r, i => by
    obtain ⟨h1, h2, h3⟩ := minI_ok r (if j < i then j else i)
    show (minI (if j < i then j else i) r = i ∨ minI (if j < i then j else i) r ∈ j :: r) ∧ minI (if j < i then j else i) r ≤ i ∧ ∀ y ∈ j :: r, minI (if j < i then j else i) r ≤ y
    refine ⟨?_, ?_, fun y hy => ?_⟩
    · rcases h1 with h1 | h1
      · by_cases hj : j < i
        · rw [if_pos hj] at h1; rw [if_pos hj, h1]; exact .inr (by simp)
        · rw [if_neg hj] at h1; rw [if_neg hj, h1]; exact .inl rfl
      · exact .inr (List.mem_cons_of_mem _ h1)
    · refine Int.le_trans h2 ?_
      split <;> omega
    · rcases List.mem_cons.mp hy with rfl | hy
      · refine Int.le_trans h2 ?_
        split <;> omega
      · exact h3 y hy
theorem insI_perm (i : Int) : ∀ l : List Int, (insI i l).Perm (i :: l)
  | [] => List.Perm.refl _
  | j :: r => by
    unfold insI
    split
    · exact List.Perm.refl _
    · exact ((insI_perm i r).cons j).trans (List.Perm.swap i j r)
theorem sortI_perm : ∀ l : List Int, (sortI l).Perm l
  | [] => List.Perm.refl _
  | i :: r => (insI_perm i _).trans ((sortI_perm r).cons i)
theorem insI_sorted (i : Int) : ∀ l : List Int, l.Pairwise (· ≤ ·) → (insI i l).Pairwise (· ≤ ·)
  | [], _ => List.pairwise_singleton _ _
  | j :: r, h => by
    unfold insI
    obtain ⟨h1, h2⟩ := List.pairwise_cons.mp h
    split
    · rename_i hij
      refine List.pairwise_cons.mpr ⟨fun y hy => ?_, h⟩
      rcases List.mem_cons.mp hy with rfl | hy
      · exact hij
      · exact Int.le_trans hij (h1 y hy)
    · rename_i hij
      refine List.pairwise_cons.mpr ⟨fun y hy => ?_, insI_sorted i r h2⟩
      rcases List.mem_cons.mp ((insI_perm i r).mem_iff.mp hy) with rfl | hy
      · omega
      · exact h1 y hy
theorem sortI_sorted : ∀ l : List Int, (sortI l).Pairwise (· ≤ ·)
  | [] => List.Pairwise.nil
  | i :: r => insI_sorted i _ (sortI_sorted r)
theorem sortI_uniq {a l : List Int} (p : a.Perm l) (s : a.Pairwise (· ≤ ·)) : a = sortI l :=
  List.Perm.eq_of_pairwise (fun x y _ _ h1 h2 => Int.le_antisymm h1 h2) s (sortI_sorted l) (p.trans (sortI_perm l).symm)
section
variable {T : Tx} {W' : WX} {g : Gh} {env : Env} {S : Store} {σ : L2.St} {H : Hp} {q : Bool} {c : Ctx}
theorem len_rdx {x : V} {w : W} {n : Nat} (h : RdX T g H x w) (e : lenW w = some n) {Q : VK} (k : Q (.int n) H) : rB T.K .len [x] H Q := by
  unfold lenW at e
  split at e
  · obtain ⟨hz, e⟩ := if_some e
    cases e
    rw [rdx_str h]
    exact .inl ⟨_, _, rfl, ⟨by rw [← sizeL_eq]; exact hz, rfl⟩, k⟩
  · cases e
    obtain ⟨a, xs, rfl, hr, r⟩ := rdx_lst h
    exact .inl ⟨_, _, rfl, .inl ⟨xs, .inl hr, r.length.symm⟩, k⟩
  · cases e
    obtain ⟨a, xs, rfl, hr, r⟩ := rdx_ro h
    exact .inl ⟨_, _, rfl, .inl ⟨xs, hr, r.length.symm⟩, k⟩
  · cases e
    obtain ⟨a, xs, rfl, hr, r⟩ := rdx_tup h
    exact .inl ⟨_, _, rfl, .inr ⟨xs, hr, r.length.symm⟩, k⟩
  · cases e
    obtain ⟨a, xs, rfl, hr, r⟩ := rdx_dct h
    exact .inr ⟨a, xs, rfl, hr, by rw [r.length]; exact k⟩
  · cases e
theorem keys_paired {g' : Gh} {H' : Hp} {g : Gh} {H : Hp} {xs : List (L2.Key × V)} {kvs : List (L2.Key × W)} (r : Paired (fun p q => p.1 = q.1 ∧ RepX T g' H' p.2 q.2) xs kvs) : Paired (RepX T g H) (xs.map fun kv => L2.kV kv.1) (kvs.map fun kv => kW kv.1) := by
  induction r with
  | nil => exact .nil
  | cons z _ ih => exact .cons (by show RepX T g H (L2.kV _) (kW _); rw [z.1]; exact repX_kV) ih
theorem new_ints {ns : List Int} {Q : VK} (h : Post T W' q (Res T c) g env σ H (.ok (.lst (ns.map W.int)) S) Q) (s : Sim T g H env S σ) {p : Addr} (hp : H p = none) : Q (.ref p) (upd H p (.lst (ns.map V.int))) :=
  Post.new h s hp fun g' st => ⟨_, upd_same, paired_map (fun i => repX_int) ns⟩
theorem new_strs {ns : List Str} {Q : VK} (h : Post T W' q (Res T c) g env σ H (.ok (.lst (ns.map W.str)) S) Q) (s : Sim T g H env S σ) {p : Addr} (hp : H p = none) : Q (.ref p) (upd H p (.lst (ns.map V.str))) :=
  Post.new h s hp fun g' st => ⟨_, upd_same, paired_map (fun i => repX_str) ns⟩
theorem new_tup {x : List V} {ws : List W} {Q : VK} (hc : c ≠ .F) (h : Post T W' q (Res T c) g env σ H (.ok (.tup ws) S) Q) (s : Sim T g H env S σ) (r : Paired (RepX T g H) x ws) {p : Addr} (hp : H p = none) : Q (.ref p) (upd H p (.tup x)) := by
  have ex := ext_new (g := g) (o := .tup x) (l := .frz) hp (s.wf p hp)
  exact h _ _ _ (ex.weak fun _ => rfl) (s.new .frz hp) (res_val hc (repX_tup (.inl ⟨lab_same, .inl upd_same⟩) (paired_imp r fun _ _ => ex.stay.repX)))
theorem bi1_sem {b : BI} {x : V} {a w : W} {fr : Bool} {Q : VK} (s : Sim T g H env S σ) (hx : RdX T g H x a) (e : biW b [a] = some (fr, w)) (hc : fr = false → c ≠ .F) (h : Post T W' q (Res T c) g env σ H (.ok w S) Q) : rB T.K b [x] H Q := by
  cases b with
  | len =>
    cases hl : lenW a with
    | none => simp only [biW, hl] at e; cases e
    | some n =>
      simp only [biW, hl] at e; cases e
      exact len_rdx hx hl (Post.val (hc rfl) s repX_int h)
  | int =>
    cases a with
    | int i => cases e; exact .inl (.inl ⟨i, by rw [rdx_int hx], Post.val (hc rfl) s repX_int h⟩)
    | bl k => cases e; exact .inl (.inr ⟨k, by rw [rdx_bl hx], Post.val (hc rfl) s repX_int h⟩)
    | str z =>
      have e' : (match intText? z with | some n => if z.length ≤ 640 then some (false, W.int n) else none | none => none) = some (fr, w) := e
      cases hn : intText? z with
      | none => rw [hn] at e'; cases e'
      | some n =>
        rw [hn] at e'
        obtain ⟨hz, e2⟩ := if_some e'
        cases e2
        exact .inr ⟨z, n, by rw [rdx_str hx], hn, hz, Post.val (hc rfl) s repX_int h⟩
    | _ => cases e
  | str =>
    cases a with
    | int i =>
      obtain ⟨hz, e2⟩ := if_some (show (if i.natAbs.log2 < 1920 then some (false, W.str (toString i)) else none) = some (fr, w) from e)
      cases e2
      exact ⟨i, by rw [rdx_int hx], hz, Post.val (hc rfl) s repX_str h⟩
    | _ => cases e
  | abs =>
    cases a with
    | int i => cases e; exact ⟨i, by rw [rdx_int hx], Post.val (hc rfl) s repX_int h⟩
    | _ => cases e
  | max1 =>
    cases a with
    | lst ws =>
      cases hn : intsW ws with
      | none => simp only [biW, hn] at e; cases e
      | some ns =>
        cases ns with
        | nil => simp only [biW, hn] at e; cases e
        | cons i r =>
          simp only [biW, hn] at e; cases e
          obtain ⟨d, xs, rfl, hr, rr⟩ := rdx_lst hx
          have ex := intsW_paired (fun _ _ => int_inv) rr hn
          refine ⟨d, i :: r, rfl, by rw [← ex]; exact .inl hr, by simp, fun m hm hmx => ?_⟩
          obtain ⟨h1, h2, h3⟩ := maxI_ok r i
          have e : m = maxI i r := by
            refine Int.le_antisymm ?_ (hmx _ ?_)
            · rcases List.mem_cons.mp hm with rfl | hm
              · exact h2
              · exact h3 m hm
            · rcases h1 with h1 | h1
              · rw [h1]; simp
              · exact List.mem_cons_of_mem _ h1
          rw [e]
          exact Post.val (hc rfl) s repX_int h
    | _ => cases e
  | min1 =>
    cases a with
    | lst ws =>
      cases hn : intsW ws with
      | none => simp only [biW, hn] at e; cases e
      | some ns =>
        cases ns with
        | nil => simp only [biW, hn] at e; cases e
        | cons i r =>
          simp only [biW, hn] at e; cases e
          obtain ⟨d, xs, rfl, hr, rr⟩ := rdx_lst hx
          have ex := intsW_paired (fun _ _ => int_inv) rr hn
          refine ⟨d, i :: r, rfl, by rw [← ex]; exact .inl hr, by simp, fun m hm hmx => ?_⟩
          obtain ⟨h1, h2, h3⟩ := minI_ok r i
          have e : m = minI i r := by
            refine Int.le_antisymm (hmx _ ?_) ?_
            · rcases h1 with h1 | h1
              · rw [h1]; simp
              · exact List.mem_cons_of_mem _ h1
            · rcases List.mem_cons.mp hm with rfl | hm
              · exact h2
              · exact h3 m hm
          rw [e]
          exact Post.val (hc rfl) s repX_int h
    | _ => cases e
  | sum =>
    cases a with
    | lst ws =>
      cases hn : intsW ws with
      | none => simp only [biW, hn] at e; cases e
      | some ns =>
        simp only [biW, hn] at e; cases e
        obtain ⟨d, xs, rfl, hr, rr⟩ := rdx_lst hx
        have ex := intsW_paired (fun _ _ => int_inv) rr hn
        exact ⟨d, ns, rfl, by rw [← ex]; exact .inl hr, Post.val (hc rfl) s repX_int h⟩
    | _ => cases e
  | sorted =>
    cases a with
    | lst ws =>
      cases hn : intsW ws with
      | none => simp only [biW, hn] at e; cases e
      | some ns =>
        simp only [biW, hn] at e
        obtain ⟨hz, e⟩ := if_some e
        cases e
        obtain ⟨d, xs, rfl, hr, rr⟩ := rdx_lst hx
        have ex := intsW_paired (fun _ _ => int_inv) rr hn
        refine ⟨d, ns, rfl, by rw [← ex]; exact .inl hr, hz, fun ns' p hp hs hpn => ?_⟩
        rw [sortI_uniq hp hs]
        exact new_ints h s hpn
    | _ => cases e
  | list =>
    cases a with
    | lst ws =>
      cases e
      obtain ⟨d, xs, rfl, hr, rr⟩ := rdx_lst hx
      exact .inl ⟨d, xs, rfl, .inl (.inl hr), fun p hp => Post.new h s hp fun g' st => ⟨_, upd_same, paired_imp rr fun _ _ => st.repX⟩⟩
    | tup ws =>
      cases e
      obtain ⟨d, xs, rfl, hr, rr⟩ := rdx_tup hx
      exact .inl ⟨d, xs, rfl, .inr hr, fun p hp => Post.new h s hp fun g' st => ⟨_, upd_same, paired_imp rr fun _ _ => st.repX⟩⟩
    | dct kvs =>
      cases e
      obtain ⟨d, xs, rfl, hr, rr⟩ := rdx_dct hx
      refine .inr ⟨d, xs, rfl, hr, fun p hp => Post.new h s hp fun g' st => ⟨_, upd_same, keys_paired rr⟩⟩
    | _ => cases e
  | tuple =>
    cases a with
    | lst ws =>
      cases e
      obtain ⟨d, xs, rfl, hr, rr⟩ := rdx_lst hx
      exact ⟨d, xs, rfl, .inl ⟨.inl hr, fun p hp => new_tup (hc rfl) h s rr hp⟩⟩
    | tup ws =>
      cases e
      obtain ⟨d, xs, ed, hr, rr⟩ := rdx_tup hx
      rw [ed]
      refine ⟨d, xs, rfl, .inr ⟨hr, ?_⟩⟩
      refine Post.val (hc rfl) s ?_ h
      rcases hx with hx | ⟨a, fl, _, o⟩
      · rw [← ed]; exact hx
      · exact o.elim
    | _ => cases e
  | dict =>
    cases a with
    | dct kvs =>
      cases e
      obtain ⟨d, xs, rfl, hr, rr⟩ := rdx_dct hx
      exact ⟨d, xs, rfl, hr, fun p hp => Post.new h s hp fun g' st => ⟨_, by simp [upd_same], paired_imp rr fun _ _ z => ⟨z.1, st.repX z.2⟩⟩⟩
    | _ => cases e
  | _ => cases a <;> cases e
theorem bi2_sem {b : BI} {x y : V} {a a2 w : W} {fr : Bool} {Q : VK} (s : Sim T g H env S σ) (hx : RepX T g H x a) (hy : RepX T g H y a2) (e : biW b [a, a2] = some (fr, w)) (hc : fr = false → c ≠ .F) (h : Post T W' q (Res T c) g env σ H (.ok w S) Q) : rB T.K b [x, y] H Q := by
  cases b with
  | max2 =>
    cases a with
    | int i =>
      cases a2 with
      | int j => cases e; exact ⟨i, j, by rw [int_inv hx, int_inv hy], Post.val (hc rfl) s repX_int h⟩
      | _ => cases e
    | _ => cases e
  | min2 =>
    cases a with
    | int i =>
      cases a2 with
      | int j => cases e; exact ⟨i, j, by rw [int_inv hx, int_inv hy], Post.val (hc rfl) s repX_int h⟩
      | _ => cases e
    | _ => cases e
  | divmod =>
    cases a with
    | int i =>
      cases a2 with
      | int j =>
        obtain ⟨hz, e2⟩ := if_some (show (if 0 < j ∧ j < 1073741824 then some (false, W.tup [.int (i / j), .int (i % j)]) else none) = some (fr, w) from e)
        cases e2
        exact ⟨i, j, by rw [int_inv hx, int_inv hy], hz, fun p hp => new_tup (hc rfl) h s (.cons repX_int (.cons repX_int .nil)) hp⟩
      | _ => cases e
    | _ => cases e
  | _ => cases a <;> cases a2 <;> cases e
end
theorem biW_long {b : BI} {x y z : W} {l : List W} : biW b (x :: y :: z :: l) = none := by
  cases b <;> first | rfl | (cases x <;> first | rfl | (cases y <;> rfl))
section
variable {X : Cx} {T : Tx} {W' : WX} {c : Ctx} {pos p : Pos}
theorem se_bi1 (G : XG X T) {b : BI} {e : Expr} {e' : E} (hg : Gl X (nB b)) (hm : X.mg (nB b) = none) (he : PE X e (tE T W' .B e')) (ok : okx e = true) : PE X (.Call (.Name (nB b) p) [e] [] pos) (tE T W' c (.bcall b [e'])) := by
  have z := pe_bi (p := p) (pos := pos) (b := b) G.calm hg hm (L2.pa_cons he L2.pa_nil (star_cons ok [])) ok rfl
  rw [G.eK] at z
  refine pe_imp z fun σ H Q ⟨g, env, S, s, p⟩ => ?_
  unfold ev at p
  refine ⟨g, env, S, s, Post.bind (qa := quiet e') (qb := true) bm_res (by simp [quiet, quiets]) p fun av S1 x g1 H1 _ e1 s1 r1 p1 => ?_⟩
  obtain ⟨fr, w, ew, hc, p4⟩ := ofPV_ok p1
  exact bi1_sem s1 r1 ew hc p4
theorem se_bi2 (G : XG X T) {b : BI} {e e2 : Expr} {e' e2' : E} (hg : Gl X (nB b)) (hm : X.mg (nB b) = none) (he : PA X [e, e2] (tA T W' .V [e', e2'])) (ok : okx e = true) (ok2 : okx e2 = true) : PE X (.Call (.Name (nB b) p) [e, e2] [] pos) (tE T W' c (.bcall b [e', e2'])) := by
  have z := pe_bi (p := p) (pos := pos) (b := b) G.calm hg hm he ok (by simp [okxs, ok2])
  rw [G.eK] at z
  refine pe_imp z fun σ H Q ⟨g, env, S, s, p⟩ => ?_
  unfold ev at p
  refine ⟨g, env, S, s, Post.bind (qa := quiets [e', e2']) (qb := true) bm_res (by simp [quiet, quiets]) p fun av S1 x g1 H1 _ e1 s1 r1 p1 => ?_⟩
  obtain ⟨fr, w, ew, hc, p4⟩ := ofPV_ok p1
  have r := resA_V r1
  cases r with
  | nil => cases b <;> cases ew
  | cons ra rt =>
    cases rt with
    | nil => exact bi1_sem s1 ra.rdX ew hc p4
    | cons rb rt2 =>
      cases rt2 with
      | nil => exact bi2_sem s1 ra rb ew hc p4
      | cons _ _ => rw [biW_long] at ew; cases ew
end
end Wb
namespace Wb
open PySem PySem.Spec PyProof.Rows
open L2 (V Hp HO Rd upd upd_same upd_ne SqL SqT VK TE TT TA TS TG TI TO Ends WX XK R2 Cx Inv RelV Vals ne_of_none PE PT PA PS PSs PG PI OpR UnR CallR MtR Gl Vis Loc)
section
variable {X : Cx} {T : Tx} {W' : WX} {c : Ctx} {pos p apos : Pos}
theorem m1_ok {o e : Expr} {m : Str} {env : PySem.Env} (ho : okx o = true) (he : okx e = true) (hl : (apos.endLine == pos.line) = true) (hE : X.env = env) : L2.M1 X o m apos e pos := by
  subst hE
  refine ⟨base_ok ho m, ?_, hl, ?_⟩
  · rw [star_cons he []]; rfl
  · rw [star_cons he []]; rfl
theorem m2_ok {o e f : Expr} {m : Str} (ho : okx o = true) (he : okx e = true) (hf : okx f = true) (hl : (apos.endLine == pos.line) = true) : L2.M2 X o m apos e f pos := by
  refine ⟨base_ok ho m, ?_, hl, ?_⟩
  · rw [star_cons he [f], star_cons hf []]; rfl
  · rw [star_cons he [f], star_cons hf []]; rfl
theorem isD_rdx {g : Gh} {H : Hp} {x : V} {kvs : List (Key × W)} (h : RdX T g H x (.dct kvs)) : ∃ a, x = .ref a ∧ L2.IsD H a := by
  obtain ⟨d, xs, rfl, hr, rr⟩ := rdx_dct h
  exact ⟨d, rfl, .inl ⟨xs, hr⟩⟩
theorem get_post {g : Gh} {env : Env} {S : Store} {σ : L2.St} {H : Hp} {q : Bool} {x y : V} {kvs : List (Key × W)} {k d w : W} {fr : Bool} {Q : VK} {z : V} (s : Sim T g H env S σ) (hx : RdX T g H x (.dct kvs)) (hy : RepX T g H y k) (hz : RepX T g H z d)
    (e : (keyW k).map (fun k => (false, (valW kvs k).getD d)) = some (fr, w)) (hc : fr = false → c ≠ .F) (h : Post T W' q (Res T c) g env σ H (.ok w S) Q) {a : Addr} (ea : x = .ref a) : ∃ o, L2.DGet H a y o ∧ Q (o.getD z) H := by
  cases hk : keyW k with
  | none => rw [hk] at e; cases e
  | some kk =>
    rw [hk] at e; cases e
    obtain ⟨a', o, e1, dg, ho⟩ := get_rdx hx hy.rdX hk
    rw [ea] at e1
    cases e1
    refine ⟨o, dg, ?_⟩
    rcases ho with ⟨h1, rfl⟩ | ⟨w', v, h1, rfl, h3⟩
    · rw [h1] at h
      exact Post.val (hc rfl) s hz h
    · rw [h1] at h
      exact Post.val (hc rfl) s h3 h
theorem se_get1 (G : XG X T) {o e : Expr} {o' e' : E} (ho : PE X o (tE T W' (.held (quiet e')) o')) (he : PE X e (tE T W' .V e')) (oko : okx o = true) (oke : okx e = true) (hl : (apos.endLine == pos.line) = true) :
    PE X (.Call (.Attribute o "get" apos) [e] [] pos) (tE T W' c (.bmeth .get1 o' [e'])) := by
  refine pe_imp (L2.pe_dget1 (by have := G.hu; omega) ho he (m1_ok oko oke hl rfl)) fun σ H Q ⟨g, env, S, s, p⟩ => ?_
  unfold ev at p
  simp only [quiets, Bool.and_true] at p
  refine ⟨g, env, S, s, Post.bind (qa := quiet o') (qb := quiet e') bm_res (by simp [quiet, quiets]) p fun av S1 x g1 H1 _ e1 s1 r1 p1 => ?_⟩
  split at p1
  · rename_i hr
    have rx := held_rdx r1 (Ext.refl)
    cases av with
    | dct kvs =>
      obtain ⟨a, rfl, hd⟩ := isD_rdx rx
      refine ⟨a, rfl, hd, g1, env, S1, s1, ?_⟩
      unfold evs evs at p1
      simp only [R.bind_assoc, R.bind_ok] at p1
      refine Post.bind (qa := quiet e') (qb := true) bm_res (by simp) p1 fun bv S2 y g2 H2 _ e2 s2 r2 p2 => ?_
      obtain ⟨fr, w, ew, hc, p4⟩ := ofPV_ok p2
      exact get_post s2 (held_rdx r1 e2) r2 repX_non ew hc p4 rfl
    | _ => exact absurd hr Bool.false_ne_true
  · exact p1.elim
theorem se_get2 (G : XG X T) {o e f : Expr} {o' e' f' : E} (ho : PE X o (tE T W' (.held (quiet e' && quiet f')) o')) (he : PE X e (tE T W' .V e')) (hf : PE X f (tE T W' .V f')) (oko : okx o = true) (oke : okx e = true) (okf : okx f = true) (hl : (apos.endLine == pos.line) = true) :
    PE X (.Call (.Attribute o "get" apos) [e, f] [] pos) (tE T W' c (.bmeth .get2 o' [e', f'])) := by
  refine pe_imp (L2.pe_dget2 (by have := G.hu; omega) ho he hf (m2_ok oko oke okf hl)) fun σ H Q ⟨g, env, S, s, p⟩ => ?_
  unfold ev at p
  simp only [quiets, Bool.and_true] at p
  refine ⟨g, env, S, s, Post.bind (qa := quiet o') (qb := quiet e' && quiet f') bm_res (by simp [quiet, quiets]) p fun av S1 x g1 H1 _ e1 s1 r1 p1 => ?_⟩
  split at p1
  · rename_i hr
    have rx := held_rdx r1 (Ext.refl)
    cases av with
    | dct kvs =>
      obtain ⟨a, rfl, hd⟩ := isD_rdx rx
      refine ⟨a, rfl, hd, g1, env, S1, s1, ?_⟩
      unfold evs evs evs at p1
      simp only [R.bind_assoc, R.bind_ok] at p1
      refine Post.bind (qa := quiet e') (qb := quiet f') bm_res (by simp) p1 fun bv S2 y g2 H2 _ e2 s2 r2 p2 => ?_
      refine ⟨g2, env, S2, s2, Post.bind (qa := quiet f') (qb := true) bm_res (by simp) p2 fun dv S3 z g3 H3 _ e3 s3 r3 p3 => ?_⟩
      obtain ⟨fr, w, ew, hc, p4⟩ := ofPV_ok p3
      exact get_post s3 (held_rdx r1 (e2.trans' e3)) (e3.stay.repX r2) r3 ew hc p4 rfl
    | _ => exact absurd hr Bool.false_ne_true
  · exact p1.elim
theorem se_join (G : XG X T) {o e : Expr} {o' e' : E} (ho : PE X o (tE T W' (.held (quiet e')) o')) (he : PE X e (tE T W' .V e')) (oko : okx o = true) (oke : okx e = true) (hl : (apos.endLine == pos.line) = true) :
    PE X (.Call (.Attribute o "join" apos) [e] [] pos) (tE T W' c (.bmeth .join o' [e'])) := by
  have z := L2.pe_join (apos := apos) (pos := pos) ho he (by rw [star_cons oke []]; rfl) (base_ok oko _) hl
  rw [G.eK] at z
  refine pe_imp z fun σ H Q ⟨g, env, S, s, p⟩ => ?_
  unfold ev at p
  simp only [quiets, Bool.and_true] at p
  refine ⟨g, env, S, s, Post.bind (qa := quiet o') (qb := quiet e') bm_res (by simp [quiet, quiets]) p fun av S1 x g1 H1 _ e1 s1 r1 p1 => ?_⟩
  split at p1
  · rename_i hr
    have rx := held_rdx r1 (Ext.refl)
    cases av with
    | str z =>
      refine ⟨⟨z, rdx_str rx⟩, g1, env, S1, s1, ?_⟩
      unfold evs evs at p1
      simp only [R.bind_assoc, R.bind_ok] at p1
      refine Post.bind (qa := quiet e') (qb := true) bm_res (by simp) p1 fun bv S2 y g2 H2 _ e2 s2 r2 p2 => ?_
      obtain ⟨fr, w, ew, hc, p4⟩ := ofPV_ok p2
      cases bv with
      | lst ws =>
        cases hn : strsW ws with
        | none => simp only [bmW, hn] at ew; cases ew
        | some ss =>
          simp only [bmW, hn] at ew
          obtain ⟨hz, ew⟩ := if_some ew
          cases ew
          obtain ⟨d, xs, rfl, hl, rr⟩ := lst_inv r2
          have ex := strsW_paired (fun _ _ => str_inv) rr hn
          exact ⟨z, d, ss, rdx_str rx, rfl, .inl (by rw [← ex]; exact .inl hl.2), hz, Post.val (hc rfl) s2 repX_str p4⟩
      | _ => cases ew
    | _ => exact absurd hr Bool.false_ne_true
  · exact p1.elim
theorem se_split (G : XG X T) {o e : Expr} {o' e' : E} (ho : PE X o (tE T W' (.held (quiet e')) o')) (he : PE X e (tE T W' .V e')) (oko : okx o = true) (oke : okx e = true) (hl : (apos.endLine == pos.line) = true) :
    PE X (.Call (.Attribute o "split" apos) [e] [] pos) (tE T W' c (.bmeth .split o' [e'])) := by
  have z := L2.pe_split (apos := apos) (pos := pos) ho he (by rw [star_cons oke []]; rfl) (base_ok oko _) hl
  refine pe_imp z fun σ H Q ⟨g, env, S, s, p⟩ => ?_
  unfold ev at p
  simp only [quiets, Bool.and_true] at p
  refine ⟨g, env, S, s, Post.bind (qa := quiet o') (qb := quiet e') bm_res (by simp [quiet, quiets]) p fun av S1 x g1 H1 _ e1 s1 r1 p1 => ?_⟩
  split at p1
  · rename_i hr
    have rx := held_rdx r1 (Ext.refl)
    cases av with
    | str z =>
      refine ⟨⟨z, rdx_str rx⟩, g1, env, S1, s1, ?_⟩
      unfold evs evs at p1
      simp only [R.bind_assoc, R.bind_ok] at p1
      refine Post.bind (qa := quiet e') (qb := true) bm_res (by simp) p1 fun bv S2 y g2 H2 _ e2 s2 r2 p2 => ?_
      obtain ⟨fr, w, ew, hc, p4⟩ := ofPV_ok p2
      cases bv with
      | str t =>
        simp only [bmW] at ew
        obtain ⟨hz, ew⟩ := if_some ew
        cases ew
        exact ⟨z, t, rdx_str rx, by rw [str_inv r2], hz.1, by rw [← sizeL_eq]; exact hz.2, fun p hp => new_strs p4 s2 hp⟩
      | _ => cases ew
    | _ => exact absurd hr Bool.false_ne_true
  · exact p1.elim
/-! ### isinstance, a built-in class -/
def tyNm : Ty → String
  | .int => "int" | .bool => "bool" | .str => "str" | .tuple => "tuple" | .list => "list" | .dict => "dict"
def tyNs : Ty → Str
  | .int => "int" | .bool => "bool" | .str => "str" | .tuple => "tuple" | .list => "list" | .dict => "dict"
def tyV (t : Ty) : Value := .type (tyNm t)
def isB (s t : Ty) : Bool := decide (s = t) || (decide (s = .bool) && decide (t = .int))
theorem kit_tt (K : PySem.W.Frag) (s t : Ty) : PySem.W.kitOne K (tyV s) (tyV t) = some (isB s t) := by
  have h : L2.kitB (tyNm s) (tyNm t) = some (isB s t) := by cases s <;> cases t <;> decide +kernel
  exact L2.kit_ty h
theorem kit_none (K : PySem.W.Frag) (t : Ty) : PySem.W.kitOne K (.type "NoneType") (tyV t) = some false := by
  have h : L2.kitB "NoneType" (tyNm t) = some false := by cases t <;> decide +kernel
  exact L2.kit_ty h
theorem ty_rdx {g : Gh} {H : Hp} {x : V} {w : W} {s : Ty} (h : RdX T g H x w) (e : tyW w = some s) : L2.TyX T.K H x (tyV s) := by
  cases w with
  | bl b => cases e; rw [rdx_bl h]; exact .base (.bl b)
  | int b => cases e; rw [rdx_int h]; exact .base (.int b)
  | str b => cases e; rw [rdx_str h]; exact .base (.str b)
  | tup ws =>
    cases e
    obtain ⟨a, xs, rfl, hr, _⟩ := rdx_tup h
    rcases hr with (hr | ⟨o, hr⟩) | ⟨o, its, n, hk, hc, _⟩
    · exact .base (.tup hr)
    · exact .fTuple hr
    · exact .kTuple hk hc
  | lst ws =>
    cases e
    obtain ⟨a, xs, rfl, hr, _⟩ := rdx_lst h
    rcases hr with hr | ⟨o, hr⟩
    · exact .base (.lst hr)
    · exact .base (.frz hr)
  | dct ws =>
    cases e
    obtain ⟨a, xs, rfl, hr, _⟩ := rdx_dct h
    rcases hr with hr | ⟨o, hr⟩
    · exact .base (.dK hr)
    · exact .fDict hr
  | _ => cases e
theorem boot_ty (t : Ty) : bootBuiltins (tyNs t) = some (tyV t) := by cases t <;> decide +kernel
theorem se_isi (G : XG X T) {e : Expr} {e' : E} {t : Ty} {p2 : Pos} (hg : Gl X "isinstance") (hm : X.mg "isinstance" = none) (hgt : Gl X (tyNs t)) (hmt : X.mg (tyNs t) = none) (he : PE X e (tE T W' .B e')) (ok : okx e = true) :
    PE X (.Call (.Name "isinstance" p) [e, .Name (tyNs t) p2] [] pos) (tE T W' c (.isi e' t)) := by
  have ht : PE X (.Name (tyNs t) p2) (L2.tC (.ty (tyNm t))) := L2.pe_bltn hgt hmt (boot_ty t) rfl (by cases t <;> decide +kernel) (by cases t <;> decide +kernel)
  have z := L2.pe_callB (p := p) (pos := pos) L2.call_isi hg hm PyProof.Rows.boot_isinstance (L2.pa_cons he (L2.pa_cons ht L2.pa_nil rfl) (star_cons ok _)) (by decide +kernel) (by decide +kernel) (star_cons ok _) rfl
  rw [G.eK] at z
  refine pe_imp z fun σ H Q ⟨g, env, S, s, p⟩ => ?_
  unfold ev at p
  refine ⟨g, env, S, s, Post.bind (qa := quiet e') (qb := true) bm_res (by simp [quiet, quiets]) p fun av S1 x g1 H1 _ e1 s1 r1 p1 => ?_⟩
  obtain ⟨b, eb, hc, p4⟩ := ofB_ok p1
  refine ⟨x, .ty (tyNm t), ?_⟩
  cases av with
  | non =>
    cases eb
    exact ⟨_, _, _, rfl, .ty _, by rw [rdx_non r1]; exact .base .non, kit_none T.K t, Post.val hc s1 repX_bl p4⟩
  | _ =>
    first
      | (cases eb; done)
      | (cases eb; exact ⟨_, _, _, rfl, .ty _, ty_rdx r1 rfl, kit_tt T.K _ t, Post.val hc s1 repX_bl p4⟩)
end
end Wb
namespace Wb
open PySem PySem.Spec PyProof.Rows
open L2 (V Hp HO Rd upd upd_same upd_ne SqL SqT VK TE TT TA TS TG TI TO Ends WX XK R2 Cx Inv RelV Vals ne_of_none PE PT PA PS PSs PG PI OpR UnR CallR MtR Gl Vis Loc)

/-! ### what a def promises -/
/-- the cells alone -/
structure SimC (T : Tx) (g : Gh) (H : Hp) (S : Store) : Prop where
  wf : ∀ a, H a = none → g.L a = .out
  cells : ∀ n c, S[n]? = some c → CellOk T g H n c
/-- the own parameters' containers, at the end -/
inductive FinOk (T : Tx) (g' : Gh) (H' : Hp) : Nat → List Bool → List V → List W → Prop where
  | nil (i : Nat) : FinOk T g' H' i [] [] []
  | own {i : Nat} {bs : List Bool} {vs : List V} {fs : List W} {a : Addr} {w : W} (l : g'.L a = .slot i) (o : Own T g' H' .o a w) (r : FinOk T g' H' (i + 1) bs vs fs) : FinOk T g' H' i (true :: bs) (.ref a :: vs) (w :: fs)
  | val {i : Nat} {bs : List Bool} {vs : List V} {fs : List W} {v : V} (r : FinOk T g' H' (i + 1) bs vs fs) : FinOk T g' H' i (false :: bs) (v :: vs) fs
/-- what is handed back -/
def RetOk (T : Tx) (fresh : Bool) (H : Hp) (g' : Gh) (H' : Hp) (x : V) (w : W) : Prop := if fresh then Res T .F H g' H' x w else RepX T g' H' x w
def spF (T : Tx) (f : Fn) : L2.Sp := fun vs H Q E => ∃ g S ws, vs.length = f.own.length ∧ ws.length = f.own.length ∧ Sim T g H (env0 f.own.length f.own ws) S (vs.map some) ∧ (∀ a i, g.L a = .slot i → f.own.getD i false = true) ∧ match f.sem S ws with
  | .ok r S' => ∀ x g' H', ExtS g H g' H' → SimC T g' H' S' → RetOk T f.fresh H g' H' x r.1 → FinOk T g' H' 0 f.own vs r.2 → Q x H'
  | .exn c fs S' => ∀ d g' H', ExtS g H g' H' → SimC T g' H' S' → ExOk T g' H' d fs → E (.ref (T.ca c)) (some d) H'
  | .bad => False
/-- the def at hand: kept -/
structure FOK (T : Tx) (f : Fn) (a : Addr) (fd : FuncData) (ps : List Str) : Prop where
  ok : L2.FnOk T.prog T.w T.K T.mg T.base (L2.CX T.prog T.w) f.lvl a fd ps (spF T f)
  kp : PySem.W.keepIn T.K (.ref a) = true
  dv : ∀ k, k ≤ f.dfl.length → ∃ ds dvs, L2.Binds T.K fd ps ds ∧ Vals dvs ds ∧ Paired (Stable T) dvs (f.dv k)
/-- a def of the module, by its name -/
def FnK (T : Tx) (f : Fn) : Prop := ∃ a fd ps, T.mg f.nm = some (.ref a) ∧ FOK T f a fd ps

/-! ### the caller's own containers, out of a callee's sight -/
def cleanL : Lab → Lab
  | .slot _ => .out
  | l => l
def Gh.clean (g : Gh) : Gh := ⟨fun a => cleanL (g.L a), g.ι⟩
theorem clean_slot {g : Gh} {a : Addr} {i : Nat} (h : g.L a = .slot i) : g.clean.L a = .out := by
  show cleanL (g.L a) = _
  rw [h]
  rfl
theorem clean_ne {g : Gh} {a : Addr} (h : ∀ i, g.L a ≠ .slot i) : g.clean.L a = g.L a := by
  show cleanL (g.L a) = _
  cases q : g.L a with
  | slot i => exact absurd q (h i)
  | _ => rfl
theorem clean_out {g : Gh} {a : Addr} (h : g.L a = .out) : g.clean.L a = .out := (clean_ne fun i z => by rw [h] at z; cases z).trans h
section
variable {T : Tx} {g g' : Gh} {env : Env} {S S' : Store} {σ : L2.St} {H H' : Hp}
theorem stay_clean : Stay g H g.clean H := by
  refine ⟨fun a l _ => ?_, fun _ _ _ r => r, fun _ _ _ _ _ r => r, fun m l => ⟨rfl, ?_⟩⟩
  · rw [clean_ne fun i z => by rw [l] at z; cases z]; exact l
  · show g.clean.L (g.ι m) = _
    rw [clean_ne fun i z => by rw [l] at z; cases z]; exact l
theorem cell_stay {n : Nat} {c : Cell} (s : Stay g H g' H') (hh : ∀ a, (g.L a = .cell n ∨ ∃ f, g.L a = .fld n f) → H a ≠ none → g'.L a = g.L a ∧ H' a = H a) (h : CellOk T g H n c) : CellOk T g' H' n c := by
  obtain ⟨la, dx, gs, hx, r⟩ := h
  obtain ⟨e1, e2⟩ := s.cel n la
  refine ⟨by rw [e1]; exact e2, dx, gs, by rw [e1, (hh _ (.inl la) (by rw [hx]; simp)).2]; exact hx, paired_imp r fun p q z => ⟨z.1, ?_⟩⟩
  have z2 := z.2
  revert z2
  cases q.2.1 with
  | v => exact fun z2 => s.repX z2
  | o =>
    rintro ⟨a, ex, la, o⟩
    obtain ⟨l1, h1⟩ := hh a (.inr ⟨_, la⟩) o.some
    exact ⟨a, ex, l1.trans la, o.stay s h1⟩
  | k =>
    rintro ⟨a, ex, la, o⟩
    obtain ⟨l1, h1⟩ := hh a (.inr ⟨_, la⟩) o.some
    exact ⟨a, ex, l1.trans la, o.stay s h1⟩
theorem Sim.c (s : Sim T g H env S σ) : SimC T g H S := ⟨s.wf, s.cells⟩
theorem SimC.clean (s : SimC T g H S) : SimC T g.clean H S := by
  refine ⟨fun a n => clean_out (s.wf a n), fun n c h => cell_stay stay_clean (fun a l _ => ⟨?_, rfl⟩) (s.cells n c h)⟩
  refine clean_ne fun i z => ?_
  rcases l with l | ⟨f, l⟩ <;> (rw [l] at z; cases z)
/-- at a callee's entry, all arguments values -/
theorem sim_args (s : SimC T g H S) : ∀ {xs : List V} {ws : List W} {own : List Bool}, Paired (RepX T g H) xs ws → own.length = ws.length → (own.all fun b => !b) = true → Sim T g.clean H (env0 own.length own ws) S (xs.map some) := by
  intro xs ws own r hl ho
  have hz : env0 own.length own ws = ws.map fun w => some (Flag.v, w) := by
    unfold env0
    rw [hl, Nat.sub_self]
    have e : ((own.zip ws).map fun p => some ((if p.1 then Flag.o else Flag.v), p.2)) = ws.map fun w => some (Flag.v, w) := by
      clear r
      induction own generalizing ws with
      | nil =>
        cases ws with
        | nil => rfl
        | cons _ _ => cases hl
      | cons b own ih =>
        cases ws with
        | nil => cases hl
        | cons w ws =>
          rw [List.all_cons, Bool.and_eq_true] at ho
          have hb : b = false := by simpa using ho.1
          subst hb
          rw [List.zip_cons_cons, List.map_cons, List.map_cons, ih (by simpa using hl) ho.2]
          rfl
    rw [e]
    simp
  rw [hz]
  refine ⟨s.clean.wf, by simp [r.length], fun i fl w h => ?_, s.clean.cells⟩
  unfold Env.at at h
  rw [List.getElem?_map] at h
  cases q : ws[i]? with
  | none => rw [q] at h; cases h
  | some w' =>
    rw [q] at h
    cases h
    obtain ⟨x, hx, rx⟩ := paired_get r q
    exact ⟨x, by rw [List.getElem?_map, hx]; rfl, stay_clean.repX rx⟩
/-- the labels of the caller's containers again -/
noncomputable def Gh.back (g : Gh) (H : Hp) (g' : Gh) : Gh := by
  classical
  exact ⟨fun a => if ∃ i, g.L a = .slot i ∧ H a ≠ none then g.L a else g'.clean.L a, g'.ι⟩
theorem back_slot {a : Addr} {i : Nat} (h : g.L a = .slot i) (n : H a ≠ none) : (g.back H g').L a = .slot i := by
  classical
  show (if ∃ i, g.L a = .slot i ∧ H a ≠ none then g.L a else g'.clean.L a) = _
  rw [if_pos ⟨i, h, n⟩]; exact h
theorem back_ne {a : Addr} (h : ∀ i, g.L a ≠ .slot i) : (g.back H g').L a = g'.clean.L a := by
  classical
  show (if ∃ i, g.L a = .slot i ∧ H a ≠ none then g.L a else g'.clean.L a) = _
  rw [if_neg fun ⟨i, z, _⟩ => h i z]
theorem back_none {a : Addr} (h : H a = none) : (g.back H g').L a = g'.clean.L a := by
  classical
  show (if ∃ i, g.L a = .slot i ∧ H a ≠ none then g.L a else g'.clean.L a) = _
  rw [if_neg fun ⟨i, _, z⟩ => z h]
/-- where the callee's label is no slot and not out, it stands -/
theorem back_at (e : ExtS g.clean H g' H') {a : Addr} (h : g'.L a ≠ .out) (h2 : ∀ i, g'.L a ≠ .slot i) : (g.back H g').L a = g'.L a := by
  by_cases hs : ∃ i, g.L a = .slot i
  · obtain ⟨i, hs⟩ := hs
    by_cases hn : H a = none
    · rw [back_none hn]; exact clean_ne h2
    · have := (e.keep a hn (.inl (clean_slot hs))).1
      rw [clean_slot hs] at this
      exact absurd this h
  · rw [back_ne fun i z => hs ⟨i, z⟩]; exact clean_ne h2
theorem stay_back (e : ExtS g.clean H g' H') : Stay g' H' (g.back H g') H' := by
  refine ⟨fun a l _ => ?_, fun _ _ _ r => r, fun _ _ _ _ _ r => r, fun m l => ⟨rfl, ?_⟩⟩
  · rw [back_at e (by rw [l]; simp) (by rw [l]; simp)]; exact l
  · show (g.back H g').L (g'.ι m) = _
    rw [back_at e (by rw [l]; simp) (by rw [l]; simp)]; exact l
theorem ext_back (wf : ∀ a, H a = none → g.L a = .out) (e : ExtS g.clean H g' H') : Ext false g H (g.back H g') H' := by
  refine ⟨fun a n p => ?_, fun m l => ?_, e.some, fun a i n l => ?_⟩
  rotate_left 2
  · by_cases hs : ∃ j, g.L a = .slot j
    · exact hs
    · rw [back_ne fun i z => hs ⟨i, z⟩] at l
      exfalso
      have z : cleanL (g'.L a) = .slot i := l
      cases q : g'.L a <;> rw [q] at z <;> cases z
  · rcases p with p | p | p | ⟨i, p⟩
    · cases p
    · have k := e.keep a n (.inl (clean_out p))
      refine ⟨?_, k.2⟩
      rw [back_ne fun i z => by rw [p] at z; cases z]
      rw [clean_out (k.1.trans (clean_out p))]; exact p.symm
    · have q : g.clean.L a = .frz := (clean_ne fun i z => by rw [p] at z; cases z).trans p
      have k := e.keep a n (.inr q)
      refine ⟨?_, k.2⟩
      rw [back_at e (by rw [k.1, q]; simp) (by rw [k.1, q]; simp), k.1, q]; exact p.symm
    · have k := e.keep a n (.inl (clean_slot p))
      exact ⟨(back_slot p n).trans p.symm, k.2⟩
  · have q : g.clean.L (g.clean.ι m) = .cell m := (clean_ne fun i z => by rw [show g.clean.ι m = g.ι m from rfl, l] at z; cases z).trans l
    obtain ⟨e1, e2⟩ := e.cel m q
    refine ⟨e1, ?_⟩
    show (g.back H g').L (g.ι m) = _
    have e3 : g'.L (g.ι m) = .cell m := e2
    rw [back_at e (by rw [e3]; simp) (by rw [e3]; simp)]; exact e3
theorem sim_back (s : Sim T g H env S σ) (e : ExtS g.clean H g' H') (c : SimC T g' H' S') : Sim T (g.back H g') H' env S' σ := by
  have x := ext_back s.wf e
  refine ⟨fun a n => ?_, s.len, fun i fl w h => ?_, fun n cl h => ?_⟩
  · have hn : H a = none := by
      cases q : H a with
      | none => rfl
      | some u => exact absurd n (e.some a (by rw [q]; simp))
    rw [back_none hn]
    exact clean_out (c.wf a n)
  · have z := s.slots i fl w h
    cases fl with
    | v =>
      obtain ⟨v, e1, r⟩ := z
      exact ⟨v, e1, x.stay.repX r⟩
    | o =>
      obtain ⟨a, e1, l, o⟩ := z
      obtain ⟨l2, h2⟩ := x.keep a o.some (.inr (.inr (.inr ⟨i, l⟩)))
      exact ⟨a, e1, l2.trans l, o.stay x.stay h2⟩
    | k =>
      obtain ⟨a, e1, l, o⟩ := z
      obtain ⟨l2, h2⟩ := x.keep a o.some (.inr (.inr (.inr ⟨i, l⟩)))
      exact ⟨a, e1, l2.trans l, o.stay x.stay h2⟩
  · refine cell_stay (stay_back e) (fun a l _ => ⟨?_, rfl⟩) (c.cells n cl h)
    rcases l with l | ⟨f, l⟩
    · exact back_at e (by rw [l]; simp) (by rw [l]; simp)
    · exact back_at e (by rw [l]; simp) (by rw [l]; simp)
end
/-! ### a call -/
theorem bm_resW {T : Tx} {c : Ctx} : BaseMono (Res T c) := bm_res
section
variable {X : Cx} {T : Tx} {W' : WX} {c : Ctx} {pos p : Pos}
theorem f_ok (G : XG X T) {f : Fn} {a : Addr} {fd : FuncData} {ps : List Str} (F : FOK T f a fd ps) : L2.FnOk X.prog X.w X.K X.mg X.base (L2.CX X.prog X.w) f.lvl a fd ps (spF T f) := by
  rw [G.eP, G.eW, G.eK, G.eM, G.eB]
  exact F.ok
/-- what the promise gives, for a callee without own parameters -/
theorem spf_call {f : Fn} {g : Gh} {env : Env} {S : Store} {σ : L2.St} {H : Hp} {vs : List V} {ws : List W} {Q : V → Hp → Prop} (hp : f.plain = true) (hc : c = .F → f.fresh = true) (s : Sim T g H env S σ) (r : Paired (RepX T g H) vs ws) (hl : ws.length = f.own.length)
    (p : Post T W' false (Res T c) g env σ H ((f.sem S ws).bind fun r S => .ok r.1 S) Q) : spF T f vs H Q (L2.WE W' σ) := by
  refine ⟨g.clean, S, ws, r.length.trans hl, hl, sim_args s.c r hl.symm hp, fun a i z => ?_, ?_⟩
  · exfalso
    have z' : cleanL (g.L a) = .slot i := z
    cases q : g.L a <;> rw [q] at z' <;> cases z'
  cases hs : f.sem S ws with
  | bad => rw [hs] at p; exact p
  | ok r S' =>
    rw [hs] at p
    intro x g' H' e sc rt fin
    have z : Ext false g H (g.back H g') H' := ext_back s.wf e
    have sb := sim_back s e sc
    unfold RetOk at rt
    cases hf : f.fresh with
    | true =>
      rw [hf, if_pos rfl] at rt
      obtain ⟨a, rfl, hn, hl, o⟩ := rt
      exact res_fresh hn z sb (by rw [back_none hn]; exact clean_out hl) (o.stay (stay_back e) rfl) p
    | false =>
      rw [hf, if_neg Bool.false_ne_true] at rt
      exact p x _ H' z sb (res_val (fun q => by rw [hc q] at hf; cases hf) ((stay_back e).repX rt))
  | exn cc fs S' =>
    rw [hs] at p
    intro d g' H' e sc ex
    refine p d (g.back H g') H' (ext_back s.wf e) (sim_back s e sc) ?_
    obtain ⟨gs, h1, h2⟩ := ex
    exact ⟨gs, h1, paired_imp h2 fun _ _ z => ⟨z.1, (stay_back e).repX z.2⟩⟩
theorem evs_len {c : Ctx} : ∀ {es : List E} {env : Env} {S S' : Store} {ws : List W}, evs c es env S = .ok ws S' → ws.length = es.length
  | [], env, S, S', ws, h => by unfold evs at h; cases h; rfl
  | e :: es, env, S, S', ws, h => by
    unfold evs at h
    cases h1 : ev c e env S with
    | bad => rw [h1] at h; cases h
    | exn _ _ _ => rw [h1] at h; cases h
    | ok a S1 =>
      rw [h1, R.bind_ok] at h
      cases h2 : evs c es env S1 with
      | bad => rw [h2] at h; cases h
      | exn _ _ _ => rw [h2] at h; cases h
      | ok b S2 =>
        rw [h2, R.bind_ok] at h
        cases h
        rw [List.length_cons, List.length_cons, evs_len h2]
theorem dv_len {f : Fn} {k : Nat} (h : k ≤ f.dfl.length) : (f.dv k).length = k := by
  unfold Fn.dv
  rw [List.length_drop]
  omega
/-- f(e, ..) -/
theorem se_call (G : XG X T) (tk : L2.Takes X W') {f : Fn} {a : Addr} {fd : FuncData} {ps : List Str} {k : Nat} {e : Expr} {es : List Expr} {es' : List E} {n : Nat} (F : FOK T f a fd ps) (hr : L2.Room n X.A) (hn : f.lvl ≤ n) (hg : Gl X f.nm) (hm : T.mg f.nm = some (.ref a))
    (hd : (f.nm == ("__debug__" : Str)) = false) (he : PA X (e :: es) (tA T W' .V es')) (ok : okx e = true) (oks : okxs es = true) (hk : k ≤ f.dfl.length) (hl : es'.length + k = f.own.length) :
    PE X (.Call (.Name f.nm p) (e :: es) [] pos) (tE T W' c (.call f es' k)) := by
  obtain ⟨ds, dvs, hb, hv, rv⟩ := F.dv k hk
  have kp := F.kp
  rw [← G.eK] at hb kp
  rw [← G.eM] at hm
  have z := L2.pe_callSD (p := p) (pos := pos) (E := L2.WE W') (f_ok G F) (hr.mono hn) hg hm kp hb hv (L2.passAt tk) he hd (star_cons ok es) (star_none oks pos)
  refine pe_imp z fun σ H Q ⟨g, env, S, s, p⟩ => ?_
  unfold ev at p
  refine ⟨g, env, S, s, Post.bind (qa := quiets es') (qb := false) bm_res (by simp [quiet]) p fun av S1 x g1 H1 ea e1 s1 r1 p1 => ?_⟩
  have r := resA_V r1
  split at p1
  · exact p1.elim
  · rename_i hc
    split at p1
    · rename_i hp
      refine spf_call hp (fun q => by cases hf : f.fresh <;> simp [q, hf] at hc ⊢) s1 (paired_append r (paired_imp rv fun _ _ z => z g1 H1)) ?_ p1
      rw [List.length_append, evs_len ea, dv_len hk]; exact hl
    · exact p1.elim
/-- f() -/
theorem se_call0 (G : XG X T) (tk : L2.Takes X W') {f : Fn} {a : Addr} {fd : FuncData} {ps : List Str} {k : Nat} {n : Nat} (F : FOK T f a fd ps) (hr : L2.Room n X.A) (hn : f.lvl ≤ n) (hg : Gl X f.nm) (hm : T.mg f.nm = some (.ref a))
    (hd : (f.nm == ("__debug__" : Str)) = false) (hk : k ≤ f.dfl.length) (hl : k = f.own.length) :
    PE X (.Call (.Name f.nm p) [] [] pos) (tE T W' c (.call f [] k)) := by
  obtain ⟨ds, dvs, hb, hv, rv⟩ := F.dv k hk
  have kp := F.kp
  rw [← G.eK] at hb kp
  rw [← G.eM] at hm
  refine ⟨fun pins s σ H Q I ⟨g, env, S, si, p⟩ => ?_⟩
  refine wpAny_Call_Name_kw (L2.ld_glob I hg hm ?_ hd)
  refine PySem.W.callWith_K0 I.kIn kp (L2.run_fnSD (us := []) (f_ok G F) (hr.mono hn) hb hv (L2.passAt tk σ) I .nil ?_)
  unfold ev evs at p
  rw [R.bind_ok] at p
  split at p
  · exact p.elim
  · rename_i hc
    split at p
    · rename_i hp
      refine spf_call hp (fun q => by cases hf : f.fresh <;> simp [q, hf] at hc ⊢) si (paired_imp rv fun _ _ z => z g H) ?_ p
      rw [dv_len hk]; exact hl
    · exact p.elim
end
end Wb
namespace Wb
open PySem PySem.Spec PyProof.Rows
open L2 (V Hp HO Rd upd upd_same upd_ne SqL SqT VK TE TT TA TS TG TI TO Ends WX XK R2 Cx Inv RelV Vals ne_of_none PE PT PA PS PSs PG PI OpR UnR CallR MtR Gl Vis Loc)

/-! ### what a loop walks -/
theorem p62 : (2 : Int) ^ 62 = 4611686018427387904 := by decide
/-- a new pair, or a thing that is there -/
def Yl (T : Tx) (g : Gh) (H : Hp) (x : V) (H3 : Hp) (w : W) : Prop := (H3 = H ∧ RepX T g H x w) ∨ ∃ p xs us, x = .ref p ∧ H p = none ∧ H3 = upd H p (.tup xs) ∧ w = .tup us ∧ Paired (RepX T g H) xs us
def ItOk (T : Tx) (H0 : Hp) (g : Gh) (H : Hp) (J : L2.It) (ws : List W) : Prop := ∀ g2 H2, Stay g H g2 H2 → ∀ i, (ws.length ≤ i → J.stop i H2) ∧ ∀ w, ws[i]? = some w → J.go i H2 ∧ ∀ x H3, J.yld i H2 x H3 → Yl T g2 H2 x H3 w
theorem bm_it {T : Tx} : BaseMono (ItOk T) := fun _ _ _ _ _ _ _ h => h
def evi (k : Src) (srcs : List E) (env : Env) (S : Store) : R (List W) := (evs .V srcs env S).bind (itemsR k)
def tI (T : Tx) (W' : WX) (k : Src) (srcs : List E) : TI := fun σ H R => ∃ g env S, Sim T g H env S σ ∧ Post T W' (quiets srcs) (ItOk T) g env σ H (evi k srcs env S) R
theorem PI.or {X : Cx} {tg e : Expr} {a b : TI} (h : PI X tg e a) (k : PI X tg e b) : PI X tg e (fun σ H R => a σ H R ∨ b σ H R) := ⟨fun pins s σ H R I q => by
  rcases q with q | q
  · exact h.run pins s σ H R I q
  · exact k.run pins s σ H R I q⟩
theorem pi_imp {X : Cx} {tg e : Expr} {a b : TI} (h : PI X tg e a) (i : ∀ σ H R, b σ H R → a σ H R) : PI X tg e b := ⟨fun pins s σ H R I q => h.run pins s σ H R I (i _ _ _ q)⟩
section
variable {T : Tx} {g : Gh} {H H0 : Hp}
theorem it_lst {a : Addr} {xs : List V} {ws : List W} (h : g.L a = .frz ∧ Rd H a (.lst xs)) (r : Paired (RepX T g H) xs ws) : ItOk T H0 g H (L2.Itl T.K a) ws := by
  intro g2 H2 st i
  have hr := st.rd a _ h.1 h.2
  have r2 := paired_imp r fun _ _ z => st.repX z
  refine ⟨fun hi => ⟨xs, .inl hr, by rw [r.length]; exact hi⟩, fun w hw => ?_⟩
  obtain ⟨x, hx, rx⟩ := paired_get r2 hw
  refine ⟨⟨xs, x, .inl hr, hx⟩, fun y H3 hy => .inl ⟨hy.1, ?_⟩⟩
  have := hy.2 xs (.inl hr)
  rw [hx] at this
  cases this
  exact rx
theorem it_ro {a : Addr} {xs : List V} {ws : List W} (h : (g.L a = .frz ∧ Rd H a (.lst xs)) ∨ KL T.K a xs) (r : Paired (RepX T g H) xs ws) : ItOk T H0 g H (L2.Itl T.K a) ws := by
  intro g2 H2 st i
  have hr : SqL T.K H2 a xs := by
    rcases h with h | h
    · exact .inl (st.rd a _ h.1 h.2)
    · exact .inr h
  have r2 := paired_imp r fun _ _ z => st.repX z
  refine ⟨fun hi => ⟨xs, hr, by rw [r.length]; exact hi⟩, fun w hw => ?_⟩
  obtain ⟨x, hx, rx⟩ := paired_get r2 hw
  refine ⟨⟨xs, x, hr, hx⟩, fun y H3 hy => .inl ⟨hy.1, ?_⟩⟩
  have := hy.2 xs hr
  rw [hx] at this
  cases this
  exact rx
theorem it_tup {a : Addr} {xs : List V} {ws : List W} (h : (g.L a = .frz ∧ Rd H a (.tup xs)) ∨ KT T.K a xs) (r : Paired (RepX T g H) xs ws) : ItOk T H0 g H (L2.Itt T.K a) ws := by
  intro g2 H2 st i
  have hr : SqT T.K H2 a xs := by
    rcases h with h | h
    · exact .inl (st.rd a _ h.1 h.2)
    · exact .inr h
  have r2 := paired_imp r fun _ _ z => st.repX z
  refine ⟨fun hi => ⟨xs, hr, by rw [r.length]; exact hi⟩, fun w hw => ?_⟩
  obtain ⟨x, hx, rx⟩ := paired_get r2 hw
  refine ⟨⟨xs, x, hr, hx⟩, fun y H3 hy => .inl ⟨hy.1, ?_⟩⟩
  have := hy.2 xs hr
  rw [hx] at this
  cases this
  exact rx
theorem it_str {z : Str} : ItOk T H0 g H (L2.Its z) (z.cps.toList.map fun c => .str ⟨#[c]⟩) := by
  intro g2 H2 st i
  refine ⟨fun hi => (by simpa using hi : z.cps.size ≤ i), fun w hw => ?_⟩
  rw [List.getElem?_map, Array.getElem?_toList] at hw
  cases hc : z.cps[i]? with
  | none => rw [hc] at hw; cases hw
  | some c =>
    rw [hc] at hw
    cases hw
    have hi : i < z.cps.size := (Array.getElem?_eq_some_iff.mp hc).1
    refine ⟨hi, fun y H3 hy => .inl ⟨hy.1, ?_⟩⟩
    obtain ⟨_, c', e1, e2⟩ := hy
    rw [hc] at e1
    cases e1
    rw [e2]
    exact repX_str
theorem it_rng {lo : Int} {n : Nat} : ItOk T H0 g H (L2.Itr lo n) ((List.range n).map fun i : Nat => .int (lo + (i : Int))) := by
  intro g2 H2 st i
  refine ⟨fun hi => (by simpa using hi : n ≤ i), fun w hw => ?_⟩
  rw [List.getElem?_map] at hw
  cases hc : (List.range n)[i]? with
  | none => rw [hc] at hw; cases hw
  | some c =>
    rw [hc] at hw
    cases hw
    obtain ⟨hi, ei⟩ := List.getElem?_eq_some_iff.mp hc
    rw [List.getElem_range] at ei
    subst ei
    refine ⟨(by simpa using hi : i < n), fun y H3 hy => .inl ⟨hy.1, ?_⟩⟩
    rw [hy.2]
    exact repX_int
theorem it_zip {a b : Addr} {xs ys : List V} {ws vs : List W} (h : g.L a = .frz ∧ Rd H a (.lst xs)) (r : Paired (RepX T g H) xs ws) (h' : g.L b = .frz ∧ Rd H b (.lst ys)) (r' : Paired (RepX T g H) ys vs) :
    ItOk T H0 g H (L2.Itz T.K a b) ((ws.zip vs).map fun p => .tup [p.1, p.2]) := by
  intro g2 H2 st i
  have hr : SqL T.K H2 a xs := .inl (st.rd a _ h.1 h.2)
  have hr' : SqL T.K H2 b ys := .inl (st.rd b _ h'.1 h'.2)
  have r2 := paired_imp r fun _ _ z => st.repX z
  have r2' := paired_imp r' fun _ _ z => st.repX z
  refine ⟨fun hi => ⟨xs, ys, hr, hr', ?_⟩, fun w hw => ?_⟩
  · rw [List.length_map, List.length_zip] at hi
    rw [r.length, r'.length]
    omega
  · rw [List.getElem?_map] at hw
    cases hc : (ws.zip vs)[i]? with
    | none => rw [hc] at hw; cases hw
    | some p =>
      rw [hc] at hw
      cases hw
      obtain ⟨q1, q2⟩ := List.getElem?_zip_eq_some.mp hc
      obtain ⟨x, hx, rx⟩ := paired_get r2 q1
      obtain ⟨y, hy, ry⟩ := paired_get r2' q2
      refine ⟨⟨xs, ys, x, y, hr, hr', hx, hy⟩, fun z H3 hz => .inr ?_⟩
      obtain ⟨t, x', y', e1, e2, e3, e4, e5⟩ := hz
      have f1 := e4 xs hr
      have f2 := e5 ys hr'
      rw [hx] at f1
      rw [hy] at f2
      cases f1
      cases f2
      exact ⟨t, [x, y], [p.1, p.2], e1, e2, e3, rfl, .cons rx (.cons ry .nil)⟩
end
section
variable {X : Cx} {T : Tx} {W' : WX} {tg : Expr} {p pos : Pos}
theorem si_iter (G : XG X T) {e : Expr} {e' : E} (he : PE X e (tE T W' .V e')) : PI X tg e (tI T W' .iter [e']) := by
  have z := PI.or (L2.pi_list (tg := tg) he) (PI.or (L2.pi_tup (tg := tg) he) (L2.pi_str (tg := tg) he))
  rw [G.eK] at z
  refine pi_imp z fun σ H Rr ⟨g, env, S, s, p⟩ => ?_
  unfold evi evs evs at p
  simp only [R.bind_assoc, R.bind_ok] at p
  have hb : BaseMono (ItOk T) := bm_it
  cases hx : ev .V e' env S with
  | bad => rw [hx] at p; exact p.elim
  | exn cc fs S' => rw [hx] at p; exact .inl ⟨g, env, S, s, by rw [hx]; exact p⟩
  | ok av S1 =>
    rw [hx, R.bind_ok] at p
    unfold itemsR at p
    cases av with
    | lst ws =>
      refine .inl ⟨g, env, S, s, ?_⟩
      rw [hx]
      intro x g1 H1 e1 s1 r1
      obtain ⟨a, xs, rfl, hl, rr⟩ := lst_inv r1
      exact ⟨a, rfl, ⟨xs, .inl hl.2⟩, p _ g1 H1 (e1.weak (by simp [quiets])) s1 (it_lst hl rr)⟩
    | ro ws =>
      refine .inl ⟨g, env, S, s, ?_⟩
      rw [hx]
      intro x g1 H1 e1 s1 r1
      obtain ⟨a, xs, rfl, hl, rr⟩ := ro_inv r1
      refine ⟨a, rfl, ⟨xs, ?_⟩, p _ g1 H1 (e1.weak (by simp [quiets])) s1 (it_ro hl rr)⟩
      rcases hl with hl | hl
      · exact .inl hl.2
      · exact .inr hl
    | tup ws =>
      refine .inr (.inl ⟨g, env, S, s, ?_⟩)
      rw [hx]
      intro x g1 H1 e1 s1 r1
      obtain ⟨a, xs, rfl, hl, rr⟩ := tup_inv r1
      refine ⟨a, rfl, ⟨xs, ?_⟩, p _ g1 H1 (e1.weak (by simp [quiets])) s1 (it_tup hl rr)⟩
      rcases hl with hl | hl
      · exact .inl hl.2
      · exact .inr hl
    | str z =>
      refine .inr (.inr ⟨g, env, S, s, ?_⟩)
      rw [hx]
      intro x g1 H1 e1 s1 r1
      exact ⟨z, str_inv r1, p _ g1 H1 (e1.weak (by simp [quiets])) s1 it_str⟩
    | _ => exact p.elim
theorem si_rng1 (G : XG X T) {e : Expr} {e' : E} (hg : Gl X "range") (hm : X.mg "range" = none) (he : PA X [e] (tA T W' .V [e'])) (ok : okx e = true) : PI X tg (.Call (.Name "range" p) [e] [] pos) (tI T W' .range [e']) := by
  refine pi_imp (L2.pi_range1 hg hm he (by rw [star_cons ok []]; rfl)) fun σ H Rr ⟨g, env, S, s, p⟩ => ?_
  unfold evi at p
  refine ⟨g, env, S, s, Post.bind (Kr := ItOk T) (qa := quiets [e']) (qb := true) bm_it (by simp) p fun av S1 x g1 H1 ea e1 s1 r1 p1 => ?_⟩
  have r := resA_V r1
  have hl := evs_len ea
  unfold itemsR at p1
  cases r with
  | nil => exact p1.elim
  | @cons y w ys ws ra rt =>
    cases rt with
    | nil =>
      cases w with
      | int n =>
        by_cases hz : -4611686018427387904 ≤ n ∧ n < 4611686018427387904
        · rw [show itemsW .range [.int n] = some ((List.range n.toNat).map fun i : Nat => .int (i : Int)) from if_pos hz] at p1
          refine ⟨n, by rw [int_inv ra], by rw [p62]; exact hz.1, by rw [p62]; exact hz.2, p1 _ g1 H1 Ext.refl s1 ?_⟩
          have z := it_rng (T := T) (g := g1) (H := H1) (H0 := H1) (lo := 0) (n := n.toNat)
          simp only [Int.zero_add] at z
          exact z
        · rw [show itemsW .range [.int n] = none from if_neg hz] at p1
          exact p1.elim
      | _ => exact p1.elim
    | cons _ _ => cases hl
theorem si_rng2 (G : XG X T) {e e2 : Expr} {e' e2' : E} (hg : Gl X "range") (hm : X.mg "range" = none) (he : PA X [e, e2] (tA T W' .V [e', e2'])) (ok : okx e = true) (ok2 : okx e2 = true) : PI X tg (.Call (.Name "range" p) [e, e2] [] pos) (tI T W' .range [e', e2']) := by
  refine pi_imp (L2.pi_range2 hg hm he (by rw [star_cons ok [e2], star_cons ok2 []]; rfl) (by rw [star_cons ok2 []]; rfl)) fun σ H Rr ⟨g, env, S, s, p⟩ => ?_
  unfold evi at p
  refine ⟨g, env, S, s, Post.bind (Kr := ItOk T) (qa := quiets [e', e2']) (qb := true) bm_it (by simp) p fun av S1 x g1 H1 ea e1 s1 r1 p1 => ?_⟩
  have r := resA_V r1
  have hl := evs_len ea
  unfold itemsR at p1
  cases r with
  | nil => cases hl
  | @cons y w ys ws ra rt =>
    cases rt with
    | nil => cases hl
    | @cons y2 w2 _ ws2 ra2 rt2 =>
      cases rt2 with
      | cons _ _ => cases hl
      | nil =>
        cases w with
        | int i =>
          cases w2 with
          | int j =>
            by_cases hz : -4611686018427387904 ≤ i ∧ i < 4611686018427387904 ∧ -4611686018427387904 ≤ j ∧ j < 4611686018427387904
            · rw [show itemsW .range [.int i, .int j] = some ((List.range (j - i).toNat).map fun k : Nat => .int (i + (k : Int))) from if_pos hz] at p1
              exact ⟨i, j, by rw [int_inv ra, int_inv ra2], by rw [p62]; exact hz, p1 _ g1 H1 Ext.refl s1 it_rng⟩
            · rw [show itemsW .range [.int i, .int j] = none from if_neg hz] at p1
              exact p1.elim
          | _ => exact p1.elim
        | _ => cases w2 <;> exact p1.elim
theorem si_zip (G : XG X T) {e e2 : Expr} {e' e2' : E} {elts : List Expr} {kk : Nat} {tpos : Pos} (hg : Gl X "zip") (hm : X.mg "zip" = none) (he : PA X [e, e2] (tA T W' .V [e', e2'])) (ok : okx e = true) (ok2 : okx e2 = true) : PI X (.Tuple elts kk tpos) (.Call (.Name "zip" p) [e, e2] [] pos) (tI T W' .zip [e', e2']) := by
  have z := L2.pi_zip (p := p) (pos := pos) (elts := elts) (kk := kk) (tpos := tpos) hg hm he (by rw [star_cons ok [e2]]) (by rw [star_cons ok2 []]; rfl)
  rw [G.eK] at z
  refine pi_imp z fun σ H Rr ⟨g, env, S, s, p⟩ => ?_
  unfold evi at p
  refine ⟨g, env, S, s, Post.bind (Kr := ItOk T) (qa := quiets [e', e2']) (qb := true) bm_it (by simp) p fun av S1 x g1 H1 ea e1 s1 r1 p1 => ?_⟩
  have r := resA_V r1
  have hl := evs_len ea
  unfold itemsR at p1
  cases r with
  | nil => cases hl
  | @cons y w ys ws ra rt =>
    cases rt with
    | nil => cases hl
    | @cons y2 w2 _ ws2 ra2 rt2 =>
      cases rt2 with
      | cons _ _ => cases hl
      | nil =>
        cases w with
        | lst us =>
          cases w2 with
          | lst vs =>
            obtain ⟨a, xs, rfl, ha, rr⟩ := lst_inv ra
            obtain ⟨b, zs, rfl, hb, rr2⟩ := lst_inv ra2
            exact ⟨a, b, xs, zs, rfl, .inl ha.2, .inl hb.2, p1 _ g1 H1 Ext.refl s1 (it_zip ha rr hb rr2)⟩
          | _ => exact p1.elim
        | _ => cases w2 <;> exact p1.elim
end
end Wb
namespace Wb
open PySem PySem.Spec PyProof.Rows
open L2 (V Hp HO Rd upd upd_same upd_ne SqL SqT VK TE TT TA TS TG TI TO Ends WX XK R2 Cx Inv RelV Vals ne_of_none PE PT PA PS PSs PG PI OpR UnR CallR MtR Gl Vis Loc)

section
variable {T : Tx} {g g' : Gh} {env env' : Env} {S S' : Store} {σ : L2.St} {H H' : Hp}
theorem at_put {env : Env} {i j : Nat} {x y : Flag × W} (h : (env.put i x).at j = some y) : (j = i ∧ y = x) ∨ (j ≠ i ∧ env.at j = some y) := by
  unfold Env.at Env.put at *
  by_cases e : i = j
  · subst e
    left
    by_cases hi : i < env.length
    · rw [List.getElem?_set_self hi] at h
      exact ⟨rfl, (Option.some.inj h).symm⟩
    · rw [List.getElem?_eq_none (by simpa using hi)] at h
      cases h
  · right
    rw [List.getElem?_set_ne e] at h
    exact ⟨fun z => e z.symm, h⟩
theorem slot_ne {i j : Nat} {v : Option V} {fl : Flag} {w : W} (h : SlotOk T g H σ j fl w) (e : j ≠ i) : SlotOk T g H (σ.set i v) j fl w := by
  cases fl with
  | v => obtain ⟨x, h1, h2⟩ := h; exact ⟨x, by rw [List.getElem?_set_ne (Ne.symm e)]; exact h1, h2⟩
  | o => obtain ⟨x, h1, h2⟩ := h; exact ⟨x, by rw [List.getElem?_set_ne (Ne.symm e)]; exact h1, h2⟩
  | k => obtain ⟨x, h1, h2⟩ := h; exact ⟨x, by rw [List.getElem?_set_ne (Ne.symm e)]; exact h1, h2⟩
/-- a value is stored -/
theorem Sim.put (s : Sim T g H env S σ) {i : Nat} {x : V} {w : W} (r : RepX T g H x w) : Sim T g H (env.put i (.v, w)) S (σ.set i (some x)) where
  wf := s.wf
  len := by unfold Env.put; rw [List.length_set, List.length_set]; exact s.len
  slots := fun j fl u h => by
    rcases at_put h with ⟨rfl, e⟩ | ⟨e, h⟩
    · cases e
      have hj : j < σ.length := by
        rw [← s.len]
        unfold Env.at Env.put at h
        by_cases hj : j < env.length
        · exact hj
        · rw [List.getElem?_eq_none (by simpa using hj)] at h; cases h
      exact ⟨x, List.getElem?_set_self hj, r⟩
    · exact slot_ne (s.slots j fl u h) e
  cells := s.cells
/-- a slot forgotten -/
theorem Sim.drop1 (s : Sim T g H env S σ) (i : Nat) : Sim T g H (env.set i none) S (σ.set i none) where
  wf := s.wf
  len := by rw [List.length_set, List.length_set]; exact s.len
  slots := fun j fl u h => by
    unfold Env.at at h
    by_cases e : i = j
    · subst e
      by_cases hi : i < env.length
      · rw [List.getElem?_set_self hi] at h; cases h
      · rw [List.getElem?_eq_none (by simpa using hi)] at h; cases h
    · rw [List.getElem?_set_ne e] at h
      exact slot_ne (s.slots j fl u h) (Ne.symm e)
  cells := s.cells
theorem Sim.wipe (s : Sim T g H env S σ) : ∀ vs : List Nat, Sim T g H (wipeE env vs) S (L2.wipe σ vs)
  | [] => s
  | v :: vs => (s.wipe vs).drop1 v
/-- the frame, behind what others did -/
theorem Sim.move (s : Sim T g H env S σ) (x : Ext false g H g' H') (c : SimC T g' H' S') : Sim T g' H' env S' σ where
  wf := c.wf
  len := s.len
  slots := fun i fl w h => by
    have z := s.slots i fl w h
    cases fl with
    | v =>
      obtain ⟨v, e1, r⟩ := z
      exact ⟨v, e1, x.stay.repX r⟩
    | o =>
      obtain ⟨a, e1, l, o⟩ := z
      obtain ⟨l2, h2⟩ := x.keep a o.some (.inr (.inr (.inr ⟨i, l⟩)))
      exact ⟨a, e1, l2.trans l, o.stay x.stay h2⟩
    | k =>
      obtain ⟨a, e1, l, o⟩ := z
      obtain ⟨l2, h2⟩ := x.keep a o.some (.inr (.inr (.inr ⟨i, l⟩)))
      exact ⟨a, e1, l2.trans l, o.stay x.stay h2⟩
  cells := c.cells
/-- an object that is in no one's sight is changed -/
theorem stay_out {D : Addr} {o : HO} (l : g.L D = .out) : Stay g H g (upd H D o) := by
  have ne : ∀ a, g.L a = .frz → a ≠ D := fun a h z => by rw [z, l] at h; cases h
  refine ⟨fun a h _ => h, fun a u h r => ?_, fun a C dx fs h r => ?_, fun m h => ⟨rfl, h⟩⟩
  · unfold Rd; rw [upd_ne (ne a h)]; exact r
  · rw [upd_ne (ne a h)]; exact r
theorem SimC.out (s : SimC T g H S) {D : Addr} {o : HO} (l : g.L D = .out) : SimC T g (upd H D o) S where
  wf := fun a n => s.wf a (by
    by_cases e : a = D
    · rw [e, upd_same] at n; cases n
    · rw [upd_ne e] at n; exact n)
  cells := fun n c h => cell_stay (stay_out l) (fun a la n => ⟨rfl, upd_ne (fun z => by
    rw [z, l] at la
    rcases la with la | ⟨f, la⟩ <;> cases la)⟩) (s.cells n c h)
theorem Sim.out (s : Sim T g H env S σ) {D : Addr} {o : HO} (l : g.L D = .out) : Sim T g (upd H D o) env S σ where
  wf := (s.c.out l).wf
  len := s.len
  slots := fun i fl w h => by
    have z := s.slots i fl w h
    cases fl with
    | v =>
      obtain ⟨v, e1, r⟩ := z
      exact ⟨v, e1, (stay_out l).repX r⟩
    | o =>
      obtain ⟨a, e1, la, o⟩ := z
      exact ⟨a, e1, la, o.stay (stay_out l) (upd_ne fun z => by rw [z, l] at la; cases la)⟩
    | k =>
      obtain ⟨a, e1, la, o⟩ := z
      exact ⟨a, e1, la, o.stay (stay_out l) (upd_ne fun z => by rw [z, l] at la; cases la)⟩
  cells := (s.c.out l).cells
theorem Yl.rep {x : V} {H3 : Hp} {w : W} (s : SimC T g H S) (h : Yl T g H x H3 w) : ∃ g3, Ext true g H g3 H3 ∧ RepX T g3 H3 x w := by
  rcases h with ⟨rfl, r⟩ | ⟨p, xs, us, rfl, hp, rfl, rfl, r⟩
  · exact ⟨g, Ext.refl, r⟩
  · have ex := ext_new (o := .tup xs) (l := .frz) hp (s.wf p hp)
    exact ⟨_, ex, repX_tup (.inl ⟨lab_same, .inl upd_same⟩) (paired_imp r fun _ _ => ex.stay.repX)⟩
theorem SimC.ext (s : SimC T g H S) (e : Ext true g H g' H') (wf : ∀ a, H' a = none → g'.L a = .out) : SimC T g' H' S :=
  ⟨wf, fun n c h => cell_stay e.stay (fun a _ n => e.keep a n (.inl rfl)) (s.cells n c h)⟩
theorem Yl.sim {x : V} {H3 : Hp} {w : W} (s : Sim T g H env S σ) (h : Yl T g H x H3 w) : ∃ g3, Ext true g H g3 H3 ∧ Sim T g3 H3 env S σ ∧ RepX T g3 H3 x w := by
  rcases h with ⟨rfl, r⟩ | ⟨p, xs, us, rfl, hp, rfl, rfl, r⟩
  · exact ⟨g, Ext.refl, s, r⟩
  · have ex := ext_new (o := .tup xs) (l := .frz) hp (s.wf p hp)
    exact ⟨_, ex, s.new .frz hp, repX_tup (.inl ⟨lab_same, .inl upd_same⟩) (paired_imp r fun _ _ => ex.stay.repX)⟩
end
/-! ### targets -/
def gsOf : List Nat → L2.TGs
  | [] => L2.gNil
  | i :: is => L2.gCons (L2.gName i) (gsOf is)
def gOf (K : PySem.W.Frag) : Tg → TG
  | .one i => L2.gName i
  | .many is => L2.gTup K is.length (gsOf is)
def Tg.ixs : Tg → List Nat
  | .one i => [i]
  | .many is => is
section
variable {T : Tx} {g : Gh} {env env' : Env} {S : Store} {σ : L2.St} {H : Hp}
theorem gs_sem : ∀ {is : List Nat} {xs : List V} {ws : List W} {env : Env} {σ : L2.St} {Q : L2.St → Hp → Prop}, Paired (RepX T g H) xs ws → ws.length = is.length → Sim T g H env S σ →
    (∀ σ', Sim T g H ((is.zip ws).foldl (fun e p => e.put p.1 (.v, p.2)) env) S σ' → (∀ j, j ∉ is → σ'[j]? = σ[j]?) → Q σ' H) → gsOf is xs σ H Q
  | [], _, _, env, σ, Q, .nil, _, s, k => ⟨rfl, k σ s fun _ _ => rfl⟩
  | [], _, _, env, σ, Q, .cons _ _, h, s, k => by cases h
  | i :: is, _, _, env, σ, Q, .nil, h, s, k => by cases h
  | i :: is, x :: xs, w :: ws, env, σ, Q, .cons r rr, h, s, k => by
    refine ⟨x, xs, rfl, ?_⟩
    refine gs_sem (env := env.put i (.v, w)) rr (by simpa using h) (s.put r) fun σ' s' hk => ?_
    refine k σ' s' fun j hj => ?_
    simp only [List.mem_cons, not_or] at hj
    rw [hk j hj.2, List.getElem?_set_ne (Ne.symm hj.1)]
theorem tg_sem {tg : Tg} {x : V} {w : W} {Q : L2.St → Hp → Prop} (hb : bindTg tg w env = some env') (r : RepX T g H x w) (s : Sim T g H env S σ) (k : ∀ σ', Sim T g H env' S σ' → (∀ j, j ∉ tg.ixs → σ'[j]? = σ[j]?) → Q σ' H) : gOf T.K tg x σ H Q := by
  cases tg with
  | one i =>
    cases hb
    exact k _ (s.put r) fun j hj => List.getElem?_set_ne (fun z => hj (by rw [z]; simp [Tg.ixs]))
  | many is =>
    unfold bindTg at hb
    cases w with
    | tup ws =>
      simp only [unpackW] at hb
      split at hb
      · rename_i hl
        cases hb
        obtain ⟨a, xs, rfl, ha, rr⟩ := tup_inv r
        refine ⟨a, xs, rfl, ?_, rr.length.trans hl, gs_sem rr hl s k⟩
        rcases ha with ha | ha
        · exact .inl ha.2
        · exact .inr ha
      · cases hb
    | _ => cases hb
theorem bindTg_len {tg : Tg} {w : W} {env env' : Env} (h : bindTg tg w env = some env') : env'.length = env.length := by
  cases tg with
  | one i => cases h; exact List.length_set
  | many is =>
    unfold bindTg at h
    cases w with
    | tup ws =>
      simp only [unpackW] at h
      split at h
      · cases h
        generalize is.zip ws = zz
        induction zz generalizing env with
        | nil => rfl
        | cons p zz ih => exact ih.trans List.length_set
      · cases h
    | _ => cases h
theorem wipe_ext {σ σ' : L2.St} (hl : σ'.length = σ.length) : ∀ {vs : List Nat}, (∀ j, j ∉ vs → σ'[j]? = (L2.wipe σ vs)[j]?) → L2.wipe σ' vs = L2.wipe σ vs := by
  intro vs h
  refine List.ext_getElem? fun j => ?_
  by_cases hj : j ∈ vs
  · have key : ∀ (τ : L2.St) (vs : List Nat), j ∈ vs → j < τ.length → (L2.wipe τ vs)[j]? = some none := by
      intro τ vs
      induction vs with
      | nil => intro h; cases h
      | cons v vs ih =>
        intro h hlt
        unfold L2.wipe
        by_cases e : v = j
        · rw [e, List.getElem?_set_self (by rw [L2.wipe_length]; exact hlt)]
        · rw [List.getElem?_set_ne e]
          rcases List.mem_cons.mp h with h | h
          · exact absurd h.symm e
          · exact ih h hlt
    by_cases hlt : j < σ.length
    · rw [key σ vs hj hlt, key σ' vs hj (by rw [hl]; exact hlt)]
    · rw [List.getElem?_eq_none (by rw [L2.wipe_length, hl]; omega), List.getElem?_eq_none (by rw [L2.wipe_length]; omega)]
  · rw [L2.wipe_out hj]; exact h j hj
theorem takes_false (X : Cx) : L2.Takes X (fun _ _ _ _ => False) := by
  intro u s' ⟨a, B, sI, pins, σ, H, cls, d, e, I, nb, up, sky, na, os, ag, w⟩
  exact w.elim
end
end Wb
namespace Wb
open PySem PySem.Spec PyProof.Rows
open L2 (V Hp HO Rd upd upd_same upd_ne SqL SqT VK TE TT TA TS TG TI TO Ends WX XK R2 Cx Inv RelV Vals ne_of_none PE PT PA PS PSs PG PI OpR UnR CallR MtR Gl Vis Loc)
/-- nothing is wanted of exceptions: there are none -/
abbrev WF : WX := fun _ _ _ _ => False
def tC (T : Tx) (es : List E) : TT := fun σ H Q => ∃ g env S, Sim T g H env S σ ∧ Post T WF false ResB g env σ H (evc es env S) Q
section
variable {X : Cx} {T : Tx} {W' : WX} {c : Ctx} {pos p : Pos}
theorem sc_nil : L2.PTs X [] (tC T []) := ⟨fun pins s σ H Q I ⟨g, env, S, si, p⟩ => L2.pts_nil.run pins s σ H Q I (by unfold evc at p; exact p true g H Ext.refl si rfl)⟩
theorem sc_one {e : Expr} {e' : E} (h : PT X e (tT T WF e')) : L2.PTs X [e] (tC T [e']) := ⟨fun pins s σ H Q I ⟨g, env, S, si, p⟩ => (L2.pts_one h).run pins s σ H Q I ⟨g, env, S, si, by
  unfold evc at p
  exact Post.rest (qa := true) (qb := quiet e') (q := false) bm_resB (by simp) Ext.refl p⟩⟩
theorem noExn_ok {α : Type} {r : R α} {S : Store} {a : α} (h : noExn r = .ok a S) : r = .ok a S := by
  cases r with
  | ok _ _ => exact h
  | exn _ _ _ => cases h
  | bad => cases h
theorem lcGo_cons {tg : Tg} {cond : Env → Store → R Bool} {elt : Env → Store → R W} {env : Env} {x : W} {xs acc fin : List W} {S S' : Store} (h : lcGo tg cond elt env (x :: xs) acc S = .ok fin S') :
    ∃ env', bindTg tg x env = some env' ∧ ∃ b S1, cond env' S = .ok b S1 ∧ ((b = false ∧ lcGo tg cond elt env xs acc S1 = .ok fin S') ∨ (b = true ∧ ∃ w S2, elt env' S1 = .ok w S2 ∧ acc.length < sizeL ∧ lcGo tg cond elt env xs (acc ++ [w]) S2 = .ok fin S')) := by
  unfold lcGo at h
  cases h1 : bindTg tg x env with
  | none => rw [h1] at h; cases h
  | some env' =>
    rw [h1] at h
    refine ⟨env', rfl, ?_⟩
    dsimp only at h
    cases h2 : cond env' S with
    | bad => rw [h2] at h; cases h
    | exn _ _ _ => rw [h2] at h; cases h
    | ok b S1 =>
      rw [h2, R.bind_ok] at h
      refine ⟨b, S1, rfl, ?_⟩
      cases b with
      | false => exact .inl ⟨rfl, h⟩
      | true =>
        rw [if_pos rfl] at h
        cases h3 : elt env' S1 with
        | bad => rw [h3] at h; cases h
        | exn _ _ _ => rw [h3] at h; cases h
        | ok w S2 =>
          rw [h3, R.bind_ok] at h
          split at h
          · rename_i hz
            exact .inr ⟨rfl, w, S2, rfl, hz, h⟩
          · cases h
/-- a post of what ends well -/
theorem Post.mk {α β : Type} {q : Bool} {Kr : Hp → Gh → Hp → β → α → Prop} {g : Gh} {env : Env} {σ : L2.St} {H : Hp} {a : α} {S' : Store} {Q : β → Hp → Prop} {r : R α} (hr : r = .ok a S') (h : ∀ x g' H', Ext q g H g' H' → Sim T g' H' env S' σ → Kr H g' H' x a → Q x H') : Post T W' q Kr g env σ H r Q := by
  rw [hr]; exact h
theorem lc_sem {tg : Tg} {k : Src} {srcs conds : List E} {elt' : E} {own : List (Str × Nat)} (sub : ∀ j ∈ tg.ixs, j ∈ own.map (·.2)) : ∀ (σ : L2.St) (H : Hp) (Q : VK), tE T W' c (.lc tg k srcs conds elt' own) σ H Q → L2.tLc (tI T W' k srcs) (gOf T.K tg) (tC T conds) (tE T WF .V elt') (own.map (·.2)) σ H Q := by
  intro σ H Q ⟨g, env, S, s, p⟩
  unfold ev at p
  refine ⟨g, env, S, s, Post.bind (qa := quiets srcs) (qb := false) bm_res (by simp [quiet]) p fun items S1 J g1 H1 _ e1 s1 r1 p1 => ?_⟩
  intro D hD
  -- the end
  generalize hvs : own.map (·.2) = vs at *
  cases hR : noExn ((lcGo tg (fun env' S' => evc conds env' S') (fun env' S' => ev .V elt' env' S') (wipeE env vs) items [] S1).bind fun ws S' => .ok (W.lst ws) S') with
  | bad => rw [hR] at p1; exact p1.elim
  | exn _ _ _ =>
    exfalso
    generalize (lcGo tg (fun env' S' => evc conds env' S') (fun env' S' => ev .V elt' env' S') (wipeE env vs) items [] S1).bind (fun ws S' => R.ok (W.lst ws) S') = rr at hR
    cases rr <;> cases hR
  | ok wl Sf =>
    rw [hR] at p1
    have hR' := noExn_ok hR
    cases hL : lcGo tg (fun env' S' => evc conds env' S') (fun env' S' => ev .V elt' env' S') (wipeE env vs) items [] S1 with
    | bad => rw [hL] at hR'; cases hR'
    | exn _ _ _ => rw [hL] at hR'; cases hR'
    | ok fin Sf' =>
      rw [hL, R.bind_ok] at hR'
      cases hR'
      have xD := ext_new (o := .lst []) (l := .out) hD (s1.wf D hD)
      refine ⟨fun i m Hc => ∃ gc Sc acc ws, m = items.length - i ∧ i ≤ items.length ∧ Ext false g1 H1 gc Hc ∧ Stay g1 H1 gc Hc ∧ Sim T gc Hc env Sc σ ∧ gc.L D = .out ∧ Hc D = some (.lst acc) ∧ Paired (RepX T gc Hc) acc ws ∧
        lcGo tg (fun env' S' => evc conds env' S') (fun env' S' => ev .V elt' env' S') (wipeE env vs) (items.drop i) ws Sc = .ok fin Sf, ?_, ?_⟩
      · exact ⟨items.length, g1.lab D .out, S1, [], [], by simp, Nat.zero_le _, xD.weak (by simp), xD.stay, s1.new .out hD, lab_same, upd_same, .nil, hL⟩
      · rintro i m Hc ⟨gc, Sc, acc, ws, rfl, hi, ec, sc, simc, lD, hDc, ra, hgo⟩
        obtain ⟨jstop, jgo⟩ := r1 gc Hc sc i
        by_cases hlt : i < items.length
        · have hx := List.getElem?_eq_getElem hlt
          rw [List.drop_eq_getElem_cons hlt] at hgo
          obtain ⟨env', hb, b, S2, hcnd, hrest⟩ := lcGo_cons hgo
          obtain ⟨jg, jy⟩ := jgo _ hx
          refine .inr ⟨jg, fun H' => ∃ gc Sc acc ws, Ext false g1 H1 gc H' ∧ Stay g1 H1 gc H' ∧ Sim T gc H' env Sc σ ∧ gc.L D = .out ∧ H' D = some (.lst acc) ∧ Paired (RepX T gc H') acc ws ∧
            lcGo tg (fun env' S' => evc conds env' S') (fun env' S' => ev .V elt' env' S') (wipeE env vs) (items.drop (i + 1)) ws Sc = .ok fin Sf, ?_, ?_⟩
          · rintro H' ⟨gc, Sc, acc, ws, h⟩
            exact ⟨items.length - (i + 1), by omega, gc, Sc, acc, ws, rfl, hlt, h⟩
          · intro x H' hy
            obtain ⟨g3, e3, sim3, rx⟩ := (jy x H' hy).sim simc
            have hD3 := e3.keep D (by rw [hDc]; simp) (.inl rfl)
            have ec3 : Ext false g1 H1 g3 H' := ec.trans (e3.weak (by simp))
            refine tg_sem hb rx (sim3.wipe vs) fun σ2 sim4 hσ => ?_
            have hw : L2.wipe σ2 vs = L2.wipe σ vs := by
              refine wipe_ext ?_ fun j hj => hσ j fun z => hj (sub j z)
              have l1 := sim4.len
              have l2 := (sim3.wipe vs).len
              rw [L2.wipe_length] at l2
              have l3 := bindTg_len hb
              omega
            refine ⟨hw, g3, env', Sc, sim4, Post.mk hcnd fun b' g5 H5 e5 sim5 hb' => ?_⟩
            cases hb'
            have sim5o : Sim T g5 H5 env S2 σ := sim3.move e5 sim5.c
            have ec5 := ec3.trans e5
            have hD5 := e5.keep D (by rw [hD3.2, hDc]; simp) (.inr (.inl (hD3.1.trans lD)))
            have ra5 := paired_imp ra fun _ _ z => e5.stay.repX (e3.stay.repX z)
            rcases hrest with ⟨rfl, hrest⟩ | ⟨rfl, w, S3, helt, hz, hrest⟩
            · rw [if_neg Bool.false_ne_true]
              exact ⟨g5, S2, acc, ws, ec5, ec5.stay, sim5o, hD5.1.trans (hD3.1.trans lD), hD5.2.trans (hD3.2.trans hDc), ra5, hrest⟩
            · rw [if_pos rfl]
              refine ⟨g5, env', S2, sim5, Post.mk helt fun y g6 H6 e6 sim6 ry => ?_⟩
              have e6' : Ext false g5 H5 g6 H6 := e6.weak (by simp)
              have sim6o : Sim T g6 H6 env S3 σ := sim5o.move e6' sim6.c
              have hD6 := e6'.keep D (by rw [hD5.2, hD3.2, hDc]; simp) (.inr (.inl (hD5.1.trans (hD3.1.trans lD))))
              have l6 : g6.L D = .out := hD6.1.trans (hD5.1.trans (hD3.1.trans lD))
              refine ⟨acc, hD6.2.trans (hD5.2.trans (hD3.2.trans hDc)), by rw [ra.length, ← sizeL_eq]; exact hz, ?_⟩
              have st6 : Stay g6 H6 g6 (upd H6 D (.lst (acc ++ [y]))) := stay_out l6
              have e7 : Ext false g1 H1 g6 (upd H6 D (.lst (acc ++ [y]))) := by
                have ec6 := ec5.trans e6'
                refine ⟨fun a n pp => ?_, ec6.cel, fun a n => ?_, ec6.slot⟩
                · obtain ⟨k1, k2⟩ := ec6.keep a n pp
                  exact ⟨k1, (upd_ne fun z => n (by rw [z]; exact hD)).trans k2⟩
                · rw [upd_ne fun z => n (by rw [z]; exact hD)]; exact ec6.some a n
              exact ⟨g6, S3, acc ++ [y], ws ++ [w], e7, e7.stay, sim6o.out l6, l6, upd_same, paired_append (paired_imp ra5 fun _ _ z => st6.repX (e6.stay.repX z)) (.cons (st6.repX ry) .nil), hrest⟩
        · have hie : i = items.length := by omega
          subst hie
          rw [List.drop_length] at hgo
          unfold lcGo at hgo
          cases hgo
          refine .inl ⟨jstop (Nat.le_refl _), ?_⟩
          exact res_fresh (w := .lst fin) hD ec simc lD ⟨acc, hDc, ra⟩ p1
theorem se_lc (G : XG X T) {elt tgE iter : Expr} {ifs : List Expr} {scope : Scope} {own : List (Str × Nat)} {tg : Tg} {k : Src} {srcs conds : List E} {elt' : E} (hi : PI X tgE iter (tI T W' k srcs)) (ok : L2.BlkOk X.N X.env.scope scope own) (sub : ∀ j ∈ tg.ixs, j ∈ own.map (·.2))
    (hg : ∀ (s : Shared) (H : Hp) (C : Addr) (cl : List (Str × Addr)) (fp : List Addr), PG (X.blk s H scope (compEnvC scope cl C X.env) fp) tgE (gOf T.K tg))
    (ht : ∀ (s : Shared) (H : Hp) (C : Addr) (cl : List (Str × Addr)) (fp : List Addr), L2.PTs (X.blk s H scope (compEnvC scope cl C X.env) fp) ifs (tC T conds))
    (he : ∀ (s : Shared) (H : Hp) (C : Addr) (cl : List (Str × Addr)) (fp : List Addr), PE (X.blk s H scope (compEnvC scope cl C X.env) fp) elt (tE T WF .V elt'))
    (hs : ∀ x, foldedSetIterable iter X.env x = pure x) : PE X (.ListComp elt [⟨tgE, iter, ifs, 0⟩] scope pos) (tE T W' c (.lc tg k srcs conds elt' own)) :=
  pe_imp (L2.pe_lc G.calm G.nd hi ok hg ht he hs) fun σ H Q z => lc_sem sub σ H Q z
end
end Wb
namespace Wb
open PySem PySem.Spec PyProof.Rows
open L2 (V Hp HO Rd upd upd_same upd_ne SqL SqT VK TE TT TA TS TG TI TO Ends WX XK R2 Cx Inv RelV Vals ne_of_none PE PT PA PS PSs PG PI OpR UnR CallR MtR Gl Vis Loc)
/-- what a def's body is about: which slots stay, whether a new container is handed back -/
structure Bd where
  P : Nat → Bool
  fresh : Bool
def Kp (P : Nat → Bool) (σ σ' : L2.St) : Prop := ∀ i, P i = true → σ'[i]? = σ[i]?
theorem Kp.refl {P : Nat → Bool} {σ : L2.St} : Kp P σ σ := fun _ _ => rfl
theorem Kp.trans {P : Nat → Bool} {σ σ1 σ2 : L2.St} (a : Kp P σ σ1) (b : Kp P σ1 σ2) : Kp P σ σ2 := fun i h => (b i h).trans (a i h)
theorem Kp.set {P : Nat → Bool} {σ σ1 : L2.St} {i : Nat} {v : Option V} (a : Kp P σ σ1) (h : P i = false) : Kp P σ (σ1.set i v) := fun j hj => by
  rw [List.getElem?_set_ne (fun z => by rw [z, hj] at h; cases h)]
  exact a j hj
def RetR (T : Tx) (fresh : Bool) (H : Hp) (g' : Gh) (H' : Hp) (x : V) (w : W) : Prop :=
  if fresh then ∃ a, x = .ref a ∧ Own T g' H' .o a w ∧ ((H a = none ∧ g'.L a = .out) ∨ ∃ i, g'.L a = .slot i) else RepX T g' H' x w
section
variable (T : Tx) (W' : WX) (B : Bd)
def PostS (g : Gh) (σ : L2.St) (H : Hp) (o : Out) (D : Ends) : Prop := match o with
  | .nx env' S' => ∀ g' H' σ', ExtS g H g' H' → Sim T g' H' env' S' σ' → Kp B.P σ σ' → D.nx σ' H'
  | .brk env' S' => ∀ g' H' σ', ExtS g H g' H' → Sim T g' H' env' S' σ' → Kp B.P σ σ' → D.bk σ' H'
  | .ct env' S' => ∀ g' H' σ', ExtS g H g' H' → Sim T g' H' env' S' σ' → Kp B.P σ σ' → D.ct σ' H'
  | .ret w env' S' => ∀ x g' H' σ', ExtS g H g' H' → Sim T g' H' env' S' σ' → Kp B.P σ σ' → RetR T B.fresh H g' H' x w → D.rt x H'
  | .exn c fs env' S' => ∀ d g' H' σ', ExtS g H g' H' → Sim T g' H' env' S' σ' → Kp B.P σ σ' → ExOk T g' H' d fs → W' (.ref (T.ca c)) (some d) σ' H'
  | .bad => False
def tS (st : S) : TS := fun D σ H => ∃ g env S, Sim T g H env S σ ∧ PostS T W' B g σ H (exec st env S) D
def tSs (st : List S) : TS := fun D σ H => ∃ g env S, Sim T g H env S σ ∧ PostS T W' B g σ H (execs st env S) D
end
section
variable {X : Cx} {T : Tx} {W' : WX} {B : Bd} {pos p : Pos} {g g1 : Gh} {env env1 : Env} {S S1 : Store} {σ σ1 : L2.St} {H H1 : Hp} {D : Ends}
theorem PostS.rest {o : Out} (e : ExtS g H g1 H1) (k : Kp B.P σ σ1) (h : PostS T W' B g σ H o D) : PostS T W' B g1 σ1 H1 o D := by
  cases o with
  | bad => exact h
  | nx env' S' => exact fun g' H' σ' e' s' k' => h g' H' σ' (e.trans e') s' (k.trans k')
  | brk env' S' => exact fun g' H' σ' e' s' k' => h g' H' σ' (e.trans e') s' (k.trans k')
  | ct env' S' => exact fun g' H' σ' e' s' k' => h g' H' σ' (e.trans e') s' (k.trans k')
  | exn c fs env' S' => exact fun d g' H' σ' e' s' k' => h d g' H' σ' (e.trans e') s' (k.trans k')
  | ret w env' S' =>
    intro x g' H' σ' e' s' k' r
    refine h x g' H' σ' (e.trans e') s' (k.trans k') ?_
    unfold RetR at r ⊢
    split at r
    · rename_i hf
      rw [if_pos hf]
      obtain ⟨a, ex, o, r⟩ := r
      refine ⟨a, ex, o, r.imp_left fun ⟨n, l⟩ => ⟨?_, l⟩⟩
      cases q : H a with
      | none => rfl
      | some u => exact absurd n (e.some a (by rw [q]; simp))
    · rename_i hf
      rw [if_neg hf]
      exact r
/-- an expression, then more -/
theorem PostS.out {α β : Type} {qa : Bool} {Ka : Hp → Gh → Hp → β → α → Prop} {r : R α} {f : α → Store → Out} {Q : β → Hp → Prop} (h : PostS T W' B g σ H (r.out env f) D)
    (k : ∀ a S1 x g1 H1, r = .ok a S1 → Ext qa g H g1 H1 → Sim T g1 H1 env S1 σ → Ka H g1 H1 x a → PostS T W' B g1 σ H1 (f a S1) D → Q x H1) : Post T W' qa Ka g env σ H r Q := by
  cases r with
  | bad => exact h
  | ok a S' => exact fun x g' H' e s kk => k a S' x g' H' rfl e s kk (PostS.rest e.toS Kp.refl h)
  | exn c fs S' => exact fun d g' H' e s ex => h d g' H' σ e.toS s Kp.refl ex
theorem PostS.nx0 (h : PostS T W' B g σ H (.nx env S) D) (s : Sim T g H env S σ) : D.nx σ H := h g H σ ExtS.refl s Kp.refl
theorem PostS.seq {o : Out} {f : Env → Store → Out} (h : PostS T W' B g σ H (o.then f) D) {N : L2.St → Hp → Prop}
    (k : ∀ env' S' g' H' σ', o = .nx env' S' → ExtS g H g' H' → Sim T g' H' env' S' σ' → Kp B.P σ σ' → PostS T W' B g' σ' H' (f env' S') D → N σ' H') : PostS T W' B g σ H o { D with nx := N } := by
  cases o with
  | nx env' S' => exact fun g' H' σ' e s kk => k env' S' g' H' σ' rfl e s kk (PostS.rest e kk h)
  | _ => exact h
theorem ss_nil : PSs X [] (tSs T W' B []) := pss_imp L2.pss_nil fun D σ H ⟨g, env, S, s, p⟩ => by
  unfold execs at p
  exact p.nx0 s
theorem ss_cons {st : Stmt} {rest : List Stmt} {st' : Wb.S} {rest' : List Wb.S} (h : PS X st (tS T W' B st')) (hr : PSs X rest (tSs T W' B rest')) : PSs X (st :: rest) (tSs T W' B (st' :: rest')) := by
  refine pss_imp (L2.pss_cons h hr) fun D σ H ⟨g, env, S, s, p⟩ => ?_
  unfold execs at p
  exact ⟨g, env, S, s, p.seq fun env' S' g' H' σ' _ e s' k p' => ⟨g', env', S', s', p'⟩⟩
/-! ### the small ones -/
theorem ss_pass : PS X (.Pass pos) (tS T W' B .pass) := ps_imp L2.ps_pass fun D σ H ⟨g, env, S, s, p⟩ => by
  unfold exec at p; exact p.nx0 s
theorem ss_brk : PS X (.Break pos) (tS T W' B .brk) := ps_imp L2.ps_break fun D σ H ⟨g, env, S, s, p⟩ => by
  unfold exec at p; exact p g H σ ExtS.refl s Kp.refl
theorem ss_cont : PS X (.Continue pos) (tS T W' B .cont) := ps_imp L2.ps_continue fun D σ H ⟨g, env, S, s, p⟩ => by
  unfold exec at p; exact p g H σ ExtS.refl s Kp.refl
theorem ss_expr {e : Expr} {e' : E} (he : PE X e (tE T W' .B e')) (hs : swapsWith e none pos.line X.env = pure false) : PS X (.Expr e pos) (tS T W' B (.expr e')) := by
  refine ps_imp (L2.ps_expr he hs) fun D σ H ⟨g, env, S, s, p⟩ => ?_
  unfold exec at p
  exact ⟨g, env, S, s, p.out fun a S1 x g1 H1 _ e1 s1 _ p1 => p1.nx0 s1⟩
theorem ss_ret (hB : B.fresh = false) {e : Expr} {e' : E} (he : PE X e (tE T W' .V e')) : PS X (.Return (some e) pos) (tS T W' B (.ret e')) := by
  refine ps_imp (L2.ps_ret he) fun D σ H ⟨g, env, S, s, p⟩ => ?_
  unfold exec at p
  refine ⟨g, env, S, s, p.out fun a S1 x g1 H1 _ e1 s1 r1 p1 => p1 x g1 H1 σ ExtS.refl s1 Kp.refl ?_⟩
  unfold RetR
  rw [hB, if_neg Bool.false_ne_true]
  exact r1
theorem ss_retF (hB : B.fresh = true) {e : Expr} {e' : E} (he : PE X e (tE T W' .F e')) : PS X (.Return (some e) pos) (tS T W' B (.retF e')) := by
  refine ps_imp (L2.ps_ret he) fun D σ H ⟨g, env, S, s, p⟩ => ?_
  unfold exec at p
  refine ⟨g, env, S, s, ?_⟩
  revert p
  cases hx : ev .F e' env S with
  | bad => exact fun p => p
  | exn c fs S' => exact fun p d g' H' e s ex => p d g' H' σ e.toS s Kp.refl ex
  | ok a S' =>
    intro p x g1 H1 e1 s1 r1
    refine p x g1 H1 σ e1.toS s1 Kp.refl ?_
    obtain ⟨ad, ex, n, l, o⟩ := r1
    unfold RetR
    rw [hB, if_pos rfl]
    exact ⟨ad, ex, o, .inl ⟨n, l⟩⟩
theorem ss_retN (hB : B.fresh = false) : PS X (.Return none pos) (tS T W' B .retN) := ps_imp L2.ps_retN fun D σ H ⟨g, env, S, s, p⟩ => by
  unfold exec at p
  refine p .non g H σ ExtS.refl s Kp.refl ?_
  unfold RetR
  rw [hB, if_neg Bool.false_ne_true]
  exact repX_non
/-- return xs, a container of one's own -/
theorem ss_retO (hB : B.fresh = true) {i : Nat} {x : Str} (hN : X.N[i]? = some x) (hv : Vis X.env.scope x) (hd : (x == ("__debug__" : Str)) = false) (hcd : (x == ("__classdict__" : Str)) = false) : PS X (.Return (some (.Name x p)) pos) (tS T W' B (.retO i)) := by
  refine ps_imp (L2.ps_ret (L2.pe_var hN hv hd hcd)) fun D σ H ⟨g, env, S, s, p⟩ => ?_
  unfold exec at p
  split at p
  · rename_i w hw
    obtain ⟨a, e1, l, o⟩ := s.slots i _ _ hw
    refine ⟨.ref a, e1, p _ g H σ ExtS.refl s Kp.refl ?_⟩
    unfold RetR
    rw [hB, if_pos rfl]
    exact ⟨a, rfl, o, .inr ⟨i, l⟩⟩
  · exact p.elim
theorem ss_if {c : Expr} {a b : List Stmt} {c' : E} {a' b' : List Wb.S} (hc : PT X c (tT T W' c')) (ha : PSs X a (tSs T W' B a')) (hb : PSs X b (tSs T W' B b')) : PS X (.If c a b pos) (tS T W' B (.ife c' a' b')) := by
  refine ps_imp (L2.ps_if hc ha hb) fun D σ H ⟨g, env, S, s, p⟩ => ?_
  unfold exec at p
  refine ⟨g, env, S, s, p.out fun t S1 x g1 H1 _ e1 s1 r1 p1 => ?_⟩
  cases r1
  cases t with
  | true => rw [if_pos rfl] at p1 ⊢; exact ⟨g1, env, S1, s1, p1⟩
  | false => rw [if_neg Bool.false_ne_true] at p1 ⊢; exact ⟨g1, env, S1, s1, p1⟩
/-! ### stores -/
theorem ss_asg (G : XG X T) {i : Nat} {x : Str} {p2 : Pos} {e : Expr} {e' : E} (hi : X.N[i]? = some x) (hx : Loc X.env.scope x) (hf : X.fn x = true ∨ X.env.scope.names.lookup x = some .local) (hP : B.P i = false) (he : PE X e (tE T W' .V e')) (hs : swapsWith e (some (.Name x p2)) pos.line X.env = pure false) :
    PS X (.Assign [.Name x p2] e pos) (tS T W' B (.asg i e')) := by
  refine ps_imp (L2.ps_set G.nd hi hx he hs hf) fun D σ H ⟨g, env, S, s, p⟩ => ?_
  unfold exec at p
  exact ⟨g, env, S, s, p.out fun w S1 v g1 H1 _ e1 s1 r1 p1 => p1 g1 H1 _ ExtS.refl (s1.put r1) (Kp.refl.set hP)⟩
/-- a label that marks an own container -/
theorem Sim.take (s : Sim T g H env S σ) {i : Nat} {a : Addr} {w : W} (l : g.L a = .out) (o : Own T g H .o a w) : Sim T (g.lab a (.slot i)) H (env.put i (.o, w)) S (σ.set i (some (.ref a))) := by
  have s2 := s.lab (l := .slot i) l o.some
  refine ⟨s2.wf, by unfold Env.put; rw [List.length_set, List.length_set]; exact s.len, fun j fl u h => ?_, s2.cells⟩
  rcases at_put h with ⟨rfl, e⟩ | ⟨e, h⟩
  · cases e
    have hj : j < σ.length := by
      rw [← s.len]
      unfold Env.at Env.put at h
      by_cases hj : j < env.length
      · exact hj
      · rw [List.getElem?_eq_none (by simpa using hj)] at h; cases h
    exact ⟨a, List.getElem?_set_self hj, lab_same, o.stay (stay_lab l) rfl⟩
  · exact slot_ne (s2.slots j fl u h) e
theorem asgO_sem {i : Nat} {e' : E} (hP : B.P i = false) (s : Sim T g H env S σ) (p : PostS T W' B g σ H (exec (.asgO i e') env S) D) : tE T W' .F e' σ H fun x H1 => L2.gName i x σ H1 D.nx := by
  unfold exec at p
  refine ⟨g, env, S, s, ?_⟩
  revert p
  cases hx : ev .F e' env S with
  | bad => exact fun p => p
  | exn c fs S' => exact fun p d g' H' e s ex => p d g' H' σ e.toS s Kp.refl ex
  | ok w S' =>
    intro p v g1 H1 e1 s1 r1
    obtain ⟨a, rfl, n, l, o⟩ := r1
    refine p (g1.lab a (.slot i)) H1 _ ?_ (s1.take l o) (Kp.refl.set hP)
    have na : ∀ b, H b ≠ none → b ≠ a := fun b hb z => hb (by rw [z]; exact n)
    refine ⟨fun b hb pp => ?_, fun m hm => ?_, e1.some, fun b j hb hl => e1.slot b j hb (by rw [lab_ne (na b hb)] at hl; exact hl)⟩
    · obtain ⟨k1, k2⟩ := e1.keep b hb (by rcases pp with pp | pp <;> simp [pp])
      exact ⟨(lab_ne (na b hb)).trans k1, k2⟩
    · obtain ⟨k1, k2⟩ := e1.cel m hm
      refine ⟨k1, ?_⟩
      rw [lab_ne (fun z => by rw [z, l] at k2; cases k2)]
      exact k2
theorem ss_asgO (G : XG X T) {i : Nat} {x : Str} {p2 : Pos} {e : Expr} {e' : E} (hi : X.N[i]? = some x) (hx : Loc X.env.scope x) (hf : X.fn x = true ∨ X.env.scope.names.lookup x = some .local) (hP : B.P i = false) (he : PE X e (tE T W' .F e')) (hs : swapsWith e (some (.Name x p2)) pos.line X.env = pure false) :
    PS X (.Assign [.Name x p2] e pos) (tS T W' B (.asgO i e')) :=
  ps_imp (L2.ps_set G.nd hi hx he hs hf) fun D σ H ⟨g, env, S, s, p⟩ => asgO_sem hP s p
/-- the container at a slot is a value from here on -/
theorem Sim.freeze (s : Sim T g H env S σ) {i : Nat} {w : W} (h : env.at i = some (.o, w)) : ∃ a, g.L a = .slot i ∧ H a ≠ none ∧ Sim T (g.lab a .frz) H (env.put i (.v, w)) S σ ∧ Stay g H (g.lab a .frz) H := by
  obtain ⟨a, e1, l, o⟩ := s.slots i _ _ h
  have st : Stay g H (g.lab a .frz) H := by
    refine ⟨fun b hb _ => ?_, fun _ _ _ r => r, fun _ _ _ _ _ r => r, fun m hm => ⟨rfl, ?_⟩⟩
    · rw [lab_ne fun z => by rw [z, l] at hb; cases hb]; exact hb
    · show (g.lab a .frz).L (g.ι m) = _
      rw [lab_ne fun z => by rw [z, l] at hm; cases hm]; exact hm
  refine ⟨a, l, o.some, ⟨fun b hb => ?_, ?_, fun j fl u hj => ?_, fun n c hc => cell_stay st (fun b hb _ => ⟨?_, rfl⟩) (s.cells n c hc)⟩, st⟩
  · rw [lab_ne fun z => o.some (by rw [← z]; exact hb)]; exact s.wf b hb
  · unfold Env.put; rw [List.length_set]; exact s.len
  · rcases at_put hj with ⟨rfl, e⟩ | ⟨e, hj⟩
    · cases e
      exact ⟨.ref a, e1, own_rep lab_same (o.stay st rfl)⟩
    · have z := s.slots j fl u hj
      cases fl with
      | v => obtain ⟨x, q1, q2⟩ := z; exact ⟨x, q1, st.repX q2⟩
      | o => obtain ⟨b, q1, q2, q3⟩ := z; exact ⟨b, q1, (lab_ne fun z => by rw [z, l] at q2; cases q2; exact e rfl).trans q2, q3.stay st rfl⟩
      | k => obtain ⟨b, q1, q2, q3⟩ := z; exact ⟨b, q1, (lab_ne fun z => by rw [z, l] at q2; cases q2; exact e rfl).trans q2, q3.stay st rfl⟩
  · rw [lab_ne fun z => by
      rw [z, l] at hb
      rcases hb with hb | ⟨f, hb⟩ <;> cases hb]
theorem ss_frz {i : Nat} {rest : List Stmt} {rest' : List Wb.S} (hr : PSs X rest (tSs T W' B rest')) : PSs X rest (tSs T W' B (.frz i :: rest')) := by
  refine pss_imp hr fun D σ H ⟨g, env, S, s, p⟩ => ?_
  unfold execs exec at p
  split at p
  · rename_i w hw
    obtain ⟨a, l, n, s2, st⟩ := s.freeze hw
    refine ⟨g.lab a .frz, _, S, s2, PostS.rest ?_ Kp.refl p⟩
    refine ⟨fun b hb pp => ⟨lab_ne fun z => ?_, rfl⟩, fun m hm => st.cel m hm, fun _ h => h, fun b j hb hl => ⟨j, ?_⟩⟩
    · rw [z, l] at pp; rcases pp with pp | pp <;> cases pp
    · by_cases e : b = a
      · rw [e, lab_same] at hl; cases hl
      · rw [lab_ne e] at hl; exact hl
  · exact p.elim
end
end Wb
namespace Wb
open PySem PySem.Spec PyProof.Rows
open L2 (V Hp HO Rd upd upd_same upd_ne SqL SqT VK TE TT TA TS TG TI TO Ends WX XK R2 Cx Inv RelV Vals ne_of_none PE PT PA PS PSs PG PI OpR UnR CallR MtR Gl Vis Loc)
section
variable {X : Cx} {T : Tx} {W' : WX} {B : Bd} {pos p : Pos} {g g1 : Gh} {env env1 : Env} {S S1 : Store} {σ σ1 : L2.St} {H H1 : Hp} {D : Ends}
/-! ### for -/
theorem ss_for (G : XG X T) (po : PassesOwn (model X.prog X.w) X.A X.env X.xe) {tgE iter : Expr} {body : List Stmt} {tg : Tg} {k : Src} {srcs : List E} {body' : List Wb.S} (hi : PI X tgE iter (tI T W' k srcs)) (hg : PG X tgE (gOf T.K tg)) (hb : PSs X body (tSs T W' B body'))
    (hP : ∀ j ∈ tg.ixs, B.P j = false) (hs : ∀ x, foldedSetIterable iter X.env x = pure x) : PS X (.For tgE iter body [] pos) (tS T W' B (.for_ tg k srcs body')) := by
  refine ps_imp (L2.ps_for po G.calm hi hg hb hs) fun D σ H ⟨g, env, S, s, p⟩ => ?_
  unfold exec at p
  refine ⟨g, env, S, s, p.out fun items S1 J g1 H1 _ e1 s1 r1 p1 => ?_⟩
  refine ⟨fun i m σc Hc => ∃ gc envc Sc, m = items.length - i ∧ i ≤ items.length ∧ ExtS g1 H1 gc Hc ∧ Sim T gc Hc envc Sc σc ∧ Kp B.P σ σc ∧ PostS T W' B gc σc Hc (forGo tg (fun env S => execs body' env S) (items.drop i) envc Sc) D, ?_, ?_⟩
  · exact ⟨items.length, g1, env, S1, by simp, Nat.zero_le _, ExtS.refl, s1, Kp.refl, p1⟩
  · rintro i m σc Hc ⟨gc, envc, Sc, rfl, hi, ec, sc, kc, pc⟩
    obtain ⟨jstop, jgo⟩ := r1 gc Hc ec.stay i
    by_cases hlt : i < items.length
    · have hx := List.getElem?_eq_getElem hlt
      rw [List.drop_eq_getElem_cons hlt] at pc
      obtain ⟨jg, jy⟩ := jgo _ hx
      refine .inr ⟨jg, fun σ' H' => ∃ gc envc Sc, ExtS g1 H1 gc H' ∧ Sim T gc H' envc Sc σ' ∧ Kp B.P σ σ' ∧ PostS T W' B gc σ' H' (forGo tg (fun env S => execs body' env S) (items.drop (i + 1)) envc Sc) D, ?_, ?_⟩
      · rintro σ' H' ⟨gc, envc, Sc, h⟩
        exact ⟨items.length - (i + 1), by omega, gc, envc, Sc, rfl, hlt, h⟩
      · intro x H' hy
        obtain ⟨g3, e3, sim3, rx⟩ := (jy x H' hy).sim sc
        unfold forGo at pc
        cases hbd : bindTg tg items[i] envc with
        | none => rw [hbd] at pc; exact pc.elim
        | some env' =>
          rw [hbd] at pc
          dsimp only at pc
          have p3 := PostS.rest e3.toS Kp.refl pc
          refine tg_sem hbd rx sim3 fun σ2 sim4 hσ => ?_
          have k2 : Kp B.P σc σ2 := fun j hj => hσ j fun z => by rw [hP j z] at hj; cases hj
          have p4 := PostS.rest ExtS.refl k2 p3
          refine ⟨g3, env', Sc, sim4, ?_⟩
          have e13 : ExtS g1 H1 g3 H' := ec.trans e3.toS
          have k13 : Kp B.P σ σ2 := kc.trans k2
          revert p4
          cases execs body' env' Sc with
          | bad => exact fun p => p
          | nx env2 S2 => exact fun p g' H'' σ' e s' kk => ⟨g', env2, S2, e13.trans e, s', k13.trans kk, PostS.rest e kk p⟩
          | ct env2 S2 => exact fun p g' H'' σ' e s' kk => ⟨g', env2, S2, e13.trans e, s', k13.trans kk, PostS.rest e kk p⟩
          | brk env2 S2 => exact fun p g' H'' σ' e s' kk => p g' H'' σ' e s' kk
          | ret w env2 S2 => exact fun p => p
          | exn c fs env2 S2 => exact fun p => p
    · have hie : i = items.length := by omega
      subst hie
      rw [List.drop_length] at pc
      unfold forGo at pc
      exact .inl ⟨jstop (Nat.le_refl _), pc.nx0 sc⟩
theorem ss_whl (po : PassesOwn (model X.prog X.w) X.A X.env X.xe) {c : Expr} {body : List Stmt} {c' : E} {body' : List Wb.S} (hc : PT X c (tT T W' c')) (hb : PSs X body (tSs T W' B body')) : PS X (.While c body [] pos) (tS T W' B (.whl c' body')) := by
  refine ps_imp (L2.ps_while po hc hb) fun D σ H ⟨g, env, S, s, p⟩ => ?_
  unfold exec at p
  refine ⟨fun m σc Hc => ∃ gc envc Sc, Sim T gc Hc envc Sc σc ∧ Kp B.P σ σc ∧ PostS T W' B gc σc Hc (whlGo (fun env S => evt c' env S) (fun env S => execs body' env S) m envc Sc) D, ⟨fuel, g, env, S, s, Kp.refl, p⟩, ?_⟩
  rintro m σc Hc ⟨gc, envc, Sc, sc, kc, pc⟩
  cases m with
  | zero => exact pc.elim
  | succ m =>
    unfold whlGo at pc
    refine ⟨gc, envc, Sc, sc, pc.out fun t S1 x g1 H1 _ e1 s1 r1 p1 => ?_⟩
    cases r1
    cases t with
    | false =>
      rw [if_neg Bool.false_ne_true] at p1 ⊢
      exact p1.nx0 s1
    | true =>
      rw [if_pos rfl] at p1 ⊢
      refine ⟨fun σ' H' => ∃ gc envc Sc, Sim T gc H' envc Sc σ' ∧ Kp B.P σ σ' ∧ PostS T W' B gc σ' H' (whlGo (fun env S => evt c' env S) (fun env S => execs body' env S) m envc Sc) D, ?_, ?_⟩
      · rintro σ' H' ⟨gc, envc, Sc, h⟩
        exact ⟨m, by omega, gc, envc, Sc, h⟩
      · refine ⟨g1, envc, S1, s1, ?_⟩
        revert p1
        cases execs body' envc S1 with
        | bad => exact fun p => p
        | nx env2 S2 => exact fun p g' H'' σ' e s' kk => ⟨g', env2, S2, s', kc.trans kk, PostS.rest e kk p⟩
        | ct env2 S2 => exact fun p g' H'' σ' e s' kk => ⟨g', env2, S2, s', kc.trans kk, PostS.rest e kk p⟩
        | brk env2 S2 => exact fun p g' H'' σ' e s' kk => p g' H'' σ' e s' kk
        | ret w env2 S2 => exact fun p => p
        | exn c fs env2 S2 => exact fun p => p
theorem ss_asgT (G : XG X T) {tgE e : Expr} {e' : E} {is : List Nat} (hg : PG X tgE (gOf T.K (.many is))) (hP : ∀ j ∈ is, B.P j = false) (he : PE X e (tE T W' .V e')) (hs : swapsWithSole [tgE] e pos.line X.env = pure false) (hw : swappedStores [tgE] e X.env = pure none) (h1 : (assignEach [tgE] X.env).map (·.2) = [assign tgE X.env]) :
    PS X (.Assign [tgE] e pos) (tS T W' B (.asgT is e')) := by
  refine ps_imp (L2.ps_asg he hg hs hw h1) fun D σ H ⟨g, env, S, s, p⟩ => ?_
  unfold exec at p
  refine ⟨g, env, S, s, p.out fun w S1 v g1 H1 _ e1 s1 r1 p1 => ?_⟩
  cases hb : bindTg (.many is) w env with
  | none => rw [hb] at p1; exact p1.elim
  | some env' =>
    rw [hb] at p1
    exact tg_sem (tg := .many is) hb r1 s1 fun σ' s2 hσ => p1 g1 H1 σ' ExtS.refl s2 fun j hj => hσ j fun z => by rw [hP j z] at hj; cases hj
/-- never reached -/
theorem ss_never {st : Stmt} : PS X st (tS T W' B .never) := ps_imp L2.ps_never fun D σ H ⟨g, env, S, s, p⟩ => by
  unfold exec at p
  exact p.elim
/-! ### name op= e -/
def rIp : Bin → L2.TIp
  | .add => fun x y H Q => L2.rI0 (fun i j => .int (i + j)) x y H Q ∨ rStrAdd x y H Q
  | .sub => L2.rI0 fun i j => .int (i - j)
  | _ => fun _ _ _ _ => False
theorem ipOk {X : Cx} : ∀ o : Bin, L2.PIp X (opOf o) (rIp o)
  | .add => L2.OpR.or L2.iop_add L2.iop_add_str
  | .sub => L2.iop_sub
  | .mul => fun _ _ _ _ _ _ _ _ _ _ _ _ h => h.elim
  | .fdiv => fun _ _ _ _ _ _ _ _ _ _ _ _ h => h.elim
  | .mod => fun _ _ _ _ _ _ _ _ _ _ _ _ h => h.elim
def ipO : Bin → Bool
  | .add => true | .sub => true | _ => false
theorem ip_sem {o : Bin} {x y : V} {a b w : W} {Q : V → Hp → Prop} (ho : ipO o = true) (hx : RdX T g H x a) (hy : RdX T g H y b) (e : binW o a b = some (false, w)) (h : ∀ v, RepX T g H v w → Q v H) : rIp o x y H Q := by
  cases o with
  | add =>
    unfold binW at e
    split at e <;> first | (rename_i h0; cases h0; done) | skip
    · rename_i i j h1 _ _
      cases e
      exact .inl ⟨_, _, rdx_int hx, rdx_int hy, h _ repX_int⟩
    · rename_i h1 _ _
      obtain ⟨hz, e⟩ := if_some e
      cases e
      exact .inr ⟨_, _, rdx_str hx, rdx_str hy, by rw [← sizeL_eq]; exact hz, h _ repX_str⟩
    · obtain ⟨hz, e⟩ := if_some e
      cases e
    · cases e
  | sub =>
    unfold binW at e
    split at e <;> first | (rename_i h0; cases h0; done) | skip
    · cases e
      exact ⟨_, _, rdx_int hx, rdx_int hy, h _ repX_int⟩
    · cases e
  | _ => cases ho
theorem ss_aug (G : XG X T) {i : Nat} {x : Str} {p2 : Pos} {e : Expr} {e' : E} {o : Bin} (ho : ipO o = true) (hi : X.N[i]? = some x) (hx : Loc X.env.scope x) (hf : X.fn x = true ∨ X.env.scope.names.lookup x = some .local) (hP : B.P i = false) (he : PE X e (tE T W' .B e')) :
    PS X (.AugAssign (.Name x p2) (opOf o) e pos) (tS T W' B (.aug i o e')) := by
  refine ps_imp (L2.ps_aug G.nd hi hx he (ipOk o) hf) fun D σ H ⟨g, env, S, s, p⟩ => ?_
  unfold exec at p
  split at p
  · rename_i w hw
    obtain ⟨v, e1, r⟩ := s.slots i _ _ hw
    refine ⟨v, e1, g, env, S, s, p.out fun y S1 yv g1 H1 _ x1 s1 r1 p1 => ?_⟩
    split at p1
    · rename_i z hz
      exact ip_sem (T := T) (g := g1) ho (x1.stay.repX r).rdX r1 hz fun v' rv => p1 g1 H1 _ ExtS.refl (s1.put rv) (Kp.refl.set hP)
    · exact p1.elim
  · exact p.elim
/-! ### a container of one's own is changed -/
theorem stay_nf {a : Addr} {o : HO} (l : g.L a ≠ .frz) : Stay g H g (upd H a o) := by
  have ne : ∀ b, g.L b = .frz → b ≠ a := fun b h z => l (by rw [← z]; exact h)
  refine ⟨fun b h _ => h, fun b u h r => ?_, fun b C dx fs h r => ?_, fun m h => ⟨rfl, h⟩⟩
  · unfold Rd; rw [upd_ne (ne b h)]; exact r
  · rw [upd_ne (ne b h)]; exact r
theorem Sim.chg (s : Sim T g H env S σ) {i : Nat} {a : Addr} {w' : W} {o : HO} (hl : g.L a = .slot i) (hn : H a ≠ none) (hσ : σ[i]? = some (some (.ref a))) (ow : Own T g (upd H a o) .o a w') : Sim T g (upd H a o) (env.put i (.o, w')) S σ ∧ ExtS g H g (upd H a o) := by
  have st : Stay g H g (upd H a o) := stay_nf (by rw [hl]; simp)
  refine ⟨⟨fun b hb => ?_, ?_, fun j fl u hj => ?_, fun n c hc => cell_stay st (fun b hb _ => ⟨rfl, upd_ne fun z => ?_⟩) (s.cells n c hc)⟩, fun b hb pp => ⟨rfl, upd_ne fun z => ?_⟩, fun m hm => st.cel m hm, fun b hb => ?_, fun b j _ h => ⟨j, h⟩⟩
  · by_cases e : b = a
    · rw [e, upd_same] at hb; cases hb
    · rw [upd_ne e] at hb; exact s.wf b hb
  · unfold Env.put; rw [List.length_set]; exact s.len
  · rcases at_put hj with ⟨rfl, e⟩ | ⟨e, hj⟩
    · cases e
      exact ⟨a, hσ, hl, ow⟩
    · have z := s.slots j fl u hj
      cases fl with
      | v => obtain ⟨x, q1, q2⟩ := z; exact ⟨x, q1, st.repX q2⟩
      | o => obtain ⟨b, q1, q2, q3⟩ := z; exact ⟨b, q1, q2, q3.stay st (upd_ne fun z => by rw [z, hl] at q2; cases q2; exact e rfl)⟩
      | k => obtain ⟨b, q1, q2, q3⟩ := z; exact ⟨b, q1, q2, q3.stay st (upd_ne fun z => by rw [z, hl] at q2; cases q2; exact e rfl)⟩
  · rw [z, hl] at hb; rcases hb with hb | ⟨f, hb⟩ <;> cases hb
  · rw [z, hl] at pp; rcases pp with pp | pp <;> cases pp
  · by_cases e : b = a
    · rw [e, upd_same]; simp
    · rw [upd_ne e]; exact hb
theorem few_one {e : Expr} {env : PySem.Env} (ok : okx e = true) : ((backTo pos (starEach [e] env)).all (fun x => !x.1) && (backToKw pos (keywordEach [] env)).all (fun x => x.1.isSome)
      && decide (([e] : List Expr).length + ([] : List Keyword).length + (if ([] : List Keyword).isEmpty then 0 else 1) < 30)) = true := by
  rw [star_cons ok []]; rfl
theorem ownL_slot {i : Nat} (h : ownL (.slot i) env S = true) : ∃ ws, env.at i = some (.o, .lst ws) := by
  have h' : (match env.at i with | some (.o, .lst _) => true | _ => false) = true := h
  split at h'
  · exact ⟨_, by assumption⟩
  · cases h'
theorem ownA_slot {i : Nat} (h : ownA (.slot i) env S = true) : ∃ w, env.at i = some (.o, w) := by
  have h' : (match env.at i with | some (.o, _) => true | _ => false) = true := h
  split at h'
  · exact ⟨_, by assumption⟩
  · cases h'
theorem chg_slot {i : Nat} {w : W} {f : W → Option W} (h : env.at i = some (.o, w)) : chg (.slot i) f env S = match f w with | some w' => .nx (env.put i (.o, w')) S | none => .bad := by
  show (match env.at i with | some (.o, w) => (match f w with | some w' => Out.nx (env.put i (.o, w')) S | none => .bad) | _ => .bad) = _
  rw [h]
/-- xs.append(e), xs a slot -/
theorem ss_app (G : XG X T) {i : Nat} {x : Str} {p2 ap cp : Pos} {e : Expr} {e' : E} (hi : X.N[i]? = some x) (hv : Vis X.env.scope x) (hd : (x == ("__debug__" : Str)) = false) (hcd : (x == ("__classdict__" : Str)) = false) (he : PE X e (tE T W' .V e')) (ok : okx e = true) (hl : (ap.endLine == cp.line) = true) :
    PS X (.Expr (.Call (.Attribute (.Name x p2) "append" ap) [e] [] cp) pos) (tS T W' B (.app (.slot i) e')) := by
  have z := L2.pe_bm (apos := ap) (cpos := cp) PySem.F.plainAttrs_list PySem.F.slot_list_append PySem.F.type_list_append L2.mt_append (L2.pe_var (pos := p2) hi hv hd hcd) (L2.pa_cons he L2.pa_nil (star_cons ok [])) (base_ok rfl _) (few_one ok) hl (star_cons ok []) (star_none rfl cp)
  refine ps_imp (L2.ps_expr z rfl) fun D σ H ⟨g, env, S, s, p⟩ => ?_
  unfold exec plc at p
  rw [R.out_ok] at p
  split at p
  · rename_i ho
    obtain ⟨ws, hw⟩ := ownL_slot ho
    obtain ⟨a, e1, l, xs, hxs, r⟩ := s.slots i _ _ hw
    refine ⟨.ref a, e1, .inl ⟨rfl, xs, .inl (.inl hxs)⟩, g, env, S, s, p.out (qa := quiet e') fun v S1 y g1 H1 _ x1 s1 r1 p1 => ?_⟩
    rw [chg_slot hw] at p1
    rw [show appW (.lst ws) v = if ws.length < sizeL then some (.lst (ws ++ [v])) else none from rfl] at p1
    by_cases hz : ws.length < sizeL
    · rw [if_pos hz] at p1
      obtain ⟨l1, h1⟩ := x1.keep a (by rw [hxs]; simp) (.inr (.inr (.inr ⟨i, l⟩)))
      refine ⟨a, xs, y, rfl, rfl, h1.trans hxs, by rw [r.length, ← sizeL_eq]; exact hz, ?_⟩
      have st : Stay g1 H1 g1 (upd H1 a (.lst (xs ++ [y]))) := stay_nf (by rw [l1, l]; simp)
      have z := s1.chg (l1.trans l) (by rw [h1, hxs]; simp) e1 (w' := .lst (ws ++ [v])) (o := .lst (xs ++ [y])) ⟨_, upd_same, paired_append (paired_imp r fun _ _ z => st.repX (x1.stay.repX z)) (.cons (st.repX r1) .nil)⟩
      exact p1 g1 _ σ z.2 z.1 Kp.refl
    · rw [if_neg hz] at p1
      exact p1.elim
  · exact p.elim
/-! ### xs[k] = v, xs[k] op= v, xs a slot -/
def rSetB : L2.TSet := fun o i v H Q => L2.rSetL o i v H Q ∨ L2.rSetD o i v H Q
theorem setB (hu : X.A.units + 1 < cLine) : L2.PSet X rSetB := by
  intro pins s σ H o i v ov iv u Q I ro ri rv h
  rcases h with h | h
  · exact L2.set_list pins s σ H o i v ov iv u Q I ro ri rv h
  · exact L2.set_dict hu pins s σ H o i v ov iv u Q I ro ri rv h
theorem put_paired {ks : List (Key × V)} {kvs : List (Key × W)} (r : Paired (fun (p : Key × V) (q : Key × W) => p.1 = q.1 ∧ RepX T g H p.2 q.2) ks kvs) {k : Key} {v : V} {w : W} (rv : RepX T g H v w) :
    Paired (fun (p : Key × V) (q : Key × W) => p.1 = q.1 ∧ RepX T g H p.2 q.2) (L2.putK ks k v) (putW kvs k w) := by
  have ha : (ks.any fun kv => decide (kv.1 = k)) = kvs.any fun kv => decide (kv.1 = k) := by
    induction r with
    | nil => rfl
    | cons z _ ih => rw [List.any_cons, List.any_cons, ih, z.1]
  unfold L2.putK putW
  rw [ha]
  by_cases hk : (kvs.any fun kv => decide (kv.1 = k)) = true
  · rw [if_pos hk, if_pos hk]
    clear ha hk
    induction r with
    | nil => exact .nil
    | @cons a b _ _ z _ ih =>
      refine .cons ?_ ih
      by_cases e : b.1 = k
      · show (if a.1 = k then (a.1, v) else a).1 = (if b.1 = k then (b.1, w) else b).1 ∧ RepX T g H (if a.1 = k then (a.1, v) else a).2 (if b.1 = k then (b.1, w) else b).2
        rw [if_pos e, if_pos (z.1.trans e)]
        exact ⟨z.1, rv⟩
      · show (if a.1 = k then (a.1, v) else a).1 = (if b.1 = k then (b.1, w) else b).1 ∧ RepX T g H (if a.1 = k then (a.1, v) else a).2 (if b.1 = k then (b.1, w) else b).2
        rw [if_neg e, if_neg (fun q => e (z.1.symm.trans q))]
        exact z
  · rw [if_neg hk, if_neg hk]
    exact paired_append r (.cons ⟨rfl, rv⟩ .nil)
/-- the change itself -/
theorem set_sem (s : Sim T g H env S σ) {i : Nat} {w w' kw v : W} {kx vx : V} (hw : env.at i = some (.o, w)) (e : setItW w kw v = some w') (rk : RepX T g H kx kw) (rv : RepX T g H vx v) {a : Addr} (ea : σ[i]? = some (some (.ref a))) {Q : Hp → Prop}
    (k : ∀ H', ExtS g H g H' → Sim T g H' (env.put i (.o, w')) S σ → Q H') : rSetB (.ref a) kx vx H Q := by
  obtain ⟨a', e1, l, o⟩ := s.slots i _ _ hw
  rw [ea] at e1
  cases e1
  unfold setItW at e
  split at e
  · rename_i ws
    obtain ⟨xs, hxs, r⟩ := o
    split at e
    · rename_i i'
      cases hj : L2.ixN ws.length i' with
      | none => rw [hj] at e; cases e
      | some j =>
        rw [hj] at e
        cases e
        refine .inl ⟨a, xs, i', j, rfl, int_inv rk, hxs, by rw [r.length]; exact hj, ?_⟩
        have st : Stay g H g (upd H a (.lst (xs.set j vx))) := stay_nf (by rw [l]; simp)
        have z := s.chg l (by rw [hxs]; simp) ea (w' := .lst (ws.set j v)) (o := .lst (xs.set j vx)) ⟨_, upd_same, paired_set (paired_imp r fun _ _ z => st.repX z) (st.repX rv) j⟩
        exact k _ z.2 z.1
    · cases e
  · rename_i kvs
    obtain ⟨xs, hxs, r⟩ := o
    rw [if_neg (by simp)] at hxs
    split at e
    · rename_i key hk
      obtain ⟨hz, e⟩ := if_some e
      cases e
      refine .inr ⟨a, _, rfl, .inl ⟨xs, key, hxs, key_rdx rk.rdX hk, by rw [r.length, ← sizeL_eq]; exact hz, rfl⟩, ?_⟩
      have st : Stay g H g (upd H a (.dK (L2.putK xs key vx))) := stay_nf (by rw [l]; simp)
      have z := s.chg l (by rw [hxs]; simp) ea (w' := .dct (putW kvs key v)) (o := .dK (L2.putK xs key vx)) ⟨_, by simp [upd_same], put_paired (paired_imp r fun _ _ z => ⟨z.1, st.repX z.2⟩) (st.repX rv)⟩
      exact k _ z.2 z.1
    · cases e
  · cases e
theorem ss_seti (G : XG X T) {i : Nat} {x : Str} {p2 sp : Pos} {k e : Expr} {k' e' : E} (hi : X.N[i]? = some x) (hv : Vis X.env.scope x) (hd : (x == ("__debug__" : Str)) = false) (hcd : (x == ("__classdict__" : Str)) = false) (he : PE X e (tE T W' .V e')) (hk : PE X k (tE T W' .V k')) (ok : okx k = true)
    (hs : swapsWithSole [.Subscript (.Name x p2) k sp] e pos.line X.env = pure false) (hw : swappedStores [.Subscript (.Name x p2) k sp] e X.env = pure none) : PS X (.Assign [.Subscript (.Name x p2) k sp] e pos) (tS T W' B (.seti (.slot i) k' e')) := by
  have z : PG X (.Subscript (.Name x p2) k sp) _ := L2.pg_sub (L2.pe_var (pos := p2) hi hv hd hcd) hk (setB (by have := G.hu; omega)) (by intro v; cases k <;> first | rfl | exact absurd ok Bool.false_ne_true)
  refine ps_imp (L2.ps_asg he z hs hw rfl) fun D σ H ⟨g, env, S, s, p⟩ => ?_
  unfold exec plc at p
  refine ⟨g, env, S, s, p.out fun v S1 vx g1 H1 _ x1 s1 r1 p1 => ?_⟩
  rw [R.out_ok] at p1
  split at p1
  · rename_i ho
    obtain ⟨w, hw⟩ := ownA_slot ho
    obtain ⟨a, e1, l, o⟩ := s1.slots i _ _ hw
    refine ⟨.ref a, e1, g1, env, S1, s1, p1.out (qa := quiet k') fun kw S2 kx g2 H2 _ x2 s2 r2 p2 => ?_⟩
    rw [chg_slot hw] at p2
    cases hq : setItW w kw v with
    | none => rw [hq] at p2; exact p2.elim
    | some w' =>
      rw [hq] at p2
      exact set_sem (T := T) s2 hw hq r2 (x2.stay.repX r1) e1 fun H' e' s' => p2 g2 H' σ e' s' Kp.refl
  · exact p1.elim
end
end Wb
namespace Wb
open PySem PySem.Spec PyProof.Rows
def padF (n : Nat) : Builtin.Float.FormatSpec := { fill := 48, align := 61, width := some n, type := some 100 }
theorem padF_eq (n : Nat) (i : Int) (h0 : 0 ≤ i) : intSpecText (padF n) i = padT n i := intSpecText_zero rfl rfl rfl rfl h0
theorem parse2 (name : String) : Builtin.Float.parseFormatSpec [48, 50, 100] name 62 = .ok (padF 2) := by rfl
theorem parse4 (name : String) : Builtin.Float.parseFormatSpec [48, 52, 100] name 62 = .ok (padF 4) := by rfl
theorem pad_log {a : Int} (h0 : 0 ≤ a) (h1 : a < 10000) : a.natAbs.log2 < 1920 := by
  have h : a.natAbs < 2 ^ 14 := by omega
  have := Nat.log2_lt (n := a.natAbs) (k := 14)
  by_cases z : a.natAbs = 0
  · rw [z]; decide
  · have := (Nat.log2_lt z).mpr h
    omega
theorem pad_len {n : Nat} (hn : n = 2 ∨ n = 4) {a : Int} (h0 : 0 ≤ a) (h1 : a < 10000) : (padT n a).length ≤ sizeLine := by
  have h := PySem.W.KXf.digits_le (a := a) h0 (by omega)
  rw [← padF_eq n a h0, intSpecText_length a rfl rfl, show (padF n).width.getD 0 = n from rfl, sizeLine_eq]
  split <;> omega
theorem ret_pad {M : Model} {A : Around} {E : Value → Shared → Prop} {s : Shared} {X T : Str} {Q : Fin → Shared → Prop} (e : X = T) (hL : T.length ≤ sizeLine) (h : ∀ t k, Q (.done (.ret (.str T t))) { s with toks := k }) : wpAny M A ((retStr X)) Q E s := by
  subst e
  exact PySem.W.KXf.ret_text rfl hL h
theorem pad_meets {n : Nat} (h : n = 2 ∨ n = 4) {a : Int} {t u : Tok} (h0 : 0 ≤ a) (h1 : a < 10000) : Meets (Builtin.«int.__format__» ⟨[.int a t, .str (padS n) u], []⟩) (fun _ R s => ∀ t' k, R (.ok (.ret (.str (padT n a) t'))) { s with toks := k }) := by
  have hl := pad_log h0 h1
  have hz : (padT n a).length ≤ sizeLine := pad_len h h0 h1
  have he := padF_eq n a h0
  unfold intSpecText at he
  apply PySem.W.KPc.meets_of
  intro prog w A s Q E hQ
  unfold Builtin.«int.__format__»
  rcases h with rfl | rfl
  · refine wpAny_bind (wpAny_of_eq (a := (_, _)) rfl ?_)
    refine wpAny_bind (wpAny_of_eq (a := _) rfl ?_)
    kxf_if
    refine wpAny_bind (wpAny_typeNameOf (T := "str") (typeIs_str _ _ _) (by decide) fun _ => ?_)
    refine wpAny_bind (wpAny_of_eq (a := some _) rfl ?_)
    kxf_if
    kxf_if
    refine wpAny_bind (wpAny_typeNameOfCut_int ?_)
    rw [show (padS 2).cps.toList = [48, 50, 100] from rfl, parse2]
    dsimp only
    repeat kxf_if
    refine wpAny_bind (wpAny_of_eq (PySem.overDigitLimit_small hl) ?_)
    repeat kxf_if
    refine ret_pad (Eq.trans ?_ he) hz hQ
    rfl
  · refine wpAny_bind (wpAny_of_eq (a := (_, _)) rfl ?_)
    refine wpAny_bind (wpAny_of_eq (a := _) rfl ?_)
    kxf_if
    refine wpAny_bind (wpAny_typeNameOf (T := "str") (typeIs_str _ _ _) (by decide) fun _ => ?_)
    refine wpAny_bind (wpAny_of_eq (a := some _) rfl ?_)
    kxf_if
    kxf_if
    refine wpAny_bind (wpAny_typeNameOfCut_int ?_)
    rw [show (padS 4).cps.toList = [48, 52, 100] from rfl, parse4]
    dsimp only
    repeat kxf_if
    refine wpAny_bind (wpAny_of_eq (PySem.overDigitLimit_small hl) ?_)
    repeat kxf_if
    refine ret_pad (Eq.trans ?_ he) hz hQ
    rfl
theorem field_pad {prog : Program} {w : World} {A : Around} {E : Value → Shared → Prop} {s : Shared} {n : Nat} (h : n = 2 ∨ n = 4) {a : Int} {t : Tok} (h0 : 0 ≤ a) (h1 : a < 10000) {Q : Value → Shared → Prop} (k : ∀ t' k, Q (.str (padT n a) t') { s with toks := k }) : wpAny (model prog w) A (formatField (.int a t) (padS n)) Q E s :=
  PySem.W.KXf.field_int rfl rfl (by rw [sizeLine_eq]; rcases h with rfl | rfl <;> decide) (fun u => pad_meets h h0 h1) k
section
variable {X : L2.Cx}
def tFmtW (n : Nat) (te : L2.TE) : L2.TE := fun σ H Q => te σ H fun x H1 => ∃ i : Int, x = .int i ∧ 0 ≤ i ∧ i < 10000 ∧ Q (.str (padT n i)) H1
theorem pe_fmtw {n : Nat} (hn : n = 2 ∨ n = 4) {e : Expr} {te : L2.TE} {pos p1 p2 : Pos} {k : Nat} {sp : Str} (hs : sp = padS n) (he : L2.PE X e te) : L2.PE X (.FormattedValue e (-1) (some (.JoinedStr [.Constant (.str sp) k p1] p2)) pos) (tFmtW n te) := by
  refine ⟨fun pins s σ H Q I h => ?_⟩
  refine wpAny_FormattedValue_spec (L2.thn (he.run pins s σ H _ I h) fun v s1 hv => ?_)
  obtain ⟨x, H1, I1, r1, i, rfl, h0, h1, q⟩ := hv
  obtain ⟨t, rfl⟩ := r1
  have hp : L2.PE X (.JoinedStr [.Constant (.str sp) k p1] p2) _ := L2.pe_joined1 L2.pe_str
  refine L2.thn (hp.run pins s1 σ H1 (fun y H2 => y = .str sp ∧ H2 = H1) I1 ⟨rfl, rfl⟩) fun r s2 hr => ?_
  obtain ⟨y, H2, I2, r2, rfl, rfl⟩ := hr
  obtain ⟨t2, rfl⟩ := r2
  refine ⟨sp, t2, rfl, ?_⟩
  subst hs
  exact field_pad hn h0 h1 fun t' k => ⟨.str (padT n i), H2, I2.tok _, ⟨_, rfl⟩, q⟩
end
section
variable {X : L2.Cx} {T : Tx} {W' : L2.WX} {c : Ctx}
theorem se_fmtw {n : Nat} (hn : n = 2 ∨ n = 4) {a : Expr} {a' : E} {pos p1 p2 : Pos} {k : Nat} {sp : Str} (hs : sp = padS n) (ha : L2.PE X a (tE T W' .B a')) : L2.PE X (.FormattedValue a (-1) (some (.JoinedStr [.Constant (.str sp) k p1] p2)) pos) (tE T W' c (.fmtw n a')) := by
  refine pe_imp (pe_fmtw hn hs ha) fun σ H Q ⟨g, env, S, s, p⟩ => ?_
  unfold ev at p
  refine ⟨g, env, S, s, Post.bind (qa := quiet a') (qb := true) bm_res (by simp [quiet]) p fun av S1 x g1 H1 _ e1 s1 r1 p1 => ?_⟩
  split at p1
  · obtain ⟨w, e, hc, p2⟩ := ofW_ok p1
    unfold padW at e
    split at e
    · rename_i i h
      cases e
      exact ⟨_, rdx_int r1, h.1, h.2, Post.val hc s1 repX_str p2⟩
    · cases e
  · exact p1.elim
end
end Wb
namespace Wb
open PySem PySem.Spec PyProof.Rows
open L2 (V Hp HO Rd upd upd_same upd_ne SqL SqT VK TE TT TA TS TG TI TO Ends WX XK R2 Cx Inv RelV Vals ne_of_none PE PT PA PS PSs PG PI OpR UnR CallR MtR Gl Vis Loc)
section
variable {X : Cx} {T : Tx} {W' : WX} {c : Ctx} {pos p : Pos}
theorem dcGo_cons {tg : Tg} {cond : Env → Store → R Bool} {ke ve : Env → Store → R W} {env : Env} {x : W} {xs : List W} {acc fin : List (Key × W)} {S S' : Store} (h : dcGo tg cond ke ve env (x :: xs) acc S = .ok fin S') :
    ∃ env', bindTg tg x env = some env' ∧ ∃ b S1, cond env' S = .ok b S1 ∧ ((b = false ∧ dcGo tg cond ke ve env xs acc S1 = .ok fin S') ∨ (b = true ∧ ∃ kw S2 w S3 k, ke env' S1 = .ok kw S2 ∧ ve env' S2 = .ok w S3 ∧ keyW kw = some k ∧ acc.length < sizeL ∧ dcGo tg cond ke ve env xs (putW acc k w) S3 = .ok fin S')) := by
  unfold dcGo at h
  cases h1 : bindTg tg x env with
  | none => rw [h1] at h; cases h
  | some env' =>
    rw [h1] at h
    refine ⟨env', rfl, ?_⟩
    dsimp only at h
    cases h2 : cond env' S with
    | bad => rw [h2] at h; cases h
    | exn _ _ _ => rw [h2] at h; cases h
    | ok b S1 =>
      rw [h2, R.bind_ok] at h
      refine ⟨b, S1, rfl, ?_⟩
      cases b with
      | false => exact .inl ⟨rfl, h⟩
      | true =>
        rw [if_pos rfl] at h
        cases h3 : ke env' S1 with
        | bad => rw [h3] at h; cases h
        | exn _ _ _ => rw [h3] at h; cases h
        | ok kw S2 =>
          rw [h3, R.bind_ok] at h
          cases h4 : ve env' S2 with
          | bad => rw [h4] at h; cases h
          | exn _ _ _ => rw [h4] at h; cases h
          | ok w S3 =>
            rw [h4, R.bind_ok] at h
            cases h5 : keyW kw with
            | none => rw [h5] at h; cases h
            | some k =>
              rw [h5] at h
              dsimp only at h
              split at h
              · rename_i hz
                exact .inr ⟨rfl, kw, S2, w, S3, k, by first | rfl | exact h3, by first | rfl | exact h4, by first | rfl | exact h5, hz, h⟩
              · cases h
theorem key_rep {T : Tx} {g : Gh} {H : Hp} {y : V} {kw : W} {k : Key} (r : RepX T g H y kw) (h : keyW kw = some k) : y = L2.kV k := by
  cases kw with
  | int i => cases h; exact int_inv r
  | str s => cases h; exact str_inv r
  | _ => cases h
theorem dc_sem {tg : Tg} {k : Src} {srcs conds : List E} {ke ve : E} {own : List (Str × Nat)} (sub : ∀ j ∈ tg.ixs, j ∈ own.map (·.2)) : ∀ (σ : L2.St) (H : Hp) (Q : VK), tE T W' c (.dc tg k srcs conds ke ve own) σ H Q → L2.tDc (tI T W' k srcs) (gOf T.K tg) (tC T conds) (tE T WF .V ke) (tE T WF .V ve) (own.map (·.2)) σ H Q := by
  intro σ H Q ⟨g, env, S, s, p⟩
  unfold ev at p
  refine ⟨g, env, S, s, Post.bind (qa := quiets srcs) (qb := false) bm_res (by simp [quiet]) p fun items S1 J g1 H1 _ e1 s1 r1 p1 => ?_⟩
  intro D hD
  -- the end
  generalize hvs : own.map (·.2) = vs at *
  cases hR : noExn ((dcGo tg (fun env' S' => evc conds env' S') (fun env' S' => ev .V ke env' S') (fun env' S' => ev .V ve env' S') (wipeE env vs) items [] S1).bind fun ws S' => .ok (W.dct ws) S') with
  | bad => rw [hR] at p1; exact p1.elim
  | exn _ _ _ =>
    exfalso
    generalize (dcGo tg (fun env' S' => evc conds env' S') (fun env' S' => ev .V ke env' S') (fun env' S' => ev .V ve env' S') (wipeE env vs) items [] S1).bind (fun ws S' => R.ok (W.dct ws) S') = rr at hR
    cases rr <;> cases hR
  | ok wl Sf =>
    rw [hR] at p1
    have hR' := noExn_ok hR
    cases hL : dcGo tg (fun env' S' => evc conds env' S') (fun env' S' => ev .V ke env' S') (fun env' S' => ev .V ve env' S') (wipeE env vs) items [] S1 with
    | bad => rw [hL] at hR'; cases hR'
    | exn _ _ _ => rw [hL] at hR'; cases hR'
    | ok fin Sf' =>
      rw [hL, R.bind_ok] at hR'
      cases hR'
      have xD := ext_new (o := .dK []) (l := .out) hD (s1.wf D hD)
      refine ⟨fun i m Hc => ∃ gc Sc acc ws, m = items.length - i ∧ i ≤ items.length ∧ Ext false g1 H1 gc Hc ∧ Stay g1 H1 gc Hc ∧ Sim T gc Hc env Sc σ ∧ gc.L D = .out ∧ Hc D = some (.dK acc) ∧ Paired (fun (p : Key × V) (q : Key × W) => p.1 = q.1 ∧ RepX T gc Hc p.2 q.2) acc ws ∧
        dcGo tg (fun env' S' => evc conds env' S') (fun env' S' => ev .V ke env' S') (fun env' S' => ev .V ve env' S') (wipeE env vs) (items.drop i) ws Sc = .ok fin Sf, ?_, ?_⟩
      · exact ⟨items.length, g1.lab D .out, S1, [], [], by simp, Nat.zero_le _, xD.weak (by simp), xD.stay, s1.new .out hD, lab_same, upd_same, .nil, hL⟩
      · rintro i m Hc ⟨gc, Sc, acc, ws, rfl, hi, ec, sc, simc, lD, hDc, ra, hgo⟩
        obtain ⟨jstop, jgo⟩ := r1 gc Hc sc i
        by_cases hlt : i < items.length
        · have hx := List.getElem?_eq_getElem hlt
          rw [List.drop_eq_getElem_cons hlt] at hgo
          obtain ⟨env', hb, b, S2, hcnd, hrest⟩ := dcGo_cons hgo
          obtain ⟨jg, jy⟩ := jgo _ hx
          refine .inr ⟨jg, fun H' => ∃ gc Sc acc ws, Ext false g1 H1 gc H' ∧ Stay g1 H1 gc H' ∧ Sim T gc H' env Sc σ ∧ gc.L D = .out ∧ H' D = some (.dK acc) ∧ Paired (fun (p : Key × V) (q : Key × W) => p.1 = q.1 ∧ RepX T gc H' p.2 q.2) acc ws ∧
            dcGo tg (fun env' S' => evc conds env' S') (fun env' S' => ev .V ke env' S') (fun env' S' => ev .V ve env' S') (wipeE env vs) (items.drop (i + 1)) ws Sc = .ok fin Sf, ?_, ?_⟩
          · rintro H' ⟨gc, Sc, acc, ws, h⟩
            exact ⟨items.length - (i + 1), by omega, gc, Sc, acc, ws, rfl, hlt, h⟩
          · intro x H' hy
            obtain ⟨g3, e3, sim3, rx⟩ := (jy x H' hy).sim simc
            have hD3 := e3.keep D (by rw [hDc]; simp) (.inl rfl)
            have ec3 : Ext false g1 H1 g3 H' := ec.trans (e3.weak (by simp))
            refine tg_sem hb rx (sim3.wipe vs) fun σ2 sim4 hσ => ?_
            have hw : L2.wipe σ2 vs = L2.wipe σ vs := by
              refine wipe_ext ?_ fun j hj => hσ j fun z => hj (sub j z)
              have l1 := sim4.len
              have l2 := (sim3.wipe vs).len
              rw [L2.wipe_length] at l2
              have l3 := bindTg_len hb
              omega
            refine ⟨hw, g3, env', Sc, sim4, Post.mk hcnd fun b' g5 H5 e5 sim5 hb' => ?_⟩
            cases hb'
            have sim5o : Sim T g5 H5 env S2 σ := sim3.move e5 sim5.c
            have ec5 := ec3.trans e5
            have hD5 := e5.keep D (by rw [hD3.2, hDc]; simp) (.inr (.inl (hD3.1.trans lD)))
            have ra5 := paired_imp ra fun _ _ z => And.intro z.1 (e5.stay.repX (e3.stay.repX z.2))
            rcases hrest with ⟨rfl, hrest⟩ | ⟨rfl, kw, S3, w, S4, kk, hke, hve, hkk, hz, hrest⟩
            · rw [if_neg Bool.false_ne_true]
              exact ⟨g5, S2, acc, ws, ec5, ec5.stay, sim5o, hD5.1.trans (hD3.1.trans lD), hD5.2.trans (hD3.2.trans hDc), ra5, hrest⟩
            · rw [if_pos rfl]
              refine ⟨g5, env', S2, sim5, Post.mk hke fun y g6 H6 e6 sim6 ry => ?_⟩
              have e6' : Ext false g5 H5 g6 H6 := e6.weak (by simp)
              have sim6o : Sim T g6 H6 env S3 σ := sim5o.move e6' sim6.c
              have hD6 := e6'.keep D (by rw [hD5.2, hD3.2, hDc]; simp) (.inr (.inl (hD5.1.trans (hD3.1.trans lD))))
              refine ⟨g6, env', S3, sim6, Post.mk hve fun z g7 H7 e7 sim7 rz => ?_⟩
              have e7' : Ext false g6 H6 g7 H7 := e7.weak (by simp)
              have sim7o : Sim T g7 H7 env S4 σ := sim6o.move e7' sim7.c
              have hD7 := e7'.keep D (by rw [hD6.2, hD5.2, hD3.2, hDc]; simp) (.inr (.inl (hD6.1.trans (hD5.1.trans (hD3.1.trans lD)))))
              have l7 : g7.L D = .out := hD7.1.trans (hD6.1.trans (hD5.1.trans (hD3.1.trans lD)))
              have ek : y = L2.kV kk := key_rep (ry : RepX T g6 H6 y kw) hkk
              refine ⟨acc, kk, ek, hD7.2.trans (hD6.2.trans (hD5.2.trans (hD3.2.trans hDc))), by rw [ra.length, ← sizeL_eq]; exact hz, ?_⟩
              have st7 : Stay g7 H7 g7 (upd H7 D (.dK (L2.putK acc kk z))) := stay_out l7
              have e8 : Ext false g1 H1 g7 (upd H7 D (.dK (L2.putK acc kk z))) := by
                have ec7 := (ec5.trans e6').trans e7'
                refine ⟨fun a n pp => ?_, ec7.cel, fun a n => ?_, ec7.slot⟩
                · obtain ⟨k1, k2⟩ := ec7.keep a n pp
                  exact ⟨k1, (upd_ne fun z => n (by rw [z]; exact hD)).trans k2⟩
                · rw [upd_ne fun z => n (by rw [z]; exact hD)]; exact ec7.some a n
              exact ⟨g7, S4, L2.putK acc kk z, putW ws kk w, e8, e8.stay, sim7o.out l7, l7, upd_same, put_paired (paired_imp ra5 fun _ _ z => ⟨z.1, st7.repX (e7.stay.repX (e6.stay.repX z.2))⟩) (st7.repX rz), hrest⟩
        · have hie : i = items.length := by omega
          subst hie
          rw [List.drop_length] at hgo
          unfold dcGo at hgo
          cases hgo
          refine .inl ⟨jstop (Nat.le_refl _), ?_⟩
          exact res_fresh (w := .dct fin) hD ec simc lD ⟨acc, by simpa using hDc, ra⟩ p1
theorem se_dc (G : XG X T) {kx vx tgE iter : Expr} {ifs : List Expr} {scope : Scope} {own : List (Str × Nat)} {tg : Tg} {k : Src} {srcs conds : List E} {ke ve : E} (hi : PI X tgE iter (tI T W' k srcs)) (ok : L2.BlkOk X.N X.env.scope scope own) (sub : ∀ j ∈ tg.ixs, j ∈ own.map (·.2))
    (hg : ∀ (s : Shared) (H : Hp) (C : Addr) (cl : List (Str × Addr)) (fp : List Addr), PG (X.blk s H scope (compEnvC scope cl C X.env) fp) tgE (gOf T.K tg))
    (ht : ∀ (s : Shared) (H : Hp) (C : Addr) (cl : List (Str × Addr)) (fp : List Addr), L2.PTs (X.blk s H scope (compEnvC scope cl C X.env) fp) ifs (tC T conds))
    (hk : ∀ (s : Shared) (H : Hp) (C : Addr) (cl : List (Str × Addr)) (fp : List Addr), PE (X.blk s H scope (compEnvC scope cl C X.env) fp) kx (tE T WF .V ke))
    (he : ∀ (s : Shared) (H : Hp) (C : Addr) (cl : List (Str × Addr)) (fp : List Addr), PE (X.blk s H scope (compEnvC scope cl C X.env) fp) vx (tE T WF .V ve))
    (hs : ∀ x, foldedSetIterable iter X.env x = pure x) : PE X (.DictComp kx vx [⟨tgE, iter, ifs, 0⟩] scope pos) (tE T W' c (.dc tg k srcs conds ke ve own)) :=
  pe_imp (L2.pe_dc G.calm G.nd hi ok hg ht hk he hs) fun σ H Q z => dc_sem sub σ H Q z
end
end Wb
namespace Wb
open PySem PySem.Spec PyProof.Rows
open L2 (V Hp HO Rd upd upd_same upd_ne SqL SqT VK TE TT TA TS TG TI TO Ends WX XK R2 Cx Inv RelV Vals ne_of_none PE PT PA PS PSs PG PI OpR UnR CallR MtR Gl Vis Loc OexC exo exd)
def XF.v (us : List V) : XF → V
  | .arg i => us.getD i .non
  | .cst s => .str s
/-- while the fields are stored -/
def IniS (a C : Addr) (H0 : Hp) (acc : List (Str × V)) (H : Hp) : Prop :=
  (acc = [] ∧ H = H0) ∨ ∃ d, d ≠ a ∧ H0 d = none ∧ H a = some (exo a C (some d)) ∧ H d = some (exd d acc) ∧ ∀ b, b ≠ a → b ≠ d → H b = H0 b
def accX (us : List V) : List (Str × XF) → List (Str × V) → List (Str × V)
  | [], acc => acc
  | p :: r, acc => accX us r ((p.1, p.2.v us) :: acc)
/-- what an __init__ of an exception promises -/
def spX (C : Addr) (x : Xc) : L2.Sp := fun vs H Q _ => ∃ a us, vs = .ref a :: us ∧ us.length = x.n ∧ H a = some (exo a C none) ∧ ∀ H', IniS a C H (accX us x.flds []) H' → Q .non H'
/-! ### does the text say so? -/
def locN (N : List Str) (sc : Scope) (i : Nat) (y : Str) : Bool := decide (N[i]? = some y) && (decide (sc.names.lookup y = some .local) && (!(y == ("__debug__" : Str)) && !(y == ("__classdict__" : Str))))
def mXF (N : List Str) (sc : Scope) (n : Nat) : Expr → XF → Bool
  | .Name y _, .arg i => locN N sc (i + 1) y && decide (i < n)
  | .Constant (.str t) _ _, .cst s => decide (t = s)
  | _, _ => false
def mIni (N : List Str) (sc : Scope) (n : Nat) : List Stmt → List (Str × XF) → Bool
  | [], [] => true
  | .Assign [.Attribute (.Name y _) f _] e _ :: r, (g, xf) :: rs => locN N sc 0 y && (decide (f = g) && (mXF N sc n e xf && mIni N sc n r rs))
  | _, _ => false
def mArg (N : List Str) (sc : Scope) (n : Nat) : Expr → Bool
  | .Name y _ => (List.range n).any fun i => locN N sc (i + 1) y
  | .Constant (.str _) _ _ => true
  | _ => false
def mIniD (N : List Str) (sc : Scope) (x : Xc) : List Stmt → Bool
  | .Expr (.Call (.Attribute (.Call (.Name s _) [] [] _) m ap) [e1] [] cp) _ :: rest => decide (s = "super") && (decide (m = "__init__") && ((ap.endLine == cp.line) && (mArg N sc x.n e1 && (decide (x.flds.length ≤ 900) && (decide (1 ≤ x.n) && mIni N sc x.n rest x.flds)))))
  | _ => false
theorem a2 {a b : Bool} (h : (a && b) = true) : a = true ∧ b = true := by rwa [Bool.and_eq_true] at h
section
variable {X : Cx} {sc : Scope}
theorem locN_ok {i : Nat} {y : Str} (hs : X.env.scope = sc) (h : locN X.N sc i y = true) {p : Pos} : PE X (.Name y p) (L2.tVar i) := by
  obtain ⟨h1, h⟩ := a2 h
  obtain ⟨h2, h⟩ := a2 h
  obtain ⟨h3, h4⟩ := a2 h
  exact L2.pe_var (of_decide_eq_true h1) (.inl (by rw [hs]; exact of_decide_eq_true h2)) (by simpa using h3) (by simpa using h4)
theorem mXF_ok {n : Nat} {e : Expr} {xf : XF} (hs : X.env.scope = sc) (h : mXF X.N sc n e xf = true) : ∃ t : TE, PE X e t ∧ (∀ (σ : L2.St) (H : Hp) (us : List V) (Q : VK), us.length = n → (∀ i v, us[i]? = some v → σ[i + 1]? = some (some v)) → Q (xf.v us) H → t σ H Q) ∧
    ∀ y f p p' l, e = e → swapsWith e (some (.Attribute (.Name y p) f p')) l X.env = pure false := by
  cases e <;> first | (cases xf <;> cases h; done) | skip
  · rename_i c j p
    cases xf with
    | arg i => cases c <;> cases h
    | cst s =>
      cases c <;> first | (cases h; done) | skip
      have e : _ = s := of_decide_eq_true h
      subst e
      exact ⟨_, L2.pe_str, fun σ H us Q _ _ q => q, fun _ _ _ _ _ _ => rfl⟩
  · rename_i y p
    cases xf with
    | cst s => cases h
    | arg i =>
      obtain ⟨h1, h2⟩ := a2 h
      have hi := of_decide_eq_true h2
      refine ⟨_, locN_ok hs h1, fun σ H us Q hl hσ q => ?_, fun _ _ _ _ _ _ => rfl⟩
      rw [← hl] at hi
      refine ⟨us[i], hσ i _ (List.getElem?_eq_getElem hi), ?_⟩
      have e : us.getD i .non = us[i] := by rw [List.getD_eq_getElem?_getD, List.getElem?_eq_getElem hi]; rfl
      unfold XF.v at q
      dsimp only at q
      rw [e] at q
      exact q
theorem mIni_ok {n : Nat} {C : Addr} (T : OexC X.K C) (hs : X.env.scope = sc) : ∀ (sts : List Stmt) (fl : List (Str × XF)), mIni X.N sc n sts fl = true → (∀ p ∈ fl, PySem.W.findIn X.K (.ref C) p.1 = some none) →
    ∃ t : TS, PSs X sts t ∧ ∀ (D : Ends) (σ : L2.St) (H0 H : Hp) (a : Addr) (us : List V) (acc : List (Str × V)), us.length = n → σ[0]? = some (some (.ref a)) → (∀ i v, us[i]? = some v → σ[i + 1]? = some (some v)) → H0 a = some (exo a C none) → acc.length + fl.length ≤ 900 →
      IniS a C H0 acc H → (∀ H', IniS a C H0 (accX us fl acc) H' → D.nx σ H') → t D σ H
  | [], [], _, _ => ⟨_, L2.pss_nil, fun D σ H0 H a us acc _ _ _ _ _ i q => q H i⟩
  | [], _ :: _, h, _ => by cases h
  | st :: r, fl, h, hno => by
    unfold mIni at h
    split at h
    · rename_i heq; cases heq
    · rename_i y p0 f p1 e pos r' g xf rs heq
      cases heq
      obtain ⟨h1, h⟩ := a2 h
      obtain ⟨h2, h⟩ := a2 h
      obtain ⟨h3, h4⟩ := a2 h
      have ef := of_decide_eq_true h2
      subst ef
      obtain ⟨te, pe, ke, sw⟩ := mXF_ok hs h3
      obtain ⟨t, ih, kt⟩ := mIni_ok T hs r rs h4 fun p hp => hno p (List.mem_cons_of_mem _ hp)
      refine ⟨_, L2.pss_cons (L2.ps_ost (locN_ok hs h1) pe (sw _ _ _ _ _ rfl)) ih, fun D σ H0 H a us acc hl h0 hσ ha hz hi q => ?_⟩
      refine ke σ H us _ hl hσ ⟨.ref a, h0, a, C, rfl, T, hno (f, xf) List.mem_cons_self, ?_⟩
      rw [List.length_cons] at hz
      have go : ∀ H', IniS a C H0 ((f, xf.v us) :: acc) H' → t D σ H' := fun H' i' => kt D σ H0 H' a us _ hl h0 hσ ha (by rw [List.length_cons]; omega) i' q
      rcases hi with ⟨rfl, rfl⟩ | ⟨d, na, nd, e1, e2, e3⟩
      · refine .inl ⟨ha, fun dx n1 n2 => go _ (.inr ⟨dx, n2, n1, upd_same, by rw [upd_ne n2]; exact upd_same, fun b b1 b2 => by rw [upd_ne b1, upd_ne b2]⟩)⟩
      · refine .inr ⟨d, acc, e1, e2, by omega, go _ (.inr ⟨d, na, nd, by rw [upd_ne (Ne.symm na)]; exact e1, upd_same, fun b b1 b2 => by rw [upd_ne b2]; exact e3 b b1 b2⟩)⟩
    · cases h
end
/-- the class at hand -/
def XOK (T : Tx) (x : Xc) : Prop := OexC T.K (T.ca x.nm) ∧ ∃ fI fd ps, PySem.W.findIn T.K (.ref (T.ca x.nm)) "__init__" = some (some (.ref fI)) ∧ PySem.W.typeIn T.K (.ref fI) = some (.type "function") ∧
  L2.FnOk T.prog T.w T.K T.mg T.base (L2.CX T.prog T.w) 1 fI fd ps (spX (T.ca x.nm) x) ∧ L2.Binds T.K fd ps [] ∧ T.mg x.nm = some (.ref (T.ca x.nm))
theorem xok_mk {T : Tx} {x : Xc} {C fI : Addr} {fd : FuncData} {ps : List Str} (hC : T.ca x.nm = C) (O : OexC T.K C) (iC : PySem.W.findIn T.K (.ref C) "__init__" = some (some (.ref fI))) (tI : PySem.W.typeIn T.K (.ref fI) = some (.type "function"))
    (F : L2.FnOk T.prog T.w T.K T.mg T.base (L2.CX T.prog T.w) 1 fI fd ps (spX C x)) (hb : L2.Binds T.K fd ps []) (hm : T.mg x.nm = some (.ref C)) : XOK T x := by
  unfold XOK
  rw [hC]
  exact ⟨O, fI, fd, ps, iC, tI, F, hb, hm⟩
theorem startF_at {N : List Str} {vs : List V} {i : Nat} {v : V} (h : vs[i]? = some v) : (NdefX.startF N vs [none])[i]? = some (some v) := by
  unfold NdefX.startF
  rw [List.getElem?_append_left (by rw [List.length_map]; exact (List.getElem?_eq_some_iff.mp h).1), List.getElem?_map, h]
  rfl
theorem ini_ok {T : Tx} {x : Xc} {C f cc cda : Addr} {name qual : Str} {params : Arguments} {body : List Stmt} {scope : Scope} {dV kV doc pm ct : Value} {an : Option Addr} {ar : Arg} {N ps : List Str}
    (KI : IniK T.prog T.K T.mg C f cc cda (PySem.W.fnX name qual params body scope [("__class__", cc)] dV kV doc pm an (.ref cda) ct) ar scope) (hcd : PySem.W.codeIn T.K (.ref cda) qual = true)
    (S : NdefX.NScope N ps ["__class__"] scope) (h0 : N[0]? = some ar.arg) (hl : ps.length = x.n + 1) (hm : mIniD N scope x body = true) (hno : ∀ p ∈ x.flds, PySem.W.findIn T.K (.ref C) p.1 = some none) :
    L2.FnOk T.prog T.w T.K T.mg T.base (L2.CX T.prog T.w) 1 f (PySem.W.fnX name qual params body scope [("__class__", cc)] dV kV doc pm an (.ref cda) ct) ps (spX C x) := by
  unfold mIniD at hm
  split at hm
  · rename_i s p0 p1 m ap e1 cp ep rest
    obtain ⟨h1, hm⟩ := a2 hm
    obtain ⟨h2, hm⟩ := a2 hm
    obtain ⟨h3, hm⟩ := a2 hm
    obtain ⟨h4, hm⟩ := a2 hm
    obtain ⟨h5, hm⟩ := a2 hm
    obtain ⟨h6, h7⟩ := a2 hm
    have e := of_decide_eq_true h1
    have e' := of_decide_eq_true h2
    subst e
    subst e'
    have h5 := of_decide_eq_true h5
    have h6 := of_decide_eq_true h6
    refine ini_of (k := 0) KI hcd S h0 h3 (fun vs H Q E ⟨a, us, e, hu, _⟩ => by rw [e, List.length_cons, hu, hl]) (fun A outer s H vs Q E hr hsp => ?_) (fun env => ?_)
    · obtain ⟨a, us, rfl, hu, ha, q⟩ := hsp
      have hσ : ∀ i v, us[i]? = some v → (NdefX.startF N (.ref a :: us) [none])[i + 1]? = some (some v) := fun i v h => startF_at (i := i + 1) (by simpa using h)
      have hσ0 : (NdefX.startF N (.ref a :: us) [none])[0]? = some (some (.ref a)) := startF_at rfl
      obtain ⟨t, pt, kt⟩ := mIni_ok (X := NdefX.ncx (L2.CX T.prog T.w) T.prog T.w T.K T.mg T.base N ⟨name, qual, params, [], scope, [("__class__", cc)], cda⟩ f A outer s H E) (sc := scope) KI.T rfl rest x.flds h7 hno
      have arg : ∃ ta : TA, PA (NdefX.ncx (L2.CX T.prog T.w) T.prog T.w T.K T.mg T.base N ⟨name, qual, params, [], scope, [("__class__", cc)], cda⟩ f A outer s H E) [e1] ta ∧ ta (NdefX.startF N (.ref a :: us) [none]) H fun vs H1 => H1 = H ∧ vs.length ≤ 1000 := by
        unfold mArg at h4
        split at h4
        · rename_i y p
          obtain ⟨i, hi, h4⟩ := List.any_eq_true.mp h4
          have hi : i < x.n := by simpa using hi
          refine ⟨_, L2.pa_cons (locN_ok (sc := scope) rfl h4) L2.pa_nil, us[i], hσ i _ (List.getElem?_eq_getElem (by omega)), ?_⟩
          exact ⟨rfl, by simp⟩
        · exact ⟨_, L2.pa_cons L2.pe_str L2.pa_nil, rfl, by simp⟩
        · cases h4
      obtain ⟨ta, p1, k1⟩ := arg
      exact ⟨a, ta, t, rfl, ha, p1, k1, pt, kt _ _ H H a us [] hu hσ0 hσ ha (by simpa using h5) (.inl ⟨rfl, rfl⟩) q⟩
    · unfold mArg at h4
      split at h4
      · rfl
      · rfl
      · cases h4
  · cases hm
end Wb
namespace Wb
open PySem PySem.Spec PyProof.Rows
open L2 (V Hp HO Rd upd upd_same upd_ne SqL SqT VK TE TT TA TS TG TI TO Ends WX XK R2 Cx Inv RelV Vals ne_of_none PE PT PA PS PSs PG PI OpR UnR CallR MtR Gl Vis Loc OexC exo exd)
theorem accX_eq (us : List V) : ∀ (fl : List (Str × XF)) (acc : List (Str × V)), accX us fl acc = (fl.reverse.map fun p => (p.1, p.2.v us)) ++ acc
  | [], acc => rfl
  | p :: r, acc => by
    unfold accX
    rw [accX_eq us r]
    simp
section
variable {X : Cx} {T : Tx} {W' : WX} {B : Bd} {pos p : Pos} {g : Gh} {H : Hp}
theorem paired_getD {F : V → W → Prop} (h0 : F .non .non) {xs : List V} {ws : List W} (h : Paired F xs ws) (i : Nat) : F (xs.getD i .non) (ws.getD i .non) := by
  induction h generalizing i with
  | nil => simpa using h0
  | cons r _ ih =>
    cases i with
    | zero => simpa using r
    | succ i => simpa using ih i
theorem vals_rep {x : Xc} {us : List V} {ws : List W} (r : Paired (RepX T g H) us ws) : Paired (fun (p : Str × V) (q : Str × W) => p.1 = q.1 ∧ RepX T g H p.2 q.2) (accX us x.flds []) (x.vals ws) := by
  rw [accX_eq, List.append_nil]
  unfold Xc.vals
  induction x.flds.reverse with
  | nil => exact .nil
  | cons a l ih =>
    refine .cons ⟨rfl, ?_⟩ ih
    obtain ⟨f, xf⟩ := a
    cases xf with
    | arg i => exact paired_getD repX_non r i
    | cst s => exact repX_str
theorem ss_raise (G : XG X T) (tk : L2.Takes X W') {x : Xc} (K : XOK T x) (hr : L2.Room 2 X.A) (hg : Gl X x.nm) (hd : (x.nm == ("__debug__" : Str)) = false) {e : Expr} {es : List Expr} {es' : List E} (he : PA X (e :: es) (tA T W' .V es')) (ok : okx e = true) (oks : okxs es = true)
    (hn : x.n ≤ 1000) (hf : x.flds ≠ []) {p0 : Pos} : PS X (.Raise (some (.Call (.Name x.nm p) (e :: es) [] pos)) none p0) (tS T W' B (.raise x es')) := by
  obtain ⟨O, fI, fd, ps, iC, tI, F1, hb, hm⟩ := K
  rw [← G.eK] at O iC tI hb
  rw [← G.eM] at hm
  have F1' : L2.FnOk X.prog X.w X.K X.mg X.base (L2.CX X.prog X.w) 1 fI fd ps (spX (T.ca x.nm) x) := by
    rw [G.eP, G.eW, G.eK, G.eM, G.eB]
    exact F1
  have z := L2.pmk_oex (p := p) (pos := pos) O iC tI F1' hr hb .nil (L2.passes_call tk fun _ _ _ _ h => h.elim) hg hm he hd (star_cons ok es) (star_none oks pos)
  refine ps_imp (L2.ps_raise G.calm tk z) fun D σ H ⟨g, env, S, s, p⟩ => ?_
  unfold exec at p
  refine ⟨g, env, S, s, p.out fun ws S1 vs g1 H1 _ e1 s1 r1 p1 => ?_⟩
  have r := resA_V r1
  split at p1
  · rename_i hl
    refine ⟨by rw [r.length, hl]; exact hn, fun a ha => ⟨a, vs, by rw [List.append_nil], by rw [r.length, hl], upd_same, fun H' i => ⟨rfl, ?_⟩⟩⟩
    rcases i with ⟨i, _⟩ | ⟨d, na, nd, e1', e2, e3⟩
    · exfalso
      rw [accX_eq, List.append_nil, List.map_eq_nil_iff, List.reverse_eq_nil_iff] at i
      exact hf i
    · rw [upd_ne na] at nd
      refine ⟨d, _, e1', e2, nd, ?_⟩
      have eh : upd (L2.del H' a) d (.xd (accX vs x.flds [])) = upd H1 d (.xd (accX vs x.flds [])) := by
        funext b
        by_cases hb : b = d
        · rw [hb, upd_same, upd_same]
        · rw [upd_ne hb, upd_ne hb]
          by_cases hba : b = a
          · rw [hba, L2.del_same, ha]
          · rw [L2.del_ne hba, e3 b hba hb, upd_ne hba]
      rw [eh]
      have ex := ext_new (g := g1) (o := .xd (accX vs x.flds [])) (l := .out) nd (s1.wf d nd)
      exact p1 d _ _ σ ex.toS (s1.new .out nd) Kp.refl ⟨_, upd_same, vals_rep (paired_imp r fun _ _ => ex.stay.repX)⟩
  · exact p1.elim
end
end Wb
namespace Wb
open PySem PySem.Spec PyProof.Rows
open L2 (V Hp HO Rd upd upd_same upd_ne SqL SqT VK TE TT TA TS TG TI TO Ends WX XK R2 Cx Inv RelV Vals ne_of_none PE PT PA PS PSs PG PI OpR UnR CallR MtR Gl Vis Loc)
/-- what is known of the place where a text stands -/
structure Inf where
  N : List Str
  sc : Scope
  own : Str → Bool
  lvl : Nat
structure XI (X : Cx) (T : Tx) (I : Inf) : Prop extends XG X T where
  eN : X.N = I.N
  eS : X.env.scope = I.sc
  eF : X.fn = I.own
  room : L2.Room I.lvl X.A
def nmOk (x : Str) : Bool := !(x == ("__debug__" : Str)) && !(x == ("__classdict__" : Str))
def visB (I : Inf) (x : Str) : Bool := match I.sc.names.lookup x with
  | some .local => true | some .cell => true | some .free => true | _ => false
def glB (I : Inf) (x : Str) : Bool := match I.sc.names.lookup x with
  | some .globalImplicit => true | _ => false
def locB (I : Inf) (x : Str) : Bool := match I.sc.names.lookup x with
  | some .local => true | some .cell => I.own x | _ => false
def varB (I : Inf) (i : Nat) (x : Str) : Bool := decide (I.N[i]? = some x) && visB I x && nmOk x
def stB (I : Inf) (i : Nat) (x : Str) : Bool := decide (I.N[i]? = some x) && locB I x
def cstB : Const → W → Bool
  | .none, .non => true
  | .bool b, .bl c => b == c
  | .int i, .int j => decide (i = j)
  | .str x, .str y => decide (x = y)
  | _, _ => false
def tyB (x : Str) (t : Ty) : Bool := decide (x = tyNs t)
/-- the built-ins' names that a text may use -/
def bltNs : List Str := ["len", "int", "str", "abs", "min", "max", "sum", "sorted", "list", "tuple", "dict", "divmod", "range", "zip", "isinstance", "bool"]
def BLT (T : Tx) : Prop := ∀ x ∈ bltNs, T.mg x = none
/-- what a text leans on: defs, globals -/
inductive Rq where
  | fn (f : Fn) | glob (x : Str) (w : W)
  | exc (x : Xc) | cat (cs : List Str) (x : Str) | xcl (cs : List Str) | xfl (cs : List Str) (f : Str)
/-- a class that is named in an except clause, or behind isinstance -/
def CatOk (T : Tx) (cs : List Str) (x : Str) : Prop := ∃ (cv : V) (v : Value), (∀ u, RelV cv u ↔ u = v) ∧ (x == ("__debug__" : Str)) = false ∧ (T.mg x = some v ∨ (T.mg x = none ∧ bootBuiltins x = some v ∧ x ≠ "__name__")) ∧
  ∀ c ∈ cs, PySem.W.exmOne T.K (.ref (T.ca c)) v = some (isSub c x) ∧ PySem.W.kitOne T.K (.ref (T.ca c)) v = some (isSub c x)
def Rq.ok (T : Tx) : Rq → Prop
  | .fn f => FnK T f
  | .glob x w => ∃ u v, T.mg x = some u ∧ RelV v u ∧ Stable T v w
  | .exc x => XOK T x
  | .cat cs x => CatOk T cs x
  | .xcl cs => ∀ c ∈ cs, L2.XfC T.K (T.ca c) ∧ L2.ExcC T.K (T.ca c)
  | .xfl cs f => ∀ c ∈ cs, PySem.W.findIn T.K (.ref (T.ca c)) f = some none
mutual
def rqE : E → List Rq
  | .glob x w => [.glob x w]
  | .bin _ a b => rqE a ++ rqE b
  | .neg a => rqE a
  | .not a => rqE a
  | .cmp _ a b => rqE a ++ rqE b
  | .chain _ _ a b c => rqE a ++ rqE b ++ rqE c
  | .and a b => rqE a ++ rqE b
  | .or a b => rqE a ++ rqE b
  | .ite c a b => rqE c ++ rqE a ++ rqE b
  | .tup es => rqEs es
  | .lst es => rqEs es
  | .dct es => rqEs es
  | .lc _ _ ss cs e _ => rqEs ss ++ rqEs cs ++ rqE e
  | .dc _ _ ss cs k e _ => rqEs ss ++ rqEs cs ++ rqE k ++ rqE e
  | .fstr es => rqEs es
  | .fmt a => rqE a
  | .fmtw _ a => rqE a
  | .sub a b => rqE a ++ rqE b
  | .slice a l h => rqE a ++ rqEs l ++ rqEs h
  | .rev a => rqE a
  | .attr a _ => rqE a
  | .call f es _ => .fn f :: rqEs es
  | .meth f o es _ => .fn f :: (rqE o ++ rqEs es)
  | .mk _ f es => .fn f :: rqEs es
  | .mkF _ f es => .fn f :: rqEs es
  | .bcall _ es => rqEs es
  | .bmeth _ o es => rqE o ++ rqEs es
  | .isi a _ => rqE a
  | .tru a => rqE a
  | _ => []
def rqEs : List E → List Rq
  | [] => []
  | e :: es => rqE e ++ rqEs es
end
def RqOk (T : Tx) (l : List Rq) : Prop := ∀ r ∈ l, r.ok T
theorem RqOk.left {T : Tx} {a b : List Rq} (h : RqOk T (a ++ b)) : RqOk T a := fun r hr => h r (List.mem_append_left _ hr)
theorem RqOk.right {T : Tx} {a b : List Rq} (h : RqOk T (a ++ b)) : RqOk T b := fun r hr => h r (List.mem_append_right _ hr)
/-! ### targets -/
def mTgs (I : Inf) : List Expr → List Nat → Bool
  | [], [] => true
  | .Name x _ :: es, i :: is => stB I i x && mTgs I es is
  | _, _ => false
def mTg (I : Inf) : Expr → Tg → Bool
  | .Name x _, .one i => stB I i x
  | .Tuple es _ _, .many is => mTgs I es is
  | _, _ => false
def blkI (I : Inf) (scope : Scope) : Inf := { N := I.N, sc := L2.relS scope I.sc, own := fun x => scope.names.lookup x == some .cell, lvl := I.lvl }
/-! ### does the text say what the term says? -/
mutual
def mE : Nat → Inf → Expr → E → Bool
  | 0, _, _, _ => false
  | n + 1, I, e, .var i => match e with
    | .Name x _ => varB I i x
    | _ => false
  | n + 1, I, e, .glob y w => match e with
    | .Name x _ => decide (x = y) && glB I x && nmOk x
    | _ => false
  | n + 1, I, e, .cst w => match e with
    | .Constant c _ _ => cstB c w
    | _ => false
  | n + 1, I, e, .bin o a' b' => match e with
    | .BinOp a op b _ => decide (op = opOf o) && (mE n I a a' && mE n I b b')
    | _ => false
  | n + 1, I, e, .neg a' => match e with
    | .UnaryOp .USub a _ => mE n I a a'
    | _ => false
  | n + 1, I, e, .not a' => match e with
    | .UnaryOp .Not a _ => mE n I a a'
    | _ => false
  | n + 1, I, e, .cmp o a' b' => match e with
    | .Compare a [op] [b] _ => decide (op = cmpOf o) && (okx b && (mE n I a a' && mE n I b b'))
    | _ => false
  | n + 1, I, e, .chain o1 o2 a' b' d' => match e with
    | .Compare a [p1, p2] [b, d] _ => decide (p1 = cmpOf o1) && (decide (p2 = cmpOf o2) && (okx d && (mE n I a a' && (mE n I b b' && mE n I d d'))))
    | _ => false
  | n + 1, I, e, .and a' b' => match e with
    | .BoolOp .And (a :: b :: r) p => mE n I a a' && mE n I (match r with | [] => b | _ => .BoolOp .And (b :: r) p) b'
    | _ => false
  | n + 1, I, e, .or a' b' => match e with
    | .BoolOp .Or (a :: b :: r) p => mE n I a a' && mE n I (match r with | [] => b | _ => .BoolOp .Or (b :: r) p) b'
    | _ => false
  | n + 1, I, e, .ite t' a' b' => match e with
    | .IfExp t a b _ => mT n I t t' && (mE n I a a' && mE n I b b')
    | _ => false
  | n + 1, I, e, .tup es' => match e with
    | .Tuple es _ _ => mEs n I es es'
    | _ => false
  | n + 1, I, e, .lst es' => match e with
    | .List es _ => mEs n I es es'
    | _ => false
  | n + 1, I, e, .dct es' => match e, es' with
    | .Dict [] [] _, [] => true
    | _, _ => false
  | n + 1, I, e, .lc tg' k ss' cs' elt' own => match e with
    | .ListComp elt [⟨tg, iter, ifs, 0⟩] scope _ => L2.blkC I.N I.sc scope own && (tg'.ixs.all (fun j => (own.map (·.2)).contains j) && (mTg (blkI I scope) tg tg' && (okx iter && (mI n I tg iter k ss' && (mC n (blkI I scope) ifs cs' && mE n (blkI I scope) elt elt')))))
    | _ => false
  | n + 1, I, e, .dc tg' k ss' cs' ke' ve' own => match e with
    | .DictComp ke ve [⟨tg, iter, ifs, 0⟩] scope _ => L2.blkC I.N I.sc scope own && (tg'.ixs.all (fun j => (own.map (·.2)).contains j) && (mTg (blkI I scope) tg tg' && (okx iter && (mI n I tg iter k ss' && (mC n (blkI I scope) ifs cs' && (mE n (blkI I scope) ke ke' && mE n (blkI I scope) ve ve'))))))
    | _ => false
  | n + 1, I, e, .fstr es' => match e with
    | .JoinedStr (v :: es) _ => mJ n I (v :: es) es'
    | _ => false
  | n + 1, I, e, .fmt a' => match e with
    | .FormattedValue a (-1) none _ => mE n I a a'
    | _ => false
  | n + 1, I, e, .fmtw k a' => match e with
    | .FormattedValue a (-1) (some (.JoinedStr [.Constant (.str sp) _ _] _)) _ => decide (k = 2 ∨ k = 4) && (decide (sp = padS k) && mE n I a a')
    | _ => false
  | n + 1, I, e, .sub a' b' => match e with
    | .Subscript a b _ => okx b && (mE n I a a' && mE n I b b')
    | _ => false
  | n + 1, I, e, .slice a' lo' hi' => match e with
    | .Subscript a (.Slice lo hi none _) _ => mE n I a a' && (mO n I lo lo' && mO n I hi hi')
    | _ => false
  | n + 1, I, e, .rev a' => match e with
    | .Subscript a (.Slice none none (some (.UnaryOp .USub (.Constant (.int 1) _ _) _)) _) _ => mE n I a a'
    | _ => false
  | n + 1, I, e, .attr _ _ => false
  | n + 1, I, e, .call f es' k => match e with
    | .Call (.Name x _) es [] _ => decide (x = f.nm) && (nmOk x && (glB I x && (decide (f.lvl ≤ I.lvl) && (decide (k ≤ f.dfl.length) && (decide (es'.length + k = f.own.length) && (match f.cls with | none => mEs n I es es' | some _ => false))))))
    | _ => false
  | n + 1, I, e, .meth _ _ _ _ => false
  | n + 1, I, e, .mk _ _ _ => false
  | n + 1, I, e, .mkF _ _ _ => false
  | n + 1, I, e, .bcall b es' => match e with
    | .Call (.Name x _) es [] _ => decide (x = nB b) && (glB I x && (match es, es' with
      | [a], [a'] => okx a && mE n I a a'
      | [a1, a2], [a1', a2'] => mEs n I [a1, a2] [a1', a2']
      | _, _ => false))
    | _ => false
  | n + 1, I, e, .bmeth b o' es' => match e with
    | .Call (.Attribute o m ap) es [] p => okx o && ((ap.endLine == p.line) && (mE n I o o' && (match b, es, es' with
      | .get1, [a], [a'] => decide (m = "get") && (okx a && mE n I a a')
      | .get2, [a, d], [a', d'] => decide (m = "get") && (okx a && (okx d && (mE n I a a' && mE n I d d')))
      | .join, [a], [a'] => decide (m = "join") && (okx a && mE n I a a')
      | .split, [a], [a'] => decide (m = "split") && (okx a && mE n I a a')
      | _, _, _ => false)))
    | _ => false
  | n + 1, I, e, .isi a' t => match e with
    | .Call (.Name x _) [a, .Name y _] [] _ => decide (x = "isinstance") && (glB I "isinstance" && (decide (y = tyNs t) && (glB I y && (okx a && mE n I a a'))))
    | _ => false
  | n + 1, I, e, .tru _ => false
/-- a test -/
def mT : Nat → Inf → Expr → E → Bool
  | 0, _, _, _ => false
  | n + 1, I, e, ir => match e with
    | .UnaryOp .Not a _ => match ir with
      | .not a' => mT n I a a'
      | _ => false
    | .BoolOp .And (a :: b :: r) p => match ir with
      | .and a' b' => mT n I a a' && mT n I (match r with | [] => b | _ => .BoolOp .And (b :: r) p) b'
      | _ => false
    | .BoolOp .Or (a :: b :: r) p => match ir with
      | .or a' b' => mT n I a a' && mT n I (match r with | [] => b | _ => .BoolOp .Or (b :: r) p) b'
      | _ => false
    | .BoolOp _ _ _ => false
    | .IfExp _ _ _ _ => false
    | .UnaryOp _ _ _ => false
    | .Compare a [op] [b] _ => match ir with
      | .cmp o a' b' => decide (op = cmpOf o) && (okx b && (mE n I a a' && mE n I b b'))
      | _ => false
    | .Compare a [p1, p2] [b, d] _ => match ir with
      | .chain o1 o2 a' b' d' => decide (p1 = cmpOf o1) && (decide (p2 = cmpOf o2) && (okx d && (mE n I a a' && (mE n I b b' && mE n I d d'))))
      | _ => false
    | .Compare _ _ _ _ => false
    | e => match ir with
      | .tru a' => mE n I e a'
      | ir => mE n I e ir
def mEs : Nat → Inf → List Expr → List E → Bool
  | 0, _, _, _ => false
  | n + 1, I, [], [] => true
  | n + 1, I, e :: es, e' :: es' => okx e && (mE n I e e' && mEs n I es es')
  | n + 1, I, _, _ => false
def mJ : Nat → Inf → List Expr → List E → Bool
  | 0, _, _, _ => false
  | n + 1, I, [], [] => true
  | n + 1, I, e :: es, e' :: es' => mE n I e e' && mJ n I es es'
  | n + 1, I, _, _ => false
def mO : Nat → Inf → Option Expr → List E → Bool
  | 0, _, _, _ => false
  | n + 1, I, none, [] => true
  | n + 1, I, some e, [e'] => mE n I e e'
  | n + 1, I, _, _ => false
/-- a comprehension's tests -/
def mC : Nat → Inf → List Expr → List E → Bool
  | 0, _, _, _ => false
  | n + 1, I, [], [] => true
  | n + 1, I, [e], [e'] => mT n I e e'
  | n + 1, I, _, _ => false
/-- what is walked -/
def mI : Nat → Inf → Expr → Expr → Src → List E → Bool
  | 0, _, _, _, _, _ => false
  | n + 1, I, tg, e, .iter, [e'] => mE n I e e'
  | n + 1, I, tg, e, .range, es' => match e with
    | .Call (.Name x _) es [] _ => decide (x = "range") && (glB I "range" && (decide (es.length = 1 ∨ es.length = 2) && mEs n I es es'))
    | _ => false
  | n + 1, I, tg, e, .zip, es' => match e, tg with
    | .Call (.Name x _) [a, b] [] _, .Tuple _ _ _ => decide (x = "zip") && (glB I "zip" && mEs n I [a, b] es')
    | _, _ => false
  | n + 1, I, _, _, _, _ => false
end
end Wb
namespace Wb
open PySem PySem.Spec PyProof.Rows
open L2 (V Hp HO Rd upd upd_same upd_ne SqL SqT VK TE TT TA TS TG TI TO Ends WX XK R2 Cx Inv RelV Vals ne_of_none PE PT PA PS PSs PG PI OpR UnR CallR MtR Gl Vis Loc)
section
variable {X : Cx} {T : Tx} {I : Inf} {W' : WX}
theorem vis_of (x : XI X T I) {y : Str} (h : visB I y = true) : Vis X.env.scope y := by
  unfold visB at h
  rw [x.eS]
  split at h
  · exact .inl (by assumption)
  · exact .inr (.inl (by assumption))
  · exact .inr (.inr (by assumption))
  · cases h
theorem gl_of (x : XI X T I) {y : Str} (h : glB I y = true) : Gl X y := by
  unfold glB at h
  show X.env.scope.names.lookup y = _
  rw [x.eS]
  split at h
  · assumption
  · cases h
theorem loc_of (x : XI X T I) {y : Str} (h : locB I y = true) : Loc X.env.scope y ∧ (X.fn y = true ∨ X.env.scope.names.lookup y = some .local) := by
  unfold locB at h
  rw [x.eS, x.eF]
  split at h
  · exact ⟨.inl (by assumption), .inr (by assumption)⟩
  · exact ⟨.inr (by assumption), .inl h⟩
  · cases h
theorem nm_of {y : Str} (h : nmOk y = true) : (y == ("__debug__" : Str)) = false ∧ (y == ("__classdict__" : Str)) = false := by
  unfold nmOk at h
  rw [Bool.and_eq_true, Bool.not_eq_true', Bool.not_eq_true'] at h
  exact h
theorem bl_of (x : XI X T I) (b : BLT T) {y : Str} (h : y ∈ bltNs) : X.mg y = none := by rw [x.eM]; exact b y h
theorem nB_mem (b : BI) : nB b ∈ bltNs := by cases b <;> decide +kernel
theorem tyNs_mem (b : Ty) : tyNs b ∈ bltNs := by cases b <;> decide +kernel
theorem cst_ok {c : Const} {w : W} {j : Nat} {pos : Pos} (h : cstB c w = true) : ∃ v, PE X (.Constant c j pos) (L2.tC v) ∧ Stable T v w := by
  cases c <;> cases w <;> first | cases h | skip
  · exact ⟨.non, L2.pe_non, fun _ _ => repX_non⟩
  · rename_i a b
    have e : a = b := by simpa [cstB] using h
    subst e
    exact ⟨.bl a, L2.pe_bl, fun _ _ => repX_bl⟩
  · rename_i a b
    have e : a = b := of_decide_eq_true h
    subst e
    exact ⟨.int a, L2.pe_int, fun _ _ => repX_int⟩
  · rename_i a b
    have e : a = b := of_decide_eq_true h
    subst e
    exact ⟨.str a, L2.pe_str, fun _ _ => repX_str⟩
theorem tgs_ok (x : XI X T I) : ∀ {es : List Expr} {is : List Nat}, mTgs I es is = true → L2.PGs X es (gsOf is) ∧ (assignEach es X.env).length = is.length ∧ (assignEach es X.env).findIdx? (·.1) = none
  | [], [], _ => ⟨L2.pgs_nil, rfl, rfl⟩
  | [], _ :: _, h => by cases h
  | e :: es, is, h => by
    cases e with
    | Name y p =>
      cases is with
      | nil => cases h
      | cons i is =>
        have h' : (stB I i y && mTgs I es is) = true := h
        rw [Bool.and_eq_true] at h'
        obtain ⟨h1, h2⟩ := h'
        unfold stB at h1
        rw [Bool.and_eq_true, decide_eq_true_eq] at h1
        obtain ⟨l1, l2⟩ := loc_of x h1.2
        obtain ⟨i1, i2, i3⟩ := tgs_ok x h2
        refine ⟨L2.pgs_cons (L2.pg_name x.nd (by rw [x.eN]; exact h1.1) l1 l2) i1, ?_, ?_⟩
        · show (assignEach es X.env).length + 1 = is.length + 1
          rw [i2]
        · show ((false, assign (.Name y p) X.env) :: assignEach es X.env).findIdx? (·.1) = none
          rw [List.findIdx?_cons, i3]
          rfl
    | _ => cases is <;> cases h
theorem tg_ok (x : XI X T I) {tg : Expr} {tg' : Tg} (h : mTg I tg tg' = true) : PG X tg (gOf T.K tg') := by
  cases tg' with
  | one i =>
    cases tg with
    | Name y p =>
      have h1 : stB I i y = true := h
      unfold stB at h1
      rw [Bool.and_eq_true, decide_eq_true_eq] at h1
      obtain ⟨l1, l2⟩ := loc_of x h1.2
      exact L2.pg_name x.nd (by rw [x.eN]; exact h1.1) l1 l2
    | _ => cases h
  | many is =>
    cases tg with
    | Tuple es k p =>
      obtain ⟨i1, i2, i3⟩ := tgs_ok x (show mTgs I es is = true from h)
      have z := L2.pg_tup (k := k) (pos := p) x.calm i1 i2 i3
      rw [x.eK] at z
      exact z
    | _ => cases h
theorem xi_blk (x : XI X T I) {scope : Scope} {s : Shared} {H : Hp} {C : Addr} {cl : List (Str × Addr)} {fp : List Addr} : XI (X.blk s H scope (compEnvC scope cl C X.env) fp) T (blkI I scope) where
  eK := x.eK
  eP := x.eP
  eW := x.eW
  eB := x.eB
  eM := x.eM
  nd := x.nd
  hu := x.hu
  calm := x.calm
  eN := x.eN
  eS := by
    show L2.relS scope X.env.scope = L2.relS scope I.sc
    rw [x.eS]
  eF := rfl
  room := x.room
theorem fold_ok {e : Expr} (h : okx e = true) (env : PySem.Env) : ∀ x, foldedSetIterable e env x = pure x := by
  intro x
  cases e <;> first | rfl | exact absurd h Bool.false_ne_true
end
structure Snd (n : Nat) : Prop where
  e : ∀ {X : Cx} {T : Tx} {I : Inf} {W' : WX}, XI X T I → L2.Takes X W' → BLT T → ∀ (x : Expr) (ir : E) (c : Ctx), mE n I x ir = true → RqOk T (rqE ir) → PE X x (tE T W' c ir)
  t : ∀ {X : Cx} {T : Tx} {I : Inf} {W' : WX}, XI X T I → L2.Takes X W' → BLT T → ∀ (x : Expr) (ir : E), mT n I x ir = true → RqOk T (rqE ir) → PT X x (tT T W' ir)
  es : ∀ {X : Cx} {T : Tx} {I : Inf} {W' : WX}, XI X T I → L2.Takes X W' → BLT T → ∀ (x : List Expr) (ir : List E), mEs n I x ir = true → RqOk T (rqEs ir) → PA X x (tA T W' .V ir) ∧ okxs x = true
  j : ∀ {X : Cx} {T : Tx} {I : Inf} {W' : WX}, XI X T I → L2.Takes X W' → BLT T → ∀ (x : List Expr) (ir : List E), mJ n I x ir = true → RqOk T (rqEs ir) → PJ X T W' x ir
  o : ∀ {X : Cx} {T : Tx} {I : Inf} {W' : WX}, XI X T I → L2.Takes X W' → BLT T → ∀ (x : Option Expr) (ir : List E), mO n I x ir = true → RqOk T (rqEs ir) → L2.PO X x (tO T W' ir)
  c : ∀ {X : Cx} {T : Tx} {I : Inf}, XI X T I → L2.Takes X WF → BLT T → ∀ (x : List Expr) (ir : List E), mC n I x ir = true → RqOk T (rqEs ir) → L2.PTs X x (tC T ir)
  i : ∀ {X : Cx} {T : Tx} {I : Inf} {W' : WX}, XI X T I → L2.Takes X W' → BLT T → ∀ (tg x : Expr) (k : Src) (ir : List E), mI n I tg x k ir = true → RqOk T (rqEs ir) → PI X tg x (tI T W' k ir)
theorem snd0 : Snd 0 := by
  refine ⟨?_, ?_, ?_, ?_, ?_, ?_, ?_⟩
  · intro X T I W' _ _ _ x ir c h; cases h
  · intro X T I W' _ _ _ x ir h; cases h
  · intro X T I W' _ _ _ x ir h; cases h
  · intro X T I W' _ _ _ x ir h; cases h
  · intro X T I W' _ _ _ x ir h; cases h
  · intro X T I _ _ _ x ir h; cases h
  · intro X T I W' _ _ _ tg x k ir h; cases h
theorem and2 {a b : Bool} (h : (a && b) = true) : a = true ∧ b = true := by rw [Bool.and_eq_true] at h; exact h
section
variable {n : Nat} (s : Snd n) {X : Cx} {T : Tx} {I : Inf} {W' : WX} (x : XI X T I) (tk : L2.Takes X W') (bl : BLT T)
include s x tk bl
theorem snd_es : ∀ (es : List Expr) (ir : List E), mEs (n + 1) I es ir = true → RqOk T (rqEs ir) → PA X es (tA T W' .V ir) ∧ okxs es = true := by
  intro es ir h r
  cases es with
  | nil =>
    cases ir with
    | nil => exact ⟨sa_nil, rfl⟩
    | cons _ _ => unfold mEs at h; cases h
  | cons e es =>
    cases ir with
    | nil => unfold mEs at h; cases h
    | cons e' es' =>
      unfold mEs at h
      obtain ⟨h1, h⟩ := and2 h
      obtain ⟨h2, h3⟩ := and2 h
      obtain ⟨i1, i2⟩ := s.es x tk bl es es' h3 r.right
      exact ⟨sa_cons (s.e x tk bl e e' .V h2 r.left) i1 h1, by show (okx e && okxs es) = true; rw [h1, i2]; rfl⟩
theorem snd_j : ∀ (es : List Expr) (ir : List E), mJ (n + 1) I es ir = true → RqOk T (rqEs ir) → PJ X T W' es ir := by
  intro es ir h r
  cases es with
  | nil =>
    cases ir with
    | nil => exact .nil
    | cons _ _ => unfold mJ at h; cases h
  | cons e es =>
    cases ir with
    | nil => unfold mJ at h; cases h
    | cons e' es' =>
      unfold mJ at h
      obtain ⟨h2, h3⟩ := and2 h
      exact .cons (s.e x tk bl e e' .V h2 r.left) (s.j x tk bl es es' h3 r.right)
theorem snd_o : ∀ (e : Option Expr) (ir : List E), mO (n + 1) I e ir = true → RqOk T (rqEs ir) → L2.PO X e (tO T W' ir) := by
  intro e ir h r
  cases e with
  | none =>
    cases ir with
    | nil => exact so_none
    | cons _ _ => unfold mO at h; cases h
  | some e =>
    cases ir with
    | nil => unfold mO at h; cases h
    | cons e' es' =>
      cases es' with
      | nil => unfold mO at h; exact so_some (s.e x tk bl e e' .V h r.left)
      | cons _ _ => unfold mO at h; cases h
theorem snd_i : ∀ (tg e : Expr) (k : Src) (ir : List E), mI (n + 1) I tg e k ir = true → RqOk T (rqEs ir) → PI X tg e (tI T W' k ir) := by
  intro tg e k ir h r
  cases k with
  | iter =>
    cases ir with
    | nil => unfold mI at h; cases h
    | cons e' es' =>
      cases es' with
      | nil => unfold mI at h; exact si_iter x.toXG (s.e x tk bl e e' .V h r.left)
      | cons _ _ => unfold mI at h; cases h
  | range =>
    unfold mI at h
    split at h
    · rename_i y p es pos
      obtain ⟨h1, h⟩ := and2 h
      obtain ⟨h2, h⟩ := and2 h
      obtain ⟨h3, h4⟩ := and2 h
      have ey := of_decide_eq_true h1
      have hl := of_decide_eq_true h3
      subst ey
      obtain ⟨i1, i2⟩ := s.es x tk bl es ir h4 r
      have hg := gl_of x h2
      have hm : X.mg "range" = none := bl_of x bl (by decide +kernel)
      cases es with
      | nil => rcases hl with hl | hl <;> cases hl
      | cons a es =>
        cases es with
        | nil =>
          have ia : (okx a && okxs []) = true := i2
          have ok := (and2 ia).1
          cases ir with
          | nil => cases n <;> (unfold mEs at h4; cases h4)
          | cons a' ir =>
            cases ir with
            | nil => exact si_rng1 x.toXG hg hm i1 ok
            | cons _ _ =>
              exfalso
              cases n with
              | zero => unfold mEs at h4; cases h4
              | succ n => unfold mEs at h4; obtain ⟨_, h4⟩ := and2 h4; obtain ⟨_, h4⟩ := and2 h4; cases n <;> (unfold mEs at h4; cases h4)
        | cons b es =>
          cases es with
          | cons _ _ => rcases hl with hl | hl <;> (simp at hl)
          | nil =>
            have ia : (okx a && (okx b && okxs [])) = true := i2
            have ok := (and2 ia).1
            have ok2 := (and2 (and2 ia).2).1
            have len : ir.length = 2 := by
              have key : ∀ (n : Nat) (es : List Expr) (ir : List E), mEs n I es ir = true → ir.length = es.length := by
                intro n
                induction n with
                | zero => intro es ir h; unfold mEs at h; cases h
                | succ n ih =>
                  intro es ir h
                  cases es <;> cases ir <;> first | rfl | (unfold mEs at h; cases h; done) | skip
                  unfold mEs at h
                  obtain ⟨_, h⟩ := and2 h
                  obtain ⟨_, h⟩ := and2 h
                  rw [List.length_cons, List.length_cons, ih _ _ h]
              exact key _ _ _ h4
            cases ir with
            | nil => cases len
            | cons a' ir =>
              cases ir with
              | nil => cases len
              | cons b' ir =>
                cases ir with
                | nil => exact si_rng2 x.toXG hg hm i1 ok ok2
                | cons _ _ => cases len
    · cases h
  | zip =>
    unfold mI at h
    split at h
    · rename_i y p a b pos elts kk tpos
      obtain ⟨h1, h⟩ := and2 h
      obtain ⟨h2, h4⟩ := and2 h
      have ey := of_decide_eq_true h1
      subst ey
      obtain ⟨i1, i2⟩ := s.es x tk bl _ ir h4 r
      have hg := gl_of x h2
      have hm : X.mg "zip" = none := bl_of x bl (by decide +kernel)
      have ia : (okx a && (okx b && okxs [])) = true := i2
      have ok := (and2 ia).1
      have ok2 := (and2 (and2 ia).2).1
      have len : ir.length = 2 := by
        have key : ∀ (n : Nat) (es : List Expr) (ir : List E), mEs n I es ir = true → ir.length = es.length := by
          intro n
          induction n with
          | zero => intro es ir h; unfold mEs at h; cases h
          | succ n ih =>
            intro es ir h
            cases es <;> cases ir <;> first | rfl | (unfold mEs at h; cases h; done) | skip
            unfold mEs at h
            obtain ⟨_, h⟩ := and2 h
            obtain ⟨_, h⟩ := and2 h
            rw [List.length_cons, List.length_cons, ih _ _ h]
        exact key _ _ _ h4
      cases ir with
      | nil => cases len
      | cons a' ir =>
        cases ir with
        | nil => cases len
        | cons b' ir =>
          cases ir with
          | nil => exact si_zip x.toXG hg hm i1 ok ok2
          | cons _ _ => cases len
    · cases h
end
end Wb
namespace Wb
open PySem PySem.Spec PyProof.Rows
open L2 (V Hp HO Rd upd upd_same upd_ne SqL SqT VK TE TT TA TS TG TI TO Ends WX XK R2 Cx Inv RelV Vals ne_of_none PE PT PA PS PSs PG PI OpR UnR CallR MtR Gl Vis Loc Zc)
def noTestC : Expr → Bool
  | .ListComp _ _ _ _ => false
  | .SetComp _ _ _ _ => false
  | .DictComp _ _ _ _ _ => false
  | _ => true
def mX0 (I : Inf) (o : Option Nat) : Expr → X0 → Bool
  | .Constant c _ _, .cst w => cstB c w
  | .Name y _, .var i => varB I i y
  | .Attribute (.Name y _) f _, .fld g => decide (f = g) && (match o with | some i => varB I i y | none => false)
  | _, _ => false
def mX0s (I : Inf) (o : Option Nat) : List Expr → List X0 → Bool
  | [], [] => true
  | e :: es, x :: xs => mX0 I o e x && mX0s I o es xs
  | _, _ => false
def mXV (I : Inf) (o : Option Nat) (e : Expr) : XV → Bool
  | .one x => mX0 I o e x
  | .tup xs => match e with
    | .Tuple es _ _ => mX0s I o es xs && decide (xs.length ≤ sizeL)
    | _ => false
def mXI (I : Inf) (o : Option Nat) : Expr → Str → Bool
  | .Call (.Name f _) [.Name e _, .Name y _] [] _, z => decide (f = "isinstance") && (glB I "isinstance" && (decide (y = z) && (glB I y && (match o with | some i => varB I i e | none => false))))
  | _, _ => false
def mXA (I : Inf) (o : Option Nat) (e : Expr) : Bool × Str → Bool
  | (true, z) => mXI I o e z
  | (false, z) => match e with
    | .UnaryOp .Not a _ => mXI I o a z
    | _ => false
def mXAs (I : Inf) (o : Option Nat) : List Expr → List (Bool × Str) → Bool
  | [e], [p] => mXA I o e p
  | e :: e2 :: es, p :: ps => mXA I o e p && mXAs I o (e2 :: es) ps
  | _, _ => false
def mXC (I : Inf) (o : Option Nat) (e : Expr) (ps : List (Bool × Str)) : Bool := match e with
  | .BoolOp .Or es _ => mXAs I o es ps
  | e => match ps with
    | [p] => mXA I o e p
    | _ => false
def neO (o : Option Nat) (i : Nat) : Bool := match o with
  | some j => i != j
  | none => true
def mXS (I : Inf) (B : Bd) (o : Option Nat) : XS → Stmt → Bool
  | .pass, st => match st with
    | .Pass _ => true
    | _ => false
  | .brk, st => match st with
    | .Break _ => true
    | _ => false
  | .cont, st => match st with
    | .Continue _ => true
    | _ => false
  | .retN, st => match st with
    | .Return none _ => !B.fresh
    | _ => false
  | .ret v, st => match st with
    | .Return (some e) _ => !B.fresh && mXV I o e v
    | _ => false
  | .asg i v, st => match st with
    | .Assign [.Name x p2] e _ => stB I i x && ((B.P i == false) && (neO o i && mXV I o e v))
    | _ => false
  | .ifx cs s', st => match st with
    | .If c [s] [] _ => mXC I o c cs && mXS I B o s' s
    | _ => false
def mXSs (I : Inf) (B : Bd) (o : Option Nat) : List Stmt → List XS → Bool
  | [], [] => true
  | s :: r, s' :: r' => mXS I B o s' s && mXSs I B o r r'
  | _, _ => false
def rqX0 (cs : List Str) : X0 → List Rq
  | .fld f => [.xfl cs f]
  | _ => []
def rqX0s (cs : List Str) : List X0 → List Rq
  | [] => []
  | x :: xs => rqX0 cs x ++ rqX0s cs xs
def rqXV (cs : List Str) : XV → List Rq
  | .one x => rqX0 cs x
  | .tup xs => rqX0s cs xs
def rqXC (cs : List Str) : List (Bool × Str) → List Rq
  | [] => []
  | p :: r => .cat cs p.2 :: rqXC cs r
def rqXS (cs : List Str) : XS → List Rq
  | .ret v => rqXV cs v
  | .asg _ v => rqXV cs v
  | .ifx ps s => rqXC cs ps ++ rqXS cs s
  | _ => []
def rqXSs (cs : List Str) : List XS → List Rq
  | [] => []
  | s :: r => rqXS cs s ++ rqXSs cs r
/-- the state in an except suite -/
structure SuSt (T : Tx) (o : Option Nat) (a dd : Addr) (fs : List (Str × W)) (g : Gh) (env : Env) (S : Store) (σ : L2.St) (H : Hp) : Prop where
  sim : Sim T g H env S σ
  ex : ExOk T g H dd fs
  as : ∀ i, o = some i → σ[i]? = some (some (.ref a))
section
variable {T : Tx} {o : Option Nat} {a dd : Addr} {fs : List (Str × W)} {g g' : Gh} {env : Env} {S : Store} {σ : L2.St} {H H' : Hp}
theorem SuSt.ext (s : SuSt T o a dd fs g env S σ H) (e : Ext true g H g' H') (wf : ∀ a, H' a = none → g'.L a = .out) : SuSt T o a dd fs g' env S σ H' := by
  refine ⟨s.sim.ext e wf, ?_, s.as⟩
  obtain ⟨gs, h1, h2⟩ := s.ex
  exact ⟨gs, (e.keep dd (by rw [h1]; simp) (.inl rfl)).2.trans h1, paired_imp h2 fun _ _ z => ⟨z.1, e.stay.repX z.2⟩⟩
end
section
variable {X : Cx} {T : Tx} {I : Inf} {a dd C : Addr} {oe : Obj} {cls : Value} {pn : List (Addr × Obj)} {o : Option Nat} {cs : List Str}
theorem as_ok (x : XI X T I) {i : Nat} {y : Str} {p : Pos} (h : varB I i y = true) : PE (X.suite a ((a, oe) :: pn)) (.Name y p) (L2.tVar i) := by
  unfold varB at h
  obtain ⟨h, h3⟩ := and2 h
  obtain ⟨h1, h2⟩ := and2 h
  exact L2.pe_var (X := X.suite a ((a, oe) :: pn)) (by show X.N[i]? = _; rw [x.eN]; exact of_decide_eq_true h1) (vis_of x h2) (nm_of h3).1 (nm_of h3).2
theorem fld_lookup {F : V → W → Prop} {f : Str} {w : W} : ∀ {gs : List (Str × V)} {fs : List (Str × W)}, Paired (fun (p : Str × V) (q : Str × W) => p.1 = q.1 ∧ F p.2 q.2) gs fs → fs.lookup f = some w → ∃ v, gs.lookup f = some v ∧ F v w := by
  intro gs fs h
  induction h with
  | nil => intro e; cases e
  | @cons p q gs fs r _ ih =>
    intro e
    obtain ⟨pf, pv⟩ := p
    obtain ⟨qf, qw⟩ := q
    obtain ⟨e1, r⟩ := r
    dsimp only at e1 r
    subst e1
    rw [L2.lookup_put]
    by_cases hf : f = pf
    · subst hf
      simp [List.lookup] at e
      subst e
      exact ⟨pv, if_pos rfl, r⟩
    · have hb : (f == pf) = false := by simpa using hf
      simp [List.lookup, hb] at e
      rw [if_neg hf]
      exact ih e
theorem x0_ok (x : XI X T I) {c : Str} (hc : c ∈ cs) (hcl : cls = .ref (T.ca c)) (hx : L2.XfC T.K (T.ca c)) (hz : Zc cls (some dd) oe) (hf : ∃ vs, oe.data = .fields vs) {e : Expr} {v : X0} (h : mX0 I o e v = true) (r : RqOk T (rqX0 cs v)) :
    ∃ t : TE, PE (X.suite a ((a, oe) :: pn)) e t ∧ (noTestC e = true ∧ okx e = true) ∧ ∀ {g env S σ H fs w} {Q : VK}, SuSt T o a dd fs g env S σ H → v.val fs env = some w → (∀ y, RepX T g H y w → Q y H) → t σ H Q := by
  unfold mX0 at h
  split at h
  · obtain ⟨y, h1, h2⟩ := cst_ok (X := X.suite a ((a, oe) :: pn)) (T := T) h
    refine ⟨_, h1, ⟨rfl, rfl⟩, fun {g env S σ H fs w Q} s e q => ?_⟩
    cases e
    exact q _ (h2 g H)
  · rename_i y p i
    refine ⟨_, as_ok x h, ⟨rfl, rfl⟩, fun {g env S σ H fs w Q} s e q => ?_⟩
    unfold X0.val at e
    dsimp only at e
    split at e
    · rename_i w' hw
      cases e
      obtain ⟨z, e1, rz⟩ := s.sim.slots i _ _ hw
      exact ⟨z, e1, q z rz⟩
    · cases e
  · rename_i y p f p2 g
    obtain ⟨h1, h2⟩ := and2 h
    have ef := of_decide_eq_true h1
    subst ef
    cases ho : o with
    | none => rw [ho] at h2; cases h2
    | some i =>
      rw [ho] at h2
      have hno := r (.xfl cs f) (by simp [rqX0]) c hc
      rw [← x.eK] at hx hno
      refine ⟨_, L2.pe_xf hx hno hz hf (as_ok x h2), ⟨rfl, rfl⟩, fun {g env S σ H fs w Q} s e q => ?_⟩
      obtain ⟨gs, q1, q2⟩ := s.ex
      obtain ⟨v, l, rv⟩ := fld_lookup q2 e
      exact ⟨.ref a, s.as i rfl, rfl, hcl, dd, gs, v, rfl, q1, l, q v rv⟩
  · cases h
theorem x0s_ok (x : XI X T I) {c : Str} (hc : c ∈ cs) (hcl : cls = .ref (T.ca c)) (hx : L2.XfC T.K (T.ca c)) (hz : Zc cls (some dd) oe) (hf : ∃ vs, oe.data = .fields vs) : ∀ {es : List Expr} {vs : List X0}, mX0s I o es vs = true → RqOk T (rqX0s cs vs) →
    ∃ t : TA, PA (X.suite a ((a, oe) :: pn)) es t ∧ ∀ {g env S σ H fs ws} {Q : List V → Hp → Prop}, SuSt T o a dd fs g env S σ H → valsX fs env vs = some ws → (∀ ys, Paired (RepX T g H) ys ws → Q ys H) → t σ H Q
  | [], [], _, _ => ⟨_, L2.pa_nil, fun {g env S σ H fs ws Q} s e q => by cases e; exact q [] .nil⟩
  | [], _ :: _, h, _ => by cases h
  | _ :: _, [], h, _ => by cases h
  | e :: es, v :: vs, h, r => by
    have h' : (mX0 I o e v && mX0s I o es vs) = true := h
    obtain ⟨h1, h2⟩ := and2 h'
    obtain ⟨t1, p1, n1, k1⟩ := x0_ok (pn := pn) (a := a) x hc hcl hx hz hf h1 (RqOk.left r)
    obtain ⟨t2, p2, k2⟩ := x0s_ok x hc hcl hx hz hf h2 (RqOk.right r)
    refine ⟨_, L2.pa_cons p1 p2 (star_cons n1.2 es), fun {g env S σ H fs ws Q} s e q => ?_⟩
    unfold valsX at e
    split at e
    · rename_i w ws' e1 e2
      cases e
      exact k1 s e1 fun y ry => k2 s e2 fun ys rys => q (y :: ys) (.cons ry rys)
    · cases e
theorem xv_ok (x : XI X T I) {c : Str} (hc : c ∈ cs) (hcl : cls = .ref (T.ca c)) (hx : L2.XfC T.K (T.ca c)) (hz : Zc cls (some dd) oe) (hf : ∃ vs, oe.data = .fields vs) {e : Expr} {v : XV} (h : mXV I o e v = true) (r : RqOk T (rqXV cs v)) :
    ∃ t : TE, PE (X.suite a ((a, oe) :: pn)) e t ∧ noTestC e = true ∧ ∀ {g env S σ H fs w} {Q : VK}, SuSt T o a dd fs g env S σ H → v.val fs env = some w → (∀ g' H' y, Ext true g H g' H' → SuSt T o a dd fs g' env S σ H' → RepX T g' H' y w → Q y H') → t σ H Q := by
  cases v with
  | one v =>
    obtain ⟨t, p, n, k⟩ := x0_ok (pn := pn) (a := a) x hc hcl hx hz hf h r
    exact ⟨t, p, n.1, fun {g env S σ H fs w Q} s e q => k s e fun y ry => q g H y Ext.refl s ry⟩
  | tup vs =>
    unfold mXV at h
    dsimp only at h
    split at h
    · rename_i es j p
      obtain ⟨h1, h2⟩ := and2 h
      obtain ⟨t, pt, k⟩ := x0s_ok (pn := pn) (a := a) x hc hcl hx hz hf h1 r
      refine ⟨_, L2.pe_tup pt, rfl, fun {g env S σ H fs w Q} s e q => ?_⟩
      unfold XV.val at e
      dsimp only at e
      cases ev : valsX fs env vs with
      | none => rw [ev] at e; cases e
      | some ws =>
        rw [ev] at e
        cases e
        have hlen : ∀ {vs : List X0} {ws : List W}, valsX fs env vs = some ws → ws.length = vs.length := by
          intro vs
          induction vs with
          | nil => intro ws e; cases e; rfl
          | cons v vs ih =>
            intro ws e
            unfold valsX at e
            split at e
            · rename_i w ws' e1 e2
              cases e
              rw [List.length_cons, List.length_cons, ih e2]
            · cases e
        refine k s ev fun ys rys => ⟨by rw [rys.length, hlen ev, ← sizeL_eq]; exact of_decide_eq_true h2, fun q0 hq => ?_⟩
        have ex := ext_new (g := g) (o := .tup ys) (l := .frz) hq (s.sim.wf q0 hq)
        exact q _ _ _ ex (s.ext ex (wf_new s.sim.wf)) (repX_tup (.inl ⟨lab_same, .inl upd_same⟩) (paired_imp rys fun _ _ => ex.stay.repX))
    · cases h
/-! ### the tests -/
theorem xi_ok (x : XI X T I) (bl : BLT T) {c : Str} (hc : c ∈ cs) (hx : L2.ExcC T.K (T.ca c)) (hz : Zc (.ref (T.ca c)) (some dd) oe) (hf : ∃ vs, oe.data = .fields vs) {e : Expr} {z : Str} (h : mXI I o e z = true) (r : CatOk T cs z) :
    ∃ t : TT, PT (X.suite a ((a, oe) :: pn)) e t ∧ ∀ {g env S σ H fs} {Q : Bool → Hp → Prop}, SuSt T o a dd fs g env S σ H → Q (isSub c z) H → t σ H Q := by
  unfold mXI at h
  split at h
  · rename_i f p1 en p2 y p3 pos
    obtain ⟨h1, h⟩ := and2 h
    obtain ⟨h2, h⟩ := and2 h
    obtain ⟨h3, h⟩ := and2 h
    obtain ⟨h4, h5⟩ := and2 h
    have e1 := of_decide_eq_true h1
    have e3 := of_decide_eq_true h3
    subst e1
    subst e3
    cases ho : o with
    | none => rw [ho] at h5; cases h5
    | some i =>
      rw [ho] at h5
      obtain ⟨cv, v, hcv, hdbg, hm, hall⟩ := r
      have pn' : PE (X.suite a ((a, oe) :: pn)) (.Name y p3) (L2.tC cv) := by
        rcases hm with hm | ⟨hm, hb, hn⟩
        · exact L2.pe_glob (X := X.suite a ((a, oe) :: pn)) (gl_of x h4) (by show X.mg y = _; rw [x.eM]; exact hm) ((hcv v).mpr rfl) hdbg
        · exact L2.pe_bltn (X := X.suite a ((a, oe) :: pn)) (gl_of x h4) (by show X.mg y = _; rw [x.eM]; exact hm) hb ((hcv v).mpr rfl) hn hdbg
      have hx' := hx
      rw [← x.eK] at hx'
      have zz := L2.pe_callB (p := p1) (pos := pos) (L2.call_isD (X := X) (a := a) (pn := pn) hx' hz hf) (gl_of x h2) (by show X.mg _ = none; exact bl_of x bl (by decide +kernel)) PyProof.Rows.boot_isinstance (L2.pa_cons (as_ok (p := p2) x h5) (L2.pa_cons pn' L2.pa_nil (star_cons rfl _)) (star_cons rfl _)) (by decide +kernel) (by decide +kernel) (star_cons rfl _) rfl
      refine ⟨_, L2.pt_val zz (fun _ => rfl), fun {g env S σ H fs Q} s q => ?_⟩
      obtain ⟨gs, q1, q2⟩ := s.ex
      refine ⟨.ref a, s.as i rfl, ?_⟩
      exact ⟨cv, v, isSub c y, rfl, fun u hu => (hcv u).mp hu, by show PySem.W.kitOne X.K _ _ = _; rw [x.eK]; exact (hall c hc).2, ⟨gs, q1⟩, _, rfl, q⟩
  · cases h
theorem xa_ok (x : XI X T I) (bl : BLT T) {c : Str} (hc : c ∈ cs) (hx : L2.ExcC T.K (T.ca c)) (hz : Zc (.ref (T.ca c)) (some dd) oe) (hf : ∃ vs, oe.data = .fields vs) {e : Expr} {p : Bool × Str} (h : mXA I o e p = true) (r : CatOk T cs p.2) :
    ∃ t : TT, PT (X.suite a ((a, oe) :: pn)) e t ∧ ∀ {g env S σ H fs} {Q : Bool → Hp → Prop}, SuSt T o a dd fs g env S σ H → Q (isSub c p.2 == p.1) H → t σ H Q := by
  obtain ⟨b, z⟩ := p
  cases b with
  | true =>
    obtain ⟨t, pt, k⟩ := xi_ok (pn := pn) (a := a) x bl hc hx hz hf h r
    exact ⟨t, pt, fun {g env S σ H fs Q} s q => k s (by simpa using q)⟩
  | false =>
    unfold mXA at h
    dsimp only at h
    split at h
    · obtain ⟨t, pt, k⟩ := xi_ok (pn := pn) (a := a) x bl hc hx hz hf h r
      exact ⟨_, L2.pt_not pt, fun {g env S σ H fs Q} s q => k s (by
        have e : (isSub c z == false) = !isSub c z := by cases isSub c z <;> rfl
        rw [e] at q
        exact q)⟩
    · cases h
theorem xas_ok (x : XI X T I) (bl : BLT T) {c : Str} (hc : c ∈ cs) (hx : L2.ExcC T.K (T.ca c)) (hz : Zc (.ref (T.ca c)) (some dd) oe) (hf : ∃ vs, oe.data = .fields vs) {pos : Pos} : ∀ {es : List Expr} {ps : List (Bool × Str)}, mXAs I o es ps = true → RqOk T (rqXC cs ps) →
    ∃ t : TT, L2.PW (X.suite a ((a, oe) :: pn)) (.BoolOp .Or es pos) t ∧ ∀ {g env S σ H fs} {Q : Bool → Hp → Prop}, SuSt T o a dd fs g env S σ H → Q (ps.any fun p => isSub c p.2 == p.1) H → t σ H Q
  | [], _, h, _ => by cases h
  | [e], [], h, _ => by cases h
  | [e], p :: p2 :: ps, h, _ => by cases h
  | e :: e2 :: es, [], h, _ => by cases h
  | [e], [p], h, r => by
    obtain ⟨t, pt, k⟩ := xa_ok (pn := pn) (a := a) x bl hc hx hz hf (show mXA I o e p = true from h) (r (.cat cs p.2) (by simp [rqXC]))
    exact ⟨_, L2.pw_or1 pt, fun {g env S σ H fs Q} s q => k s (by simpa using q)⟩
  | e :: e2 :: es, p :: ps, h, r => by
    have h' : (mXA I o e p && mXAs I o (e2 :: es) ps) = true := h
    obtain ⟨h1, h2⟩ := and2 h'
    obtain ⟨t, pt, k⟩ := xa_ok (pn := pn) (a := a) x bl hc hx hz hf h1 (r (.cat cs p.2) (by simp [rqXC]))
    obtain ⟨t2, pt2, k2⟩ := xas_ok x bl hc hx hz hf h2 (fun q hq => r q (List.mem_cons_of_mem _ hq))
    refine ⟨_, L2.pw_or pt pt2, fun {g env S σ H fs Q} s q => k s ?_⟩
    rw [List.any_cons] at q
    cases hb : (isSub c p.2 == p.1) with
    | true => rw [hb] at q; exact q
    | false => rw [hb] at q; exact k2 s q
theorem xc_ok (x : XI X T I) (bl : BLT T) {c : Str} (hc : c ∈ cs) (hx : L2.ExcC T.K (T.ca c)) (hz : Zc (.ref (T.ca c)) (some dd) oe) (hf : ∃ vs, oe.data = .fields vs) {e : Expr} {ps : List (Bool × Str)} (h : mXC I o e ps = true) (r : RqOk T (rqXC cs ps)) :
    ∃ t : TT, PT (X.suite a ((a, oe) :: pn)) e t ∧ ∀ {g env S σ H fs} {Q : Bool → Hp → Prop}, SuSt T o a dd fs g env S σ H → Q (ps.any fun p => isSub c p.2 == p.1) H → t σ H Q := by
  unfold mXC at h
  split at h
  · obtain ⟨t, pt, k⟩ := xas_ok (pn := pn) (a := a) x bl hc hx hz hf h r
    exact ⟨t, pt.pt, k⟩
  · split at h
    · rename_i p
      obtain ⟨t, pt, k⟩ := xa_ok (pn := pn) (a := a) x bl hc hx hz hf h (r (.cat cs p.2) (by simp [rqXC]))
      exact ⟨t, pt, fun {g env S σ H fs Q} s q => k s (by simpa using q)⟩
    · cases h
/-! ### the suite -/
def PostX (T : Tx) (B : Bd) (o : Option Nat) (a dd : Addr) (fs : List (Str × W)) (g : Gh) (σ : L2.St) (H : Hp) (r : Out) (D : Ends) : Prop := match r with
  | .nx env' S' => ∀ g' H' σ', ExtS g H g' H' → SuSt T o a dd fs g' env' S' σ' H' → Kp B.P σ σ' → D.nx σ' H'
  | r => PostS T WF B g σ H r D
end
end Wb
namespace Wb
open PySem PySem.Spec PyProof.Rows
open L2 (V Hp HO Rd upd upd_same upd_ne SqL SqT VK TE TT TA TS TG TI TO Ends WX XK R2 Cx Inv RelV Vals ne_of_none PE PT PA PS PSs PG PI OpR UnR CallR MtR Gl Vis Loc Zc)
theorem sw_noC {e : Expr} (h : noTestC e = true) (t : Option Expr) (l : Nat) (env : PySem.Env) : swapsWith e t l env = pure false := by
  cases e <;> first | rfl | exact absurd h Bool.false_ne_true
theorem fb {b : Bool} (h : (b == false) = true) : b = false := by cases b <;> first | rfl | cases h
section
variable {X : Cx} {T : Tx} {I : Inf} {B : Bd} {a dd : Addr} {oe : Obj} {cls : Value} {pn : List (Addr × Obj)} {o : Option Nat} {cs : List Str}
theorem xs1_ok (x : XI X T I) (bl : BLT T) {c : Str} (hc : c ∈ cs) (hx : L2.XfC T.K (T.ca c)) (hxe : L2.ExcC T.K (T.ca c)) (hz : Zc (.ref (T.ca c)) (some dd) oe) (hf : ∃ vs, oe.data = .fields vs) : ∀ {s : XS} {st : Stmt}, mXS I B o s st = true → RqOk T (rqXS cs s) →
    ∃ t : TS, PS (X.suite a ((a, oe) :: pn)) st t ∧ ∀ {D : Ends} {g env S σ H fs}, SuSt T o a dd fs g env S σ H → PostX T B o a dd fs g σ H (runX c fs s env S) D → t D σ H := by
  intro s
  induction s with
  | pass =>
    intro st h r
    unfold mXS at h
    split at h
    · exact ⟨_, L2.ps_pass, fun {D g env S σ H fs} s p => p g H σ ExtS.refl s Kp.refl⟩
    · cases h
  | brk =>
    intro st h r
    unfold mXS at h
    split at h
    · exact ⟨_, L2.ps_break, fun {D g env S σ H fs} s p => p g H σ ExtS.refl s.sim Kp.refl⟩
    · cases h
  | cont =>
    intro st h r
    unfold mXS at h
    split at h
    · exact ⟨_, L2.ps_continue, fun {D g env S σ H fs} s p => p g H σ ExtS.refl s.sim Kp.refl⟩
    · cases h
  | retN =>
    intro st h r
    unfold mXS at h
    split at h
    · have hB : B.fresh = false := by simpa using h
      refine ⟨_, L2.ps_retN, fun {D g env S σ H fs} s p => p .non g H σ ExtS.refl s.sim Kp.refl ?_⟩
      unfold RetR
      rw [hB, if_neg Bool.false_ne_true]
      exact repX_non
    · cases h
  | ret v =>
    intro st h r
    unfold mXS at h
    split at h
    · obtain ⟨h1, h2⟩ := and2 h
      have hB : B.fresh = false := by simpa using h1
      obtain ⟨t, pt, n, k⟩ := xv_ok (pn := pn) (a := a) x hc rfl hx hz hf h2 r
      refine ⟨_, L2.ps_ret pt, fun {D g env S σ H fs} s p => ?_⟩
      unfold runX at p
      split at p
      · rename_i w hw
        refine k s hw fun g' H' y e s' ry => p y g' H' σ e.toS s'.sim Kp.refl ?_
        unfold RetR
        rw [hB, if_neg Bool.false_ne_true]
        exact ry
      · exact p.elim
    · cases h
  | asg i v =>
    intro st h r
    unfold mXS at h
    split at h
    · rename_i y p2 e pos
      obtain ⟨h1, h⟩ := and2 h
      obtain ⟨h2, h⟩ := and2 h
      obtain ⟨h3, h4⟩ := and2 h
      unfold stB at h1
      obtain ⟨h0, h1⟩ := and2 h1
      obtain ⟨l1, l2⟩ := loc_of x h1
      obtain ⟨t, pt, n, k⟩ := xv_ok (pn := pn) (a := a) x hc rfl hx hz hf h4 r
      refine ⟨_, L2.ps_set (X := X.suite a ((a, oe) :: pn)) x.nd (by show X.N[i]? = _; rw [x.eN]; exact of_decide_eq_true h0) l1 pt (sw_noC n _ _ _) l2, fun {D g env S σ H fs} s p => ?_⟩
      unfold runX at p
      split at p
      · rename_i w hw
        refine k s hw fun g' H' y e s' ry => p g' H' _ e.toS ⟨s'.sim.put ry, s'.ex, fun j hj => ?_⟩ (Kp.refl.set (fb h2))
        subst hj
        have hne : i ≠ j := by simpa [neO] using h3
        rw [List.getElem?_set_ne hne]
        exact s'.as j rfl
      · exact p.elim
    · cases h
  | ifx ps s ih =>
    intro st h r
    unfold mXS at h
    split at h
    · obtain ⟨h1, h2⟩ := and2 h
      obtain ⟨t1, p1, k1⟩ := xc_ok (pn := pn) (a := a) x bl hc hxe hz hf h1 (RqOk.left r)
      obtain ⟨t2, p2, k2⟩ := ih h2 (RqOk.right r)
      refine ⟨_, L2.ps_if p1 (L2.pss_cons p2 L2.pss_nil) L2.pss_nil, fun {D g env S σ H fs} s p => k1 s ?_⟩
      unfold runX at p
      split at p
      · rename_i hb
        rw [if_pos hb]
        exact k2 s p
      · rename_i hb
        rw [if_neg hb]
        exact p g H σ ExtS.refl s Kp.refl
    · cases h
theorem xss_ok (x : XI X T I) (bl : BLT T) {c : Str} (hc : c ∈ cs) (hx : L2.XfC T.K (T.ca c)) (hxe : L2.ExcC T.K (T.ca c)) (hz : Zc (.ref (T.ca c)) (some dd) oe) (hf : ∃ vs, oe.data = .fields vs) : ∀ {ss : List XS} {sts : List Stmt}, mXSs I B o sts ss = true → RqOk T (rqXSs cs ss) →
    ∃ t : TS, PSs (X.suite a ((a, oe) :: pn)) sts t ∧ ∀ {D : Ends} {g env S σ H fs}, SuSt T o a dd fs g env S σ H → PostX T B o a dd fs g σ H (runXs c fs ss env S) D → t D σ H
  | [], [], _, _ => ⟨_, L2.pss_nil, fun {D g env S σ H fs} s p => p g H σ ExtS.refl s Kp.refl⟩
  | [], _ :: _, h, _ => by cases h
  | _ :: _, [], h, _ => by cases h
  | s :: ss, st :: sts, h, r => by
    have h' : (mXS I B o s st && mXSs I B o sts ss) = true := h
    obtain ⟨h1, h2⟩ := and2 h'
    obtain ⟨t1, p1, k1⟩ := xs1_ok (pn := pn) (a := a) x bl hc hx hxe hz hf h1 (RqOk.left r)
    obtain ⟨t2, p2, k2⟩ := xss_ok x bl hc hx hxe hz hf h2 (RqOk.right r)
    refine ⟨_, L2.pss_cons p1 p2, fun {D g env S σ H fs} s p => k1 s ?_⟩
    unfold runXs at p
    revert p
    cases runX c fs _ env S with
    | nx env' S' =>
      intro p g' H' σ' e s' kk
      refine k2 s' ?_
      rw [Out.then_nx] at p
      revert p
      cases runXs c fs ss env' S' with
      | nx env2 S2 => exact fun p g2 H2 σ2 e2 s2 k2 => p g2 H2 σ2 (e.trans e2) s2 (kk.trans k2)
      | brk e1 S1 => exact fun p => PostS.rest (T := T) (W' := WF) (B := B) (o := .brk e1 S1) (D := D) e kk p
      | ct e1 S1 => exact fun p => PostS.rest (T := T) (W' := WF) (B := B) (o := .ct e1 S1) (D := D) e kk p
      | ret w1 e1 S1 => exact fun p => PostS.rest (T := T) (W' := WF) (B := B) (o := .ret w1 e1 S1) (D := D) e kk p
      | exn c1 f1 e1 S1 => exact fun p => PostS.rest (T := T) (W' := WF) (B := B) (o := .exn c1 f1 e1 S1) (D := D) e kk p
      | bad => exact fun p => p
    | _ => exact fun p => p
end
/-- the clauses -/
theorem PSs_false {X : Cx} {sts : List Stmt} : PSs X sts (fun _ _ _ => False) := ⟨fun _ _ _ _ _ _ h => h.elim⟩
def tXs (T : Tx) (B : Bd) (o : Option Nat) (cs : List Str) (ss : List XS) (a : Addr) (cls : Value) (d : Option Addr) : TS := fun D σ H => ∃ c dd fs g env S, cls = .ref (T.ca c) ∧ c ∈ cs ∧ d = some dd ∧ (Sim T g H env S σ ∧ ExOk T g H dd fs ∧ ∀ i, o = some i → i < σ.length → σ[i]? = some (some (.ref a))) ∧ PostX T B o a dd fs g σ H (runXs c fs ss env S) D
theorem su_ok {X : Cx} {T : Tx} {I : Inf} {B : Bd} {o : Option Nat} {cs : List Str} (x : XI X T I) (bl : BLT T) (hcl : ∀ c ∈ cs, L2.XfC T.K (T.ca c) ∧ L2.ExcC T.K (T.ca c)) {ss : List XS} {sts : List Stmt} (h : mXSs I B o sts ss = true) (r : RqOk T (rqXSs cs ss)) (a : Addr) (oe : Obj) (cls : Value) (d : Option Addr) (pn : List (Addr × Obj)) (hz : Zc cls d oe) (hf : ∃ vs, oe.data = .fields vs) (hN : ∀ i, o = some i → i < X.N.length) :
    PSs (X.suite a ((a, oe) :: pn)) sts (tXs T B o cs ss a cls d) := by
  refine ⟨fun pins s σ H D I h => ?_⟩
  obtain ⟨c, dd, fs, g, env, S, e1, hc, e2, ⟨st1, st2, st3⟩, p⟩ := h
  have st : SuSt T o a dd fs g env S σ H := ⟨st1, st2, fun i hi => st3 i hi (by rw [I.len]; exact hN i hi)⟩
  subst e1
  subst e2
  obtain ⟨t, pt, k⟩ := xss_ok (pn := pn) (a := a) x bl hc (hcl c hc).1 (hcl c hc).2 hz hf ‹mXSs _ B o sts ss = true› r
  exact pt.run pins s σ H D I (k st p)
/-! ### try -/
def mH (I : Inf) (B : Bd) : ExceptHandler → Hnd → Bool
  | .ExceptHandler (some (.Name y _)) nm suite _, h => decide (y = h.cls) && (glB I y && ((match nm, h.as with
      | none, none => true
      | some n, some i => decide (I.N[i]? = some n) && (decide (I.sc.names.lookup n = some .local) && (B.P i == false))
      | _, _ => false) && (!suite.isEmpty && mXSs I B h.as suite h.suite)))
  | _, _ => false
def mHs (I : Inf) (B : Bd) : List ExceptHandler → List Hnd → Bool
  | [], [] => true
  | e :: es, h :: hs => mH I B e h && mHs I B es hs
  | _, _ => false
def rqH (cs : List Str) : List Hnd → List Rq
  | [] => []
  | h :: r => .cat cs h.cls :: (rqXSs cs h.suite ++ rqH cs r)
section
variable {T : Tx} {g : Gh} {env : Env} {S : Store} {σ : L2.St} {H : Hp}
theorem Sim.wipe1 (s : Sim T g H env S σ) (i : Nat) (v : Option V) : Sim T g H (env.set i none) S (σ.set i v) := by
  refine ⟨s.wf, by rw [List.length_set, List.length_set]; exact s.len, fun j fl w h => ?_, s.cells⟩
  unfold Env.at at h
  by_cases e : i = j
  · subst e
    by_cases hi : i < env.length
    · rw [List.getElem?_set_self hi] at h; cases h
    · rw [List.getElem?_eq_none (by simpa using hi)] at h; cases h
  · rw [List.getElem?_set_ne e] at h
    exact slot_ne (s.slots j fl w h) (Ne.symm e)
theorem Sim.wipeA (s : Sim T g H env S σ) (o : Option Nat) (a : Addr) : Sim T g H (wipeO o env) S (L2.sAs o a σ) := by
  cases o with
  | none => exact s
  | some i => exact s.wipe1 i _
end
theorem hds_ok {X : Cx} {T : Tx} {I : Inf} {B : Bd} {W' : WX} {cs : List Str} (x : XI X T I) (bl : BLT T) (hcl : ∀ c ∈ cs, L2.XfC T.K (T.ca c) ∧ L2.ExcC T.K (T.ca c)) : ∀ {es : List ExceptHandler} {hs : List Hnd}, mHs I B es hs = true → RqOk T (rqH cs hs) →
    ∃ l, L2.HdsA X es l ∧ ∀ {c fs d D g env S σ H}, c ∈ cs → Sim T g H env S σ → ExOk T g H d fs → PostS T W' B g σ H (hGo c fs hs env S) D → L2.wAll X.K W' D l (.ref (T.ca c)) (some d) σ H
  | [], [], _, _ => ⟨[], .nil, fun {c fs d D g env S σ H} hc s ex p => p d g H σ ExtS.refl s Kp.refl ex⟩
  | [], _ :: _, h, _ => by cases h
  | _ :: _, [], h, _ => by cases h
  | e :: es, h :: hs, hm, r => by
    have h' : (mH I B e h && mHs I B es hs) = true := hm
    obtain ⟨h1, h2⟩ := and2 h'
    obtain ⟨l, hl, kl⟩ := hds_ok (W' := W') x bl hcl h2 (fun q hq => r q (by simp [rqH, hq]))
    unfold mH at h1
    split at h1
    · rename_i y np nm suite pos
      obtain ⟨k1, h1⟩ := and2 h1
      obtain ⟨k2, h1⟩ := and2 h1
      obtain ⟨k3, h1⟩ := and2 h1
      obtain ⟨k4, k5⟩ := and2 h1
      have e1 := of_decide_eq_true k1
      subst e1
      obtain ⟨cv, v, hcv, hdbg, hmg, hall⟩ := r (.cat cs h.cls) (by simp [rqH])
      have hc : L2.Names X h.cls v := ⟨gl_of x k2, hdbg, by rw [x.eM]; exact hmg⟩
      have su := fun hN a oe cls d pn hz hf => su_ok (X := X) x bl hcl k5 (fun q hq => r q (by simp [rqH, hq])) a oe cls d pn hz hf hN
      have go : ∀ {c fs d D g env S σ H}, (∀ i, h.as = some i → B.P i = false) → c ∈ cs → Sim T g H env S σ → ExOk T g H d fs → PostS T W' B g σ H (hGo c fs (h :: hs) env S) D → L2.wAll X.K W' D ((v, h.as, tXs T B h.as cs h.suite) :: l) (.ref (T.ca c)) (some d) σ H := by
        intro c fs d D g env S σ H hP hc s ex p
        refine ⟨isSub c h.cls, by rw [x.eK]; exact (hall c hc).1, fun hb a ha => ?_, fun hb => ?_⟩
        · unfold hGo at p
          rw [if_pos hb] at p
          refine ⟨c, d, fs, g, wipeO h.as env, S, rfl, hc, rfl, ⟨s.wipeA h.as a, ex, fun i hi hlt => ?_⟩, ?_⟩
          · rw [hi]
            rw [hi] at hlt
            exact List.getElem?_set_self (by simpa [L2.sAs] using hlt)
          have kp : ∀ {σ'}, Kp B.P (L2.sAs h.as a σ) σ' → Kp B.P σ (match h.as with | none => σ' | some i => σ'.set i none) := by
            intro σ' kk
            cases ho : h.as with
            | none => rw [ho] at kk; exact kk
            | some i =>
              rw [ho] at kk
              have hi := hP i ho
              exact ((Kp.refl.set hi).trans kk).set hi
          revert p
          cases runXs c fs h.suite (wipeO h.as env) S with
          | bad => exact fun p => p
          | exn _ _ _ _ => exact fun p => p.elim
          | nx env' S' =>
            intro p g' H' σ' e' s' kk
            have p' := p g' H' _ e' (by
              cases ho : h.as with
              | none => exact s'.sim
              | some i => exact s'.sim.wipe1 i none) (kp kk)
            revert p'
            cases h.as <;> exact fun q => q
          | brk env' S' =>
            intro p g' H' σ' e' s' kk
            have p' := p g' H' _ e' (by
              cases ho : h.as with
              | none => exact s'
              | some i => exact s'.wipe1 i none) (kp kk)
            revert p'
            cases h.as <;> exact fun q => q
          | ct env' S' =>
            intro p g' H' σ' e' s' kk
            have p' := p g' H' _ e' (by
              cases ho : h.as with
              | none => exact s'
              | some i => exact s'.wipe1 i none) (kp kk)
            revert p'
            cases h.as <;> exact fun q => q
          | ret w env' S' =>
            intro p y g' H' σ' e' s' kk rr
            have p' := p y g' H' _ e' (by
              cases ho : h.as with
              | none => exact s'
              | some i => exact s'.wipe1 i none) (kp kk) rr
            revert p'
            cases h.as <;> exact fun q => q
        · unfold hGo at p
          rw [if_neg (by rw [hb]; exact Bool.false_ne_true)] at p
          exact kl hc s ex p
      cases suite with
      | nil => cases k4
      | cons b0 suite =>
        cases nm with
        | none =>
          cases ho : h.as with
          | some _ => rw [ho] at k3; cases k3
          | none =>
            refine ⟨(v, h.as, tXs T B h.as cs h.suite) :: l, ?_, fun {c fs d D g env S σ H} hc s ex p => go (fun i hi => by rw [ho] at hi; cases hi) hc s ex p⟩
            rw [ho]
            rw [ho] at su
            exact .no hc (su fun i hi => by cases hi) hl
        | some n =>
          cases ho : h.as with
          | none => rw [ho] at k3; cases k3
          | some i =>
            rw [ho] at k3
            obtain ⟨q1, q2⟩ := and2 k3
            obtain ⟨q2, q3⟩ := and2 q2
            have q1 := of_decide_eq_true q1
            refine ⟨(v, h.as, tXs T B h.as cs h.suite) :: l, ?_, fun {c fs d D g env S σ H} hc s ex p => go (fun j hj => ?_) hc s ex p⟩
            · rw [ho]
              rw [ho] at su
              exact .as (by rw [x.eN]; exact q1) (by show X.env.scope.names.lookup n = _; rw [x.eS]; exact of_decide_eq_true q2) hc (su fun j hj => by cases hj; rw [x.eN]; exact (List.getElem?_eq_some_iff.mp q1).1) hl
            · rw [ho] at hj
              cases hj
              exact fb q3
    · cases h1
theorem ss_try {X : Cx} {T : Tx} {I : Inf} {B : Bd} {W' : WX} {cs : List Str} (x : XI X T I) (tk : L2.Takes X W') (bl : BLT T) (hs : X.stack = X.env :: X.outer) (hf : X.env.frame = some X.env.locals) {body : List Stmt} {body' : List Wb.S} {es : List ExceptHandler} {hds : List Hnd} {pos : Pos}
    (hb : ∀ (W : WX) (pn : List (Addr × Obj)) (xe : Value → Shared → Prop), L2.Takes (X.tr pn xe) W → PassesOwn (model X.prog X.w) X.A X.env xe → PSs (X.tr pn xe) body (tSs T W B body'))
    (hcl : ∀ c ∈ cs, L2.XfC T.K (T.ca c) ∧ L2.ExcC T.K (T.ca c)) (he : es ≠ []) (hm : mHs I B es hds = true) (r : RqOk T (rqH cs hds)) : PS X (.Try body es [] [] pos) (tS T W' B (.try_ cs body' hds)) := by
  obtain ⟨l, hl, kl⟩ := hds_ok (W' := W') x bl hcl hm r
  cases es with
  | nil => exact absurd rfl he
  | cons h0 es =>
    refine ps_imp (L2.ps_try_all hs hf x.nd tk hb hl) fun D σ H ⟨g, env, S, s, p⟩ => ?_
    unfold exec at p
    refine ⟨g, env, S, s, ?_⟩
    revert p
    cases execs body' env S with
    | bad => exact fun p => p
    | nx e1 S1 => exact fun p => p
    | brk e1 S1 => exact fun p => p
    | ct e1 S1 => exact fun p => p
    | ret w1 e1 S1 => exact fun p => p
    | exn c fs e1 S1 =>
      intro p d g' H' σ' e' s' kk ex
      dsimp only at p
      split at p
      · rename_i hc
        exact kl hc s' ex (PostS.rest e' kk p)
      · exact p.elim
end Wb
namespace Wb
open PySem PySem.Spec PyProof.Rows
open L2 (V Hp HO Rd upd upd_same upd_ne SqL SqT VK TE TT TA TS TG TI TO Ends WX XK R2 Cx Inv RelV Vals ne_of_none PE PT PA PS PSs PG PI OpR UnR CallR MtR Gl Vis Loc)
theorem PJ_ne {X : Cx} {T : Tx} {W' : WX} {es : List Expr} {es' : List E} (h : PJ X T W' es es') : es.length = es'.length := by
  induction h with
  | nil => rfl
  | cons _ _ ih => rw [List.length_cons, List.length_cons, ih]
theorem rq_nil {T : Tx} : RqOk T [] := fun r h => by cases h
section
variable {n : Nat} (s : Snd n) {X : Cx} {T : Tx} {I : Inf} {W' : WX} (x : XI X T I) (tk : L2.Takes X W') (bl : BLT T)
include s x tk bl
theorem snd_e : ∀ (e : Expr) (ir : E) (c : Ctx), mE (n + 1) I e ir = true → RqOk T (rqE ir) → PE X e (tE T W' c ir) := by
  intro e ir c h r
  cases ir with
  | var i =>
    unfold mE at h
    split at h
    · rename_i y p
      unfold varB at h
      obtain ⟨h, h3⟩ := and2 h
      obtain ⟨h1, h2⟩ := and2 h
      exact se_var (by rw [x.eN]; exact of_decide_eq_true h1) (vis_of x h2) (nm_of h3).1 (nm_of h3).2
    · cases h
  | glob y w =>
    unfold mE at h
    split at h
    · rename_i z p
      obtain ⟨h, h3⟩ := and2 h
      obtain ⟨h1, h2⟩ := and2 h
      have e := of_decide_eq_true h1
      subst e
      obtain ⟨u, v, hm, rv, st⟩ := r (.glob z w) (by simp [rqE])
      exact se_const (L2.pe_glob (gl_of x h2) (by rw [x.eM]; exact hm) rv (nm_of h3).1) st (fun _ _ _ => by unfold ev; rfl)
    · cases h
  | cst w =>
    unfold mE at h
    split at h
    · obtain ⟨v, h1, h2⟩ := cst_ok (T := T) h
      exact se_const h1 h2 (fun _ _ _ => by unfold ev; rfl)
    · cases h
  | bin o a b =>
    unfold mE at h
    split at h
    · obtain ⟨h1, h⟩ := and2 h
      obtain ⟨h2, h3⟩ := and2 h
      have e := of_decide_eq_true h1
      subst e
      exact se_bin (s.e x tk bl _ a _ h2 r.left) (s.e x tk bl _ b _ h3 r.right)
    · cases h
  | neg a =>
    unfold mE at h
    split at h
    · exact se_neg (s.e x tk bl _ a _ h r)
    · cases h
  | not a =>
    unfold mE at h
    split at h
    · exact se_not x.toXG (s.e x tk bl _ a _ h r)
    · cases h
  | cmp o a b =>
    unfold mE at h
    split at h
    · obtain ⟨h1, h⟩ := and2 h
      obtain ⟨h0, h⟩ := and2 h
      obtain ⟨h2, h3⟩ := and2 h
      have e := of_decide_eq_true h1
      subst e
      exact se_cmp x.toXG (s.e x tk bl _ a _ h2 r.left) (s.e x tk bl _ b _ h3 r.right) h0
    · cases h
  | chain o1 o2 a b d =>
    unfold mE at h
    split at h
    · obtain ⟨h1, h⟩ := and2 h
      obtain ⟨h1', h⟩ := and2 h
      obtain ⟨h0, h⟩ := and2 h
      obtain ⟨h2, h⟩ := and2 h
      obtain ⟨h3, h4⟩ := and2 h
      have e := of_decide_eq_true h1
      have e' := of_decide_eq_true h1'
      subst e
      subst e'
      exact se_chain x.toXG (s.e x tk bl _ a _ h2 r.left.left) (s.e x tk bl _ b _ h3 r.left.right) (s.e x tk bl _ d _ h4 r.right) h0
    · cases h
  | and a b =>
    unfold mE at h
    split at h
    · rename_i u v rest p
      obtain ⟨h1, h2⟩ := and2 h
      refine se_and (s.e x tk bl _ a _ h1 r.left) ?_
      cases rest with
      | nil => exact L2.pe_one (s.e x tk bl _ b c h2 r.right)
      | cons _ _ => exact s.e x tk bl _ b c h2 r.right
    · cases h
  | or a b =>
    unfold mE at h
    split at h
    · rename_i u v rest p
      obtain ⟨h1, h2⟩ := and2 h
      refine se_or (s.e x tk bl _ a _ h1 r.left) ?_
      cases rest with
      | nil => exact L2.pe_one (s.e x tk bl _ b c h2 r.right)
      | cons _ _ => exact s.e x tk bl _ b c h2 r.right
    · cases h
  | ite t a b =>
    unfold mE at h
    split at h
    · obtain ⟨h1, h⟩ := and2 h
      obtain ⟨h2, h3⟩ := and2 h
      exact se_ite (s.t x tk bl _ t h1 r.left.left) (s.e x tk bl _ a c h2 r.left.right) (s.e x tk bl _ b c h3 r.right)
    · cases h
  | tup es =>
    unfold mE at h
    split at h
    · exact se_tup (s.es x tk bl _ es h r).1
    · cases h
  | lst es =>
    unfold mE at h
    split at h
    · exact se_lst (s.es x tk bl _ es h r).1
    · cases h
  | dct es =>
    unfold mE at h
    split at h
    · exact se_dnew
    · cases h
  | lc tg' k ss cs elt own =>
    unfold mE at h
    split at h
    · rename_i elt0 tg iter ifs scope p
      obtain ⟨h1, h⟩ := and2 h
      obtain ⟨h2, h⟩ := and2 h
      obtain ⟨h3, h⟩ := and2 h
      obtain ⟨h4, h⟩ := and2 h
      obtain ⟨h5, h⟩ := and2 h
      obtain ⟨h6, h7⟩ := and2 h
      have ok : L2.BlkOk X.N X.env.scope scope own := by
        rw [x.eN, x.eS]
        exact L2.blkOk_by h1
      refine se_lc x.toXG (s.i x tk bl tg iter k ss h5 r.left.left) ok (fun j hj => ?_) (fun st H C cl fp => tg_ok (xi_blk x) h3) (fun st H C cl fp => s.c (xi_blk x) (takes_false _) bl ifs cs h6 r.left.right) (fun st H C cl fp => s.e (xi_blk x) (takes_false _) bl elt0 elt .V h7 r.right) (fold_ok h4 _)
      have := List.all_eq_true.mp h2 j hj
      simpa using this
    · cases h
  | dc tg' k ss cs ke ve own =>
    unfold mE at h
    split at h
    · rename_i ke0 ve0 tg iter ifs scope p
      obtain ⟨h1, h⟩ := and2 h
      obtain ⟨h2, h⟩ := and2 h
      obtain ⟨h3, h⟩ := and2 h
      obtain ⟨h4, h⟩ := and2 h
      obtain ⟨h5, h⟩ := and2 h
      obtain ⟨h6, h⟩ := and2 h
      obtain ⟨h7, h8⟩ := and2 h
      have ok : L2.BlkOk X.N X.env.scope scope own := by
        rw [x.eN, x.eS]
        exact L2.blkOk_by h1
      refine se_dc x.toXG (s.i x tk bl tg iter k ss h5 r.left.left.left) ok (fun j hj => ?_) (fun st H C cl fp => tg_ok (xi_blk x) h3) (fun st H C cl fp => s.c (xi_blk x) (takes_false _) bl ifs cs h6 r.left.left.right) (fun st H C cl fp => s.e (xi_blk x) (takes_false _) bl ke0 ke .V h7 r.left.right) (fun st H C cl fp => s.e (xi_blk x) (takes_false _) bl ve0 ve .V h8 r.right) (fold_ok h4 _)
      have := List.all_eq_true.mp h2 j hj
      simpa using this
    · cases h
  | fstr es =>
    unfold mE at h
    split at h
    · rename_i v0 es0 p
      have z := s.j x tk bl (v0 :: es0) es h r
      cases z with
      | cons z1 z2 =>
        cases z2 with
        | nil => exact se_fstr1 z1
        | cons z2 z3 => exact se_fstr (.cons z1 (.cons z2 z3))
    · cases h
  | fmt a =>
    unfold mE at h
    split at h
    · exact se_fmt (s.e x tk bl _ a _ h r)
    · cases h
  | fmtw k a =>
    unfold mE at h
    split at h
    · obtain ⟨h1, h⟩ := and2 h
      obtain ⟨h2, h3⟩ := and2 h
      exact se_fmtw (of_decide_eq_true h1) (of_decide_eq_true h2) (s.e x tk bl _ a _ h3 r)
    · cases h
  | sub a b =>
    unfold mE at h
    split at h
    · obtain ⟨h0, h⟩ := and2 h
      obtain ⟨h2, h3⟩ := and2 h
      exact se_sub x.toXG (s.e x tk bl _ a _ h2 r.left) (s.e x tk bl _ b _ h3 r.right) h0
    · cases h
  | slice a lo hi =>
    unfold mE at h
    split at h
    · obtain ⟨h1, h⟩ := and2 h
      obtain ⟨h2, h3⟩ := and2 h
      exact se_slice x.toXG (s.e x tk bl _ a _ h1 r.left.left) (s.o x tk bl _ lo h2 r.left.right) (s.o x tk bl _ hi h3 r.right)
    · cases h
  | rev a =>
    unfold mE at h
    split at h
    · exact se_rev x.toXG (s.e x tk bl _ a _ h r)
    · cases h
  | attr _ _ => unfold mE at h; cases h
  | call f es' k =>
    unfold mE at h
    split at h
    · rename_i y p es pos
      obtain ⟨h1, h⟩ := and2 h
      obtain ⟨h2, h⟩ := and2 h
      obtain ⟨h3, h⟩ := and2 h
      obtain ⟨h4, h⟩ := and2 h
      obtain ⟨h5, h⟩ := and2 h
      obtain ⟨h6, h7⟩ := and2 h
      cases hc : f.cls with
      | some _ => rw [hc] at h7; cases h7
      | none =>
        rw [hc] at h7
        have h7 : mEs n I es es' = true := h7
        have e := of_decide_eq_true h1
        subst e
        obtain ⟨a, fd, ps, hm, F⟩ := r (.fn f) (by simp [rqE])
        obtain ⟨i1, i2⟩ := s.es x tk bl es es' h7 (fun q hq => r q (by simp [rqE, hq]))
        have hl := of_decide_eq_true h6
        have hg := gl_of x h3
        cases es with
        | nil =>
          cases es' with
          | nil => exact se_call0 x.toXG tk F x.room (of_decide_eq_true h4) hg hm (nm_of h2).1 (of_decide_eq_true h5) (by simpa using hl)
          | cons _ _ => cases n <;> (unfold mEs at h7; cases h7)
        | cons e0 es =>
          have ia : (okx e0 && okxs es) = true := i2
          exact se_call x.toXG tk F x.room (of_decide_eq_true h4) hg hm (nm_of h2).1 i1 (and2 ia).1 (and2 ia).2 (of_decide_eq_true h5) hl
    · cases h
  | meth _ _ _ _ => unfold mE at h; cases h
  | mk _ _ _ => unfold mE at h; cases h
  | mkF _ _ _ => unfold mE at h; cases h
  | bcall b es' =>
    unfold mE at h
    split at h
    · rename_i y p es pos
      obtain ⟨h1, h⟩ := and2 h
      obtain ⟨h2, h7⟩ := and2 h
      have e := of_decide_eq_true h1
      subst e
      have hg := gl_of x h2
      have hm := bl_of x bl (nB_mem b)
      match es, es', h7, r with
      | [a], [a'], h7, r =>
        obtain ⟨h3, h4⟩ := and2 h7
        exact se_bi1 x.toXG hg hm (s.e x tk bl a a' .B h4 r.left) h3
      | [a1, a2], [a1', a2'], h7, r =>
        obtain ⟨i1, i2⟩ := s.es x tk bl [a1, a2] [a1', a2'] h7 r
        have ia : (okx a1 && (okx a2 && okxs [])) = true := i2
        exact se_bi2 x.toXG hg hm i1 (and2 ia).1 (and2 (and2 ia).2).1
      | [], _, h7, _ => cases h7
      | [_], [], h7, _ => cases h7
      | [_], _ :: _ :: _, h7, _ => cases h7
      | [_, _], [], h7, _ => cases h7
      | [_, _], [_], h7, _ => cases h7
      | [_, _], _ :: _ :: _ :: _, h7, _ => cases h7
      | _ :: _ :: _ :: _, _, h7, _ => cases h7
    · cases h
  | bmeth b o' es' =>
    unfold mE at h
    split at h
    · rename_i o m ap es p
      obtain ⟨h1, h⟩ := and2 h
      obtain ⟨h2, h⟩ := and2 h
      obtain ⟨h3, h⟩ := and2 h
      split at h
      · obtain ⟨h4, h⟩ := and2 h
        obtain ⟨h5, h6⟩ := and2 h
        have e := of_decide_eq_true h4
        subst e
        exact se_get1 x.toXG (s.e x tk bl _ _ _ h3 r.left) (s.e x tk bl _ _ _ h6 r.right.left) h1 h5 h2
      · obtain ⟨h4, h⟩ := and2 h
        obtain ⟨h5, h⟩ := and2 h
        obtain ⟨h5', h⟩ := and2 h
        obtain ⟨h6, h7⟩ := and2 h
        have e := of_decide_eq_true h4
        subst e
        exact se_get2 x.toXG (s.e x tk bl _ _ _ h3 r.left) (s.e x tk bl _ _ _ h6 r.right.left) (s.e x tk bl _ _ _ h7 r.right.right.left) h1 h5 h5' h2
      · obtain ⟨h4, h⟩ := and2 h
        obtain ⟨h5, h6⟩ := and2 h
        have e := of_decide_eq_true h4
        subst e
        exact se_join x.toXG (s.e x tk bl _ _ _ h3 r.left) (s.e x tk bl _ _ _ h6 r.right.left) h1 h5 h2
      · obtain ⟨h4, h⟩ := and2 h
        obtain ⟨h5, h6⟩ := and2 h
        have e := of_decide_eq_true h4
        subst e
        exact se_split x.toXG (s.e x tk bl _ _ _ h3 r.left) (s.e x tk bl _ _ _ h6 r.right.left) h1 h5 h2
      · cases h
    · cases h
  | isi a t =>
    unfold mE at h
    split at h
    · rename_i y p a0 z p2 pos
      obtain ⟨h1, h⟩ := and2 h
      obtain ⟨h2, h⟩ := and2 h
      obtain ⟨h3, h⟩ := and2 h
      obtain ⟨h4, h⟩ := and2 h
      obtain ⟨h5, h6⟩ := and2 h
      have e := of_decide_eq_true h1
      have e' := of_decide_eq_true h3
      subst e
      subst e'
      exact se_isi x.toXG (gl_of x h2) (bl_of x bl (by decide +kernel)) (gl_of x h4) (bl_of x bl (tyNs_mem t)) (s.e x tk bl _ _ _ h6 r) h5
    · cases h
  | tru _ => unfold mE at h; cases h
theorem snd_t : ∀ (e : Expr) (ir : E), mT (n + 1) I e ir = true → RqOk T (rqE ir) → PT X e (tT T W' ir) := by
  intro e ir h r
  cases e with
  | UnaryOp op a p =>
    cases op with
    | Not =>
      cases ir with
      | not a' => exact st_not (s.t x tk bl a a' h r)
      | _ => cases h
    | _ => cases h
  | BoolOp op es p =>
    cases op with
    | And =>
      cases es with
      | nil => cases h
      | cons a es =>
        cases es with
        | nil => cases h
        | cons b rest =>
          cases ir with
          | and a' b' =>
            obtain ⟨h1, h2⟩ := and2 h
            have ia := s.t x tk bl a a' h1 r.left
            cases rest with
            | nil => exact (sw_and ia (sw_one (s.t x tk bl b b' h2 r.right) .And)).pt
            | cons d rest =>
              have key : L2.PW X (.BoolOp .And (b :: d :: rest) p) (tT T W' b') := by
                have z := s.t x tk bl (.BoolOp .And (b :: d :: rest) p) b' h2 r.right
                exact ⟨fun wh pins s0 σ H Q I q => z.run pins s0 σ H Q I q⟩
              exact (sw_and ia key).pt
          | _ => cases h
    | Or =>
      cases es with
      | nil => cases h
      | cons a es =>
        cases es with
        | nil => cases h
        | cons b rest =>
          cases ir with
          | or a' b' =>
            obtain ⟨h1, h2⟩ := and2 h
            have ia := s.t x tk bl a a' h1 r.left
            cases rest with
            | nil => exact (sw_or ia (sw_one (s.t x tk bl b b' h2 r.right) .Or)).pt
            | cons d rest =>
              have key : L2.PW X (.BoolOp .Or (b :: d :: rest) p) (tT T W' b') := by
                have z := s.t x tk bl (.BoolOp .Or (b :: d :: rest) p) b' h2 r.right
                exact ⟨fun wh pins s0 σ H Q I q => z.run pins s0 σ H Q I q⟩
              exact (sw_or ia key).pt
          | _ => cases h
  | IfExp _ _ _ _ => cases h
  | Compare a ops bs p =>
    cases ops with
    | nil => cases h
    | cons op ops =>
      cases ops with
      | cons op2 ops =>
        cases ops with
        | cons _ _ => cases h
        | nil =>
          cases bs with
          | nil => cases h
          | cons b bs =>
            cases bs with
            | nil => cases h
            | cons d bs =>
              cases bs with
              | cons _ _ => cases h
              | nil =>
                cases ir with
                | chain o1 o2 a' b' d' =>
                  obtain ⟨h1, h⟩ := and2 h
                  obtain ⟨h1', h⟩ := and2 h
                  obtain ⟨h0, h⟩ := and2 h
                  obtain ⟨h2, h⟩ := and2 h
                  obtain ⟨h3, h4⟩ := and2 h
                  have e := of_decide_eq_true h1
                  have e' := of_decide_eq_true h1'
                  subst e
                  subst e'
                  exact st_chain x.toXG (s.e x tk bl _ a' _ h2 r.left.left) (s.e x tk bl _ b' _ h3 r.left.right) (s.e x tk bl _ d' _ h4 r.right) h0
                | _ => cases h
      | nil =>
        cases bs with
        | nil => cases h
        | cons b bs =>
          cases bs with
          | cons _ _ => cases h
          | nil =>
            cases ir with
            | cmp o a' b' =>
              obtain ⟨h1, h⟩ := and2 h
              obtain ⟨h0, h⟩ := and2 h
              obtain ⟨h2, h3⟩ := and2 h
              have e := of_decide_eq_true h1
              subst e
              exact st_cmp x.toXG (s.e x tk bl _ a' _ h2 r.left) (s.e x tk bl _ b' _ h3 r.right) h0
            | _ => cases h
  | _ =>
    cases ir with
    | tru a' => exact st_tru (st_val x.toXG (s.e x tk bl _ a' .B h r) (fun _ => rfl))
    | _ => exact st_val x.toXG (s.e x tk bl _ _ .B h r) (fun _ => rfl)
end
theorem snd_c {n : Nat} (s : Snd n) {X : Cx} {T : Tx} {I : Inf} (x : XI X T I) (tk : L2.Takes X WF) (bl : BLT T) : ∀ (es : List Expr) (ir : List E), mC (n + 1) I es ir = true → RqOk T (rqEs ir) → L2.PTs X es (tC T ir) := by
  intro es ir h r
  match es, ir, h, r with
  | [], [], _, _ => exact sc_nil
  | [e], [e'], h, r => exact sc_one (s.t x tk bl e e' h r.left)
  | [], _ :: _, h, _ => cases h
  | [_], [], h, _ => cases h
  | [_], _ :: _ :: _, h, _ => cases h
  | _ :: _ :: _, _, h, _ => cases h
theorem snd : ∀ n, Snd n
  | 0 => snd0
  | n + 1 =>
    have s := snd n
    ⟨fun x tk bl => snd_e s x tk bl, fun x tk bl => snd_t s x tk bl, fun x tk bl => snd_es s x tk bl, fun x tk bl => snd_j s x tk bl, fun x tk bl => snd_o s x tk bl, fun x tk bl => snd_c s x tk bl, fun x tk bl => snd_i s x tk bl⟩
end Wb
namespace Wb
open PySem PySem.Spec PyProof.Rows
open L2 (V Hp HO Rd upd upd_same upd_ne SqL SqT VK TE TT TA TS TG TI TO Ends WX XK R2 Cx Inv RelV Vals ne_of_none PE PT PA PS PSs PG PI OpR UnR CallR MtR Gl Vis Loc)
/-- is a comprehension's list handed to the name without resting? -/
def swB (I : Inf) (x : Str) (p2 : Pos) : Expr → Option Bool
  | .ListComp _ _ s p => some (match I.sc.kind with
    | .function => (match I.sc.names.lookup x with | some .local => true | _ => false) && (p2.line == p.line) && !(s.names.any fun (n, k) => n == x && (k == .local || k == .cell))
    | _ => false)
  | .SetComp _ _ _ _ => none
  | .DictComp _ _ _ _ _ => none
  | _ => some false
def noComp : Expr → Bool
  | .ListComp _ _ _ _ => false
  | .SetComp _ _ _ _ => false
  | .DictComp _ _ _ _ _ => false
  | _ => true
theorem sw_none {e : Expr} (h : noComp e = true) (t : Option Expr) (l : Nat) (env : PySem.Env) : swapsWith e t l env = pure false := by
  cases e <;> first | rfl | exact absurd h Bool.false_ne_true
theorem sw_sub {e : Expr} {o i : Expr} {p : Pos} (l : Nat) (env : PySem.Env) : swapsWith e (some (.Subscript o i p)) l env = pure false := by
  cases e <;> rfl
theorem sw_attr {e : Expr} {o : Expr} {f : Str} {p : Pos} (l : Nat) (env : PySem.Env) : swapsWith e (some (.Attribute o f p)) l env = pure false := by
  cases e <;> rfl
def noTup : Expr → Bool
  | .Tuple _ _ _ => false
  | _ => true
theorem swp_none {e : Expr} (h : noTup e = true) (ts : List Expr) (env : PySem.Env) : swappedStores ts e env = pure none := by
  cases e <;> first | (cases h; done) | skip
  all_goals (unfold swappedStores; split <;> first | rfl | (rename_i h0; split at h0 <;> first | (rename_i h1; cases h1; done) | (cases h0; done)))
theorem swB_false {X : Cx} {T : Tx} {I : Inf} (x : XI X T I) (hk : I.sc.kind = .function) {y : Str} {p2 : Pos} {e : Expr} {l : Nat} (h : swB I y p2 e = some false) : swapsWith e (some (.Name y p2)) l X.env = pure false := by
  cases e <;> first | rfl | (cases h; done) | skip
  rename_i elt gs s p
  have hb : X.env.blockKind = .function := by unfold PySem.Env.blockKind; rw [x.eS, hk]; rfl
  have hf : (X.env.blockKind == .function && X.env.kindOf y == some .local && p2.line == p.line && !(s.names.any fun (n, k) => n == y && (k == .local || k == .cell))) = false := by
    have h' := Option.some.inj h
    rw [hk] at h'
    dsimp only at h'
    have hl : (X.env.kindOf y == some NameKind.local) = (match I.sc.names.lookup y with | some .local => true | _ => false) := by
      show (X.env.scope.names.lookup y == some NameKind.local) = _
      rw [x.eS]
      cases I.sc.names.lookup y with
      | none => rfl
      | some k => cases k <;> rfl
    rw [hb, hl]
    exact h'
  exact congrArg (pure (f := Sem)) hf
section
variable {X : Cx} {T : Tx} {I : Inf} {W' : WX} {B : Bd} {pos p2 : Pos}
theorem sw_yes (x : XI X T I) {elt : Expr} {gs : List Comprehension} {s : Scope} {p : Pos} {y : Str} {l : Nat} (h : swB I y p2 (.ListComp elt gs s p) = some true) : swapsWith (.ListComp elt gs s p) (some (.Name y p2)) l X.env = pure true ∧ X.env.scope.names.lookup y = some .local := by
  have h' := Option.some.inj h
  split at h'
  · rename_i hk
    obtain ⟨h1, h2⟩ := and2 h'
    obtain ⟨h3, h4⟩ := and2 h1
    have hy : X.env.scope.names.lookup y = some .local := by
      rw [x.eS]
      split at h3
      · assumption
      · cases h3
    refine ⟨L2.sw_true (by rw [x.eS]; exact hk) hy h4 ?_, hy⟩
    rw [Bool.not_eq_true'] at h2
    exact h2
  · cases h'
theorem ss_asgLc (x : XI X T I) {elt tgE iter : Expr} {ifs : List Expr} {scope : Scope} {own : List (Str × Nat)} {tg : Tg} {k : Src} {srcs conds : List E} {elt' : E} {py cp : Pos} {i : Nat} {y : Str} {st : Wb.S} {c : Ctx} (hi : PI X tgE iter (tI T W' k srcs)) (ok : L2.BlkOk X.N X.env.scope scope own) (sub : ∀ j ∈ tg.ixs, j ∈ own.map (·.2))
    (hg : ∀ (s : Shared) (H : Hp) (C : Addr) (cl : List (Str × Addr)) (fp : List Addr), PG (X.blk s H scope (compEnvC scope cl C X.env) fp) tgE (gOf T.K tg))
    (ht : ∀ (s : Shared) (H : Hp) (C : Addr) (cl : List (Str × Addr)) (fp : List Addr), L2.PTs (X.blk s H scope (compEnvC scope cl C X.env) fp) ifs (tC T conds))
    (he : ∀ (s : Shared) (H : Hp) (C : Addr) (cl : List (Str × Addr)) (fp : List Addr), PE (X.blk s H scope (compEnvC scope cl C X.env) fp) elt (tE T WF .V elt'))
    (hs : ∀ x, foldedSetIterable iter X.env x = pure x) (hy : X.N[i]? = some y) (hsw : swB I y py (.ListComp elt [⟨tgE, iter, ifs, 0⟩] scope cp) = some true)
    (hst : ∀ D σ H, tS T W' B st D σ H → tE T W' c (.lc tg k srcs conds elt' own) σ H fun x H1 => L2.gName i x σ H1 D.nx) : PS X (.Assign [.Name y py] (.ListComp elt [⟨tgE, iter, ifs, 0⟩] scope cp) pos) (tS T W' B st) := by
  obtain ⟨h1, h2⟩ := sw_yes (l := pos.line) x hsw
  exact ps_imp (L2.ps_setLc x.calm x.nd hy h2 h1 hi ok hg ht he hs) fun D σ H z => lc_sem sub σ H _ (hst D σ H z)
end
/-! ### statements: does the text say what the term says? -/
mutual
def rqS : Wb.S → List Rq
  | .expr e => rqE e
  | .asg _ e => rqE e
  | .asgO _ e => rqE e
  | .asgT _ e => rqE e
  | .aug _ _ e => rqE e
  | .seti _ k e => rqE k ++ rqE e
  | .app _ e => rqE e
  | .ife c a b => rqE c ++ rqSs a ++ rqSs b
  | .for_ _ _ ss b => rqEs ss ++ rqSs b
  | .whl c b => rqE c ++ rqSs b
  | .ret e => rqE e
  | .retF e => rqE e
  | .raise x es => .exc x :: rqEs es
  | .try_ cs b hs => .xcl cs :: (rqSs b ++ rqH cs hs)
  | _ => []
def rqSs : List Wb.S → List Rq
  | [] => []
  | s :: r => rqS s ++ rqSs r
end
def asgB (n : Nat) (I : Inf) (x : Str) (p2 : Pos) (e : Expr) (e' : E) : Bool := match swB I x p2 e with
  | some false => mE n I e e'
  | some true => mE n I e e'
  | none => false
mutual
def mS : Nat → Inf → Bd → Stmt → Wb.S → Bool
  | 0, _, _, _, _ => false
  | n + 1, I, B, st, .pass => match st with
    | .Pass _ => true
    | _ => false
  | n + 1, I, B, st, .brk => match st with
    | .Break _ => true
    | _ => false
  | n + 1, I, B, st, .cont => match st with
    | .Continue _ => true
    | _ => false
  | n + 1, I, B, st, .expr e' => match st with
    | .Expr e _ => noComp e && mE n I e e'
    | _ => false
  | n + 1, I, B, st, .asg i e' => match st with
    | .Assign [.Name x p2] e _ => stB I i x && ((B.P i == false) && ((match I.sc.kind with | .function => true | _ => false) && (!(swB I x p2 e).isNone && mE n I e e')))
    | _ => false
  | n + 1, I, B, st, .asgO i e' => match st with
    | .Assign [.Name x p2] e _ => stB I i x && ((B.P i == false) && ((match I.sc.kind with | .function => true | _ => false) && (!(swB I x p2 e).isNone && mE n I e e')))
    | _ => false
  | n + 1, I, B, st, .asgT is e' => match st with
    | .Assign [.Tuple es k p] e _ => mTgs I es is && (is.all (fun j => B.P j == false) && (noComp e && (noTup e && mE n I e e')))
    | _ => false
  | n + 1, I, B, st, .never => true
  | n + 1, I, B, st, .raise x es' => match st with
    | .Raise (some (.Call (.Name y _) es [] _)) none _ => decide (y = x.nm) && (nmOk y && (glB I y && (decide (2 ≤ I.lvl) && (decide (x.n ≤ 1000) && (!x.flds.isEmpty && (!es.isEmpty && mEs n I es es'))))))
    | _ => false
  | n + 1, I, B, st, .try_ cs b' hs' => match st with
    | .Try b es [] [] _ => !es.isEmpty && (mSs n I B b b' && mHs I B es hs')
    | _ => false
  | n + 1, I, B, st, .aug i o e' => match st with
    | .AugAssign (.Name x _) op e _ => stB I i x && ((B.P i == false) && (decide (op = opOf o) && (ipO o && mE n I e e')))
    | _ => false
  | n + 1, I, B, st, .app (.slot i) e' => match st with
    | .Expr (.Call (.Attribute (.Name x _) m ap) [e] [] cp) _ => varB I i x && (decide (m = "append") && (okx e && ((ap.endLine == cp.line) && mE n I e e')))
    | _ => false
  | n + 1, I, B, st, .seti (.slot i) k' e' => match st with
    | .Assign [.Subscript (.Name x _) k _] e _ => varB I i x && (okx k && (mE n I k k' && mE n I e e'))
    | _ => false
  | n + 1, I, B, st, .ife c' a' b' => match st with
    | .If c a b _ => mT n I c c' && (mSs n I B a a' && mSs n I B b b')
    | _ => false
  | n + 1, I, B, st, .for_ tg' k ss' b' => match st with
    | .For tg iter b [] _ => mTg I tg tg' && (tg'.ixs.all (fun j => B.P j == false) && (okx iter && (mI n I tg iter k ss' && mSs n I B b b')))
    | _ => false
  | n + 1, I, B, st, .whl c' b' => match st with
    | .While c b [] _ => mT n I c c' && mSs n I B b b'
    | _ => false
  | n + 1, I, B, st, .ret e' => match st with
    | .Return (some e) _ => !B.fresh && mE n I e e'
    | _ => false
  | n + 1, I, B, st, .retF e' => match st with
    | .Return (some e) _ => B.fresh && mE n I e e'
    | _ => false
  | n + 1, I, B, st, .retO i => match st with
    | .Return (some (.Name x _)) _ => B.fresh && varB I i x
    | _ => false
  | n + 1, I, B, st, .retN => match st with
    | .Return none _ => !B.fresh
    | _ => false
  | n + 1, _, _, _, _ => false
def mSs : Nat → Inf → Bd → List Stmt → List Wb.S → Bool
  | 0, _, _, _, _ => false
  | n + 1, I, B, sts, .frz _ :: r => mSs n I B sts r
  | n + 1, I, B, st :: sts, s :: r => mS n I B st s && mSs n I B sts r
  | n + 1, I, B, [], [] => true
  | n + 1, _, _, _, _ => false
end
theorem lc_parts {n : Nat} {I : Inf} {y : Str} {p2 : Pos} {e : Expr} {e' : E} (h : mE n I e e' = true) (hq : swB I y p2 e = some true) : ∃ m elt tg iter ifs scope cp tg' k ss cs elt' own, e = .ListComp elt [⟨tg, iter, ifs, 0⟩] scope cp ∧ e' = .lc tg' k ss cs elt' own ∧
    L2.blkC I.N I.sc scope own = true ∧ tg'.ixs.all (fun j => (own.map (·.2)).contains j) = true ∧ mTg (blkI I scope) tg tg' = true ∧ okx iter = true ∧ mI m I tg iter k ss = true ∧ mC m (blkI I scope) ifs cs = true ∧ mE m (blkI I scope) elt elt' = true := by
  cases e <;> first | (cases hq; done) | skip
  cases n with
  | zero => unfold mE at h; cases h
  | succ n =>
    cases e' <;> first | (unfold mE at h; cases h; done) | skip
    unfold mE at h
    split at h
    · rename_i heq
      injection heq with e1 e2 e3 e4
      subst e1 e2 e3 e4
      obtain ⟨h1, h⟩ := and2 h
      obtain ⟨h2, h⟩ := and2 h
      obtain ⟨h3, h⟩ := and2 h
      obtain ⟨h4, h⟩ := and2 h
      obtain ⟨h5, h⟩ := and2 h
      obtain ⟨h6, h7⟩ := and2 h
      exact ⟨n, _, _, _, _, _, _, _, _, _, _, _, _, rfl, rfl, h1, h2, h3, h4, h5, h6, h7⟩
    · cases h
def TR (X : Cx) : Prop := X.stack = X.env :: X.outer ∧ X.env.frame = some X.env.locals
theorem xi_tr {X : Cx} {T : Tx} {I : Inf} (x : XI X T I) (pn : List (Addr × Obj)) (xe : Value → Shared → Prop) : XI (X.tr pn xe) T I :=
  { eK := x.eK, eP := x.eP, eW := x.eW, eB := x.eB, eM := x.eM, nd := x.nd, hu := x.hu, calm := x.calm, eN := x.eN, eS := x.eS, eF := x.eF, room := x.room }
structure SndS (n : Nat) : Prop where
  s : ∀ {X : Cx} {T : Tx} {I : Inf} {W' : WX} {B : Bd}, XI X T I → L2.Takes X W' → PassesOwn (model X.prog X.w) X.A X.env X.xe → TR X → BLT T → ∀ (x : Stmt) (ir : Wb.S), mS n I B x ir = true → RqOk T (rqS ir) → PS X x (tS T W' B ir)
  ss : ∀ {X : Cx} {T : Tx} {I : Inf} {W' : WX} {B : Bd}, XI X T I → L2.Takes X W' → PassesOwn (model X.prog X.w) X.A X.env X.xe → TR X → BLT T → ∀ (x : List Stmt) (ir : List Wb.S), mSs n I B x ir = true → RqOk T (rqSs ir) → PSs X x (tSs T W' B ir)
theorem ff {b : Bool} (h : (b == false) = true) : b = false := by cases b <;> first | rfl | cases h
theorem kind_of {k : ScopeKind} (h : (match k with | .function => true | _ => false) = true) : k = .function := by cases k <;> first | rfl | cases h
theorem sndS : ∀ n, SndS n
  | 0 => ⟨fun _ _ _ _ _ x ir h => (by cases h), fun _ _ _ _ _ x ir h => (by cases h)⟩
  | n + 1 => by
    have s := sndS n
    have se := snd n
    constructor
    · intro X T I W' B x tk po tr bl st ir h r
      cases ir with
      | pass =>
        unfold mS at h
        split at h
        · exact ss_pass
        · cases h
      | brk =>
        unfold mS at h
        split at h
        · exact ss_brk
        · cases h
      | cont =>
        unfold mS at h
        split at h
        · exact ss_cont
        · cases h
      | expr e' =>
        unfold mS at h
        split at h
        · obtain ⟨h1, h2⟩ := and2 h
          exact ss_expr (se.e x tk bl _ e' _ h2 r) (sw_none h1 _ _ _)
        · cases h
      | asg i e' =>
        unfold mS at h
        split at h
        · rename_i y p2 e pos
          obtain ⟨h1, h⟩ := and2 h
          obtain ⟨h2, h⟩ := and2 h
          obtain ⟨h3, h⟩ := and2 h
          obtain ⟨h4, h5⟩ := and2 h
          unfold stB at h1
          obtain ⟨h0, h1⟩ := and2 h1
          obtain ⟨l1, l2⟩ := loc_of x h1
          have hi : X.N[i]? = some y := by rw [x.eN]; exact of_decide_eq_true h0
          cases hq : swB I y p2 e with
          | none => rw [hq] at h4; cases h4
          | some b =>
            cases b with
            | false => exact ss_asg x.toXG hi l1 l2 (ff h2) (se.e x tk bl e e' .V h5 r) (swB_false x (kind_of h3) hq)
            | true =>
              obtain ⟨m, elt, tg, iter, ifs, scope, cp, tg', k, ss, cs, elt', own, rfl, rfl, g1, g2, g3, g4, g5, g6, g7⟩ := lc_parts h5 hq
              have sm := snd m
              have ok : L2.BlkOk X.N X.env.scope scope own := by
                rw [x.eN, x.eS]
                exact L2.blkOk_by g1
              refine ss_asgLc (c := .V) x (sm.i x tk bl tg iter k ss g5 r.left.left) ok (fun j hj => by simpa using List.all_eq_true.mp g2 j hj) (fun st H C cl fp => tg_ok (xi_blk x) g3) (fun st H C cl fp => sm.c (xi_blk x) (takes_false _) bl ifs cs g6 r.left.right) (fun st H C cl fp => sm.e (xi_blk x) (takes_false _) bl elt elt' .V g7 r.right) (fold_ok g4 _) hi hq fun D σ H ⟨g, env, S, s, p⟩ => ?_
              unfold exec at p
              exact ⟨g, env, S, s, p.out fun w S1 v g1 H1 _ e1 s1 r1 p1 => p1 g1 H1 _ ExtS.refl (s1.put r1) (Kp.refl.set (ff h2))⟩
        · cases h
      | asgO i e' =>
        unfold mS at h
        split at h
        · rename_i y p2 e pos
          obtain ⟨h1, h⟩ := and2 h
          obtain ⟨h2, h⟩ := and2 h
          obtain ⟨h3, h⟩ := and2 h
          obtain ⟨h4, h5⟩ := and2 h
          unfold stB at h1
          obtain ⟨h0, h1⟩ := and2 h1
          obtain ⟨l1, l2⟩ := loc_of x h1
          have hi : X.N[i]? = some y := by rw [x.eN]; exact of_decide_eq_true h0
          cases hq : swB I y p2 e with
          | none => rw [hq] at h4; cases h4
          | some b =>
            cases b with
            | false => exact ss_asgO x.toXG hi l1 l2 (ff h2) (se.e x tk bl e e' .F h5 r) (swB_false x (kind_of h3) hq)
            | true =>
              obtain ⟨m, elt, tg, iter, ifs, scope, cp, tg', k, ss, cs, elt', own, rfl, rfl, g1, g2, g3, g4, g5, g6, g7⟩ := lc_parts h5 hq
              have sm := snd m
              have ok : L2.BlkOk X.N X.env.scope scope own := by
                rw [x.eN, x.eS]
                exact L2.blkOk_by g1
              refine ss_asgLc (c := .F) x (sm.i x tk bl tg iter k ss g5 r.left.left) ok (fun j hj => by simpa using List.all_eq_true.mp g2 j hj) (fun st H C cl fp => tg_ok (xi_blk x) g3) (fun st H C cl fp => sm.c (xi_blk x) (takes_false _) bl ifs cs g6 r.left.right) (fun st H C cl fp => sm.e (xi_blk x) (takes_false _) bl elt elt' .V g7 r.right) (fold_ok g4 _) hi hq fun D σ H ⟨g, env, S, s, p⟩ => ?_
              exact asgO_sem (ff h2) s p
        · cases h
      | asgT is e' =>
        unfold mS at h
        split at h
        · rename_i es k p e pos
          obtain ⟨h1, h⟩ := and2 h
          obtain ⟨h2, h⟩ := and2 h
          obtain ⟨h3, h⟩ := and2 h
          obtain ⟨h4, h5⟩ := and2 h
          exact ss_asgT x.toXG (tg_ok (tg' := .many is) x h1) (fun j hj => ff (List.all_eq_true.mp h2 j hj)) (se.e x tk bl e e' .V h5 r) (by unfold swapsWithSole; exact sw_none h3 _ _ _) (swp_none h4 _ _) rfl
        · cases h
      | never => exact ss_never
      | raise xc es' =>
        unfold mS at h
        split at h
        · rename_i y p es pos p2
          obtain ⟨h1, h⟩ := and2 h
          obtain ⟨h2, h⟩ := and2 h
          obtain ⟨h3, h⟩ := and2 h
          obtain ⟨h4, h⟩ := and2 h
          obtain ⟨h5, h⟩ := and2 h
          obtain ⟨h6, h⟩ := and2 h
          obtain ⟨h7, h8⟩ := and2 h
          have e := of_decide_eq_true h1
          subst e
          obtain ⟨i1, i2⟩ := se.es x tk bl es es' h8 (fun q hq => r q (by simp [rqS, hq]))
          cases es with
          | nil => cases h7
          | cons e0 es =>
            have ia : (okx e0 && okxs es) = true := i2
            exact ss_raise x.toXG tk (r (.exc xc) (by simp [rqS])) (x.room.mono (of_decide_eq_true h4)) (gl_of x h3) (nm_of h2).1 i1 (and2 ia).1 (and2 ia).2 (of_decide_eq_true h5) (fun z => by rw [z] at h6; cases h6)
        · cases h
      | try_ cs b' hs' =>
        unfold mS at h
        split at h
        · obtain ⟨h1, h⟩ := and2 h
          obtain ⟨h2, h3⟩ := and2 h
          have r1 : RqOk T (rqSs b') := fun q hq => r q (by simp [rqS, hq])
          refine ss_try x tk bl tr.1 tr.2 (fun W pn xe tk' po' => s.ss (xi_tr x pn xe) tk' po' tr bl _ b' h2 r1) (r (.xcl cs) (by simp [rqS])) (fun z => by rw [z] at h1; cases h1) h3 (fun q hq => r q (by simp [rqS, hq]))
        · cases h
      | aug i o e' =>
        unfold mS at h
        split at h
        · rename_i y p2 op e pos
          obtain ⟨h1, h⟩ := and2 h
          obtain ⟨h2, h⟩ := and2 h
          obtain ⟨h3, h⟩ := and2 h
          obtain ⟨h4, h5⟩ := and2 h
          unfold stB at h1
          obtain ⟨h0, h1⟩ := and2 h1
          obtain ⟨l1, l2⟩ := loc_of x h1
          have hi : X.N[i]? = some y := by rw [x.eN]; exact of_decide_eq_true h0
          have e0 := of_decide_eq_true h3
          subst e0
          exact ss_aug x.toXG h4 hi l1 l2 (ff h2) (se.e x tk bl e e' .B h5 r)
        · cases h
      | app p e' =>
        cases p with
        | fld _ _ => unfold mS at h; cases h
        | slot i =>
          unfold mS at h
          split at h
          · obtain ⟨h1, h⟩ := and2 h
            obtain ⟨h2, h⟩ := and2 h
            obtain ⟨h3, h⟩ := and2 h
            obtain ⟨h4, h5⟩ := and2 h
            unfold varB at h1
            obtain ⟨h1, hn⟩ := and2 h1
            obtain ⟨h0, h1⟩ := and2 h1
            have e0 := of_decide_eq_true h2
            subst e0
            exact ss_app x.toXG (by rw [x.eN]; exact of_decide_eq_true h0) (vis_of x h1) (nm_of hn).1 (nm_of hn).2 (se.e x tk bl _ e' .V h5 r) h3 h4
          · cases h
      | seti p k' e' =>
        cases p with
        | fld _ _ => unfold mS at h; cases h
        | slot i =>
          unfold mS at h
          split at h
          · rename_i y p2 k sp e pos
            obtain ⟨h1, h⟩ := and2 h
            obtain ⟨h2, h⟩ := and2 h
            obtain ⟨h3, h4⟩ := and2 h
            unfold varB at h1
            obtain ⟨h1, hn⟩ := and2 h1
            obtain ⟨h0, h1⟩ := and2 h1
            exact ss_seti x.toXG (by rw [x.eN]; exact of_decide_eq_true h0) (vis_of x h1) (nm_of hn).1 (nm_of hn).2 (se.e x tk bl e e' .V h4 r.right) (se.e x tk bl k k' .V h3 r.left) h2 (sw_sub (o := .Name y p2) (i := k) (p := sp) pos.line X.env) rfl
          · cases h
      | ife c' a' b' =>
        unfold mS at h
        split at h
        · obtain ⟨h1, h⟩ := and2 h
          obtain ⟨h2, h3⟩ := and2 h
          exact ss_if (se.t x tk bl _ c' h1 r.left.left) (s.ss x tk po tr bl _ a' h2 r.left.right) (s.ss x tk po tr bl _ b' h3 r.right)
        · cases h
      | for_ tg' k ss' b' =>
        unfold mS at h
        split at h
        · obtain ⟨h1, h⟩ := and2 h
          obtain ⟨h2, h⟩ := and2 h
          obtain ⟨h3, h⟩ := and2 h
          obtain ⟨h4, h5⟩ := and2 h
          exact ss_for x.toXG po (se.i x tk bl _ _ k ss' h4 r.left) (tg_ok x h1) (s.ss x tk po tr bl _ b' h5 r.right) (fun j hj => ff (List.all_eq_true.mp h2 j hj)) (fold_ok h3 _)
        · cases h
      | whl c' b' =>
        unfold mS at h
        split at h
        · obtain ⟨h1, h2⟩ := and2 h
          exact ss_whl po (se.t x tk bl _ c' h1 r.left) (s.ss x tk po tr bl _ b' h2 r.right)
        · cases h
      | ret e' =>
        unfold mS at h
        split at h
        · obtain ⟨h1, h2⟩ := and2 h
          exact ss_ret (by simpa using h1) (se.e x tk bl _ e' .V h2 r)
        · cases h
      | retF e' =>
        unfold mS at h
        split at h
        · obtain ⟨h1, h2⟩ := and2 h
          exact ss_retF h1 (se.e x tk bl _ e' .F h2 r)
        · cases h
      | retO i =>
        unfold mS at h
        split at h
        · obtain ⟨h1, h2⟩ := and2 h
          unfold varB at h2
          obtain ⟨h2, hn⟩ := and2 h2
          obtain ⟨h0, h2⟩ := and2 h2
          exact ss_retO h1 (by rw [x.eN]; exact of_decide_eq_true h0) (vis_of x h2) (nm_of hn).1 (nm_of hn).2
        · cases h
      | retN =>
        unfold mS at h
        split at h
        · exact ss_retN (by simpa using h)
        · cases h
      | _ => unfold mS at h; cases h
    · intro X T I W' B x tk po tr bl sts ir h r
      cases ir with
      | nil =>
        cases sts with
        | nil => exact ss_nil
        | cons _ _ => unfold mSs at h; cases h
      | cons s0 rest =>
        by_cases hf : ∃ i, s0 = .frz i
        · obtain ⟨i, rfl⟩ := hf
          unfold mSs at h
          exact ss_frz (s.ss x tk po tr bl sts rest h r.right)
        · cases sts with
          | nil => cases s0 <;> first | (unfold mSs at h; cases h; done) | exact absurd ⟨_, rfl⟩ hf
          | cons st sts =>
            have h' : (mS n I B st s0 && mSs n I B sts rest) = true := by
              cases s0 <;> first | exact h | exact absurd ⟨_, rfl⟩ hf
            obtain ⟨h1, h2⟩ := and2 h'
            exact ss_cons (s.s x tk po tr bl st s0 h1 r.left) (s.ss x tk po tr bl sts rest h2 r.right)
end Wb
namespace Wb
open PySem PySem.Spec PyProof.Rows
open L2 (V Hp HO Rd upd upd_same upd_ne SqL SqT VK TE TT TA TS TG TI TO Ends WX XK R2 Cx Inv RelV Vals ne_of_none PE PT PA PS PSs PG PI OpR UnR CallR MtR Gl Vis Loc)
def bdOf (own : List Bool) (fresh : Bool) : Bd := ⟨fun i => own.getD i false, fresh⟩
def infOf (N : List Str) (sc : Scope) (lvl : Nat) : Inf := ⟨N, sc, fun _ => true, lvl⟩
section
variable {T : Tx} {g g' : Gh} {env : Env} {S S' : Store} {σ : L2.St} {H H' : Hp}
/-- at a def's entry -/
theorem sim_start {N : List Str} {own : List Bool} {vs : List V} {ws : List W} (h1 : vs.length = own.length) (h2 : ws.length = own.length) (hn : own.length ≤ N.length) (s : Sim T g H (env0 own.length own ws) S (vs.map some)) : Sim T g H (env0 N.length own ws) S (L2.start N vs) := by
  have e : env0 N.length own ws = env0 own.length own ws ++ List.replicate (N.length - ws.length) none := by
    unfold env0
    rw [h2, Nat.sub_self]
    simp
  refine ⟨s.wf, ?_, fun i fl w h => ?_, s.cells⟩
  · rw [e, List.length_append, s.len]
    unfold L2.start
    rw [List.length_append, List.length_replicate, List.length_replicate, h1, h2]
  · have hl := s.len
    rw [e] at h
    unfold Env.at at h
    by_cases hi : i < (env0 own.length own ws).length
    · rw [List.getElem?_append_left hi] at h
      have z := s.slots i fl w h
      unfold L2.start
      have hi2 : i < (vs.map some).length := by rw [← hl]; exact hi
      cases fl with
      | v => obtain ⟨x, q1, q2⟩ := z; exact ⟨x, by rw [List.getElem?_append_left hi2]; exact q1, q2⟩
      | o => obtain ⟨x, q1, q2⟩ := z; exact ⟨x, by rw [List.getElem?_append_left hi2]; exact q1, q2⟩
      | k => obtain ⟨x, q1, q2⟩ := z; exact ⟨x, by rw [List.getElem?_append_left hi2]; exact q1, q2⟩
    · rw [List.getElem?_append_right (by omega), List.getElem?_replicate] at h
      split at h <;> cases h
theorem start_at {N : List Str} {vs : List V} {i : Nat} {v : V} (h : vs[i]? = some v) : (L2.start N vs)[i]? = some (some v) := by
  unfold L2.start
  rw [List.getElem?_append_left (by rw [List.length_map]; exact (List.getElem?_eq_some_iff.mp h).1), List.getElem?_map, h]
  rfl
theorem fin_ok (s : Sim T g' H' env S' σ) : ∀ (own : List Bool) (vs : List V) (i : Nat) (fs : List W), vs.length = own.length → (∀ j v, vs[j]? = some v → own[j]? = some true → σ[i + j]? = some (some v)) → finW own i env = some fs → FinOk T g' H' i own vs fs
  | [], [], i, fs, _, _, h => by unfold finW at h; cases h; exact .nil i
  | [], _ :: _, _, _, h, _, _ => by cases h
  | _ :: _, [], _, _, h, _, _ => by cases h
  | true :: own, v :: vs, i, fs, hl, hk, h => by
    unfold finW at h
    split at h
    · rename_i w hw
      cases hr : finW own (i + 1) env with
      | none => rw [hr] at h; cases h
      | some rs =>
        rw [hr] at h
        cases h
        obtain ⟨a, e1, l, o⟩ := s.slots i _ _ hw
        have e2 := hk 0 v rfl rfl
        rw [Nat.add_zero, e1] at e2
        cases e2
        exact .own l o (fin_ok s own vs (i + 1) rs (by simpa using hl) (fun j u hj ho => by have := hk (j + 1) u (by simpa using hj) (by simpa using ho); rwa [show i + (j + 1) = i + 1 + j by omega] at this) hr)
    · cases h
  | false :: own, v :: vs, i, fs, hl, hk, h => by
    unfold finW at h
    exact .val (fin_ok s own vs (i + 1) fs (by simpa using hl) (fun j u hj ho => by have := hk (j + 1) u (by simpa using hj) (by simpa using ho); rwa [show i + (j + 1) = i + 1 + j by omega] at this) h)
end
/-- THE RULE: a def keeps its promise, once its text is what the term says -/
theorem fn_ok {T : Tx} {f : Fn} {a : Addr} {fd : FuncData} {x qual : Str} {st : Stmt} {N ps : List Str} {k n : Nat} {ir : List Wb.S} (F : L2.Fun T.K x qual st a fd) (S : L2.FnScope N ps (L2.defScope st)) (hm : mSs n (infOf N (L2.defScope st) k) (bdOf f.own f.fresh) (L2.defBody st) ir = true)
    (hsem : f.sem = runDef N.length f.own f.fresh ir) (ho : f.own.length = ps.length) (hfr : f.fresh = true → f.plain = true) (hlv : f.lvl = k + 1) (bl : BLT T) (rq : RqOk T (rqSs ir)) :
    L2.FnOk T.prog T.w T.K T.mg T.base (L2.CX T.prog T.w) f.lvl a fd ps (spF T f) := by
  rw [hlv]
  refine F.okX S (fun vs H Q E h => ?_) (fun cdv A outer s H vs Q E hr h => ?_)
  · obtain ⟨g, St, ws, h1, _⟩ := h
    rw [h1, ho]
  obtain ⟨g, St, ws, h1, h2, sim, hsl, p⟩ := h
  have hpl : ps.length ≤ N.length := by
    have := congrArg List.length S.pre
    rw [List.length_take] at this
    omega
  have xi : XI (L2.cxOf (L2.CX T.prog T.w) T.prog T.w T.K T.mg T.base N qual (L2.defScope st) a cdv A outer s H E) T (infOf N (L2.defScope st) k) :=
    { eK := rfl, eP := rfl, eW := rfl, eB := rfl, eM := rfl, nd := S.nd, hu := hr.units, calm := rfl, eN := rfl, eS := rfl, eF := rfl, room := hr }
  have tk : L2.Takes (L2.cxOf (L2.CX T.prog T.w) T.prog T.w T.K T.mg T.base N qual (L2.defScope st) a cdv A outer s H E) (fun cls d _ H => E cls d H) := L2.takes_of rfl rfl rfl rfl
  have po : PassesOwn (model T.prog T.w) (L2.cxOf (L2.CX T.prog T.w) T.prog T.w T.K T.mg T.base N qual (L2.defScope st) a cdv A outer s H E).A (L2.cxOf (L2.CX T.prog T.w) T.prog T.w T.K T.mg T.base N qual (L2.defScope st) a cdv A outer s H E).env (L2.cxOf (L2.CX T.prog T.w) T.prog T.w T.K T.mg T.base N qual (L2.defScope st) a cdv A outer s H E).xe := L2.passes_of rfl
  refine ⟨_, (sndS n).ss (B := bdOf f.own f.fresh) xi tk po ⟨rfl, rfl⟩ bl _ ir hm rq, g, env0 N.length f.own ws, St, sim_start h1 h2 (by omega) sim, ?_⟩
  rw [hsem] at p
  unfold runDef at p
  rw [if_pos h2.symm] at p
  -- own parameters' containers
  have own : ∀ {g' H' σ' env' S' fs}, Sim T g' H' env' S' σ' → Kp (bdOf f.own f.fresh).P (L2.start N vs) σ' → finW f.own 0 env' = some fs → FinOk T g' H' 0 f.own vs fs := fun {g' H' σ' env' S' fs} s' kk hf => fin_ok s' f.own vs 0 fs h1 (fun j v hj hb => by
    rw [Nat.zero_add, kk j (by show f.own.getD j false = true; rw [List.getD_eq_getElem?_getD, hb]; rfl)]
    exact start_at hj) hf
  -- a value, or a container, that is handed back
  have back : ∀ {x w fs env' S' g' H' σ'}, ExtS g H g' H' → Sim T g' H' env' S' σ' → Kp (bdOf f.own f.fresh).P (L2.start N vs) σ' → RetR T f.fresh H g' H' x w → finW f.own 0 env' = some fs →
      (∀ x g' H', ExtS g H g' H' → SimC T g' H' S' → RetOk T f.fresh H g' H' x w → FinOk T g' H' 0 f.own vs fs → Q x H') → Q x H' := by
    intro x w fs env' S' g' H' σ' e s' kk r hf q
    have fo := own s' kk hf
    unfold RetR at r
    cases hb : f.fresh with
    | false =>
      rw [hb, if_neg Bool.false_ne_true] at r
      refine q x g' H' e s'.c ?_ fo
      unfold RetOk
      rw [hb, if_neg Bool.false_ne_true]
      exact r
    | true =>
      rw [hb, if_pos rfl] at r
      have hp := hfr hb
      obtain ⟨b, rfl, o, r⟩ := r
      have noslot : ∀ c i, g.L c ≠ .slot i := fun c i z => by
        have q1 := hsl c i z
        unfold Fn.plain at hp
        rw [List.getD_eq_getElem?_getD] at q1
        cases q2 : f.own[i]? with
        | none => rw [q2] at q1; cases q1
        | some v =>
          rw [q2] at q1
          have q3 := List.all_eq_true.mp hp v (List.mem_of_getElem? q2)
          cases v with
          | false => exact Bool.false_ne_true q1
          | true => exact Bool.false_ne_true q3
      have hn : H b = none := by
        rcases r with ⟨n, _⟩ | ⟨i, l⟩
        · exact n
        · cases q1 : H b with
          | none => rfl
          | some u =>
            obtain ⟨j, z⟩ := e.slot b i (by rw [q1]; simp) l
            exact absurd z (noslot b j)
      refine q (.ref b) g'.clean H' ?_ s'.c.clean ?_ ?_
      · refine ⟨fun c hc pp => ?_, fun m hm => ?_, e.some, fun c i hc l => ?_⟩
        · obtain ⟨k1, k2⟩ := e.keep c hc pp
          refine ⟨?_, k2⟩
          rw [clean_ne fun i z => by rw [k1] at z; exact noslot c i z]
          exact k1
        · obtain ⟨k1, k2⟩ := e.cel m hm
          refine ⟨k1, ?_⟩
          rw [clean_ne fun i z => by rw [k2] at z; cases z]
          exact k2
        · exfalso
          have z' : cleanL (g'.L c) = .slot i := l
          cases q : g'.L c <;> rw [q] at z' <;> cases z'
      · unfold RetOk
        rw [hb, if_pos rfl]
        refine ⟨b, rfl, hn, ?_, o.stay stay_clean rfl⟩
        rcases r with ⟨_, l⟩ | ⟨i, l⟩
        · exact clean_out l
        · exact clean_slot l
      · -- no own parameters
        have key : ∀ (own : List Bool) (vs : List V) (i : Nat) (fs : List W), (own.all fun b => !b) = true → FinOk T g' H' i own vs fs → FinOk T g'.clean H' i own vs fs := by
          intro own vs i fs ho z
          induction z with
          | nil i => exact .nil i
          | own _ _ _ _ => rw [List.all_cons] at ho; cases ho
          | val _ ih => rw [List.all_cons, Bool.and_eq_true] at ho; exact .val (ih ho.2)
        exact key _ _ _ _ hp fo
  revert p
  cases execs ir (env0 N.length f.own ws) St with
  | bad => exact fun p => p
  | brk env' S' => exact fun p => p.elim
  | ct env' S' => exact fun p => p.elim
  | exn c fs env' S' => exact fun p d g' H' σ' e s' kk ex => p d g' H' e s'.c ex
  | nx env' S' =>
    intro p g' H' σ' e s' kk
    dsimp only at p
    cases hb : f.fresh with
    | true => rw [hb, if_pos rfl] at p; exact p.elim
    | false =>
      rw [hb, if_neg Bool.false_ne_true] at p
      cases hf : finW f.own 0 env' with
      | none => rw [hf] at p; exact p.elim
      | some fs =>
        rw [hf] at p
        refine p .non g' H' e s'.c ?_ (own s' (by rw [hb] at *; exact kk) hf)
        unfold RetOk
        rw [if_neg Bool.false_ne_true]
        exact repX_non
  | ret w env' S' =>
    intro p x g' H' σ' e s' kk r
    dsimp only at p
    cases hf : finW f.own 0 env' with
    | none => rw [hf] at p; exact p.elim
    | some fs =>
      rw [hf] at p
      exact back e s' kk r hf p
end Wb
namespace Wb
open PySem PySem.Spec PyProof.Rows
open L2 (V Hp HO Rd upd upd_same upd_ne SqL SqT VK TE TT TA TS TG TI TO Ends WX XK R2 Cx Inv RelV Vals ne_of_none PE PT PA PS PSs PG PI OpR UnR CallR MtR Gl Vis Loc)
/-- a def of the module, without defaults -/
theorem fnk_mk {T : Tx} {f : Fn} {a : Addr} {fd : FuncData} {st : Stmt} {N ps : List Str} {k n : Nat} {ir : List Wb.S} (F : L2.Fun T.K f.nm f.nm st a fd) (hb : L2.Binds T.K fd ps []) (hg : T.mg f.nm = some (.ref a)) (S : L2.FnScope N ps (L2.defScope st))
    (hm : mSs n (infOf N (L2.defScope st) k) (bdOf f.own f.fresh) (L2.defBody st) ir = true) (hsem : f.sem = runDef N.length f.own f.fresh ir) (ho : f.own.length = ps.length) (hfr : f.fresh = true → f.plain = true) (hlv : f.lvl = k + 1) (hd : f.dfl = []) (bl : BLT T) (rq : RqOk T (rqSs ir)) : FnK T f := by
  refine ⟨a, fd, ps, hg, fn_ok F S hm hsem ho hfr hlv bl rq, F.kp, fun j hj => ?_⟩
  rw [hd] at hj
  have hj0 : j = 0 := by simpa using hj
  subst hj0
  refine ⟨[], [], hb, .nil, ?_⟩
  unfold Fn.dv
  rw [hd]
  exact .nil
/-- what law(script) is asked to keep -/
def spLaw (K : PySem.W.Frag) : L2.Sp := fun vs H Q _ => ∃ (a : Addr) (ns : List Int), vs = [.ref a] ∧ L2.Only H ∧ SqL K H a (ns.map V.int) ∧ ns.length ≤ 63 ∧ (∀ z ∈ ns, Builtin.Int.intBits z ≤ 1048576) ∧ ∀ H', Q (.bl true) H'
theorem law_imp {T : Tx} {f : Fn} (ho : f.own = [false]) (hfr : f.fresh = false) (h : ∀ ns : List Int, ns.length ≤ 63 → (∀ z ∈ ns, Builtin.Int.intBits z ≤ 1048576) → ∃ fs S', f.sem [] [.ro (ns.map .int)] = .ok (.bl true, fs) S') :
    ∀ vs H Q E, spLaw T.K vs H Q E → spF T f vs H Q E := by
  classical
  rintro vs H Q E ⟨a, ns, rfl, hO, hS, hl, hb, q⟩
  obtain ⟨fs, S', hs⟩ := h ns hl hb
  let g : Gh := ⟨fun b => if H b = none then .out else .frz, fun _ => 0⟩
  have gf : ∀ b, H b ≠ none → g.L b = .frz := fun b hb => if_neg hb
  have gn : ∀ b, H b = none → g.L b = .out := fun b hb => if_pos hb
  refine ⟨g, [], [.ro (ns.map .int)], by rw [ho]; rfl, by rw [ho]; rfl, ⟨gn, by rw [ho]; rfl, fun i fl w hi => ?_, fun n c hc => by simp at hc⟩, fun b i z => ?_, ?_⟩
  · rw [ho] at hi
    cases i with
    | succ i => exact nomatch hi
    | zero =>
      cases hi
      refine ⟨.ref a, rfl, ⟨2, a, ns.map V.int, rfl, ?_, ?_⟩⟩
      · rcases hS with hS | hS
        · exact .inl ⟨gf a (rd_some hS), hS⟩
        · exact .inr hS
      · exact paired_map (F := Rep T g H 1) (f := V.int) (h := W.int) (fun i => (rfl : V.int i = V.int i)) ns
  · exfalso
    by_cases hn : H b = none
    · rw [gn b hn] at z; cases z
    · rw [gf b hn] at z; cases z
  · rw [hs]
    intro x g' H' _ _ r _
    unfold RetOk at r
    rw [hfr, if_neg Bool.false_ne_true] at r
    rw [bl_inv r]
    exact q H'
theorem law_walk {l : PySem.W.OpenLaw} {q : Program} {loose : List Str} {XP : (Str → Option Value) → Heap → Prop} {YP : World → Heap → Prop} {d : DefRec} {K : Params → PySem.W.Frag} {k : Nat} (hn : l.most = some 63) (hdf : d.params.defaults = []) (hr : L2.Room k callerA)
    (hY : ∀ (w : World) (h : Heap), YP w h → (K w.params).In h)
    (F : ∀ (w : World) (mg : Str → Option Value) (fa : Addr) (h : Heap), (K w.params).In h → h.Ns mainGlobals mg → mg d.name = some (.ref fa) →
      ∃ fd : FuncData, (∀ (s : Shared) (u : Value), BindsTo s fd ⟨[u], []⟩ [("script", u)]) ∧ ∀ base : Heap, (K w.params).In base → base.Ns mainGlobals mg → L2.FnOk l.prog w (K w.params) mg base (L2.CX l.prog w) k fa fd ["script"] (spLaw (K w.params))) :
    PySem.W.WalkO q loose XP YP l.row.toRowW d [] (fun f vs => PySem.call f vs) :=
  L2.walk_ofB (n := 63) (k := k) (x := "script") (CX := fun w => L2.CX l.prog w) (sp := fun w => spLaw (K w.params)) hn (by decide) hdf hr hY F (fun _ _ a ns hl hb hO hS => ⟨a, ns, rfl, hO, hS, hl, hb, fun _ => rfl⟩)
    fun _ _ _ _ _ ⟨_, _, _, _, _, _, _, _, _, _, _, _, z⟩ => z.elim
end Wb
namespace Wb
open PySem PySem.Spec PyProof.Rows
/-! ### the evaluator, by rows that simp may take -/
@[simp] theorem bind_if {α β : Type} {p : Prop} [Decidable p] {a b : R α} {f : α → Store → R β} : (if p then a else b).bind f = if p then a.bind f else b.bind f := by split <;> rfl
@[simp] theorem out_if {α : Type} {p : Prop} [Decidable p] {a b : R α} {env : Env} {f : α → Store → Out} : (if p then a else b).out env f = if p then a.out env f else b.out env f := by split <;> rfl
@[simp] theorem then_if {p : Prop} [Decidable p] {a b : Out} {f : Env → Store → Out} : (if p then a else b).then f = if p then a.then f else b.then f := by split <;> rfl
@[simp] theorem selB_bl {α : Type} {b : Bool} {t f : R α} : selB (.bl b) t f = if b then t else f := by cases b <;> rfl
@[simp] theorem truW_bl {b : Bool} : truW (.bl b) = some b := id rfl
@[simp] theorem truW_int {b : Int} : truW (.int b) = some (b != 0) := id rfl
@[simp] theorem truW_non : truW .non = some false := id rfl
@[simp] theorem truW_lst {ws : List W} : truW (.lst ws) = some (!ws.isEmpty) := id rfl
@[simp] theorem truW_tup {ws : List W} : truW (.tup ws) = some (!ws.isEmpty) := id rfl
@[simp] theorem tstR_bl {b : Bool} {S : Store} : tstR (.bl b) S = .ok b S := id rfl
@[simp] theorem ofW_V {w : W} {S : Store} : ofW .V (some w) S = .ok w S := id rfl
@[simp] theorem ofW_B {w : W} {S : Store} : ofW .B (some w) S = .ok w S := id rfl
@[simp] theorem ofW_S {w : W} {S : Store} : ofW .S (some w) S = .ok w S := id rfl
@[simp] theorem ofB_V {w : Bool} {S : Store} : ofB .V (some w) S = .ok (.bl w) S := id rfl
@[simp] theorem ofB_B {w : Bool} {S : Store} : ofB .B (some w) S = .ok (.bl w) S := id rfl
@[simp] theorem ofB_S {w : Bool} {S : Store} : ofB .S (some w) S = .ok (.bl w) S := id rfl
@[simp] theorem ofPV_V {b : Bool} {w : W} {S : Store} : ofPV .V (some (b, w)) S = .ok w S := id rfl
@[simp] theorem ofPV_B {b : Bool} {w : W} {S : Store} : ofPV .B (some (b, w)) S = .ok w S := id rfl
@[simp] theorem ofPV_S {b : Bool} {w : W} {S : Store} : ofPV .S (some (b, w)) S = .ok w S := id rfl
@[simp] theorem ofPV_F {w : W} {S : Store} : ofPV .F (some (true, w)) S = .ok w S := id rfl
@[simp] theorem held_t : Ctx.held true = .B := id rfl
@[simp] theorem held_f : Ctx.held false = .S := id rfl
def eltF (e : E) (env : Env) (S : Store) : R W := ev .V e env S
def cndF (es : List E) (env : Env) (S : Store) : R Bool := evc es env S
def runB (b : List S) (env : Env) (S : Store) : Out := execs b env S
def cdW (e : E) (env : Env) (S : Store) : R Bool := evt e env S
variable {c : Ctx} {env : Env} {S : Store}
@[simp] theorem ev_var (i : Nat) : ev c (.var i) env S = match env.at i with
    | some (.v, w) => if c = .F then .bad else .ok w S
    | some (_, w) => if c = .B ∨ c = .S then .ok w S else .bad
    | none => .bad := by first | (rw [ev]; done) | (rw [ev]; rfl)
@[simp] theorem ev_glob (x : Str) (w : W) : ev c (.glob x w) env S = ofW c (some w) S := by rw [ev]
@[simp] theorem ev_cst (w : W) : ev c (.cst w) env S = ofW c (some w) S := by rw [ev]
@[simp] theorem ev_bin (o : Bin) (a b : E) : ev c (.bin o a b) env S = (ev (.held (quiet b)) a env S).bind fun x S => (ev .B b env S).bind fun y S => ofPV c (binW o x y) S := by rw [ev]
@[simp] theorem ev_neg (a : E) : ev c (.neg a) env S = (ev .B a env S).bind fun x S => match x with
    | .int i => ofW c (some (.int (-i))) S
    | _ => .bad := by first | (rw [ev]; done) | (rw [ev]; rfl)
@[simp] theorem ev_not (a : E) : ev c (.not a) env S = (ev .B a env S).bind fun x S => ofB c ((truW x).map (! ·)) S := by rw [ev]
@[simp] theorem ev_tru (a : E) : ev c (.tru a) env S = (ev .B a env S).bind fun x S => ofB c (truW x) S := by rw [ev]
@[simp] theorem ev_cmp (o : Cmp) (a b : E) : ev c (.cmp o a b) env S = (ev (.held (quiet b)) a env S).bind fun x S => (ev .B b env S).bind fun y S => ofB c (cmpW o x y) S := by rw [ev]
@[simp] theorem ev_and (a b : E) : ev c (.and a b) env S = (ev .B a env S).bind fun x S => selB x (ev c b env S) (ofW c (some (.bl false)) S) := by rw [ev]
@[simp] theorem ev_or (a b : E) : ev c (.or a b) env S = (ev .B a env S).bind fun x S => selB x (ofW c (some (.bl true)) S) (ev c b env S) := by rw [ev]
@[simp] theorem ev_ite (t a b : E) : ev c (.ite t a b) env S = (ev .B t env S).bind fun x S => (tstR x S).bind fun k S => if k then ev c a env S else ev c b env S := by rw [ev]
@[simp] theorem ev_tup (es : List E) : ev c (.tup es) env S = (evs .V es env S).bind fun ws S => ofW c (if ws.length ≤ sizeL then some (.tup ws) else none) S := by rw [ev]
@[simp] theorem ev_lst (es : List E) : ev c (.lst es) env S = (evs .V es env S).bind fun ws S => if ws.length ≤ sizeL then .ok (.lst ws) S else .bad := by rw [ev]
@[simp] theorem ev_dct0 : ev c (.dct []) env S = .ok (.dct []) S := by rw [ev, evs]; rfl
@[simp] theorem ev_sub (a i : E) : ev c (.sub a i) env S = (ev (.held (quiet i)) a env S).bind fun x S => (ev .V i env S).bind fun y S => ofW c (subW x y) S := by rw [ev]
@[simp] theorem ev_slice (a : E) (lo hi : List E) : ev c (.slice a lo hi) env S = (ev (.held (quiets lo && quiets hi)) a env S).bind fun x S => ((evs .V lo env S).bind optR).bind fun l S => ((evs .V hi env S).bind optR).bind fun h S => ofPV c (sliceW x l h) S := by rw [ev]
@[simp] theorem ev_rev (a : E) : ev c (.rev a) env S = (ev .B a env S).bind fun x S => ofPV c (revW x) S := by rw [ev]
@[simp] theorem ev_fstr (ps : List E) : ev c (.fstr ps) env S = (evj ps Str.empty env S).bind fun z S => ofW c (some (.str z)) S := by rw [ev]
@[simp] theorem ev_fmt (e : E) : ev c (.fmt e) env S = (ev .B e env S).bind fun x S => ofW c ((fmtW x).map .str) S := by rw [ev]
@[simp] theorem ev_fmtw (n : Nat) (e : E) : ev c (.fmtw n e) env S = (ev .B e env S).bind fun x S => match x with
    | .int i => ofW c ((padW n i).map .str) S
    | _ => .bad := by first | (rw [ev]; done) | (rw [ev]; rfl)
@[simp] theorem ev_isi (a : E) (t : Ty) : ev c (.isi a t) env S = (ev .B a env S).bind fun x S => ofB c (isiW x t) S := by rw [ev]
@[simp] theorem ev_bi1 (b : BI) (e : E) : ev c (.bcall b [e]) env S = (ev .B e env S).bind fun w S => ofPV c (biW b [w]) S := by rw [ev]
@[simp] theorem ev_bi2 (b : BI) (e f : E) : ev c (.bcall b [e, f]) env S = (evs .V [e, f] env S).bind fun ws S => ofPV c (biW b ws) S := by
  rw [ev]
  intro e1 h
  cases h
@[simp] theorem ev_bm (b : BM) (o : E) (es : List E) : ev c (.bmeth b o es) env S = (ev (.held (quiets es)) o env S).bind fun x S => if rcvW b x then (evs .V es env S).bind fun ws S => ofPV c (bmW b x ws) S else .bad := by rw [ev]
@[simp] theorem ev_callV (f : Fn) (es : List E) (k : Nat) : ev .V (.call f es k) env S = (evs .V es env S).bind fun ws S => if f.plain then (f.sem S (ws ++ f.dv k)).bind fun r S => .ok r.1 S else .bad := by
  rw [ev]; simp
@[simp] theorem ev_callB (f : Fn) (es : List E) (k : Nat) : ev .B (.call f es k) env S = (evs .V es env S).bind fun ws S => if f.plain then (f.sem S (ws ++ f.dv k)).bind fun r S => .ok r.1 S else .bad := by
  rw [ev]; simp
@[simp] theorem ev_callS (f : Fn) (es : List E) (k : Nat) : ev .S (.call f es k) env S = (evs .V es env S).bind fun ws S => if f.plain then (f.sem S (ws ++ f.dv k)).bind fun r S => .ok r.1 S else .bad := by
  rw [ev]; simp
@[simp] theorem ev_lc (tg : Tg) (k : Src) (ss cs : List E) (e : E) (own : List (Str × Nat)) : ev c (.lc tg k ss cs e own) env S = ((evs .V ss env S).bind (itemsR k)).bind fun items S =>
    noExn ((lcGo tg (cndF cs) (eltF e) (wipeE env (own.map (·.2))) items [] S).bind fun ws S' => .ok (.lst ws) S') := by first | (rw [ev]; done) | (rw [ev]; rfl)
@[simp] theorem ev_dc (tg : Tg) (k : Src) (ss cs : List E) (ke ve : E) (own : List (Str × Nat)) : ev c (.dc tg k ss cs ke ve own) env S = ((evs .V ss env S).bind (itemsR k)).bind fun items S =>
    noExn ((dcGo tg (cndF cs) (eltF ke) (eltF ve) (wipeE env (own.map (·.2))) items [] S).bind fun kvs S' => .ok (.dct kvs) S') := by first | (rw [ev]; done) | (rw [ev]; rfl)
@[simp] theorem evs_nil : evs c [] env S = .ok [] S := by rw [evs]
@[simp] theorem evs_cons (e : E) (es : List E) : evs c (e :: es) env S = (ev c e env S).bind fun w S => (evs c es env S).bind fun ws S => .ok (w :: ws) S := by rw [evs]
@[simp] theorem evj_nil (acc : Str) : evj [] acc env S = .ok acc S := by rw [evj]
theorem evj_cons (e : E) (es : List E) (acc : Str) : evj (e :: es) acc env S = (ev .V e env S).bind fun w S => match w with
    | .str s => if (acc ++ s).length ≤ sizeL then evj es (acc ++ s) env S else .bad
    | _ => .bad := by first | (rw [evj]; done) | (rw [evj]; rfl)
@[simp] theorem evc_nil : evc [] env S = .ok true S := by rw [evc]
@[simp] theorem evc_one (e : E) : evc [e] env S = (ev .B e env S).bind tstR := by rw [evc]
@[simp] theorem cndF_eq (es : List E) : cndF es env S = evc es env S := id rfl
@[simp] theorem eltF_eq (e : E) : eltF e env S = ev .V e env S := id rfl
@[simp] theorem ev_chain (o1 o2 : Cmp) (a b d : E) : ev c (.chain o1 o2 a b d) env S = (ev .V a env S).bind fun x S => (ev .V b env S).bind fun y S => match cmpW o1 x y with
    | some true => (ev .V d env S).bind fun z S => ofB c (cmpW o2 y z) S
    | some false => ofB c (some false) S
    | none => .bad := by first | (rw [ev]; done) | (rw [ev]; rfl)
/-! statements -/
@[simp] theorem runB_nil : runB [] env S = .nx env S := by unfold runB; rw [execs]
@[simp] theorem runB_cons (s : Wb.S) (r : List Wb.S) : runB (s :: r) env S = (exec s env S).then (runB r) := by unfold runB; rw [execs]
theorem runB_app : ∀ (a b : List Wb.S) (env : Env) (S : Store), runB (a ++ b) env S = (runB a env S).then (runB b)
  | [], b, env, S => by first | (rw [runB_nil]; done) | (rw [runB_nil]; rfl)
  | s :: a, b, env, S => by
    rw [List.cons_append, runB_cons, runB_cons]
    cases exec s env S <;> first | rfl | exact runB_app a b _ _
@[simp] theorem ex_expr (e : E) : exec (.expr e) env S = (ev .B e env S).out env fun _ S => .nx env S := by rw [exec]
@[simp] theorem ex_asg (i : Nat) (e : E) : exec (.asg i e) env S = (ev .V e env S).out env fun w S => .nx (env.put i (.v, w)) S := by rw [exec]
@[simp] theorem ex_asgO (i : Nat) (e : E) : exec (.asgO i e) env S = (ev .F e env S).out env fun w S => .nx (env.put i (.o, w)) S := by rw [exec]
/-- targets, bound -/
def bindO (is : List Nat) (w : W) (env : Env) (S : Store) : Out := match bindTg (.many is) w env with
  | some env' => .nx env' S
  | none => .bad
@[simp] theorem ex_asgT (is : List Nat) (e : E) : exec (.asgT is e) env S = (ev .V e env S).out env fun w S => bindO is w env S := by first | (rw [exec]; done) | (rw [exec]; rfl)
@[simp] theorem bindO_tup {is : List Nat} {ws : List W} (h : ws.length = is.length) : bindO is (.tup ws) env S = .nx ((is.zip ws).foldl (fun e p => e.put p.1 (.v, p.2)) env) S := by
  have e : bindTg (.many is) (.tup ws) env = some ((is.zip ws).foldl (fun e p => e.put p.1 (.v, p.2)) env) := if_pos h
  unfold bindO
  rw [e]
@[simp] theorem ex_aug (i : Nat) (o : Bin) (e : E) : exec (.aug i o e) env S = match env.at i with
    | some (.v, x) => (ev .B e env S).out env fun y S => match binW o x y with
      | some (false, z) => .nx (env.put i (.v, z)) S
      | _ => .bad
    | _ => .bad := by first | (rw [exec]; done) | (rw [exec]; rfl)
@[simp] theorem ex_ret (e : E) : exec (.ret e) env S = (ev .V e env S).out env fun w S => .ret w env S := by rw [exec]
@[simp] theorem ex_retF (e : E) : exec (.retF e) env S = (ev .F e env S).out env fun w S => .ret w env S := by rw [exec]
@[simp] theorem ex_retN : exec .retN env S = .ret .non env S := by rw [exec]
@[simp] theorem ex_retO (i : Nat) : exec (.retO i) env S = match env.at i with
    | some (.o, w) => .ret w env S
    | _ => .bad := by first | (rw [exec]; done) | (rw [exec]; rfl)
@[simp] theorem ex_pass : exec .pass env S = .nx env S := by rw [exec]
@[simp] theorem ex_brk : exec .brk env S = .brk env S := by rw [exec]
@[simp] theorem ex_cont : exec .cont env S = .ct env S := by rw [exec]
@[simp] theorem ex_frz (i : Nat) : exec (.frz i) env S = match env.at i with
    | some (.o, w) => .nx (env.put i (.v, w)) S
    | _ => .bad := by first | (rw [exec]; done) | (rw [exec]; rfl)
@[simp] theorem ex_ife (t : E) (a b : List Wb.S) : exec (.ife t a b) env S = (cdW t env S).out env fun t S => if t then runB a env S else runB b env S := by first | (rw [exec]; done) | (rw [exec]; rfl)
@[simp] theorem cdW_eq (t : E) : cdW t env S = (ev .B t env S).bind tstR := id rfl
@[simp] theorem ex_for (tg : Tg) (k : Src) (ss : List E) (b : List Wb.S) : exec (.for_ tg k ss b) env S = ((evs .V ss env S).bind (itemsR k)).out env fun items S => forGo tg (runB b) items env S := by first | (rw [exec]; done) | (rw [exec]; rfl)
@[simp] theorem ex_whl (t : E) (b : List Wb.S) : exec (.whl t b) env S = whlGo (cdW t) (runB b) fuel env S := by first | (rw [exec]; done) | (rw [exec]; rfl)
@[simp] theorem ex_app (i : Nat) (e : E) : exec (.app (.slot i) e) env S = if ownL (.slot i) env S then (ev .V e env S).out env fun v S => chg (.slot i) (fun w => appW w v) env S else .bad := by rw [exec]; unfold plc; rfl
@[simp] theorem ex_seti (i : Nat) (k e : E) : exec (.seti (.slot i) k e) env S = (ev .V e env S).out env fun v S => if ownA (.slot i) env S then (ev .V k env S).out env fun kw S => chg (.slot i) (fun w => setItW w kw v) env S else .bad := by rw [exec]; unfold plc; rfl
@[simp] theorem ex_raise (x : Xc) (es : List E) : exec (.raise x es) env S = (evs .V es env S).out env fun ws S => if ws.length = x.n then .exn x.nm (x.vals ws) env S else .bad := by rw [exec]
/-- what a try does with an end of its body -/
def catchO (cs : List Str) (hs : List Hnd) : Out → Out
  | .exn c fs env S => if c ∈ cs then hGo c fs hs env S else .bad
  | o => o
@[simp] theorem ex_try (cs : List Str) (b : List Wb.S) (hs : List Hnd) : exec (.try_ cs b hs) env S = catchO cs hs (runB b env S) := by
  rw [exec]
  unfold runB
  cases execs b env S <;> rfl
@[simp] theorem catch_nx {cs : List Str} {hs : List Hnd} : catchO cs hs (.nx env S) = .nx env S := id rfl
@[simp] theorem catch_brk {cs : List Str} {hs : List Hnd} : catchO cs hs (.brk env S) = .brk env S := id rfl
@[simp] theorem catch_ct {cs : List Str} {hs : List Hnd} : catchO cs hs (.ct env S) = .ct env S := id rfl
@[simp] theorem catch_ret {cs : List Str} {hs : List Hnd} {w : W} : catchO cs hs (.ret w env S) = .ret w env S := id rfl
@[simp] theorem catch_exn {cs : List Str} {hs : List Hnd} {x : Str} {fs : List (Str × W)} : catchO cs hs (.exn x fs env S) = if x ∈ cs then hGo x fs hs env S else .bad := id rfl
@[simp] theorem catch_if {cs : List Str} {hs : List Hnd} {p : Prop} [Decidable p] {a b : Out} : catchO cs hs (if p then a else b) = if p then catchO cs hs a else catchO cs hs b := by split <;> rfl
@[simp] theorem hGo_nil {x : Str} {fs : List (Str × W)} : hGo x fs [] env S = .exn x fs env S := id rfl
@[simp] theorem hGo_cons {x : Str} {fs : List (Str × W)} {h : Hnd} {r : List Hnd} : hGo x fs (h :: r) env S = if isSub x h.cls then (runXs x fs h.suite (wipeO h.as env) S).wipe h.as else hGo x fs r env S := id rfl
@[simp] theorem runXs_nil {x : Str} {fs : List (Str × W)} : runXs x fs [] env S = .nx env S := id rfl
@[simp] theorem runXs_cons {x : Str} {fs : List (Str × W)} {s : XS} {r : List XS} : runXs x fs (s :: r) env S = (runX x fs s env S).then fun env S => runXs x fs r env S := id rfl
@[simp] theorem runX_pass {x : Str} {fs : List (Str × W)} : runX x fs .pass env S = .nx env S := id rfl
@[simp] theorem runX_cont {x : Str} {fs : List (Str × W)} : runX x fs .cont env S = .ct env S := id rfl
@[simp] theorem runX_retN {x : Str} {fs : List (Str × W)} : runX x fs .retN env S = .ret .non env S := id rfl
@[simp] theorem runX_ret {x : Str} {fs : List (Str × W)} {v : XV} {w : W} (h : v.val fs env = some w) : runX x fs (.ret v) env S = .ret w env S := by unfold runX; rw [h]
@[simp] theorem runX_asg {x : Str} {fs : List (Str × W)} {v : XV} {w : W} {i : Nat} (h : v.val fs env = some w) : runX x fs (.asg i v) env S = .nx (env.put i (.v, w)) S := by unfold runX; rw [h]
@[simp] theorem runX_ifx {x : Str} {fs : List (Str × W)} {ps : List (Bool × Str)} {s : XS} : runX x fs (.ifx ps s) env S = if ps.any (fun p => isSub x p.2 == p.1) then runX x fs s env S else .nx env S := id rfl
@[simp] theorem wipe_nx {o : Option Nat} : (Out.nx env S).wipe o = .nx (wipeO o env) S := id rfl
@[simp] theorem wipe_ct {o : Option Nat} : (Out.ct env S).wipe o = .ct (wipeO o env) S := id rfl
@[simp] theorem wipe_ret {o : Option Nat} {w : W} : (Out.ret w env S).wipe o = .ret w (wipeO o env) S := id rfl
@[simp] theorem wipe_if {o : Option Nat} {p : Prop} [Decidable p] {a b : Out} : (if p then a else b).wipe o = if p then a.wipe o else b.wipe o := by split <;> rfl
@[simp] theorem wipeO_none : wipeO none env = env := id rfl
@[simp] theorem wipeO_some {i : Nat} : wipeO (some i) env = env.set i none := id rfl
/-- what a body's end hands back -/
def endR (own : List Bool) (fresh : Bool) : Out → R (W × List W)
  | .nx env S => if fresh then .bad else match finW own 0 env with
    | some fs => .ok (.non, fs) S
    | none => .bad
  | .ret w env S => match finW own 0 env with
    | some fs => .ok (w, fs) S
    | none => .bad
  | .exn c fs _ S => .exn c fs S
  | _ => .bad
theorem run_eq {n : Nat} {own : List Bool} {fresh : Bool} {b : List Wb.S} {ws : List W} (hl : own.length = ws.length) : runDef n own fresh b S ws = endR own fresh (runB b (env0 n own ws) S) := by
  unfold runDef
  rw [if_pos hl]
  rfl
@[simp] theorem endR_if {own : List Bool} {fresh : Bool} {p : Prop} [Decidable p] {a b : Out} : endR own fresh (if p then a else b) = if p then endR own fresh a else endR own fresh b := by split <;> rfl
@[simp] theorem endR_exn {own : List Bool} {fresh : Bool} {x : Str} {fs : List (Str × W)} : endR own fresh (.exn x fs env S) = .exn x fs S := id rfl
@[simp] theorem endR_ret1 {w : W} {r : Env} {fresh : Bool} : endR [false] fresh (.ret w r S) = .ok (w, []) S := id rfl
@[simp] theorem endR_ret2 {w : W} {r : Env} {fresh : Bool} : endR [false, false] fresh (.ret w r S) = .ok (w, []) S := id rfl
@[simp] theorem endR_ret3 {w : W} {r : Env} {fresh : Bool} : endR [false, false, false] fresh (.ret w r S) = .ok (w, []) S := id rfl
@[simp] theorem endR_ret4 {w : W} {r : Env} {fresh : Bool} : endR [false, false, false, false] fresh (.ret w r S) = .ok (w, []) S := id rfl
@[simp] theorem endR_ret5 {w : W} {r : Env} {fresh : Bool} : endR [false, false, false, false, false] fresh (.ret w r S) = .ok (w, []) S := id rfl
@[simp] theorem endR_ret6 {w : W} {r : Env} {fresh : Bool} : endR [false, false, false, false, false, false] fresh (.ret w r S) = .ok (w, []) S := id rfl
@[simp] theorem noExn_ok' {α : Type} {a : α} : noExn (.ok a S) = .ok a S := id rfl
@[simp] theorem iter_lst {ws : List W} : itemsR .iter [.lst ws] S = .ok ws S := id rfl
@[simp] theorem iter_ro {ws : List W} : itemsR .iter [.ro ws] S = .ok ws S := id rfl
@[simp] theorem iter_tup {ws : List W} : itemsR .iter [.tup ws] S = .ok ws S := id rfl
@[simp] theorem iter_str {z : Str} : itemsR .iter [.str z] S = .ok (z.cps.toList.map fun c => .str ⟨#[c]⟩) S := id rfl
theorem rng_int (m : Int) (hz : -4611686018427387904 ≤ m ∧ m < 4611686018427387904) : itemsR .range [.int m] S = .ok ((List.range m.toNat).map fun i : Nat => .int (i : Int)) S := by
  unfold itemsR
  rw [show itemsW .range [.int m] = some ((List.range m.toNat).map fun i : Nat => .int (i : Int)) from if_pos hz]
theorem rng_nat (n : Nat) (h : n ≤ sizeL) : itemsR .range [.int n] S = .ok ((List.range n).map fun i : Nat => .int (i : Int)) S := by
  rw [rng_int n (by unfold sizeL at h; constructor <;> omega)]
  simp
/-! ### plain values -/
@[simp] theorem add_int' (i j : Int) : binW .add (.int i) (.int j) = some (false, .int (i + j)) := id rfl
@[simp] theorem sub_int' (i j : Int) : binW .sub (.int i) (.int j) = some (false, .int (i - j)) := id rfl
theorem mul_ok {i j : Int} (h : mulOk i j = true) : binW .mul (.int i) (.int j) = some (false, .int (i * j)) := if_pos h
@[simp] theorem mul_intR {i j : Int} (h : -1000000000000 < j ∧ j < 1000000000000) : binW .mul (.int i) (.int j) = some (false, .int (i * j)) := mul_ok (by
  unfold mulOk
  have e : (2 : Int) ^ 64 = 18446744073709551616 := by decide
  rw [e]
  simp
  omega)
theorem mul_intL {i j : Int} (h : -1000000000000 < i ∧ i < 1000000000000) : binW .mul (.int i) (.int j) = some (false, .int (i * j)) := mul_ok (by
  unfold mulOk
  have e : (2 : Int) ^ 64 = 18446744073709551616 := by decide
  rw [e]
  simp
  omega)
@[simp] theorem mod_int' {i j : Int} (h : 0 < j) : binW .mod (.int i) (.int j) = some (false, .int (i % j)) := by
  show (if j ≠ 0 then some (false, W.int (i.fmod j)) else none) = _
  rw [if_pos (by omega), Int.fmod_eq_emod_of_nonneg _ (by omega)]
@[simp] theorem div_int' {i j : Int} (h : 0 < j ∧ j < 1073741824) : binW .fdiv (.int i) (.int j) = some (false, .int (i / j)) := by
  show (if j ≠ 0 ∧ j.natAbs < 1073741824 then some (false, W.int (i.fdiv j)) else none) = _
  rw [if_pos (by omega), Int.fdiv_eq_ediv_of_nonneg _ (by omega)]
@[simp] theorem lt_int' (i j : Int) : cmpW .lt (.int i) (.int j) = some (decide (i < j)) := id rfl
@[simp] theorem le_int' (i j : Int) : cmpW .le (.int i) (.int j) = some (decide (i ≤ j)) := id rfl
@[simp] theorem gt_int' (i j : Int) : cmpW .gt (.int i) (.int j) = some (decide (j < i)) := id rfl
@[simp] theorem ge_int' (i j : Int) : cmpW .ge (.int i) (.int j) = some (decide (j ≤ i)) := id rfl
theorem eqW_int (i j : Int) : eqW (.int i) (.int j) = some (decide (i = j)) := by
  show (if (SeqAt.shaped (.int i) && SeqAt.shaped (.int j)) = true then some (PyData.eqv (.int i) (.int j)) else none) = _
  have h : (SeqAt.shaped (.int i) && SeqAt.shaped (.int j)) = true := rfl
  rw [if_pos h]
  show some (i == j) = _
  rw [Bool.beq_eq_decide_eq]
@[simp] theorem eq_int' (i j : Int) : cmpW .eq (.int i) (.int j) = some (decide (i = j)) := eqW_int i j
@[simp] theorem ne_int' (i j : Int) : cmpW .ne (.int i) (.int j) = some (!decide (i = j)) := by
  show (eqW (.int i) (.int j)).map (! ·) = _
  rw [eqW_int]; rfl
theorem eqW_bl (i j : Bool) : eqW (.bl i) (.bl j) = some (i == j) := by
  show (if (SeqAt.shaped (.bool i) && SeqAt.shaped (.bool j)) = true then some (PyData.eqv (.bool i) (.bool j)) else none) = _
  have h : (SeqAt.shaped (.bool i) && SeqAt.shaped (.bool j)) = true := rfl
  rw [if_pos h]
  cases i <;> cases j <;> rfl
@[simp] theorem eq_bl' (i j : Bool) : cmpW .eq (.bl i) (.bl j) = some (i == j) := eqW_bl i j
@[simp] theorem ne_bl' (i j : Bool) : cmpW .ne (.bl i) (.bl j) = some (!(i == j)) := by
  show (eqW (.bl i) (.bl j)).map (! ·) = _
  rw [eqW_bl]; rfl
@[simp] theorem bi_int_int (i : Int) : biW .int [.int i] = some (false, .int i) := id rfl
@[simp] theorem bi_int_bl (b : Bool) : biW .int [.bl b] = some (false, .int (if b then 1 else 0)) := id rfl
@[simp] theorem bi_abs (i : Int) : biW .abs [.int i] = some (false, .int (if i < 0 then -i else i)) := id rfl
@[simp] theorem bi_len_lst (ws : List W) : biW .len [.lst ws] = some (false, .int (ws.length : Int)) := id rfl
@[simp] theorem bi_len_ro (ws : List W) : biW .len [.ro ws] = some (false, .int (ws.length : Int)) := id rfl
@[simp] theorem bi_len_tup (ws : List W) : biW .len [.tup ws] = some (false, .int (ws.length : Int)) := id rfl
@[simp] theorem isi_bl_bl (b : Bool) : isiW (.bl b) .bool = some true := id rfl
theorem sub_lst {ws : List W} {k : Nat} {w : W} (h : ws[k]? = some w) : subW (.lst ws) (.int k) = some w := L2.atI_nat h
theorem sub_ro {ws : List W} {k : Nat} {w : W} (h : ws[k]? = some w) : subW (.ro ws) (.int k) = some w := L2.atI_nat h
theorem sub_tup {ws : List W} {k : Nat} {w : W} (h : ws[k]? = some w) : subW (.tup ws) (.int k) = some w := L2.atI_nat h
theorem app_lst {ws : List W} {v : W} (h : ws.length < sizeL) : appW (.lst ws) v = some (.lst (ws ++ [v])) := if_pos h
/-! ### loops -/
/-- a for loop, by what holds ahead of turn k -/
theorem forGo_rule {tg : Tg} {body : Env → Store → Out} {Done : Out → Prop} {items : List W} (I : Nat → Env → Store → Prop) {env : Env} {S : Store} (h0 : I 0 env S)
    (step : ∀ k (hk : k < items.length) env S, I k env S → ∃ env', bindTg tg items[k] env = some env' ∧ match body env' S with
      | .nx env S => I (k + 1) env S
      | .ct env S => I (k + 1) env S
      | .brk env S => Done (.nx env S)
      | o => Done o)
    (fin : ∀ env S, I items.length env S → Done (.nx env S)) : Done (forGo tg body items env S) := by
  have key : ∀ (n k : Nat) (env : Env) (S : Store), k + n = items.length → I k env S → Done (forGo tg body (items.drop k) env S) := by
    intro n
    induction n with
    | zero =>
      intro k env S hk h
      have e : k = items.length := by omega
      subst e
      rw [List.drop_length]
      exact fin env S h
    | succ n ih =>
      intro k env S hk h
      have hlt : k < items.length := by omega
      rw [List.drop_eq_getElem_cons hlt]
      obtain ⟨env', hb, z⟩ := step k hlt env S h
      unfold forGo
      rw [hb]
      dsimp only
      revert z
      cases body env' S with
      | nx env2 S2 => exact fun z => ih (k + 1) env2 S2 (by omega) z
      | ct env2 S2 => exact fun z => ih (k + 1) env2 S2 (by omega) z
      | brk env2 S2 => exact fun z => z
      | ret w env2 S2 => exact fun z => z
      | exn c fs env2 S2 => exact fun z => z
      | bad => exact fun z => z
  have z := key items.length 0 env S (by omega) h0
  rwa [List.drop_zero] at z
/-- a comprehension without tests -/
theorem lcGo_map {tg : Tg} {elt : Env → Store → R W} {f : W → W} : ∀ (items acc : List W), (∀ x ∈ items, ∃ env', bindTg tg x env = some env' ∧ elt env' S = .ok (f x) S) → acc.length + items.length ≤ sizeL →
    lcGo tg (cndF []) elt env items acc S = .ok (acc ++ items.map f) S
  | [], acc, _, _ => by simp [lcGo]
  | x :: xs, acc, h, hl => by
    obtain ⟨env', h1, h2⟩ := h x (by simp)
    unfold lcGo
    rw [h1]
    dsimp only
    rw [cndF_eq, evc_nil, R.bind_ok, if_pos rfl, h2, R.bind_ok, if_pos (by simp at hl; omega)]
    rw [lcGo_map xs (acc ++ [f x]) (fun y hy => h y (by simp [hy])) (by simp at hl ⊢; omega)]
    simp
end Wb
namespace Wb
open PySem PySem.Spec PyProof.Rows
open L2 (V Hp HO Rd RelV Vals)
def top (i : Nat) : Stmt := PySem.Challenge.pw_weirbook_k32_turns.main.body.getD i (.Pass ⟨0, 0, 0, 0⟩)
def X_OutOfRange : Xc := ⟨"OutOfRange", 1, [("label", .cst "OutOfRange"), ("value", .arg 0)]⟩
def X_UnknownName : Xc := ⟨"UnknownName", 1, [("label", .cst "UnknownName"), ("name", .arg 0)]⟩
def X_BadName : Xc := ⟨"BadName", 1, [("label", .cst "BadName"), ("name", .arg 0)]⟩
abbrev XCS : List Str := ["OutOfRange", "UnknownName", "BadName"]
def N_l_draw : List Str := ["cell", "limits", "row", "rest", "great", "k", "mixed"]
def B_l_draw : List S := [.asgO 2 (.lst []), .asg 3 (.bcall .abs [(.var 0)]), .asg 4 (.cmp .ge (.var 3) (.cst (.int 1000000000000000000))), .for_ (.one 5) .range [(.bcall .len [(.var 1)])] [.ife (.and (.tru (.var 4)) (.cmp .ge (.var 3) (.sub (.var 1) (.var 5)))) [.app (.slot 2) (.bin .mod (.bcall .int [(.var 3)]) (.sub (.var 1) (.var 5))), .asg 3 (.bin .fdiv (.var 3) (.sub (.var 1) (.var 5)))] [.asg 6 (.bin .mod (.bcall .int [(.bin .add (.bin .mul (.bcall .abs [(.var 0)]) (.cst (.int 48271))) (.bin .mul (.bin .add (.var 5) (.cst (.int 1))) (.cst (.int 69621))))]) (.cst (.int 2147483647))), .asg 6 (.bin .mod (.bcall .int [(.bin .add (.bin .mul (.var 6) (.cst (.int 16807))) (.bin .mul (.bin .add (.var 5) (.cst (.int 1))) (.cst (.int 40692))))]) (.cst (.int 2147483399))), .app (.slot 2) (.bin .mod (.bcall .int [(.var 6)]) (.sub (.var 1) (.var 5)))]], .frz 2, .ret (.var 2)]
def F_l_draw : Fn := ⟨"_law_draw", none, 1, [false, false], false, [], runDef 7 [false, false] false B_l_draw⟩
def N_check_between : List Str := ["value", "least", "most"]
def B_check_between : List S := [.ife (.or (.cmp .lt (.var 0) (.var 1)) (.cmp .gt (.var 0) (.var 2))) [.raise X_OutOfRange [(.var 0)]] []]
def F_check_between : Fn := ⟨"check_between", none, 3, [false, false, false], false, [], runDef 3 [false, false, false] false B_check_between⟩
def N_is_letter : List Str := ["character"]
def B_is_letter : List S := [.ret (.chain .le .le (.cst (.str "a")) (.var 0) (.cst (.str "z")))]
def F_is_letter : Fn := ⟨"is_letter", none, 1, [false], false, [], runDef 1 [false] false B_is_letter⟩
def N_is_digit : List Str := ["character"]
def B_is_digit : List S := [.ret (.chain .le .le (.cst (.str "0")) (.var 0) (.cst (.str "9")))]
def F_is_digit : Fn := ⟨"is_digit", none, 1, [false], false, [], runDef 1 [false] false B_is_digit⟩
def N_is_name : List Str := ["text", "character"]
def B_is_name : List S := [.ife (.or (.cmp .lt (.bcall .len [(.var 0)]) (.cst (.int 1))) (.or (.cmp .gt (.bcall .len [(.var 0)]) (.glob "LONGEST" (.int 12))) (.not (.tru (.call F_is_letter [(.sub (.var 0) (.cst (.int 0)))] 0))))) [.ret (.cst (.bl false))] [], .for_ (.one 1) .iter [(.var 0)] [.ife (.and (.not (.tru (.call F_is_letter [(.var 1)] 0))) (.not (.tru (.call F_is_digit [(.var 1)] 0)))) [.ret (.cst (.bl false))] []], .ret (.cst (.bl true))]
def F_is_name : Fn := ⟨"is_name", none, 2, [false], false, [], runDef 2 [false] false B_is_name⟩
def N_check_turns : List Str := ["turns", "_", "minutes", "name"]
def B_check_turns : List S := [.expr (.call F_check_between [(.bcall .len [(.var 0)]), (.cst (.int 1)), (.glob "MOST_MEMBERS" (.int 60))] 0), .for_ (.many [1, 2]) .iter [(.var 0)] [.expr (.call F_check_between [(.var 2), (.cst (.int 1)), (.glob "MOST_TURN" (.int 10080))] 0)], .for_ (.many [3, 1]) .iter [(.var 0)] [.ife (.not (.tru (.call F_is_name [(.var 3)] 0))) [.raise X_BadName [(.var 3)]] []]]
def F_check_turns : Fn := ⟨"check_turns", none, 4, [false], false, [], runDef 4 [false] false B_check_turns⟩
def N_check_minute : List Str := ["minute"]
def B_check_minute : List S := [.expr (.call F_check_between [(.var 0), (.cst (.int 0)), (.glob "MOST_MINUTE" (.int 10000000))] 0)]
def F_check_minute : Fn := ⟨"check_minute", none, 4, [false], false, [], runDef 1 [false] false B_check_minute⟩
def N_turn_at : List Str := ["turns", "minute", "rest", "at", "_", "minutes"]
def B_turn_at : List S := [.asg 2 (.bin .mod (.var 1) (.bcall .sum [(.lc (.many [4, 5]) .iter [(.var 0)] [] (.var 5) [("_", 4), ("minutes", 5)])])), .asg 3 (.cst (.int 0)), .whl (.cmp .ge (.var 2) (.sub (.sub (.var 0) (.var 3)) (.cst (.int 1)))) [.aug 2 .sub (.sub (.sub (.var 0) (.var 3)) (.cst (.int 1))), .aug 3 .add (.cst (.int 1))], .ret (.tup [(.var 3), (.bin .sub (.sub (.sub (.var 0) (.var 3)) (.cst (.int 1))) (.var 2))])]
def F_turn_at : Fn := ⟨"turn_at", none, 1, [false, false], false, [], runDef 6 [false, false] false B_turn_at⟩
def N_next_turn : List Str := ["turns", "name", "minute", "at", "left", "other", "_"]
def B_next_turn : List S := [.expr (.call F_check_turns [(.var 0)] 0), .ife (.cmp .notIn (.var 1) (.lc (.many [5, 6]) .iter [(.var 0)] [] (.var 5) [("other", 5), ("_", 6)])) [.raise X_UnknownName [(.var 1)]] [], .expr (.call F_check_minute [(.var 2)] 0), .asgT [3, 4] (.call F_turn_at [(.var 0), (.var 2)] 0), .whl (.cmp .ne (.sub (.sub (.var 0) (.var 3)) (.cst (.int 0))) (.var 1)) [.aug 2 .add (.var 4), .asg 3 (.bin .mod (.bin .add (.var 3) (.cst (.int 1))) (.bcall .len [(.var 0)])), .asg 4 (.sub (.sub (.var 0) (.var 3)) (.cst (.int 1)))], .ret (.var 2)]
def F_next_turn : Fn := ⟨"next_turn", none, 5, [false, false, false], false, [], runDef 7 [false, false, false] false B_next_turn⟩
def N_who_has : List Str := ["turns", "minute"]
def B_who_has : List S := [.expr (.call F_check_turns [(.var 0)] 0), .expr (.call F_check_minute [(.var 1)] 0), .ret (.sub (.sub (.var 0) (.sub (.call F_turn_at [(.var 0), (.var 1)] 0) (.cst (.int 0)))) (.cst (.int 0)))]
def F_who_has : Fn := ⟨"who_has", none, 5, [false, false], false, [], runDef 2 [false, false] false B_who_has⟩
def N_minutes_until : List Str := ["turns", "name", "minute", "own", "found", "rounds", "rest", "other", "minutes", "part", "_"]
def B_minutes_until : List S := [.asg 3 (.bcall .sum [(.lc (.many [7, 8]) .iter [(.var 0)] [(.cmp .eq (.var 7) (.var 1))] (.var 8) [("other", 7), ("minutes", 8)])]), .asgT [5, 6] (.bcall .divmod [(.var 2), (.bcall .sum [(.lc (.many [10, 8]) .iter [(.var 0)] [] (.var 8) [("_", 10), ("minutes", 8)])])]), .asg 4 (.bin .mul (.var 5) (.var 3)), .for_ (.many [7, 8]) .iter [(.var 0)] [.asg 9 (.bcall .min2 [(.var 6), (.var 8)]), .aug 6 .sub (.var 9), .ife (.cmp .eq (.var 7) (.var 1)) [.aug 4 .add (.var 9)] []], .ret (.var 4)]
def F_minutes_until : Fn := ⟨"minutes_until", none, 1, [false, false, false], false, [], runDef 11 [false, false, false] false B_minutes_until⟩
def N_minutes_of : List Str := ["turns", "first", "second", "names", "name", "_"]
def B_minutes_of : List S := [.expr (.call F_check_turns [(.var 0)] 0), .expr (.call F_check_minute [(.var 1)] 0), .expr (.call F_check_minute [(.var 2)] 0), .ife (.cmp .lt (.var 2) (.var 1)) [.raise X_OutOfRange [(.var 2)]] [], .asg 3 (.bcall .list [(.dc (.many [4, 5]) .iter [(.var 0)] [] (.var 4) (.cst (.bl true)) [("name", 4), ("_", 5)])]), .ret (.lc (.one 4) .iter [(.var 3)] [] (.tup [(.var 4), (.bin .sub (.call F_minutes_until [(.var 0), (.var 4), (.var 2)] 0) (.call F_minutes_until [(.var 0), (.var 4), (.var 1)] 0))]) [("name", 4)])]
def F_minutes_of : Fn := ⟨"minutes_of", none, 5, [false, false, false], false, [], runDef 6 [false, false, false] false B_minutes_of⟩
def N_l_told : List Str := ["way", "turns", "a", "b", "e"]
def B_l_told : List S := [.try_ XCS [.ife (.cmp .eq (.var 0) (.cst (.int 0))) [.ret (.tup [(.cst (.str "value")), (.call F_who_has [(.var 1), (.var 2)] 0)])] [], .ife (.cmp .eq (.var 0) (.cst (.int 1))) [.ret (.tup [(.cst (.str "value")), (.call F_minutes_of [(.var 1), (.var 2), (.var 3)] 0)])] [], .ret (.tup [(.cst (.str "value")), (.call F_next_turn [(.var 1), (.var 2), (.var 3)] 0)])] [⟨"OutOfRange", some 4, [.ret (.tup [.cst (.str "range"), .fld "value"])]⟩, ⟨"BadName", some 4, [.ret (.tup [.cst (.str "bad"), .fld "name"])]⟩, ⟨"UnknownName", some 4, [.ret (.tup [.cst (.str "name"), .fld "name"])]⟩, ⟨"WeirError", none, [.ret (.tup [.cst (.str "other"), .cst (.int 0)])]⟩]]
def F_l_told : Fn := ⟨"_law_told", none, 6, [false, false, false, false], false, [], runDef 5 [false, false, false, false] false B_l_told⟩
def N_l_cell : List Str := ["script", "k"]
def B_l_cell : List S := [.ife (.cmp .lt (.var 1) (.bcall .len [(.var 0)])) [.ret (.sub (.var 0) (.var 1))] [], .ret (.cst (.int 0))]
def F_l_cell : Fn := ⟨"_law_cell", none, 1, [false, false], false, [], runDef 2 [false, false] false B_l_cell⟩
def N_l_has : List Str := ["turns", "minute", "whole", "one", "at"]
def B_l_has : List S := [.asg 2 (.cst (.int 0)), .for_ (.one 3) .iter [(.var 0)] [.asg 2 (.bin .add (.var 2) (.sub (.var 3) (.cst (.int 1))))], .asg 4 (.bin .mod (.bcall .int [(.var 1)]) (.var 2)), .for_ (.one 3) .iter [(.var 0)] [.ife (.cmp .lt (.var 4) (.sub (.var 3) (.cst (.int 1)))) [.ret (.sub (.var 3) (.cst (.int 0)))] [], .asg 4 (.bin .sub (.var 4) (.sub (.var 3) (.cst (.int 1))))], .ret (.cst .non)]
def F_l_has : Fn := ⟨"_law_has", none, 1, [false, false], false, [], runDef 5 [false, false] false B_l_has⟩
def N_l_whole : List Str := ["x"]
def B_l_whole : List S := [.ret (.and (.isi (.var 0) .int) (.not (.isi (.var 0) .bool)))]
def F_l_whole : Fn := ⟨"_law_whole", none, 1, [false], false, [], runDef 1 [false] false B_l_whole⟩
def N_l_before : List Str := ["turns", "name", "minute", "whole", "mine", "one", "total", "rest", "part"]
def B_l_before : List S := [.asg 3 (.cst (.int 0)), .asg 4 (.cst (.int 0)), .for_ (.one 5) .iter [(.var 0)] [.asg 3 (.bin .add (.var 3) (.sub (.var 5) (.cst (.int 1)))), .asg 4 (.bin .add (.var 4) (.bin .mul (.sub (.var 5) (.cst (.int 1))) (.bcall .int [(.cmp .eq (.sub (.var 5) (.cst (.int 0))) (.var 1))])))], .asg 6 (.bin .mul (.bin .fdiv (.var 2) (.var 3)) (.var 4)), .asg 7 (.bin .mod (.bcall .int [(.var 2)]) (.var 3)), .for_ (.one 5) .iter [(.var 0)] [.asg 8 (.bcall .min2 [(.var 7), (.sub (.var 5) (.cst (.int 1)))]), .asg 6 (.bin .add (.var 6) (.bin .mul (.var 8) (.bcall .int [(.cmp .eq (.sub (.var 5) (.cst (.int 0))) (.var 1))]))), .asg 7 (.bin .sub (.var 7) (.var 8))], .ret (.var 6)]
def F_l_before : Fn := ⟨"_law_before", none, 1, [false, false, false], false, [], runDef 9 [false, false, false] false B_l_before⟩
def N_l_next : List Str := ["turns", "name", "minute", "whole", "place", "k", "rest", "found", "one"]
def B_l_next : List S := [.asg 4 (.var 2), .for_ (.one 5) .range [(.bin .add (.bin .mul (.cst (.int 2)) (.bcall .len [(.var 0)])) (.cst (.int 2)))] [.asg 6 (.bin .mod (.bcall .int [(.var 4)]) (.var 3)), .asg 7 (.cst .non), .for_ (.one 8) .iter [(.var 0)] [.ife (.cmp .isN (.var 7) (.cst .non)) [.ife (.cmp .lt (.var 6) (.sub (.var 8) (.cst (.int 1)))) [.asg 7 (.var 8)] [.asg 6 (.bin .sub (.var 6) (.sub (.var 8) (.cst (.int 1))))]] []], .ife (.cmp .eq (.sub (.var 7) (.cst (.int 0))) (.var 1)) [.ret (.var 4)] [], .asg 4 (.bin .sub (.bin .add (.var 4) (.sub (.var 7) (.cst (.int 1)))) (.var 6))], .ret (.cst .non)]
def F_l_next : Fn := ⟨"_law_next", none, 1, [false, false, false, false], false, [], runDef 9 [false, false, false, false] false B_l_next⟩
def N_law : List Str := ["script", "count", "limit", "drawn", "turns", "whole", "names", "one", "minute", "second", "due", "told", "start", "name", "k"]
def B_law : List S := [.asg 1 (.bin .add (.cst (.int 1)) (.bin .mod (.bcall .int [(.call F_l_cell [(.var 0), (.cst (.int 0))] 0)]) (.cst (.int 6)))), .asg 2 (.sub (.lst [(.cst (.int 6)), (.cst (.int 60)), (.cst (.int 10080))]) (.bin .mod (.bin .fdiv (.bcall .int [(.call F_l_cell [(.var 0), (.cst (.int 0))] 0)]) (.cst (.int 6))) (.cst (.int 3)))), .asg 3 (.call F_l_draw [(.call F_l_cell [(.var 0), (.cst (.int 1))] 0), (.lc (.one 14) .range [(.var 1)] [] (.var 2) [("k", 14)])] 0), .asg 4 (.lc (.one 14) .range [(.var 1)] [] (.tup [(.sub (.lst [(.cst (.str "ann")), (.cst (.str "ben")), (.cst (.str "cat")), (.cst (.str "ann")), (.cst (.str "dan")), (.cst (.str "ben"))]) (.var 14)), (.bin .add (.cst (.int 1)) (.sub (.var 3) (.var 14)))]) [("k", 14)]), .asg 5 (.cst (.int 0)), .asgO 6 (.lst []), .for_ (.one 7) .iter [(.var 4)] [.asg 5 (.bin .add (.var 5) (.sub (.var 7) (.cst (.int 1)))), .ife (.cmp .notIn (.sub (.var 7) (.cst (.int 0))) (.var 6)) [.app (.slot 6) (.sub (.var 7) (.cst (.int 0)))] []], .asg 8 (.bin .mod (.bcall .int [(.call F_l_cell [(.var 0), (.cst (.int 2))] 0)]) (.cst (.int 10000001))), .ife (.cmp .ne (.call F_l_told [(.cst (.int 0)), (.var 4), (.var 8), (.cst (.int 0))] 0) (.tup [(.cst (.str "value")), (.call F_l_has [(.var 4), (.var 8)] 0)])) [.ret (.cst (.bl false))] [], .asg 9 (.bcall .min2 [(.cst (.int 10000000)), (.bin .add (.var 8) (.bin .mod (.bcall .int [(.call F_l_cell [(.var 0), (.cst (.int 3))] 0)]) (.bin .add (.bin .mul (.cst (.int 4)) (.var 5)) (.cst (.int 1)))))]), .frz 6, .asg 10 (.lc (.one 13) .iter [(.var 6)] [] (.tup [(.var 13), (.bin .sub (.call F_l_before [(.var 4), (.var 13), (.var 9)] 0) (.call F_l_before [(.var 4), (.var 13), (.var 8)] 0))]) [("name", 13)]), .asg 11 (.call F_l_told [(.cst (.int 1)), (.var 4), (.var 8), (.var 9)] 0), .ife (.cmp .ne (.var 11) (.tup [(.cst (.str "value")), (.var 10)])) [.ret (.cst (.bl false))] [], .for_ (.one 7) .iter [(.sub (.var 11) (.cst (.int 1)))] [.ife (.not (.tru (.call F_l_whole [(.sub (.var 7) (.cst (.int 1)))] 0))) [.ret (.cst (.bl false))] []], .asg 12 (.bcall .max2 [(.cst (.int 0)), (.bin .sub (.var 8) (.bin .mul (.cst (.int 2)) (.var 5)))]), .for_ (.one 13) .iter [(.var 6)] [.ife (.cmp .ne (.call F_l_told [(.cst (.int 2)), (.var 4), (.var 13), (.var 12)] 0) (.tup [(.cst (.str "value")), (.call F_l_next [(.var 4), (.var 13), (.var 12), (.var 5)] 0)])) [.ret (.cst (.bl false))] []], .ife (.or (.cmp .ne (.call F_l_told [(.cst (.int 0)), (.lst []), (.neg (.cst (.int 1))), (.cst (.int 0))] 0) (.tup [(.cst (.str "range")), (.cst (.int 0))])) (.or (.cmp .ne (.call F_l_told [(.cst (.int 0)), (.lst [(.tup [(.cst (.str "A")), (.cst (.int 0))])]), (.neg (.cst (.int 1))), (.cst (.int 0))] 0) (.tup [(.cst (.str "range")), (.cst (.int 0))])) (.cmp .ne (.call F_l_told [(.cst (.int 0)), (.lst [(.tup [(.cst (.str "A")), (.cst (.int 5))])]), (.neg (.cst (.int 1))), (.cst (.int 0))] 0) (.tup [(.cst (.str "bad")), (.cst (.str "A"))])))) [.ret (.cst (.bl false))] [], .ife (.or (.cmp .ne (.call F_l_told [(.cst (.int 0)), (.bin .mul (.lst [(.tup [(.cst (.str "a")), (.cst (.int 5))])]) (.cst (.int 61))), (.cst (.int 0)), (.cst (.int 0))] 0) (.tup [(.cst (.str "range")), (.cst (.int 61))])) (.cmp .ne (.call F_l_told [(.cst (.int 0)), (.lst [(.tup [(.cst (.str "a")), (.cst (.int 5))]), (.tup [(.cst (.str "b")), (.cst (.int 10081))])]), (.cst (.int 0)), (.cst (.int 0))] 0) (.tup [(.cst (.str "range")), (.cst (.int 10081))]))) [.ret (.cst (.bl false))] [], .ife (.or (.cmp .ne (.call F_l_told [(.cst (.int 2)), (.var 4), (.cst (.str "zed")), (.neg (.cst (.int 1)))] 0) (.tup [(.cst (.str "name")), (.cst (.str "zed"))])) (.cmp .ne (.call F_l_told [(.cst (.int 0)), (.var 4), (.cst (.int 10000001)), (.cst (.int 0))] 0) (.tup [(.cst (.str "range")), (.cst (.int 10000001))]))) [.ret (.cst (.bl false))] [], .ret (.and (.cmp .eq (.call F_l_told [(.cst (.int 1)), (.var 4), (.cst (.int 5)), (.cst (.int 4))] 0) (.tup [(.cst (.str "range")), (.cst (.int 4))])) (.cmp .eq (.call F_l_told [(.cst (.int 1)), (.var 4), (.neg (.cst (.int 1))), (.neg (.cst (.int 2)))] 0) (.tup [(.cst (.str "range")), (.neg (.cst (.int 1)))])))]
def F_law : Fn := ⟨"law", none, 7, [false], false, [], runDef 15 [false] false B_law⟩
def clsDef (st : Stmt) (i : Nat) : Stmt := match st with | .ClassDef _ _ _ b _ _ _ _ _ _ _ => b.getD i (.Pass ⟨0, 0, 0, 0⟩) | _ => .Pass ⟨0, 0, 0, 0⟩
abbrev i_OutOfRange : Stmt := clsDef (top 2) 0
abbrev P_OutOfRange : List Str := ["self", "value"]
theorem xs_OutOfRange : NdefX.nscB (P_OutOfRange ++ [("__class__" : Str)]) P_OutOfRange ["__class__"] (L2.defScope i_OutOfRange) = true := by decide +kernel
theorem xm_OutOfRange : mIniD (P_OutOfRange ++ [("__class__" : Str)]) (L2.defScope i_OutOfRange) X_OutOfRange (L2.defBody i_OutOfRange) = true := by decide +kernel
abbrev i_UnknownName : Stmt := clsDef (top 3) 0
abbrev P_UnknownName : List Str := ["self", "name"]
theorem xs_UnknownName : NdefX.nscB (P_UnknownName ++ [("__class__" : Str)]) P_UnknownName ["__class__"] (L2.defScope i_UnknownName) = true := by decide +kernel
theorem xm_UnknownName : mIniD (P_UnknownName ++ [("__class__" : Str)]) (L2.defScope i_UnknownName) X_UnknownName (L2.defBody i_UnknownName) = true := by decide +kernel
abbrev i_BadName : Stmt := clsDef (top 4) 0
abbrev P_BadName : List Str := ["self", "name"]
theorem xs_BadName : NdefX.nscB (P_BadName ++ [("__class__" : Str)]) P_BadName ["__class__"] (L2.defScope i_BadName) = true := by decide +kernel
theorem xm_BadName : mIniD (P_BadName ++ [("__class__" : Str)]) (L2.defScope i_BadName) X_BadName (L2.defBody i_BadName) = true := by decide +kernel
abbrev s_l_draw : Stmt := top 25
theorem sc_l_draw : L2.FnScope N_l_draw ["cell", "limits"] (L2.defScope s_l_draw) := ⟨rfl, rfl, rfl, by decide +kernel, rfl, by decide +kernel, by decide +kernel⟩
theorem mm_l_draw : mSs 60 (infOf N_l_draw (L2.defScope s_l_draw) 0) (bdOf F_l_draw.own F_l_draw.fresh) (L2.defBody s_l_draw) B_l_draw = true := by decide +kernel
abbrev s_check_between : Stmt := top 6
theorem sc_check_between : L2.FnScope N_check_between ["value", "least", "most"] (L2.defScope s_check_between) := ⟨rfl, rfl, rfl, by decide +kernel, rfl, by decide +kernel, by decide +kernel⟩
theorem mm_check_between : mSs 60 (infOf N_check_between (L2.defScope s_check_between) 2) (bdOf F_check_between.own F_check_between.fresh) (L2.defBody s_check_between) B_check_between = true := by decide +kernel
abbrev s_is_letter : Stmt := top 9
theorem sc_is_letter : L2.FnScope N_is_letter ["character"] (L2.defScope s_is_letter) := ⟨rfl, rfl, rfl, by decide +kernel, rfl, by decide +kernel, by decide +kernel⟩
theorem mm_is_letter : mSs 60 (infOf N_is_letter (L2.defScope s_is_letter) 0) (bdOf F_is_letter.own F_is_letter.fresh) (L2.defBody s_is_letter) B_is_letter = true := by decide +kernel
abbrev s_is_digit : Stmt := top 10
theorem sc_is_digit : L2.FnScope N_is_digit ["character"] (L2.defScope s_is_digit) := ⟨rfl, rfl, rfl, by decide +kernel, rfl, by decide +kernel, by decide +kernel⟩
theorem mm_is_digit : mSs 60 (infOf N_is_digit (L2.defScope s_is_digit) 0) (bdOf F_is_digit.own F_is_digit.fresh) (L2.defBody s_is_digit) B_is_digit = true := by decide +kernel
abbrev s_is_name : Stmt := top 11
theorem sc_is_name : L2.FnScope N_is_name ["text"] (L2.defScope s_is_name) := ⟨rfl, rfl, rfl, by decide +kernel, rfl, by decide +kernel, by decide +kernel⟩
theorem mm_is_name : mSs 60 (infOf N_is_name (L2.defScope s_is_name) 1) (bdOf F_is_name.own F_is_name.fresh) (L2.defBody s_is_name) B_is_name = true := by decide +kernel
abbrev s_check_turns : Stmt := top 16
theorem sc_check_turns : L2.FnScope N_check_turns ["turns"] (L2.defScope s_check_turns) := ⟨rfl, rfl, rfl, by decide +kernel, rfl, by decide +kernel, by decide +kernel⟩
theorem mm_check_turns : mSs 60 (infOf N_check_turns (L2.defScope s_check_turns) 3) (bdOf F_check_turns.own F_check_turns.fresh) (L2.defBody s_check_turns) B_check_turns = true := by decide +kernel
abbrev s_check_minute : Stmt := top 17
theorem sc_check_minute : L2.FnScope N_check_minute ["minute"] (L2.defScope s_check_minute) := ⟨rfl, rfl, rfl, by decide +kernel, rfl, by decide +kernel, by decide +kernel⟩
theorem mm_check_minute : mSs 60 (infOf N_check_minute (L2.defScope s_check_minute) 3) (bdOf F_check_minute.own F_check_minute.fresh) (L2.defBody s_check_minute) B_check_minute = true := by decide +kernel
abbrev s_turn_at : Stmt := top 18
theorem sc_turn_at : L2.FnScope N_turn_at ["turns", "minute"] (L2.defScope s_turn_at) := ⟨rfl, rfl, rfl, by decide +kernel, rfl, by decide +kernel, by decide +kernel⟩
theorem mm_turn_at : mSs 60 (infOf N_turn_at (L2.defScope s_turn_at) 0) (bdOf F_turn_at.own F_turn_at.fresh) (L2.defBody s_turn_at) B_turn_at = true := by decide +kernel
abbrev s_next_turn : Stmt := top 22
theorem sc_next_turn : L2.FnScope N_next_turn ["turns", "name", "minute"] (L2.defScope s_next_turn) := ⟨rfl, rfl, rfl, by decide +kernel, rfl, by decide +kernel, by decide +kernel⟩
theorem mm_next_turn : mSs 60 (infOf N_next_turn (L2.defScope s_next_turn) 4) (bdOf F_next_turn.own F_next_turn.fresh) (L2.defBody s_next_turn) B_next_turn = true := by decide +kernel
abbrev s_who_has : Stmt := top 19
theorem sc_who_has : L2.FnScope N_who_has ["turns", "minute"] (L2.defScope s_who_has) := ⟨rfl, rfl, rfl, by decide +kernel, rfl, by decide +kernel, by decide +kernel⟩
theorem mm_who_has : mSs 60 (infOf N_who_has (L2.defScope s_who_has) 4) (bdOf F_who_has.own F_who_has.fresh) (L2.defBody s_who_has) B_who_has = true := by decide +kernel
abbrev s_minutes_until : Stmt := top 20
theorem sc_minutes_until : L2.FnScope N_minutes_until ["turns", "name", "minute"] (L2.defScope s_minutes_until) := ⟨rfl, rfl, rfl, by decide +kernel, rfl, by decide +kernel, by decide +kernel⟩
theorem mm_minutes_until : mSs 60 (infOf N_minutes_until (L2.defScope s_minutes_until) 0) (bdOf F_minutes_until.own F_minutes_until.fresh) (L2.defBody s_minutes_until) B_minutes_until = true := by decide +kernel
abbrev s_minutes_of : Stmt := top 21
theorem sc_minutes_of : L2.FnScope N_minutes_of ["turns", "first", "second"] (L2.defScope s_minutes_of) := ⟨rfl, rfl, rfl, by decide +kernel, rfl, by decide +kernel, by decide +kernel⟩
theorem mm_minutes_of : mSs 60 (infOf N_minutes_of (L2.defScope s_minutes_of) 4) (bdOf F_minutes_of.own F_minutes_of.fresh) (L2.defBody s_minutes_of) B_minutes_of = true := by decide +kernel
abbrev s_l_told : Stmt := top 27
theorem sc_l_told : L2.FnScope N_l_told ["way", "turns", "a", "b"] (L2.defScope s_l_told) := ⟨rfl, rfl, rfl, by decide +kernel, rfl, by decide +kernel, by decide +kernel⟩
theorem mm_l_told : mSs 60 (infOf N_l_told (L2.defScope s_l_told) 5) (bdOf F_l_told.own F_l_told.fresh) (L2.defBody s_l_told) B_l_told = true := by decide +kernel
abbrev s_l_cell : Stmt := top 24
theorem sc_l_cell : L2.FnScope N_l_cell ["script", "k"] (L2.defScope s_l_cell) := ⟨rfl, rfl, rfl, by decide +kernel, rfl, by decide +kernel, by decide +kernel⟩
theorem mm_l_cell : mSs 60 (infOf N_l_cell (L2.defScope s_l_cell) 0) (bdOf F_l_cell.own F_l_cell.fresh) (L2.defBody s_l_cell) B_l_cell = true := by decide +kernel
abbrev s_l_has : Stmt := top 28
theorem sc_l_has : L2.FnScope N_l_has ["turns", "minute"] (L2.defScope s_l_has) := ⟨rfl, rfl, rfl, by decide +kernel, rfl, by decide +kernel, by decide +kernel⟩
theorem mm_l_has : mSs 60 (infOf N_l_has (L2.defScope s_l_has) 0) (bdOf F_l_has.own F_l_has.fresh) (L2.defBody s_l_has) B_l_has = true := by decide +kernel
abbrev s_l_whole : Stmt := top 26
theorem sc_l_whole : L2.FnScope N_l_whole ["x"] (L2.defScope s_l_whole) := ⟨rfl, rfl, rfl, by decide +kernel, rfl, by decide +kernel, by decide +kernel⟩
theorem mm_l_whole : mSs 60 (infOf N_l_whole (L2.defScope s_l_whole) 0) (bdOf F_l_whole.own F_l_whole.fresh) (L2.defBody s_l_whole) B_l_whole = true := by decide +kernel
abbrev s_l_before : Stmt := top 29
theorem sc_l_before : L2.FnScope N_l_before ["turns", "name", "minute"] (L2.defScope s_l_before) := ⟨rfl, rfl, rfl, by decide +kernel, rfl, by decide +kernel, by decide +kernel⟩
theorem mm_l_before : mSs 60 (infOf N_l_before (L2.defScope s_l_before) 0) (bdOf F_l_before.own F_l_before.fresh) (L2.defBody s_l_before) B_l_before = true := by decide +kernel
abbrev s_l_next : Stmt := top 30
theorem sc_l_next : L2.FnScope N_l_next ["turns", "name", "minute", "whole"] (L2.defScope s_l_next) := ⟨rfl, rfl, rfl, by decide +kernel, rfl, by decide +kernel, by decide +kernel⟩
theorem mm_l_next : mSs 60 (infOf N_l_next (L2.defScope s_l_next) 0) (bdOf F_l_next.own F_l_next.fresh) (L2.defBody s_l_next) B_l_next = true := by decide +kernel
abbrev s_law : Stmt := top 31
theorem sc_law : L2.FnScope N_law ["script"] (L2.defScope s_law) := ⟨rfl, rfl, rfl, by decide +kernel, rfl, by decide +kernel, by decide +kernel⟩
theorem mm_law : mSs 60 (infOf N_law (L2.defScope s_law) 6) (bdOf F_law.own F_law.fresh) (L2.defBody s_law) B_law = true := by decide +kernel
abbrev tx (ca : List (Str × Addr)) (P : Program) (w : World) (K : PySem.W.Frag) (mg : Str → Option Value) (base : Heap) : Tx := { K := K, ca := fun s => (ca.lookup s).getD 0, prog := P, w := w, base := base, mg := mg }
set_option maxHeartbeats 0 in
theorem all_mk {P : Program} {w : World} {K : PySem.W.Frag} {h : Heap} {mg : Str → Option Value} {fa : Addr} {f1 : Addr} {od1 an1 : Option Addr} {sl1 : Array (Option Value)} {oc1 kV1 dc1 pm1 cd1 ct1 : Value} {f2 : Addr} {od2 an2 : Option Addr} {sl2 : Array (Option Value)} {oc2 kV2 dc2 pm2 cd2 ct2 : Value} {f3 : Addr} {od3 an3 : Option Addr} {sl3 : Array (Option Value)} {oc3 kV3 dc3 pm3 cd3 ct3 : Value} {f4 : Addr} {od4 an4 : Option Addr} {sl4 : Array (Option Value)} {oc4 kV4 dc4 pm4 cd4 ct4 : Value} {f5 : Addr} {od5 an5 : Option Addr} {sl5 : Array (Option Value)} {oc5 kV5 dc5 pm5 cd5 ct5 : Value} {f6 : Addr} {od6 an6 : Option Addr} {sl6 : Array (Option Value)} {oc6 kV6 dc6 pm6 cd6 ct6 : Value} {f7 : Addr} {od7 an7 : Option Addr} {sl7 : Array (Option Value)} {oc7 kV7 dc7 pm7 cd7 ct7 : Value} {f8 : Addr} {od8 an8 : Option Addr} {sl8 : Array (Option Value)} {oc8 kV8 dc8 pm8 cd8 ct8 : Value} {f9 : Addr} {od9 an9 : Option Addr} {sl9 : Array (Option Value)} {oc9 kV9 dc9 pm9 cd9 ct9 : Value} {f10 : Addr} {od10 an10 : Option Addr} {sl10 : Array (Option Value)} {oc10 kV10 dc10 pm10 cd10 ct10 : Value} {f11 : Addr} {od11 an11 : Option Addr} {sl11 : Array (Option Value)} {oc11 kV11 dc11 pm11 cd11 ct11 : Value} {f12 : Addr} {od12 an12 : Option Addr} {sl12 : Array (Option Value)} {oc12 kV12 dc12 pm12 cd12 ct12 : Value} {f13 : Addr} {od13 an13 : Option Addr} {sl13 : Array (Option Value)} {oc13 kV13 dc13 pm13 cd13 ct13 : Value} {f14 : Addr} {od14 an14 : Option Addr} {sl14 : Array (Option Value)} {oc14 kV14 dc14 pm14 cd14 ct14 : Value} {f15 : Addr} {od15 an15 : Option Addr} {sl15 : Array (Option Value)} {oc15 kV15 dc15 pm15 cd15 ct15 : Value} {f16 : Addr} {od16 an16 : Option Addr} {sl16 : Array (Option Value)} {oc16 kV16 dc16 pm16 cd16 ct16 : Value} {f17 : Addr} {od17 an17 : Option Addr} {sl17 : Array (Option Value)} {oc17 kV17 dc17 pm17 cd17 ct17 : Value} {f18 : Addr} {od18 an18 : Option Addr} {sl18 : Array (Option Value)} {oc18 kV18 dc18 pm18 cd18 ct18 : Value} {f19 : Addr} {od19 an19 : Option Addr} {sl19 : Array (Option Value)} {oc19 kV19 dc19 pm19 cd19 ct19 : Value} {C1 F1 D1 B1 A1 : Addr} {nm1 qn1 : Str} {bs1 bm1 sb1 : List Value} {sn1 : List Str} {ab1 : Bool} {co1 : Option Bool} {dd1 : Option Addr} {ka1 kb1 kc1 kd1 ke1 : Option Value} {xoc1 xkV1 xdc1 xpm1 xct1 : Value} {xod1 xan1 : Option Addr} {xsl1 : Array (Option Value)} {ycl1 zcl1 : Value} {ydd1 zdd1 : Option Addr} {yvs1 : Array Value} {ysl1 zsl1 : Array (Option Value)} {yf1 : Str} {yt1 : Tok} {C2 F2 D2 B2 A2 : Addr} {nm2 qn2 : Str} {bs2 bm2 sb2 : List Value} {sn2 : List Str} {ab2 : Bool} {co2 : Option Bool} {dd2 : Option Addr} {ka2 kb2 kc2 kd2 ke2 : Option Value} {xoc2 xkV2 xdc2 xpm2 xct2 : Value} {xod2 xan2 : Option Addr} {xsl2 : Array (Option Value)} {ycl2 zcl2 : Value} {ydd2 zdd2 : Option Addr} {yvs2 : Array Value} {ysl2 zsl2 : Array (Option Value)} {yf2 : Str} {yt2 : Tok} {C3 F3 D3 B3 A3 : Addr} {nm3 qn3 : Str} {bs3 bm3 sb3 : List Value} {sn3 : List Str} {ab3 : Bool} {co3 : Option Bool} {dd3 : Option Addr} {ka3 kb3 kc3 kd3 ke3 : Option Value} {xoc3 xkV3 xdc3 xpm3 xct3 : Value} {xod3 xan3 : Option Addr} {xsl3 : Array (Option Value)} {ycl3 zcl3 : Value} {ydd3 zdd3 : Option Addr} {yvs3 : Array Value} {ysl3 zsl3 : Array (Option Value)} {yf3 : Str} {yt3 : Tok} {W4 : Addr} {u1 : Value} {u2 : Value} {u3 : Value} {u4 : Value}
    (X : K.In h) (G : h.Ns mainGlobals mg) (hfa : mg "law" = some (.ref fa))
    (a1 : PySem.W.nsIn K mainGlobals "_law_draw" = some (some (.ref f1)))
    (l1 : K.lookup f1 = some ⟨oc1, od1, .func (PySem.W.fnOf "_law_draw" "_law_draw" (L2.defArgs s_l_draw) (L2.defBody s_l_draw) (L2.defScope s_l_draw) .none kV1 dc1 pm1 an1 cd1 ct1), sl1⟩)
    (c1 : PySem.W.codeIn K cd1 "_law_draw" = true)
    (k1 : PySem.W.keepIn K (.ref f1) = true)
    (a2 : PySem.W.nsIn K mainGlobals "check_between" = some (some (.ref f2)))
    (l2 : K.lookup f2 = some ⟨oc2, od2, .func (PySem.W.fnOf "check_between" "check_between" (L2.defArgs s_check_between) (L2.defBody s_check_between) (L2.defScope s_check_between) .none kV2 dc2 pm2 an2 cd2 ct2), sl2⟩)
    (c2 : PySem.W.codeIn K cd2 "check_between" = true)
    (k2 : PySem.W.keepIn K (.ref f2) = true)
    (a3 : PySem.W.nsIn K mainGlobals "is_letter" = some (some (.ref f3)))
    (l3 : K.lookup f3 = some ⟨oc3, od3, .func (PySem.W.fnOf "is_letter" "is_letter" (L2.defArgs s_is_letter) (L2.defBody s_is_letter) (L2.defScope s_is_letter) .none kV3 dc3 pm3 an3 cd3 ct3), sl3⟩)
    (c3 : PySem.W.codeIn K cd3 "is_letter" = true)
    (k3 : PySem.W.keepIn K (.ref f3) = true)
    (a4 : PySem.W.nsIn K mainGlobals "is_digit" = some (some (.ref f4)))
    (l4 : K.lookup f4 = some ⟨oc4, od4, .func (PySem.W.fnOf "is_digit" "is_digit" (L2.defArgs s_is_digit) (L2.defBody s_is_digit) (L2.defScope s_is_digit) .none kV4 dc4 pm4 an4 cd4 ct4), sl4⟩)
    (c4 : PySem.W.codeIn K cd4 "is_digit" = true)
    (k4 : PySem.W.keepIn K (.ref f4) = true)
    (a5 : PySem.W.nsIn K mainGlobals "is_name" = some (some (.ref f5)))
    (l5 : K.lookup f5 = some ⟨oc5, od5, .func (PySem.W.fnOf "is_name" "is_name" (L2.defArgs s_is_name) (L2.defBody s_is_name) (L2.defScope s_is_name) .none kV5 dc5 pm5 an5 cd5 ct5), sl5⟩)
    (c5 : PySem.W.codeIn K cd5 "is_name" = true)
    (k5 : PySem.W.keepIn K (.ref f5) = true)
    (a6 : PySem.W.nsIn K mainGlobals "check_turns" = some (some (.ref f6)))
    (l6 : K.lookup f6 = some ⟨oc6, od6, .func (PySem.W.fnOf "check_turns" "check_turns" (L2.defArgs s_check_turns) (L2.defBody s_check_turns) (L2.defScope s_check_turns) .none kV6 dc6 pm6 an6 cd6 ct6), sl6⟩)
    (c6 : PySem.W.codeIn K cd6 "check_turns" = true)
    (k6 : PySem.W.keepIn K (.ref f6) = true)
    (a7 : PySem.W.nsIn K mainGlobals "check_minute" = some (some (.ref f7)))
    (l7 : K.lookup f7 = some ⟨oc7, od7, .func (PySem.W.fnOf "check_minute" "check_minute" (L2.defArgs s_check_minute) (L2.defBody s_check_minute) (L2.defScope s_check_minute) .none kV7 dc7 pm7 an7 cd7 ct7), sl7⟩)
    (c7 : PySem.W.codeIn K cd7 "check_minute" = true)
    (k7 : PySem.W.keepIn K (.ref f7) = true)
    (a8 : PySem.W.nsIn K mainGlobals "turn_at" = some (some (.ref f8)))
    (l8 : K.lookup f8 = some ⟨oc8, od8, .func (PySem.W.fnOf "turn_at" "turn_at" (L2.defArgs s_turn_at) (L2.defBody s_turn_at) (L2.defScope s_turn_at) .none kV8 dc8 pm8 an8 cd8 ct8), sl8⟩)
    (c8 : PySem.W.codeIn K cd8 "turn_at" = true)
    (k8 : PySem.W.keepIn K (.ref f8) = true)
    (a9 : PySem.W.nsIn K mainGlobals "next_turn" = some (some (.ref f9)))
    (l9 : K.lookup f9 = some ⟨oc9, od9, .func (PySem.W.fnOf "next_turn" "next_turn" (L2.defArgs s_next_turn) (L2.defBody s_next_turn) (L2.defScope s_next_turn) .none kV9 dc9 pm9 an9 cd9 ct9), sl9⟩)
    (c9 : PySem.W.codeIn K cd9 "next_turn" = true)
    (k9 : PySem.W.keepIn K (.ref f9) = true)
    (a10 : PySem.W.nsIn K mainGlobals "who_has" = some (some (.ref f10)))
    (l10 : K.lookup f10 = some ⟨oc10, od10, .func (PySem.W.fnOf "who_has" "who_has" (L2.defArgs s_who_has) (L2.defBody s_who_has) (L2.defScope s_who_has) .none kV10 dc10 pm10 an10 cd10 ct10), sl10⟩)
    (c10 : PySem.W.codeIn K cd10 "who_has" = true)
    (k10 : PySem.W.keepIn K (.ref f10) = true)
    (a11 : PySem.W.nsIn K mainGlobals "minutes_until" = some (some (.ref f11)))
    (l11 : K.lookup f11 = some ⟨oc11, od11, .func (PySem.W.fnOf "minutes_until" "minutes_until" (L2.defArgs s_minutes_until) (L2.defBody s_minutes_until) (L2.defScope s_minutes_until) .none kV11 dc11 pm11 an11 cd11 ct11), sl11⟩)
    (c11 : PySem.W.codeIn K cd11 "minutes_until" = true)
    (k11 : PySem.W.keepIn K (.ref f11) = true)
    (a12 : PySem.W.nsIn K mainGlobals "minutes_of" = some (some (.ref f12)))
    (l12 : K.lookup f12 = some ⟨oc12, od12, .func (PySem.W.fnOf "minutes_of" "minutes_of" (L2.defArgs s_minutes_of) (L2.defBody s_minutes_of) (L2.defScope s_minutes_of) .none kV12 dc12 pm12 an12 cd12 ct12), sl12⟩)
    (c12 : PySem.W.codeIn K cd12 "minutes_of" = true)
    (k12 : PySem.W.keepIn K (.ref f12) = true)
    (a13 : PySem.W.nsIn K mainGlobals "_law_told" = some (some (.ref f13)))
    (l13 : K.lookup f13 = some ⟨oc13, od13, .func (PySem.W.fnOf "_law_told" "_law_told" (L2.defArgs s_l_told) (L2.defBody s_l_told) (L2.defScope s_l_told) .none kV13 dc13 pm13 an13 cd13 ct13), sl13⟩)
    (c13 : PySem.W.codeIn K cd13 "_law_told" = true)
    (k13 : PySem.W.keepIn K (.ref f13) = true)
    (a14 : PySem.W.nsIn K mainGlobals "_law_cell" = some (some (.ref f14)))
    (l14 : K.lookup f14 = some ⟨oc14, od14, .func (PySem.W.fnOf "_law_cell" "_law_cell" (L2.defArgs s_l_cell) (L2.defBody s_l_cell) (L2.defScope s_l_cell) .none kV14 dc14 pm14 an14 cd14 ct14), sl14⟩)
    (c14 : PySem.W.codeIn K cd14 "_law_cell" = true)
    (k14 : PySem.W.keepIn K (.ref f14) = true)
    (a15 : PySem.W.nsIn K mainGlobals "_law_has" = some (some (.ref f15)))
    (l15 : K.lookup f15 = some ⟨oc15, od15, .func (PySem.W.fnOf "_law_has" "_law_has" (L2.defArgs s_l_has) (L2.defBody s_l_has) (L2.defScope s_l_has) .none kV15 dc15 pm15 an15 cd15 ct15), sl15⟩)
    (c15 : PySem.W.codeIn K cd15 "_law_has" = true)
    (k15 : PySem.W.keepIn K (.ref f15) = true)
    (a16 : PySem.W.nsIn K mainGlobals "_law_whole" = some (some (.ref f16)))
    (l16 : K.lookup f16 = some ⟨oc16, od16, .func (PySem.W.fnOf "_law_whole" "_law_whole" (L2.defArgs s_l_whole) (L2.defBody s_l_whole) (L2.defScope s_l_whole) .none kV16 dc16 pm16 an16 cd16 ct16), sl16⟩)
    (c16 : PySem.W.codeIn K cd16 "_law_whole" = true)
    (k16 : PySem.W.keepIn K (.ref f16) = true)
    (a17 : PySem.W.nsIn K mainGlobals "_law_before" = some (some (.ref f17)))
    (l17 : K.lookup f17 = some ⟨oc17, od17, .func (PySem.W.fnOf "_law_before" "_law_before" (L2.defArgs s_l_before) (L2.defBody s_l_before) (L2.defScope s_l_before) .none kV17 dc17 pm17 an17 cd17 ct17), sl17⟩)
    (c17 : PySem.W.codeIn K cd17 "_law_before" = true)
    (k17 : PySem.W.keepIn K (.ref f17) = true)
    (a18 : PySem.W.nsIn K mainGlobals "_law_next" = some (some (.ref f18)))
    (l18 : K.lookup f18 = some ⟨oc18, od18, .func (PySem.W.fnOf "_law_next" "_law_next" (L2.defArgs s_l_next) (L2.defBody s_l_next) (L2.defScope s_l_next) .none kV18 dc18 pm18 an18 cd18 ct18), sl18⟩)
    (c18 : PySem.W.codeIn K cd18 "_law_next" = true)
    (k18 : PySem.W.keepIn K (.ref f18) = true)
    (a19 : PySem.W.nsIn K mainGlobals "law" = some (some (.ref f19)))
    (l19 : K.lookup f19 = some ⟨oc19, od19, .func (PySem.W.fnOf "law" "law" (L2.defArgs s_law) (L2.defBody s_law) (L2.defScope s_law) .none kV19 dc19 pm19 an19 cd19 ct19), sl19⟩)
    (c19 : PySem.W.codeIn K cd19 "law" = true)
    (k19 : PySem.W.keepIn K (.ref f19) = true)
    (xa1 : PySem.W.nsIn K mainGlobals "OutOfRange" = some (some (.ref C1)))
    (xo1 : K.lookup C1 = some (excClassObj nm1 qn1 C1 B1 bs1 bm1 true sn1 sb1 ab1 co1 dd1 ka1 kb1 kc1 kd1 ke1 "ValueError.__new__"))
    (xv1 : PySem.HandSPX.refsVE bm1 = true)
    (xb1 : PySem.W.findIn K (.ref C1) "__setattr__" = some (some (.builtin "object.__setattr__")))
    (xc1 : PySem.W.subIn K (.ref C1) (.type "BaseException") = some true)
    (xd1 : PySem.W.typeIn K (.ref C1) = some (.type "type"))
    (xe1 : PySem.W.keepIn K (.ref C1) = true)
    (xf1 : PySem.W.findIn K (.ref C1) "__init__" = some (some (.ref F1)))
    (xg1 : PySem.W.typeIn K (.ref F1) = some (.type "function"))
    (xh1 : K.lookup F1 = some ⟨xoc1, xod1, .func (PySem.W.fnX "__init__" "OutOfRange.__init__" (L2.defArgs i_OutOfRange) (L2.defBody i_OutOfRange) (L2.defScope i_OutOfRange) [("__class__", A1)] .none xkV1 xdc1 xpm1 xan1 (.ref D1) xct1), xsl1⟩)
    (xi1 : K.lookup D1 = some ⟨ycl1, ydd1, .fields yvs1, ysl1⟩)
    (xj1 : yvs1[2]? = some (.str yf1 yt1))
    (xk1 : ((P.main.file : Str) == yf1) = true)
    (xl1 : K.lookup A1 = some ⟨zcl1, zdd1, .cell (some (.ref C1)), zsl1⟩)
    (xm1 : PySem.W.mroIn K C1 (.ref C1) = some true)
    (xn1 : PySem.W.ks_superIn K C1 C1 "__init__" = some (some (.builtin "ValueError.__init__")))
    (xp1 : PySem.W.subIn K (.ref C1) (.type "ValueError") = some true)
    (xq1 : PySem.W.codeIn K (.ref D1) "OutOfRange.__init__" = true)
    (xr1_0 : PySem.W.findIn K (.ref C1) "label" = some none)
    (xr1_1 : PySem.W.findIn K (.ref C1) "value" = some none)
    (xs1 : PySem.W.findIn K (.ref C1) "__getattribute__" = some (some (.builtin "BaseException.__getattribute__")))
    (xt1 : PySem.W.findIn K (.ref C1) "__getattr__" = some none)
    (xu1 : PySem.W.hasDictIn K C1 = true)
    (xw1 : PySem.W.findIn K (.ref C1) "__class__" = some (some (.builtin "object.__class__")))
    (xx1 : PySem.W.mroIn K C1 (.type "object") = some true)
    (xa2 : PySem.W.nsIn K mainGlobals "UnknownName" = some (some (.ref C2)))
    (xo2 : K.lookup C2 = some (excClassObj nm2 qn2 C2 B2 bs2 bm2 true sn2 sb2 ab2 co2 dd2 ka2 kb2 kc2 kd2 ke2 "ValueError.__new__"))
    (xv2 : PySem.HandSPX.refsVE bm2 = true)
    (xb2 : PySem.W.findIn K (.ref C2) "__setattr__" = some (some (.builtin "object.__setattr__")))
    (xc2 : PySem.W.subIn K (.ref C2) (.type "BaseException") = some true)
    (xd2 : PySem.W.typeIn K (.ref C2) = some (.type "type"))
    (xe2 : PySem.W.keepIn K (.ref C2) = true)
    (xf2 : PySem.W.findIn K (.ref C2) "__init__" = some (some (.ref F2)))
    (xg2 : PySem.W.typeIn K (.ref F2) = some (.type "function"))
    (xh2 : K.lookup F2 = some ⟨xoc2, xod2, .func (PySem.W.fnX "__init__" "UnknownName.__init__" (L2.defArgs i_UnknownName) (L2.defBody i_UnknownName) (L2.defScope i_UnknownName) [("__class__", A2)] .none xkV2 xdc2 xpm2 xan2 (.ref D2) xct2), xsl2⟩)
    (xi2 : K.lookup D2 = some ⟨ycl2, ydd2, .fields yvs2, ysl2⟩)
    (xj2 : yvs2[2]? = some (.str yf2 yt2))
    (xk2 : ((P.main.file : Str) == yf2) = true)
    (xl2 : K.lookup A2 = some ⟨zcl2, zdd2, .cell (some (.ref C2)), zsl2⟩)
    (xm2 : PySem.W.mroIn K C2 (.ref C2) = some true)
    (xn2 : PySem.W.ks_superIn K C2 C2 "__init__" = some (some (.builtin "ValueError.__init__")))
    (xp2 : PySem.W.subIn K (.ref C2) (.type "ValueError") = some true)
    (xq2 : PySem.W.codeIn K (.ref D2) "UnknownName.__init__" = true)
    (xr2_0 : PySem.W.findIn K (.ref C2) "label" = some none)
    (xr2_1 : PySem.W.findIn K (.ref C2) "name" = some none)
    (xs2 : PySem.W.findIn K (.ref C2) "__getattribute__" = some (some (.builtin "BaseException.__getattribute__")))
    (xt2 : PySem.W.findIn K (.ref C2) "__getattr__" = some none)
    (xu2 : PySem.W.hasDictIn K C2 = true)
    (xw2 : PySem.W.findIn K (.ref C2) "__class__" = some (some (.builtin "object.__class__")))
    (xx2 : PySem.W.mroIn K C2 (.type "object") = some true)
    (xa3 : PySem.W.nsIn K mainGlobals "BadName" = some (some (.ref C3)))
    (xo3 : K.lookup C3 = some (excClassObj nm3 qn3 C3 B3 bs3 bm3 true sn3 sb3 ab3 co3 dd3 ka3 kb3 kc3 kd3 ke3 "ValueError.__new__"))
    (xv3 : PySem.HandSPX.refsVE bm3 = true)
    (xb3 : PySem.W.findIn K (.ref C3) "__setattr__" = some (some (.builtin "object.__setattr__")))
    (xc3 : PySem.W.subIn K (.ref C3) (.type "BaseException") = some true)
    (xd3 : PySem.W.typeIn K (.ref C3) = some (.type "type"))
    (xe3 : PySem.W.keepIn K (.ref C3) = true)
    (xf3 : PySem.W.findIn K (.ref C3) "__init__" = some (some (.ref F3)))
    (xg3 : PySem.W.typeIn K (.ref F3) = some (.type "function"))
    (xh3 : K.lookup F3 = some ⟨xoc3, xod3, .func (PySem.W.fnX "__init__" "BadName.__init__" (L2.defArgs i_BadName) (L2.defBody i_BadName) (L2.defScope i_BadName) [("__class__", A3)] .none xkV3 xdc3 xpm3 xan3 (.ref D3) xct3), xsl3⟩)
    (xi3 : K.lookup D3 = some ⟨ycl3, ydd3, .fields yvs3, ysl3⟩)
    (xj3 : yvs3[2]? = some (.str yf3 yt3))
    (xk3 : ((P.main.file : Str) == yf3) = true)
    (xl3 : K.lookup A3 = some ⟨zcl3, zdd3, .cell (some (.ref C3)), zsl3⟩)
    (xm3 : PySem.W.mroIn K C3 (.ref C3) = some true)
    (xn3 : PySem.W.ks_superIn K C3 C3 "__init__" = some (some (.builtin "ValueError.__init__")))
    (xp3 : PySem.W.subIn K (.ref C3) (.type "ValueError") = some true)
    (xq3 : PySem.W.codeIn K (.ref D3) "BadName.__init__" = true)
    (xr3_0 : PySem.W.findIn K (.ref C3) "label" = some none)
    (xr3_1 : PySem.W.findIn K (.ref C3) "name" = some none)
    (xs3 : PySem.W.findIn K (.ref C3) "__getattribute__" = some (some (.builtin "BaseException.__getattribute__")))
    (xt3 : PySem.W.findIn K (.ref C3) "__getattr__" = some none)
    (xu3 : PySem.W.hasDictIn K C3 = true)
    (xw3 : PySem.W.findIn K (.ref C3) "__class__" = some (some (.builtin "object.__class__")))
    (xx3 : PySem.W.mroIn K C3 (.type "object") = some true)
    (ya : PySem.W.nsIn K cStatics "thirdparty.any" = some none)
    (yb : PySem.W.nsIn K mainGlobals "super" = some none)
    (yc : (P.main.scope.names.lookup ("super" : Str)).isSome = false)
    (yd : PySem.W.specialIn K (.builtin "object.__class__") "__get__" = some (some (.builtin "getset_descriptor.__get__")))
    (ye : PySem.W.takesIn K (.builtin "object.__class__") = some true)
    (yg1_1 : PySem.W.exmOne K (.ref C1) (.ref C1) = some (isSub "OutOfRange" "OutOfRange"))
    (yh1_1 : PySem.W.kitOne K (.ref C1) (.ref C1) = some (isSub "OutOfRange" "OutOfRange"))
    (yg1_2 : PySem.W.exmOne K (.ref C2) (.ref C1) = some (isSub "UnknownName" "OutOfRange"))
    (yh1_2 : PySem.W.kitOne K (.ref C2) (.ref C1) = some (isSub "UnknownName" "OutOfRange"))
    (yg1_3 : PySem.W.exmOne K (.ref C3) (.ref C1) = some (isSub "BadName" "OutOfRange"))
    (yh1_3 : PySem.W.kitOne K (.ref C3) (.ref C1) = some (isSub "BadName" "OutOfRange"))
    (yg2_1 : PySem.W.exmOne K (.ref C1) (.ref C3) = some (isSub "OutOfRange" "BadName"))
    (yh2_1 : PySem.W.kitOne K (.ref C1) (.ref C3) = some (isSub "OutOfRange" "BadName"))
    (yg2_2 : PySem.W.exmOne K (.ref C2) (.ref C3) = some (isSub "UnknownName" "BadName"))
    (yh2_2 : PySem.W.kitOne K (.ref C2) (.ref C3) = some (isSub "UnknownName" "BadName"))
    (yg2_3 : PySem.W.exmOne K (.ref C3) (.ref C3) = some (isSub "BadName" "BadName"))
    (yh2_3 : PySem.W.kitOne K (.ref C3) (.ref C3) = some (isSub "BadName" "BadName"))
    (yg3_1 : PySem.W.exmOne K (.ref C1) (.ref C2) = some (isSub "OutOfRange" "UnknownName"))
    (yh3_1 : PySem.W.kitOne K (.ref C1) (.ref C2) = some (isSub "OutOfRange" "UnknownName"))
    (yg3_2 : PySem.W.exmOne K (.ref C2) (.ref C2) = some (isSub "UnknownName" "UnknownName"))
    (yh3_2 : PySem.W.kitOne K (.ref C2) (.ref C2) = some (isSub "UnknownName" "UnknownName"))
    (yg3_3 : PySem.W.exmOne K (.ref C3) (.ref C2) = some (isSub "BadName" "UnknownName"))
    (yh3_3 : PySem.W.kitOne K (.ref C3) (.ref C2) = some (isSub "BadName" "UnknownName"))
    (yf4 : PySem.W.nsIn K mainGlobals "WeirError" = some (some (.ref W4)))
    (yg4_1 : PySem.W.exmOne K (.ref C1) (.ref W4) = some (isSub "OutOfRange" "WeirError"))
    (yh4_1 : PySem.W.kitOne K (.ref C1) (.ref W4) = some (isSub "OutOfRange" "WeirError"))
    (yg4_2 : PySem.W.exmOne K (.ref C2) (.ref W4) = some (isSub "UnknownName" "WeirError"))
    (yh4_2 : PySem.W.kitOne K (.ref C2) (.ref W4) = some (isSub "UnknownName" "WeirError"))
    (yg4_3 : PySem.W.exmOne K (.ref C3) (.ref W4) = some (isSub "BadName" "WeirError"))
    (yh4_3 : PySem.W.kitOne K (.ref C3) (.ref W4) = some (isSub "BadName" "WeirError"))
    (yi1_1 : PySem.W.findIn K (.ref C1) "value" = some none)
    (yi1_2 : PySem.W.findIn K (.ref C2) "value" = some none)
    (yi1_3 : PySem.W.findIn K (.ref C3) "value" = some none)
    (yi2_1 : PySem.W.findIn K (.ref C1) "name" = some none)
    (yi2_2 : PySem.W.findIn K (.ref C2) "name" = some none)
    (yi2_3 : PySem.W.findIn K (.ref C3) "name" = some none)
    (z1 : PySem.W.nsIn K mainGlobals "len" = some none)
    (z2 : PySem.W.nsIn K mainGlobals "int" = some none)
    (z3 : PySem.W.nsIn K mainGlobals "str" = some none)
    (z4 : PySem.W.nsIn K mainGlobals "abs" = some none)
    (z5 : PySem.W.nsIn K mainGlobals "min" = some none)
    (z6 : PySem.W.nsIn K mainGlobals "max" = some none)
    (z7 : PySem.W.nsIn K mainGlobals "sum" = some none)
    (z8 : PySem.W.nsIn K mainGlobals "sorted" = some none)
    (z9 : PySem.W.nsIn K mainGlobals "list" = some none)
    (z10 : PySem.W.nsIn K mainGlobals "tuple" = some none)
    (z11 : PySem.W.nsIn K mainGlobals "dict" = some none)
    (z12 : PySem.W.nsIn K mainGlobals "divmod" = some none)
    (z13 : PySem.W.nsIn K mainGlobals "range" = some none)
    (z14 : PySem.W.nsIn K mainGlobals "zip" = some none)
    (z15 : PySem.W.nsIn K mainGlobals "isinstance" = some none)
    (z16 : PySem.W.nsIn K mainGlobals "bool" = some none)
    (g1 : PySem.W.nsIn K mainGlobals "LONGEST" = some (some u1))
    (r1 : ∀ T : Tx, T.K = K → ∃ v, RelV v u1 ∧ Stable T v (.int 12))
    (g2 : PySem.W.nsIn K mainGlobals "MOST_MEMBERS" = some (some u2))
    (r2 : ∀ T : Tx, T.K = K → ∃ v, RelV v u2 ∧ Stable T v (.int 60))
    (g3 : PySem.W.nsIn K mainGlobals "MOST_TURN" = some (some u3))
    (r3 : ∀ T : Tx, T.K = K → ∃ v, RelV v u3 ∧ Stable T v (.int 10080))
    (g4 : PySem.W.nsIn K mainGlobals "MOST_MINUTE" = some (some u4))
    (r4 : ∀ T : Tx, T.K = K → ∃ v, RelV v u4 ∧ Stable T v (.int 10000000))
    (hlaw : ∀ ns : List Int, ns.length ≤ 63 → (∀ z ∈ ns, Builtin.Int.intBits z ≤ 1048576) → ∃ fs S', F_law.sem [] [.ro (ns.map .int)] = .ok (.bl true, fs) S') :
    ∃ fd : FuncData, (∀ (s : Shared) (v : Value), BindsTo s fd ⟨[v], []⟩ [("script", v)]) ∧ ∀ base : Heap, K.In base → base.Ns mainGlobals mg → L2.FnOk P w K mg base (L2.CX P w) 7 fa fd ["script"] (spLaw K) := by
  have e := hfa.symm.trans (PySem.W.mg_of X G a19)
  cases e
  refine ⟨PySem.W.fnOf "law" "law" (L2.defArgs s_law) (L2.defBody s_law) (L2.defScope s_law) .none kV19 dc19 pm19 an19 cd19 ct19, fun s v => .of_eq rfl, fun base _ _ => ?_⟩
  have bl : BLT (tx [("OutOfRange", C1), ("UnknownName", C2), ("BadName", C3)] P w K mg base) := by
    intro x hx
    simp only [bltNs, List.mem_cons, List.not_mem_nil, or_false] at hx
    rcases hx with rfl | rfl | rfl | rfl | rfl | rfl | rfl | rfl | rfl | rfl | rfl | rfl | rfl | rfl | rfl | rfl
    · exact PySem.W.mg_none_of X G z1
    · exact PySem.W.mg_none_of X G z2
    · exact PySem.W.mg_none_of X G z3
    · exact PySem.W.mg_none_of X G z4
    · exact PySem.W.mg_none_of X G z5
    · exact PySem.W.mg_none_of X G z6
    · exact PySem.W.mg_none_of X G z7
    · exact PySem.W.mg_none_of X G z8
    · exact PySem.W.mg_none_of X G z9
    · exact PySem.W.mg_none_of X G z10
    · exact PySem.W.mg_none_of X G z11
    · exact PySem.W.mg_none_of X G z12
    · exact PySem.W.mg_none_of X G z13
    · exact PySem.W.mg_none_of X G z14
    · exact PySem.W.mg_none_of X G z15
    · exact PySem.W.mg_none_of X G z16
  have G1 : Rq.ok (tx [("OutOfRange", C1), ("UnknownName", C2), ("BadName", C3)] P w K mg base) (.glob "LONGEST" (.int 12)) := by
    obtain ⟨v, h1, h2⟩ := r1 (tx [("OutOfRange", C1), ("UnknownName", C2), ("BadName", C3)] P w K mg base) rfl
    exact ⟨u1, v, PySem.W.mg_of X G g1, h1, h2⟩
  have G2 : Rq.ok (tx [("OutOfRange", C1), ("UnknownName", C2), ("BadName", C3)] P w K mg base) (.glob "MOST_MEMBERS" (.int 60)) := by
    obtain ⟨v, h1, h2⟩ := r2 (tx [("OutOfRange", C1), ("UnknownName", C2), ("BadName", C3)] P w K mg base) rfl
    exact ⟨u2, v, PySem.W.mg_of X G g2, h1, h2⟩
  have G3 : Rq.ok (tx [("OutOfRange", C1), ("UnknownName", C2), ("BadName", C3)] P w K mg base) (.glob "MOST_TURN" (.int 10080)) := by
    obtain ⟨v, h1, h2⟩ := r3 (tx [("OutOfRange", C1), ("UnknownName", C2), ("BadName", C3)] P w K mg base) rfl
    exact ⟨u3, v, PySem.W.mg_of X G g3, h1, h2⟩
  have G4 : Rq.ok (tx [("OutOfRange", C1), ("UnknownName", C2), ("BadName", C3)] P w K mg base) (.glob "MOST_MINUTE" (.int 10000000)) := by
    obtain ⟨v, h1, h2⟩ := r4 (tx [("OutOfRange", C1), ("UnknownName", C2), ("BadName", C3)] P w K mg base) rfl
    exact ⟨u4, v, PySem.W.mg_of X G g4, h1, h2⟩
  have ha0 : (tx [("OutOfRange", C1), ("UnknownName", C2), ("BadName", C3)] P w K mg base).K = K := rfl
  have ca1 : (tx [("OutOfRange", C1), ("UnknownName", C2), ("BadName", C3)] P w K mg base).ca "OutOfRange" = C1 := by kernel_rfl
  have ox1 : L2.OexC K C1 := ⟨⟨_, _, _, _, _, _, _, _, _, _, _, _, _, _, _, xo1, xv1⟩, xb1, xc1, xd1, xe1⟩
  have X1 : XOK (tx [("OutOfRange", C1), ("UnknownName", C2), ("BadName", C3)] P w K mg base) X_OutOfRange := by
    have hno1 : ∀ p ∈ X_OutOfRange.flds, PySem.W.findIn K (.ref C1) p.1 = some none := by
      intro p hp
      simp only [X_OutOfRange, List.mem_cons, List.not_mem_nil, or_false] at hp
      rcases hp with rfl | rfl
      · exact xr1_0
      · exact xr1_1
    have FI := ini_ok (T := tx [("OutOfRange", C1), ("UnknownName", C2), ("BadName", C3)] P w K mg base) (x := X_OutOfRange) (C := C1) (N := P_OutOfRange ++ [("__class__" : Str)]) (scope := L2.defScope i_OutOfRange) (body := L2.defBody i_OutOfRange) (ar := ((L2.defArgs i_OutOfRange).args.headD ⟨"self", none, ⟨0, 0, 0, 0⟩⟩)) ⟨ox1, ⟨_, _, _, xh1⟩, by rfl, ⟨_, _, _, _, _, _, xi1, xj1, xk1⟩, ⟨_, _, _, xl1⟩, xm1, xn1, xp1, ya, PySem.W.mg_none_of X G yb, by rfl, by rfl, by rfl, yc⟩ xq1 (NdefX.nscope_by xs_OutOfRange) (by rfl) (by rfl) xm_OutOfRange hno1
    exact xok_mk (T := tx [("OutOfRange", C1), ("UnknownName", C2), ("BadName", C3)] P w K mg base) (x := X_OutOfRange) (ps := P_OutOfRange) ca1 ox1 xf1 xg1 FI (L2.Binds.all fun us hl => match us, hl with | [_, _], _ => rfl) (PySem.W.mg_of X G xa1)
  have ca2 : (tx [("OutOfRange", C1), ("UnknownName", C2), ("BadName", C3)] P w K mg base).ca "UnknownName" = C2 := by kernel_rfl
  have ox2 : L2.OexC K C2 := ⟨⟨_, _, _, _, _, _, _, _, _, _, _, _, _, _, _, xo2, xv2⟩, xb2, xc2, xd2, xe2⟩
  have X2 : XOK (tx [("OutOfRange", C1), ("UnknownName", C2), ("BadName", C3)] P w K mg base) X_UnknownName := by
    have hno2 : ∀ p ∈ X_UnknownName.flds, PySem.W.findIn K (.ref C2) p.1 = some none := by
      intro p hp
      simp only [X_UnknownName, List.mem_cons, List.not_mem_nil, or_false] at hp
      rcases hp with rfl | rfl
      · exact xr2_0
      · exact xr2_1
    have FI := ini_ok (T := tx [("OutOfRange", C1), ("UnknownName", C2), ("BadName", C3)] P w K mg base) (x := X_UnknownName) (C := C2) (N := P_UnknownName ++ [("__class__" : Str)]) (scope := L2.defScope i_UnknownName) (body := L2.defBody i_UnknownName) (ar := ((L2.defArgs i_UnknownName).args.headD ⟨"self", none, ⟨0, 0, 0, 0⟩⟩)) ⟨ox2, ⟨_, _, _, xh2⟩, by rfl, ⟨_, _, _, _, _, _, xi2, xj2, xk2⟩, ⟨_, _, _, xl2⟩, xm2, xn2, xp2, ya, PySem.W.mg_none_of X G yb, by rfl, by rfl, by rfl, yc⟩ xq2 (NdefX.nscope_by xs_UnknownName) (by rfl) (by rfl) xm_UnknownName hno2
    exact xok_mk (T := tx [("OutOfRange", C1), ("UnknownName", C2), ("BadName", C3)] P w K mg base) (x := X_UnknownName) (ps := P_UnknownName) ca2 ox2 xf2 xg2 FI (L2.Binds.all fun us hl => match us, hl with | [_, _], _ => rfl) (PySem.W.mg_of X G xa2)
  have ca3 : (tx [("OutOfRange", C1), ("UnknownName", C2), ("BadName", C3)] P w K mg base).ca "BadName" = C3 := by kernel_rfl
  have ox3 : L2.OexC K C3 := ⟨⟨_, _, _, _, _, _, _, _, _, _, _, _, _, _, _, xo3, xv3⟩, xb3, xc3, xd3, xe3⟩
  have X3 : XOK (tx [("OutOfRange", C1), ("UnknownName", C2), ("BadName", C3)] P w K mg base) X_BadName := by
    have hno3 : ∀ p ∈ X_BadName.flds, PySem.W.findIn K (.ref C3) p.1 = some none := by
      intro p hp
      simp only [X_BadName, List.mem_cons, List.not_mem_nil, or_false] at hp
      rcases hp with rfl | rfl
      · exact xr3_0
      · exact xr3_1
    have FI := ini_ok (T := tx [("OutOfRange", C1), ("UnknownName", C2), ("BadName", C3)] P w K mg base) (x := X_BadName) (C := C3) (N := P_BadName ++ [("__class__" : Str)]) (scope := L2.defScope i_BadName) (body := L2.defBody i_BadName) (ar := ((L2.defArgs i_BadName).args.headD ⟨"self", none, ⟨0, 0, 0, 0⟩⟩)) ⟨ox3, ⟨_, _, _, xh3⟩, by rfl, ⟨_, _, _, _, _, _, xi3, xj3, xk3⟩, ⟨_, _, _, xl3⟩, xm3, xn3, xp3, ya, PySem.W.mg_none_of X G yb, by rfl, by rfl, by rfl, yc⟩ xq3 (NdefX.nscope_by xs_BadName) (by rfl) (by rfl) xm_BadName hno3
    exact xok_mk (T := tx [("OutOfRange", C1), ("UnknownName", C2), ("BadName", C3)] P w K mg base) (x := X_BadName) (ps := P_BadName) ca3 ox3 xf3 xg3 FI (L2.Binds.all fun us hl => match us, hl with | [_, _], _ => rfl) (PySem.W.mg_of X G xa3)
  have XC : Rq.ok (tx [("OutOfRange", C1), ("UnknownName", C2), ("BadName", C3)] P w K mg base) (.xcl XCS) := by
    intro c hc
    simp only [XCS, List.mem_cons, List.not_mem_nil, or_false] at hc
    rcases hc with rfl | rfl | rfl
    · rw [ca1]; exact ⟨⟨xs1, xt1, xc1, xu1⟩, ⟨xs1, xt1, xc1, xu1, xw1, yd, ye, xx1⟩⟩
    · rw [ca2]; exact ⟨⟨xs2, xt2, xc2, xu2⟩, ⟨xs2, xt2, xc2, xu2, xw2, yd, ye, xx2⟩⟩
    · rw [ca3]; exact ⟨⟨xs3, xt3, xc3, xu3⟩, ⟨xs3, xt3, xc3, xu3, xw3, yd, ye, xx3⟩⟩
  have Y1 : Rq.ok (tx [("OutOfRange", C1), ("UnknownName", C2), ("BadName", C3)] P w K mg base) (.cat XCS "OutOfRange") := by
    refine ⟨.ref C1, .ref C1, fun u => Iff.rfl, by decide, .inl (PySem.W.mg_of X G xa1), ?_⟩
    intro c hc
    simp only [XCS, List.mem_cons, List.not_mem_nil, or_false] at hc
    rcases hc with rfl | rfl | rfl
    · rw [ca1]; exact ⟨yg1_1, yh1_1⟩
    · rw [ca2]; exact ⟨yg1_2, yh1_2⟩
    · rw [ca3]; exact ⟨yg1_3, yh1_3⟩
  have Y2 : Rq.ok (tx [("OutOfRange", C1), ("UnknownName", C2), ("BadName", C3)] P w K mg base) (.cat XCS "BadName") := by
    refine ⟨.ref C3, .ref C3, fun u => Iff.rfl, by decide, .inl (PySem.W.mg_of X G xa3), ?_⟩
    intro c hc
    simp only [XCS, List.mem_cons, List.not_mem_nil, or_false] at hc
    rcases hc with rfl | rfl | rfl
    · rw [ca1]; exact ⟨yg2_1, yh2_1⟩
    · rw [ca2]; exact ⟨yg2_2, yh2_2⟩
    · rw [ca3]; exact ⟨yg2_3, yh2_3⟩
  have Y3 : Rq.ok (tx [("OutOfRange", C1), ("UnknownName", C2), ("BadName", C3)] P w K mg base) (.cat XCS "UnknownName") := by
    refine ⟨.ref C2, .ref C2, fun u => Iff.rfl, by decide, .inl (PySem.W.mg_of X G xa2), ?_⟩
    intro c hc
    simp only [XCS, List.mem_cons, List.not_mem_nil, or_false] at hc
    rcases hc with rfl | rfl | rfl
    · rw [ca1]; exact ⟨yg3_1, yh3_1⟩
    · rw [ca2]; exact ⟨yg3_2, yh3_2⟩
    · rw [ca3]; exact ⟨yg3_3, yh3_3⟩
  have Y4 : Rq.ok (tx [("OutOfRange", C1), ("UnknownName", C2), ("BadName", C3)] P w K mg base) (.cat XCS "WeirError") := by
    refine ⟨.ref W4, .ref W4, fun u => Iff.rfl, by decide, .inl (PySem.W.mg_of X G yf4), ?_⟩
    intro c hc
    simp only [XCS, List.mem_cons, List.not_mem_nil, or_false] at hc
    rcases hc with rfl | rfl | rfl
    · rw [ca1]; exact ⟨yg4_1, yh4_1⟩
    · rw [ca2]; exact ⟨yg4_2, yh4_2⟩
    · rw [ca3]; exact ⟨yg4_3, yh4_3⟩
  have V1 : Rq.ok (tx [("OutOfRange", C1), ("UnknownName", C2), ("BadName", C3)] P w K mg base) (.xfl XCS "value") := by
    intro c hc
    simp only [XCS, List.mem_cons, List.not_mem_nil, or_false] at hc
    rcases hc with rfl | rfl | rfl
    · rw [ca1]; exact yi1_1
    · rw [ca2]; exact yi1_2
    · rw [ca3]; exact yi1_3
  have V2 : Rq.ok (tx [("OutOfRange", C1), ("UnknownName", C2), ("BadName", C3)] P w K mg base) (.xfl XCS "name") := by
    intro c hc
    simp only [XCS, List.mem_cons, List.not_mem_nil, or_false] at hc
    rcases hc with rfl | rfl | rfl
    · rw [ca1]; exact yi2_1
    · rw [ca2]; exact yi2_2
    · rw [ca3]; exact yi2_3
  have Q1 : L2.Fun K "_law_draw" "_law_draw" s_l_draw _ _ := L2.fun_mk (st := s_l_draw) l1 c1 k1
  have b1 := Q1.binds (ps := ["cell", "limits"]) fun _ _ _ _ _ _ us hl => match us, hl with | [_, _], _ => rfl
  have R1 : RqOk (tx [("OutOfRange", C1), ("UnknownName", C2), ("BadName", C3)] P w K mg base) (rqSs B_l_draw) := by
    have e : rqSs B_l_draw = [] := by rfl
    rw [e]
    intro r hr
    cases hr
  have K1 : FnK (tx [("OutOfRange", C1), ("UnknownName", C2), ("BadName", C3)] P w K mg base) F_l_draw := fnk_mk (f := F_l_draw) (T := tx [("OutOfRange", C1), ("UnknownName", C2), ("BadName", C3)] P w K mg base) Q1 b1 (PySem.W.mg_of X G a1) sc_l_draw mm_l_draw rfl rfl (fun _ => rfl) rfl rfl bl R1
  have Q2 : L2.Fun K "check_between" "check_between" s_check_between _ _ := L2.fun_mk (st := s_check_between) l2 c2 k2
  have b2 := Q2.binds (ps := ["value", "least", "most"]) fun _ _ _ _ _ _ us hl => match us, hl with | [_, _, _], _ => rfl
  have R2 : RqOk (tx [("OutOfRange", C1), ("UnknownName", C2), ("BadName", C3)] P w K mg base) (rqSs B_check_between) := by
    have e : rqSs B_check_between = [.exc X_OutOfRange] := by rfl
    rw [e]
    intro r hr
    simp only [List.mem_cons, List.not_mem_nil, or_false] at hr
    rcases hr with rfl
    · exact X1
  have K2 : FnK (tx [("OutOfRange", C1), ("UnknownName", C2), ("BadName", C3)] P w K mg base) F_check_between := fnk_mk (f := F_check_between) (T := tx [("OutOfRange", C1), ("UnknownName", C2), ("BadName", C3)] P w K mg base) Q2 b2 (PySem.W.mg_of X G a2) sc_check_between mm_check_between rfl rfl (fun _ => rfl) rfl rfl bl R2
  have Q3 : L2.Fun K "is_letter" "is_letter" s_is_letter _ _ := L2.fun_mk (st := s_is_letter) l3 c3 k3
  have b3 := Q3.binds (ps := ["character"]) fun _ _ _ _ _ _ us hl => match us, hl with | [_], _ => rfl
  have R3 : RqOk (tx [("OutOfRange", C1), ("UnknownName", C2), ("BadName", C3)] P w K mg base) (rqSs B_is_letter) := by
    have e : rqSs B_is_letter = [] := by rfl
    rw [e]
    intro r hr
    cases hr
  have K3 : FnK (tx [("OutOfRange", C1), ("UnknownName", C2), ("BadName", C3)] P w K mg base) F_is_letter := fnk_mk (f := F_is_letter) (T := tx [("OutOfRange", C1), ("UnknownName", C2), ("BadName", C3)] P w K mg base) Q3 b3 (PySem.W.mg_of X G a3) sc_is_letter mm_is_letter rfl rfl (fun _ => rfl) rfl rfl bl R3
  have Q4 : L2.Fun K "is_digit" "is_digit" s_is_digit _ _ := L2.fun_mk (st := s_is_digit) l4 c4 k4
  have b4 := Q4.binds (ps := ["character"]) fun _ _ _ _ _ _ us hl => match us, hl with | [_], _ => rfl
  have R4 : RqOk (tx [("OutOfRange", C1), ("UnknownName", C2), ("BadName", C3)] P w K mg base) (rqSs B_is_digit) := by
    have e : rqSs B_is_digit = [] := by rfl
    rw [e]
    intro r hr
    cases hr
  have K4 : FnK (tx [("OutOfRange", C1), ("UnknownName", C2), ("BadName", C3)] P w K mg base) F_is_digit := fnk_mk (f := F_is_digit) (T := tx [("OutOfRange", C1), ("UnknownName", C2), ("BadName", C3)] P w K mg base) Q4 b4 (PySem.W.mg_of X G a4) sc_is_digit mm_is_digit rfl rfl (fun _ => rfl) rfl rfl bl R4
  have Q5 : L2.Fun K "is_name" "is_name" s_is_name _ _ := L2.fun_mk (st := s_is_name) l5 c5 k5
  have b5 := Q5.binds (ps := ["text"]) fun _ _ _ _ _ _ us hl => match us, hl with | [_], _ => rfl
  have R5 : RqOk (tx [("OutOfRange", C1), ("UnknownName", C2), ("BadName", C3)] P w K mg base) (rqSs B_is_name) := by
    have e : rqSs B_is_name = [.glob "LONGEST" (.int 12), .fn F_is_letter, .fn F_is_letter, .fn F_is_digit] := by rfl
    rw [e]
    intro r hr
    simp only [List.mem_cons, List.not_mem_nil, or_false] at hr
    rcases hr with rfl | rfl | rfl | rfl
    · exact G1
    · exact K3
    · exact K3
    · exact K4
  have K5 : FnK (tx [("OutOfRange", C1), ("UnknownName", C2), ("BadName", C3)] P w K mg base) F_is_name := fnk_mk (f := F_is_name) (T := tx [("OutOfRange", C1), ("UnknownName", C2), ("BadName", C3)] P w K mg base) Q5 b5 (PySem.W.mg_of X G a5) sc_is_name mm_is_name rfl rfl (fun _ => rfl) rfl rfl bl R5
  have Q6 : L2.Fun K "check_turns" "check_turns" s_check_turns _ _ := L2.fun_mk (st := s_check_turns) l6 c6 k6
  have b6 := Q6.binds (ps := ["turns"]) fun _ _ _ _ _ _ us hl => match us, hl with | [_], _ => rfl
  have R6 : RqOk (tx [("OutOfRange", C1), ("UnknownName", C2), ("BadName", C3)] P w K mg base) (rqSs B_check_turns) := by
    have e : rqSs B_check_turns = [.fn F_check_between, .glob "MOST_MEMBERS" (.int 60), .fn F_check_between, .glob "MOST_TURN" (.int 10080), .fn F_is_name, .exc X_BadName] := by rfl
    rw [e]
    intro r hr
    simp only [List.mem_cons, List.not_mem_nil, or_false] at hr
    rcases hr with rfl | rfl | rfl | rfl | rfl | rfl
    · exact K2
    · exact G2
    · exact K2
    · exact G3
    · exact K5
    · exact X3
  have K6 : FnK (tx [("OutOfRange", C1), ("UnknownName", C2), ("BadName", C3)] P w K mg base) F_check_turns := fnk_mk (f := F_check_turns) (T := tx [("OutOfRange", C1), ("UnknownName", C2), ("BadName", C3)] P w K mg base) Q6 b6 (PySem.W.mg_of X G a6) sc_check_turns mm_check_turns rfl rfl (fun _ => rfl) rfl rfl bl R6
  have Q7 : L2.Fun K "check_minute" "check_minute" s_check_minute _ _ := L2.fun_mk (st := s_check_minute) l7 c7 k7
  have b7 := Q7.binds (ps := ["minute"]) fun _ _ _ _ _ _ us hl => match us, hl with | [_], _ => rfl
  have R7 : RqOk (tx [("OutOfRange", C1), ("UnknownName", C2), ("BadName", C3)] P w K mg base) (rqSs B_check_minute) := by
    have e : rqSs B_check_minute = [.fn F_check_between, .glob "MOST_MINUTE" (.int 10000000)] := by rfl
    rw [e]
    intro r hr
    simp only [List.mem_cons, List.not_mem_nil, or_false] at hr
    rcases hr with rfl | rfl
    · exact K2
    · exact G4
  have K7 : FnK (tx [("OutOfRange", C1), ("UnknownName", C2), ("BadName", C3)] P w K mg base) F_check_minute := fnk_mk (f := F_check_minute) (T := tx [("OutOfRange", C1), ("UnknownName", C2), ("BadName", C3)] P w K mg base) Q7 b7 (PySem.W.mg_of X G a7) sc_check_minute mm_check_minute rfl rfl (fun _ => rfl) rfl rfl bl R7
  have Q8 : L2.Fun K "turn_at" "turn_at" s_turn_at _ _ := L2.fun_mk (st := s_turn_at) l8 c8 k8
  have b8 := Q8.binds (ps := ["turns", "minute"]) fun _ _ _ _ _ _ us hl => match us, hl with | [_, _], _ => rfl
  have R8 : RqOk (tx [("OutOfRange", C1), ("UnknownName", C2), ("BadName", C3)] P w K mg base) (rqSs B_turn_at) := by
    have e : rqSs B_turn_at = [] := by rfl
    rw [e]
    intro r hr
    cases hr
  have K8 : FnK (tx [("OutOfRange", C1), ("UnknownName", C2), ("BadName", C3)] P w K mg base) F_turn_at := fnk_mk (f := F_turn_at) (T := tx [("OutOfRange", C1), ("UnknownName", C2), ("BadName", C3)] P w K mg base) Q8 b8 (PySem.W.mg_of X G a8) sc_turn_at mm_turn_at rfl rfl (fun _ => rfl) rfl rfl bl R8
  have Q9 : L2.Fun K "next_turn" "next_turn" s_next_turn _ _ := L2.fun_mk (st := s_next_turn) l9 c9 k9
  have b9 := Q9.binds (ps := ["turns", "name", "minute"]) fun _ _ _ _ _ _ us hl => match us, hl with | [_, _, _], _ => rfl
  have R9 : RqOk (tx [("OutOfRange", C1), ("UnknownName", C2), ("BadName", C3)] P w K mg base) (rqSs B_next_turn) := by
    have e : rqSs B_next_turn = [.fn F_check_turns, .exc X_UnknownName, .fn F_check_minute, .fn F_turn_at] := by rfl
    rw [e]
    intro r hr
    simp only [List.mem_cons, List.not_mem_nil, or_false] at hr
    rcases hr with rfl | rfl | rfl | rfl
    · exact K6
    · exact X2
    · exact K7
    · exact K8
  have K9 : FnK (tx [("OutOfRange", C1), ("UnknownName", C2), ("BadName", C3)] P w K mg base) F_next_turn := fnk_mk (f := F_next_turn) (T := tx [("OutOfRange", C1), ("UnknownName", C2), ("BadName", C3)] P w K mg base) Q9 b9 (PySem.W.mg_of X G a9) sc_next_turn mm_next_turn rfl rfl (fun _ => rfl) rfl rfl bl R9
  have Q10 : L2.Fun K "who_has" "who_has" s_who_has _ _ := L2.fun_mk (st := s_who_has) l10 c10 k10
  have b10 := Q10.binds (ps := ["turns", "minute"]) fun _ _ _ _ _ _ us hl => match us, hl with | [_, _], _ => rfl
  have R10 : RqOk (tx [("OutOfRange", C1), ("UnknownName", C2), ("BadName", C3)] P w K mg base) (rqSs B_who_has) := by
    have e : rqSs B_who_has = [.fn F_check_turns, .fn F_check_minute, .fn F_turn_at] := by rfl
    rw [e]
    intro r hr
    simp only [List.mem_cons, List.not_mem_nil, or_false] at hr
    rcases hr with rfl | rfl | rfl
    · exact K6
    · exact K7
    · exact K8
  have K10 : FnK (tx [("OutOfRange", C1), ("UnknownName", C2), ("BadName", C3)] P w K mg base) F_who_has := fnk_mk (f := F_who_has) (T := tx [("OutOfRange", C1), ("UnknownName", C2), ("BadName", C3)] P w K mg base) Q10 b10 (PySem.W.mg_of X G a10) sc_who_has mm_who_has rfl rfl (fun _ => rfl) rfl rfl bl R10
  have Q11 : L2.Fun K "minutes_until" "minutes_until" s_minutes_until _ _ := L2.fun_mk (st := s_minutes_until) l11 c11 k11
  have b11 := Q11.binds (ps := ["turns", "name", "minute"]) fun _ _ _ _ _ _ us hl => match us, hl with | [_, _, _], _ => rfl
  have R11 : RqOk (tx [("OutOfRange", C1), ("UnknownName", C2), ("BadName", C3)] P w K mg base) (rqSs B_minutes_until) := by
    have e : rqSs B_minutes_until = [] := by rfl
    rw [e]
    intro r hr
    cases hr
  have K11 : FnK (tx [("OutOfRange", C1), ("UnknownName", C2), ("BadName", C3)] P w K mg base) F_minutes_until := fnk_mk (f := F_minutes_until) (T := tx [("OutOfRange", C1), ("UnknownName", C2), ("BadName", C3)] P w K mg base) Q11 b11 (PySem.W.mg_of X G a11) sc_minutes_until mm_minutes_until rfl rfl (fun _ => rfl) rfl rfl bl R11
  have Q12 : L2.Fun K "minutes_of" "minutes_of" s_minutes_of _ _ := L2.fun_mk (st := s_minutes_of) l12 c12 k12
  have b12 := Q12.binds (ps := ["turns", "first", "second"]) fun _ _ _ _ _ _ us hl => match us, hl with | [_, _, _], _ => rfl
  have R12 : RqOk (tx [("OutOfRange", C1), ("UnknownName", C2), ("BadName", C3)] P w K mg base) (rqSs B_minutes_of) := by
    have e : rqSs B_minutes_of = [.fn F_check_turns, .fn F_check_minute, .fn F_check_minute, .exc X_OutOfRange, .fn F_minutes_until, .fn F_minutes_until] := by rfl
    rw [e]
    intro r hr
    simp only [List.mem_cons, List.not_mem_nil, or_false] at hr
    rcases hr with rfl | rfl | rfl | rfl | rfl | rfl
    · exact K6
    · exact K7
    · exact K7
    · exact X1
    · exact K11
    · exact K11
  have K12 : FnK (tx [("OutOfRange", C1), ("UnknownName", C2), ("BadName", C3)] P w K mg base) F_minutes_of := fnk_mk (f := F_minutes_of) (T := tx [("OutOfRange", C1), ("UnknownName", C2), ("BadName", C3)] P w K mg base) Q12 b12 (PySem.W.mg_of X G a12) sc_minutes_of mm_minutes_of rfl rfl (fun _ => rfl) rfl rfl bl R12
  have Q13 : L2.Fun K "_law_told" "_law_told" s_l_told _ _ := L2.fun_mk (st := s_l_told) l13 c13 k13
  have b13 := Q13.binds (ps := ["way", "turns", "a", "b"]) fun _ _ _ _ _ _ us hl => match us, hl with | [_, _, _, _], _ => rfl
  have R13 : RqOk (tx [("OutOfRange", C1), ("UnknownName", C2), ("BadName", C3)] P w K mg base) (rqSs B_l_told) := by
    have e : rqSs B_l_told = [.xcl XCS, .fn F_who_has, .fn F_minutes_of, .fn F_next_turn, .cat XCS "OutOfRange", .xfl XCS "value", .cat XCS "BadName", .xfl XCS "name", .cat XCS "UnknownName", .xfl XCS "name", .cat XCS "WeirError"] := by rfl
    rw [e]
    intro r hr
    simp only [List.mem_cons, List.not_mem_nil, or_false] at hr
    rcases hr with rfl | rfl | rfl | rfl | rfl | rfl | rfl | rfl | rfl | rfl | rfl
    · exact XC
    · exact K10
    · exact K12
    · exact K9
    · exact Y1
    · exact V1
    · exact Y2
    · exact V2
    · exact Y3
    · exact V2
    · exact Y4
  have K13 : FnK (tx [("OutOfRange", C1), ("UnknownName", C2), ("BadName", C3)] P w K mg base) F_l_told := fnk_mk (f := F_l_told) (T := tx [("OutOfRange", C1), ("UnknownName", C2), ("BadName", C3)] P w K mg base) Q13 b13 (PySem.W.mg_of X G a13) sc_l_told mm_l_told rfl rfl (fun _ => rfl) rfl rfl bl R13
  have Q14 : L2.Fun K "_law_cell" "_law_cell" s_l_cell _ _ := L2.fun_mk (st := s_l_cell) l14 c14 k14
  have b14 := Q14.binds (ps := ["script", "k"]) fun _ _ _ _ _ _ us hl => match us, hl with | [_, _], _ => rfl
  have R14 : RqOk (tx [("OutOfRange", C1), ("UnknownName", C2), ("BadName", C3)] P w K mg base) (rqSs B_l_cell) := by
    have e : rqSs B_l_cell = [] := by rfl
    rw [e]
    intro r hr
    cases hr
  have K14 : FnK (tx [("OutOfRange", C1), ("UnknownName", C2), ("BadName", C3)] P w K mg base) F_l_cell := fnk_mk (f := F_l_cell) (T := tx [("OutOfRange", C1), ("UnknownName", C2), ("BadName", C3)] P w K mg base) Q14 b14 (PySem.W.mg_of X G a14) sc_l_cell mm_l_cell rfl rfl (fun _ => rfl) rfl rfl bl R14
  have Q15 : L2.Fun K "_law_has" "_law_has" s_l_has _ _ := L2.fun_mk (st := s_l_has) l15 c15 k15
  have b15 := Q15.binds (ps := ["turns", "minute"]) fun _ _ _ _ _ _ us hl => match us, hl with | [_, _], _ => rfl
  have R15 : RqOk (tx [("OutOfRange", C1), ("UnknownName", C2), ("BadName", C3)] P w K mg base) (rqSs B_l_has) := by
    have e : rqSs B_l_has = [] := by rfl
    rw [e]
    intro r hr
    cases hr
  have K15 : FnK (tx [("OutOfRange", C1), ("UnknownName", C2), ("BadName", C3)] P w K mg base) F_l_has := fnk_mk (f := F_l_has) (T := tx [("OutOfRange", C1), ("UnknownName", C2), ("BadName", C3)] P w K mg base) Q15 b15 (PySem.W.mg_of X G a15) sc_l_has mm_l_has rfl rfl (fun _ => rfl) rfl rfl bl R15
  have Q16 : L2.Fun K "_law_whole" "_law_whole" s_l_whole _ _ := L2.fun_mk (st := s_l_whole) l16 c16 k16
  have b16 := Q16.binds (ps := ["x"]) fun _ _ _ _ _ _ us hl => match us, hl with | [_], _ => rfl
  have R16 : RqOk (tx [("OutOfRange", C1), ("UnknownName", C2), ("BadName", C3)] P w K mg base) (rqSs B_l_whole) := by
    have e : rqSs B_l_whole = [] := by rfl
    rw [e]
    intro r hr
    cases hr
  have K16 : FnK (tx [("OutOfRange", C1), ("UnknownName", C2), ("BadName", C3)] P w K mg base) F_l_whole := fnk_mk (f := F_l_whole) (T := tx [("OutOfRange", C1), ("UnknownName", C2), ("BadName", C3)] P w K mg base) Q16 b16 (PySem.W.mg_of X G a16) sc_l_whole mm_l_whole rfl rfl (fun _ => rfl) rfl rfl bl R16
  have Q17 : L2.Fun K "_law_before" "_law_before" s_l_before _ _ := L2.fun_mk (st := s_l_before) l17 c17 k17
  have b17 := Q17.binds (ps := ["turns", "name", "minute"]) fun _ _ _ _ _ _ us hl => match us, hl with | [_, _, _], _ => rfl
  have R17 : RqOk (tx [("OutOfRange", C1), ("UnknownName", C2), ("BadName", C3)] P w K mg base) (rqSs B_l_before) := by
    have e : rqSs B_l_before = [] := by rfl
    rw [e]
    intro r hr
    cases hr
  have K17 : FnK (tx [("OutOfRange", C1), ("UnknownName", C2), ("BadName", C3)] P w K mg base) F_l_before := fnk_mk (f := F_l_before) (T := tx [("OutOfRange", C1), ("UnknownName", C2), ("BadName", C3)] P w K mg base) Q17 b17 (PySem.W.mg_of X G a17) sc_l_before mm_l_before rfl rfl (fun _ => rfl) rfl rfl bl R17
  have Q18 : L2.Fun K "_law_next" "_law_next" s_l_next _ _ := L2.fun_mk (st := s_l_next) l18 c18 k18
  have b18 := Q18.binds (ps := ["turns", "name", "minute", "whole"]) fun _ _ _ _ _ _ us hl => match us, hl with | [_, _, _, _], _ => rfl
  have R18 : RqOk (tx [("OutOfRange", C1), ("UnknownName", C2), ("BadName", C3)] P w K mg base) (rqSs B_l_next) := by
    have e : rqSs B_l_next = [] := by rfl
    rw [e]
    intro r hr
    cases hr
  have K18 : FnK (tx [("OutOfRange", C1), ("UnknownName", C2), ("BadName", C3)] P w K mg base) F_l_next := fnk_mk (f := F_l_next) (T := tx [("OutOfRange", C1), ("UnknownName", C2), ("BadName", C3)] P w K mg base) Q18 b18 (PySem.W.mg_of X G a18) sc_l_next mm_l_next rfl rfl (fun _ => rfl) rfl rfl bl R18
  have Q19 : L2.Fun K "law" "law" s_law _ _ := L2.fun_mk (st := s_law) l19 c19 k19
  have b19 := Q19.binds (ps := ["script"]) fun _ _ _ _ _ _ us hl => match us, hl with | [_], _ => rfl
  have R19 : RqOk (tx [("OutOfRange", C1), ("UnknownName", C2), ("BadName", C3)] P w K mg base) (rqSs B_law) := by
    have e : rqSs B_law = [.fn F_l_cell, .fn F_l_cell, .fn F_l_draw, .fn F_l_cell, .fn F_l_cell, .fn F_l_told, .fn F_l_has, .fn F_l_cell, .fn F_l_before, .fn F_l_before, .fn F_l_told, .fn F_l_whole, .fn F_l_told, .fn F_l_next, .fn F_l_told, .fn F_l_told, .fn F_l_told, .fn F_l_told, .fn F_l_told, .fn F_l_told, .fn F_l_told, .fn F_l_told, .fn F_l_told] := by rfl
    rw [e]
    intro r hr
    simp only [List.mem_cons, List.not_mem_nil, or_false] at hr
    rcases hr with rfl | rfl | rfl | rfl | rfl | rfl | rfl | rfl | rfl | rfl | rfl | rfl | rfl | rfl | rfl | rfl | rfl | rfl | rfl | rfl | rfl | rfl | rfl
    · exact K14
    · exact K14
    · exact K1
    · exact K14
    · exact K14
    · exact K13
    · exact K15
    · exact K14
    · exact K17
    · exact K17
    · exact K13
    · exact K16
    · exact K13
    · exact K18
    · exact K13
    · exact K13
    · exact K13
    · exact K13
    · exact K13
    · exact K13
    · exact K13
    · exact K13
    · exact K13
  exact (fn_ok (f := F_law) (T := tx [("OutOfRange", C1), ("UnknownName", C2), ("BadName", C3)] P w K mg base) Q19 sc_law mm_law rfl rfl (fun z => by cases z) rfl bl R19).imp (law_imp (T := tx [("OutOfRange", C1), ("UnknownName", C2), ("BadName", C3)] P w K mg base) rfl rfl hlaw)
end Wb
namespace Wb
open PySem PySem.Spec PyProof.Rows
theorem whlGo_rule {c : Env → Store → R Bool} {body : Env → Store → Out} {Done : Out → Prop} (P : Nat → Env → Store → Prop)
    (step : ∀ n env S, P n env S → (c env S = .ok false S ∧ Done (.nx env S)) ∨ (∃ m env2, n = m + 1 ∧ c env S = .ok true S ∧ body env S = .nx env2 S ∧ P m env2 S)) :
    ∀ (n fu : Nat) (env : Env) (S : Store), n < fu → P n env S → Done (whlGo c body fu env S) := by
  intro n
  induction n with
  | zero =>
    intro fu env S hf h
    cases fu with
    | zero => omega
    | succ fu =>
      unfold whlGo
      rcases step 0 env S h with ⟨h1, h2⟩ | ⟨m, _, e, _⟩
      · rw [h1]; exact h2
      · omega
  | succ n ih =>
    intro fu env S hf h
    cases fu with
    | zero => omega
    | succ fu =>
      unfold whlGo
      rcases step (n + 1) env S h with ⟨h1, h2⟩ | ⟨m, env2, e, h1, h2, h3⟩
      · rw [h1]; exact h2
      · rw [h1, R.out_ok, if_pos rfl, h2]
        dsimp only
        have e2 : m = n := by omega
        subst e2
        exact ih fu env2 S (by omega) h3
theorem eqF_int (a m : Int) : eqF (.int a) (.int m) = decide (m = a) := by
  show (a == m) = _
  by_cases h : m = a
  · subst h; simp
  · rw [decide_eq_false h]
    exact beq_eq_false_iff_ne.mpr fun e => h e.symm
theorem in_int4 (m a b c d : Int) : cmpW .isIn (.int m) (.tup [.int a, .int b, .int c, .int d]) = some (decide (m = a ∨ m = b ∨ m = c ∨ m = d)) := by
  show (if (flatW (.int m) && List.all [W.int a, .int b, .int c, .int d] flatW) = true then some (List.any [W.int a, .int b, .int c, .int d] fun y => eqF y (.int m)) else none) = _
  refine (if_pos rfl).trans ?_
  simp only [List.any_cons, List.any_nil, eqF_int, Bool.or_false, Bool.decide_or]
theorem in_int2 (m a b : Int) : cmpW .isIn (.int m) (.tup [.int a, .int b]) = some (decide (m = a ∨ m = b)) := by
  show (if (flatW (.int m) && List.all [W.int a, .int b] flatW) = true then some (List.any [W.int a, .int b] fun y => eqF y (.int m)) else none) = _
  refine (if_pos rfl).trans ?_
  simp only [List.any_cons, List.any_nil, eqF_int, Bool.or_false, Bool.decide_or]
theorem rng_two {S : Store} (a b : Int) (hz : -4611686018427387904 ≤ a ∧ a < 4611686018427387904 ∧ -4611686018427387904 ≤ b ∧ b < 4611686018427387904) : itemsR .range [.int a, .int b] S = .ok ((List.range (b - a).toNat).map fun i : Nat => .int (a + (i : Int))) S := by
  unfold itemsR
  rw [show itemsW .range [.int a, .int b] = some ((List.range (b - a).toNat).map fun i : Nat => .int (a + (i : Int))) from if_pos hz]
theorem fuel_eq : fuel = 1000000000000 := rfl
def cc (c : Nat) : W := .str ⟨#[c]⟩
def sx (l : List Nat) : Str := ⟨l.toArray⟩
theorem sx_len (l : List Nat) : (sx l).length = l.length := by
  show l.toArray.size = _
  simp
theorem sx_app (a b : List Nat) : sx a ++ sx b = sx (a ++ b) := by
  show (⟨(sx a).cps ++ (sx b).cps⟩ : Str) = _
  simp [sx]
theorem lit_dash : Str.ofString "-" = sx [45] := by decide +kernel
theorem str_empty : Str.empty = sx [] := by decide +kernel
theorem padW_ok {n : Nat} {i : Int} (h0 : 0 ≤ i) (h1 : i < 10000) : padW n i = some (padT n i) := if_pos ⟨h0, h1⟩
theorem lt_one (a b : Nat) : ([a] : List Nat) < [b] ↔ a < b := by
  constructor
  · intro h
    cases h with
    | rel h => exact h
    | cons h => cases h
  · exact fun h => List.Lex.rel h
theorem ltS_one (a b : Nat) : ltS ⟨#[a]⟩ ⟨#[b]⟩ = decide (a < b) := by
  unfold ltS
  simp [lt_one]
theorem lit_0 : (Str.ofString "0") = ⟨#[48]⟩ := by decide +kernel
theorem lit_9 : (Str.ofString "9") = ⟨#[57]⟩ := by decide +kernel
theorem lit_ds : (Str.ofString "-") = ⟨#[45]⟩ := by decide +kernel
def digit (c : Nat) : Bool := decide (48 ≤ c) && decide (c ≤ 57)
theorem sx_at (l : List Nat) (k : Nat) (h : k < l.length) : subW (.str (sx l)) (.int k) = if l.length ≤ sizeL then some (cc l[k]) else none := by
  show (if (sx l).length ≤ sizeL then Option.map (fun c => W.str ⟨#[c]⟩) (L2.atI (sx l).cps.toList k) else none) = _
  rw [sx_len]
  have e : (sx l).cps.toList = l := by simp [sx]
  rw [e, L2.atI_nat (List.getElem?_eq_getElem h)]
  rfl
theorem len_sx (l : List Nat) (hl : l.length ≤ sizeL) : biW .len [.str (sx l)] = some (false, .int l.length) := by
  have lenv : lenW (.str (sx l)) = some l.length := by
    show (if (sx l).length ≤ sizeL then some (sx l).length else none) = _
    rw [sx_len, if_pos hl]
  show (match lenW (.str (sx l)) with | some n => some (false, W.int (n : Int)) | none => none) = _
  rw [lenv]
theorem shp_str {a : Str} (h : PyData.strOk a = true) : SeqAt.shaped (.str a) = true := by
  show (PyData.strOk a && decide _) = true
  rw [h]; rfl
theorem eqW_str {a b : Str} (ha : PyData.strOk a = true) (hb : PyData.strOk b = true) : eqW (.str a) (.str b) = some (decide (a = b)) := by
  show (if (SeqAt.shaped (.str a) && SeqAt.shaped (.str b)) = true then some (PyData.eqv (.str a) (.str b)) else none) = _
  have h : (SeqAt.shaped (.str a) && SeqAt.shaped (.str b)) = true := by rw [shp_str ha, shp_str hb]; rfl
  rw [if_pos h]
  show some (a == b) = _
  rw [Bool.beq_eq_decide_eq]
theorem eq_str' {a b : Str} (ha : PyData.strOk a = true) (hb : PyData.strOk b = true) : cmpW .eq (.str a) (.str b) = some (decide (a = b)) := eqW_str ha hb
theorem ne_str' {a b : Str} (ha : PyData.strOk a = true) (hb : PyData.strOk b = true) : cmpW .ne (.str a) (.str b) = some (!decide (a = b)) := by
  show (eqW (.str a) (.str b)).map (! ·) = _
  rw [eqW_str ha hb]; rfl
theorem ok_one {a : Nat} (h : a < 1114112) : PyData.strOk ⟨#[a]⟩ = true := by
  unfold PyData.strOk
  simp [h]
theorem ne_cc {a b : Nat} (ha : a < 1114112) (hb : b < 1114112) : cmpW .ne (cc a) (.str ⟨#[b]⟩) = some (!decide (a = b)) := by
  unfold cc
  rw [ne_str' (ok_one ha) (ok_one hb)]
  simp
theorem slice_str (z : Str) (h : z.length ≤ sizeL) (a b : Option Int) : sliceW (.str z) a b = some (false, .str (L2.cutS z a b)) := if_pos h
theorem add_str' (a b : Str) (h : a.length + b.length ≤ sizeL) : binW .add (.str a) (.str b) = some (false, .str (a ++ b)) := if_pos h
theorem bi_int_str {s : Str} {n : Int} (h : intText? s = some n) (hl : s.length ≤ 640) : biW .int [.str s] = some (false, .int n) := by
  show (match intText? s with
    | some n => if s.length ≤ 640 then some (false, W.int n) else none
    | none => none) = _
  rw [h]
  exact if_pos hl
theorem str_small {i : Int} {t : Str} (h0 : 0 ≤ i) (h1 : i < 10000) (h : Str.ofString (toString i) = t) : biW .str [.int i] = some (false, .str t) := by
  rw [← h]
  exact if_pos (pad_log h0 h1)
theorem add_sx (a b : List Nat) (h : a.length + b.length ≤ 1000) : binW .add (.str (sx a)) (.str (sx b)) = some (false, .str (sx (a ++ b))) := by
  rw [add_str' _ _ (by rw [sx_len, sx_len]; unfold sizeL; omega), sx_app]
theorem ne_same {l : List Nat} (hv : ∀ c ∈ l, c < 1114112) : cmpW .ne (.str (sx l)) (.str (sx l)) = some false := by
  have h : PyData.strOk (sx l) = true := by
    unfold PyData.strOk sx
    simpa using hv
  rw [ne_str' h h]
  simp
theorem strOk_sx {l : List Nat} (hv : ∀ c ∈ l, c < 1114112) : PyData.strOk (sx l) = true := by
  unfold PyData.strOk sx
  simpa using hv
theorem ne_sx {a b : List Nat} (ha : ∀ c ∈ a, c < 1114112) (hb : ∀ c ∈ b, c < 1114112) : cmpW .ne (.str (sx a)) (.str (sx b)) = some (!decide (a = b)) := by
  rw [ne_str' (strOk_sx ha) (strOk_sx hb)]
  have e : (sx a = sx b) ↔ a = b := by
    unfold sx
    constructor
    · intro h
      have h2 := congrArg (fun z : Str => z.cps.toList) h
      simpa using h2
    · intro h; rw [h]
  simp [e]
theorem eq_sx {a b : List Nat} (ha : ∀ c ∈ a, c < 1114112) (hb : ∀ c ∈ b, c < 1114112) : cmpW .eq (.str (sx a)) (.str (sx b)) = some (decide (a = b)) := by
  rw [eq_str' (strOk_sx ha) (strOk_sx hb)]
  have e : (sx a = sx b) ↔ a = b := by
    unfold sx
    constructor
    · intro h
      have h2 := congrArg (fun z : Str => z.cps.toList) h
      simpa using h2
    · intro h; rw [h]
  simp [e]
theorem cut_sx (l : List Nat) (a b : Nat) : L2.cutS (sx l) (some (a : Int)) (some (b : Int)) = sx ((l.drop a).take (min b l.length - min a l.length)) := by
  unfold L2.cutS
  rw [HT.sIx_nat, HT.sIx_nat, sx_len]
  have e : (sx l).cps.toList = l := by simp [sx]
  rw [e]
  show sx _ = _
  by_cases h : a ≤ l.length
  · rw [Nat.min_eq_left h]
  · rw [List.drop_eq_nil_of_le (show l.length ≤ a by omega), List.drop_eq_nil_of_le (show l.length ≤ min a l.length by omega)]
theorem cut_take (l : List Nat) (b : Nat) : L2.cutS (sx l) none (some (b : Int)) = sx (l.take b) := by
  unfold L2.cutS
  rw [HT.sIx_nat, HT.sIx_none, sx_len]
  have e : (sx l).cps.toList = l := by simp [sx]
  rw [e]
  show sx _ = _
  rw [List.drop_zero, Nat.sub_zero]
  by_cases h : b ≤ l.length
  · rw [Nat.min_eq_left h]
  · rw [Nat.min_eq_right (by omega), List.take_length, List.take_of_length_le (by omega)]
theorem cut_drop (l : List Nat) (a : Nat) : L2.cutS (sx l) (some (a : Int)) none = sx (l.drop a) := by
  unfold L2.cutS
  rw [HT.sIx_nat, HT.sIx_none, sx_len]
  have e : (sx l).cps.toList = l := by simp [sx]
  rw [e]
  show sx _ = _
  by_cases h : a ≤ l.length
  · rw [Nat.min_eq_left h, List.take_of_length_le (by simp)]
  · rw [Nat.min_eq_right (by omega), Nat.sub_self, List.take_zero, List.drop_eq_nil_of_le (by omega)]
theorem sl_take (l : List Nat) (hl : l.length ≤ sizeL) (b : Nat) : sliceW (.str (sx l)) none (some (b : Int)) = some (false, .str (sx (l.take b))) := by
  rw [slice_str _ (by rw [sx_len]; exact hl), cut_take]
theorem sl_drop (l : List Nat) (hl : l.length ≤ sizeL) (a : Nat) : sliceW (.str (sx l)) (some (a : Int)) none = some (false, .str (sx (l.drop a))) := by
  rw [slice_str _ (by rw [sx_len]; exact hl), cut_drop]
theorem sl_both (l : List Nat) (hl : l.length ≤ sizeL) (a b : Nat) : sliceW (.str (sx l)) (some (a : Int)) (some (b : Int)) = some (false, .str (sx ((l.drop a).take (min b l.length - min a l.length)))) := by
  rw [slice_str _ (by rw [sx_len]; exact hl), cut_sx]
/-! ### equal to itself -/
def okD : Nat → W → Bool
  | _, .non => true
  | _, .bl _ => true
  | _, .int _ => true
  | _, .str s => PyData.strOk s
  | n + 1, .tup ws => ws.all (okD n)
  | n + 1, .lst ws => ws.all (okD n)
  | _, _ => false
theorem okDs_ok {n : Nat} (ih : ∀ w, okD n w = true → ∃ d, toPy w = some d ∧ d.canLay0 = true ∧ d.depth ≤ n) : ∀ ws : List W, ws.all (okD n) = true → ∃ ds, toPys ws = some ds ∧ PyData.canLayAll0 ds = true ∧ PyData.depthAll ds ≤ n
  | [], _ => ⟨[], rfl, rfl, Nat.zero_le _⟩
  | w :: ws, h => by
    rw [List.all_cons, Bool.and_eq_true] at h
    obtain ⟨d, e1, c1, p1⟩ := ih w h.1
    obtain ⟨ds, e2, c2, p2⟩ := okDs_ok ih ws h.2
    refine ⟨d :: ds, by rw [toPys, e1, e2], ?_, ?_⟩
    · show (d.canLay0 && PyData.canLayAll0 ds) = true
      rw [c1, c2]; rfl
    · show max d.depth (PyData.depthAll ds) ≤ n
      omega
theorem okD_ok : ∀ (n : Nat) (w : W), okD n w = true → ∃ d, toPy w = some d ∧ d.canLay0 = true ∧ d.depth ≤ n
  | n, .non, h => ⟨.none, by rw [toPy], rfl, Nat.zero_le _⟩
  | n, .bl b, h => ⟨.bool b, by rw [toPy], rfl, Nat.zero_le _⟩
  | n, .int b, h => ⟨.int b, by rw [toPy], rfl, Nat.zero_le _⟩
  | n, .str b, h => ⟨.str b, by rw [toPy], by cases n <;> exact h, Nat.zero_le _⟩
  | n + 1, .tup ws, h => by
    obtain ⟨ds, e, c, p⟩ := okDs_ok (okD_ok n) ws h
    exact ⟨.tuple ds, by rw [toPy, e]; rfl, c, Nat.succ_le_succ p⟩
  | n + 1, .lst ws, h => by
    obtain ⟨ds, e, c, p⟩ := okDs_ok (okD_ok n) ws h
    exact ⟨.list ds, by rw [toPy, e]; rfl, c, Nat.succ_le_succ p⟩
  | 0, .tup _, h => by cases h
  | 0, .lst _, h => by cases h
  | 0, .ro _, h => by cases h
  | 0, .dct _, h => by cases h
  | 0, .ins _ _, h => by cases h
  | 0, .ref _, h => by cases h
  | _ + 1, .ro _, h => by cases h
  | _ + 1, .dct _, h => by cases h
  | _ + 1, .ins _ _, h => by cases h
  | _ + 1, .ref _, h => by cases h
theorem eqW_self {w : W} (h : okD 60 w = true) : eqW w w = some true := by
  obtain ⟨d, e, c, p⟩ := okD_ok 60 w h
  unfold eqW
  rw [e]
  have hs : SeqAt.shaped d = true := by
    unfold SeqAt.shaped
    rw [c]
    simp
    omega
  dsimp only
  rw [hs]
  simp [SeqAt.eqv_refl d c]
theorem eq_self' {w : W} (h : okD 60 w = true) : cmpW .eq w w = some true := eqW_self h
theorem ne_self {w : W} (h : okD 60 w = true) : cmpW .ne w w = some false := by
  show (eqW w w).map (! ·) = _
  rw [eqW_self h]; rfl
/-- two things that can be compared -/
theorem eqW_some {a b : W} (ha : okD 60 a = true) (hb : okD 60 b = true) : ∃ k, eqW a b = some k := by
  obtain ⟨d, e, c, p⟩ := okD_ok 60 a ha
  obtain ⟨d', e', c', p'⟩ := okD_ok 60 b hb
  unfold eqW
  rw [e, e']
  have hs : SeqAt.shaped d = true := by unfold SeqAt.shaped; rw [c]; simp; omega
  have hs' : SeqAt.shaped d' = true := by unfold SeqAt.shaped; rw [c']; simp; omega
  dsimp only
  rw [hs, hs']
  exact ⟨_, if_pos rfl⟩
/-! ### loops, item by item -/
theorem forGo_nil {tg : Tg} {body : Env → Store → Out} {env : Env} {S : Store} : forGo tg body [] env S = .nx env S := rfl
theorem forGo_nx {tg : Tg} {body : Env → Store → Out} {x : W} {xs : List W} {env env' env2 : Env} {S S2 : Store} (hb : bindTg tg x env = some env') (h : body env' S = .nx env2 S2) : forGo tg body (x :: xs) env S = forGo tg body xs env2 S2 := by
  rw [forGo, hb]
  dsimp only
  rw [h]
theorem forGo_ct {tg : Tg} {body : Env → Store → Out} {x : W} {xs : List W} {env env' env2 : Env} {S S2 : Store} (hb : bindTg tg x env = some env') (h : body env' S = .ct env2 S2) : forGo tg body (x :: xs) env S = forGo tg body xs env2 S2 := by
  rw [forGo, hb]
  dsimp only
  rw [h]
theorem forGo_brk {tg : Tg} {body : Env → Store → Out} {x : W} {xs : List W} {env env' env2 : Env} {S S2 : Store} (hb : bindTg tg x env = some env') (h : body env' S = .brk env2 S2) : forGo tg body (x :: xs) env S = .nx env2 S2 := by
  rw [forGo, hb]
  dsimp only
  rw [h]
theorem forGo_ret {tg : Tg} {body : Env → Store → Out} {x w : W} {xs : List W} {env env' env2 : Env} {S S2 : Store} (hb : bindTg tg x env = some env') (h : body env' S = .ret w env2 S2) : forGo tg body (x :: xs) env S = .ret w env2 S2 := by
  rw [forGo, hb]
  dsimp only
  rw [h]
theorem forGo_exn {tg : Tg} {body : Env → Store → Out} {x : W} {xs : List W} {env env' env2 : Env} {S S2 : Store} {c : Str} {fs : List (Str × W)} (hb : bindTg tg x env = some env') (h : body env' S = .exn c fs env2 S2) : forGo tg body (x :: xs) env S = .exn c fs env2 S2 := by
  rw [forGo, hb]
  dsimp only
  rw [h]
theorem lcGo_if {tg : Tg} {cs : List E} {elt : Env → Store → R W} {env : Env} {S : Store} {b : W → Bool} {f : W → W} : ∀ (items acc : List W), (∀ x ∈ items, ∃ env', bindTg tg x env = some env' ∧ cndF cs env' S = .ok (b x) S ∧ (b x = true → elt env' S = .ok (f x) S)) → acc.length + items.length ≤ sizeL →
    lcGo tg (cndF cs) elt env items acc S = .ok (acc ++ (items.filter b).map f) S
  | [], acc, _, _ => by simp [lcGo]
  | x :: xs, acc, h, hl => by
    obtain ⟨env', h1, h2, h3⟩ := h x (by simp)
    unfold lcGo
    rw [h1]
    dsimp only
    rw [h2, R.bind_ok]
    cases hb : b x with
    | true =>
      rw [if_pos rfl, h3 hb, R.bind_ok, if_pos (by simp at hl; omega)]
      rw [lcGo_if xs (acc ++ [f x]) (fun y hy => h y (by simp [hy])) (by simp at hl ⊢; omega)]
      simp [hb]
    | false =>
      rw [if_neg Bool.false_ne_true, lcGo_if xs acc (fun y hy => h y (by simp [hy])) (by simp at hl ⊢; omega)]
      simp [hb]
theorem intsW_map (ms : List Int) : intsW (ms.map .int) = some ms := by
  induction ms with
  | nil => rfl
  | cons a ms ih => rw [List.map_cons, intsW, ih]; rfl
theorem sum_ints (ms : List Int) : biW .sum [.lst (ms.map .int)] = some (false, .int ms.sum) := by
  show (intsW (ms.map .int)).map (fun ns => (false, W.int ns.sum)) = _
  rw [intsW_map]; rfl
theorem sx_inj {a b : List Nat} : sx a = sx b ↔ a = b := by
  unfold sx
  constructor
  · intro h
    have h2 := congrArg (fun z : Str => z.cps.toList) h
    simpa using h2
  · intro h; rw [h]
theorem inW_strs (a : List Nat) (L : List (List Nat)) : inW (.str (sx a)) (.lst (L.map fun n => .str (sx n))) = some (decide (a ∈ L)) := by
  have h1 : (L.map fun n => W.str (sx n)).all flatW = true := by rw [List.all_map, List.all_eq_true]; intro x _; rfl
  show (if (flatW (.str (sx a)) && (L.map fun n => W.str (sx n)).all flatW) = true then some ((L.map fun n => W.str (sx n)).any fun y => eqF y (.str (sx a))) else none) = _
  rw [h1]
  refine (if_pos rfl).trans ?_
  congr 1
  clear h1
  rw [List.any_map]
  induction L with
  | nil => rfl
  | cons b L ih =>
    rw [List.any_cons, ih]
    show ((sx b == sx a) || _) = _
    have e : (sx b == sx a) = decide (a = b) := by
      rw [Bool.beq_eq_decide_eq, decide_eq_decide, sx_inj]
      exact eq_comm
    rw [e]
    simp
theorem in_strs (a : List Nat) (L : List (List Nat)) : cmpW .isIn (.str (sx a)) (.lst (L.map fun n => .str (sx n))) = some (decide (a ∈ L)) := inW_strs a L
theorem notin_strs (a : List Nat) (L : List (List Nat)) : cmpW .notIn (.str (sx a)) (.lst (L.map fun n => .str (sx n))) = some (!decide (a ∈ L)) := by
  show (inW _ _).map (! ·) = _
  rw [inW_strs]; rfl
theorem at_put_self {env : Env} {i : Nat} {x : Flag × W} (h : i < env.length) : (env.put i x).at i = some x := by
  unfold Env.at Env.put
  rw [List.getElem?_set_self h]; rfl
theorem at_put_ne {env : Env} {i j : Nat} {x : Flag × W} (h : i ≠ j) : (env.put i x).at j = env.at j := by
  unfold Env.at Env.put
  rw [List.getElem?_set_ne h]
theorem put_len {env : Env} {i : Nat} {x : Flag × W} : (env.put i x).length = env.length := by unfold Env.put; rw [List.length_set]
theorem min2_int (i j : Int) : biW .min2 [.int i, .int j] = some (false, .int (if j < i then j else i)) := rfl
theorem max2_int (i j : Int) : biW .max2 [.int i, .int j] = some (false, .int (if j > i then j else i)) := rfl
theorem ownL_lst {env : Env} {S : Store} {i : Nat} {ws : List W} (h : env.at i = some (.o, .lst ws)) : ownL (.slot i) env S = true := by
  unfold ownL
  rw [show PR.get (.slot i) env S = env.at i from rfl, h]
theorem ownA_any {env : Env} {S : Store} {i : Nat} {w : W} (h : env.at i = some (.o, w)) : ownA (.slot i) env S = true := by
  unfold ownA
  rw [show PR.get (.slot i) env S = env.at i from rfl, h]
theorem chg_at {env : Env} {S : Store} {i : Nat} {w w' : W} {g : W → Option W} (h : env.at i = some (.o, w)) (hg : g w = some w') : chg (.slot i) g env S = .nx (env.put i (.o, w')) S := by
  unfold chg
  rw [show PR.get (.slot i) env S = env.at i from rfl, h]
  dsimp only
  rw [hg]
  rfl
end Wb
namespace Wb
open PySem PySem.Spec PyProof.Rows
@[simp] theorem isSub_we (c : Str) : isSub c "WeirError" = true := by unfold isSub; simp
@[simp] theorem isSub_ve (c : Str) : isSub c "ValueError" = true := by unfold isSub; simp
@[simp] theorem isSub_self (c : Str) : isSub c c = true := by unfold isSub; simp
@[simp] theorem xmem_OutOfRange : (("OutOfRange" : Str) ∈ XCS) = True := by decide
@[simp] theorem xn_OutOfRange : X_OutOfRange.n = 1 := id rfl
@[simp] theorem xnm_OutOfRange : X_OutOfRange.nm = "OutOfRange" := id rfl
@[simp] theorem xmem_UnknownName : (("UnknownName" : Str) ∈ XCS) = True := by decide
@[simp] theorem xn_UnknownName : X_UnknownName.n = 1 := id rfl
@[simp] theorem xnm_UnknownName : X_UnknownName.nm = "UnknownName" := id rfl
@[simp] theorem xmem_BadName : (("BadName" : Str) ∈ XCS) = True := by decide
@[simp] theorem xn_BadName : X_BadName.n = 1 := id rfl
@[simp] theorem xnm_BadName : X_BadName.nm = "BadName" := id rfl
@[simp] theorem isSub_OutOfRange_BadName : isSub "OutOfRange" "BadName" = false := by decide
@[simp] theorem isSub_OutOfRange_UnknownName : isSub "OutOfRange" "UnknownName" = false := by decide
@[simp] theorem isSub_OutOfRange__law_before : isSub "OutOfRange" "_law_before" = false := by decide
@[simp] theorem isSub_OutOfRange__law_cell : isSub "OutOfRange" "_law_cell" = false := by decide
@[simp] theorem isSub_OutOfRange__law_draw : isSub "OutOfRange" "_law_draw" = false := by decide
@[simp] theorem isSub_OutOfRange__law_has : isSub "OutOfRange" "_law_has" = false := by decide
@[simp] theorem isSub_OutOfRange__law_next : isSub "OutOfRange" "_law_next" = false := by decide
@[simp] theorem isSub_OutOfRange__law_told : isSub "OutOfRange" "_law_told" = false := by decide
@[simp] theorem isSub_OutOfRange__law_whole : isSub "OutOfRange" "_law_whole" = false := by decide
@[simp] theorem isSub_OutOfRange_check_between : isSub "OutOfRange" "check_between" = false := by decide
@[simp] theorem isSub_OutOfRange_check_minute : isSub "OutOfRange" "check_minute" = false := by decide
@[simp] theorem isSub_OutOfRange_check_turns : isSub "OutOfRange" "check_turns" = false := by decide
@[simp] theorem isSub_OutOfRange_is_digit : isSub "OutOfRange" "is_digit" = false := by decide
@[simp] theorem isSub_OutOfRange_is_letter : isSub "OutOfRange" "is_letter" = false := by decide
@[simp] theorem isSub_OutOfRange_is_name : isSub "OutOfRange" "is_name" = false := by decide
@[simp] theorem isSub_OutOfRange_law : isSub "OutOfRange" "law" = false := by decide
@[simp] theorem isSub_OutOfRange_minutes_of : isSub "OutOfRange" "minutes_of" = false := by decide
@[simp] theorem isSub_OutOfRange_minutes_until : isSub "OutOfRange" "minutes_until" = false := by decide
@[simp] theorem isSub_OutOfRange_next_turn : isSub "OutOfRange" "next_turn" = false := by decide
@[simp] theorem isSub_OutOfRange_turn_at : isSub "OutOfRange" "turn_at" = false := by decide
@[simp] theorem isSub_OutOfRange_who_has : isSub "OutOfRange" "who_has" = false := by decide
@[simp] theorem isSub_UnknownName_BadName : isSub "UnknownName" "BadName" = false := by decide
@[simp] theorem isSub_UnknownName_OutOfRange : isSub "UnknownName" "OutOfRange" = false := by decide
@[simp] theorem isSub_UnknownName__law_before : isSub "UnknownName" "_law_before" = false := by decide
@[simp] theorem isSub_UnknownName__law_cell : isSub "UnknownName" "_law_cell" = false := by decide
@[simp] theorem isSub_UnknownName__law_draw : isSub "UnknownName" "_law_draw" = false := by decide
@[simp] theorem isSub_UnknownName__law_has : isSub "UnknownName" "_law_has" = false := by decide
@[simp] theorem isSub_UnknownName__law_next : isSub "UnknownName" "_law_next" = false := by decide
@[simp] theorem isSub_UnknownName__law_told : isSub "UnknownName" "_law_told" = false := by decide
@[simp] theorem isSub_UnknownName__law_whole : isSub "UnknownName" "_law_whole" = false := by decide
@[simp] theorem isSub_UnknownName_check_between : isSub "UnknownName" "check_between" = false := by decide
@[simp] theorem isSub_UnknownName_check_minute : isSub "UnknownName" "check_minute" = false := by decide
@[simp] theorem isSub_UnknownName_check_turns : isSub "UnknownName" "check_turns" = false := by decide
@[simp] theorem isSub_UnknownName_is_digit : isSub "UnknownName" "is_digit" = false := by decide
@[simp] theorem isSub_UnknownName_is_letter : isSub "UnknownName" "is_letter" = false := by decide
@[simp] theorem isSub_UnknownName_is_name : isSub "UnknownName" "is_name" = false := by decide
@[simp] theorem isSub_UnknownName_law : isSub "UnknownName" "law" = false := by decide
@[simp] theorem isSub_UnknownName_minutes_of : isSub "UnknownName" "minutes_of" = false := by decide
@[simp] theorem isSub_UnknownName_minutes_until : isSub "UnknownName" "minutes_until" = false := by decide
@[simp] theorem isSub_UnknownName_next_turn : isSub "UnknownName" "next_turn" = false := by decide
@[simp] theorem isSub_UnknownName_turn_at : isSub "UnknownName" "turn_at" = false := by decide
@[simp] theorem isSub_UnknownName_who_has : isSub "UnknownName" "who_has" = false := by decide
@[simp] theorem isSub_BadName_OutOfRange : isSub "BadName" "OutOfRange" = false := by decide
@[simp] theorem isSub_BadName_UnknownName : isSub "BadName" "UnknownName" = false := by decide
@[simp] theorem isSub_BadName__law_before : isSub "BadName" "_law_before" = false := by decide
@[simp] theorem isSub_BadName__law_cell : isSub "BadName" "_law_cell" = false := by decide
@[simp] theorem isSub_BadName__law_draw : isSub "BadName" "_law_draw" = false := by decide
@[simp] theorem isSub_BadName__law_has : isSub "BadName" "_law_has" = false := by decide
@[simp] theorem isSub_BadName__law_next : isSub "BadName" "_law_next" = false := by decide
@[simp] theorem isSub_BadName__law_told : isSub "BadName" "_law_told" = false := by decide
@[simp] theorem isSub_BadName__law_whole : isSub "BadName" "_law_whole" = false := by decide
@[simp] theorem isSub_BadName_check_between : isSub "BadName" "check_between" = false := by decide
@[simp] theorem isSub_BadName_check_minute : isSub "BadName" "check_minute" = false := by decide
@[simp] theorem isSub_BadName_check_turns : isSub "BadName" "check_turns" = false := by decide
@[simp] theorem isSub_BadName_is_digit : isSub "BadName" "is_digit" = false := by decide
@[simp] theorem isSub_BadName_is_letter : isSub "BadName" "is_letter" = false := by decide
@[simp] theorem isSub_BadName_is_name : isSub "BadName" "is_name" = false := by decide
@[simp] theorem isSub_BadName_law : isSub "BadName" "law" = false := by decide
@[simp] theorem isSub_BadName_minutes_of : isSub "BadName" "minutes_of" = false := by decide
@[simp] theorem isSub_BadName_minutes_until : isSub "BadName" "minutes_until" = false := by decide
@[simp] theorem isSub_BadName_next_turn : isSub "BadName" "next_turn" = false := by decide
@[simp] theorem isSub_BadName_turn_at : isSub "BadName" "turn_at" = false := by decide
@[simp] theorem isSub_BadName_who_has : isSub "BadName" "who_has" = false := by decide
end Wb
namespace Wb
open PySem PySem.Spec PyProof.Rows
@[simp] theorem plc_a : F_l_cell.plain = true := rfl
@[simp] theorem dvc_a : F_l_cell.dv 0 = [] := rfl
theorem sem_l_cell (S : Store) (ns : List Int) (k : Nat) : F_l_cell.sem S [.ro (ns.map .int), .int k] = .ok (.int (ns[k]?.getD 0), []) S := by
  unfold F_l_cell
  dsimp only
  rw [run_eq rfl]
  have hl : biW .len [.ro (ns.map .int)] = some (false, .int ns.length) := by
    show some (false, W.int ((ns.map W.int).length : Int)) = _
    rw [List.length_map]
  by_cases h : k < ns.length
  · have c1 : ((k : Int) < ns.length) := by omega
    have hs : subW (.ro (ns.map .int)) (.int k) = some (.int (ns[k]?.getD 0)) := by
      show L2.atI (ns.map W.int) (k : Int) = _
      rw [L2.atI_nat (v := .int (ns[k]?.getD 0)) (by rw [List.getElem?_map, List.getElem?_eq_getElem h]; rfl)]
    simp [B_l_cell, env0, Env.at, cmpW, hl, quiet, quiets, c1, hs]
  · have c1 : ¬ ((k : Int) < ns.length) := by omega
    have hg : ns[k]? = none := List.getElem?_eq_none (by omega)
    simp [B_l_cell, env0, Env.at, cmpW, hl, quiet, quiets, c1, hg]
end Wb
namespace Wb
open PySem PySem.Spec PyProof.Rows
@[simp] theorem plw_a : F_l_whole.plain = true := rfl
@[simp] theorem dvw_a : F_l_whole.dv 0 = [] := rfl
theorem sem_l_whole (S : Store) (i : Int) : F_l_whole.sem S [.int i] = .ok (.bl true, []) S := by
  unfold F_l_whole
  dsimp only
  rw [run_eq rfl]
  have e1 : isiW (.int i) .int = some true := rfl
  have e2 : isiW (.int i) .bool = some false := rfl
  simp [B_l_whole, env0, Env.at, quiet, quiets, finW, e1, e2]
end Wb
namespace Wb
open PySem PySem.Spec PyProof.Rows
@[simp] theorem pl_letter : F_is_letter.plain = true := rfl
@[simp] theorem pl_digit : F_is_digit.plain = true := rfl
@[simp] theorem dv_letter : F_is_letter.dv 0 = [] := rfl
@[simp] theorem dv_digit : F_is_digit.dv 0 = [] := rfl
@[simp] theorem pl_isname : F_is_name.plain = true := rfl
@[simp] theorem dv_isname : F_is_name.dv 0 = [] := rfl
theorem lit_a : (Str.ofString "a") = ⟨#[97]⟩ := by decide +kernel
theorem lit_z : (Str.ofString "z") = ⟨#[122]⟩ := by decide +kernel
def letter (c : Nat) : Bool := decide (97 ≤ c) && decide (c ≤ 122)
theorem sem_is_letter (S : Store) (c : Nat) : F_is_letter.sem S [cc c] = .ok (.bl (letter c), []) S := by
  unfold F_is_letter
  dsimp only
  rw [run_eq rfl]
  simp [B_is_letter, env0, Env.at, cc, cmpW, ltS_one, lit_a, lit_z, finW, letter]
  by_cases h : c < 97
  · have h2 : ¬ 97 ≤ c := by omega
    simp [h, h2]
  · have h2 : 97 ≤ c := by omega
    by_cases h3 : 122 < c
    · have h4 : ¬ c ≤ 122 := by omega
      simp [h, h2, h3, h4]
    · have h4 : c ≤ 122 := by omega
      simp [h, h2, h3, h4]
theorem sem_is_digit (S : Store) (c : Nat) : F_is_digit.sem S [cc c] = .ok (.bl (digit c), []) S := by
  unfold F_is_digit
  dsimp only
  rw [run_eq rfl]
  simp [B_is_digit, env0, Env.at, cc, cmpW, ltS_one, lit_0, lit_9, finW, digit]
  by_cases h : c < 48
  · have h2 : ¬ 48 ≤ c := by omega
    simp [h, h2]
  · have h2 : 48 ≤ c := by omega
    by_cases h3 : 57 < c
    · have h4 : ¬ c ≤ 57 := by omega
      simp [h, h2, h3, h4]
    · have h4 : c ≤ 57 := by omega
      simp [h, h2, h3, h4]
/-- the two judgements of a text -/
def goodL (l : List Nat) : Bool := decide (1 ≤ l.length) && (decide (l.length ≤ 12) && (letter (l.getD 0 0) && l.all fun c => letter c || digit c))
theorem sem_is_name (S : Store) (l : List Nat) (hl : l.length ≤ sizeL) : F_is_name.sem S [.str (sx l)] = .ok (.bl (goodL l), []) S := by
  unfold F_is_name
  dsimp only
  rw [run_eq rfl]
  by_cases h1 : 1 ≤ l.length
  · by_cases h2 : l.length ≤ 12
    · have h0 := sx_at l 0 (by omega)
      rw [if_pos hl] at h0
      have h0' : subW (.str (sx l)) (.int 0) = some (cc l[0]) := h0
      have hg : l.getD 0 0 = l[0] := by simp [List.getD_eq_getElem?_getD, List.getElem?_eq_getElem (show 0 < l.length by omega)]
      have c1 : ¬ ((l.length : Int) < 1) := by omega
      have c2 : ¬ (12 < (l.length : Int)) := by omega
      cases hlet : letter l[0] with
      | false =>
        have e : goodL l = false := by unfold goodL; rw [hg, hlet]; simp
        rw [e]
        simp [B_is_name, env0, Env.at, cmpW, len_sx l hl, quiet, quiets, c1, c2, h0', sem_is_letter, hlet, finW]
      | true =>
        simp [B_is_name, env0, Env.at, cmpW, len_sx l hl, quiet, quiets, c1, c2, h0', sem_is_letter, hlet, finW]
        have et : (sx l).cps.toList = l := by simp [sx]
        rw [et]
        refine forGo_rule (Done := fun o => endR [false] false (o.then _) = _) (fun k env S' => S' = S ∧ (∃ v, env = [some (.v, .str (sx l)), v]) ∧ ∀ j (hj : j < l.length), j < k → (letter l[j] || digit l[j]) = true) ⟨rfl, ⟨none, rfl⟩, fun j _ h => absurd h (by omega)⟩ (fun k hk env S' hI => ?_) fun env S' hI => ?_
        · obtain ⟨rfl, ⟨v, rfl⟩, hI⟩ := hI
          have hk' : k < l.length := by simpa using hk
          have ei : (List.map (fun c => W.str ⟨#[c]⟩) l)[k] = cc l[k] := by simp [cc]
          rw [ei]
          refine ⟨_, rfl, ?_⟩
          cases q1 : letter l[k] with
          | true =>
            simp [Env.put, Env.at, sem_is_letter, q1]
            intro j hj hjk
            by_cases e : j = k
            · subst e; simp [q1]
            · have := hI j hj (by omega); simpa using this
          | false =>
            cases q2 : digit l[k] with
            | true =>
              simp [Env.put, Env.at, sem_is_letter, sem_is_digit, q1, q2]
              intro j hj hjk
              by_cases e : j = k
              · subst e; simp [q2]
              · have := hI j hj (by omega); simpa using this
            | false =>
              have e : goodL l = false := by
                unfold goodL
                have : (l.all fun c => letter c || digit c) = false := by
                  rw [List.all_eq_false]
                  exact ⟨l[k], List.getElem_mem hk', by simp [q1, q2]⟩
                rw [this]; simp
              simp [Env.put, Env.at, sem_is_letter, sem_is_digit, q1, q2, e, finW]
        · obtain ⟨rfl, ⟨v, rfl⟩, hI⟩ := hI
          have e : goodL l = true := by
            unfold goodL
            have : (l.all fun c => letter c || digit c) = true := by
              rw [List.all_eq_true]
              intro c hc
              obtain ⟨j, hj, rfl⟩ := List.mem_iff_getElem.mp hc
              exact hI j hj (by simpa using hj)
            rw [this, hg, hlet]; simp [h1, h2]
          simp [e]
    · have e : goodL l = false := by unfold goodL; simp [h2]
      have c1 : ¬ ((l.length : Int) < 1) := by omega
      have c2 : (12 < (l.length : Int)) := by omega
      rw [e]
      simp [B_is_name, env0, Env.at, cmpW, len_sx l hl, quiet, quiets, c1, c2, finW]
  · have e : goodL l = false := by unfold goodL; simp [h1]
    have c1 : ((l.length : Int) < 1) := by omega
    rw [e]
    simp [B_is_name, env0, Env.at, cmpW, len_sx l hl, quiet, quiets, c1, finW]
end Wb
namespace Wb
open PySem PySem.Spec PyProof.Rows
@[simp] theorem pl_draw : F_l_draw.plain = true := rfl
@[simp] theorem dv_draw : F_l_draw.dv 0 = [] := rfl
/-- the numbers that are drawn -/
def Drawn (lims row : List Int) : Prop := row.length ≤ lims.length ∧ ∀ k (h : k < row.length) (h' : k < lims.length), 0 ≤ row[k] ∧ row[k] < lims[k]
theorem drawn_snoc {lims row : List Int} {x : Int} (h : Drawn lims row) (hk : row.length < lims.length) (h0 : 0 ≤ x) (h1 : x < lims[row.length]) : Drawn lims (row ++ [x]) := by
  refine ⟨by rw [List.length_append, List.length_singleton]; omega, fun k a b => ?_⟩
  by_cases e : k < row.length
  · rw [List.getElem_append_left e]; exact h.2 k e b
  · have e' : k = row.length := by simp at a; omega
    subst e'
    rw [List.getElem_append_right (by omega)]
    simp [h0, h1]
theorem sem_l_draw (S : Store) (cell : Int) (lims : List Int) (hl : lims.length ≤ 1000) (hb : ∀ x ∈ lims, 1 ≤ x ∧ x < 1073741824) :
    ∃ row : List Int, row.length = lims.length ∧ Drawn lims row ∧ F_l_draw.sem S [.int cell, .lst (lims.map .int)] = .ok (.lst (row.map .int), []) S := by
  unfold F_l_draw
  dsimp only
  rw [run_eq rfl]
  have hle : biW .len [.lst (lims.map .int)] = some (false, .int lims.length) := by
    show some (false, W.int ((lims.map W.int).length : Int)) = _
    rw [List.length_map]
  have hsz : lims.length ≤ sizeL := by unfold sizeL; omega
  have ha : biW .abs [.int cell] = some (false, .int (if cell < 0 then -cell else cell)) := rfl
  generalize (if cell < 0 then -cell else cell) = ab at ha
  simp [B_l_draw, env0, Env.at, Env.put, cmpW, hle, ha, quiet, quiets]
  rw [rng_nat _ hsz]
  simp
  refine forGo_rule (Done := fun o => ∃ row : List Int, row.length = lims.length ∧ Drawn lims row ∧ endR [false, false] false (o.then _) = .ok (.lst (row.map .int), []) S)
    (fun k env S' => S' = S ∧ ∃ (row : List Int) (rest : Int) (g : Bool) (v w : Option (Flag × W)), row.length = k ∧ Drawn lims row ∧ env = [some (.v, .int cell), some (.v, .lst (lims.map .int)), some (.o, .lst (row.map .int)), some (.v, .int rest), some (.v, .bl g), v, w])
    ⟨rfl, [], ab, _, none, none, rfl, ⟨Nat.zero_le _, fun k h => absurd h (by simp)⟩, rfl⟩ (fun k hk env S' hI => ?_) fun env S' hI => ?_
  · obtain ⟨rfl, row, rest, g, v, w, hrl, hd, rfl⟩ := hI
    have hk' : k < lims.length := by simpa using hk
    have ei : (List.map (fun i : Nat => W.int (i : Int)) (List.range lims.length))[k] = .int k := by simp
    rw [ei]
    obtain ⟨b1, b2⟩ := hb lims[k] (List.getElem_mem hk')
    have hs : subW (.lst (lims.map .int)) (.int k) = some (.int lims[k]) := by
      show L2.atI (lims.map W.int) (k : Int) = _
      rw [L2.atI_nat (v := .int lims[k]) (by rw [List.getElem?_map, List.getElem?_eq_getElem hk']; rfl)]
    have hfm : ∀ z : Int, 0 ≤ z % lims[k] ∧ z % lims[k] < lims[k] := fun z => ⟨Int.emod_nonneg _ (by omega), Int.emod_lt_of_pos _ (by omega)⟩
    have happ : ∀ z : Int, appW (.lst (row.map .int)) (.int z) = some (.lst ((row ++ [z]).map .int)) := fun z => by
      show (if (row.map W.int).length < sizeL then some (W.lst (row.map W.int ++ [W.int z])) else none) = _
      rw [List.length_map, if_pos (by unfold sizeL; omega), List.map_append]
      rfl
    have q1 : 0 < lims[k] := by omega
    refine ⟨_, rfl, ?_⟩
    by_cases hc : g = true ∧ lims[k] ≤ rest
    · obtain ⟨rfl, hc⟩ := hc
      simp [Env.put, Env.at, quiet, quiets, hs, hc, q1, b2, ownL, PR.get, chg, happ, PR.setE, PR.setS]
      refine ⟨row ++ [rest % lims[k]], by simp [hrl], drawn_snoc hd (by omega) (hfm _).1 (by subst hrl; exact (hfm _).2), ?_⟩
      simp
    · cases g with
      | false =>
        simp [Env.put, Env.at, quiet, quiets, hs, q1, ownL, PR.get, chg, happ, PR.setE, PR.setS, ha]
        refine ⟨row ++ [(((ab * 48271 + ((k : Int) + 1) * 69621) % 2147483647 * 16807 + ((k : Int) + 1) * 40692) % 2147483399) % lims[k]], by simp [hrl], drawn_snoc hd (by omega) (hfm _).1 (by subst hrl; exact (hfm _).2), ?_⟩
        simp
      | true =>
        have hc' : ¬ lims[k] ≤ rest := fun h => hc ⟨rfl, h⟩
        simp [Env.put, Env.at, quiet, quiets, hs, q1, hc', ownL, PR.get, chg, happ, PR.setE, PR.setS, ha]
        refine ⟨row ++ [(((ab * 48271 + ((k : Int) + 1) * 69621) % 2147483647 * 16807 + ((k : Int) + 1) * 40692) % 2147483399) % lims[k]], by simp [hrl], drawn_snoc hd (by omega) (hfm _).1 (by subst hrl; exact (hfm _).2), ?_⟩
        simp
  · obtain ⟨rfl, row, rest, g, v, w, hrl, hd, rfl⟩ := hI
    refine ⟨row, by simpa using hrl, hd, ?_⟩
    simp [Env.put, Env.at]
end Wb
namespace Wb
open PySem PySem.Spec PyProof.Rows
/-! ### the calendar -/
def leapB (y : Int) : Bool := decide (y % 4 = 0) && (!decide (y % 100 = 0) || decide (y % 400 = 0))
def mlen (y m : Int) : Int := if m = 2 then (if leapB y then 29 else 28) else if m = 4 ∨ m = 6 ∨ m = 9 ∨ m = 11 then 30 else 31
def ys (y : Int) : Int := 365 * (y - 2000) + (y - 2000 + 3) / 4 - (y - 2000 + 99) / 100 + (y - 2000 + 399) / 400
/-- the days of the first k months -/
def cum (y : Int) : Nat → Int
  | 0 => 0
  | k + 1 => cum y k + mlen y ((k : Int) + 1)
theorem mlen_lo (y m : Int) : 28 ≤ mlen y m := by
  unfold mlen
  split
  · split <;> omega
  · split <;> omega
theorem mlen_hi (y m : Int) : mlen y m ≤ 31 := by
  unfold mlen
  split
  · split <;> omega
  · split <;> omega
theorem cum_mono (y : Int) {j k : Nat} (h : j ≤ k) : cum y j ≤ cum y k := by
  induction k with
  | zero => have : j = 0 := by omega
            subst this; exact Int.le_refl _
  | succ k ih =>
    by_cases e : j = k + 1
    · subst e; exact Int.le_refl _
    · have := ih (by omega)
      have := mlen_lo y ((k : Int) + 1)
      show cum y j ≤ cum y k + mlen y ((k : Int) + 1)
      omega
theorem ys_succ {y : Int} (h : 2000 ≤ y) : ys (y + 1) = ys y + 365 + (if leapB y then 1 else 0) := by
  unfold ys leapB
  by_cases h4 : y % 4 = 0
  · by_cases h100 : y % 100 = 0
    · by_cases h400 : y % 400 = 0
      · simp [h4, h100, h400]; omega
      · simp [h4, h100, h400]; omega
    · simp [h4, h100]; omega
  · simp [h4]; omega
theorem ys_mono {a b : Int} (h0 : 2000 ≤ a) (h : a ≤ b) : ys a ≤ ys b := by
  unfold ys; omega
theorem cum12 (y : Int) : cum y 12 = 365 + (if leapB y then 1 else 0) := by
  simp [cum, mlen]
  split <;> omega
/-- day is the d-th of month k + 1 of the year y -/
structure IsDate (day y : Int) (k : Nat) (d : Int) : Prop where
  y0 : 2000 ≤ y
  y1 : y ≤ 2199
  k1 : k < 12
  d0 : 1 ≤ d
  d1 : d ≤ mlen y ((k : Int) + 1)
  eq : day = ys y + cum y k + d - 1
theorem IsDate.lt {day y d : Int} {k : Nat} (h : IsDate day y k d) : day < ys (y + 1) := by
  have e := h.eq
  have h1 : cum y (k + 1) ≤ cum y 12 := cum_mono y (by have := h.k1; omega)
  have h2 : cum y (k + 1) = cum y k + mlen y ((k : Int) + 1) := rfl
  have := h.d1
  rw [ys_succ h.y0, Int.add_assoc, ← cum12]
  omega
theorem IsDate.ge {day y d : Int} {k : Nat} (h : IsDate day y k d) : ys y ≤ day := by
  have e := h.eq
  have h1 : cum y 0 ≤ cum y k := cum_mono y (by omega)
  have h2 : cum y 0 = 0 := rfl
  have := h.d0
  omega
theorem cum_find (y r : Int) : ∀ n : Nat, 0 ≤ r → r < cum y n → ∃ k, k < n ∧ cum y k ≤ r ∧ r < cum y (k + 1)
  | 0, h0, h => by have : cum y 0 = 0 := rfl
                   omega
  | n + 1, h0, h => by
    by_cases q : r < cum y n
    · obtain ⟨k, a, b, c⟩ := cum_find y r n h0 q
      exact ⟨k, by omega, b, c⟩
    · exact ⟨n, by omega, by omega, h⟩
theorem year_find {day : Int} (h0 : 0 ≤ day) (h1 : day ≤ 73048) : ∃ y, 2000 ≤ y ∧ y ≤ 2199 ∧ (y = 2000 + day / 366 ∨ y = 2000 + day / 366 + 1) ∧ ys y ≤ day ∧ day < ys (y + 1) := by
  by_cases q : ys (2000 + day / 366 + 1) ≤ day
  · refine ⟨2000 + day / 366 + 1, by omega, ?_, .inr rfl, q, ?_⟩
    · unfold ys at q; omega
    · unfold ys; omega
  · refine ⟨2000 + day / 366, by omega, by omega, .inl rfl, ?_, by omega⟩
    unfold ys; omega
theorem date_find {day : Int} (h0 : 0 ≤ day) (h1 : day ≤ 73048) : ∃ y k d, IsDate day y k d ∧ (y = 2000 + day / 366 ∨ y = 2000 + day / 366 + 1) := by
  obtain ⟨y, a, b, c, e, f⟩ := year_find h0 h1
  rw [ys_succ a, Int.add_assoc, ← cum12] at f
  obtain ⟨k, g1, g2, g3⟩ := cum_find y (day - ys y) 12 (by omega) (by omega)
  have g4 : cum y (k + 1) = cum y k + mlen y ((k : Int) + 1) := rfl
  exact ⟨y, k, day - ys y - cum y k + 1, ⟨a, b, g1, by omega, by omega, by omega⟩, c⟩
/-! ### loops that wait -/
end Wb
namespace Wb
open PySem PySem.Spec PyProof.Rows
end Wb
namespace Wb
open PySem PySem.Spec PyProof.Rows
def dateW (y : Int) (k : Nat) (d : Int) : W := .tup [.int y, .int ((k : Int) + 1), .int d]
end Wb
namespace Wb
open PySem PySem.Spec PyProof.Rows
@[simp] theorem pl00_h : F_check_between.plain = true := rfl
@[simp] theorem dv00_h : F_check_between.dv 0 = [] := rfl
theorem sem_check_between (S : Store) {v a b : Int} (h0 : a ≤ v) (h1 : v ≤ b) : F_check_between.sem S [.int v, .int a, .int b] = .ok (.non, []) S := by
  unfold F_check_between
  dsimp only
  rw [run_eq rfl]
  have c1 : ¬ v < a := by omega
  have c2 : ¬ b < v := by omega
  simp [B_check_between, env0, Env.at, quiet, quiets, finW, c1, c2]
  rfl
theorem sub_date (y d : Int) (k : Nat) : subW (dateW y k d) (.int 0) = some (.int y) ∧ subW (dateW y k d) (.int 1) = some (.int ((k : Int) + 1)) ∧ subW (dateW y k d) (.int 2) = some (.int d) :=
  ⟨sub_tup (k := 0) rfl, sub_tup (k := 1) rfl, sub_tup (k := 2) rfl⟩
/-! ### texts -/
def d4 (y : Int) : List Nat := [50, 48 + (y / 100 % 10).toNat, 48 + (y / 10 % 10).toNat, 48 + (y % 10).toNat]
def d2 (m : Int) : List Nat := [48 + (m / 10).toNat, 48 + (m % 10).toNat]
theorem pad4_all : ∀ n : Fin 200, padT 4 (2000 + (n.val : Int)) = sx (d4 (2000 + (n.val : Int))) := by decide +kernel
theorem pad2_all : ∀ n : Fin 100, padT 2 (n.val : Int) = sx (d2 (n.val : Int)) := by decide +kernel
theorem pad4 {y : Int} (h0 : 2000 ≤ y) (h1 : y ≤ 2199) : padT 4 y = sx (d4 y) := by
  have q := pad4_all ⟨(y - 2000).toNat, by omega⟩
  have e : (2000 : Int) + (((y - 2000).toNat : Nat) : Int) = y := by omega
  rwa [e] at q
theorem pad2 {y : Int} (h0 : 0 ≤ y) (h1 : y ≤ 99) : padT 2 y = sx (d2 y) := by
  have q := pad2_all ⟨y.toNat, by omega⟩
  have e : ((y.toNat : Nat) : Int) = y := by omega
  rwa [e] at q
theorem str4_all : ∀ n : Fin 200, Str.ofString (toString (2000 + (n.val : Int))) = sx (d4 (2000 + (n.val : Int))) := by decide +kernel
theorem str2_all : ∀ n : Fin 100, Str.ofString (toString (100 + (n.val : Int))) = sx (49 :: d2 (n.val : Int)) := by decide +kernel
/-- a date, written -/
def dateL (y : Int) (k : Nat) (d : Int) : List Nat := d4 y ++ [45] ++ d2 ((k : Int) + 1) ++ [45] ++ d2 d
end Wb
namespace Wb
open PySem PySem.Spec PyProof.Rows
def eOut (v : Int) : List (Str × W) := [("value", .int v), ("label", .str "OutOfRange")]
def eDay (v : Int) : List (Str × W) := [("day", .int v), ("label", .str "WrongDay")]
def eTxt (l c : Int) (r : Str) : List (Str × W) := [("reason", .str r), ("column", .int c), ("line", .int l), ("label", .str "BadText")]
@[simp] theorem xv_o (v : Int) : X_OutOfRange.vals [.int v] = eOut v := id rfl
theorem exn_between (S : Store) {v a b : Int} (h : v < a ∨ b < v) : F_check_between.sem S [.int v, .int a, .int b] = .exn "OutOfRange" (eOut v) S := by
  unfold F_check_between
  dsimp only
  rw [run_eq rfl]
  by_cases c1 : v < a
  · simp [B_check_between, env0, Env.at, quiet, quiets, c1]
  · have c2 : b < v := by omega
    simp [B_check_between, env0, Env.at, quiet, quiets, c1, c2]
def badD : W := .tup [.int 1, .int 1, .str "date"]
theorem ne_badD : cmpW .ne badD badD = some false := ne_self (by decide +kernel)
end Wb
namespace Wb
open PySem PySem.Spec PyProof.Rows
@[simp] theorem pl32_a : F_check_turns.plain = true := rfl
@[simp] theorem dv32_a : F_check_turns.dv 0 = [] := rfl
@[simp] theorem pl32_b : F_check_minute.plain = true := rfl
@[simp] theorem dv32_b : F_check_minute.dv 0 = [] := rfl
@[simp] theorem pl32_c : F_turn_at.plain = true := rfl
@[simp] theorem dv32_c : F_turn_at.dv 0 = [] := rfl
@[simp] theorem pl32_d : F_who_has.plain = true := rfl
@[simp] theorem dv32_d : F_who_has.dv 0 = [] := rfl
@[simp] theorem pl32_e : F_minutes_until.plain = true := rfl
@[simp] theorem dv32_e : F_minutes_until.dv 0 = [] := rfl
@[simp] theorem pl32_f : F_minutes_of.plain = true := rfl
@[simp] theorem dv32_f : F_minutes_of.dv 0 = [] := rfl
@[simp] theorem pl32_g : F_next_turn.plain = true := rfl
@[simp] theorem dv32_g : F_next_turn.dv 0 = [] := rfl
@[simp] theorem pl32_h : F_l_told.plain = true := rfl
@[simp] theorem dv32_h : F_l_told.dv 0 = [] := rfl
@[simp] theorem pl32_i : F_l_has.plain = true := rfl
@[simp] theorem dv32_i : F_l_has.dv 0 = [] := rfl
@[simp] theorem pl32_j : F_l_before.plain = true := rfl
@[simp] theorem dv32_j : F_l_before.dv 0 = [] := rfl
@[simp] theorem pl32_k : F_l_next.plain = true := rfl
@[simp] theorem dv32_k : F_l_next.dv 0 = [] := rfl
/-- a turn -/
abbrev Tu := List Nat × Int
def tu (p : Tu) : W := .tup [.str (sx p.1), .int p.2]
def tus (L : List Tu) : W := .lst (L.map tu)
theorem tu_0 (p : Tu) : subW (tu p) (.int 0) = some (.str (sx p.1)) := sub_tup (k := 0) rfl
theorem tu_1 (p : Tu) : subW (tu p) (.int 1) = some (.int p.2) := sub_tup (k := 1) rfl
theorem tus_at (L : List Tu) (i : Nat) (h : i < L.length) : subW (tus L) (.int i) = some (tu L[i]) := sub_lst (by rw [List.getElem?_map, List.getElem?_eq_getElem h]; rfl)
theorem tus_len (L : List Tu) : biW .len [tus L] = some (false, .int L.length) := by
  show some (false, W.int ((L.map tu).length : Int)) = _
  rw [List.length_map]
def tot (L : List Tu) : Int := (L.map (·.2)).sum
structure Good (L : List Tu) : Prop where
  n0 : 1 ≤ L.length
  n1 : L.length ≤ 60
  m0 : ∀ p ∈ L, 1 ≤ p.2
  m1 : ∀ p ∈ L, p.2 ≤ 10080
  nm : ∀ p ∈ L, goodL p.1 = true
  ok : ∀ p ∈ L, ∀ c ∈ p.1, c < 1114112
theorem Good.sz {L : List Tu} (h : Good L) : L.length ≤ sizeL := by have := h.n1; unfold sizeL; omega
theorem good_len {l : List Nat} (h : goodL l = true) : l.length ≤ 12 := by
  unfold goodL at h
  simp at h
  omega
theorem tot_bd : ∀ L : List Tu, (∀ p ∈ L, 1 ≤ p.2) → (∀ p ∈ L, p.2 ≤ 10080) → (L.length : Int) ≤ tot L ∧ tot L ≤ 10080 * L.length
  | [], _, _ => by simp [tot]
  | p :: L, h, h' => by
    have ih := tot_bd L (fun q hq => h q (List.mem_cons_of_mem _ hq)) (fun q hq => h' q (List.mem_cons_of_mem _ hq))
    have a := h p (List.mem_cons_self ..)
    have b := h' p (List.mem_cons_self ..)
    unfold tot at ih ⊢
    simp only [List.map_cons, List.sum_cons, List.length_cons]
    omega
theorem Good.tot {L : List Tu} (h : Good L) : 1 ≤ tot L ∧ Wb.tot L ≤ 604800 := by
  have := tot_bd L h.m0 h.m1
  have := h.n0
  have := h.n1
  omega
/-! ### comprehensions over turns -/
theorem bind_tu (p : Tu) (env : Env) (i j : Nat) : bindTg (.many [i, j]) (tu p) env = some ((env.put i (.v, .str (sx p.1))).put j (.v, .int p.2)) := rfl
theorem lc_minutes {S : Store} {env : Env} {i j : Nat} (hj : j < env.length) (L : List Tu) (hl : L.length ≤ sizeL) : lcGo (.many [i, j]) (cndF []) (eltF (.var j)) env (L.map tu) [] S = .ok ((L.map (·.2)).map .int) S := by
  refine (lcGo_map (f := fun w => match w with | .tup [_, b] => b | w => w) _ [] (fun x hx => ?_) (by simpa using hl)).trans ?_
  · obtain ⟨p, hp, rfl⟩ := List.mem_map.mp hx
    refine ⟨_, bind_tu p env i j, ?_⟩
    have e : ((env.put i (.v, .str (sx p.1))).put j (.v, .int p.2)).at j = some (.v, .int p.2) := at_put_self (by rw [put_len]; exact hj)
    simp [e, tu]
  · rw [List.nil_append, List.map_map, List.map_map]
    rfl
theorem lc_names {S : Store} {env : Env} {i j : Nat} (hi : i < env.length) (hij : j ≠ i) (L : List Tu) (hl : L.length ≤ sizeL) : lcGo (.many [i, j]) (cndF []) (eltF (.var i)) env (L.map tu) [] S = .ok ((L.map (·.1)).map fun n => .str (sx n)) S := by
  refine (lcGo_map (f := fun w => match w with | .tup [a, _] => a | w => w) _ [] (fun x hx => ?_) (by simpa using hl)).trans ?_
  · obtain ⟨p, hp, rfl⟩ := List.mem_map.mp hx
    refine ⟨_, bind_tu p env i j, ?_⟩
    have e : ((env.put i (.v, .str (sx p.1))).put j (.v, .int p.2)).at i = some (.v, .str (sx p.1)) := by
      rw [at_put_ne hij]
      exact at_put_self hi
    simp [e, tu]
  · rw [List.nil_append, List.map_map, List.map_map]
    rfl
def isN (a : List Nat) (p : Tu) : Bool := decide (p.1 = a)
def ownS (a : List Nat) (L : List Tu) : Int := ((L.filter (isN a)).map (·.2)).sum
theorem lc_own {S : Store} {env : Env} {i j k : Nat} (hi : i < env.length) (hj : j < env.length) (hij : j ≠ i) (hik : i ≠ k) (hjk : j ≠ k) {a : List Nat} (hk : env.at k = some (.v, .str (sx a))) (ha : ∀ c ∈ a, c < 1114112) (L : List Tu) (hok : ∀ p ∈ L, ∀ c ∈ p.1, c < 1114112) (hl : L.length ≤ sizeL) :
    lcGo (.many [i, j]) (cndF [.cmp .eq (.var i) (.var k)]) (eltF (.var j)) env (L.map tu) [] S = .ok (((L.filter (isN a)).map (·.2)).map .int) S := by
  refine (lcGo_if (b := fun w => match w with | .tup [.str s, _] => decide (s = sx a) | _ => false) (f := fun w => match w with | .tup [_, b] => b | w => w) _ [] (fun x hx => ?_) (by simpa using hl)).trans ?_
  · obtain ⟨p, hp, rfl⟩ := List.mem_map.mp hx
    refine ⟨_, bind_tu p env i j, ?_, fun _ => ?_⟩
    · have e1 : ((env.put i (.v, .str (sx p.1))).put j (.v, .int p.2)).at i = some (.v, .str (sx p.1)) := by
        rw [at_put_ne hij]
        exact at_put_self hi
      have e2 : ((env.put i (.v, .str (sx p.1))).put j (.v, .int p.2)).at k = some (.v, .str (sx a)) := by
        rw [at_put_ne hjk, at_put_ne hik]
        exact hk
      simp [e1, e2, quiet, quiets, eq_sx (hok p hp) ha, tu, sx_inj]
    · have e : ((env.put i (.v, .str (sx p.1))).put j (.v, .int p.2)).at j = some (.v, .int p.2) := at_put_self (by rw [put_len]; exact hj)
      simp [e, tu]
  · rw [List.nil_append]
    have ef : (L.map tu).filter (fun w => match w with | .tup [.str s, _] => decide (s = sx a) | _ => false) = (L.filter (isN a)).map tu := by
      rw [List.filter_map]
      congr 1
      refine List.filter_congr fun p _ => ?_
      show decide (sx p.1 = sx a) = decide (p.1 = a)
      rw [decide_eq_decide, sx_inj]
    rw [ef, List.map_map, List.map_map]
    rfl
/-! ### where a minute lies -/
def loc : List Tu → Int → Nat × Int
  | [], r => (0, r)
  | p :: L, r => if r < p.2 then (0, r) else ((loc L (r - p.2)).1 + 1, (loc L (r - p.2)).2)
def pre (L : List Tu) (i : Nat) : Int := tot (L.take i)
theorem pre_0 (L : List Tu) : pre L 0 = 0 := rfl
theorem pre_succ (L : List Tu) (i : Nat) (h : i < L.length) : pre L (i + 1) = pre L i + L[i].2 := by
  unfold pre tot
  rw [List.take_succ_eq_append_getElem h, List.map_append, List.sum_append, List.map_cons, List.map_nil, List.sum_cons, List.sum_nil, Int.add_zero]
theorem pre_all (L : List Tu) : pre L L.length = tot L := by unfold pre; rw [List.take_length]
theorem pre_mono (L : List Tu) (h : ∀ p ∈ L, 1 ≤ p.2) {i j : Nat} (hij : i ≤ j) (hj : j ≤ L.length) : pre L i ≤ pre L j := by
  induction hij with
  | refl => exact Int.le_refl _
  | step hm ih =>
    rename_i m
    have := ih (by omega)
    rw [pre_succ L m (by omega)]
    have := h L[m] (List.getElem_mem _)
    omega
theorem loc_ok : ∀ (L : List Tu) (r : Int), (∀ p ∈ L, 1 ≤ p.2) → 0 ≤ r → r < tot L → ∃ h : (loc L r).1 < L.length, 0 ≤ (loc L r).2 ∧ (loc L r).2 < L[(loc L r).1].2 ∧ r = pre L (loc L r).1 + (loc L r).2
  | [], r, _, h0, h1 => by simp [tot] at h1; omega
  | p :: L, r, h, h0, h1 => by
    by_cases q : r < p.2
    · have e : loc (p :: L) r = (0, r) := by unfold loc; rw [if_pos q]
      rw [e]
      exact ⟨by simp, h0, by simpa using q, by rw [pre_0]; simp⟩
    · have e : loc (p :: L) r = ((loc L (r - p.2)).1 + 1, (loc L (r - p.2)).2) := by rw [loc, if_neg q]
      obtain ⟨a, b, c, d⟩ := loc_ok L (r - p.2) (fun x hx => h x (List.mem_cons_of_mem _ hx)) (by omega) (by unfold tot at h1 ⊢; simp at h1; omega)
      rw [e]
      refine ⟨by simpa using a, b, by simpa using c, ?_⟩
      have : pre (p :: L) ((loc L (r - p.2)).1 + 1) = p.2 + pre L (loc L (r - p.2)).1 := by unfold pre tot; simp
      rw [this]
      dsimp only
      omega
theorem loc_eq : ∀ (L : List Tu) (i : Nat) (o : Int) (h : i < L.length), (∀ p ∈ L, 1 ≤ p.2) → 0 ≤ o → o < L[i].2 → loc L (pre L i + o) = (i, o)
  | [], i, o, h, _, _, _ => absurd h (by simp)
  | p :: L, 0, o, h, hp, h0, h1 => by
    have : pre (p :: L) 0 + o = o := by rw [pre_0]; simp
    rw [this]
    unfold loc
    rw [if_pos (by simpa using h1)]
  | p :: L, i + 1, o, h, hp, h0, h1 => by
    have hi : i < L.length := by simpa using h
    have e : pre (p :: L) (i + 1) = p.2 + pre L i := by unfold pre tot; simp
    have hm := pre_mono L (fun x hx => hp x (List.mem_cons_of_mem _ hx)) (Nat.zero_le i) (Nat.le_of_lt hi)
    rw [pre_0] at hm
    rw [e]
    unfold loc
    rw [if_neg (by omega), show p.2 + pre L i + o - p.2 = pre L i + o by omega, loc_eq L i o hi (fun x hx => hp x (List.mem_cons_of_mem _ hx)) h0 (by simpa using h1)]
end Wb
namespace Wb
open PySem PySem.Spec PyProof.Rows
theorem mod_pos {r m : Int} (h : 0 < m) : binW .mod (.int r) (.int m) = some (false, .int (r % m)) := mod_int' h
/-! ### the checks -/
theorem sem_check_minute (S : Store) {m : Int} (h0 : 0 ≤ m) (h1 : m ≤ 10000000) : F_check_minute.sem S [.int m] = .ok (.non, []) S := by
  unfold F_check_minute
  dsimp only
  rw [run_eq rfl]
  simp [B_check_minute, env0, Env.at, quiet, quiets, sem_check_between S h0 h1]
  rfl
theorem exn_check_minute (S : Store) {m : Int} (h : m < 0 ∨ 10000000 < m) : F_check_minute.sem S [.int m] = .exn "OutOfRange" (eOut m) S := by
  unfold F_check_minute
  dsimp only
  rw [run_eq rfl]
  simp [B_check_minute, env0, Env.at, quiet, quiets, exn_between S h]
theorem iter_tus {S : Store} (L : List Tu) : itemsR .iter [tus L] S = .ok (L.map tu) S := rfl
theorem loop_min {S : Store} (t : W) : ∀ (L : List Tu) (e1 e2 e3 : Option (Flag × W)), (∀ p ∈ L, 1 ≤ p.2) → (∀ p ∈ L, p.2 ≤ 10080) →
    ∃ d1 d2, forGo (.many [1, 2]) (runB [.expr (.call F_check_between [(.var 2), (.cst (.int 1)), (.glob "MOST_TURN" (.int 10080))] 0)]) (L.map tu) [some (.v, t), e1, e2, e3] S = .nx [some (.v, t), d1, d2, e3] S
  | [], e1, e2, e3, _, _ => ⟨e1, e2, rfl⟩
  | p :: L, e1, e2, e3, h0, h1 => by
    obtain ⟨f1, f2, ih⟩ := loop_min t L (some (.v, .str (sx p.1))) (some (.v, .int p.2)) e3 (fun q hq => h0 q (List.mem_cons_of_mem _ hq)) (fun q hq => h1 q (List.mem_cons_of_mem _ hq))
    refine ⟨f1, f2, ?_⟩
    rw [List.map_cons, forGo_nx (bind_tu p _ 1 2) (env2 := [some (.v, t), some (.v, .str (sx p.1)), some (.v, .int p.2), e3]) (S2 := S) ?_]
    · exact ih
    · simp [Env.at, Env.put, quiet, quiets, sem_check_between S (h0 p (List.mem_cons_self ..)) (h1 p (List.mem_cons_self ..))]
theorem loop_nam {S : Store} (t : W) : ∀ (L : List Tu) (e1 e2 e3 : Option (Flag × W)), (∀ p ∈ L, goodL p.1 = true) →
    ∃ d1 d3, forGo (.many [3, 1]) (runB [.ife (.not (.tru (.call F_is_name [(.var 3)] 0))) [.raise X_BadName [(.var 3)]] []]) (L.map tu) [some (.v, t), e1, e2, e3] S = .nx [some (.v, t), d1, e2, d3] S
  | [], e1, e2, e3, _ => ⟨e1, e3, rfl⟩
  | p :: L, e1, e2, e3, h0 => by
    obtain ⟨f1, f3, ih⟩ := loop_nam t L (some (.v, .int p.2)) e2 (some (.v, .str (sx p.1))) (fun q hq => h0 q (List.mem_cons_of_mem _ hq))
    refine ⟨f1, f3, ?_⟩
    have hg := h0 p (List.mem_cons_self ..)
    have hn := sem_is_name S p.1 (by have := good_len hg; unfold sizeL; omega)
    rw [hg] at hn
    rw [List.map_cons, forGo_nx (bind_tu p _ 3 1) (env2 := [some (.v, t), some (.v, .int p.2), e2, some (.v, .str (sx p.1))]) (S2 := S) ?_]
    · exact ih
    · simp [Env.at, Env.put, quiet, quiets, hn]
theorem sem_check_turns (S : Store) {L : List Tu} (h : Good L) : F_check_turns.sem S [tus L] = .ok (.non, []) S := by
  unfold F_check_turns
  dsimp only
  rw [run_eq rfl]
  have h0 := h.n0
  have h1 := h.n1
  have hc := sem_check_between S (v := (L.length : Int)) (a := 1) (b := 60) (by omega) (by omega)
  obtain ⟨a1, a2, q1⟩ := loop_min (S := S) (tus L) L none none none h.m0 h.m1
  obtain ⟨b1, b3, q2⟩ := loop_nam (S := S) (tus L) L a1 a2 none h.nm
  simp [B_check_turns, env0, Env.at, quiet, quiets, tus_len, hc, iter_tus, q1, q2]
  rfl
/-! ### turn_at, who_has -/
theorem sem_turn_at (S : Store) {L : List Tu} (h : Good L) (m : Int) : ∃ hh : (loc L (m % tot L)).1 < L.length, F_turn_at.sem S [tus L, .int m] = .ok (.tup [.int ((loc L (m % tot L)).1 : Int), .int (L[(loc L (m % tot L)).1].2 - (loc L (m % tot L)).2)], []) S := by
  obtain ⟨t0, t1⟩ := h.tot
  have r0 := Int.emod_nonneg m (show tot L ≠ 0 by omega)
  have r1 := Int.emod_lt_of_pos m (show 0 < tot L by omega)
  obtain ⟨hi, o0, o1, e⟩ := loc_ok L (m % tot L) h.m0 r0 r1
  refine ⟨hi, ?_⟩
  unfold F_turn_at
  dsimp only
  rw [run_eq rfl]
  have hlc := lc_minutes (S := S) (env := [some (.v, tus L), some (.v, .int m), none, none, none, none]) (i := 4) (j := 5) (by simp) L h.sz
  have hs := sum_ints (L.map (·.2))
  have hm := mod_pos (r := m) (show 0 < (L.map (·.2)).sum from by have : tot L = (L.map (·.2)).sum := rfl; omega)
  generalize hr : m % tot L = r at *
  have hr' : m % (L.map (·.2)).sum = r := hr
  rw [hr'] at hm
  generalize hq : loc L r = q at *
  obtain ⟨i, o⟩ := q
  dsimp only at hi o0 o1 e ⊢
  simp [-List.map_map, B_turn_at, env0, Env.at, Env.put, quiet, quiets, iter_tus, wipeE, hlc, hs, hm]
  refine whlGo_rule (Done := fun out => endR [false, false] false (out.then _) = _) (fun n env S' => S' = S ∧ ∃ a : Nat, a ≤ i ∧ n = i - a ∧ env = [some (.v, tus L), some (.v, .int m), some (.v, .int (r - pre L a)), some (.v, .int (a : Int)), none, none]) (fun n env S' hI => ?_) i fuel _ _ (by rw [fuel_eq]; have := h.n1; omega) ⟨rfl, 0, by omega, by omega, by simp [pre_0]⟩
  obtain ⟨rfl, a, ha, hn, rfl⟩ := hI
  have hal : a < L.length := by omega
  have s1 := tus_at L a hal
  have s2 := tu_1 L[a]
  by_cases hlt : a < i
  · right
    have hp := pre_mono L h.m0 (show a + 1 ≤ i by omega) (by omega)
    rw [pre_succ L a hal] at hp
    have c1 : L[a].2 ≤ r - pre L a := by omega
    refine ⟨n - 1, [some (.v, tus L), some (.v, .int m), some (.v, .int (r - pre L (a + 1))), some (.v, .int ((a + 1 : Nat) : Int)), none, none], by omega, ?_, ?_, rfl, a + 1, by omega, by omega, rfl⟩
    · simp [Env.at, quiet, quiets, s1, s2, c1]
    · rw [pre_succ L a hal]
      simp [Env.at, Env.put, quiet, quiets, s1, s2]
      omega
  · left
    have ea : a = i := by omega
    subst ea
    have c1 : ¬ L[a].2 ≤ r - pre L a := by omega
    refine ⟨by simp [Env.at, quiet, quiets, s1, s2, c1], ?_⟩
    simp [Env.at, quiet, quiets, s1, s2, sizeL]
    omega
theorem sem_who_has (S : Store) {L : List Tu} (h : Good L) {m : Int} (h0 : 0 ≤ m) (h1 : m ≤ 10000000) : ∃ hh : (loc L (m % tot L)).1 < L.length, F_who_has.sem S [tus L, .int m] = .ok (.str (sx L[(loc L (m % tot L)).1].1), []) S := by
  obtain ⟨hi, ht⟩ := sem_turn_at S h m
  refine ⟨hi, ?_⟩
  unfold F_who_has
  dsimp only
  rw [run_eq rfl]
  have s1 := tus_at L _ hi
  have s2 := tu_0 L[(loc L (m % tot L)).1]
  have s3 : subW (.tup [.int ((loc L (m % tot L)).1 : Int), .int (L[(loc L (m % tot L)).1].2 - (loc L (m % tot L)).2)]) (.int 0) = some (.int ((loc L (m % tot L)).1 : Int)) := sub_tup (k := 0) rfl
  simp [B_who_has, env0, Env.at, quiet, quiets, sem_check_turns S h, sem_check_minute S h0 h1, ht, s3, s1, s2]
/-! ### the law's own -/
theorem has_sum {S : Store} (t mn : W) : ∀ (L : List Tu) (w : Int) (e3 e4 : Option (Flag × W)), ∃ d3, forGo (.one 3) (runB [.asg 2 (.bin .add (.var 2) (.sub (.var 3) (.cst (.int 1))))]) (L.map tu) [some (.v, t), some (.v, mn), some (.v, .int w), e3, e4] S = .nx [some (.v, t), some (.v, mn), some (.v, .int (w + tot L)), d3, e4] S
  | [], w, e3, e4 => ⟨e3, by simp [forGo_nil, tot]⟩
  | p :: L, w, e3, e4 => by
    obtain ⟨f3, ih⟩ := has_sum t mn L (w + p.2) (some (.v, tu p)) e4
    refine ⟨f3, ?_⟩
    rw [List.map_cons, forGo_nx (tg := .one 3) (x := tu p) (env' := [some (.v, t), some (.v, mn), some (.v, .int w), some (.v, tu p), e4]) rfl (env2 := [some (.v, t), some (.v, mn), some (.v, .int (w + p.2)), some (.v, tu p), e4]) (S2 := S) ?_]
    · rw [ih]
      have e : w + tot (p :: L) = w + p.2 + tot L := by unfold tot; simp; omega
      rw [e]
    · simp [Env.at, Env.put, quiet, quiets, tu_1]
theorem has_find {S : Store} (t mn w : W) : ∀ (L : List Tu) (r : Int) (e3 : Option (Flag × W)) (h : (loc L r).1 < L.length), ∃ env, forGo (.one 3) (runB [.ife (.cmp .lt (.var 4) (.sub (.var 3) (.cst (.int 1)))) [.ret (.sub (.var 3) (.cst (.int 0)))] [], .asg 4 (.bin .sub (.var 4) (.sub (.var 3) (.cst (.int 1))))]) (L.map tu) [some (.v, t), some (.v, mn), some (.v, w), e3, some (.v, .int r)] S = .ret (.str (sx L[(loc L r).1].1)) env S
  | [], r, e3, h => absurd h (by simp)
  | p :: L, r, e3, h => by
    by_cases q : r < p.2
    · refine ⟨[some (.v, t), some (.v, mn), some (.v, w), some (.v, tu p), some (.v, .int r)], ?_⟩
      have e : (loc (p :: L) r).1 = 0 := by unfold loc; rw [if_pos q]
      rw [List.map_cons, forGo_ret (tg := .one 3) (x := tu p) (env' := [some (.v, t), some (.v, mn), some (.v, w), some (.v, tu p), some (.v, .int r)]) rfl (w := .str (sx p.1)) (env2 := [some (.v, t), some (.v, mn), some (.v, w), some (.v, tu p), some (.v, .int r)]) (S2 := S) ?_]
      · simp [e]
      · simp [Env.at, Env.put, quiet, quiets, tu_1, tu_0, q]
    · have e : (loc (p :: L) r).1 = (loc L (r - p.2)).1 + 1 := by rw [loc, if_neg q]
      have h' : (loc L (r - p.2)).1 < L.length := by rw [e] at h; simpa using h
      obtain ⟨env, ih⟩ := has_find t mn w L (r - p.2) (some (.v, tu p)) h'
      refine ⟨env, ?_⟩
      rw [List.map_cons, forGo_nx (tg := .one 3) (x := tu p) (env' := [some (.v, t), some (.v, mn), some (.v, w), some (.v, tu p), some (.v, .int r)]) rfl (env2 := [some (.v, t), some (.v, mn), some (.v, w), some (.v, tu p), some (.v, .int (r - p.2))]) (S2 := S) ?_]
      · rw [ih]
        simp [e]
      · simp [Env.at, Env.put, quiet, quiets, tu_1, tu_0, q]
theorem sem_l_has (S : Store) {L : List Tu} (h : Good L) (m : Int) (hh : (loc L (m % tot L)).1 < L.length) : F_l_has.sem S [tus L, .int m] = .ok (.str (sx L[(loc L (m % tot L)).1].1), []) S := by
  unfold F_l_has
  dsimp only
  rw [run_eq rfl]
  obtain ⟨t0, t1⟩ := h.tot
  obtain ⟨e3, q1⟩ := has_sum (S := S) (tus L) (.int m) L 0 none none
  rw [Int.zero_add] at q1
  obtain ⟨env, q2⟩ := has_find (S := S) (tus L) (.int m) (.int (tot L)) L (m % tot L) e3 hh
  simp [B_l_has, env0, Env.at, Env.put, quiet, quiets, iter_tus, q1, mod_pos (show 0 < tot L by omega), q2]
end Wb
namespace Wb
open PySem PySem.Spec PyProof.Rows
def mn (r m : Int) : Int := if m < r then m else r
/-- what of the rest falls on the turns of a -/
def spent (a : List Nat) : List Tu → Int → Int
  | [], _ => 0
  | p :: L, r => (if p.1 = a then mn r p.2 else 0) + spent a L (r - mn r p.2)
def untilV (L : List Tu) (a : List Nat) (m : Int) : Int := m / tot L * ownS a L + spent a L (m % tot L)
theorem ownS_cons (a : List Nat) (p : Tu) (L : List Tu) : ownS a (p :: L) = (if p.1 = a then p.2 else 0) + ownS a L := by
  unfold ownS
  by_cases h : p.1 = a
  · have e : isN a p = true := decide_eq_true h
    rw [List.filter_cons_of_pos e, List.map_cons, List.sum_cons, if_pos h]
  · have e : isN a p ≠ true := by unfold isN; simp [h]
    rw [List.filter_cons_of_neg e, if_neg h, Int.zero_add]
theorem ownS_bd (a : List Nat) : ∀ L : List Tu, (∀ p ∈ L, 1 ≤ p.2) → 0 ≤ ownS a L ∧ ownS a L ≤ tot L
  | [], _ => by simp [ownS, tot]
  | p :: L, h => by
    have ih := ownS_bd a L (fun q hq => h q (List.mem_cons_of_mem _ hq))
    have q := h p (List.mem_cons_self ..)
    have e : tot (p :: L) = p.2 + tot L := by unfold tot; simp
    rw [ownS_cons, e]
    split <;> omega
theorem until_loop {S : Store} (t a : List Nat) (tw : W) (mn' o ro : W) (e10 : Option (Flag × W)) (ha : ∀ c ∈ a, c < 1114112) : ∀ (L : List Tu) (f r : Int) (e7 e8 e9 : Option (Flag × W)), (∀ p ∈ L, ∀ c ∈ p.1, c < 1114112) →
    ∃ d6 d7 d8 d9, forGo (.many [7, 8]) (runB [.asg 9 (.bcall .min2 [.var 6, .var 8]), .aug 6 .sub (.var 9), .ife (.cmp .eq (.var 7) (.var 1)) [.aug 4 .add (.var 9)] []]) (L.map tu)
      [some (.v, tw), some (.v, .str (sx a)), some (.v, mn'), some (.v, o), some (.v, .int f), some (.v, ro), some (.v, .int r), e7, e8, e9, e10] S = .nx [some (.v, tw), some (.v, .str (sx a)), some (.v, mn'), some (.v, o), some (.v, .int (f + spent a L r)), some (.v, ro), d6, d7, d8, d9, e10] S
  | [], f, r, e7, e8, e9, _ => ⟨_, e7, e8, e9, by simp [forGo_nil, spent]; rfl⟩
  | p :: L, f, r, e7, e8, e9, hok => by
    obtain ⟨d6, d7, d8, d9, ih⟩ := until_loop t a tw mn' o ro e10 ha L (f + if p.1 = a then mn r p.2 else 0) (r - mn r p.2) (some (.v, .str (sx p.1))) (some (.v, .int p.2)) (some (.v, .int (mn r p.2))) (fun q hq => hok q (List.mem_cons_of_mem _ hq))
    refine ⟨d6, d7, d8, d9, ?_⟩
    rw [List.map_cons, forGo_nx (bind_tu p _ 7 8) (env2 := [some (.v, tw), some (.v, .str (sx a)), some (.v, mn'), some (.v, o), some (.v, .int (f + if p.1 = a then mn r p.2 else 0)), some (.v, ro), some (.v, .int (r - mn r p.2)), some (.v, .str (sx p.1)), some (.v, .int p.2), some (.v, .int (mn r p.2)), e10]) (S2 := S) ?_]
    · rw [ih, spent, Int.add_assoc]
    · have he := eq_sx (hok p (List.mem_cons_self ..)) ha
      have he2 := eq_sx ha ha
      by_cases q : p.1 = a
      · simp [Env.at, Env.put, quiet, quiets, min2_int, he, he2, q, mn]
      · simp [Env.at, Env.put, quiet, quiets, min2_int, he, he2, q, mn]
theorem divmod_int {i j : Int} (h : 0 < j ∧ j < 1073741824) : biW .divmod [.int i, .int j] = some (false, .tup [.int (i / j), .int (i % j)]) := if_pos h
theorem sem_until (S : Store) {L : List Tu} (h : Good L) {a : List Nat} (ha : ∀ c ∈ a, c < 1114112) (m : Int) : F_minutes_until.sem S [tus L, .str (sx a), .int m] = .ok (.int (untilV L a m), []) S := by
  unfold F_minutes_until
  dsimp only
  rw [run_eq rfl]
  obtain ⟨t0, t1⟩ := h.tot
  obtain ⟨o0, o1⟩ := ownS_bd a L h.m0
  have hl1 := lc_own (S := S) (env := [some (.v, tus L), some (.v, .str (sx a)), some (.v, .int m), none, none, none, none, none, none, none, none]) (i := 7) (j := 8) (k := 1) (by simp) (by simp) (by decide) (by decide) (by decide) rfl ha L h.ok h.sz
  have hl2 := lc_minutes (S := S) (env := [some (.v, tus L), some (.v, .str (sx a)), some (.v, .int m), some (.v, .int (ownS a L)), none, none, none, none, none, none, none]) (i := 10) (j := 8) (by simp) L h.sz
  have hs1 := sum_ints ((L.filter (isN a)).map (·.2))
  have hs2 := sum_ints (L.map (·.2))
  have e1 : ((L.filter (isN a)).map (·.2)).sum = ownS a L := rfl
  have e2 : (L.map (·.2)).sum = tot L := rfl
  rw [e1] at hs1
  rw [e2] at hs2
  have hd := divmod_int (i := m) (j := tot L) (by omega)
  have hm : binW .mul (.int (m / tot L)) (.int (ownS a L)) = some (false, .int (m / tot L * ownS a L)) := mul_intR (by omega)
  obtain ⟨d6, d7, d8, d9, q⟩ := until_loop (S := S) [] a (tus L) (.int m) (.int (ownS a L)) (.int (m / tot L)) none ha L (m / tot L * ownS a L) (m % tot L) none none none h.ok
  simp [-List.map_map, B_minutes_until, env0, Env.at, Env.put, quiet, quiets, iter_tus, wipeE, hl1, hs1, hl2, hs2, hd, hm, q]
  simp [untilV]
theorem before_sum {S : Store} (tw : W) (a : List Nat) (mw : W) (ha : ∀ c ∈ a, c < 1114112) (e6 e7 e8 : Option (Flag × W)) : ∀ (L : List Tu) (w o : Int) (e5 : Option (Flag × W)), (∀ p ∈ L, ∀ c ∈ p.1, c < 1114112) → ∃ d5, forGo (.one 5) (runB [.asg 3 (.bin .add (.var 3) (.sub (.var 5) (.cst (.int 1)))), .asg 4 (.bin .add (.var 4) (.bin .mul (.sub (.var 5) (.cst (.int 1))) (.bcall .int [.cmp .eq (.sub (.var 5) (.cst (.int 0))) (.var 1)])))]) (L.map tu)
      [some (.v, tw), some (.v, .str (sx a)), some (.v, mw), some (.v, .int w), some (.v, .int o), e5, e6, e7, e8] S = .nx [some (.v, tw), some (.v, .str (sx a)), some (.v, mw), some (.v, .int (w + tot L)), some (.v, .int (o + ownS a L)), d5, e6, e7, e8] S
  | [], w, o, e5, _ => ⟨e5, by simp [forGo_nil, tot, ownS]⟩
  | p :: L, w, o, e5, hok => by
    obtain ⟨d5, ih⟩ := before_sum tw a mw ha e6 e7 e8 L (w + p.2) (o + if p.1 = a then p.2 else 0) (some (.v, tu p)) (fun q hq => hok q (List.mem_cons_of_mem _ hq))
    refine ⟨d5, ?_⟩
    have he := eq_sx (hok p (List.mem_cons_self ..)) ha
    have he2 := eq_sx ha ha
    rw [List.map_cons, forGo_nx (tg := .one 5) (x := tu p) (env' := [some (.v, tw), some (.v, .str (sx a)), some (.v, mw), some (.v, .int w), some (.v, .int o), some (.v, tu p), e6, e7, e8]) rfl (env2 := [some (.v, tw), some (.v, .str (sx a)), some (.v, mw), some (.v, .int (w + p.2)), some (.v, .int (o + if p.1 = a then p.2 else 0)), some (.v, tu p), e6, e7, e8]) (S2 := S) ?_]
    · rw [ih, ownS_cons]
      have e : tot (p :: L) = p.2 + tot L := by unfold tot; simp
      rw [e]
      simp [Int.add_assoc]
    · by_cases q : p.1 = a
      · simp [Env.at, Env.put, quiet, quiets, tu_1, tu_0, he, he2, q]
      · simp [Env.at, Env.put, quiet, quiets, tu_1, tu_0, he, he2, q]
theorem before_loop {S : Store} (tw : W) (a : List Nat) (mw wh mi : W) (ha : ∀ c ∈ a, c < 1114112) : ∀ (L : List Tu) (f r : Int) (e5 e8 : Option (Flag × W)), (∀ p ∈ L, ∀ c ∈ p.1, c < 1114112) → ∃ d5 d7 d8, forGo (.one 5) (runB [.asg 8 (.bcall .min2 [.var 7, .sub (.var 5) (.cst (.int 1))]), .asg 6 (.bin .add (.var 6) (.bin .mul (.var 8) (.bcall .int [.cmp .eq (.sub (.var 5) (.cst (.int 0))) (.var 1)]))), .asg 7 (.bin .sub (.var 7) (.var 8))]) (L.map tu)
      [some (.v, tw), some (.v, .str (sx a)), some (.v, mw), some (.v, wh), some (.v, mi), e5, some (.v, .int f), some (.v, .int r), e8] S = .nx [some (.v, tw), some (.v, .str (sx a)), some (.v, mw), some (.v, wh), some (.v, mi), d5, some (.v, .int (f + spent a L r)), d7, d8] S
  | [], f, r, e5, e8, _ => ⟨e5, _, e8, by simp [forGo_nil, spent]; rfl⟩
  | p :: L, f, r, e5, e8, hok => by
    obtain ⟨d5, d7, d8, ih⟩ := before_loop tw a mw wh mi ha L (f + if p.1 = a then mn r p.2 else 0) (r - mn r p.2) (some (.v, tu p)) (some (.v, .int (mn r p.2))) (fun q hq => hok q (List.mem_cons_of_mem _ hq))
    refine ⟨d5, d7, d8, ?_⟩
    have he := eq_sx (hok p (List.mem_cons_self ..)) ha
    have he2 := eq_sx ha ha
    rw [List.map_cons, forGo_nx (tg := .one 5) (x := tu p) (env' := [some (.v, tw), some (.v, .str (sx a)), some (.v, mw), some (.v, wh), some (.v, mi), some (.v, tu p), some (.v, .int f), some (.v, .int r), e8]) rfl (env2 := [some (.v, tw), some (.v, .str (sx a)), some (.v, mw), some (.v, wh), some (.v, mi), some (.v, tu p), some (.v, .int (f + if p.1 = a then mn r p.2 else 0)), some (.v, .int (r - mn r p.2)), some (.v, .int (mn r p.2))]) (S2 := S) ?_]
    · rw [ih, spent, Int.add_assoc]
    · by_cases q : p.1 = a
      · simp [Env.at, Env.put, quiet, quiets, tu_1, tu_0, he, he2, q, min2_int, mn]
      · simp [Env.at, Env.put, quiet, quiets, tu_1, tu_0, he, he2, q, min2_int, mn]
theorem sem_l_before (S : Store) {L : List Tu} (h : Good L) {a : List Nat} (ha : ∀ c ∈ a, c < 1114112) (m : Int) : F_l_before.sem S [tus L, .str (sx a), .int m] = .ok (.int (untilV L a m), []) S := by
  unfold F_l_before
  dsimp only
  rw [run_eq rfl]
  obtain ⟨t0, t1⟩ := h.tot
  obtain ⟨o0, o1⟩ := ownS_bd a L h.m0
  obtain ⟨d5, q1⟩ := before_sum (S := S) (tus L) a (.int m) ha none none none L 0 0 none h.ok
  rw [Int.zero_add, Int.zero_add] at q1
  have hm : binW .mul (.int (m / tot L)) (.int (ownS a L)) = some (false, .int (m / tot L * ownS a L)) := mul_intR (by omega)
  have hdv : binW .fdiv (.int m) (.int (tot L)) = some (false, .int (m / tot L)) := div_int' (by omega)
  obtain ⟨c5, c7, c8, q2⟩ := before_loop (S := S) (tus L) a (.int m) (.int (tot L)) (.int (ownS a L)) ha L (m / tot L * ownS a L) (m % tot L) d5 none h.ok
  simp [B_l_before, env0, Env.at, Env.put, quiet, quiets, iter_tus, q1, mod_pos (show 0 < tot L by omega), hdv, hm, q2]
  simp [untilV]
end Wb
namespace Wb
open PySem PySem.Spec PyProof.Rows
/-- the names, each once -/
def dd : List (List Nat) → List (List Nat) → List (List Nat)
  | acc, [] => acc
  | acc, n :: r => dd (if n ∈ acc then acc else acc ++ [n]) r
theorem dd_mem : ∀ (r acc : List (List Nat)) (x : List Nat), x ∈ dd acc r → x ∈ acc ∨ x ∈ r
  | [], acc, x, h => .inl h
  | n :: r, acc, x, h => by
    rcases dd_mem r _ x h with h | h
    · split at h
      · exact .inl h
      · rcases List.mem_append.mp h with h | h
        · exact .inl h
        · exact .inr (by rw [List.mem_singleton.mp h]; exact List.mem_cons_self ..)
    · exact .inr (List.mem_cons_of_mem _ h)
theorem dd_len : ∀ (r acc : List (List Nat)), (dd acc r).length ≤ acc.length + r.length
  | [], acc => Nat.le_refl _
  | n :: r, acc => by
    have := dd_len r (if n ∈ acc then acc else acc ++ [n])
    rw [dd, List.length_cons]
    split at this <;> split <;> simp_all <;> omega
def trues (acc : List (List Nat)) : List (Key × W) := acc.map fun n => (.inr (sx n), .bl true)
theorem put_trues (acc : List (List Nat)) (n : List Nat) : putW (trues acc) (.inr (sx n)) (.bl true) = trues (if n ∈ acc then acc else acc ++ [n]) := by
  have ha : ((trues acc).any fun kv => decide (kv.1 = (.inr (sx n) : Key))) = decide (n ∈ acc) := by
    unfold trues
    rw [List.any_map]
    induction acc with
    | nil => rfl
    | cons m acc ih =>
      rw [List.any_cons, ih]
      have e : decide ((.inr (sx m) : Key) = .inr (sx n)) = decide (n = m) := by
        rw [decide_eq_decide]
        constructor
        · intro h
          exact (sx_inj.mp (Sum.inr.inj h)).symm
        · intro h; rw [h]
      show (decide ((.inr (sx m) : Key) = .inr (sx n)) || _) = _
      rw [e]
      simp
  unfold putW
  rw [ha]
  by_cases h : n ∈ acc
  · rw [if_pos (by simpa using h), if_pos h]
    unfold trues
    rw [List.map_map]
    refine List.map_congr_left fun m _ => ?_
    show (if (.inr (sx m) : Key) = .inr (sx n) then ((.inr (sx m) : Key), W.bl true) else (.inr (sx m), .bl true)) = _
    split <;> rfl
  · rw [if_neg (by simpa using h), if_neg h]
    unfold trues
    rw [List.map_append]
    rfl
theorem dc_names {S : Store} {env : Env} {i j : Nat} (hi : i < env.length) (hij : j ≠ i) : ∀ (L : List Tu) (acc : List (List Nat)), acc.length + L.length ≤ sizeL → dcGo (.many [i, j]) (cndF []) (eltF (.var i)) (eltF (.cst (.bl true))) env (L.map tu) (trues acc) S = .ok (trues (dd acc (L.map (·.1)))) S
  | [], acc, _ => rfl
  | p :: L, acc, hl => by
    rw [List.map_cons, dcGo, bind_tu]
    dsimp only
    have e : ((env.put i (.v, .str (sx p.1))).put j (.v, .int p.2)).at i = some (.v, .str (sx p.1)) := by
      rw [at_put_ne hij]
      exact at_put_self hi
    have hz : (trues acc).length < sizeL := by unfold trues; rw [List.length_map]; simp at hl; omega
    have hk : keyW (.str (sx p.1)) = some (.inr (sx p.1)) := rfl
    simp [e, hk, hz]
    rw [put_trues]
    have hl2 : (if p.1 ∈ acc then acc else acc ++ [p.1]).length + L.length ≤ sizeL := by
      split <;> simp at hl ⊢ <;> omega
    rw [dc_names hi hij L _ hl2]
    rfl
theorem list_trues (acc : List (List Nat)) : biW .list [.dct (trues acc)] = some (true, .lst (acc.map fun n => .str (sx n))) := by
  show some (true, W.lst ((trues acc).map fun kv => kW kv.1)) = _
  unfold trues
  rw [List.map_map]
  rfl
def nms (L : List Tu) : List (List Nat) := dd [] (L.map (·.1))
def ofW' (L : List Tu) (f s : Int) (ns : List (List Nat)) : W := .lst (ns.map fun n => .tup [.str (sx n), .int (untilV L n s - untilV L n f)])
theorem nms_ok {L : List Tu} (h : Good L) : (∀ n ∈ nms L, ∀ c ∈ n, c < 1114112) ∧ (nms L).length ≤ 60 := by
  constructor
  · intro n hn
    rcases dd_mem _ _ _ hn with q | q
    · cases q
    · obtain ⟨p, hp, rfl⟩ := List.mem_map.mp q
      exact h.ok p hp
  · have := dd_len (L.map (·.1)) []
    unfold nms
    simp at this ⊢
    have := h.n1
    omega
theorem sem_minutes_of (S : Store) {L : List Tu} (h : Good L) {f s : Int} (f0 : 0 ≤ f) (f1 : f ≤ 10000000) (s1 : s ≤ 10000000) (fs : f ≤ s) : F_minutes_of.sem S [tus L, .int f, .int s] = .ok (ofW' L f s (nms L), []) S := by
  unfold F_minutes_of
  dsimp only
  rw [run_eq rfl]
  obtain ⟨hok, hlen⟩ := nms_ok h
  have hd := dc_names (S := S) (env := [some (.v, tus L), some (.v, .int f), some (.v, .int s), none, none, none]) (i := 4) (j := 5) (by simp) (by decide) L [] (by have := h.sz; simpa using this)
  have hl := list_trues (nms L)
  have hc : ¬ s < f := by omega
  have hm : ∀ env : Env, env.length = 6 → env.at 0 = some (.v, tus L) → env.at 1 = some (.v, .int f) → env.at 2 = some (.v, .int s) → lcGo (.one 4) (cndF []) (eltF (.tup [.var 4, .bin .sub (.call F_minutes_until [.var 0, .var 4, .var 2] 0) (.call F_minutes_until [.var 0, .var 4, .var 1] 0)])) env ((nms L).map fun n => .str (sx n)) [] S = .ok ((nms L).map fun n => .tup [.str (sx n), .int (untilV L n s - untilV L n f)]) S := by
    intro env hlen' h0 h1 h2
    have key : ∀ (N : List (List Nat)), (∀ n ∈ N, ∀ c ∈ n, c < 1114112) → ∀ acc : List W, acc.length + N.length ≤ sizeL → lcGo (.one 4) (cndF []) (eltF (.tup [.var 4, .bin .sub (.call F_minutes_until [.var 0, .var 4, .var 2] 0) (.call F_minutes_until [.var 0, .var 4, .var 1] 0)])) env (N.map fun n => .str (sx n)) acc S = .ok (acc ++ N.map fun n => .tup [.str (sx n), .int (untilV L n s - untilV L n f)]) S := by
      intro N
      induction N with
      | nil => intro _ acc _; simp [lcGo]
      | cons n N ih =>
        intro hN acc hz
        have hn := hN n (List.mem_cons_self ..)
        rw [List.map_cons, lcGo]
        have hb : bindTg (.one 4) (.str (sx n)) env = some (env.put 4 (.v, .str (sx n))) := rfl
        rw [hb]
        dsimp only
        have g4 : (env.put 4 (.v, .str (sx n))).at 4 = some (.v, .str (sx n)) := at_put_self (by omega)
        have g0 : (env.put 4 (.v, .str (sx n))).at 0 = some (.v, tus L) := by rw [at_put_ne (by decide)]; exact h0
        have g1 : (env.put 4 (.v, .str (sx n))).at 1 = some (.v, .int f) := by rw [at_put_ne (by decide)]; exact h1
        have g2 : (env.put 4 (.v, .str (sx n))).at 2 = some (.v, .int s) := by rw [at_put_ne (by decide)]; exact h2
        have hz' : acc.length < sizeL := by simp at hz; omega
        have hz2 : acc.length < 16777216 := hz'
        simp [g4, g0, g1, g2, quiet, quiets, sem_until S h hn, sizeL, hz2]
        rw [ih (fun m hm => hN m (List.mem_cons_of_mem _ hm)) _ (by simp at hz ⊢; omega)]
        simp
    have z := key (nms L) hok [] (by simp; unfold sizeL; omega)
    simpa using z
  have hd' : dcGo (.many [4, 5]) (cndF []) (eltF (.var 4)) (eltF (.cst (.bl true))) [some (.v, tus L), some (.v, .int f), some (.v, .int s), none, none, none] (L.map tu) [] S = .ok (trues (nms L)) S := hd
  simp [B_minutes_of, env0, Env.at, Env.put, quiet, quiets, iter_tus, wipeE, sem_check_turns S h, sem_check_minute S f0 f1, sem_check_minute S (show 0 ≤ s by omega) s1, hc, hd', hl]
  rw [hm _ rfl rfl rfl rfl]
  simp [ofW']
end Wb
namespace Wb
open PySem PySem.Spec PyProof.Rows
def atK (L : List Tu) (i0 k : Nat) : Nat := (i0 + k) % L.length
def leftK (L : List Tu) (i0 : Nat) (l0 : Int) : Nat → Int
  | 0 => l0
  | k + 1 => (L.getD (atK L i0 (k + 1)) ([], 0)).2
def minK (L : List Tu) (i0 : Nat) (l0 m : Int) : Nat → Int
  | 0 => m
  | k + 1 => minK L i0 l0 m k + leftK L i0 l0 k
def offK (o : Int) : Nat → Int
  | 0 => o
  | _ + 1 => 0
theorem atK_lt {L : List Tu} (h : 1 ≤ L.length) (i0 k : Nat) : atK L i0 k < L.length := Nat.mod_lt _ h
theorem atK_succ (L : List Tu) (i0 k : Nat) : atK L i0 (k + 1) = (atK L i0 k + 1) % L.length := by
  unfold atK
  rw [Nat.mod_add_mod, Nat.add_assoc]
theorem getD_at {L : List Tu} {i : Nat} (h : i < L.length) : L.getD i ([], 0) = L[i] := by
  rw [List.getD_eq_getElem?_getD, List.getElem?_eq_getElem h]; rfl
theorem seq_ok {L : List Tu} (h : Good L) {i0 : Nat} {o m : Int} (hi : i0 < L.length) (o0 : 0 ≤ o) (o1 : o < L[i0].2) (e : m % tot L = pre L i0 + o) : ∀ k, minK L i0 (L[i0].2 - o) m k % tot L = pre L (atK L i0 k) + offK o k ∧ leftK L i0 (L[i0].2 - o) k = (L[atK L i0 k]'(atK_lt h.n0 i0 k)).2 - offK o k ∧ 0 ≤ offK o k ∧ offK o k < (L[atK L i0 k]'(atK_lt h.n0 i0 k)).2
  | 0 => by
    have e0 : atK L i0 0 = i0 := Nat.mod_eq_of_lt hi
    simp only [minK, leftK, offK, e0]
    exact ⟨e, trivial, o0, o1⟩
  | k + 1 => by
    obtain ⟨h1, h2, h3, h4⟩ := seq_ok h hi o0 o1 e k
    have hlt := atK_lt h.n0 i0 k
    have hlt' := atK_lt h.n0 i0 (k + 1)
    have hm1 := h.m0 _ (List.getElem_mem hlt')
    refine ⟨?_, ?_, Int.le_refl _, by show (0 : Int) < _; omega⟩
    · obtain ⟨t0, t1⟩ := h.tot
      show (minK L i0 (L[i0].2 - o) m k + leftK L i0 (L[i0].2 - o) k) % tot L = pre L (atK L i0 (k + 1)) + 0
      have q := Int.emod_add_mul_ediv (minK L i0 (L[i0].2 - o) m k) (tot L)
      rw [h1] at q
      have e2 : minK L i0 (L[i0].2 - o) m k + leftK L i0 (L[i0].2 - o) k = pre L (atK L i0 k + 1) + tot L * (minK L i0 (L[i0].2 - o) m k / tot L) := by
        rw [pre_succ L _ hlt, h2]
        omega
      rw [e2, Int.add_mul_emod_self_left, Int.add_zero, atK_succ]
      by_cases hn : atK L i0 k + 1 < L.length
      · rw [Nat.mod_eq_of_lt hn]
        have p0 := pre_mono L h.m0 (Nat.zero_le (atK L i0 k + 1)) (by omega)
        have p1 := pre_mono L h.m0 (show atK L i0 k + 1 + 1 ≤ L.length by omega) (Nat.le_refl _)
        rw [pre_succ L _ hn, pre_all] at p1
        rw [pre_0] at p0
        have := h.m0 _ (List.getElem_mem hn)
        exact Int.emod_eq_of_lt p0 (by omega)
      · have hn' : atK L i0 k + 1 = L.length := by omega
        rw [hn', Nat.mod_self, pre_0, pre_all, Int.emod_self]
    · show (L.getD (atK L i0 (k + 1)) ([], 0)).2 = _ - 0
      rw [getD_at hlt', Int.sub_zero]
theorem least {P : Nat → Prop} : ∀ n, P n → ∃ k, k ≤ n ∧ P k ∧ ∀ j, j < k → ¬ P j := by
  classical
  intro n
  induction n using Nat.strongRecOn with
  | ind n ih =>
    intro hn
    by_cases q : ∃ j, j < n ∧ P j
    · obtain ⟨j, hj, pj⟩ := q
      obtain ⟨k, a, b, c⟩ := ih j hj pj
      exact ⟨k, by omega, b, c⟩
    · exact ⟨n, Nat.le_refl _, hn, fun j hj pj => q ⟨j, hj, pj⟩⟩
theorem reach {L : List Tu} (h : Good L) {i0 : Nat} (hi : i0 < L.length) {a : List Nat} (ha : a ∈ L.map (·.1)) : ∃ K, K < L.length ∧ (L[atK L i0 K]'(atK_lt h.n0 i0 K)).1 = a ∧ ∀ j, j < K → (L[atK L i0 j]'(atK_lt h.n0 i0 j)).1 ≠ a := by
  obtain ⟨p, hp, rfl⟩ := List.mem_map.mp ha
  obtain ⟨t, ht, rfl⟩ := List.mem_iff_getElem.mp hp
  have hk : ∃ k, k < L.length ∧ atK L i0 k = t := by
    by_cases q : i0 ≤ t
    · exact ⟨t - i0, by omega, by unfold atK; rw [show i0 + (t - i0) = t by omega]; exact Nat.mod_eq_of_lt ht⟩
    · refine ⟨t + L.length - i0, by omega, ?_⟩
      unfold atK
      rw [show i0 + (t + L.length - i0) = t + L.length by omega, Nat.add_mod_right]
      exact Nat.mod_eq_of_lt ht
  obtain ⟨k, hkl, hk⟩ := hk
  obtain ⟨K, k1, k2, k3⟩ := least (P := fun k => (L[atK L i0 k]'(atK_lt h.n0 i0 k)).1 = L[t].1) k (by simp only [hk])
  exact ⟨K, by omega, k2, k3⟩
theorem sem_next_turn (S : Store) {L : List Tu} (h : Good L) {a : List Nat} (ha : ∀ c ∈ a, c < 1114112) (hm : a ∈ L.map (·.1)) {m : Int} (h0 : 0 ≤ m) (h1 : m ≤ 10000000) :
    ∃ (i0 K : Nat) (o : Int) (hi : i0 < L.length), K < L.length ∧ 0 ≤ o ∧ o < L[i0].2 ∧ m % tot L = pre L i0 + o ∧ (L[atK L i0 K]'(atK_lt h.n0 i0 K)).1 = a ∧ (∀ j, j < K → (L[atK L i0 j]'(atK_lt h.n0 i0 j)).1 ≠ a) ∧
      F_next_turn.sem S [tus L, .str (sx a), .int m] = .ok (.int (minK L i0 (L[i0].2 - o) m K), []) S := by
  obtain ⟨hi, ht⟩ := sem_turn_at S h m
  obtain ⟨t0, t1⟩ := h.tot
  obtain ⟨_, o0, o1, e⟩ := loc_ok L (m % tot L) h.m0 (Int.emod_nonneg m (by omega)) (Int.emod_lt_of_pos m (by omega))
  generalize hq : loc L (m % tot L) = q at *
  obtain ⟨i0, o⟩ := q
  dsimp only at hi o0 o1 e ht
  obtain ⟨K, k1, k2, k3⟩ := reach h hi hm
  refine ⟨i0, K, o, hi, k1, o0, o1, e, k2, k3, ?_⟩
  have sq := seq_ok h hi o0 o1 e
  unfold F_next_turn
  dsimp only
  rw [run_eq rfl]
  have hln := lc_names (S := S) (env := [some (.v, tus L), some (.v, .str (sx a)), some (.v, .int m), none, none, none, none]) (i := 5) (j := 6) (by simp) (by decide) L h.sz
  have hni := notin_strs a (L.map (·.1))
  have hmem : decide (a ∈ L.map (·.1)) = true := decide_eq_true hm
  rw [hmem] at hni
  simp [-List.map_map, -List.mem_map, B_next_turn, env0, Env.at, Env.put, quiet, quiets, iter_tus, wipeE, sem_check_turns S h, hln, hni, sem_check_minute S h0 h1, ht]
  refine whlGo_rule (Done := fun out => endR [false, false, false] false (out.then _) = _) (fun n env S' => S' = S ∧ ∃ k : Nat, k ≤ K ∧ n = K - k ∧ env = [some (.v, tus L), some (.v, .str (sx a)), some (.v, .int (minK L i0 (L[i0].2 - o) m k)), some (.v, .int (atK L i0 k : Int)), some (.v, .int (leftK L i0 (L[i0].2 - o) k)), none, none]) (fun n env S' hI => ?_) K fuel _ _ (by rw [fuel_eq]; have := h.n1; omega) ⟨rfl, 0, by omega, by omega, by
    have e0 : atK L i0 0 = i0 := Nat.mod_eq_of_lt hi
    simp [minK, leftK, e0]⟩
  obtain ⟨rfl, k, hk, hn, rfl⟩ := hI
  have hal := atK_lt h.n0 i0 k
  have s1 := tus_at L (atK L i0 k) hal
  have s2 := tu_0 (L[atK L i0 k]'hal)
  have hne := ne_sx (h.ok _ (List.getElem_mem hal)) ha
  have hne2 := ne_sx ha ha
  by_cases hlt : k < K
  · right
    have c1 := k3 k hlt
    have hal' := atK_lt h.n0 i0 (k + 1)
    have s3 := tus_at L (atK L i0 (k + 1)) hal'
    have s4 := tu_1 (L[atK L i0 (k + 1)]'hal')
    have em : binW .mod (.int ((atK L i0 k : Int) + 1)) (.int (L.length : Int)) = some (false, .int (atK L i0 (k + 1) : Int)) := by
      rw [mod_pos (by have := h.n0; omega), atK_succ]
      congr 3
    refine ⟨n - 1, [some (.v, tus L), some (.v, .str (sx a)), some (.v, .int (minK L i0 (L[i0].2 - o) m (k + 1))), some (.v, .int (atK L i0 (k + 1) : Int)), some (.v, .int (leftK L i0 (L[i0].2 - o) (k + 1))), none, none], by omega, ?_, ?_, rfl, k + 1, by omega, by omega, rfl⟩
    · simp [Env.at, quiet, quiets, s1, s2, hne, c1]
    · have e3 : leftK L i0 (L[i0].2 - o) (k + 1) = (L[atK L i0 (k + 1)]'hal').2 := by
        show (L.getD (atK L i0 (k + 1)) ([], 0)).2 = _
        rw [getD_at hal']
      rw [e3]
      simp [Env.at, Env.put, quiet, quiets, tus_len, em, s3, s4, minK]
  · left
    have ek : k = K := by omega
    subst ek
    refine ⟨by simp [Env.at, quiet, quiets, s1, s2, hne, hne2, k2], ?_⟩
    simp [Env.at, quiet, quiets]
/-! ### the law's own -/
theorem next_keep {S : Store} (tw nw mw wh pl kw : W) (f : Tu) (o : Int) : ∀ (L : List Tu) (e8 : Option (Flag × W)), ∃ d8, forGo (.one 8) (runB [.ife (.cmp .isN (.var 7) (.cst .non)) [.ife (.cmp .lt (.var 6) (.sub (.var 8) (.cst (.int 1)))) [.asg 7 (.var 8)] [.asg 6 (.bin .sub (.var 6) (.sub (.var 8) (.cst (.int 1))))]] []]) (L.map tu)
      [some (.v, tw), some (.v, nw), some (.v, mw), some (.v, wh), some (.v, pl), some (.v, kw), some (.v, .int o), some (.v, tu f), e8] S = .nx [some (.v, tw), some (.v, nw), some (.v, mw), some (.v, wh), some (.v, pl), some (.v, kw), some (.v, .int o), some (.v, tu f), d8] S
  | [], e8 => ⟨e8, rfl⟩
  | p :: L, e8 => by
    obtain ⟨d8, ih⟩ := next_keep tw nw mw wh pl kw f o L (some (.v, tu p))
    refine ⟨d8, ?_⟩
    rw [List.map_cons, forGo_nx (tg := .one 8) (x := tu p) (env' := [some (.v, tw), some (.v, nw), some (.v, mw), some (.v, wh), some (.v, pl), some (.v, kw), some (.v, .int o), some (.v, tu f), some (.v, tu p)]) rfl (env2 := [some (.v, tw), some (.v, nw), some (.v, mw), some (.v, wh), some (.v, pl), some (.v, kw), some (.v, .int o), some (.v, tu f), some (.v, tu p)]) (S2 := S) ?_]
    · exact ih
    · have t1 : cmpW .isN (tu f) .non = some false := rfl
      simp [Env.at, Env.put, quiet, quiets, t1]
theorem next_in {S : Store} (tw nw mw wh pl kw : W) : ∀ (L : List Tu) (r : Int) (e8 : Option (Flag × W)) (h : (loc L r).1 < L.length), ∃ d8, forGo (.one 8) (runB [.ife (.cmp .isN (.var 7) (.cst .non)) [.ife (.cmp .lt (.var 6) (.sub (.var 8) (.cst (.int 1)))) [.asg 7 (.var 8)] [.asg 6 (.bin .sub (.var 6) (.sub (.var 8) (.cst (.int 1))))]] []]) (L.map tu)
      [some (.v, tw), some (.v, nw), some (.v, mw), some (.v, wh), some (.v, pl), some (.v, kw), some (.v, .int r), some (.v, .non), e8] S = .nx [some (.v, tw), some (.v, nw), some (.v, mw), some (.v, wh), some (.v, pl), some (.v, kw), some (.v, .int (loc L r).2), some (.v, tu L[(loc L r).1]), d8] S
  | [], r, e8, h => absurd h (by simp)
  | p :: L, r, e8, h => by
    have t2 : cmpW .isN .non .non = some true := rfl
    by_cases q : r < p.2
    · have e : loc (p :: L) r = (0, r) := by unfold loc; rw [if_pos q]
      obtain ⟨d8, ih⟩ := next_keep (S := S) tw nw mw wh pl kw p r L (some (.v, tu p))
      refine ⟨d8, ?_⟩
      rw [List.map_cons, forGo_nx (tg := .one 8) (x := tu p) (env' := [some (.v, tw), some (.v, nw), some (.v, mw), some (.v, wh), some (.v, pl), some (.v, kw), some (.v, .int r), some (.v, .non), some (.v, tu p)]) rfl (env2 := [some (.v, tw), some (.v, nw), some (.v, mw), some (.v, wh), some (.v, pl), some (.v, kw), some (.v, .int r), some (.v, tu p), some (.v, tu p)]) (S2 := S) ?_]
      · rw [ih]
        simp [e]
      · simp [Env.at, Env.put, quiet, quiets, t2, tu_1, q]
    · have e : loc (p :: L) r = ((loc L (r - p.2)).1 + 1, (loc L (r - p.2)).2) := by rw [loc, if_neg q]
      have h' : (loc L (r - p.2)).1 < L.length := by rw [e] at h; simpa using h
      obtain ⟨d8, ih⟩ := next_in tw nw mw wh pl kw L (r - p.2) (some (.v, tu p)) h'
      refine ⟨d8, ?_⟩
      rw [List.map_cons, forGo_nx (tg := .one 8) (x := tu p) (env' := [some (.v, tw), some (.v, nw), some (.v, mw), some (.v, wh), some (.v, pl), some (.v, kw), some (.v, .int r), some (.v, .non), some (.v, tu p)]) rfl (env2 := [some (.v, tw), some (.v, nw), some (.v, mw), some (.v, wh), some (.v, pl), some (.v, kw), some (.v, .int (r - p.2)), some (.v, .non), some (.v, tu p)]) (S2 := S) ?_]
      · rw [ih]
        simp [e]
      · simp [Env.at, Env.put, quiet, quiets, t2, tu_1, q]
theorem sem_l_next (S : Store) {L : List Tu} (h : Good L) {a : List Nat} (ha : ∀ c ∈ a, c < 1114112) {m : Int} {i0 K : Nat} {o : Int} (hi : i0 < L.length) (hK : K < L.length) (o0 : 0 ≤ o) (o1 : o < L[i0].2) (e : m % tot L = pre L i0 + o) (k2 : (L[atK L i0 K]'(atK_lt h.n0 i0 K)).1 = a)
    (k3 : ∀ j, j < K → (L[atK L i0 j]'(atK_lt h.n0 i0 j)).1 ≠ a) : F_l_next.sem S [tus L, .str (sx a), .int m, .int (tot L)] = .ok (.int (minK L i0 (L[i0].2 - o) m K), []) S := by
  obtain ⟨t0, t1⟩ := h.tot
  have sq := seq_ok h hi o0 o1 e
  unfold F_l_next
  dsimp only
  rw [run_eq rfl]
  have hr := rng_int (S := S) (2 * (L.length : Int) + 2) (by have := h.n1; omega)
  have hm2 : binW .mul (.int 2) (.int (L.length : Int)) = some (false, .int (2 * (L.length : Int))) := mul_intL (by omega)
  simp [B_l_next, env0, Env.at, Env.put, quiet, quiets, tus_len, hm2, hr]
  refine forGo_rule (Done := fun out => endR [false, false, false, false] false (out.then _) = _) (fun k env S' => S' = S ∧ k ≤ K ∧ ∃ e5 e6 e7 e8, env = [some (.v, tus L), some (.v, .str (sx a)), some (.v, .int m), some (.v, .int (tot L)), some (.v, .int (minK L i0 (L[i0].2 - o) m k)), e5, e6, e7, e8]) ⟨rfl, by omega, none, none, none, none, by simp [minK]⟩ (fun k hk env S' hI => ?_) fun env S' hI => ?_
  · obtain ⟨rfl, hkK, e5, e6, e7, e8, rfl⟩ := hI
    rw [List.getElem_map, List.getElem_range]
    refine ⟨_, rfl, ?_⟩
    obtain ⟨q1, q2, q3, q4⟩ := sq k
    have hal := atK_lt h.n0 i0 k
    have hloc := loc_eq L (atK L i0 k) (offK o k) hal h.m0 q3 q4
    have hin := next_in (S := S') (tus L) (.str (sx a)) (.int m) (.int (tot L)) (.int (minK L i0 (L[i0].2 - o) m k)) (.int (k : Int)) L (pre L (atK L i0 k) + offK o k) e8 (by rw [hloc]; exact hal)
    obtain ⟨d8, hin⟩ := hin
    simp only [hloc] at hin
    have s2 := tu_0 (L[atK L i0 k]'hal)
    have s3 := tu_1 (L[atK L i0 k]'hal)
    have he := eq_sx (h.ok _ (List.getElem_mem hal)) ha
    have he2 := eq_sx ha ha
    by_cases hlt : k < K
    · have c1 := k3 k hlt
      simp [Env.at, Env.put, quiet, quiets, mod_pos (show 0 < tot L by omega), q1, iter_tus, hin, s2, s3, he, c1]
      refine ⟨hlt, ?_⟩
      show _ = minK L i0 (L[i0].2 - o) m k + leftK L i0 (L[i0].2 - o) k
      rw [q2]
      omega
    · have ek : k = K := by omega
      subst ek
      simp [Env.at, Env.put, quiet, quiets, mod_pos (show 0 < tot L by omega), q1, iter_tus, hin, s2, s3, he, he2, k2]
  · obtain ⟨rfl, hkK, _⟩ := hI
    exfalso
    simp at hkK
    omega
end Wb
namespace Wb
open PySem PySem.Spec PyProof.Rows
def eNm (c : Str) (n : List Nat) : List (Str × W) := [("name", .str (sx n)), ("label", .str c)]
@[simp] theorem xv_bn (n : List Nat) : X_BadName.vals [.str (sx n)] = eNm "BadName" n := id rfl
@[simp] theorem xv_un (n : List Nat) : X_UnknownName.vals [.str (sx n)] = eNm "UnknownName" n := id rfl
/-! ### what is told -/
theorem told0 {S : Store} {t a b w : W} (h : F_who_has.sem S [t, a] = .ok (w, []) S) : F_l_told.sem S [.int 0, t, a, b] = .ok (.tup [.str "value", w], []) S := by
  unfold F_l_told
  dsimp only
  rw [run_eq rfl]
  simp [B_l_told, env0, Env.at, Env.put, quiet, quiets, h, sizeL]
theorem told1 {S : Store} {t a b w : W} (h : F_minutes_of.sem S [t, a, b] = .ok (w, []) S) : F_l_told.sem S [.int 1, t, a, b] = .ok (.tup [.str "value", w], []) S := by
  unfold F_l_told
  dsimp only
  rw [run_eq rfl]
  simp [B_l_told, env0, Env.at, Env.put, quiet, quiets, h, sizeL]
theorem told2 {S : Store} {t a b w : W} (h : F_next_turn.sem S [t, a, b] = .ok (w, []) S) : F_l_told.sem S [.int 2, t, a, b] = .ok (.tup [.str "value", w], []) S := by
  unfold F_l_told
  dsimp only
  rw [run_eq rfl]
  simp [B_l_told, env0, Env.at, Env.put, quiet, quiets, h, sizeL]
theorem told0_range {S : Store} {t a b : W} {v : Int} (h : F_who_has.sem S [t, a] = .exn "OutOfRange" (eOut v) S) : F_l_told.sem S [.int 0, t, a, b] = .ok (.tup [.str "range", .int v], []) S := by
  unfold F_l_told
  dsimp only
  rw [run_eq rfl]
  simp [B_l_told, env0, Env.at, Env.put, quiet, quiets, h, sizeL]
  rfl
theorem told0_bad {S : Store} {t a b : W} {n : List Nat} (h : F_who_has.sem S [t, a] = .exn "BadName" (eNm "BadName" n) S) : F_l_told.sem S [.int 0, t, a, b] = .ok (.tup [.str "bad", .str (sx n)], []) S := by
  unfold F_l_told
  dsimp only
  rw [run_eq rfl]
  simp [B_l_told, env0, Env.at, Env.put, quiet, quiets, h, sizeL]
  rfl
theorem told1_range {S : Store} {t a b : W} {v : Int} (h : F_minutes_of.sem S [t, a, b] = .exn "OutOfRange" (eOut v) S) : F_l_told.sem S [.int 1, t, a, b] = .ok (.tup [.str "range", .int v], []) S := by
  unfold F_l_told
  dsimp only
  rw [run_eq rfl]
  simp [B_l_told, env0, Env.at, Env.put, quiet, quiets, h, sizeL]
  rfl
theorem told2_name {S : Store} {t a b : W} {n : List Nat} (h : F_next_turn.sem S [t, a, b] = .exn "UnknownName" (eNm "UnknownName" n) S) : F_l_told.sem S [.int 2, t, a, b] = .ok (.tup [.str "name", .str (sx n)], []) S := by
  unfold F_l_told
  dsimp only
  rw [run_eq rfl]
  simp [B_l_told, env0, Env.at, Env.put, quiet, quiets, h, sizeL]
  rfl
/-! ### the errors -/
theorem turns_len {S : Store} {ws : List W} (h : ws.length < 1 ∨ 60 < ws.length) : F_check_turns.sem S [.lst ws] = .exn "OutOfRange" (eOut ws.length) S := by
  unfold F_check_turns
  dsimp only
  rw [run_eq rfl]
  simp [B_check_turns, env0, Env.at, quiet, quiets, exn_between S (v := (ws.length : Int)) (a := 1) (b := 60) (by omega)]
theorem who_exn {S : Store} {t m : W} {c : Str} {fs : List (Str × W)} (h : F_check_turns.sem S [t] = .exn c fs S) : F_who_has.sem S [t, m] = .exn c fs S := by
  unfold F_who_has
  dsimp only
  rw [run_eq rfl]
  simp [B_who_has, env0, Env.at, quiet, quiets, h]
theorem turns_min {S : Store} {L : List Tu} (h0 : 1 ≤ L.length) (h1 : L.length ≤ 60) {A : List Tu} {p : Tu} {B : List Tu} (e : L = A ++ p :: B) (ha0 : ∀ q ∈ A, 1 ≤ q.2) (ha1 : ∀ q ∈ A, q.2 ≤ 10080) (hp : p.2 < 1 ∨ 10080 < p.2) : F_check_turns.sem S [tus L] = .exn "OutOfRange" (eOut p.2) S := by
  unfold F_check_turns
  dsimp only
  rw [run_eq rfl]
  have hc := sem_check_between S (v := (L.length : Int)) (a := 1) (b := 60) (by omega) (by omega)
  have key : ∀ (A : List Tu), (∀ q ∈ A, 1 ≤ q.2) → (∀ q ∈ A, q.2 ≤ 10080) → ∀ e1 e2 : Option (Flag × W), ∃ env, forGo (.many [1, 2]) (runB [.expr (.call F_check_between [.var 2, .cst (.int 1), .glob "MOST_TURN" (.int 10080)] 0)]) ((A ++ p :: B).map tu) [some (.v, tus L), e1, e2, none] S = .exn "OutOfRange" (eOut p.2) env S := by
    intro A
    induction A with
    | nil =>
      intro _ _ e1 e2
      refine ⟨[some (.v, tus L), some (.v, .str (sx p.1)), some (.v, .int p.2), none], ?_⟩
      rw [List.nil_append, List.map_cons]
      refine forGo_exn (bind_tu p _ 1 2) ?_
      simp [Env.at, Env.put, quiet, quiets, exn_between S hp]
    | cons q A ih =>
      intro h0 h1 e1 e2
      obtain ⟨env, hq⟩ := ih (fun x hx => h0 x (List.mem_cons_of_mem _ hx)) (fun x hx => h1 x (List.mem_cons_of_mem _ hx)) (some (.v, .str (sx q.1))) (some (.v, .int q.2))
      refine ⟨env, ?_⟩
      rw [List.cons_append, List.map_cons, forGo_nx (bind_tu q _ 1 2) (env2 := [some (.v, tus L), some (.v, .str (sx q.1)), some (.v, .int q.2), none]) (S2 := S) ?_]
      · exact hq
      · simp [Env.at, Env.put, quiet, quiets, sem_check_between S (h0 q (List.mem_cons_self ..)) (h1 q (List.mem_cons_self ..))]
  obtain ⟨env, q⟩ := key A ha0 ha1 none none
  rw [← e] at q
  simp [B_check_turns, env0, Env.at, quiet, quiets, tus_len, hc, iter_tus, q]
theorem turns_bad {S : Store} {p : Tu} (h0 : 1 ≤ p.2) (h1 : p.2 ≤ 10080) (hb : goodL p.1 = false) (hl : p.1.length ≤ sizeL) : F_check_turns.sem S [tus [p]] = .exn "BadName" (eNm "BadName" p.1) S := by
  unfold F_check_turns
  dsimp only
  rw [run_eq rfl]
  have hc := sem_check_between S (v := 1) (a := 1) (b := 60) (by omega) (by omega)
  obtain ⟨a1, a2, q1⟩ := loop_min (S := S) (tus [p]) [p] none none none (fun q hq => by rw [List.mem_singleton.mp hq]; exact h0) (fun q hq => by rw [List.mem_singleton.mp hq]; exact h1)
  have hn := sem_is_name S p.1 hl
  rw [hb] at hn
  have q2 : forGo (.many [3, 1]) (runB [.ife (.not (.tru (.call F_is_name [(.var 3)] 0))) [.raise X_BadName [(.var 3)]] []]) ([p].map tu) [some (.v, tus [p]), a1, a2, none] S = .exn "BadName" (eNm "BadName" p.1) [some (.v, tus [p]), some (.v, .int p.2), a2, some (.v, .str (sx p.1))] S := by
    rw [List.map_cons]
    refine forGo_exn (bind_tu p _ 3 1) ?_
    simp [Env.at, Env.put, quiet, quiets, hn]
  have hlen := tus_len [p]
  simp at hlen
  have e0 : env0 4 [false] [tus [p]] = [some (.v, tus [p]), none, none, none] := rfl
  rw [e0]
  simp [-List.map_cons, -List.map_nil, B_check_turns, Env.at, quiet, quiets, hlen, hc, iter_tus, q1, q2]
theorem who_minute {S : Store} {L : List Tu} (h : Good L) {m : Int} (hm : m < 0 ∨ 10000000 < m) : F_who_has.sem S [tus L, .int m] = .exn "OutOfRange" (eOut m) S := by
  unfold F_who_has
  dsimp only
  rw [run_eq rfl]
  simp [B_who_has, env0, Env.at, quiet, quiets, sem_check_turns S h, exn_check_minute S hm]
theorem of_first {S : Store} {L : List Tu} (h : Good L) {f s : Int} (hm : f < 0 ∨ 10000000 < f) : F_minutes_of.sem S [tus L, .int f, .int s] = .exn "OutOfRange" (eOut f) S := by
  unfold F_minutes_of
  dsimp only
  rw [run_eq rfl]
  simp [B_minutes_of, env0, Env.at, quiet, quiets, sem_check_turns S h, exn_check_minute S hm]
theorem of_order {S : Store} {L : List Tu} (h : Good L) {f s : Int} (f0 : 0 ≤ f) (f1 : f ≤ 10000000) (s0 : 0 ≤ s) (hs : s < f) : F_minutes_of.sem S [tus L, .int f, .int s] = .exn "OutOfRange" (eOut s) S := by
  unfold F_minutes_of
  dsimp only
  rw [run_eq rfl]
  simp [B_minutes_of, env0, Env.at, quiet, quiets, sem_check_turns S h, sem_check_minute S f0 f1, sem_check_minute S s0 (by omega), hs]
theorem next_name {S : Store} {L : List Tu} (h : Good L) {a : List Nat} (hm : a ∉ L.map (·.1)) (m : W) : F_next_turn.sem S [tus L, .str (sx a), m] = .exn "UnknownName" (eNm "UnknownName" a) S := by
  unfold F_next_turn
  dsimp only
  rw [run_eq rfl]
  have hln := lc_names (S := S) (env := [some (.v, tus L), some (.v, .str (sx a)), some (.v, m), none, none, none, none]) (i := 5) (j := 6) (by simp) (by decide) L h.sz
  have hni := notin_strs a (L.map (·.1))
  have hmem : decide (a ∈ L.map (·.1)) = false := decide_eq_false hm
  rw [hmem] at hni
  simp [-List.map_map, -List.mem_map, B_next_turn, env0, Env.at, Env.put, quiet, quiets, iter_tus, wipeE, sem_check_turns S h, hln, hni]
end Wb
namespace Wb
open PySem PySem.Spec PyProof.Rows
def vw (w : W) : Option (Flag × W) := some (.v, w)
def len15 (a b c d e f g h i j k l m n o : Option (Flag × W)) : Env := [a, b, c, d, e, f, g, h, i, j, k, l, m, n, o]
def n6 : List (List Nat) := [[97, 110, 110], [98, 101, 110], [99, 97, 116], [97, 110, 110], [100, 97, 110], [98, 101, 110]]
theorem n6_eq : Str.ofString "ann" = sx [97, 110, 110] ∧ Str.ofString "ben" = sx [98, 101, 110] ∧ Str.ofString "cat" = sx [99, 97, 116] ∧ Str.ofString "dan" = sx [100, 97, 110] := by decide +kernel
theorem n6_ok : ∀ n ∈ n6, goodL n = true ∧ ∀ c ∈ n, c < 1114112 := by decide
theorem n6_at (k : Nat) (h : k < 6) : ∃ n ∈ n6, subW (.lst [.str "ann", .str "ben", .str "cat", .str "ann", .str "dan", .str "ben"]) (.int k) = some (.str (sx n)) := by
  obtain ⟨a, b, c, d⟩ := n6_eq
  rw [a, b, c, d]
  have hc : k = 0 ∨ k = 1 ∨ k = 2 ∨ k = 3 ∨ k = 4 ∨ k = 5 := by omega
  rcases hc with rfl | rfl | rfl | rfl | rfl | rfl <;> exact ⟨_, by simp [n6], sub_lst rfl⟩
theorem part1 (ns : List Int) : ∃ L : List Tu, Good L ∧ (∀ p ∈ L, p.1 ∈ n6) ∧ ∃ e1 e2 e3, runB (B_law.take 4) (len15 (vw (.ro (ns.map .int))) none none none none none none none none none none none none none none) [] = .nx (len15 (vw (.ro (ns.map .int))) e1 e2 e3 (vw (tus L)) none none none none none none none none none none) [] := by
  have c0 : F_l_cell.sem [] [.ro (ns.map .int), .int 0] = .ok (.int (ns[0]?.getD 0), []) [] := sem_l_cell [] ns 0
  have c1 : F_l_cell.sem [] [.ro (ns.map .int), .int 1] = .ok (.int (ns[1]?.getD 0), []) [] := sem_l_cell [] ns 1
  generalize ns[0]?.getD 0 = n0 at c0
  generalize ns[1]?.getD 0 = n1 at c1
  obtain ⟨c, hc, hc1, hc6⟩ : ∃ c : Nat, 1 + n0 % 6 = (c : Int) ∧ 1 ≤ c ∧ c ≤ 6 := ⟨(1 + n0 % 6).toNat, by omega, by omega, by omega⟩
  obtain ⟨lim, hl, l0, l1⟩ : ∃ lim : Int, subW (.lst [.int 6, .int 60, .int 10080]) (.int (n0 / 6 % 3)) = some (.int lim) ∧ 6 ≤ lim ∧ lim ≤ 10080 := by
    have h3 : n0 / 6 % 3 = ((0 : Nat) : Int) ∨ n0 / 6 % 3 = ((1 : Nat) : Int) ∨ n0 / 6 % 3 = ((2 : Nat) : Int) := by omega
    rcases h3 with h | h | h <;> rw [h]
    · exact ⟨6, sub_lst rfl, by omega, by omega⟩
    · exact ⟨60, sub_lst rfl, by omega, by omega⟩
    · exact ⟨10080, sub_lst rfl, by omega, by omega⟩
  have hr : itemsR .range [.int (c : Int)] [] = .ok ((List.range c).map fun i : Nat => .int (i : Int)) [] := rng_nat c (by unfold sizeL; omega)
  have hlims : ∀ env : Env, env.length = 15 → env.at 2 = some (.v, .int lim) → lcGo (.one 14) (cndF []) (eltF (.var 2)) env ((List.range c).map fun i : Nat => .int (i : Int)) [] [] = .ok (.map .int ((List.range c).map fun _ => lim)) [] := by
    intro env hlen he
    refine (lcGo_map (f := fun _ => .int lim) _ [] (fun x hx => ⟨_, rfl, ?_⟩) (by simp; unfold sizeL; omega)).trans ?_
    · have e : (env.put 14 (.v, x)).at 2 = some (.v, .int lim) := by rw [at_put_ne (by decide)]; exact he
      simp [e]
    · simp
  obtain ⟨row, hrl, hrd, hdr⟩ := sem_l_draw [] n1 ((List.range c).map fun _ => lim) (by simp; omega) (fun x hx => by
    obtain ⟨i, _, rfl⟩ := List.mem_map.mp hx
    omega)
  simp at hrl
  have hrow : ∀ k (h : k < c), 1 ≤ 1 + row[k]'(by omega) ∧ 1 + row[k]'(by omega) ≤ 10080 := fun k h => by
    have q := hrd.2 k (by omega) (by simpa using h)
    simp at q
    omega
  have hturn : ∃ L : List Tu, L.length = c ∧ (∀ p ∈ L, p.1 ∈ n6 ∧ 1 ≤ p.2 ∧ p.2 ≤ 10080) ∧ ∀ env : Env, env.length = 15 → env.at 3 = some (.v, .lst (row.map .int)) → lcGo (.one 14) (cndF []) (eltF (.tup [.sub (.lst [.cst (.str "ann"), .cst (.str "ben"), .cst (.str "cat"), .cst (.str "ann"), .cst (.str "dan"), .cst (.str "ben")]) (.var 14), .bin .add (.cst (.int 1)) (.sub (.var 3) (.var 14))])) env ((List.range c).map fun i : Nat => .int (i : Int)) [] [] = .ok (L.map tu) [] := by
    have key : ∀ j, j ≤ c → ∃ L : List Tu, L.length = c - j ∧ (∀ p ∈ L, p.1 ∈ n6 ∧ 1 ≤ p.2 ∧ p.2 ≤ 10080) ∧ ∀ env : Env, env.length = 15 → env.at 3 = some (.v, .lst (row.map .int)) → ∀ acc : List W, acc.length ≤ j → lcGo (.one 14) (cndF []) (eltF (.tup [.sub (.lst [.cst (.str "ann"), .cst (.str "ben"), .cst (.str "cat"), .cst (.str "ann"), .cst (.str "dan"), .cst (.str "ben")]) (.var 14), .bin .add (.cst (.int 1)) (.sub (.var 3) (.var 14))])) env (((List.range c).drop j).map fun i : Nat => .int (i : Int)) acc [] = .ok (acc ++ L.map tu) [] := by
      intro j hj
      obtain ⟨d, hd⟩ : ∃ d, d = c - j := ⟨_, rfl⟩
      induction d generalizing j with
      | zero =>
        refine ⟨[], by simp; omega, by simp, fun env _ _ acc _ => ?_⟩
        rw [List.drop_eq_nil_of_le (by simp; omega)]
        simp [lcGo]
      | succ d ih =>
        obtain ⟨L, h1, h2, h3⟩ := ih (j + 1) (by omega) (by omega)
        have hjc : j < c := by omega
        obtain ⟨nm, hnm, hs⟩ := n6_at j (by omega)
        refine ⟨(nm, 1 + row[j]'(by omega)) :: L, by simp; omega, fun p hp => ?_, fun env hlen he acc hz => ?_⟩
        · rcases List.mem_cons.mp hp with rfl | hp
          · exact ⟨hnm, hrow j hjc⟩
          · exact h2 p hp
        · rw [List.drop_eq_getElem_cons (by simp; omega), List.map_cons, lcGo]
          have hb : bindTg (.one 14) (.int ((List.range c)[j]'(by simp; omega) : Int)) env = some (env.put 14 (.v, .int (j : Int))) := by
            rw [List.getElem_range]
            rfl
          rw [hb]
          dsimp only
          have g1 : (env.put 14 (.v, .int (j : Int))).at 14 = some (.v, .int (j : Int)) := at_put_self (by omega)
          have g2 : (env.put 14 (.v, .int (j : Int))).at 3 = some (.v, .lst (row.map .int)) := by rw [at_put_ne (by decide)]; exact he
          have hrs : subW (.lst (row.map .int)) (.int (j : Int)) = some (.int (row[j]'(by omega))) := sub_lst (by rw [List.getElem?_map, List.getElem?_eq_getElem (by omega)]; rfl)
          have hz' : acc.length < 16777216 := by omega
          simp [-List.map_drop, g1, g2, quiet, quiets, hs, hrs, sizeL, hz']
          have q := h3 env hlen he (acc ++ [tu (nm, 1 + row[j]'(by omega))]) (by simp; omega)
          rw [show W.tup [W.str (sx nm), W.int (1 + row[j]'(by omega))] = tu (nm, 1 + row[j]'(by omega)) from rfl, q]
          simp
    obtain ⟨L, h1, h2, h3⟩ := key 0 (by omega)
    refine ⟨L, by omega, h2, fun env hlen he => ?_⟩
    have q := h3 env hlen he [] (by simp)
    simpa using q
  obtain ⟨L, hL, hL2, hL3⟩ := hturn
  refine ⟨L, ⟨by omega, by omega, fun p hp => (hL2 p hp).2.1, fun p hp => (hL2 p hp).2.2, fun p hp => (n6_ok _ (hL2 p hp).1).1, fun p hp => (n6_ok _ (hL2 p hp).1).2⟩, fun p hp => (hL2 p hp).1, vw (.int (c : Int)), vw (.int lim), vw (.lst (row.map .int)), ?_⟩
  simp [-List.map_map, B_law, len15, vw, Env.at, Env.put, quiet, quiets, c0, c1, hc, hl, hr, wipeE, sizeL]
  rw [hlims _ rfl rfl]
  simp [-List.map_map, hdr, Env.at, Env.put, quiet, quiets, hr, wipeE]
  rw [hL3 _ rfl rfl]
  simp [tus]
end Wb
namespace Wb
open PySem PySem.Spec PyProof.Rows
def strsL (N : List (List Nat)) : W := .lst (N.map fun n => .str (sx n))
def loop2 : List S := [.asg 5 (.bin .add (.var 5) (.sub (.var 7) (.cst (.int 1)))), .ife (.cmp .notIn (.sub (.var 7) (.cst (.int 0))) (.var 6)) [.app (.slot 6) (.sub (.var 7) (.cst (.int 0)))] []]
theorem names_loop (e0 e1 e2 e3 e4 : Option (Flag × W)) : ∀ (L : List Tu) (w : Int) (acc : List (List Nat)) (e7 : Option (Flag × W)), acc.length + L.length ≤ 1000 → ∃ d7, forGo (.one 7) (runB loop2) (L.map tu) (len15 e0 e1 e2 e3 e4 (vw (.int w)) (some (.o, strsL acc)) e7 none none none none none none none) [] =
    .nx (len15 e0 e1 e2 e3 e4 (vw (.int (w + tot L))) (some (.o, strsL (dd acc (L.map (·.1))))) d7 none none none none none none none) []
  | [], w, acc, e7, _ => ⟨e7, by simp [forGo_nil, tot, dd]⟩
  | p :: L, w, acc, e7, hz => by
    obtain ⟨d7, ih⟩ := names_loop e0 e1 e2 e3 e4 L (w + p.2) (if p.1 ∈ acc then acc else acc ++ [p.1]) (vw (tu p)) (by split <;> simp at hz ⊢ <;> omega)
    refine ⟨d7, ?_⟩
    have e : tot (p :: L) = p.2 + tot L := by unfold tot; simp
    rw [List.map_cons, List.map_cons, forGo_nx (tg := .one 7) (x := tu p) (env' := len15 e0 e1 e2 e3 e4 (vw (.int w)) (some (.o, strsL acc)) (vw (tu p)) none none none none none none none) rfl (env2 := len15 e0 e1 e2 e3 e4 (vw (.int (w + p.2))) (some (.o, strsL (if p.1 ∈ acc then acc else acc ++ [p.1]))) (vw (tu p)) none none none none none none none) (S2 := []) ?_]
    · rw [ih, e, dd, Int.add_assoc]
    · have hn := notin_strs p.1 acc
      have happ : appW (strsL acc) (.str (sx p.1)) = some (strsL (acc ++ [p.1])) := by
        show (if (acc.map fun n => W.str (sx n)).length < sizeL then some (W.lst ((acc.map fun n => W.str (sx n)) ++ [W.str (sx p.1)])) else none) = _
        rw [List.length_map, if_pos (by unfold sizeL; simp at hz; omega)]
        unfold strsL
        rw [List.map_append]
        rfl
      have hn' : cmpW .notIn (.str (sx p.1)) (strsL acc) = some (!decide (p.1 ∈ acc)) := hn
      by_cases q : p.1 ∈ acc
      · simp [loop2, len15, vw, Env.at, Env.put, quiet, quiets, tu_0, tu_1, hn', q]
      · simp [loop2, len15, vw, Env.at, Env.put, quiet, quiets, tu_0, tu_1, hn', q]
        rw [if_pos (ownL_lst (ws := acc.map fun n => .str (sx n)) rfl), chg_at (w := strsL acc) rfl happ]
        simp [Env.put]
theorem ok_tup {s : Str} {w : W} (hs : PyData.strOk s = true) (hw : okD 59 w = true) : okD 60 (.tup [.str s, w]) = true := by
  show (okD 59 (.str s) && (okD 59 w && true)) = true
  rw [show okD 59 (.str s) = PyData.strOk s from rfl, hs, hw]
  rfl
theorem sv : PyData.strOk "value" = true := by decide +kernel
theorem ok_ofW {L : List Tu} (f s : Int) (N : List (List Nat)) (h : ∀ n ∈ N, ∀ c ∈ n, c < 1114112) : okD 59 (ofW' L f s N) = true := by
  unfold ofW'
  show ((N.map fun n => W.tup [.str (sx n), .int (untilV L n s - untilV L n f)]).all (okD 58)) = true
  rw [List.all_map, List.all_eq_true]
  intro n hn
  show (okD 57 (.str (sx n)) && (okD 57 (.int (untilV L n s - untilV L n f)) && true)) = true
  rw [show okD 57 (.str (sx n)) = PyData.strOk (sx n) from rfl, strOk_sx (h n hn)]
  rfl
/-- from the names on to the sums -/
theorem part2 (ns : List Int) (L : List Tu) (hL : Good L) (e1 e2 e3 : Option (Flag × W)) : ∃ (mi se : Int) (d7 : Option (Flag × W)), 0 ≤ mi ∧ mi ≤ 10000000 ∧ runB ((B_law.drop 4).take 9) (len15 (vw (.ro (ns.map .int))) e1 e2 e3 (vw (tus L)) none none none none none none none none none none) [] =
    .nx (len15 (vw (.ro (ns.map .int))) e1 e2 e3 (vw (tus L)) (vw (.int (tot L))) (vw (strsL (nms L))) d7 (vw (.int mi)) (vw (.int se)) (vw (ofW' L mi se (nms L))) (vw (.tup [.str "value", ofW' L mi se (nms L)])) none none none) [] := by
  have c2 : F_l_cell.sem [] [.ro (ns.map .int), .int 2] = .ok (.int (ns[2]?.getD 0), []) [] := sem_l_cell [] ns 2
  have c3 : F_l_cell.sem [] [.ro (ns.map .int), .int 3] = .ok (.int (ns[3]?.getD 0), []) [] := sem_l_cell [] ns 3
  generalize ns[2]?.getD 0 = n2 at c2
  generalize ns[3]?.getD 0 = n3 at c3
  obtain ⟨mi, hmi, m0, m1⟩ : ∃ mi : Int, n2 % 10000001 = mi ∧ 0 ≤ mi ∧ mi ≤ 10000000 := ⟨_, rfl, by omega, by omega⟩
  obtain ⟨t0, t1⟩ := hL.tot
  have q0 := Int.emod_nonneg n3 (show 4 * tot L + 1 ≠ 0 by omega)
  obtain ⟨se, hse, s0, s1⟩ : ∃ se : Int, (if mi + n3 % (4 * tot L + 1) < 10000000 then mi + n3 % (4 * tot L + 1) else 10000000) = se ∧ mi ≤ se ∧ se ≤ 10000000 := ⟨_, rfl, by split <;> omega, by split <;> omega⟩
  obtain ⟨d7, hloop⟩ := names_loop (vw (.ro (ns.map .int))) e1 e2 e3 (vw (tus L)) L 0 [] none (by have := hL.n1; simp; omega)
  rw [Int.zero_add] at hloop
  obtain ⟨hh, hw⟩ := sem_who_has [] hL m0 m1
  have hlh := sem_l_has [] hL mi hh
  have ht0 := told0 (b := .int 0) hw
  have hok0 : okD 60 (.tup [.str "value", .str (sx L[(loc L (mi % tot L)).1].1)]) = true := ok_tup sv (strOk_sx (hL.ok _ (List.getElem_mem hh)))
  have hm4 : binW .mul (.int 4) (.int (tot L)) = some (false, .int (4 * tot L)) := mul_intL (by omega)
  have hmd : binW .mod (.int n3) (.int (4 * tot L + 1)) = some (false, .int (n3 % (4 * tot L + 1))) := mod_pos (by omega)
  have hmn : biW .min2 [.int 10000000, .int (mi + n3 % (4 * tot L + 1))] = some (false, .int se) := by rw [min2_int, hse]
  obtain ⟨nok, nlen⟩ := nms_ok hL
  have hdue : ∀ env : Env, env.length = 15 → env.at 4 = some (.v, tus L) → env.at 8 = some (.v, .int mi) → env.at 9 = some (.v, .int se) → lcGo (.one 13) (cndF []) (eltF (.tup [.var 13, .bin .sub (.call F_l_before [.var 4, .var 13, .var 9] 0) (.call F_l_before [.var 4, .var 13, .var 8] 0)])) env ((nms L).map fun n => .str (sx n)) [] [] = .ok ((nms L).map fun n => .tup [.str (sx n), .int (untilV L n se - untilV L n mi)]) [] := by
    intro env hlen h4 h8 h9
    have key : ∀ (N : List (List Nat)), (∀ n ∈ N, ∀ c ∈ n, c < 1114112) → ∀ acc : List W, acc.length + N.length ≤ 1000 → lcGo (.one 13) (cndF []) (eltF (.tup [.var 13, .bin .sub (.call F_l_before [.var 4, .var 13, .var 9] 0) (.call F_l_before [.var 4, .var 13, .var 8] 0)])) env (N.map fun n => .str (sx n)) acc [] = .ok (acc ++ N.map fun n => .tup [.str (sx n), .int (untilV L n se - untilV L n mi)]) [] := by
      intro N
      induction N with
      | nil => intro _ acc _; simp [lcGo]
      | cons n N ih =>
        intro hN acc hz
        have hn := hN n (List.mem_cons_self ..)
        rw [List.map_cons, lcGo]
        have hb : bindTg (.one 13) (.str (sx n)) env = some (env.put 13 (.v, .str (sx n))) := rfl
        rw [hb]
        dsimp only
        have g13 : (env.put 13 (.v, .str (sx n))).at 13 = some (.v, .str (sx n)) := at_put_self (by omega)
        have g4 : (env.put 13 (.v, .str (sx n))).at 4 = some (.v, tus L) := by rw [at_put_ne (by decide)]; exact h4
        have g8 : (env.put 13 (.v, .str (sx n))).at 8 = some (.v, .int mi) := by rw [at_put_ne (by decide)]; exact h8
        have g9 : (env.put 13 (.v, .str (sx n))).at 9 = some (.v, .int se) := by rw [at_put_ne (by decide)]; exact h9
        have hz2 : acc.length < 16777216 := by simp at hz; omega
        simp [g13, g4, g8, g9, quiet, quiets, sem_l_before [] hL hn, sizeL, hz2]
        rw [ih (fun m hm => hN m (List.mem_cons_of_mem _ hm)) _ (by simp at hz ⊢; omega)]
        simp
    have z := key (nms L) nok [] (by simp; omega)
    simpa using z
  have ht1 := told1 (sem_minutes_of [] hL m0 m1 s1 s0)
  have hok1 : okD 60 (.tup [.str "value", ofW' L mi se (nms L)]) = true := ok_tup sv (ok_ofW mi se (nms L) nok)
  refine ⟨mi, se, d7, m0, m1, ?_⟩
  have e6 : runB [B_law.getD 6 .pass] (len15 (vw (.ro (ns.map .int))) e1 e2 e3 (vw (tus L)) (vw (.int 0)) (some (.o, strsL [])) none none none none none none none none) [] = .nx (len15 (vw (.ro (ns.map .int))) e1 e2 e3 (vw (tus L)) (vw (.int (tot L))) (some (.o, strsL (nms L))) d7 none none none none none none none) [] := by
    have q : B_law.getD 6 .pass = .for_ (.one 7) .iter [.var 4] loop2 := rfl
    rw [q]
    simp [-List.map_map, len15, vw, Env.at, iter_tus]
    simp only [len15, vw] at hloop
    rw [hloop]
    simp [nms]
  have hsplit : (B_law.drop 4).take 9 = [.asg 5 (.cst (.int 0)), .asgO 6 (.lst [])] ++ ([B_law.getD 6 .pass] ++ (B_law.drop 7).take 6) := rfl
  have e5 : runB [.asg 5 (.cst (.int 0)), .asgO 6 (.lst [])] (len15 (vw (.ro (ns.map .int))) e1 e2 e3 (vw (tus L)) none none none none none none none none none none) [] = .nx (len15 (vw (.ro (ns.map .int))) e1 e2 e3 (vw (tus L)) (vw (.int 0)) (some (.o, strsL [])) none none none none none none none none) [] := by
    simp [len15, vw, Env.put, sizeL, strsL]
  rw [hsplit, runB_app, e5, Out.then_nx, runB_app, e6, Out.then_nx]
  simp [B_law, len15, vw, Env.at, Env.put, quiet, quiets, c2, c3, hmi, ht0, hlh, ne_self hok0, sizeL, hm4, hmd, hmn, wipeE]
  have hit : itemsR .iter [strsL (nms L)] [] = .ok ((nms L).map fun n => .str (sx n)) [] := rfl
  rw [hit]
  simp
  rw [hdue _ rfl rfl rfl rfl]
  simp [Env.at, Env.put, quiet, quiets]
  rw [show W.lst ((nms L).map fun n => W.tup [W.str (sx n), W.int (untilV L n se - untilV L n mi)]) = ofW' L mi se (nms L) from rfl]
  simp [ht1, ne_self hok1, sizeL]
end Wb
namespace Wb
open PySem PySem.Spec PyProof.Rows
theorem whole_loop (e0 e1 e2 e3 e4 e5 e6 e8 e9 e10 e11 : Option (Flag × W)) : ∀ (N : List (List Nat × Int)) (e7 : Option (Flag × W)), ∃ d7, forGo (.one 7) (runB [.ife (.not (.tru (.call F_l_whole [.sub (.var 7) (.cst (.int 1))] 0))) [.ret (.cst (.bl false))] []]) (N.map tu) (len15 e0 e1 e2 e3 e4 e5 e6 e7 e8 e9 e10 e11 none none none) [] = .nx (len15 e0 e1 e2 e3 e4 e5 e6 d7 e8 e9 e10 e11 none none none) []
  | [], e7 => ⟨e7, rfl⟩
  | p :: N, e7 => by
    obtain ⟨d7, ih⟩ := whole_loop e0 e1 e2 e3 e4 e5 e6 e8 e9 e10 e11 N (vw (tu p))
    refine ⟨d7, ?_⟩
    rw [List.map_cons, forGo_nx (tg := .one 7) (x := tu p) (env' := len15 e0 e1 e2 e3 e4 e5 e6 (vw (tu p)) e8 e9 e10 e11 none none none) rfl (env2 := len15 e0 e1 e2 e3 e4 e5 e6 (vw (tu p)) e8 e9 e10 e11 none none none) (S2 := []) ?_]
    · exact ih
    · simp [len15, vw, Env.at, quiet, quiets, tu_1, sem_l_whole]
theorem next_loop {L : List Tu} (h : Good L) {st : Int} (h0 : 0 ≤ st) (h1 : st ≤ 10000000) (e0 e1 e2 e3 e6 e7 e8 e9 e10 e11 e14 : Option (Flag × W)) : ∀ (N : List (List Nat)) (e13 : Option (Flag × W)), (∀ n ∈ N, n ∈ L.map (·.1)) → ∃ d13, forGo (.one 13) (runB [.ife (.cmp .ne (.call F_l_told [.cst (.int 2), .var 4, .var 13, .var 12] 0) (.tup [.cst (.str "value"), .call F_l_next [.var 4, .var 13, .var 12, .var 5] 0])) [.ret (.cst (.bl false))] []]) (N.map fun n => .str (sx n))
      (len15 e0 e1 e2 e3 (vw (tus L)) (vw (.int (tot L))) e6 e7 e8 e9 e10 e11 (vw (.int st)) e13 e14) [] = .nx (len15 e0 e1 e2 e3 (vw (tus L)) (vw (.int (tot L))) e6 e7 e8 e9 e10 e11 (vw (.int st)) d13 e14) []
  | [], e13, _ => ⟨e13, rfl⟩
  | n :: N, e13, hN => by
    obtain ⟨d13, ih⟩ := next_loop h h0 h1 e0 e1 e2 e3 e6 e7 e8 e9 e10 e11 e14 N (vw (.str (sx n))) (fun m hm => hN m (List.mem_cons_of_mem _ hm))
    refine ⟨d13, ?_⟩
    have hn := hN n (List.mem_cons_self ..)
    have hok : ∀ c ∈ n, c < 1114112 := by
      obtain ⟨p, hp, rfl⟩ := List.mem_map.mp hn
      exact h.ok p hp
    obtain ⟨i0, K, o, hi, hK, o0, o1, e, k2, k3, hs⟩ := sem_next_turn [] h hok hn h0 h1
    have hl := sem_l_next [] h hok hi hK o0 o1 e k2 k3
    have ht := told2 hs
    have hok1 : okD 60 (.tup [.str "value", .int (minK L i0 (L[i0].2 - o) st K)]) = true := ok_tup sv rfl
    rw [List.map_cons, forGo_nx (tg := .one 13) (x := .str (sx n)) (env' := len15 e0 e1 e2 e3 (vw (tus L)) (vw (.int (tot L))) e6 e7 e8 e9 e10 e11 (vw (.int st)) (vw (.str (sx n))) e14) rfl (env2 := len15 e0 e1 e2 e3 (vw (tus L)) (vw (.int (tot L))) e6 e7 e8 e9 e10 e11 (vw (.int st)) (vw (.str (sx n))) e14) (S2 := []) ?_]
    · exact ih
    · simp [len15, vw, Env.at, quiet, quiets, ht, hl, ne_self hok1, sizeL]
theorem lit_A : Str.ofString "A" = sx [65] ∧ Str.ofString "a" = sx [97] ∧ Str.ofString "b" = sx [98] ∧ Str.ofString "zed" = sx [122, 101, 100] := by decide +kernel
theorem strs_ok : PyData.strOk "range" = true ∧ PyData.strOk "bad" = true ∧ PyData.strOk "name" = true := by decide +kernel
theorem ne_range (v : Int) : cmpW .ne (.tup [.str "range", .int v]) (.tup [.str "range", .int v]) = some false := ne_self (ok_tup strs_ok.1 rfl)
theorem eq_range (v : Int) : cmpW .eq (.tup [.str "range", .int v]) (.tup [.str "range", .int v]) = some true := eq_self' (ok_tup strs_ok.1 rfl)
def rep61 : List W := (List.replicate 61 [W.tup [.str (sx [97]), .int 5]]).flatten
theorem rep61_len : rep61.length = 61 := by
  unfold rep61
  rw [List.length_flatten]
  simp
theorem mul61 : binW .mul (.lst [.tup [.str (sx [97]), .int 5]]) (.int 61) = some (true, .lst rep61) := by
  have h : (0 : Int) ≤ 61 ∧ (61 : Int) < 2 ^ 62 ∧ 1 * (61 : Int).toNat ≤ sizeL := by decide +kernel
  show (if (0 : Int) ≤ 61 ∧ (61 : Int) < 2 ^ 62 ∧ 1 * (61 : Int).toNat ≤ sizeL then some (true, W.lst (List.replicate (61 : Int).toNat [W.tup [.str (sx [97]), .int 5]]).flatten) else none) = some (true, W.lst rep61)
  rw [if_pos h]
  rfl
theorem part3 {L : List Tu} (hL : Good L) (h6 : ∀ p ∈ L, p.1 ∈ n6) {mi se : Int} (m0 : 0 ≤ mi) (m1 : mi ≤ 10000000) (e0 e1 e2 e3 d7 : Option (Flag × W)) :
    endR [false] false (runB (B_law.drop 13) (len15 e0 e1 e2 e3 (vw (tus L)) (vw (.int (tot L))) (vw (strsL (nms L))) d7 (vw (.int mi)) (vw (.int se)) (vw (ofW' L mi se (nms L))) (vw (.tup [.str "value", ofW' L mi se (nms L)])) none none none) []) = .ok (.bl true, []) [] := by
  obtain ⟨t0, t1⟩ := hL.tot
  obtain ⟨nok, nlen⟩ := nms_ok hL
  have hok1 : okD 60 (.tup [.str "value", ofW' L mi se (nms L)]) = true := ok_tup sv (ok_ofW mi se (nms L) nok)
  have s1 : subW (.tup [.str "value", ofW' L mi se (nms L)]) (.int 1) = some (ofW' L mi se (nms L)) := sub_tup (k := 1) rfl
  have hit : itemsR .iter [ofW' L mi se (nms L)] [] = .ok (((nms L).map fun n => (n, untilV L n se - untilV L n mi)).map tu) [] := by
    rw [List.map_map]
    rfl
  have hit2 : itemsR .iter [strsL (nms L)] [] = .ok ((nms L).map fun n => .str (sx n)) [] := rfl
  obtain ⟨st, hst, st0, st1⟩ : ∃ st : Int, (if mi - 2 * tot L > 0 then mi - 2 * tot L else 0) = st ∧ 0 ≤ st ∧ st ≤ 10000000 := ⟨_, rfl, by split <;> omega, by split <;> omega⟩
  have hmx : biW .max2 [.int 0, .int (mi - 2 * tot L)] = some (false, .int st) := by rw [max2_int, hst]
  have hm2 : binW .mul (.int 2) (.int (tot L)) = some (false, .int (2 * tot L)) := mul_intL (by omega)
  obtain ⟨c7, hw⟩ := whole_loop e0 e1 e2 e3 (vw (tus L)) (vw (.int (tot L))) (vw (strsL (nms L))) (vw (.int mi)) (vw (.int se)) (vw (ofW' L mi se (nms L))) (vw (.tup [.str "value", ofW' L mi se (nms L)])) ((nms L).map fun n => (n, untilV L n se - untilV L n mi)) d7
  obtain ⟨c13, hx⟩ := next_loop hL st0 st1 e0 e1 e2 e3 (vw (strsL (nms L))) c7 (vw (.int mi)) (vw (.int se)) (vw (ofW' L mi se (nms L))) (vw (.tup [.str "value", ofW' L mi se (nms L)])) none (nms L) none (fun n hn => by
    rcases dd_mem _ _ _ hn with q | q
    · cases q
    · exact q)
  have hsplit : B_law.drop 13 = (B_law.drop 13).take 4 ++ B_law.drop 17 := rfl
  have ea : runB ((B_law.drop 13).take 4) (len15 e0 e1 e2 e3 (vw (tus L)) (vw (.int (tot L))) (vw (strsL (nms L))) d7 (vw (.int mi)) (vw (.int se)) (vw (ofW' L mi se (nms L))) (vw (.tup [.str "value", ofW' L mi se (nms L)])) none none none) [] = .nx (len15 e0 e1 e2 e3 (vw (tus L)) (vw (.int (tot L))) (vw (strsL (nms L))) c7 (vw (.int mi)) (vw (.int se)) (vw (ofW' L mi se (nms L))) (vw (.tup [.str "value", ofW' L mi se (nms L)])) (vw (.int st)) c13 none) [] := by
    simp only [len15, vw] at hw hx ⊢
    simp [-List.map_map, B_law, Env.at, Env.put, quiet, quiets, ne_self hok1, sizeL, s1, hit]
    rw [hw]
    simp [-List.map_map, Env.at, Env.put, quiet, quiets, hm2, hmx, hit2]
    rw [hx]
    simp
  rw [hsplit, runB_app, ea, Out.then_nx]
  obtain ⟨lA, la, lb, lz⟩ := lit_A
  have x1 : F_l_told.sem [] [.int 0, .lst [], .int (-1), .int 0] = .ok (.tup [.str "range", .int 0], []) [] := told0_range (who_exn (turns_len (ws := []) (by simp)))
  have x2 : F_l_told.sem [] [.int 0, .lst [.tup [.str (sx [65]), .int 0]], .int (-1), .int 0] = .ok (.tup [.str "range", .int 0], []) [] := told0_range (who_exn (turns_min (L := [([65], 0)]) (A := []) (p := ([65], 0)) (B := []) (by simp) (by simp) rfl (by simp) (by simp) (by simp)))
  have x3 : F_l_told.sem [] [.int 0, .lst [.tup [.str (sx [65]), .int 5]], .int (-1), .int 0] = .ok (.tup [.str "bad", .str (sx [65])], []) [] := told0_bad (who_exn (turns_bad (p := ([65], 5)) (by simp) (by simp) (by decide) (by simp [sizeL])))
  have x4 : F_l_told.sem [] [.int 0, .lst rep61, .int 0, .int 0] = .ok (.tup [.str "range", .int 61], []) [] := by
    have q := turns_len (S := []) (ws := rep61) (by right; rw [rep61_len]; decide)
    rw [rep61_len] at q
    exact told0_range (who_exn q)
  have x5 : F_l_told.sem [] [.int 0, .lst [.tup [.str (sx [97]), .int 5], .tup [.str (sx [98]), .int 10081]], .int 0, .int 0] = .ok (.tup [.str "range", .int 10081], []) [] := told0_range (who_exn (turns_min (L := [([97], 5), ([98], 10081)]) (A := [([97], 5)]) (p := ([98], 10081)) (B := []) (by simp) (by simp) rfl (by simp) (by simp) (by simp)))
  have hzed : ([122, 101, 100] : List Nat) ∉ L.map (·.1) := by
    intro h
    obtain ⟨p, hp, e⟩ := List.mem_map.mp h
    have := h6 p hp
    rw [e] at this
    exact absurd this (by decide)
  have x6 : F_l_told.sem [] [.int 2, tus L, .str (sx [122, 101, 100]), .int (-1)] = .ok (.tup [.str "name", .str (sx [122, 101, 100])], []) [] := told2_name (next_name hL hzed _)
  have x7 : F_l_told.sem [] [.int 0, tus L, .int 10000001, .int 0] = .ok (.tup [.str "range", .int 10000001], []) [] := told0_range (who_minute hL (by omega))
  have x8 : F_l_told.sem [] [.int 1, tus L, .int 5, .int 4] = .ok (.tup [.str "range", .int 4], []) [] := told1_range (of_order hL (by omega) (by omega) (by omega) (by omega))
  have x9 : F_l_told.sem [] [.int 1, tus L, .int (-1), .int (-2)] = .ok (.tup [.str "range", .int (-1)], []) [] := told1_range (of_first hL (by omega))
  have n1 : cmpW .ne (.tup [.str "bad", .str (sx [65])]) (.tup [.str "bad", .str (sx [65])]) = some false := ne_self (ok_tup strs_ok.2.1 (strOk_sx (by decide)))
  have n2 : cmpW .ne (.tup [.str "name", .str (sx [122, 101, 100])]) (.tup [.str "name", .str (sx [122, 101, 100])]) = some false := ne_self (ok_tup strs_ok.2.2 (strOk_sx (by decide)))
  simp only [len15, vw]
  simp [B_law, Env.at, Env.put, quiet, quiets, sizeL, lA, la, lb, lz, x1, x2, x3, mul61, x4, x5, x6, x7, x8, x9, n1, n2, ne_range, eq_range]
theorem runB_split2 {b : List Wb.S} (n : Nat) (env : Env) (S : Store) : runB b env S = (runB (b.take n) env S).then (runB (b.drop n)) := by
  rw [← runB_app, List.take_append_drop]
theorem law_holds : ∀ ns : List Int, ns.length ≤ 63 → (∀ z ∈ ns, Builtin.Int.intBits z ≤ 1048576) → ∃ fs S', F_law.sem [] [.ro (ns.map .int)] = .ok (.bl true, fs) S' := by
  intro ns _ _
  refine ⟨[], [], ?_⟩
  unfold F_law
  dsimp only
  rw [run_eq rfl]
  have e0 : env0 15 [false] [.ro (ns.map .int)] = len15 (vw (.ro (ns.map .int))) none none none none none none none none none none none none none none := rfl
  rw [e0]
  obtain ⟨L, hL, h6, e1, e2, e3, ha⟩ := part1 ns
  obtain ⟨mi, se, d7, m0, m1, hb⟩ := part2 ns L hL e1 e2 e3
  rw [runB_split2 4, ha, Out.then_nx, runB_split2 9, hb, Out.then_nx, List.drop_drop]
  exact part3 hL h6 m0 m1 ..
end Wb
open PySem PySem.W PyProof.Rows
set_option maxRecDepth 100000 in
set_option maxHeartbeats 0 in
theorem PySem.Challenge.cw_weirbook_k32_turns_holds : PySem.Challenge.rw_weirbook_k32_turns.Holds := by
  w_on; o_law; k_head; (case hw => w_witness2)
  k_fill
  refine Wb.law_walk (l := PySem.Challenge.rw_weirbook_k32_turns) (k := 7) rfl rfl ⟨rfl, by decide, by decide⟩ (fun w h Y => PySem.W.kIn_of Y) ?F
  case F =>
    intro w mg fa h KX G hmg
    refine' Wb.all_mk KX G hmg ?a1 ?l1 ?c1 ?k1 ?a2 ?l2 ?c2 ?k2 ?a3 ?l3 ?c3 ?k3 ?a4 ?l4 ?c4 ?k4 ?a5 ?l5 ?c5 ?k5 ?a6 ?l6 ?c6 ?k6 ?a7 ?l7 ?c7 ?k7 ?a8 ?l8 ?c8 ?k8 ?a9 ?l9 ?c9 ?k9 ?a10 ?l10 ?c10 ?k10 ?a11 ?l11 ?c11 ?k11 ?a12 ?l12 ?c12 ?k12 ?a13 ?l13 ?c13 ?k13 ?a14 ?l14 ?c14 ?k14 ?a15 ?l15 ?c15 ?k15 ?a16 ?l16 ?c16 ?k16 ?a17 ?l17 ?c17 ?k17 ?a18 ?l18 ?c18 ?k18 ?a19 ?l19 ?c19 ?k19 ?xa1 ?xo1 ?xv1 ?xb1 ?xc1 ?xd1 ?xe1 ?xf1 ?xg1 ?xh1 ?xi1 ?xj1 ?xk1 ?xl1 ?xm1 ?xn1 ?xp1 ?xq1 ?xr1_0 ?xr1_1 ?xs1 ?xt1 ?xu1 ?xw1 ?xx1 ?xa2 ?xo2 ?xv2 ?xb2 ?xc2 ?xd2 ?xe2 ?xf2 ?xg2 ?xh2 ?xi2 ?xj2 ?xk2 ?xl2 ?xm2 ?xn2 ?xp2 ?xq2 ?xr2_0 ?xr2_1 ?xs2 ?xt2 ?xu2 ?xw2 ?xx2 ?xa3 ?xo3 ?xv3 ?xb3 ?xc3 ?xd3 ?xe3 ?xf3 ?xg3 ?xh3 ?xi3 ?xj3 ?xk3 ?xl3 ?xm3 ?xn3 ?xp3 ?xq3 ?xr3_0 ?xr3_1 ?xs3 ?xt3 ?xu3 ?xw3 ?xx3 ?ya ?yb ?yc ?yd ?ye ?yg1_1 ?yh1_1 ?yg1_2 ?yh1_2 ?yg1_3 ?yh1_3 ?yg2_1 ?yh2_1 ?yg2_2 ?yh2_2 ?yg2_3 ?yh2_3 ?yg3_1 ?yh3_1 ?yg3_2 ?yh3_2 ?yg3_3 ?yh3_3 ?yf4 ?yg4_1 ?yh4_1 ?yg4_2 ?yh4_2 ?yg4_3 ?yh4_3 ?yi1_1 ?yi1_2 ?yi1_3 ?yi2_1 ?yi2_2 ?yi2_3 ?z1 ?z2 ?z3 ?z4 ?z5 ?z6 ?z7 ?z8 ?z9 ?z10 ?z11 ?z12 ?z13 ?z14 ?z15 ?z16 ?g1 ?r1 ?g2 ?r2 ?g3 ?r3 ?g4 ?r4 Wb.law_holds
    (case a1 => k_is)
    (case l1 => k_is)
    (case c1 => k_is)
    (case k1 => k_is)
    (case a2 => k_is)
    (case l2 => k_is)
    (case c2 => k_is)
    (case k2 => k_is)
    (case a3 => k_is)
    (case l3 => k_is)
    (case c3 => k_is)
    (case k3 => k_is)
    (case a4 => k_is)
    (case l4 => k_is)
    (case c4 => k_is)
    (case k4 => k_is)
    (case a5 => k_is)
    (case l5 => k_is)
    (case c5 => k_is)
    (case k5 => k_is)
    (case a6 => k_is)
    (case l6 => k_is)
    (case c6 => k_is)
    (case k6 => k_is)
    (case a7 => k_is)
    (case l7 => k_is)
    (case c7 => k_is)
    (case k7 => k_is)
    (case a8 => k_is)
    (case l8 => k_is)
    (case c8 => k_is)
    (case k8 => k_is)
    (case a9 => k_is)
    (case l9 => k_is)
    (case c9 => k_is)
    (case k9 => k_is)
    (case a10 => k_is)
    (case l10 => k_is)
    (case c10 => k_is)
    (case k10 => k_is)
    (case a11 => k_is)
    (case l11 => k_is)
    (case c11 => k_is)
    (case k11 => k_is)
    (case a12 => k_is)
    (case l12 => k_is)
    (case c12 => k_is)
    (case k12 => k_is)
    (case a13 => k_is)
    (case l13 => k_is)
    (case c13 => k_is)
    (case k13 => k_is)
    (case a14 => k_is)
    (case l14 => k_is)
    (case c14 => k_is)
    (case k14 => k_is)
    (case a15 => k_is)
    (case l15 => k_is)
    (case c15 => k_is)
    (case k15 => k_is)
    (case a16 => k_is)
    (case l16 => k_is)
    (case c16 => k_is)
    (case k16 => k_is)
    (case a17 => k_is)
    (case l17 => k_is)
    (case c17 => k_is)
    (case k17 => k_is)
    (case a18 => k_is)
    (case l18 => k_is)
    (case c18 => k_is)
    (case k18 => k_is)
    (case a19 => k_is)
    (case l19 => k_is)
    (case c19 => k_is)
    (case k19 => k_is)
    (case xa1 => k_is)
    (case xo1 => k_is)
    (case xv1 => rfl)
    (case xb1 => k_is)
    (case xc1 => k_is)
    (case xd1 => k_is)
    (case xe1 => k_is)
    (case xf1 => k_is)
    (case xg1 => k_is)
    (case xh1 => k_is)
    (case xi1 => k_is)
    (case xj1 => rfl)
    (case xk1 => rfl)
    (case xl1 => k_is)
    (case xm1 => k_is)
    (case xn1 => ks_is)
    (case xp1 => k_is)
    (case xq1 => k_is)
    (case xr1_0 => k_is)
    (case xr1_1 => k_is)
    (case xs1 => k_is)
    (case xt1 => k_is)
    (case xu1 => k_is)
    (case xw1 => k_is)
    (case xx1 => k_is)
    (case xa2 => k_is)
    (case xo2 => k_is)
    (case xv2 => rfl)
    (case xb2 => k_is)
    (case xc2 => k_is)
    (case xd2 => k_is)
    (case xe2 => k_is)
    (case xf2 => k_is)
    (case xg2 => k_is)
    (case xh2 => k_is)
    (case xi2 => k_is)
    (case xj2 => rfl)
    (case xk2 => rfl)
    (case xl2 => k_is)
    (case xm2 => k_is)
    (case xn2 => ks_is)
    (case xp2 => k_is)
    (case xq2 => k_is)
    (case xr2_0 => k_is)
    (case xr2_1 => k_is)
    (case xs2 => k_is)
    (case xt2 => k_is)
    (case xu2 => k_is)
    (case xw2 => k_is)
    (case xx2 => k_is)
    (case xa3 => k_is)
    (case xo3 => k_is)
    (case xv3 => rfl)
    (case xb3 => k_is)
    (case xc3 => k_is)
    (case xd3 => k_is)
    (case xe3 => k_is)
    (case xf3 => k_is)
    (case xg3 => k_is)
    (case xh3 => k_is)
    (case xi3 => k_is)
    (case xj3 => rfl)
    (case xk3 => rfl)
    (case xl3 => k_is)
    (case xm3 => k_is)
    (case xn3 => ks_is)
    (case xp3 => k_is)
    (case xq3 => k_is)
    (case xr3_0 => k_is)
    (case xr3_1 => k_is)
    (case xs3 => k_is)
    (case xt3 => k_is)
    (case xu3 => k_is)
    (case xw3 => k_is)
    (case xx3 => k_is)
    (case ya => k_is)
    (case yb => k_is)
    (case yc => rfl)
    (case yd => k_is)
    (case ye => k_is)
    (case yg1_1 => kernel_rfl)
    (case yh1_1 => kernel_rfl)
    (case yg1_2 => kernel_rfl)
    (case yh1_2 => kernel_rfl)
    (case yg1_3 => kernel_rfl)
    (case yh1_3 => kernel_rfl)
    (case yg2_1 => kernel_rfl)
    (case yh2_1 => kernel_rfl)
    (case yg2_2 => kernel_rfl)
    (case yh2_2 => kernel_rfl)
    (case yg2_3 => kernel_rfl)
    (case yh2_3 => kernel_rfl)
    (case yg3_1 => kernel_rfl)
    (case yh3_1 => kernel_rfl)
    (case yg3_2 => kernel_rfl)
    (case yh3_2 => kernel_rfl)
    (case yg3_3 => kernel_rfl)
    (case yh3_3 => kernel_rfl)
    (case yf4 => k_is)
    (case yg4_1 => kernel_rfl)
    (case yh4_1 => kernel_rfl)
    (case yg4_2 => kernel_rfl)
    (case yh4_2 => kernel_rfl)
    (case yg4_3 => kernel_rfl)
    (case yh4_3 => kernel_rfl)
    (case yi1_1 => k_is)
    (case yi1_2 => k_is)
    (case yi1_3 => k_is)
    (case yi2_1 => k_is)
    (case yi2_2 => k_is)
    (case yi2_3 => k_is)
    (case z1 => k_is)
    (case z2 => k_is)
    (case z3 => k_is)
    (case z4 => k_is)
    (case z5 => k_is)
    (case z6 => k_is)
    (case z7 => k_is)
    (case z8 => k_is)
    (case z9 => k_is)
    (case z10 => k_is)
    (case z11 => k_is)
    (case z12 => k_is)
    (case z13 => k_is)
    (case z14 => k_is)
    (case z15 => k_is)
    (case z16 => k_is)
    (case g1 => k_is)
    (case r1 => exact fun T _ => ⟨.int _, ⟨_, rfl⟩, fun _ _ => Wb.repX_int⟩)
    (case g2 => k_is)
    (case r2 => exact fun T _ => ⟨.int _, ⟨_, rfl⟩, fun _ _ => Wb.repX_int⟩)
    (case g3 => k_is)
    (case r3 => exact fun T _ => ⟨.int _, ⟨_, rfl⟩, fun _ _ => Wb.repX_int⟩)
    (case g4 => k_is)
    (case r4 => exact fun T _ => ⟨.int _, ⟨_, rfl⟩, fun _ _ => Wb.repX_int⟩)
