import PyProof.Rows.All
import Wide.All
import OpenK.AllK
import Wide.FinOn
import KE.KStateDown
import HandS.ForMost
import HandS.More
import HandS.WordsExc
import HandS.Defaults
import HandS.Evl
import HandS.Flow
import HandS.IsInst
import HandS.Strs
import HandS.HeadHook1
import HandS.Lambda
import HandS.ExcInit
import KE.KExcSuper
import HandS.HeadHook4
import HandS.ExcValue
import HandS.ExcIs
import HandS.ExcBuiltin
import KE.KExcIs
import HandS.Head0
import HandS.Head1
import HandS.Head2
import HandS.HeadEnd
import HandS.HeadWalk
import HandS.HeadHook2
import HandS.HeadHook3
import PySem.Challenge.RW_seatroads_k87_errors_made
import HandS.TupAny
import HandS.Deep
import KE.GoesEnum
import HandS.NoneIn
import HandS.Style
import HandS.Sort
import HandS.DictComp
import HandS.ExcField
import HandS.SortRule
import HandS.Conv
import KE.KDictKeyed
import HandS.Zip
set_option Elab.async false
set_option linter.all false
set_option maxRecDepth 100000
set_option maxHeartbeats 2000000
/-! own exceptions whose __init__ says super().__init__(x); self.f = x -/
namespace EXS
open PySem PySem.W PySem.Calls PySem.Spec PyProof.Rows
/-- what is asked of the scope of such an __init__ -/
structure ScOk (sc : Scope) (x : Str) : Prop where
  sup : sc.names.lookup ("super" : Str) = some .globalImplicit
  cls : sc.names.lookup ("__class__" : Str) = some .free
  slf : sc.names.lookup ("self" : Str) = some .local
  arg : sc.names.lookup x = some .local
  nc : ∀ y ∈ sc.names, y.2 ≠ .cell
  kind : sc.kind = .function
  co : sc.isCoroutine = false
  gen : sc.isGenerator = false
  ne : x ≠ "self"
  nd : (x == ("__debug__" : Str)) = false
abbrev supBody (x f : Str) (p0 p1 p2 p3 p4 p5 p6 p7 p8 p9 : Pos) : List Stmt :=
  [.Expr (.Call (.Attribute (.Call (.Name "super" p0) [] [] p1) "__init__" p2) [.Name x p3] [] p4) p5, .Assign [.Attribute (.Name "self" p6) f p7] (.Name x p8) p9]
/-- two parameters, self and x, are bound -/
def BindX (x : Str) : Prop := ∀ (qual : Str) (a1 a2 : Option Expr) (q1 q2 : Pos) (body : List Stmt) (scope : Scope) (kV doc pm : Value) (an : Option Addr) (cdv ct : Value) (cc : Addr) (a b : Value),
  bindArgs (ksFn "__init__" qual ⟨[], [⟨"self", a1, q1⟩, ⟨x, a2, q2⟩], none, [], [], none, []⟩ body scope .none kV doc pm an cdv ct cc) ⟨[a, b], []⟩ = pure ([("self", a), (x, b)] : List (Str × Value))
def BindA (x : Str) (ar : Args) (a b : Value) : Prop := ∀ (qual : Str) (a1 a2 : Option Expr) (q1 q2 : Pos) (body : List Stmt) (scope : Scope) (kV doc pm : Value) (an : Option Addr) (cdv ct : Value) (cc : Addr),
  bindArgs (ksFn "__init__" qual ⟨[], [⟨"self", a1, q1⟩, ⟨x, a2, q2⟩], none, [], [], none, []⟩ body scope .none kV doc pm an cdv ct cc) ar = pure ([("self", a), (x, b)] : List (Str × Value))
theorem bind_index : BindX "index" := fun _ _ _ _ _ _ _ _ _ _ _ _ _ _ _ _ => rfl
structure SupC (K : Frag) (prog : Program) (C fI : Addr) (x f : Str) : Prop where
  oex : L2.OexC K C
  init : findIn K (.ref C) "__init__" = some (some (.ref fI))
  ty : typeIn K (.ref fI) = some (.type "function")
  no : findIn K (.ref C) f = some none
  fn : ∃ (oc : Value) (od : Option Addr) (osl : Array (Option Value)) (qual : Str) (scope : Scope) (kV doc pm : Value) (an : Option Addr) (cda cc : Addr) (ct : Value) (a1 a2 : Option Expr) (q1 q2 p0 p1 p2 p3 p4 p5 p6 p7 p8 p9 : Pos),
    K.lookup fI = some ⟨oc, od, .func (ksFn "__init__" qual ⟨[], [⟨"self", a1, q1⟩, ⟨x, a2, q2⟩], none, [], [], none, []⟩ (supBody x f p0 p1 p2 p3 p4 p5 p6 p7 p8 p9) scope .none kV doc pm an (.ref cda) ct cc), osl⟩ ∧
    codeIn K (.ref cda) qual = true ∧ (∃ ccl cdd vs ccs file tf, K.lookup cda = some ⟨ccl, cdd, .fields vs, ccs⟩ ∧ vs[2]? = some (.str file tf) ∧ ((prog.main.file : Str) == file) = true) ∧
    (∃ cl cld csl, K.lookup cc = some ⟨cl, cld, .cell (some (.ref C)), csl⟩) ∧ ScOk scope x ∧ (p2.endLine == p4.line) = true
  bi : BindX x
  own : mroIn K C (.ref C) = some true
  top : (prog.main.scope.names.lookup ("super" : Str)).isSome = false
  sup : ks_superIn K C C "__init__" = some (some (.builtin "ValueError.__init__"))
  sub : subIn K (.ref C) (.type "ValueError") = some true
  st : nsIn K cStatics "thirdparty.any" = some none
section
variable {prog : Program} {w : World} {A : Around} {R : Result → Shared → Prop} {hp : Heap} {g : Array GenState} {d : Drawn} {t : Nat} {os : OsState} {K : Frag} {C fI e t0 : Addr} {x f : Str} {u : Value} {mg mb : Str → Option Value}
theorem call_sup {E : Value → Shared → Prop} {nm q : Str} {N : Addr} {bs bm : List Value} {hdct : Bool} {sn : List Str} {sub : List Value} {ab : Bool} {col : Option Bool} {dd : Option Addr} {k0 k1 k2 k3 k5 : Option Value} {v : Addr} {rest : List Value} {Q : Value → Shared → Prop}
    (hC : hp.get? C = some (excClassObj nm q C N bs bm hdct sn sub ab col dd k0 k1 k2 k3 k5 "ValueError.__new__")) (he : hp.get? e = some (HandSPX.excO C t0)) (hv : hp.get? v = some (kxs_mw "ValueError.__init__" e)) (hz : rest.length ≤ sizeLine)
    (hq : ∀ h' t1, (∀ b o, b ≠ e → hp.get? b = some o → h'.get? b = some o) → h'.get? e = some (HandSPX.excO C t1) → Q .none ⟨h', g, d, t, os⟩) : wpAny (model prog w) A (call (.ref v) rest) Q E ⟨hp, g, d, t, os⟩ := by
  refine wpAny_call (codeAny_of_tree ?_)
  show wpAny _ A.in1 (callAny (.ref v) ⟨rest, []⟩) _ _ _
  simp only [callAny]
  refine wpAny_bind (wpAny_load hv ?_)
  simp only [kxs_mw, show (Value.type "method-wrapper" == Value.type "method" || Value.type "method-wrapper" == Value.type "builtin_function_or_method" || Value.type "method-wrapper" == Value.type "method-wrapper") = true by decide, if_true]
  refine KFB.if_so (by decide) ?_
  refine wpAny_bind (check_bound_init F.excBase_ValueError.toExcCallFacts hC he rfl ?_)
  refine wpAny_bind (wpAny_pure (wpAny_pure ?_))
  refine ⟨plainId_quiet F.excBase_ValueError.init.plain _, codeAny_builtin F.excBase_ValueError.initEntry ?_⟩
  exact exc_init_tree (cls := .ref C) (t0 := t0) (dv := none) (c2 := .none) (c3 := .none) (b4 := .bool false) he hz fun h' k e' _ => hq h' _ k e'
theorem wpAt_method1 {M : Model} {c : Code} {E : Value → Shared → Prop} {s : Shared} {env : Env} {o ex : Expr} {name : Str} {apos pos : Pos} {Q : Value → Shared → Prop} (hline : (apos.endLine == pos.line) = true) (hst : starEach [ex] env = [(false, eval ex env)])
    (h : PySem.wpAt M A c (attributeBase o name env (eval o env)) (fun ov s₁ => ∀ pl, wpAny M A (getMethod ov name pl) (fun fx s₂ => wpAny M A (callWith pos fx.1 fx.2 (backTo pos (starEach [ex] env)) []) Q E s₂) E s₁) E s) :
    PySem.wpAt M A c (eval (.Call (.Attribute o name apos) [ex] [] pos) env) Q E s := by
  rw [arm_eval_Call]
  refine PySem.wpAt_bind (PySem.wpAt_mono h (fun ov s₁ h₁ => PySem.wpAt_of_wpAny (wpAny_bind (wpAny_standAt ?_))) fun _ _ e => e)
  have hform : methodCallForm ([ex].length + ([] : List Keyword).length) (backTo pos (starEach [ex] env)) (backToKw pos (keywordEach [] env)) = true := by rw [hst]; rfl
  have hpos : methodCallPos true o env apos pos = pure pos := by unfold methodCallPos; simp [hline]
  unfold methodCall
  rw [hform]
  refine wpAny_bind (wpAny_holding (wpAny_mono (h₁ _) (fun fx s₂ h₂ => ?_) fun _ _ e => e))
  exact wpAny_bind (wpAny_of_eq hpos h₂)
theorem init_supA {ar : Args} (hbi : BindA x ar (.ref e) u) (S : SupC K prog C fI x f) (X : K.In hp) (lim : hp.NoLimit) (hg : hp.Ns mainGlobals mg) (hb : hp.Ns builtinsNs mb) (hbo : mb "super" = bootBuiltins "super") (hsu : mg "super" = none) (hroom : A.depth < recursionLimit)
    (he : hp.get? e = some (HandSPX.excO C t0)) (hKe : K.lookup e = none)
    (hq : ∀ h' tk' dx t1, (∀ b o, b ≠ e → hp.get? b = some o → h'.get? b = some o) → hp.objs.size ≤ dx → dx ≠ e → h'.get? e = some ({ cls := .ref C, dict := some dx, data := .fields #[.ref t1, .none, .none, .none, .bool false, .none] } : Obj) →
      h'.Ns1 dx (fun y => if y = f then some u else none) → R (.ok (.ret .none)) ⟨h', g, d, tk', os⟩) :
    codeAny (model prog w) A (.call (.ref fI) ar) R ⟨hp, g, d, t, os⟩ := by
  obtain ⟨oc, od, osl, qual, scope, kV, doc, pm, an, cda, cc, ct, a1, a2, q1, q2, p0, p1, p2, p3, p4, p5, p6, p7, p8, p9, lk, hcd, ⟨ccl, cdd, vs, ccs, file, tf, hcode, hvs, hfile⟩, ⟨cl, cld, csl, hcell⟩, sc, hline⟩ := S.fn
  obtain ⟨nm, q, N, bs, bm, sn, sub, ab, col, dd, k0, k1, k2, k3, k5, hC, hbm⟩ := S.oex.cls
  have hcl : clsIn K C = some { name := nm, bases := bs, mro := .ref C :: bm, ns := N, qualname := q, hasDict := true, slotNames := sn, subclasses := sub, abstract := ab, collection := col, hasDel := false } := by unfold clsIn; rw [hC] <;> rfl
  refine ks_codeAny_call_defAt (fd := ksFn "__init__" qual ⟨[], [⟨"self", a1, q1⟩, ⟨x, a2, q2⟩], none, [], [], none, []⟩ (supBody x f p0 p1 p2 p3 p4 p5 p6 p7 p8 p9) scope .none kV doc pm an (.ref cda) ct cc) (body := supBody x f p0 p1 p2 p3 p4 p5 p6 p7 p8 p9) (binds := [("self", .ref e), (x, u)])
    hroom (X _ _ lk) rfl lim (codeRec_of X hcd) rfl (.of_eq (hbi _ _ _ _ _ _ _ _ _ _ _ _ _ _)) sc.nc (fun y hy => ?_) (fun h1 hns hk1 => ?_) sc.co sc.gen sc.kind
  · simp only [List.mem_cons, List.not_mem_nil, or_false] at hy
    rcases hy with rfl | rfl
    · exact sc.slf
    · exact sc.arg
  have X1 : K.In h1 := X.keeps hk1
  have vself : ([("self", Value.ref e), (x, u)] : List (Str × Value)).reverse.lookup ("self" : Str) = some (Value.ref e) := by
    show List.lookup ("self" : Str) [(x, u), ("self", .ref e)] = _
    rw [List.lookup_cons, show (("self" : Str) == x) = false by simpa using Ne.symm sc.ne]
    rfl
  have varg : ([("self", Value.ref e), (x, u)] : List (Str × Value)).reverse.lookup x = some u := by
    show List.lookup x [(x, u), ("self", .ref e)] = _
    rw [List.lookup_cons, beq_self_eq_true]
  have he1 := hk1 _ _ he
  obtain ⟨oD, hD1, hD2⟩ : ∃ oD, h1.get? C = some oD ∧ ∃ cd, oD.data = .cls cd := ⟨_, X1 _ _ hC, _, rfl⟩
  obtain ⟨cdD, hD2⟩ := hD2
  refine ks_wpAt_execs_cons (ks_wpAt_Expr_any (wpAt_method1 hline rfl ?_) (by show ((scope.kind == .module) && _) = false; rw [sc.kind]; rfl))
  refine ks_wpAt_super_base (fd := ksFn "__init__" qual ⟨[], [⟨"self", a1, q1⟩, ⟨x, a2, q2⟩], none, [], [], none, []⟩ (supBody x f p0 p1 p2 p3 p4 p5 p6 p7 p8 p9) scope .none kV doc pm an (.ref cda) ct cc) sc.sup sc.cls (by decide +kernel) rfl (X1 _ _ lk) rfl rfl rfl (X1 _ _ hcode) rfl hvs hfile S.top ?_
  refine ks_loadName_global sc.kind sc.sup (loadGlobal_builtin (hg.keeps hk1) hsu (hb.keeps hk1) (hbo.trans (by rfl)) ⟨rfl, ?_⟩)
  refine wpAny_loadName_free sc.kind sc.cls rfl ⟨_, X1 _ _ hcell, rfl⟩ ?_
  refine wpAny_loadName_local sc.kind sc.slf hns vself ?_
  refine ks_wpAny_isType_cls hD1 hD2 ⟨rfl, ?_⟩
  refine ks_wpAny_call_super hD1 hD2 he1 rfl (fun c z => by cases z) (looks_mroIn X1 S.own) (fun h2 hso k2 pl => ?_)
  have X2 : K.In h2 := X1.keeps k2
  have he2 := k2 _ _ he1
  have I2 : InstAt h2 e (HandSPX.excO C t0) C none := ⟨he2, rfl, rfl, trivial⟩
  have hsup : alongIn K "__init__" (((Value.ref C :: bm).dropWhile (· != .ref C)).drop 1) = some (some (.builtin "ValueError.__init__")) := by
    have z := S.sup
    unfold ks_superIn at z
    rw [hcl] at z
    exact z
  refine kxs_getMethod kxs_ValueError hso (looks_opaque X2 S.st) (l₀ := .ref C :: bm) (fun A Q E s k q => wpAny_bind ((looks_clsIn X2 hcl) A _ E s k (wpAny_pure q))) rfl X2 hsup (I2.type.andThen (looks_subIn X2 S.sub)) (ks_ne X2 I2 hcl) (by decide +kernel) ?_
  have kp : ∀ b o, h2.get? b = some o → (h2.push (kxs_mw "ValueError.__init__" e)).get? b = some o := fun b o z => Heap.get?_push_of_some _ z
  have k3 : ∀ b o, h1.get? b = some o → (h2.push (kxs_mw "ValueError.__init__" e)).get? b = some o := fun b o z => kp _ _ (k2 _ _ z)
  refine kxs_callWith (i := "ValueError.__init__") (x := e) rfl (evalArgs_plain (spliced_cons (wpAny_Name (wpAny_loadName_local sc.kind sc.arg (hns.keeps k3) varg (spliced_nil ?_)) sc.nd)))
  refine ⟨Heap.get?_push_size _ rfl, ?_⟩
  refine call_sup (X1.keeps k3 _ _ hC) (k3 _ _ he1) (Heap.get?_push_size _ rfl) (by show 1 ≤ sizeLine; decide) fun h4 t1 k4 he4 => ?_
  have ne1 : hp.objs.size ≠ e := fun z => by
    have y := Heap.lt_size he
    rw [z] at y
    exact absurd y (Nat.lt_irrefl _)
  have k5 : ∀ b o, b ≠ e → h1.get? b = some o → h4.get? b = some o := fun b o hb z => k4 b o hb (k3 b o z)
  have hns4 : h4.Ns hp.objs.size (fun y => ([("self", Value.ref e), (x, u)] : List (Str × Value)).reverse.lookup y) := by
    obtain ⟨oL, es, ep, hL, r⟩ := hns
    exact ⟨oL, es, ep, k5 _ _ ne1 hL, r⟩
  have X4 : K.In h4 := fun b o z => k5 b o (fun y => by rw [y, hKe] at z; cases z) (X1 _ _ z)
  refine ks_wpAt_execs_cons (ks_wpAt_Assign_Attr (PySem.wpAt_of_wpAny (wpAny_Name (wpAny_loadName_local sc.kind sc.arg hns4 varg ?_) sc.nd)))
  refine wpAny_Name (wpAny_loadName_local sc.kind sc.slf hns4 vself ?_) (by decide +kernel)
  refine set_plain X4 (ox := HandSPX.excO C t1) (od := none) ⟨he4, rfl, rfl, trivial⟩ S.oex.sa ?_
  refine HandSPX.exc_osa X4 he4 hcl (show HandSPX.refsVE (.ref C :: bm) = true from hbm) rfl S.no (fun h' tk' dx k dn dne hx hn => ?_)
  refine PySem.wpAt_of_wpAny (wpAny_pure ?_)
  refine hq h' tk' dx t1 (fun b o hb z => k b o hb (k5 b o hb (hk1 b o z))) ?_ dne hx hn
  obtain ⟨oL, es, ep, hL, r⟩ := hns4
  exact Nat.le_trans (Nat.le_of_lt (Heap.lt_size hL)) dn
theorem init_sup (S : SupC K prog C fI x f) (X : K.In hp) (lim : hp.NoLimit) (hg : hp.Ns mainGlobals mg) (hb : hp.Ns builtinsNs mb) (hbo : mb "super" = bootBuiltins "super") (hsu : mg "super" = none) (hroom : A.depth < recursionLimit)
    (he : hp.get? e = some (HandSPX.excO C t0)) (hKe : K.lookup e = none)
    (hq : ∀ h' tk' dx t1, (∀ b o, b ≠ e → hp.get? b = some o → h'.get? b = some o) → hp.objs.size ≤ dx → dx ≠ e → h'.get? e = some ({ cls := .ref C, dict := some dx, data := .fields #[.ref t1, .none, .none, .none, .bool false, .none] } : Obj) →
      h'.Ns1 dx (fun y => if y = f then some u else none) → R (.ok (.ret .none)) ⟨h', g, d, tk', os⟩) :
    codeAny (model prog w) A (.call (.ref fI) ⟨[.ref e, u], []⟩) R ⟨hp, g, d, t, os⟩ := init_supA (fun _ _ _ _ _ _ _ _ _ _ _ _ _ _ => S.bi _ _ _ _ _ _ _ _ _ _ _ _ _ _ _ _) S X lim hg hb hbo hsu hroom he hKe hq
end
end EXS
namespace L2
open PySem PySem.W PySem.Calls PySem.Spec PyProof.Rows
/-- C(e), C such a class: an exception whose dict holds f -/
def tMkS (C : Addr) (f : Str) (te : TE) : St → Hp → XK → Prop := fun σ H Q => te σ H fun v H1 => ∀ d, H1 d = none → Q (.ref C) (some d) (upd H1 d (.xd [(f, v)]))
theorem pmk_sup {X : Cx} {n : Str} {e : Expr} {te : TE} {p pos : Pos} {C fI : Addr} {x f : Str} {k : Nat} (S : EXS.SupC X.K X.prog C fI x f) (hr : Room (k + 1) X.A) (hg : Gl X n) (hm : X.mg n = some (.ref C)) (hsu : X.mg "super" = none) (he : PE X e te)
    (hdb : (n == ("__debug__" : Str)) = false := by decide) (hst : starEach [e] X.env = (false, eval e X.env) :: starEach [] X.env := by rfl) : PMk X (.Call (.Name n p) [e] [] pos) (tMkS C f te) := by
  intro pins s σ H Q I h
  obtain ⟨nm, q, N, bs, bm, sn, sub, ab, col, dd, k0, k1, k2, k3, k5, hC, hbm⟩ := S.oex.cls
  refine wpAny_Call_Name_kw (ld_glob I hg hm ?_ hdb)
  refine callWith_K (h₀ := X.base) I.ok.mod.kin S.oex.kC (thn ((pa_cons he pa_nil hst).run pos pins s σ H (fun vs H1 => match vs with
    | [v] => ∀ d, H1 d = none → Q (.ref C) (some d) (upd H1 d (.xd [(f, v)]))
    | _ => False) I h) fun us s1 ⟨vs, H1, I1, r1, q1⟩ => ⟨I1.kIn, ?_⟩) hst rfl
  cases vs with
  | nil => exact q1.elim
  | cons v vs =>
    cases vs with
    | cons _ _ => exact q1.elim
    | nil =>
      obtain ⟨u, rfl, ru⟩ := r1.one
      show wpAny _ _ (call (.ref C) [u]) _ _ _
      obtain ⟨mb, hb1, hb2⟩ := I1.ok.mod.blt
      have bk := I1.bk
      obtain ⟨hp, g, dr, tk, os⟩ := s1
      have kk : ∀ b o, hp.get? b = some o → ((hp.push (kdv_tup [u])).push (HandSPX.excO C hp.objs.size)).get? b = some o := fun b o e => Heap.get?_push_of_some _ (Heap.get?_push_of_some _ e)
      have hget : ((hp.push (kdv_tup [u])).push (HandSPX.excO C hp.objs.size)).get? (hp.objs.size + 1) = some (HandSPX.excO C hp.objs.size) := by heap_get
      have nK : X.K.lookup (hp.objs.size + 1) = none := by
        cases z : X.K.lookup (hp.objs.size + 1) with
        | none => rfl
        | some o => exact absurd (show hp.objs.size + 1 < hp.objs.size from Heap.lt_size (I1.kIn _ _ z)) (Nat.not_lt_of_le (Nat.le_succ _))
      have nge : hp.get? (hp.objs.size + 1) = none := by
        cases z : hp.get? (hp.objs.size + 1) with
        | none => rfl
        | some o => exact absurd (show hp.objs.size + 1 < hp.objs.size from Heap.lt_size z) (Nat.not_lt_of_le (Nat.le_succ _))
      refine wpAny_call (HandSPX.call_own F.excBase_ValueError (fun Y => HandSPX.refsVE_contains Y bm hbm) (I1.kIn _ _ hC) (looks_findIn I1.kIn S.init) (fun self => bind_fn I1.kIn self S.ty) (by show 1 ≤ sizeLine; decide) ?_)
      refine EXS.init_sup S (I1.kIn.keeps kk) ((I1.ok.mod.nolimit.keeps bk).keeps kk) ((I1.ok.mod.glob.keeps bk).keeps kk) ((hb1.keeps bk).keeps kk) (hb2 _ (by decide)) hsu ?_ hget nK fun h' tk' dx t1 k dn dne hx hn => ?_
      · exact (hr.make C [u] []).depth
      · refine ⟨rfl, ?_⟩
        obtain ⟨G, g1, g2⟩ := restrict h' fun b => decide (b ≠ hp.objs.size + 1)
        have gk : ∀ b, b ≠ hp.objs.size + 1 → G.get? b = h'.get? b := fun b hb => g1 b (decide_eq_true hb)
        have ge : G.get? (hp.objs.size + 1) = none := g2 _ (by simp)
        have hsz : ((hp.push (kdv_tup [u])).push (HandSPX.excO C hp.objs.size)).objs.size = hp.objs.size + 2 := by rw [Heap.size_push, Heap.size_push]
        have dn2 : hp.objs.size ≤ dx := by
          have z : ((hp.push (kdv_tup [u])).push (HandSPX.excO C hp.objs.size)).objs.size ≤ dx := dn
          rw [hsz] at z
          omega
        have J : Inv X pins σ (upd H1 dx (.xd [(f, v)])) ⟨G, g, dr, tk', os⟩ := I1.laid (t' := tk') (a := dx) (o := .xd [(f, v)]) (h' := G) (fun b o z => by
            have hb : b ≠ hp.objs.size + 1 := fun y => by rw [y, nge] at z; cases z
            rw [gk b hb]
            exact k b o hb (kk b o z)) dn2 ⟨_, hn.at fun o z => (gk dx dne).trans z, relO_put (fs := []) ru fun _ => trivial⟩
        refine ⟨hp.objs.size + 1, _, _, ⟨G, g, dr, tk', os⟩, _, .ref C, some dx, rfl, J, fun b o z => ?_, ge, hx, ⟨rfl, rfl⟩, rfl, rfl, ?_, rfl, I1.bare, raises_own S.oex.exC S.oex.tyC, q1 dx (I1.hok.fresh dn2)⟩
        · by_cases hb : b = hp.objs.size + 1
          · rw [hb, ge] at z; cases z
          · exact (gk b hb).symm.trans z
        · rw [upd_ne (Ne.symm dne)]
          exact I1.hok.fresh (Nat.le_succ _)
end L2

set_option Elab.async false
set_option linter.all false
set_option maxRecDepth 100000
set_option maxHeartbeats 2000000
namespace EXS
open PySem PySem.W PySem.Calls PySem.Spec PyProof.Rows
theorem and2 {a b : Bool} (h : (a && b) = true) : a = true ∧ b = true := by simpa using h
def scB (sc : Scope) (x : Str) : Bool := decide (sc.names.lookup ("super" : Str) = some .globalImplicit) && (decide (sc.names.lookup ("__class__" : Str) = some .free) && (decide (sc.names.lookup ("self" : Str) = some .local) && (decide (sc.names.lookup x = some .local) &&
  (sc.names.all (fun y => decide (y.2 ≠ .cell)) && (decide (sc.kind = .function) && (decide (sc.isCoroutine = false) && (decide (sc.isGenerator = false) && (decide (x ≠ "self") && decide ((x == ("__debug__" : Str)) = false)))))))))
theorem scB_ok {sc : Scope} {x : Str} (h : scB sc x = true) : ScOk sc x := by
  unfold scB at h
  obtain ⟨h1, h⟩ := and2 h
  obtain ⟨h2, h⟩ := and2 h
  obtain ⟨h3, h⟩ := and2 h
  obtain ⟨h4, h⟩ := and2 h
  obtain ⟨h5, h⟩ := and2 h
  obtain ⟨h6, h⟩ := and2 h
  obtain ⟨h7, h⟩ := and2 h
  obtain ⟨h8, h⟩ := and2 h
  obtain ⟨h9, h10⟩ := and2 h
  exact ⟨of_decide_eq_true h1, of_decide_eq_true h2, of_decide_eq_true h3, of_decide_eq_true h4, fun y hy => of_decide_eq_true (List.all_eq_true.mp h5 y hy), of_decide_eq_true h6, of_decide_eq_true h7, of_decide_eq_true h8, of_decide_eq_true h9, of_decide_eq_true h10⟩
def bodyB (x f : Str) : List Stmt → Bool
  | [.Expr (.Call (.Attribute (.Call (.Name s _) [] [] _) i p2) [.Name y _] [] p4) _, .Assign [.Attribute (.Name sf _) g _] (.Name z _) _] =>
    decide (s = "super") && (decide (i = "__init__") && (decide (y = x) && (decide (sf = "self") && (decide (g = f) && (decide (z = x) && (p2.endLine == p4.line))))))
  | _ => false
theorem bodyB_ok {x f : Str} {b : List Stmt} (h : bodyB x f b = true) : ∃ p0 p1 p2 p3 p4 p5 p6 p7 p8 p9, b = supBody x f p0 p1 p2 p3 p4 p5 p6 p7 p8 p9 ∧ (p2.endLine == p4.line) = true := by
  unfold bodyB at h
  split at h
  · obtain ⟨h1, h⟩ := and2 h
    obtain ⟨h2, h⟩ := and2 h
    obtain ⟨h3, h⟩ := and2 h
    obtain ⟨h4, h⟩ := and2 h
    obtain ⟨h5, h⟩ := and2 h
    obtain ⟨h6, h7⟩ := and2 h
    have h1 := of_decide_eq_true h1
    have h2 := of_decide_eq_true h2
    have h3 := of_decide_eq_true h3
    have h4 := of_decide_eq_true h4
    have h5 := of_decide_eq_true h5
    have h6 := of_decide_eq_true h6
    subst h1 h2 h3 h4 h5 h6
    exact ⟨_, _, _, _, _, _, _, _, _, _, rfl, h7⟩
  · cases h
def parB (x : Str) : Arguments → Bool
  | ⟨[], [⟨a, _, _⟩, ⟨b, _, _⟩], none, [], [], none, []⟩ => decide (a = "self") && decide (b = x)
  | _ => false
theorem parB_ok {x : Str} {p : Arguments} (h : parB x p = true) : ∃ a1 a2 q1 q2, p = ⟨[], [⟨"self", a1, q1⟩, ⟨x, a2, q2⟩], none, [], [], none, []⟩ := by
  unfold parB at h
  split at h
  · obtain ⟨h1, h2⟩ := and2 h
    have h1 := of_decide_eq_true h1
    have h2 := of_decide_eq_true h2
    subst h1 h2
    exact ⟨_, _, _, _, rfl⟩
  · cases h
def fileB (K : Frag) (file : Str) (c : Addr) : Bool := match K.lookup c with
  | some ⟨_, _, .fields vs, _⟩ => (match (vs[2]? : Option Value) with | some (.str n _) => decide (n = file) | _ => false)
  | _ => false
theorem fileB_ok {K : Frag} {file : Str} {c : Addr} (h : fileB K file c = true) : ∃ ccl cdd vs ccs tf, K.lookup c = some ⟨ccl, cdd, .fields vs, ccs⟩ ∧ vs[2]? = some (.str file tf) := by
  unfold fileB at h
  split at h
  · rename_i a b vs d e
    split at h
    · rename_i n t e2
      have := of_decide_eq_true h
      subst this
      exact ⟨_, _, _, _, _, e, e2⟩
    · cases h
  · cases h
def cellB (K : Frag) (C c : Addr) : Bool := match K.lookup c with
  | some ⟨_, _, .cell (some (.ref D)), _⟩ => decide (D = C)
  | _ => false
theorem cellB_ok {K : Frag} {C c : Addr} (h : cellB K C c = true) : ∃ cl cld csl, K.lookup c = some ⟨cl, cld, .cell (some (.ref C)), csl⟩ := by
  unfold cellB at h
  split at h
  · rename_i a b D d e
    have := of_decide_eq_true h
    subst this
    exact ⟨_, _, _, e⟩
  · cases h
def noneB : Value → Bool
  | .none => true
  | _ => false
def fnB (K : Frag) (file : Str) (C fI : Addr) (x f : Str) : Bool := match K.lookup fI with
  | some ⟨_, _, .func ⟨name, qual, params, .stmts body, scope, gl, [(n, cc)], dV, _, _, _, _, .ref cda, _, bl⟩, _⟩ =>
    decide (name = "__init__") && (decide (n = "__class__") && (decide (gl = mainGlobals) && (decide (bl = builtinsNs) && (noneB dV && (parB x params && (bodyB x f body && (scB scope x && (codeIn K (.ref cda) qual && (fileB K file cda && cellB K C cc)))))))))
  | _ => false
theorem fnB_ok {K : Frag} {prog : Program} {C fI : Addr} {x f : Str} (h : fnB K prog.main.file C fI x f = true) : ∃ (oc : Value) (od : Option Addr) (osl : Array (Option Value)) (qual : Str) (scope : Scope) (kV doc pm : Value) (an : Option Addr) (cda cc : Addr) (ct : Value) (a1 a2 : Option Expr) (q1 q2 p0 p1 p2 p3 p4 p5 p6 p7 p8 p9 : Pos),
    K.lookup fI = some ⟨oc, od, .func (ksFn "__init__" qual ⟨[], [⟨"self", a1, q1⟩, ⟨x, a2, q2⟩], none, [], [], none, []⟩ (supBody x f p0 p1 p2 p3 p4 p5 p6 p7 p8 p9) scope .none kV doc pm an (.ref cda) ct cc), osl⟩ ∧
    codeIn K (.ref cda) qual = true ∧ (∃ ccl cdd vs ccs file tf, K.lookup cda = some ⟨ccl, cdd, .fields vs, ccs⟩ ∧ vs[2]? = some (.str file tf) ∧ ((prog.main.file : Str) == file) = true) ∧
    (∃ cl cld csl, K.lookup cc = some ⟨cl, cld, .cell (some (.ref C)), csl⟩) ∧ ScOk scope x ∧ (p2.endLine == p4.line) = true := by
  unfold fnB at h
  split at h
  · rename_i oc od name qual params body scope gl n cc dV kV doc pm an cda ct bl osl e
    obtain ⟨h1, h⟩ := and2 h
    obtain ⟨h2, h⟩ := and2 h
    obtain ⟨h3, h⟩ := and2 h
    obtain ⟨h4, h⟩ := and2 h
    obtain ⟨h5, h⟩ := and2 h
    obtain ⟨h6, h⟩ := and2 h
    obtain ⟨h7, h⟩ := and2 h
    obtain ⟨h8, h⟩ := and2 h
    obtain ⟨h9, h⟩ := and2 h
    obtain ⟨h10, h11⟩ := and2 h
    have h1 := of_decide_eq_true h1
    have h2 := of_decide_eq_true h2
    have h3 := of_decide_eq_true h3
    have h4 := of_decide_eq_true h4
    have h5 : dV = .none := by
      cases dV <;> first | rfl | cases h5
    obtain ⟨a1, a2, q1, q2, h6⟩ := parB_ok h6
    obtain ⟨p0, p1, p2, p3, p4, p5, p6, p7, p8, p9, h7, hl⟩ := bodyB_ok h7
    obtain ⟨ccl, cdd, vs, ccs, tf, hf1, hf2⟩ := fileB_ok h10
    subst h1 h2 h3 h4 h5 h6 h7
    exact ⟨oc, od, osl, qual, scope, kV, doc, pm, an, cda, cc, ct, a1, a2, q1, q2, p0, p1, p2, p3, p4, p5, p6, p7, p8, p9, e, h9, ⟨ccl, cdd, vs, ccs, _, tf, hf1, hf2, beq_self_eq_true _⟩, cellB_ok h11, scB_ok h8, hl⟩
  · cases h
def clsB (K : Frag) (C : Addr) : Bool := match K.lookup C with
  | some ⟨.type c, _, .cls ⟨_, _, .ref C' :: bm, _, _, hd, _, _, _, _, dl⟩, ⟨[_, _, _, _, some (.builtin n), _]⟩⟩ => decide (c = "type") && (decide (C' = C) && (HandSPX.refsVE bm && (hd && (!dl && decide (n = "ValueError.__new__")))))
  | _ => false
theorem clsB_ok {K : Frag} {C : Addr} (h : clsB K C = true) : ∃ nm q N bs bm sn sub ab col dd k0 k1 k2 k3 k5, K.lookup C = some (excClassObj nm q C N bs bm true sn sub ab col dd k0 k1 k2 k3 k5 "ValueError.__new__") ∧ HandSPX.refsVE bm = true := by
  unfold clsB at h
  split at h
  · rename_i c dd nm bs C' bm ns qn hd sn sb ab col dl k0 k1 k2 k3 n k5 e
    obtain ⟨h1, h⟩ := and2 h
    obtain ⟨h2, h⟩ := and2 h
    obtain ⟨h3, h⟩ := and2 h
    obtain ⟨h4, h⟩ := and2 h
    obtain ⟨h5, h6⟩ := and2 h
    have h1 := of_decide_eq_true h1
    have h2 := of_decide_eq_true h2
    have h6 := of_decide_eq_true h6
    have h5 : dl = false := by simpa using h5
    subst h1 h2 h4 h5 h6
    exact ⟨_, _, _, _, _, _, _, _, _, _, _, _, _, _, _, e, h3⟩
  · cases h
def supB (K : Frag) (prog : Program) (n x f : Str) : Bool :=
  let C := He.ga K n
  let fI := He.ma K C "__init__"
  clsB K C && (He.eqO (findIn K (.ref C) "__setattr__") (some (some (.builtin "object.__setattr__"))) && (decide (subIn K (.ref C) (.type "BaseException") = some true) && (decide (typeIn K (.ref C) = some (.type "type")) && (keepIn K (.ref C) &&
  (He.eqO (findIn K (.ref C) "__init__") (some (some (.ref fI))) && (decide (typeIn K (.ref fI) = some (.type "function")) && (He.eqO (findIn K (.ref C) f) (some none) && (fnB K prog.main.file C fI x f && (decide (mroIn K C (.ref C) = some true) &&
  (decide ((prog.main.scope.names.lookup ("super" : Str)).isSome = false) && (He.eqO (ks_superIn K C C "__init__") (some (some (.builtin "ValueError.__init__"))) && (decide (subIn K (.ref C) (.type "ValueError") = some true) && He.eqO (nsIn K cStatics "thirdparty.any") (some none)))))))))))))
theorem supB_ok {K : Frag} {prog : Program} {n x f : Str} (hb : BindX x) (h : supB K prog n x f = true) : SupC K prog (He.ga K n) (He.ma K (He.ga K n) "__init__") x f := by
  unfold supB at h
  obtain ⟨h1, h⟩ := and2 h
  obtain ⟨h2, h⟩ := and2 h
  obtain ⟨h3, h⟩ := and2 h
  obtain ⟨h4, h⟩ := and2 h
  obtain ⟨h5, h⟩ := and2 h
  obtain ⟨h6, h⟩ := and2 h
  obtain ⟨h7, h⟩ := and2 h
  obtain ⟨h8, h⟩ := and2 h
  obtain ⟨h9, h⟩ := and2 h
  obtain ⟨h10, h⟩ := and2 h
  obtain ⟨h11, h⟩ := and2 h
  obtain ⟨h12, h⟩ := and2 h
  obtain ⟨h13, h14⟩ := and2 h
  exact ⟨⟨clsB_ok h1, He.eqO_ok h2, of_decide_eq_true h3, of_decide_eq_true h4, h5⟩, He.eqO_ok h6, of_decide_eq_true h7, He.eqO_ok h8, fnB_ok h9, hb, of_decide_eq_true h10, of_decide_eq_true h11, He.eqO_ok h12, of_decide_eq_true h13, He.eqO_ok h14⟩
end EXS

set_option Elab.async false
set_option linter.all false
set_option maxRecDepth 100000
/-! a hook whose written part holds the C statics, too (super() asks them) -/
namespace He
open PySem PySem.Spec PyProof.Rows L2
def obsS (n : Nat) (fa : List Fa) (fn : List DefD) (ex : PySem.W.Frag → Bool) (g : Addr → Option Obj) : AlT × Bool := (obsT fa fn [] (frT g (cStatics :: asD g n)), ex (frT g (cStatics :: asD g n)))
structure SaysS (fa : List Fa) (fn : List DefD) (ex : PySem.W.Frag → Bool) (w : World) (K : PySem.W.Frag) : Prop where
  t : SaysT fa fn [] w K
  more : ex K = true
def hookS (n : Nat) (fa : List Fa) (fn : List DefD) (ex : PySem.W.Frag → Bool) : PySem.W.Hook where
  α := AlT × Bool
  obs := fun s => obsS n fa fn ex s.heap.get?
  val := fun w => (valT fn [] w, true)
  says := fun w h => ∃ K : PySem.W.Frag, K.In h ∧ SaysS fa fn ex w K
  of := fun _ _ e => ⟨_, frT_in, congrArg (fun z : AlT × Bool => z.1) e, congrArg (fun z : AlT × Bool => z.2) e⟩
  keeps := fun _ _ _ ⟨K, hK, c⟩ k => ⟨K, PySem.W.Frag.In.keeps hK k, c⟩
theorem obsS_eq {n : Nat} {fa : List Fa} {fn : List DefD} {ex : PySem.W.Frag → Bool} {g : Addr → Option Obj} {s : Shared} (h : ∀ a, g a = s.heap.get? a) : obsS n fa fn ex g = (hookS n fa fn ex).obs s := by
  have e : g = s.heap.get? := funext h
  rw [e] <;> rfl
end He

set_option Elab.async false
set_option linter.all false
set_option maxRecDepth 100000
/-! the hook with the C statics and with tables of code objects -/
namespace He
open PySem PySem.Spec PyProof.Rows L2
def fragS (g : Addr → Option Obj) (n : Nat) : PySem.W.Frag := frT g (cStatics :: asD g n)
def obsXS (n : Nat) (fa : List Fa) (fn : List DefD) (tf : List Defn) (ex : PySem.W.Frag → Bool) (g : Addr → Option Obj) : AlX := (obsT fa fn [] (fragS g n), ex (fragS g n) && tabsB g tf (fragS g n))
theorem saysXS_of {n : Nat} {fa : List Fa} {fn : List DefD} {tf : List Defn} {ex : PySem.W.Frag → Bool} {w : World} {h : Heap} (e : obsXS n fa fn tf ex h.get? = valX fn [] w) : SaysX fa fn [] tf ex w h (fragS h.get? n) := by
  obtain ⟨h1, h2⟩ := ba (show (ex (fragS h.get? n) && tabsB h.get? tf (fragS h.get? n)) = true from congrArg (fun z : AlX => z.2) e)
  have all : ∀ p ∈ tf, PySem.W.codeHdIn (fragS h.get? n) (cT (fragS h.get? n) p).1 (cT (fragS h.get? n) p).2 = true ∧ ∃ o, h.get? (cT (fragS h.get? n) p).2 = some o ∧ emptyTab o = true := fun p hp => by
    obtain ⟨h3, h4⟩ := ba (List.all_eq_true.mp h2 p hp)
    split at h4
    · rename_i o q
      exact ⟨h3, o, q, h4⟩
    · cases h4
  refine ⟨congrArg (fun z : AlX => z.1) e, h1, fun p hp => (all p hp).1, fun p hp => ?_, fun p hp => ?_⟩
  · obtain ⟨_, o, q, z⟩ := all p hp
    exact frT_none q z
  · obtain ⟨_, o, q, z⟩ := all p hp
    rw [q, emptyTab_eq z]
def hookXS (n : Nat) (fa : List Fa) (fn : List DefD) (tf : List Defn) (ex : PySem.W.Frag → Bool) : PySem.W.Hook where
  α := AlX
  obs := fun s => obsXS n fa fn tf ex s.heap.get?
  val := fun w => valX fn [] w
  says := fun w h => ∃ K : PySem.W.Frag, K.In h ∧ SaysX fa fn [] tf ex w h K
  of := fun _ _ e => ⟨_, frT_in, saysXS_of e⟩
  keeps := fun _ _ _ ⟨K, hK, c⟩ k => ⟨K, PySem.W.Frag.In.keeps hK k, ⟨c.t, c.more, c.hd, c.out, fun p hp => k _ _ (c.empty p hp)⟩⟩
theorem obsXS_eq {n : Nat} {fa : List Fa} {fn : List DefD} {tf : List Defn} {ex : PySem.W.Frag → Bool} {g : Addr → Option Obj} {s : Shared} (h : ∀ a, g a = s.heap.get? a) : obsXS n fa fn tf ex g = (hookXS n fa fn tf ex).obs s := by
  have e : g = s.heap.get? := funext h
  rw [e] <;> rfl
end He

set_option Elab.async false
set_option linter.all false
set_option maxRecDepth 100000
set_option maxHeartbeats 2000000
/-! own exceptions made as values, by place and by name -/
namespace EXK
open PySem PySem.W PySem.Calls PySem.Spec PyProof.Rows HandSPX
section
variable {M : Model} {A : Around} {E : Value → Shared → Prop} {h : Heap} {g : Array GenState} {d : Drawn} {t : Nat} {os : OsState}
variable {nm q : Str} {C N : Addr} {bs bm bmB : List Value} {hdct : Bool} {sn : List Str} {sub : List Value} {ab : Bool} {col : Option Bool} {dd : Option Addr} {k0 k1 k2 k3 k5 : Option Value} {B newId initId : String}
theorem check_new_kw (F : ExcBaseFacts B newId initId bmB) (hT : ∀ X : String, bm.contains (.type X) = bmB.contains (.type X)) {rest : List Value} {kw : List (Str × Value)} {Q : Unit → Shared → Prop}
    (hC : h.get? C = some (excClassObj nm q C N bs bm hdct sn sub ab col dd k0 k1 k2 k3 k5 newId)) (hq : Q () ⟨h, g, d, t, os⟩) : wpAny M A (checkBuiltinCall newId ⟨.ref C :: rest, kw⟩) Q E ⟨h, g, d, t, os⟩ := by
  have hcont : (Value.ref C :: bm).contains (.type B) = true := by rw [List.contains_cons, hT, F.hasB, Bool.or_true]
  have hstar := F.noStar
  simp only [checkBuiltinCall, F.newKind, F.newSplit, F.newRow]
  repeat (first | refine wpAny_loadPart_at hC ?_ | (refine wpAny_isSubtype_exc hC ?_; rw [hcont]) | refine wpAny_staticBase_exc hC ?_ | refine wpAny_madeBy_exc hC ?_ | simp only [bne_self_eq_false, Bool.false_eq_true, if_false] | wp_step)
  exact hq
theorem check_call_kw {rest : List Value} {kw : List (Str × Value)} {Q : Unit → Shared → Prop} (hC : h.get? C = some (excClassObj nm q C N bs bm hdct sn sub ab col dd k0 k1 k2 k3 k5 newId))
    (hq : Q () ⟨h, g, d, t, os⟩) : wpAny M A (checkBuiltinCall "type.__call__" ⟨.ref C :: rest, kw⟩) Q E ⟨h, g, d, t, os⟩ := by
  have f3 := tc_sub
  have hT : (⟨h, g, d, t, os⟩ : Shared).TypeIs (.ref C) "type" := ⟨_, hC, rfl⟩
  simp only [checkBuiltinCall, tc_kind, tc_split]
  repeat (any_goals (first | assumption | with_reducible refine wpAny_loadPart_at hC ?_ | with_reducible refine wpAny_onRaise ?_ | with_reducible refine wpAny_map ?_ | wp_step))
end
section
variable {prog : Program} {w : World} {A : Around} {E : Value → Shared → Prop} {R : Result → Shared → Prop} {h : Heap} {g : Array GenState} {d : Drawn} {t : Nat} {os : OsState}
variable {nm q : Str} {C N : Addr} {bs bm bmB : List Value} {hdct : Bool} {sn : List Str} {sub : List Value} {ab : Bool} {col : Option Bool} {dd : Option Addr} {k0 k1 k2 k3 k5 : Option Value} {B newId initId : String}
theorem new_kw (F : ExcBaseFacts B newId initId bmB) (hT : ∀ X : String, bm.contains (.type X) = bmB.contains (.type X)) {rest : List Value} {kw : List (Str × Value)}
    (hC : h.get? C = some (excClassObj nm q C N bs bm hdct sn sub ab col dd k0 k1 k2 k3 k5 newId))
    (hq : R (.ok (.ret (.ref (h.objs.size + 1)))) ⟨(h.push { cls := .type "tuple", data := .seq rest.toArray }).push
      { cls := .ref C, data := .fields #[.ref h.objs.size, .none, .none, .none, .bool false, .none] }, g, d, t, os⟩) (hrest : rest.length ≤ sizeLine) :
    codeAny (model prog w) A (.builtin newId ⟨.ref C :: rest, kw⟩) R ⟨h, g, d, t, os⟩ := by
  have hends := F.ends
  have hcB : (Value.ref C :: bm).contains (.type B) = true := by rw [List.contains_cons, hT, F.hasB, Bool.or_true]
  have hcA : (Value.ref C :: bm).contains (.type "AttributeError") = false := by rw [List.contains_cons, hT, F.noAttr]; rfl
  have hcN : (Value.ref C :: bm).contains (.type "NameError") = false := by rw [List.contains_cons, hT, F.noName]; rfl
  refine codeAny_builtinAt F.entry ?_
  unfold Builtin.«BaseException.__new__»
  refine PySem.wpAt_bind ?_
  show PySem.wpAt _ _ _ (stack >>= _) _ _ _
  refine PySem.wpAt_bind (PySem.wpAt_stack fun p below => PySem.wpAt_of_wpAny ?_)
  wp_walk
  refine PySem.wpAt_of_wpAny ?_
  rw [F.owner]
  repeat (first | with_reducible refine wpAny_madeHere_exc F.canon hC ?_ | with_reducible refine wpAny_loadPart_at hC ?_ | (with_reducible refine wpAny_isSubtype_exc hC ?_; first | rw [hcB] | rw [hcA] | rw [hcN]) | wp_step)
  show R _ _
  rw [Heap.size_push]
  exact hq
theorem type_call_kw (F : ExcBaseFacts B newId initId bmB) (hT : ∀ X : String, bm.contains (.type X) = bmB.contains (.type X)) {rest : List Value} {kw : List (Str × Value)} {fI : Addr} {Q : Fin → Shared → Prop}
    (hC : h.get? C = some (excClassObj nm q C N bs bm hdct sn sub ab col dd k0 k1 k2 k3 k5 newId))
    (hi : W.Looks (model prog w) h (typeLookup (.ref C) "__init__") (some (.ref fI))) (hb : ∀ self, W.Looks (model prog w) h (bindSpecial (.ref fI) self) (.ref fI, [self])) (hrest : rest.length ≤ sizeLine)
    (hq : codeAny (model prog w) A (.call (.ref fI) ⟨.ref (h.objs.size + 1) :: rest, kw⟩)
      (fun r s' => match r with | .ok (.ret v) => v = .none ∧ Q (.done (.ret (.ref (h.objs.size + 1)))) s' | .ok _ => False | .error e => E e s')
      ⟨(h.push (W.kdv_tup rest)).push (excO C h.objs.size), g, d, t, os⟩) :
    wpAny (model prog w) A (Builtin.«type.__call__» ⟨.ref C :: rest, kw⟩) Q E ⟨h, g, d, t, os⟩ := by
  repeat (first | with_reducible refine wpAny_loadPart_at hC ?_ | with_reducible refine wpAny_madeBy_exc hC ?_ | wp_step)
  refine codeAny_call_builtin_code (Code.quiet_builtin _ F.quiet) (check_new_kw F hT hC ?_)
  refine new_kw F hT hC ?_ hrest
  show wpAny _ _ _ _ _ _
  have k : ∀ b o, h.get? b = some o → ((h.push (W.kdv_tup rest)).push (excO C h.objs.size)).get? b = some o := fun b o e => Heap.get?_push_of_some _ (Heap.get?_push_of_some _ e)
  have hC₁ := k _ _ hC
  have hget : ((h.push (W.kdv_tup rest)).push (excO C h.objs.size)).get? (h.objs.size + 1) = some (excO C h.objs.size) := by heap_get
  have hcC : (Value.ref C :: bm).contains (.ref C) = true := by simp
  have i1 := hi.keeps k
  have b1 := (hb (.ref (h.objs.size + 1))).keeps k
  unfold isInstance
  repeat (first | with_reducible refine wpAny_loadPart_at hget ?_ | (with_reducible refine wpAny_isSubtype_exc hC₁ ?_; rw [hcC]) | wp_step)
  show wpAny _ _ (typeLookup (.ref C) _) _ _ _
  refine i1.at ?_
  refine wpAny_holding (wpAny_bind (b1.at ?_))
  refine wpAny_bind (wpAny_call (codeAny_mono hq fun r s' z => ?_))
  rcases r with e | (v | _ | _ | _) <;> first | exact z | exact z.elim | skip
  obtain ⟨rfl, z⟩ := z
  first
    | exact wpAny_pure (wpAny_pure z)
    | (wp_walk; exact z)
theorem call_kw (F : ExcBaseFacts B newId initId bmB) (hT : ∀ X : String, bm.contains (.type X) = bmB.contains (.type X)) {rest : List Value} {kw : List (Str × Value)} {fI : Addr}
    (hC : h.get? C = some (excClassObj nm q C N bs bm hdct sn sub ab col dd k0 k1 k2 k3 k5 newId))
    (hi : W.Looks (model prog w) h (typeLookup (.ref C) "__init__") (some (.ref fI))) (hb : ∀ self, W.Looks (model prog w) h (bindSpecial (.ref fI) self) (.ref fI, [self])) (hrest : rest.length ≤ sizeLine)
    (hq : codeAny (model prog w) (A.under (.builtin "type.__call__" ⟨.ref C :: rest, kw⟩)) (.call (.ref fI) ⟨.ref (h.objs.size + 1) :: rest, kw⟩) (W.InitBack (h.objs.size + 1) R)
      ⟨(h.push (W.kdv_tup rest)).push (excO C h.objs.size), g, d, t, os⟩) :
    codeAny (model prog w) A (.call (.ref C) ⟨rest, kw⟩) R ⟨h, g, d, t, os⟩ := by
  have f1 := tc_lookup
  have f2 := tc_bind (.ref C)
  have hTy : (⟨h, g, d, t, os⟩ : Shared).TypeIs (.ref C) "type" := ⟨_, hC, rfl⟩
  refine codeAny_of_tree ?_
  show wpAny _ _ (callAny (.ref C) _) _ _ _
  repeat (any_goals (first | assumption | with_reducible refine wpAny_loadPart_at hC ?_ | wp_step))
  refine ⟨rfl, ?_⟩
  refine codeAny_call_builtin_at (Code.quiet_builtin _ (by decide +kernel)) entry_typeCall (check_call_kw hC (type_call_kw F hT hC hi hb hrest ?_))
  refine codeAny_mono hq fun r s' z => ?_
  rcases r with e | (v | _ | _ | _) <;> exact z
end
end EXK

set_option Elab.async false
set_option linter.all false
set_option maxRecDepth 100000
set_option maxHeartbeats 2000000
namespace L2
open PySem PySem.W PySem.Calls PySem.Spec PyProof.Rows
/-- C(e) as a value: the exception, its dict -/
def MkE (C : Addr) (f : Str) (v : V) (H1 : Hp) (Q : VK) : Prop := ∀ a d, H1 a = none → H1 d = none → d ≠ a → Q (.ref a) (upd (upd H1 d (.xd [(f, v)])) a (exo a C (some d)))
section
variable {X : Cx} {pins : List (Addr × Obj)} {σ : St} {H1 : Hp} {s1 : Shared} {C fI : Addr} {x f n : Str} {k : Nat} {v : V} {u : Value} {Q : VK}
theorem run_exc {rest : List Value} {kw : List (Str × Value)} (S : EXS.SupC X.K X.prog C fI x f) (hr : Room (k + 1) X.A) (hsu : X.mg "super" = none) (I1 : Inv X pins σ H1 s1) (ru : RelV v u) (hbi : ∀ e, EXS.BindA x ⟨.ref e :: rest, kw⟩ (.ref e) u) (hl : rest.length ≤ sizeLine)
    (q1 : MkE C f v H1 Q) : wpAny (model X.prog X.w) X.A (call (.ref C) rest kw) (EP X pins σ Q) X.xe s1 := by
  obtain ⟨nm, q, N, bs, bm, sn, sub, ab, col, dd, k0, k1, k2, k3, k5, hC, hbm⟩ := S.oex.cls
  obtain ⟨mb, hb1, hb2⟩ := I1.ok.mod.blt
  have bk := I1.bk
  obtain ⟨hp, g, dr, tk, os⟩ := s1
  have kk : ∀ b o, hp.get? b = some o → ((hp.push (kdv_tup rest)).push (HandSPX.excO C hp.objs.size)).get? b = some o := fun b o e => Heap.get?_push_of_some _ (Heap.get?_push_of_some _ e)
  have hget : ((hp.push (kdv_tup rest)).push (HandSPX.excO C hp.objs.size)).get? (hp.objs.size + 1) = some (HandSPX.excO C hp.objs.size) := by heap_get
  have nK : X.K.lookup (hp.objs.size + 1) = none := by
    cases z : X.K.lookup (hp.objs.size + 1) with
    | none => rfl
    | some o => exact absurd (show hp.objs.size + 1 < hp.objs.size from Heap.lt_size (I1.kIn _ _ z)) (Nat.not_lt_of_le (Nat.le_succ _))
  have nge : hp.get? (hp.objs.size + 1) = none := by
    cases z : hp.get? (hp.objs.size + 1) with
    | none => rfl
    | some o => exact absurd (show hp.objs.size + 1 < hp.objs.size from Heap.lt_size z) (Nat.not_lt_of_le (Nat.le_succ _))
  refine wpAny_call (EXK.call_kw F.excBase_ValueError (fun Y => HandSPX.refsVE_contains Y bm hbm) (I1.kIn _ _ hC) (looks_findIn I1.kIn S.init) (fun self => bind_fn I1.kIn self S.ty) hl ?_)
  refine EXS.init_supA (hbi _) S (I1.kIn.keeps kk) ((I1.ok.mod.nolimit.keeps bk).keeps kk) ((I1.ok.mod.glob.keeps bk).keeps kk) ((hb1.keeps bk).keeps kk) (hb2 _ (by decide)) hsu ?_ hget nK fun h' tk' dx t1 k dn dne hx hn => ?_
  · exact (hr.make C rest kw).depth
  · refine ⟨rfl, ?_⟩
    obtain ⟨G, g1, g2⟩ := restrict h' fun b => decide (b ≠ hp.objs.size + 1)
    have gk : ∀ b, b ≠ hp.objs.size + 1 → G.get? b = h'.get? b := fun b hb => g1 b (decide_eq_true hb)
    have ge : G.get? (hp.objs.size + 1) = none := g2 _ (by simp)
    have hsz : ((hp.push (kdv_tup rest)).push (HandSPX.excO C hp.objs.size)).objs.size = hp.objs.size + 2 := by rw [Heap.size_push, Heap.size_push]
    have dn2 : hp.objs.size ≤ dx := by
      have z : ((hp.push (kdv_tup rest)).push (HandSPX.excO C hp.objs.size)).objs.size ≤ dx := dn
      rw [hsz] at z
      omega
    have J : Inv X pins σ (upd H1 dx (.xd [(f, v)])) ⟨G, g, dr, tk', os⟩ := I1.laid (t' := tk') (a := dx) (o := .xd [(f, v)]) (h' := G) (fun b o z => by
        have hb : b ≠ hp.objs.size + 1 := fun y => by rw [y, nge] at z; cases z
        rw [gk b hb]
        exact k b o hb (kk b o z)) dn2 ⟨_, hn.at fun o z => (gk dx dne).trans z, relO_put (fs := []) ru fun _ => trivial⟩
    have nH : H1 (hp.objs.size + 1) = none := I1.hok.fresh (Nat.le_succ _)
    have nH2 : upd H1 dx (.xd [(f, v)]) (hp.objs.size + 1) = none := by rw [upd_ne (Ne.symm dne)]; exact nH
    have J2 := J.laidN (a := hp.objs.size + 1) (o := exo (hp.objs.size + 1) C (some dx)) (h' := h') (t' := tk') (fun b o z => by
      by_cases hb : b = hp.objs.size + 1
      · rw [hb, ge] at z; cases z
      · exact (gk b hb).symm.trans z) ge nH2 (exo_ok hx)
    exact ⟨.ref (hp.objs.size + 1), _, J2, rfl, q1 (hp.objs.size + 1) dx nH (I1.hok.fresh dn2) dne⟩
def tMkE (C : Addr) (f : Str) (te : TE) : TE := fun σ H Q => te σ H fun v H1 => MkE C f v H1 Q
theorem pe_exs {e : Expr} {te : TE} {p pos : Pos} (S : EXS.SupC X.K X.prog C fI x f) (hr : Room (k + 1) X.A) (hg : Gl X n) (hm : X.mg n = some (.ref C)) (hsu : X.mg "super" = none) (he : PE X e te)
    (hdb : (n == ("__debug__" : Str)) = false := by decide) (hst : starEach [e] X.env = (false, eval e X.env) :: starEach [] X.env := by rfl) : PE X (.Call (.Name n p) [e] [] pos) (tMkE C f te) := by
  refine ⟨fun pins s σ H Q I h => ?_⟩
  refine wpAny_Call_Name_kw (ld_glob I hg hm ?_ hdb)
  refine callWith_K (h₀ := X.base) I.ok.mod.kin S.oex.kC (thn ((pa_cons he pa_nil hst).run pos pins s σ H (fun vs H1 => match vs with
    | [v] => MkE C f v H1 Q
    | _ => False) I h) fun us s1 ⟨vs, H1, I1, r1, q1⟩ => ⟨I1.kIn, ?_⟩) hst rfl
  cases vs with
  | nil => exact q1.elim
  | cons v vs =>
    cases vs with
    | cons _ _ => exact q1.elim
    | nil =>
      obtain ⟨u, rfl, ru⟩ := r1.one
      exact run_exc (rest := [u]) (kw := []) S hr hsu I1 ru (fun e _ _ _ _ _ _ _ _ _ _ _ _ _ _ => S.bi _ _ _ _ _ _ _ _ _ _ _ _ _ _ _ _) (by show 1 ≤ sizeLine; decide) q1
/-- the parameter x bound by its name -/
def BindK (x : Str) : Prop := ∀ e u, EXS.BindA x ⟨[.ref e], [(x, u)]⟩ (.ref e) u
theorem pe_exk {e : Expr} {te : TE} {p pos kpos : Pos} (S : EXS.SupC X.K X.prog C fI x f) (B : BindK x) (hr : Room (k + 1) X.A) (hg : Gl X n) (hm : X.mg n = some (.ref C)) (hsu : X.mg "super" = none) (he : PE X e te)
    (hdb : (n == ("__debug__" : Str)) = false := by decide) (hall : (backToKw pos (keywordEach [⟨some x, e, kpos⟩] X.env)).all (·.1.isSome) = true := by rfl) (hks : (backToKw pos (keywordEach [⟨some x, e, kpos⟩] X.env)).filterMap (·.1) = [x] := by rfl)
    (hpl : ((backTo pos (starEach [] X.env)).any (·.1) || (backToKw pos (keywordEach [⟨some x, e, kpos⟩] X.env)).any (·.1.isNone)) = false := by rfl) : PE X (.Call (.Name n p) [] [⟨some x, e, kpos⟩] pos) (tMkE C f te) := by
  refine ⟨fun pins s σ H Q I h => ?_⟩
  refine wpAny_Call_Name_kw (ld_glob I hg hm ?_ hdb)
  refine callWith_KW0 (h₀ := X.base) I.ok.mod.kin S.oex.kC hall (thn ((pk_cons (nm := some x) (kpos := kpos) he pk_nil).run pos pins s σ H (fun vs H1 => match vs with
    | [v] => MkE C f v H1 Q
    | _ => False) I h) fun us s1 ⟨vs, H1, I1, r1, q1⟩ => ⟨I1.kIn, ?_⟩) hpl
  cases vs with
  | nil => exact q1.elim
  | cons v vs =>
    cases vs with
    | cons _ _ => exact q1.elim
    | nil =>
      obtain ⟨u, rfl, ru⟩ := r1.one
      rw [hks]
      exact run_exc (rest := []) (kw := [(x, u)]) S hr hsu I1 ru (fun e => B e u) (by show 0 ≤ sizeLine; decide) q1
end
/-! ### reading -/
section
variable {X : Cx} {C : Addr} {n : Str}
def tXfH (C : Addr) (f : Str) (te : TE) : TE := fun σ H Q => te σ H fun x H1 => ∃ (a dd : Addr) (fs : List (Str × V)) (v : V), x = .ref a ∧ H1 a = some (exo a C (some dd)) ∧ H1 dd = some (.xd fs) ∧ fs.lookup f = some v ∧ Q v H1
theorem pe_xfH {e : Expr} {te : TE} {pos : Pos} (T : XfC X.K C) (hno : PySem.W.findIn X.K (.ref C) n = some none) (he : PE X e te) (hb : attributeBase e n X.env (eval e X.env) = eval e X.env := by rfl) :
    PE X (.Attribute e n pos) (tXfH C n te) := by
  refine ⟨fun pins s σ H Q I h => ?_⟩
  refine attr_of hb (thn (he.run pins s σ H _ I h) fun u s1 hh => ?_)
  obtain ⟨x, H1, I1, rx, a, dd, fs, v, rfl, ha, hd, l, q⟩ := hh
  obtain rfl : u = Value.ref a := rx
  obtain ⟨t1, hx⟩ := exo_at I1.hok ha
  have hX : ObjOk X.prog X.w H1 s1.heap dd (.xd fs) := I1.hok dd _ hd
  obtain ⟨mA, hns, hr⟩ := hX
  obtain ⟨od, ho, hl⟩ := lookIn_ns hns
  obtain ⟨u, hu, ru⟩ := RelO.some_of (v := v) (o := mA n) (by rw [← l]; exact hr n)
  have J : PySem.W.InstAt s1.heap a _ C (some od) := ⟨hx, rfl, rfl, ho⟩
  exact HandSPX.exc_get I1.kIn J T.ga T.gg T.exC (PySem.W.findObj_own T.hdC hno rfl (by rw [hl, hu])) (handed_of ru) ⟨v, H1, I1.tok _, ru, q⟩
/-- isinstance(x, c), x an exception -/
def rIsX (K : PySem.W.Frag) : List V → Hp → VK → Prop := fun xs H Q => ∃ (a D : Addr) (od : Option Addr) (c : V) (cv : Value) (b : Bool), xs = [.ref a, c] ∧ H a = some (exo a D od) ∧ (∀ d, od = some d → ∃ fs, H d = some (.xd fs)) ∧ ExcC K D ∧ ClsV c cv ∧ PySem.W.kitOne K (.ref D) cv = some b ∧ Q (.bl b) H
theorem call_isX : CallR X (.builtin "isinstance") (rIsX X.K) := by
  intro pins s σ H xs us Q I r h
  obtain ⟨a, D, od, c, cv, b, rfl, ha, hd, C, k, e, q⟩ := h
  obtain ⟨u1, u2, rfl, r1, r2⟩ := vals2 r
  have e2 := k.eq r2
  subst e2
  obtain rfl : u1 = Value.ref a := r1
  obtain ⟨t1, hx⟩ := exo_at I.hok ha
  have hcl : (clsIn X.K D).isSome = true := by obtain ⟨cd, hc, _⟩ := any_some C.hd; rw [hc]; rfl
  have J : ∃ oo, PySem.W.InstAt s.heap a ({ cls := .ref D, dict := od, data := .fields #[.ref t1, .none, .none, .none, .bool false, .none] } : Obj) D oo := by
    cases od with
    | none => exact ⟨none, hx, rfl, rfl, trivial⟩
    | some d =>
      obtain ⟨fs, hf⟩ := hd d rfl
      obtain ⟨mA, hns, _⟩ := (show ObjOk X.prog X.w H s.heap d (.xd fs) from I.hok d _ hf)
      obtain ⟨oo, ho, _⟩ := lookIn_ns hns
      exact ⟨some oo, hx, rfl, rfl, ho⟩
  obtain ⟨oo, J⟩ := J
  exact PySem.W.kia_one (PySem.W.kitx_exc hcl C.hg C.hk C.hs C.ha C.hn C.ht C.hm) I.kIn J e (fun z => nomatch z) fun tk => ⟨.bl b, H, I.tok tk, rfl, q⟩
end
end L2

set_option Elab.async false
set_option linter.all false
set_option maxRecDepth 100000
set_option maxHeartbeats 2000000
/-! an own exception whose __init__ says super().__init__() alone; one of the built-in class -/
namespace EXS
open PySem PySem.W PySem.Calls PySem.Spec PyProof.Rows
structure ScOk0 (sc : Scope) : Prop where
  sup : sc.names.lookup ("super" : Str) = some .globalImplicit
  cls : sc.names.lookup ("__class__" : Str) = some .free
  slf : sc.names.lookup ("self" : Str) = some .local
  nc : ∀ y ∈ sc.names, y.2 ≠ .cell
  kind : sc.kind = .function
  co : sc.isCoroutine = false
  gen : sc.isGenerator = false
abbrev supBody0 (p0 p1 p2 p4 p5 : Pos) : List Stmt := [.Expr (.Call (.Attribute (.Call (.Name "super" p0) [] [] p1) "__init__" p2) [] [] p4) p5]
structure SupC0 (K : Frag) (prog : Program) (C fI : Addr) : Prop where
  oex : L2.OexC K C
  init : findIn K (.ref C) "__init__" = some (some (.ref fI))
  ty : typeIn K (.ref fI) = some (.type "function")
  fn : ∃ (oc : Value) (od : Option Addr) (osl : Array (Option Value)) (qual : Str) (scope : Scope) (kV doc pm : Value) (an : Option Addr) (cda cc : Addr) (ct : Value) (a1 : Option Expr) (q1 p0 p1 p2 p4 p5 : Pos),
    K.lookup fI = some ⟨oc, od, .func (ksFn "__init__" qual ⟨[], [⟨"self", a1, q1⟩], none, [], [], none, []⟩ (supBody0 p0 p1 p2 p4 p5) scope .none kV doc pm an (.ref cda) ct cc), osl⟩ ∧
    codeIn K (.ref cda) qual = true ∧ (∃ ccl cdd vs ccs file tf, K.lookup cda = some ⟨ccl, cdd, .fields vs, ccs⟩ ∧ vs[2]? = some (.str file tf) ∧ ((prog.main.file : Str) == file) = true) ∧
    (∃ cl cld csl, K.lookup cc = some ⟨cl, cld, .cell (some (.ref C)), csl⟩) ∧ ScOk0 scope ∧ (p2.endLine == p4.line) = true
  own : mroIn K C (.ref C) = some true
  top : (prog.main.scope.names.lookup ("super" : Str)).isSome = false
  sup : ks_superIn K C C "__init__" = some (some (.builtin "ValueError.__init__"))
  sub : subIn K (.ref C) (.type "ValueError") = some true
  st : nsIn K cStatics "thirdparty.any" = some none
section
variable {prog : Program} {w : World} {A : Around} {R : Result → Shared → Prop} {hp : Heap} {g : Array GenState} {d : Drawn} {t : Nat} {os : OsState} {K : Frag} {C fI e t0 : Addr} {x f : Str} {u : Value} {mg mb : Str → Option Value}
theorem wpAt_method0 {M : Model} {c : Code} {E : Value → Shared → Prop} {s : Shared} {env : Env} {o : Expr} {name : Str} {apos pos : Pos} {Q : Value → Shared → Prop} (hline : (apos.endLine == pos.line) = true)
    (h : PySem.wpAt M A c (attributeBase o name env (eval o env)) (fun ov s₁ => ∀ pl, wpAny M A (getMethod ov name pl) (fun fx s₂ => wpAny M A (callWith pos fx.1 fx.2 (backTo pos (starEach [] env)) []) Q E s₂) E s₁) E s) :
    PySem.wpAt M A c (eval (.Call (.Attribute o name apos) [] [] pos) env) Q E s := by
  rw [arm_eval_Call]
  refine PySem.wpAt_bind (PySem.wpAt_mono h (fun ov s₁ h₁ => PySem.wpAt_of_wpAny (wpAny_bind (wpAny_standAt ?_))) fun _ _ e => e)
  have hform : methodCallForm (([] : List Expr).length + ([] : List Keyword).length) (backTo pos (starEach [] env)) (backToKw pos (keywordEach [] env)) = true := by rfl
  have hpos : methodCallPos true o env apos pos = pure pos := by unfold methodCallPos; simp [hline]
  unfold methodCall
  rw [hform]
  refine wpAny_bind (wpAny_holding (wpAny_mono (h₁ _) (fun fx s₂ h₂ => ?_) fun _ _ e => e))
  exact wpAny_bind (wpAny_of_eq hpos h₂)
theorem init_sup0 (S : SupC0 K prog C fI) (X : K.In hp) (lim : hp.NoLimit) (hg : hp.Ns mainGlobals mg) (hb : hp.Ns builtinsNs mb) (hbo : mb "super" = bootBuiltins "super") (hsu : mg "super" = none) (hroom : A.depth < recursionLimit)
    (he : hp.get? e = some (HandSPX.excO C t0))
    (hq : ∀ h' tk' t1, (∀ b o, b ≠ e → hp.get? b = some o → h'.get? b = some o) → h'.get? e = some (HandSPX.excO C t1) → R (.ok (.ret .none)) ⟨h', g, d, tk', os⟩) :
    codeAny (model prog w) A (.call (.ref fI) ⟨[.ref e], []⟩) R ⟨hp, g, d, t, os⟩ := by
  obtain ⟨oc, od, osl, qual, scope, kV, doc, pm, an, cda, cc, ct, a1, q1, p0, p1, p2, p4, p5, lk, hcd, ⟨ccl, cdd, vs, ccs, file, tf, hcode, hvs, hfile⟩, ⟨cl, cld, csl, hcell⟩, sc, hline⟩ := S.fn
  obtain ⟨nm, q, N, bs, bm, sn, sub, ab, col, dd, k0, k1, k2, k3, k5, hC, hbm⟩ := S.oex.cls
  have hcl : clsIn K C = some { name := nm, bases := bs, mro := .ref C :: bm, ns := N, qualname := q, hasDict := true, slotNames := sn, subclasses := sub, abstract := ab, collection := col, hasDel := false } := by unfold clsIn; rw [hC] <;> rfl
  refine ks_codeAny_call_defAt (fd := ksFn "__init__" qual ⟨[], [⟨"self", a1, q1⟩], none, [], [], none, []⟩ (supBody0 p0 p1 p2 p4 p5) scope .none kV doc pm an (.ref cda) ct cc) (body := supBody0 p0 p1 p2 p4 p5) (binds := [("self", .ref e)])
    hroom (X _ _ lk) rfl lim (codeRec_of X hcd) rfl (.of_eq (by rfl)) sc.nc (fun y hy => ?_) (fun h1 hns hk1 => ?_) sc.co sc.gen sc.kind
  · simp only [List.mem_cons, List.not_mem_nil, or_false] at hy
    subst hy
    exact sc.slf
  have X1 : K.In h1 := X.keeps hk1
  have he1 := hk1 _ _ he
  obtain ⟨oD, hD1, hD2⟩ : ∃ oD, h1.get? C = some oD ∧ ∃ cd, oD.data = .cls cd := ⟨_, X1 _ _ hC, _, rfl⟩
  obtain ⟨cdD, hD2⟩ := hD2
  refine ks_wpAt_execs_cons (ks_wpAt_Expr_any (wpAt_method0 hline ?_) (by show ((scope.kind == .module) && _) = false; rw [sc.kind]; rfl))
  refine ks_wpAt_super_base (fd := ksFn "__init__" qual ⟨[], [⟨"self", a1, q1⟩], none, [], [], none, []⟩ (supBody0 p0 p1 p2 p4 p5) scope .none kV doc pm an (.ref cda) ct cc) sc.sup sc.cls (by decide +kernel) rfl (X1 _ _ lk) rfl rfl rfl (X1 _ _ hcode) rfl hvs hfile S.top ?_
  refine ks_loadName_global sc.kind sc.sup (loadGlobal_builtin (hg.keeps hk1) hsu (hb.keeps hk1) (hbo.trans (by rfl)) ⟨rfl, ?_⟩)
  refine wpAny_loadName_free sc.kind sc.cls rfl ⟨_, X1 _ _ hcell, rfl⟩ ?_
  refine wpAny_loadName_local sc.kind sc.slf hns (by rfl) ?_
  refine ks_wpAny_isType_cls hD1 hD2 ⟨rfl, ?_⟩
  refine ks_wpAny_call_super hD1 hD2 he1 rfl (fun c z => by cases z) (looks_mroIn X1 S.own) (fun h2 hso k2 pl => ?_)
  have X2 : K.In h2 := X1.keeps k2
  have he2 := k2 _ _ he1
  have I2 : InstAt h2 e (HandSPX.excO C t0) C none := ⟨he2, rfl, rfl, trivial⟩
  have hsup : alongIn K "__init__" (((Value.ref C :: bm).dropWhile (· != .ref C)).drop 1) = some (some (.builtin "ValueError.__init__")) := by
    have z := S.sup
    unfold ks_superIn at z
    rw [hcl] at z
    exact z
  refine kxs_getMethod kxs_ValueError hso (looks_opaque X2 S.st) (l₀ := .ref C :: bm) (fun A Q E s k q => wpAny_bind ((looks_clsIn X2 hcl) A _ E s k (wpAny_pure q))) rfl X2 hsup (I2.type.andThen (looks_subIn X2 S.sub)) (ks_ne X2 I2 hcl) (by decide +kernel) ?_
  have kp : ∀ b o, h2.get? b = some o → (h2.push (kxs_mw "ValueError.__init__" e)).get? b = some o := fun b o z => Heap.get?_push_of_some _ z
  have k3 : ∀ b o, h1.get? b = some o → (h2.push (kxs_mw "ValueError.__init__" e)).get? b = some o := fun b o z => kp _ _ (k2 _ _ z)
  refine kxs_callWith (i := "ValueError.__init__") (x := e) rfl (PyProof.Rows.evalArgs_nil3 ?_)
  refine ⟨Heap.get?_push_size _ rfl, ?_⟩
  refine call_sup (X1.keeps k3 _ _ hC) (k3 _ _ he1) (Heap.get?_push_size _ rfl) (by show 0 ≤ sizeLine; decide) fun h4 t1 k4 he4 => ?_
  refine PySem.wpAt_of_wpAny (wpAny_pure ?_)
  exact hq h4 _ t1 (fun b o hb z => k4 b o hb (k3 b o (hk1 b o z))) he4
end
end EXS
namespace L2
open PySem PySem.W PySem.Calls PySem.Spec PyProof.Rows
section
variable {X : Cx} {C fI : Addr} {n : Str} {k : Nat}
def tMkE0 (C : Addr) : TE := fun _ H Q => ∀ a, H a = none → Q (.ref a) (upd H a (exo a C none))
theorem pe_ex0 {p pos : Pos} (S : EXS.SupC0 X.K X.prog C fI) (hr : Room (k + 1) X.A) (hg : Gl X n) (hm : X.mg n = some (.ref C)) (hsu : X.mg "super" = none) (hdb : (n == ("__debug__" : Str)) = false := by decide) : PE X (.Call (.Name n p) [] [] pos) (tMkE0 C) := by
  refine ⟨fun pins s σ H Q I q1 => ?_⟩
  obtain ⟨nm, q, N, bs, bm, sn, sub, ab, col, dd, k0, k1, k2, k3, k5, hC, hbm⟩ := S.oex.cls
  refine wpAny_Call_Name_kw (ld_glob I hg hm ?_ hdb)
  refine callWith_KW0 (h₀ := X.base) I.ok.mod.kin S.oex.kC (by rfl) (wpAny_evalAll_nil ⟨I.kIn, ?_⟩) (by rfl)
  obtain ⟨mb, hb1, hb2⟩ := I.ok.mod.blt
  have bk := I.bk
  obtain ⟨hp, g, dr, tk, os⟩ := s
  have kk : ∀ b o, hp.get? b = some o → ((hp.push (kdv_tup [])).push (HandSPX.excO C hp.objs.size)).get? b = some o := fun b o e => Heap.get?_push_of_some _ (Heap.get?_push_of_some _ e)
  have hget : ((hp.push (kdv_tup [])).push (HandSPX.excO C hp.objs.size)).get? (hp.objs.size + 1) = some (HandSPX.excO C hp.objs.size) := by heap_get
  have nge : hp.get? (hp.objs.size + 1) = none := by
    cases z : hp.get? (hp.objs.size + 1) with
    | none => rfl
    | some o => exact absurd (show hp.objs.size + 1 < hp.objs.size from Heap.lt_size z) (Nat.not_lt_of_le (Nat.le_succ _))
  refine wpAny_call (EXK.call_kw (rest := []) (kw := []) F.excBase_ValueError (fun Y => HandSPX.refsVE_contains Y bm hbm) (I.kIn _ _ hC) (looks_findIn I.kIn S.init) (fun self => bind_fn I.kIn self S.ty) (by show 0 ≤ sizeLine; decide) ?_)
  refine EXS.init_sup0 S (I.kIn.keeps kk) ((I.ok.mod.nolimit.keeps bk).keeps kk) ((I.ok.mod.glob.keeps bk).keeps kk) ((hb1.keeps bk).keeps kk) (hb2 _ (by decide)) hsu ?_ hget fun h' tk' t1 k hx => ?_
  · exact (hr.make C [] []).depth
  · refine ⟨rfl, ?_⟩
    have nH : H (hp.objs.size + 1) = none := I.hok.fresh (Nat.le_succ _)
    have J2 := I.laidN (a := hp.objs.size + 1) (o := exo (hp.objs.size + 1) C none) (h' := h') (t' := tk') (fun b o z => k b o (fun y => by rw [y, nge] at z; cases z) (kk b o z)) nge nH (exo_ok hx)
    exact ⟨.ref (hp.objs.size + 1), _, J2, rfl, q1 (hp.objs.size + 1) nH⟩
/-- an exception of the built-in class T -/
def exb (a : Addr) (T : String) : HO := .ext fun h => ∃ o, h.get? a = some o ∧ o.cls = .type T
def tMkB (T : String) (t : TA) : TE := fun σ H Q => t σ H fun vs H1 => vs.length ≤ sizeLine ∧ ∀ a, H1 a = none → Q (.ref a) (upd H1 a (exb a T))
theorem pe_exb {T N I : String} {x : Str} {p pos : Pos} {e : Expr} {es : List Expr} {t : TA} (F : ExcB T N I) (hg : Gl X x) (hm : X.mg x = none) (hv : bootBuiltins x = some (.type T)) (ha : PA X (e :: es) t) (hn : x ≠ "__name__" := by decide) (hdb : (x == ("__debug__" : Str)) = false := by decide)
    (he : starEach (e :: es) X.env = (false, eval e X.env) :: starEach es X.env := by rfl) (hpl : (backTo pos (starEach es X.env)).any (·.1) = false := by rfl) :
    PE X (.Call (.Name x p) (e :: es) [] pos) (tMkB T t) := by
  refine ⟨fun pins s σ H Q J h => ?_⟩
  refine wpAny_Call_Name_kw (ld_blt J hg hm hv ?_ hn hdb)
  refine PyProof.Rows.callWith_type1 (thn (ha.run pos pins s σ H _ J h) fun us s1 hh => ?_) he hpl
  obtain ⟨vs, H1, I1, r1, q0, q1⟩ := hh
  obtain ⟨hp1, g1, d1, tk1, os1⟩ := s1
  refine wpAny_call_exc F.call (fun h' a mk => ?_) (Nat.le_trans (Nat.le_of_eq r1.length.symm) q0)
  have mk2 := PySem.Heap.MadeExc.of mk
  have hN : H1 a = none := I1.hok.gone mk.new
  obtain ⟨o, ho, hc⟩ : ∃ o, h'.get? a = some o ∧ o.cls = .type T := by
    obtain ⟨t, ht, _⟩ := mk.there
    exact ⟨_, ht, rfl⟩
  exact ⟨.ref a, upd H1 a (exb a T), I1.laidN mk.keeps mk.new hN ⟨⟨o, ho, hc⟩, ⟨o, ho⟩, fun h1 h2 ⟨o', e1, e2⟩ k => ⟨o', k _ e1, e2⟩⟩, rfl, q1 a hN⟩
def rIsBx (K : PySem.W.Frag) (T : String) : List V → Hp → VK → Prop := fun xs H Q => ∃ (a : Addr) (c : V) (cv : Value) (b : Bool), xs = [.ref a, c] ∧ H a = some (exb a T) ∧ ClsV c cv ∧ PySem.W.kitOne K (.type T) cv = some b ∧ Q (.bl b) H
theorem call_isB : CallR X (.builtin "isinstance") (rIsBx X.K "ValueError") := by
  intro pins s σ H xs us Q I r h
  obtain ⟨a, c, cv, b, rfl, ha, k, e, q⟩ := h
  obtain ⟨u1, u2, rfl, r1, r2⟩ := vals2 r
  have e2 := k.eq r2
  subst e2
  obtain rfl : u1 = Value.ref a := r1
  obtain ⟨⟨o, h1, h2⟩, _, _⟩ := I.hok a _ ha
  exact PySem.W.kia_one (PySem.W.kitx_bexc PySem.F.excAttr_ValueError PySem.F.lkClass_ValueError PySem.F.soClass_ValueError (by decide +kernel)) I.kIn ⟨o, h1, h2⟩ e (fun z => nomatch z) fun tk => ⟨.bl b, H, I.tok tk, rfl, q⟩
end
end L2

set_option Elab.async false
set_option linter.all false
set_option maxRecDepth 100000
/-! what is asked of the classes, as questions that the kernel answers -/
namespace EXS
open PySem PySem.W PySem.Calls PySem.Spec PyProof.Rows
def scB0 (sc : Scope) : Bool := decide (sc.names.lookup ("super" : Str) = some .globalImplicit) && (decide (sc.names.lookup ("__class__" : Str) = some .free) && (decide (sc.names.lookup ("self" : Str) = some .local) &&
  (sc.names.all (fun y => decide (y.2 ≠ .cell)) && (decide (sc.kind = .function) && (decide (sc.isCoroutine = false) && decide (sc.isGenerator = false))))))
theorem scB0_ok {sc : Scope} (h : scB0 sc = true) : ScOk0 sc := by
  unfold scB0 at h
  obtain ⟨h1, h⟩ := and2 h
  obtain ⟨h2, h⟩ := and2 h
  obtain ⟨h3, h⟩ := and2 h
  obtain ⟨h5, h⟩ := and2 h
  obtain ⟨h6, h⟩ := and2 h
  obtain ⟨h7, h8⟩ := and2 h
  exact ⟨of_decide_eq_true h1, of_decide_eq_true h2, of_decide_eq_true h3, fun y hy => of_decide_eq_true (List.all_eq_true.mp h5 y hy), of_decide_eq_true h6, of_decide_eq_true h7, of_decide_eq_true h8⟩
def bodyB0 : List Stmt → Bool
  | [.Expr (.Call (.Attribute (.Call (.Name s _) [] [] _) i p2) [] [] p4) _] => decide (s = "super") && (decide (i = "__init__") && (p2.endLine == p4.line))
  | _ => false
theorem bodyB0_ok {b : List Stmt} (h : bodyB0 b = true) : ∃ p0 p1 p2 p4 p5, b = supBody0 p0 p1 p2 p4 p5 ∧ (p2.endLine == p4.line) = true := by
  unfold bodyB0 at h
  split at h
  · obtain ⟨h1, h⟩ := and2 h
    obtain ⟨h2, h7⟩ := and2 h
    have h1 := of_decide_eq_true h1
    have h2 := of_decide_eq_true h2
    subst h1 h2
    exact ⟨_, _, _, _, _, rfl, h7⟩
  · cases h
def parB0 : Arguments → Bool
  | ⟨[], [⟨a, _, _⟩], none, [], [], none, []⟩ => decide (a = "self")
  | _ => false
theorem parB0_ok {p : Arguments} (h : parB0 p = true) : ∃ a1 q1, p = ⟨[], [⟨"self", a1, q1⟩], none, [], [], none, []⟩ := by
  unfold parB0 at h
  split at h
  · have h1 := of_decide_eq_true h
    subst h1
    exact ⟨_, _, rfl⟩
  · cases h
def fnB0 (K : Frag) (file : Str) (C fI : Addr) : Bool := match K.lookup fI with
  | some ⟨_, _, .func ⟨name, qual, params, .stmts body, scope, gl, [(n, cc)], dV, _, _, _, _, .ref cda, _, bl⟩, _⟩ =>
    decide (name = "__init__") && (decide (n = "__class__") && (decide (gl = mainGlobals) && (decide (bl = builtinsNs) && (noneB dV && (parB0 params && (bodyB0 body && (scB0 scope && (codeIn K (.ref cda) qual && (fileB K file cda && cellB K C cc)))))))))
  | _ => false
theorem fnB0_ok {K : Frag} {prog : Program} {C fI : Addr} (h : fnB0 K prog.main.file C fI = true) : ∃ (oc : Value) (od : Option Addr) (osl : Array (Option Value)) (qual : Str) (scope : Scope) (kV doc pm : Value) (an : Option Addr) (cda cc : Addr) (ct : Value) (a1 : Option Expr) (q1 p0 p1 p2 p4 p5 : Pos),
    K.lookup fI = some ⟨oc, od, .func (ksFn "__init__" qual ⟨[], [⟨"self", a1, q1⟩], none, [], [], none, []⟩ (supBody0 p0 p1 p2 p4 p5) scope .none kV doc pm an (.ref cda) ct cc), osl⟩ ∧
    codeIn K (.ref cda) qual = true ∧ (∃ ccl cdd vs ccs file tf, K.lookup cda = some ⟨ccl, cdd, .fields vs, ccs⟩ ∧ vs[2]? = some (.str file tf) ∧ ((prog.main.file : Str) == file) = true) ∧
    (∃ cl cld csl, K.lookup cc = some ⟨cl, cld, .cell (some (.ref C)), csl⟩) ∧ ScOk0 scope ∧ (p2.endLine == p4.line) = true := by
  unfold fnB0 at h
  split at h
  · rename_i oc od name qual params body scope gl n cc dV kV doc pm an cda ct bl osl e
    obtain ⟨h1, h⟩ := and2 h
    obtain ⟨h2, h⟩ := and2 h
    obtain ⟨h3, h⟩ := and2 h
    obtain ⟨h4, h⟩ := and2 h
    obtain ⟨h5, h⟩ := and2 h
    obtain ⟨h6, h⟩ := and2 h
    obtain ⟨h7, h⟩ := and2 h
    obtain ⟨h8, h⟩ := and2 h
    obtain ⟨h9, h⟩ := and2 h
    obtain ⟨h10, h11⟩ := and2 h
    have h1 := of_decide_eq_true h1
    have h2 := of_decide_eq_true h2
    have h3 := of_decide_eq_true h3
    have h4 := of_decide_eq_true h4
    have h5 : dV = .none := by
      cases dV <;> first | rfl | cases h5
    obtain ⟨a1, q1, h6⟩ := parB0_ok h6
    obtain ⟨p0, p1, p2, p4, p5, h7, hl⟩ := bodyB0_ok h7
    obtain ⟨ccl, cdd, vs, ccs, tf, hf1, hf2⟩ := fileB_ok h10
    subst h1 h2 h3 h4 h5 h6 h7
    exact ⟨oc, od, osl, qual, scope, kV, doc, pm, an, cda, cc, ct, a1, q1, p0, p1, p2, p4, p5, e, h9, ⟨ccl, cdd, vs, ccs, _, tf, hf1, hf2, beq_self_eq_true _⟩, cellB_ok h11, scB0_ok h8, hl⟩
  · cases h
def supB0 (K : Frag) (prog : Program) (n : Str) : Bool :=
  let C := He.ga K n
  let fI := He.ma K C "__init__"
  clsB K C && (He.eqO (findIn K (.ref C) "__setattr__") (some (some (.builtin "object.__setattr__"))) && (decide (subIn K (.ref C) (.type "BaseException") = some true) && (decide (typeIn K (.ref C) = some (.type "type")) && (keepIn K (.ref C) &&
  (He.eqO (findIn K (.ref C) "__init__") (some (some (.ref fI))) && (decide (typeIn K (.ref fI) = some (.type "function")) && (fnB0 K prog.main.file C fI && (decide (mroIn K C (.ref C) = some true) &&
  (decide ((prog.main.scope.names.lookup ("super" : Str)).isSome = false) && (He.eqO (ks_superIn K C C "__init__") (some (some (.builtin "ValueError.__init__"))) && (decide (subIn K (.ref C) (.type "ValueError") = some true) && He.eqO (nsIn K cStatics "thirdparty.any") (some none))))))))))))
theorem supB0_ok {K : Frag} {prog : Program} {n : Str} (h : supB0 K prog n = true) : SupC0 K prog (He.ga K n) (He.ma K (He.ga K n) "__init__") := by
  unfold supB0 at h
  obtain ⟨h1, h⟩ := and2 h
  obtain ⟨h2, h⟩ := and2 h
  obtain ⟨h3, h⟩ := and2 h
  obtain ⟨h4, h⟩ := and2 h
  obtain ⟨h5, h⟩ := and2 h
  obtain ⟨h6, h⟩ := and2 h
  obtain ⟨h7, h⟩ := and2 h
  obtain ⟨h9, h⟩ := and2 h
  obtain ⟨h10, h⟩ := and2 h
  obtain ⟨h11, h⟩ := and2 h
  obtain ⟨h12, h⟩ := and2 h
  obtain ⟨h13, h14⟩ := and2 h
  exact ⟨⟨clsB_ok h1, He.eqO_ok h2, of_decide_eq_true h3, of_decide_eq_true h4, h5⟩, He.eqO_ok h6, of_decide_eq_true h7, fnB0_ok h9, of_decide_eq_true h10, of_decide_eq_true h11, He.eqO_ok h12, of_decide_eq_true h13, He.eqO_ok h14⟩
def ecB (K : Frag) (D : Addr) : Bool := He.eqO (findIn K (.ref D) "__getattribute__") (some (some (.builtin "BaseException.__getattribute__"))) && (He.eqO (findIn K (.ref D) "__getattr__") (some none) && (decide (subIn K (.ref D) (.type "BaseException") = some true) && (hasDictIn K D &&
  (He.eqO (findIn K (.ref D) "__class__") (some (some (.builtin "object.__class__"))) && (He.eqO (specialIn K (.builtin "object.__class__") "__get__") (some (some (.builtin "getset_descriptor.__get__"))) && (decide (takesIn K (.builtin "object.__class__") = some true) && decide (mroIn K D (.type "object") = some true)))))))
theorem ecB_ok {K : Frag} {D : Addr} (h : ecB K D = true) : L2.ExcC K D := by
  unfold ecB at h
  obtain ⟨h1, h⟩ := and2 h
  obtain ⟨h2, h⟩ := and2 h
  obtain ⟨h3, h⟩ := and2 h
  obtain ⟨h4, h⟩ := and2 h
  obtain ⟨h5, h⟩ := and2 h
  obtain ⟨h6, h⟩ := and2 h
  obtain ⟨h7, h8⟩ := and2 h
  exact ⟨He.eqO_ok h1, He.eqO_ok h2, of_decide_eq_true h3, h4, He.eqO_ok h5, He.eqO_ok h6, of_decide_eq_true h7, of_decide_eq_true h8⟩
def kmB (K : Frag) (ns : List Str) : Bool :=
  let as := ns.map fun n => (n, He.ga K n)
  as.all fun C => as.all fun c => decide (kitOne K (.ref C.2) (.ref c.2) = some (decide (C.1 = c.1)))
theorem kmB_ok {K : Frag} {ns : List Str} (h : kmB K ns = true) : ∀ C ∈ ns, ∀ c ∈ ns, kitOne K (.ref (He.ga K C)) (.ref (He.ga K c)) = some (decide (C = c)) := fun C hC c hc => by
  unfold kmB at h
  have h1 := List.all_eq_true.mp h (C, He.ga K C) (List.mem_map.mpr ⟨C, hC, rfl⟩)
  exact of_decide_eq_true (List.all_eq_true.mp h1 (c, He.ga K c) (List.mem_map.mpr ⟨c, hc, rfl⟩))
end EXS

set_option Elab.async false
set_option linter.all false
set_option maxRecDepth 100000
set_option maxHeartbeats 0
namespace HD
open PySem PySem.Spec PyProof.Rows L2
def top (i : Nat) : Stmt := PySem.Challenge.pw_seatroads_k87_errors_made.main.body.getD i (.Pass ⟨0, 0, 0, 0⟩)
def inCls (i j : Nat) : Stmt := match top i with
  | .ClassDef _ _ _ b _ _ _ _ _ _ _ => b.getD j (.Pass ⟨0, 0, 0, 0⟩)
  | _ => .Pass ⟨0, 0, 0, 0⟩

abbrev s__law_source : Stmt := (top 48)
def d__law_source : He.DefD := ⟨("_law_source", none), "_law_source", "_law_source", defArgs s__law_source, defBody s__law_source, defScope s__law_source, [], []⟩
abbrev s__law_draw : Stmt := (top 49)
def d__law_draw : He.DefD := ⟨("_law_draw", none), "_law_draw", "_law_draw", defArgs s__law_draw, defBody s__law_draw, defScope s__law_draw, [], []⟩
abbrev s__law_pick : Stmt := (top 50)
def d__law_pick : He.DefD := ⟨("_law_pick", none), "_law_pick", "_law_pick", defArgs s__law_pick, defBody s__law_pick, defScope s__law_pick, [], []⟩
abbrev s__law_same : Stmt := (top 51)
def d__law_same : He.DefD := ⟨("_law_same", none), "_law_same", "_law_same", defArgs s__law_same, defBody s__law_same, defScope s__law_same, [], []⟩
abbrev s__law_pairs_one : Stmt := (top 52)
def d__law_pairs_one : He.DefD := ⟨("_law_pairs_one", none), "_law_pairs_one", "_law_pairs_one", defArgs s__law_pairs_one, defBody s__law_pairs_one, defScope s__law_pairs_one, [], []⟩
abbrev s__law_pairs_two : Stmt := (top 53)
def d__law_pairs_two : He.DefD := ⟨("_law_pairs_two", none), "_law_pairs_two", "_law_pairs_two", defArgs s__law_pairs_two, defBody s__law_pairs_two, defScope s__law_pairs_two, [], []⟩
abbrev s__law_held_one : Stmt := (top 54)
def d__law_held_one : He.DefD := ⟨("_law_held_one", none), "_law_held_one", "_law_held_one", defArgs s__law_held_one, defBody s__law_held_one, defScope s__law_held_one, [], []⟩
abbrev s__law_held_two : Stmt := (top 55)
def d__law_held_two : He.DefD := ⟨("_law_held_two", none), "_law_held_two", "_law_held_two", defArgs s__law_held_two, defBody s__law_held_two, defScope s__law_held_two, [], []⟩
abbrev s__law_is_these : Stmt := (top 56)
def d__law_is_these : He.DefD := ⟨("_law_is_these", none), "_law_is_these", "_law_is_these", defArgs s__law_is_these, defBody s__law_is_these, defScope s__law_is_these, [], []⟩
abbrev s__law_is_those : Stmt := (top 57)
def d__law_is_those : He.DefD := ⟨("_law_is_those", none), "_law_is_those", "_law_is_those", defArgs s__law_is_those, defBody s__law_is_those, defScope s__law_is_those, [], []⟩
abbrev s_law : Stmt := (top 58)
def d_law : He.DefD := ⟨("law", none), "law", "law", defArgs s_law, defBody s_law, defScope s_law, [], []⟩
def fn : List He.DefD := [d__law_source, d__law_draw, d__law_pick, d__law_same, d__law_pairs_one, d__law_pairs_two, d__law_held_one, d__law_held_two, d__law_is_these, d__law_is_those, d_law]
def excN : List Str := (["BadRank", "BadKind", "BadEvent", "BadTime", "NoPerson", "BadTruth", "NoRoad", "BadLetter", "BadWishes", "BadPerson", "BadFree", "BadMatching", "BadSide", "NotStable", "BadNumber"] : List Str) ++ (["BadTurns", "BadRow", "BadDeed", "BadAccount", "BadName", "BadFloor", "BadBooks", "BadFee", "BadHearing", "BadHoldings", "BadItem", "NotFeasible", "BadCoins", "BadDebts", "NoMember"] : List Str) ++ (["NotPayments", "NotFailing", "BadHolds", "BadWay", "BadOutcome", "BadHall", "NotAsked", "BadTable", "BadComer", "BadCounts", "BadBook", "BadPeople", "BadRule", "BadText", "Nothing"] : List Str)
def fa : List He.Fa := [.glo "_law_source",
  .glo "_law_draw",
  .glo "_law_pick",
  .glo "_law_same",
  .glo "_law_pairs_one",
  .glo "_law_pairs_two",
  .glo "_law_held_one",
  .glo "_law_held_two",
  .glo "_law_is_these",
  .glo "_law_is_those",
  .glo "law",
  .glo "OfficeError",
  .glo "BadRank",
  .glo "BadKind",
  .glo "BadEvent",
  .glo "BadTime",
  .glo "NoPerson",
  .glo "BadTruth",
  .glo "NoRoad",
  .glo "BadLetter",
  .glo "BadWishes",
  .glo "BadPerson",
  .glo "BadFree",
  .glo "BadMatching",
  .glo "BadSide",
  .glo "NotStable",
  .glo "BadNumber",
  .glo "BadTurns",
  .glo "BadRow",
  .glo "BadDeed",
  .glo "BadAccount",
  .glo "BadName",
  .glo "BadFloor",
  .glo "BadBooks",
  .glo "BadFee",
  .glo "BadHearing",
  .glo "BadHoldings",
  .glo "BadItem",
  .glo "NotFeasible",
  .glo "BadCoins",
  .glo "BadDebts",
  .glo "NoMember",
  .glo "NotPayments",
  .glo "NotFailing",
  .glo "BadHolds",
  .glo "BadWay",
  .glo "BadOutcome",
  .glo "BadHall",
  .glo "NotAsked",
  .glo "BadTable",
  .glo "BadComer",
  .glo "BadCounts",
  .glo "BadBook",
  .glo "BadPeople",
  .glo "BadRule",
  .glo "BadText",
  .glo "Nothing",
  .free "ValueError",
  .free "all",
  .free "any",
  .free "bool",
  .free "enumerate",
  .free "int",
  .free "isinstance",
  .free "len",
  .free "list",
  .free "min",
  .free "range",
  .free "super",
  .free "tuple",
  .free "zip"]
def ex0 (K : PySem.W.Frag) : Bool := true
def ex1 (K : PySem.W.Frag) : Bool := EXS.supB K PySem.Challenge.pw_seatroads_k87_errors_made "BadRank" "kind" "kind" && (xfB K (He.ga K "BadRank") && (He.eqO (PySem.W.findIn K (.ref (He.ga K "BadRank")) "kind") (some none) && (EXS.supB K PySem.Challenge.pw_seatroads_k87_errors_made "BadKind" "kind" "kind" && (xfB K (He.ga K "BadKind") && (He.eqO (PySem.W.findIn K (.ref (He.ga K "BadKind")) "kind") (some none) && (EXS.supB K PySem.Challenge.pw_seatroads_k87_errors_made "BadEvent" "time" "time" && (xfB K (He.ga K "BadEvent") && (He.eqO (PySem.W.findIn K (.ref (He.ga K "BadEvent")) "time") (some none) && (EXS.supB K PySem.Challenge.pw_seatroads_k87_errors_made "BadTime" "time" "time" && (xfB K (He.ga K "BadTime") && (He.eqO (PySem.W.findIn K (.ref (He.ga K "BadTime")) "time") (some none) && (EXS.supB K PySem.Challenge.pw_seatroads_k87_errors_made "NoPerson" "name" "name" && (xfB K (He.ga K "NoPerson") && (He.eqO (PySem.W.findIn K (.ref (He.ga K "NoPerson")) "name") (some none) && (EXS.supB K PySem.Challenge.pw_seatroads_k87_errors_made "BadTruth" "index" "index" && (xfB K (He.ga K "BadTruth") && (He.eqO (PySem.W.findIn K (.ref (He.ga K "BadTruth")) "index") (some none) && (EXS.supB K PySem.Challenge.pw_seatroads_k87_errors_made "NoRoad" "index" "index" && (xfB K (He.ga K "NoRoad") && (He.eqO (PySem.W.findIn K (.ref (He.ga K "NoRoad")) "index") (some none) && (EXS.supB K PySem.Challenge.pw_seatroads_k87_errors_made "BadLetter" "index" "index" && (xfB K (He.ga K "BadLetter") && (He.eqO (PySem.W.findIn K (.ref (He.ga K "BadLetter")) "index") (some none) && (EXS.supB K PySem.Challenge.pw_seatroads_k87_errors_made "BadWishes" "thing" "thing" && (xfB K (He.ga K "BadWishes") && (He.eqO (PySem.W.findIn K (.ref (He.ga K "BadWishes")) "thing") (some none) && (EXS.supB K PySem.Challenge.pw_seatroads_k87_errors_made "BadPerson" "index" "index" && (xfB K (He.ga K "BadPerson") && (He.eqO (PySem.W.findIn K (.ref (He.ga K "BadPerson")) "index") (some none) && (EXS.supB K PySem.Challenge.pw_seatroads_k87_errors_made "BadFree" "thing" "thing" && (xfB K (He.ga K "BadFree") && (He.eqO (PySem.W.findIn K (.ref (He.ga K "BadFree")) "thing") (some none) && (EXS.supB K PySem.Challenge.pw_seatroads_k87_errors_made "BadMatching" "thing" "thing" && (xfB K (He.ga K "BadMatching") && (He.eqO (PySem.W.findIn K (.ref (He.ga K "BadMatching")) "thing") (some none) && (EXS.supB K PySem.Challenge.pw_seatroads_k87_errors_made "BadSide" "side" "side" && (xfB K (He.ga K "BadSide") && (He.eqO (PySem.W.findIn K (.ref (He.ga K "BadSide")) "side") (some none) && (EXS.supB K PySem.Challenge.pw_seatroads_k87_errors_made "NotStable" "matching" "matching" && (xfB K (He.ga K "NotStable") && (He.eqO (PySem.W.findIn K (.ref (He.ga K "NotStable")) "matching") (some none) && (EXS.supB K PySem.Challenge.pw_seatroads_k87_errors_made "BadNumber" "number" "number" && (xfB K (He.ga K "BadNumber") && (He.eqO (PySem.W.findIn K (.ref (He.ga K "BadNumber")) "number") (some none) && (EXS.supB K PySem.Challenge.pw_seatroads_k87_errors_made "BadTurns" "numbers" "numbers" && (xfB K (He.ga K "BadTurns") && (He.eqO (PySem.W.findIn K (.ref (He.ga K "BadTurns")) "numbers") (some none) && (EXS.supB K PySem.Challenge.pw_seatroads_k87_errors_made "BadRow" "index" "index" && (xfB K (He.ga K "BadRow") && (He.eqO (PySem.W.findIn K (.ref (He.ga K "BadRow")) "index") (some none) && (EXS.supB K PySem.Challenge.pw_seatroads_k87_errors_made "BadDeed" "index" "index" && (xfB K (He.ga K "BadDeed") && (He.eqO (PySem.W.findIn K (.ref (He.ga K "BadDeed")) "index") (some none) && (EXS.supB K PySem.Challenge.pw_seatroads_k87_errors_made "BadAccount" "account" "account" && (xfB K (He.ga K "BadAccount") && (He.eqO (PySem.W.findIn K (.ref (He.ga K "BadAccount")) "account") (some none) && (EXS.supB K PySem.Challenge.pw_seatroads_k87_errors_made "BadName" "thing" "thing" && (xfB K (He.ga K "BadName") && (He.eqO (PySem.W.findIn K (.ref (He.ga K "BadName")) "thing") (some none) && (EXS.supB K PySem.Challenge.pw_seatroads_k87_errors_made "BadFloor" "floor" "floor" && (xfB K (He.ga K "BadFloor") && (He.eqO (PySem.W.findIn K (.ref (He.ga K "BadFloor")) "floor") (some none) && (EXS.supB K PySem.Challenge.pw_seatroads_k87_errors_made "BadBooks" "index" "index" && (xfB K (He.ga K "BadBooks") && (He.eqO (PySem.W.findIn K (.ref (He.ga K "BadBooks")) "index") (some none) && (EXS.supB K PySem.Challenge.pw_seatroads_k87_errors_made "BadFee" "thing" "thing" && (xfB K (He.ga K "BadFee") && (He.eqO (PySem.W.findIn K (.ref (He.ga K "BadFee")) "thing") (some none)))))))))))))))))))))))))))))))))))))))))))))))))))))))))))))))))))))
def ex2 (K : PySem.W.Frag) : Bool := EXS.supB K PySem.Challenge.pw_seatroads_k87_errors_made "BadHearing" "index" "index" && (xfB K (He.ga K "BadHearing") && (He.eqO (PySem.W.findIn K (.ref (He.ga K "BadHearing")) "index") (some none) && (EXS.supB K PySem.Challenge.pw_seatroads_k87_errors_made "BadHoldings" "thing" "thing" && (xfB K (He.ga K "BadHoldings") && (He.eqO (PySem.W.findIn K (.ref (He.ga K "BadHoldings")) "thing") (some none) && (EXS.supB K PySem.Challenge.pw_seatroads_k87_errors_made "BadItem" "index" "index" && (xfB K (He.ga K "BadItem") && (He.eqO (PySem.W.findIn K (.ref (He.ga K "BadItem")) "index") (some none) && (EXS.supB K PySem.Challenge.pw_seatroads_k87_errors_made "NotFeasible" "numbers" "numbers" && (xfB K (He.ga K "NotFeasible") && (He.eqO (PySem.W.findIn K (.ref (He.ga K "NotFeasible")) "numbers") (some none) && (EXS.supB K PySem.Challenge.pw_seatroads_k87_errors_made "BadCoins" "thing" "thing" && (xfB K (He.ga K "BadCoins") && (He.eqO (PySem.W.findIn K (.ref (He.ga K "BadCoins")) "thing") (some none) && (EXS.supB K PySem.Challenge.pw_seatroads_k87_errors_made "BadDebts" "thing" "thing" && (xfB K (He.ga K "BadDebts") && (He.eqO (PySem.W.findIn K (.ref (He.ga K "BadDebts")) "thing") (some none) && (EXS.supB K PySem.Challenge.pw_seatroads_k87_errors_made "NoMember" "member" "member" && (xfB K (He.ga K "NoMember") && (He.eqO (PySem.W.findIn K (.ref (He.ga K "NoMember")) "member") (some none) && (EXS.supB K PySem.Challenge.pw_seatroads_k87_errors_made "NotPayments" "thing" "thing" && (xfB K (He.ga K "NotPayments") && (He.eqO (PySem.W.findIn K (.ref (He.ga K "NotPayments")) "thing") (some none) && (EXS.supB K PySem.Challenge.pw_seatroads_k87_errors_made "NotFailing" "who" "who" && (xfB K (He.ga K "NotFailing") && (He.eqO (PySem.W.findIn K (.ref (He.ga K "NotFailing")) "who") (some none) && (EXS.supB K PySem.Challenge.pw_seatroads_k87_errors_made "BadHolds" "thing" "thing" && (xfB K (He.ga K "BadHolds") && (He.eqO (PySem.W.findIn K (.ref (He.ga K "BadHolds")) "thing") (some none) && (EXS.supB K PySem.Challenge.pw_seatroads_k87_errors_made "BadWay" "index" "index" && (xfB K (He.ga K "BadWay") && (He.eqO (PySem.W.findIn K (.ref (He.ga K "BadWay")) "index") (some none) && (EXS.supB K PySem.Challenge.pw_seatroads_k87_errors_made "BadOutcome" "outcome" "outcome" && (xfB K (He.ga K "BadOutcome") && (He.eqO (PySem.W.findIn K (.ref (He.ga K "BadOutcome")) "outcome") (some none) && (EXS.supB K PySem.Challenge.pw_seatroads_k87_errors_made "BadHall" "hall" "hall" && (xfB K (He.ga K "BadHall") && (He.eqO (PySem.W.findIn K (.ref (He.ga K "BadHall")) "hall") (some none) && (EXS.supB K PySem.Challenge.pw_seatroads_k87_errors_made "NotAsked" "time" "time" && (xfB K (He.ga K "NotAsked") && (He.eqO (PySem.W.findIn K (.ref (He.ga K "NotAsked")) "time") (some none) && (EXS.supB K PySem.Challenge.pw_seatroads_k87_errors_made "BadTable" "part" "part" && (xfB K (He.ga K "BadTable") && (He.eqO (PySem.W.findIn K (.ref (He.ga K "BadTable")) "part") (some none) && (EXS.supB K PySem.Challenge.pw_seatroads_k87_errors_made "BadComer" "comer" "comer" && (xfB K (He.ga K "BadComer") && (He.eqO (PySem.W.findIn K (.ref (He.ga K "BadComer")) "comer") (some none) && (EXS.supB K PySem.Challenge.pw_seatroads_k87_errors_made "BadCounts" "counts" "counts" && (xfB K (He.ga K "BadCounts") && (He.eqO (PySem.W.findIn K (.ref (He.ga K "BadCounts")) "counts") (some none) && (EXS.supB K PySem.Challenge.pw_seatroads_k87_errors_made "BadBook" "book" "book" && (xfB K (He.ga K "BadBook") && (He.eqO (PySem.W.findIn K (.ref (He.ga K "BadBook")) "book") (some none) && (EXS.supB K PySem.Challenge.pw_seatroads_k87_errors_made "BadPeople" "name" "name" && (xfB K (He.ga K "BadPeople") && (He.eqO (PySem.W.findIn K (.ref (He.ga K "BadPeople")) "name") (some none) && (EXS.supB K PySem.Challenge.pw_seatroads_k87_errors_made "BadRule" "rule" "rule" && (xfB K (He.ga K "BadRule") && (He.eqO (PySem.W.findIn K (.ref (He.ga K "BadRule")) "rule") (some none) && (EXS.supB K PySem.Challenge.pw_seatroads_k87_errors_made "BadText" "line" "line" && (xfB K (He.ga K "BadText") && (He.eqO (PySem.W.findIn K (.ref (He.ga K "BadText")) "line") (some none) && (EXS.supB0 K PySem.Challenge.pw_seatroads_k87_errors_made "Nothing" && (excN.all (fun C => EXS.ecB K (He.ga K C)) && (EXS.kmB K excN && (excN.all (fun C => decide (PySem.W.kitOne K (.ref (He.ga K C)) (.ref (He.ga K "OfficeError")) = some true)) && (excN.all (fun C => decide (PySem.W.kitOne K (.ref (He.ga K C)) (.type "ValueError") = some true)) && (decide (PySem.W.kitOne K (.type "ValueError") (.ref (He.ga K "OfficeError")) = some false)))))))))))))))))))))))))))))))))))))))))))))))))))))))))))))))))))))
def ex (K : PySem.W.Frag) : Bool := ex0 K && (ex1 K && (ex2 K))
def loose : List Str := (["__name__", "OfficeError", "BadRank", "BadKind", "BadEvent", "BadTime", "NoPerson", "BadTruth", "NoRoad", "BadLetter", "BadWishes", "BadPerson", "BadFree", "BadMatching", "BadSide", "NotStable", "BadNumber", "BadTurns", "BadRow", "BadDeed", "BadAccount", "BadName", "BadFloor", "BadBooks", "BadFee", "BadHearing", "BadHoldings", "BadItem", "NotFeasible", "BadCoins"] : List Str) ++ (["BadDebts", "NoMember", "NotPayments", "NotFailing", "BadHolds", "BadWay", "BadOutcome", "BadHall", "NotAsked", "BadTable", "BadComer", "BadCounts", "BadBook", "BadPeople", "BadRule", "BadText", "Nothing", "_law_source", "_law_draw", "_law_pick", "_law_same", "_law_pairs_one", "_law_pairs_two", "_law_held_one", "_law_held_two", "_law_is_these", "_law_is_those"] : List Str)
def tf : List He.Defn := []
abbrev R : PySem.W.OpenRow := PySem.W.OpenLaw.row PySem.Challenge.rw_seatroads_k87_errors_made
abbrev hk : PySem.W.Hook := He.hookXS 4 fa fn tf ex
def ob (s : PySem.W.SharedT) : He.AlX := He.obsXS 4 fa fn tf ex (HandSHeadRun.getT s)
theorem ob_eq (s : PySem.W.SharedT) : ob s = hk.obs s.abs := He.obsXS_eq (HandSHeadRun.getT_eq s)
abbrev hk0 : PySem.W.Hook := He.hookXS 4 fa fn tf ex0
def ob0 (s : PySem.W.SharedT) : He.AlX := He.obsXS 4 fa fn tf ex0 (HandSHeadRun.getT s)
theorem run0 (w : World) : HandSHeadRun.RunEq R (PySem.W.view R.prog [58]) hk0 ob0 30000 loose w := by
  intro os
  kernel_rfl
abbrev hk1 : PySem.W.Hook := He.hookXS 4 [] [] [] ex1
def ob1 (s : PySem.W.SharedT) : He.AlX := He.obsXS 4 [] [] [] ex1 (HandSHeadRun.getT s)
theorem run1 (w : World) : HandSHeadRun.RunEq R (PySem.W.view R.prog [58]) hk1 ob1 30000 loose w := by
  intro os
  kernel_rfl
abbrev hk2 : PySem.W.Hook := He.hookXS 4 [] [] [] ex2
def ob2 (s : PySem.W.SharedT) : He.AlX := He.obsXS 4 [] [] [] ex2 (HandSHeadRun.getT s)
theorem run2 (w : World) : HandSHeadRun.RunEq R (PySem.W.view R.prog [58]) hk2 ob2 30000 loose w := by
  intro os
  kernel_rfl
theorem run (w : World) : HandSHeadRun.RunEq R (PySem.W.view R.prog [58]) hk ob 30000 loose w := by
  intro os
  have r0 := run0 w os
  obtain ⟨s0, e0, q0⟩ := Option.map_eq_some_iff.mp r0
  have r1 := run1 w os
  obtain ⟨s1, e1, q1⟩ := Option.map_eq_some_iff.mp r1
  have r2 := run2 w os
  obtain ⟨s2, e2, q2⟩ := Option.map_eq_some_iff.mp r2
  obtain rfl := Option.some.inj (e0.symm.trans e1)
  have v1 : (ex1 (He.fragS (HandSHeadRun.getT s0) 4) && He.tabsB (HandSHeadRun.getT s0) [] (He.fragS (HandSHeadRun.getT s0) 4)) = true := congrArg (fun z : Bool × _ × He.AlX => z.2.2.2) q1
  have v1 := (Bool.and_eq_true_iff.mp v1).1
  obtain rfl := Option.some.inj (e0.symm.trans e2)
  have v2 : (ex2 (He.fragS (HandSHeadRun.getT s0) 4) && He.tabsB (HandSHeadRun.getT s0) [] (He.fragS (HandSHeadRun.getT s0) 4)) = true := congrArg (fun z : Bool × _ × He.AlX => z.2.2.2) q2
  have v2 := (Bool.and_eq_true_iff.mp v2).1
  have v0 : (ex0 (He.fragS (HandSHeadRun.getT s0) 4) && He.tabsB (HandSHeadRun.getT s0) tf (He.fragS (HandSHeadRun.getT s0) 4)) = true := congrArg (fun z : Bool × _ × He.AlX => z.2.2.2) q0
  obtain ⟨v0, vt⟩ := Bool.and_eq_true_iff.mp v0
  have vx : ex (He.fragS (HandSHeadRun.getT s0) 4) = true := by unfold ex; rw [v0, v1, v2]; rfl
  refine Option.map_eq_some_iff.mpr ⟨s0, e0, ?_⟩
  have z1 := congrArg (fun z : Bool × _ × He.AlX => z.1) q0
  have z2 := congrArg (fun z : Bool × _ × He.AlX => z.2.1) q0
  have z3 := congrArg (fun z : Bool × _ × He.AlX => z.2.2.1) q0
  refine Prod.ext z1 (Prod.ext z2 (Prod.ext z3 ?_))
  show (ex (He.fragS (HandSHeadRun.getT s0) 4) && He.tabsB (HandSHeadRun.getT s0) tf (He.fragS (HandSHeadRun.getT s0) 4)) = true
  rw [vx, vt]; rfl
end HD
set_option Elab.async false
set_option linter.all false
set_option maxRecDepth 100000
namespace DL
open PySem L2

/-- plain data -/
inductive D where
  | non | bl (b : Bool) | int (i : Int) | str (s : Str) | lst (xs : List D) | tup (xs : List D)
  | dk (kvs : List (Key × D)) | dt (kvs : List (List Key × D)) | ins (C : Str) (fs : List (Str × D)) | scr (ns : List Int) | kt (xs : List D) | raw (v : V) | tag (v : V) (d : D) | exc (C : Str) (fs : List (Str × D))

mutual
/-- the value v stands for the data d over the heap H -/
inductive Rep (K : PySem.W.Frag) (H : Hp) : V → D → Prop
  | non : Rep K H .non .non
  | bl (b : Bool) : Rep K H (.bl b) (.bl b)
  | int (i : Int) : Rep K H (.int i) (.int i)
  | str (s : Str) : Rep K H (.str s) (.str s)
  | lst {a : Addr} {vs : List V} {ds : List D} : H a = some (.lst vs) → Reps K H vs ds → Rep K H (.ref a) (.lst ds)
  | tup {a : Addr} {vs : List V} {ds : List D} : H a = some (.tup vs) → Reps K H vs ds → Rep K H (.ref a) (.tup ds)
  | kt {a : Addr} {vs : List V} {ds : List D} : SqT K H a vs → Reps K H vs ds → Rep K H (.ref a) (.kt ds)
  | dk {a : Addr} {kvs : List (Key × V)} {ps : List (Key × D)} : Rd H a (.dK kvs) → kvs.map (·.1) = ps.map (·.1) → Reps K H (kvs.map (·.2)) (ps.map (·.2)) → Rep K H (.ref a) (.dk ps)
  | dt {a : Addr} {kvs : List (List Key × V)} {ps : List (List Key × D)} : Rd H a (.dT kvs) → kvs.map (·.1) = ps.map (·.1) → Reps K H (kvs.map (·.2)) (ps.map (·.2)) → Rep K H (.ref a) (.dt ps)
  | ins {a dx : Addr} {C : Str} {fs : List (Str × V)} {ps : List (Str × D)} : H a = some (.ins (He.ga K C) dx fs) → fs.map (·.1) = ps.map (·.1) → Reps K H (fs.map (·.2)) (ps.map (·.2)) → Rep K H (.ref a) (.ins C ps)
  | scr {a : Addr} {ns : List Int} : SqL K H a (ns.map V.int) → Rep K H (.ref a) (.scr ns)
  | raw {v : V} : Rep K H v (.raw v)
  | tag {v : V} {d : D} : Rep K H v d → Rep K H v (.tag v d)
  | exc {a dx : Addr} {C : Str} {fs : List (Str × V)} {ps : List (Str × D)} : H a = some (exo a (He.ga K C) (some dx)) → H dx = some (.xd fs) → fs.map (·.1) = ps.map (·.1) → Reps K H (fs.map (·.2)) (ps.map (·.2)) → Rep K H (.ref a) (.exc C ps)
  | ex0 {a : Addr} {C : Str} : H a = some (exo a (He.ga K C) none) → Rep K H (.ref a) (.exc C [])
inductive Reps (K : PySem.W.Frag) (H : Hp) : List V → List D → Prop
  | nil : Reps K H [] []
  | cons {v : V} {vs : List V} {d : D} {ds : List D} : Rep K H v d → Reps K H vs ds → Reps K H (v :: vs) (d :: ds)
end

/-- what stood stands -/
def Ex (H H' : Hp) : Prop := ∀ a o, H a = some o → H' a = some o
theorem Ex.refl (H : Hp) : Ex H H := fun _ _ h => h
theorem Ex.trans {H H1 H2 : Hp} (a : Ex H H1) (b : Ex H1 H2) : Ex H H2 := fun x o h => b x o (a x o h)
theorem Ex.new {H : Hp} {p : Addr} {o : HO} (h : H p = none) : Ex H (upd H p o) := fun a u e => by
  rw [upd_ne (ne_of_none e h)]
  exact e
theorem Ex.upd {G H : Hp} {p : Addr} {o : HO} (e : Ex G H) : Ex (upd G p o) (upd H p o) := fun a u q => by
  by_cases h : a = p
  · subst h; rw [upd_same] at q ⊢; exact q
  · rw [upd_ne h] at q ⊢; exact e a u q
theorem Ex.none {G H : Hp} (e : Ex G H) {a : Addr} (h : H a = Option.none) : G a = Option.none := by
  cases q : G a with
  | none => rfl
  | some o => rw [e a o q] at h; cases h
/-- as far as it is read -/
def RdX (H H' : Hp) : Prop := (∀ a u, (match u with | .lst _ => True | .tup _ => True | .dK _ => True | .dT _ => True | _ => False) → Rd H a u → Rd H' a u) ∧ (∀ a C dx fs, H a = some (.ins C dx fs) → H' a = some (.ins C dx fs)) ∧ (∀ a xs, H a = some (.lst xs) → H' a = some (.lst xs)) ∧ (∀ a xs, H a = some (.tup xs) → H' a = some (.tup xs)) ∧ (∀ a φ, H a = some (.ext φ) → H' a = some (.ext φ)) ∧ ∀ a fs, H a = some (.xd fs) → H' a = some (.xd fs)
theorem Ex.rdx {H H' : Hp} (e : Ex H H') : RdX H H' := by
  refine ⟨fun a u _ h => ?_, fun a C dx fs h => e _ _ h, fun a xs h => e _ _ h, fun a xs h => e _ _ h, fun a φ h => e _ _ h, fun a φ h => e _ _ h⟩
  rcases h with h | ⟨o, h⟩
  · exact .inl (e a _ h)
  · exact .inr ⟨o, e a _ h⟩
theorem RdX.sqL {K : PySem.W.Frag} {H H' : Hp} {a : Addr} {xs : List V} (e : RdX H H') (h : SqL K H a xs) : SqL K H' a xs := by
  rcases h with h | h
  · exact .inl (e.1 a _ trivial h)
  · exact .inr h
theorem RdX.sqT {K : PySem.W.Frag} {H H' : Hp} {a : Addr} {xs : List V} (e : RdX H H') (h : SqT K H a xs) : SqT K H' a xs := by
  rcases h with h | h
  · exact .inl (e.1 a _ trivial h)
  · exact .inr h
mutual
theorem Rep.rdx {K : PySem.W.Frag} {H H' : Hp} (e : RdX H H') : ∀ {v : V} {d : D}, Rep K H v d → Rep K H' v d
  | _, _, .non => .non
  | _, _, .bl b => .bl b
  | _, _, .int i => .int i
  | _, _, .str s => .str s
  | _, _, .lst h r => .lst (e.2.2.1 _ _ h) (Reps.rdx e r)
  | _, _, .tup h r => .tup (e.2.2.2.1 _ _ h) (Reps.rdx e r)
  | _, _, .kt h r => .kt (e.sqT h) (Reps.rdx e r)
  | _, _, .dk h k r => .dk (e.1 _ _ trivial h) k (Reps.rdx e r)
  | _, _, .dt h k r => .dt (e.1 _ _ trivial h) k (Reps.rdx e r)
  | _, _, .ins h k r => .ins (e.2.1 _ _ _ _ h) k (Reps.rdx e r)
  | _, _, .scr h => .scr (e.sqL h)
  | _, _, .raw => .raw
  | _, _, .tag h => .tag (Rep.rdx e h)
  | _, _, .exc h1 h2 h3 r => .exc (e.2.2.2.2.1 _ _ h1) (e.2.2.2.2.2 _ _ h2) h3 (Reps.rdx e r)
  | _, _, .ex0 h1 => .ex0 (e.2.2.2.2.1 _ _ h1)
theorem Reps.rdx {K : PySem.W.Frag} {H H' : Hp} (e : RdX H H') : ∀ {vs : List V} {ds : List D}, Reps K H vs ds → Reps K H' vs ds
  | _, _, .nil => .nil
  | _, _, .cons h r => .cons (Rep.rdx e h) (Reps.rdx e r)
end
theorem Rep.mono {K : PySem.W.Frag} {H H' : Hp} {v : V} {d : D} (h : Rep K H v d) (e : Ex H H') : Rep K H' v d := h.rdx e.rdx
theorem Reps.mono {K : PySem.W.Frag} {H H' : Hp} {vs : List V} {ds : List D} (h : Reps K H vs ds) (e : Ex H H') : Reps K H' vs ds := h.rdx e.rdx
section
variable {K : PySem.W.Frag} {H : Hp}
theorem Reps.length : ∀ {vs : List V} {ds : List D}, Reps K H vs ds → vs.length = ds.length
  | _, _, .nil => rfl
  | _, _, .cons _ r => by simp [Reps.length r]
theorem Reps.get : ∀ {vs : List V} {ds : List D} {i : Nat} {d : D}, Reps K H vs ds → ds[i]? = some d → ∃ v, vs[i]? = some v ∧ Rep K H v d
  | _, _, _, _, .nil, e => by simp at e
  | _, _, 0, _, .cons h _, e => by simp at e; subst e; exact ⟨_, rfl, h⟩
  | _, _, i + 1, _, .cons _ r, e => by
    obtain ⟨v, h1, h2⟩ := Reps.get (i := i) r (by simpa using e)
    exact ⟨v, by simpa using h1, h2⟩
theorem Reps.getV : ∀ {vs : List V} {ds : List D} {i : Nat} {v : V}, Reps K H vs ds → vs[i]? = some v → ∃ d, ds[i]? = some d ∧ Rep K H v d
  | _, _, _, _, .nil, e => by simp at e
  | _, _, 0, _, .cons h _, e => by simp at e; subst e; exact ⟨_, rfl, h⟩
  | _, _, i + 1, _, .cons _ r, e => by
    obtain ⟨v, h1, h2⟩ := Reps.getV (i := i) r (by simpa using e)
    exact ⟨v, by simpa using h1, h2⟩
theorem Reps.append : ∀ {vs ws : List V} {ds es : List D}, Reps K H vs ds → Reps K H ws es → Reps K H (vs ++ ws) (ds ++ es)
  | _, _, _, _, .nil, s => s
  | _, _, _, _, .cons h r, s => .cons h (Reps.append r s)
theorem Reps.take : ∀ {vs : List V} {ds : List D} (n : Nat), Reps K H vs ds → Reps K H (vs.take n) (ds.take n)
  | _, _, 0, _ => .nil
  | _, _, _ + 1, .nil => .nil
  | _, _, n + 1, .cons h r => .cons h (Reps.take n r)
theorem Reps.drop : ∀ {vs : List V} {ds : List D} (n : Nat), Reps K H vs ds → Reps K H (vs.drop n) (ds.drop n)
  | _, _, 0, r => r
  | _, _, _ + 1, .nil => .nil
  | _, _, n + 1, .cons _ r => Reps.drop n r
theorem Reps.set {v : V} {d : D} (h : Rep K H v d) : ∀ {vs : List V} {ds : List D} (i : Nat), Reps K H vs ds → Reps K H (vs.set i v) (ds.set i d)
  | _, _, _, .nil => .nil
  | _, _, 0, .cons _ r => .cons h r
  | _, _, i + 1, .cons q r => .cons q (Reps.set h i r)
theorem Reps.eraseIdx : ∀ {vs : List V} {ds : List D} (i : Nat), Reps K H vs ds → Reps K H (vs.eraseIdx i) (ds.eraseIdx i)
  | _, _, _, .nil => .nil
  | _, _, 0, .cons _ r => r
  | _, _, i + 1, .cons q r => .cons q (Reps.eraseIdx i r)
theorem Reps.nil_inv {vs : List V} (h : Reps K H vs []) : vs = [] := by cases h; rfl
theorem Reps.cons_inv {vs : List V} {d : D} {ds : List D} (h : Reps K H vs (d :: ds)) : ∃ v ws, vs = v :: ws ∧ Rep K H v d ∧ Reps K H ws ds := by
  cases h with | cons a b => exact ⟨_, _, rfl, a, b⟩
theorem Reps.one {vs : List V} {d : D} (h : Reps K H vs [d]) : ∃ v, vs = [v] ∧ Rep K H v d := by
  obtain ⟨v, ws, rfl, a, b⟩ := h.cons_inv
  rw [b.nil_inv]
  exact ⟨v, rfl, a⟩
theorem Reps.two {vs : List V} {d e : D} (h : Reps K H vs [d, e]) : ∃ v w, vs = [v, w] ∧ Rep K H v d ∧ Rep K H w e := by
  obtain ⟨v, ws, rfl, a, b⟩ := h.cons_inv
  obtain ⟨w, rfl, c⟩ := b.one
  exact ⟨v, w, rfl, a, c⟩
end

/-! ### the frame F, what is shared G, the heap H -/
/-- no tuple -/
def NT (o : HO) : Prop := (∀ vs, o ≠ .tup vs) ∧ ∀ ps, o ≠ .tbl ps
theorem nt_mut {u : HO} (h : Mut (some u)) : NT u := ⟨fun vs e => by subst e; exact h, fun vs e => by subst e; exact h⟩
/-- the tables of code objects that lambdas ask: their addresses, the lambdas' names -/
class TabL where
  tabs : List (Addr × Str)
  nd : (tabs.map (·.1)).Nodup
variable [TabL]
def Tbs (F G H : Hp) : Prop := ∀ t ∈ TabL.tabs, G t.1 = none ∧ F t.1 = none ∧ ∃ ps, H t.1 = some (.tbl ps) ∧ TriplesOk ps.toList ∧ ∀ (pos : Pos) (cv : Value), codeAmong pos ps.toList = some cv → ∃ c, cv = .ref c ∧ G c = some (LamX.CodeO c t.2)
theorem Tbs.step {F G H F' G' H' : Hp} (h : Tbs F G H) (e : ∀ c q, G c = some (LamX.CodeO c q) → G' c = some (LamX.CodeO c q)) (k : ∀ t ∈ TabL.tabs, H' t.1 = H t.1 ∧ G' t.1 = none ∧ F' t.1 = none) : Tbs F' G' H' := fun t ht => by
  obtain ⟨h1, h2, ps, h3, h4, h5⟩ := h t ht
  obtain ⟨k1, k2, k3⟩ := k t ht
  exact ⟨k2, k3, ps, k1.trans h3, h4, fun pos cv hc => by
    obtain ⟨c, e1, e2⟩ := h5 pos cv hc
    exact ⟨c, e1, e c _ e2⟩⟩
/-- what stands elsewhere is no table -/
theorem Tbs.ne {F G H : Hp} (h : Tbs F G H) {p : Addr} {o : HO} (hp : H p = some o) (nt : NT o) : ∀ t ∈ TabL.tabs, t.1 ≠ p := fun t ht z => by
  obtain ⟨_, _, ps, h3, _⟩ := h t ht
  rw [z, hp] at h3
  exact nt.2 ps (Option.some.inj h3)
theorem Tbs.neN {F G H : Hp} (h : Tbs F G H) {p : Addr} (hp : H p = none) : ∀ t ∈ TabL.tabs, t.1 ≠ p := fun t ht z => by
  obtain ⟨_, _, ps, h3, _⟩ := h t ht
  rw [z, hp] at h3; cases h3
structure Wd (F G H : Hp) : Prop where
  f : Ex F H
  g : Ex G H
  fg : ∀ a o, F a = some o → G a = none
  ft : ∀ a vs, F a ≠ some (.tup vs)
  tb : Tbs F G H

/-- what is known of a slot: nothing; shared data; an object of one's own; the state of draws; a pair of two own lists of texts -/
inductive Sl where
  | un | sh (d : D) | own (a : Addr) (d : D) | drw (a : Addr) | two (k m : Addr) (xs ys : List Str)
abbrev Env := List Sl

def OwnR (K : PySem.W.Frag) (G : Hp) (o : Option HO) : D → Prop
  | .lst ds => ∃ vs, o = some (.lst vs) ∧ Reps K G vs ds
  | .dk ps => ∃ kvs, o = some (.dK kvs) ∧ kvs.map (·.1) = ps.map (·.1) ∧ Reps K G (kvs.map (·.2)) (ps.map (·.2))
  | .dt ps => ∃ kvs, o = some (.dT kvs) ∧ kvs.map (·.1) = ps.map (·.1) ∧ Reps K G (kvs.map (·.2)) (ps.map (·.2))
  | .ins C ps => ∃ dx fs, o = some (.ins (He.ga K C) dx fs) ∧ fs.map (·.1) = ps.map (·.1) ∧ Reps K G (fs.map (·.2)) (ps.map (·.2))
  | _ => False
theorem OwnR.mono {K : PySem.W.Frag} {G G' : Hp} {o : Option HO} {d : D} (h : OwnR K G o d) (x : Ex G G') : OwnR K G' o d := by
  cases d with
  | lst _ => obtain ⟨vs, e, r⟩ := h; exact ⟨vs, e, r.mono x⟩
  | dk _ => obtain ⟨vs, e, k, r⟩ := h; exact ⟨vs, e, k, r.mono x⟩
  | dt _ => obtain ⟨vs, e, k, r⟩ := h; exact ⟨vs, e, k, r.mono x⟩
  | ins _ _ => obtain ⟨dx, vs, e, k, r⟩ := h; exact ⟨dx, vs, e, k, r.mono x⟩
  | _ => exact h.elim
theorem OwnR.some {K : PySem.W.Frag} {G : Hp} {o : Option HO} {d : D} (h : OwnR K G o d) : ∃ u, o = some u ∧ Mut (some u) := by
  cases d with
  | lst _ => obtain ⟨vs, e, r⟩ := h; exact ⟨_, e, trivial⟩
  | dk _ => obtain ⟨vs, e, k, r⟩ := h; exact ⟨_, e, trivial⟩
  | dt _ => obtain ⟨vs, e, k, r⟩ := h; exact ⟨_, e, trivial⟩
  | ins _ _ => obtain ⟨dx, vs, e, k, r⟩ := h; exact ⟨_, e, trivial⟩
  | _ => exact h.elim
/-- the state of draws: three ints -/
def DrwR (o : Option HO) : Prop := ∃ x y z : Int, o = Option.some (.lst [.int x, .int y, .int z])
def SlotOk (K : PySem.W.Frag) (F G H : Hp) (s : Option V) : Sl → Prop
  | .un => True
  | .sh d => ∃ v, s = some v ∧ Rep K G v d
  | .own a d => s = some (.ref a) ∧ G a = none ∧ F a = none ∧ OwnR K G (H a) d
  | .drw a => s = some (.ref a) ∧ G a = none ∧ F a = none ∧ DrwR (H a)
  | .two k m xs ys => (∃ t, s = some (.ref t) ∧ G t = some (.tup [.ref k, .ref m])) ∧ G k = none ∧ F k = none ∧ G m = none ∧ F m = none ∧ H k = some (.lst (xs.map V.str)) ∧ H m = some (.lst (ys.map V.str))
/-- the addresses that are a slot's own -/
def Sl.adr : Sl → List Addr
  | .own a _ => [a]
  | .drw a => [a]
  | .two k m _ _ => [k, m]
  | _ => []
def ownA (ρ : Env) : List Addr := ρ.flatMap Sl.adr
def Slots (K : PySem.W.Frag) (F G H : Hp) : L2.St → Env → Prop
  | [], [] => True
  | s :: σ, r :: ρ => SlotOk K F G H s r ∧ Slots K F G H σ ρ
  | _, _ => False
structure RE (K : PySem.W.Frag) (F G H : Hp) (σ : L2.St) (ρ : Env) : Prop where
  wd : Wd F G H
  sl : Slots K F G H σ ρ
  nd : (ownA ρ).Nodup
section
variable {K : PySem.W.Frag} {F F' G H G' H' : Hp} {σ : L2.St} {ρ : Env} {s : Option V} {r : Sl}
theorem SlotOk.own (h : SlotOk K F G H s r) {a : Addr} (m : a ∈ r.adr) : G a = none ∧ F a = none ∧ ∃ u, H a = some u ∧ NT u := by
  cases r with
  | un => cases m
  | sh d => cases m
  | own b d =>
    obtain ⟨_, h1, h2, h3⟩ := h
    rw [List.mem_singleton.mp m]
    obtain ⟨u, h4, h5⟩ := h3.some
    exact ⟨h1, h2, u, h4, nt_mut h5⟩
  | drw b =>
    obtain ⟨_, h1, h2, x, y, z, h3⟩ := h
    rw [List.mem_singleton.mp m]
    exact ⟨h1, h2, _, h3, ⟨fun _ z => (nomatch z), fun _ z => (nomatch z)⟩⟩
  | two k l xs ys =>
    obtain ⟨_, h1, h2, h3, h4, h5, h6⟩ := h
    rcases List.mem_cons.mp m with e | m
    · rw [e]; exact ⟨h1, h2, _, h5, ⟨fun _ z => (nomatch z), fun _ z => (nomatch z)⟩⟩
    · rw [List.mem_singleton.mp m]; exact ⟨h3, h4, _, h6, ⟨fun _ z => (nomatch z), fun _ z => (nomatch z)⟩⟩
theorem SlotOk.step (h : SlotOk K F G H s r) (e : Ex G G') (k : ∀ a ∈ r.adr, H' a = H a ∧ G' a = none) : SlotOk K F G' H' s r := by
  cases r with
  | un => trivial
  | sh d => obtain ⟨v, h1, h2⟩ := h; exact ⟨v, h1, h2.mono e⟩
  | own b d =>
    obtain ⟨h0, h1, h2, h3⟩ := h
    have kb := k b (List.mem_singleton.mpr rfl)
    exact ⟨h0, kb.2, h2, by rw [kb.1]; exact h3.mono e⟩
  | drw b =>
    obtain ⟨h0, h1, h2, h3⟩ := h
    have kb := k b (List.mem_singleton.mpr rfl)
    exact ⟨h0, kb.2, h2, by rw [kb.1]; exact h3⟩
  | two p q xs ys =>
    obtain ⟨⟨t, h0, ht⟩, h1, h2, h3, h4, h5, h6⟩ := h
    have kp := k p List.mem_cons_self
    have kq := k q (List.mem_cons_of_mem _ (List.mem_singleton.mpr rfl))
    exact ⟨⟨t, h0, e _ _ ht⟩, kp.2, h2, kq.2, h4, by rw [kp.1]; exact h5, by rw [kq.1]; exact h6⟩
theorem SlotOk.frm (h : SlotOk K F G H s r) (k : ∀ a ∈ r.adr, F' a = none) : SlotOk K F' G H s r := by
  cases r with
  | un => trivial
  | sh d => exact h
  | own b d => obtain ⟨h0, h1, h2, h3⟩ := h; exact ⟨h0, h1, k b (List.mem_singleton.mpr rfl), h3⟩
  | drw b => obtain ⟨h0, h1, h2, h3⟩ := h; exact ⟨h0, h1, k b (List.mem_singleton.mpr rfl), h3⟩
  | two p q xs ys =>
    obtain ⟨h0, h1, h2, h3, h4, h5, h6⟩ := h
    exact ⟨h0, h1, k p List.mem_cons_self, h3, k q (List.mem_cons_of_mem _ (List.mem_singleton.mpr rfl)), h5, h6⟩
theorem ownA_cons : ownA (r :: ρ) = r.adr ++ ownA ρ := List.flatMap_cons
theorem Slots.length : ∀ {σ : L2.St} {ρ : Env}, Slots K F G H σ ρ → σ.length = ρ.length
  | [], [], _ => rfl
  | [], _ :: _, h => h.elim
  | _ :: _, [], h => h.elim
  | _ :: _, _ :: _, h => by simp [Slots.length h.2]
theorem Slots.get : ∀ {σ : L2.St} {ρ : Env} {i : Nat} {r : Sl}, Slots K F G H σ ρ → ρ[i]? = some r → ∃ s, σ[i]? = some s ∧ SlotOk K F G H s r
  | [], [], _, _, _, e => by simp at e
  | [], _ :: _, _, _, h, _ => h.elim
  | _ :: _, [], _, _, h, _ => h.elim
  | s :: σ, r :: ρ, 0, _, h, e => by simp at e; subst e; exact ⟨s, rfl, h.1⟩
  | s :: σ, r :: ρ, i + 1, _, h, e => by
    obtain ⟨s', h1, h2⟩ := Slots.get (i := i) h.2 (by simpa using e)
    exact ⟨s', by simpa using h1, h2⟩
/-- slot by slot -/
theorem Slots.map {F' G' H' : Hp} : ∀ {σ : L2.St} {ρ : Env}, Slots K F G H σ ρ → (∀ (i : Nat) s r, σ[i]? = some s → ρ[i]? = some r → SlotOk K F G H s r → SlotOk K F' G' H' s r) → Slots K F' G' H' σ ρ
  | [], [], _, _ => trivial
  | [], _ :: _, h, _ => h.elim
  | _ :: _, [], h, _ => h.elim
  | s :: σ, r :: ρ, h, k => ⟨k 0 s r rfl rfl h.1, Slots.map h.2 fun i s' r' hs hr => k (i + 1) s' r' (by simpa using hs) (by simpa using hr)⟩
theorem adr_mem {i : Nat} {a : Addr} (h : ρ[i]? = some r) (m : a ∈ r.adr) : a ∈ ownA ρ := List.mem_flatMap.mpr ⟨r, List.mem_of_getElem? h, m⟩
/-- an address that the slots call theirs -/
theorem Slots.own : ∀ {σ : L2.St} {ρ : Env} {a : Addr}, Slots K F G H σ ρ → a ∈ ownA ρ → G a = none ∧ F a = none ∧ ∃ u, H a = some u ∧ NT u
  | [], [], _, _, m => by cases m
  | [], _ :: _, _, h, _ => h.elim
  | _ :: _, [], _, h, _ => h.elim
  | s :: σ, r :: ρ, a, h, m => by
    rw [ownA_cons] at m
    rcases List.mem_append.mp m with m | m
    · exact h.1.own m
    · exact Slots.own h.2 m
/-- slots stay where what is shared grows, and what is theirs is kept -/
theorem Slots.step (e : Ex G G') (k : ∀ a, a ∈ ownA ρ → H' a = H a ∧ G' a = none) (h : Slots K F G H σ ρ) : Slots K F G' H' σ ρ :=
  h.map fun i s r _ hr q => q.step e fun a m => k a (adr_mem hr m)
theorem Slots.set {s : Option V} {r : Sl} (hs : SlotOk K F G H s r) : ∀ {σ : L2.St} {ρ : Env} (i : Nat), Slots K F G H σ ρ → Slots K F G H (σ.set i s) (ρ.set i r)
  | [], [], _, _ => trivial
  | [], _ :: _, _, h => h.elim
  | _ :: _, [], _, h => h.elim
  | _ :: _, _ :: _, 0, h => ⟨hs, h.2⟩
  | _ :: _, _ :: _, i + 1, h => ⟨h.1, Slots.set hs i h.2⟩
theorem ownA_set0 (hr : r.adr = []) : ∀ {ρ : Env} (i : Nat), (ownA (ρ.set i r)).Sublist (ownA ρ)
  | [], _ => List.Sublist.refl _
  | r0 :: ρ, 0 => by
    show (ownA (r :: ρ)).Sublist _
    rw [ownA_cons, ownA_cons, hr]
    exact List.sublist_append_right _ _
  | r0 :: ρ, i + 1 => by
    show (ownA (r0 :: ρ.set i r)).Sublist _
    rw [ownA_cons, ownA_cons]
    exact (ownA_set0 hr i).append_left _
/-- a slot's addresses become fewer -/
theorem ownA_setr {r r' : Sl} (ha : r'.adr.Sublist r.adr) : ∀ {ρ : Env} {i : Nat}, ρ[i]? = some r → (ownA (ρ.set i r')).Sublist (ownA ρ)
  | [], _, e => by simp at e
  | r0 :: ρ, 0, e => by
    simp at e; subst e
    show (ownA (r' :: ρ)).Sublist _
    rw [ownA_cons, ownA_cons]
    exact ha.append_right _
  | r0 :: ρ, i + 1, e => by
    show (ownA (r0 :: ρ.set i r')).Sublist _
    rw [ownA_cons, ownA_cons]
    exact (ownA_setr ha (by simpa using e)).append_left _
theorem RE.setSh {v : V} {d : D} (R : RE K F G H σ ρ) (hv : Rep K G v d) (i : Nat) : RE K F G H (σ.set i (some v)) (ρ.set i (.sh d)) :=
  ⟨R.wd, R.sl.set (r := .sh d) ⟨v, rfl, hv⟩ i, List.Nodup.sublist (ownA_set0 rfl i) R.nd⟩
theorem RE.setUn {s : Option V} (R : RE K F G H σ ρ) (i : Nat) : RE K F G H (σ.set i s) (ρ.set i .un) :=
  ⟨R.wd, R.sl.set (r := .un) trivial i, List.Nodup.sublist (ownA_set0 rfl i) R.nd⟩
/-- a new shared object -/
theorem RE.new {p : Addr} {o : HO} (R : RE K F G H σ ρ) (h : H p = none) : RE K F (upd G p o) (upd H p o) σ ρ := by
  refine ⟨⟨fun a u e => ?_, R.wd.g.upd, fun a u e => ?_, R.wd.ft, R.wd.tb.step (fun c q z => Ex.new (R.wd.g.none h) _ _ z) fun t ht => ?_⟩, R.sl.step (Ex.new (R.wd.g.none h)) (fun a m => ?_), R.nd⟩
  · exact (Ex.new h) a u (R.wd.f a u e)
  · rw [upd_ne (ne_of_none (R.wd.f a u e) h)]; exact R.wd.fg a u e
  · have ne := R.wd.tb.neN h t ht
    obtain ⟨g1, g2, _⟩ := R.wd.tb t ht
    rw [upd_ne ne, upd_ne ne]
    exact ⟨rfl, g1, g2⟩
  · obtain ⟨h1, h2, u, h3, _⟩ := R.sl.own m
    have ne := ne_of_none h3 h
    rw [upd_ne ne, upd_ne ne]
    exact ⟨rfl, h1⟩
end

/-! ### readings over data -/
section
variable {K : PySem.W.Frag}
def EvW (K : PySem.W.Frag) (te : TE) (ρ : Env) (Q : D → Env → Prop) : Prop := ∀ F G H σ, RE K F G H σ ρ → ∀ Q' : VK,
  (∀ v d ρ' G' H', Ex G G' → RE K F G' H' σ ρ' → Rep K G' v d → Q d ρ' → Q' v H') → te σ H Q'
/-- a new object that nobody else knows -/
def EvN (K : PySem.W.Frag) (te : TE) (ρ : Env) (Q : D → Env → Prop) : Prop := ∀ F G H σ, RE K F G H σ ρ → ∀ Q' : VK,
  (∀ p d ρ' G' H', Ex G G' → RE K F G' H' σ ρ' → G' p = none → F p = none → p ∉ ownA ρ' → OwnR K G' (H' p) d → Q d ρ' → Q' (.ref p) H') → te σ H Q'
def EvT (K : PySem.W.Frag) (tt : TT) (ρ : Env) (Q : Bool → Env → Prop) : Prop := ∀ F G H σ, RE K F G H σ ρ → ∀ Q' : Bool → Hp → Prop,
  (∀ b ρ' G' H', Ex G G' → RE K F G' H' σ ρ' → Q b ρ' → Q' b H') → tt σ H Q'
def EvA (K : PySem.W.Frag) (ta : TA) (ρ : Env) (Q : List D → Env → Prop) : Prop := ∀ F G H σ, RE K F G H σ ρ → ∀ Q' : List V → Hp → Prop,
  (∀ vs ds ρ' G' H', Ex G G' → RE K F G' H' σ ρ' → Reps K G' vs ds → Q ds ρ' → Q' vs H') → ta σ H Q'
def EvO (K : PySem.W.Frag) (to : TO) (ρ : Env) (Q : Option Int → Env → Prop) : Prop := ∀ F G H σ, RE K F G H σ ρ → ∀ Q' : Option Int → Hp → Prop,
  (∀ o ρ' G' H', Ex G G' → RE K F G' H' σ ρ' → Q o ρ' → Q' o H') → to σ H Q'
/-- an operation on values: one, two, many -/
def Op1 (K : PySem.W.Frag) (r : V → Hp → VK → Prop) (x : D) (ρ : Env) (Q : D → Env → Prop) : Prop := ∀ F G H σ, RE K F G H σ ρ → ∀ v, Rep K G v x → ∀ Q' : VK,
  (∀ z d ρ' G' H', Ex G G' → RE K F G' H' σ ρ' → Rep K G' z d → Q d ρ' → Q' z H') → r v H Q'
def Op2 (K : PySem.W.Frag) (r : R2) (x y : D) (ρ : Env) (Q : D → Env → Prop) : Prop := ∀ F G H σ, RE K F G H σ ρ → ∀ v w, Rep K G v x → Rep K G w y → ∀ Q' : VK,
  (∀ z d ρ' G' H', Ex G G' → RE K F G' H' σ ρ' → Rep K G' z d → Q d ρ' → Q' z H') → r v w H Q'
def OpA (K : PySem.W.Frag) (r : List V → Hp → VK → Prop) (xs : List D) (ρ : Env) (Q : D → Env → Prop) : Prop := ∀ F G H σ, RE K F G H σ ρ → ∀ vs, Reps K G vs xs → ∀ Q' : VK,
  (∀ z d ρ' G' H', Ex G G' → RE K F G' H' σ ρ' → Rep K G' z d → Q d ρ' → Q' z H') → r vs H Q'
/-- .. that gives a new object -/
def OpN (K : PySem.W.Frag) (r : List V → Hp → VK → Prop) (xs : List D) (ρ : Env) (Q : D → Env → Prop) : Prop := ∀ F G H σ, RE K F G H σ ρ → ∀ vs, Reps K G vs xs → ∀ Q' : VK,
  (∀ p d ρ' G' H', Ex G G' → RE K F G' H' σ ρ' → G' p = none → F p = none → p ∉ ownA ρ' → OwnR K G' (H' p) d → Q d ρ' → Q' (.ref p) H') → r vs H Q'
variable {te ta tb tc : TE} {tt tu : TT} {ts : TA} {ρ : Env} {Q : D → Env → Prop}
theorem ew_weak {Q₁ : D → Env → Prop} (h : EvW K te ρ Q₁) (w : ∀ d ρ', Q₁ d ρ' → Q d ρ') : EvW K te ρ Q := fun F G H σ R Q' k => h F G H σ R Q' fun v d ρ' G' H' e R' hv q => k v d ρ' G' H' e R' hv (w d ρ' q)
theorem et_weak {Q Q₁ : Bool → Env → Prop} (h : EvT K tt ρ Q₁) (w : ∀ d ρ', Q₁ d ρ' → Q d ρ') : EvT K tt ρ Q := fun F G H σ R Q' k => h F G H σ R Q' fun v ρ' G' H' e R' q => k v ρ' G' H' e R' (w v ρ' q)
theorem ew_var {i : Nat} {d : D} (h : ρ[i]? = some (.sh d)) (q : Q d ρ) : EvW K (tVar i) ρ Q := fun F G H σ R Q' k => by
  obtain ⟨s, e, v, rfl, hv⟩ := R.sl.get h
  exact ⟨v, e, k v d ρ G H (Ex.refl G) R hv q⟩
theorem ew_int {i : Int} (q : Q (.int i) ρ) : EvW K (tC (.int i)) ρ Q := fun F G H σ R Q' k => k _ _ ρ G H (Ex.refl G) R (.int i) q
theorem ew_str {s : Str} (q : Q (.str s) ρ) : EvW K (tC (.str s)) ρ Q := fun F G H σ R Q' k => k _ _ ρ G H (Ex.refl G) R (.str s) q
theorem ew_bl {b : Bool} (q : Q (.bl b) ρ) : EvW K (tC (.bl b)) ρ Q := fun F G H σ R Q' k => k _ _ ρ G H (Ex.refl G) R (.bl b) q
theorem ew_non (q : Q .non ρ) : EvW K (tC .non) ρ Q := fun F G H σ R Q' k => k _ _ ρ G H (Ex.refl G) R .non q
/-- a constant of the top -/
theorem ew_c {v : V} {d : D} (h : ∀ G, Rep K G v d) (q : Q d ρ) : EvW K (tC v) ρ Q := fun F G H σ R Q' k => k _ _ ρ G H (Ex.refl G) R (h G) q
theorem ew_un {r : V → Hp → VK → Prop} (h : EvW K ta ρ fun x ρ1 => Op1 K r x ρ1 Q) : EvW K (tUn r ta) ρ Q := fun F G H σ R Q' k =>
  h F G H σ R _ fun v x ρ1 G1 H1 e1 R1 hv q => q F G1 H1 σ R1 v hv Q' fun z d ρ' G' H' e' R' hz qz => k z d ρ' G' H' (e1.trans e') R' hz qz
theorem ew_op {r : R2} (h : EvW K ta ρ fun x ρ1 => EvW K tb ρ1 fun y ρ2 => Op2 K r x y ρ2 Q) : EvW K (tOp r ta tb) ρ Q := fun F G H σ R Q' k =>
  h F G H σ R _ fun v x ρ1 G1 H1 e1 R1 hv q1 => q1 F G1 H1 σ R1 _ fun w y ρ2 G2 H2 e2 R2 hw q2 =>
    q2 F G2 H2 σ R2 v w (hv.mono e2) hw Q' fun z d ρ' G' H' e' R' hz qz => k z d ρ' G' H' ((e1.trans e2).trans e') R' hz qz
theorem ea_nil {Q : List D → Env → Prop} (q : Q [] ρ) : EvA K tNil ρ Q := fun F G H σ R Q' k => k [] [] ρ G H (Ex.refl G) R .nil q
theorem ea_cons {Q : List D → Env → Prop} (h : EvW K ta ρ fun x ρ1 => EvA K ts ρ1 fun xs ρ2 => Q (x :: xs) ρ2) : EvA K (tCons ta ts) ρ Q := fun F G H σ R Q' k =>
  h F G H σ R _ fun v x ρ1 G1 H1 e1 R1 hv q1 => q1 F G1 H1 σ R1 _ fun vs xs ρ2 G2 H2 e2 R2 hvs q2 => k _ _ ρ2 G2 H2 (e1.trans e2) R2 (.cons (hv.mono e2) hvs) q2
theorem ew_cb {r : List V → Hp → VK → Prop} (h : EvA K ts ρ fun xs ρ1 => OpA K r xs ρ1 Q) : EvW K (tCB r ts) ρ Q := fun F G H σ R Q' k =>
  h F G H σ R _ fun vs xs ρ1 G1 H1 e1 R1 hv q => q F G1 H1 σ R1 vs hv Q' fun z d ρ' G' H' e' R' hz qz => k z d ρ' G' H' (e1.trans e') R' hz qz
theorem en_cb {r : List V → Hp → VK → Prop} (h : EvA K ts ρ fun xs ρ1 => OpN K r xs ρ1 Q) : EvN K (tCB r ts) ρ Q := fun F G H σ R Q' k =>
  h F G H σ R _ fun vs xs ρ1 G1 H1 e1 R1 hv q => q F G1 H1 σ R1 vs hv Q' fun p d ρ' G' H' e' R' a b c o qz => k p d ρ' G' H' (e1.trans e') R' a b c o qz
/-- what is new may be shared -/
theorem ownR_rep {G G' : Hp} {p : Addr} {o : Option HO} {d : D} (h : OwnR K G o d) (e : G' p = o) (x : Ex G G') : Rep K G' (.ref p) d := by
  cases d with
  | lst _ => obtain ⟨vs, e1, r⟩ := h; exact .lst (e.trans e1) (r.mono x)
  | dk _ => obtain ⟨vs, e1, k, r⟩ := h; exact .dk (.inl (e.trans e1)) k (r.mono x)
  | dt _ => obtain ⟨vs, e1, k, r⟩ := h; exact .dt (.inl (e.trans e1)) k (r.mono x)
  | ins _ _ => obtain ⟨dx, vs, e1, k, r⟩ := h; exact .ins (e.trans e1) k (r.mono x)
  | _ => exact h.elim
theorem RE.share {F G H : Hp} {σ : L2.St} {ρ : Env} (R : RE K F G H σ ρ) {p : Addr} {o : HO} (hp : H p = some o) (hG : G p = none) (hF : F p = none) (hO : p ∉ ownA ρ) (nt : ∀ ps, o ≠ .tbl ps) : RE K F (upd G p o) H σ ρ := by
  refine ⟨⟨R.wd.f, fun a u e => ?_, fun a u e => ?_, R.wd.ft, R.wd.tb.step (fun c q z => Ex.new hG _ _ z) fun t ht => ?_⟩, R.sl.step (Ex.new hG) (fun a m => ?_), R.nd⟩
  · by_cases q : a = p
    · subst q; rw [upd_same] at e; cases e; exact hp
    · rw [upd_ne q] at e; exact R.wd.g a u e
  · by_cases q : a = p
    · subst q; rw [hF] at e; cases e
    · rw [upd_ne q]; exact R.wd.fg a u e
  · obtain ⟨g1, g2, ps, g3, _⟩ := R.wd.tb t ht
    have ne : t.1 ≠ p := fun z => by rw [z, hp] at g3; exact nt ps (Option.some.inj g3)
    rw [upd_ne ne]
    exact ⟨rfl, g1, g2⟩
  · have ne : a ≠ p := fun z => hO (z ▸ m)
    rw [upd_ne ne]
    exact ⟨rfl, (R.sl.own m).1⟩
theorem ew_new (h : EvN K te ρ Q) : EvW K te ρ Q := fun F G H σ R Q' k => h F G H σ R Q' fun p d ρ' G' H' e R' hG hF hO o q => by
  obtain ⟨u, hu, hm⟩ := o.some
  refine k (.ref p) d ρ' (upd G' p u) H' (e.trans (Ex.new hG)) (R'.share hu hG hF hO (nt_mut hm).2) (ownR_rep o (by rw [upd_same, hu]) (Ex.new hG)) q
theorem ownA_fresh {F G H : Hp} {σ : L2.St} {ρ : Env} (R : RE K F G H σ ρ) {p : Addr} (h : H p = none) : p ∉ ownA ρ := fun m => by
  obtain ⟨_, _, u, e, _⟩ := R.sl.own m
  rw [h] at e; cases e
/-- a new object, nobody's yet -/
theorem RE.alone {F G H : Hp} {σ : L2.St} {ρ : Env} (R : RE K F G H σ ρ) {p : Addr} {o : HO} (h : H p = none) : RE K F G (upd H p o) σ ρ := by
  refine ⟨⟨R.wd.f.trans (Ex.new h), R.wd.g.trans (Ex.new h), R.wd.fg, R.wd.ft, R.wd.tb.step (fun _ _ z => z) fun t ht => ⟨upd_ne (R.wd.tb.neN h t ht), (R.wd.tb t ht).1, (R.wd.tb t ht).2.1⟩⟩, R.sl.step (Ex.refl G) (fun a m => ?_), R.nd⟩
  obtain ⟨h1, h2, u, h3, _⟩ := R.sl.own m
  exact ⟨upd_ne (ne_of_none h3 h), h1⟩
theorem big {n : Nat} (h : n ≤ 100000) : n ≤ sizeLine := Nat.le_trans h (by decide)
theorem bigl {n : Nat} (h : n < 100000) : n < sizeLine := Nat.lt_of_lt_of_le h (by decide)
theorem en_lst (h : EvA K ts ρ fun xs ρ1 => xs.length ≤ 100000 ∧ Q (.lst xs) ρ1) : EvN K (tLst ts) ρ Q := fun F G H σ R Q' k =>
  h F G H σ R _ fun vs xs ρ1 G1 H1 e1 R1 hv q => ⟨by rw [hv.length]; exact big q.1, fun p hp => k p (.lst xs) ρ1 G1 _ e1 (R1.alone hp) (R1.wd.g.none hp) (R1.wd.f.none hp) (ownA_fresh R1 hp) ⟨vs, upd_same, hv⟩ q.2⟩
theorem ew_tup (h : EvA K ts ρ fun xs ρ1 => xs.length ≤ 100000 ∧ Q (.tup xs) ρ1) : EvW K (tTup ts) ρ Q := fun F G H σ R Q' k =>
  h F G H σ R _ fun vs xs ρ1 G1 H1 e1 R1 hv q => ⟨by rw [hv.length]; exact big q.1, fun p hp => k (.ref p) (.tup xs) ρ1 _ _ (e1.trans (Ex.new (R1.wd.g.none hp))) (R1.new hp) (.tup upd_same (hv.mono (Ex.new (R1.wd.g.none hp)))) q.2⟩
theorem en_dnewK (q : Q (.dk []) ρ) : EvN K tDNewK ρ Q := fun F G H σ R Q' k p hp => k p (.dk []) ρ G _ (Ex.refl G) (R.alone hp) (R.wd.g.none hp) (R.wd.f.none hp) (ownA_fresh R hp) ⟨[], upd_same, rfl, .nil⟩ q
theorem en_dnewT (q : Q (.dt []) ρ) : EvN K tDNewT ρ Q := fun F G H σ R Q' k p hp => k p (.dt []) ρ G _ (Ex.refl G) (R.alone hp) (R.wd.g.none hp) (R.wd.f.none hp) (ownA_fresh R hp) ⟨[], upd_same, rfl, .nil⟩ q
/-! tests -/
theorem rep_bl {H : Hp} {v : V} {b : Bool} (h : Rep K H v (.bl b)) : v = .bl b := by cases h; rfl
theorem rep_int {H : Hp} {v : V} {b : Int} (h : Rep K H v (.int b)) : v = .int b := by cases h; rfl
theorem rep_str {H : Hp} {v : V} {b : Str} (h : Rep K H v (.str b)) : v = .str b := by cases h; rfl
theorem rep_non {H : Hp} {v : V} (h : Rep K H v .non) : v = .non := by cases h; rfl
theorem et_test {Q : Bool → Env → Prop} (h : EvW K te ρ fun d ρ1 => ∃ b, d = .bl b ∧ Q b ρ1) : EvT K (tTest te) ρ Q := fun F G H σ R Q' k =>
  h F G H σ R _ fun v d ρ1 G1 H1 e1 R1 hv q => by
    obtain ⟨b, rfl, q⟩ := q
    exact ⟨b, rep_bl hv, k b ρ1 G1 H1 e1 R1 q⟩
theorem et_B {Q : Bool → Env → Prop} (h : EvW K te ρ fun d ρ1 => ∃ b, d = .bl b ∧ Q b ρ1) : EvT K (tB te) ρ Q := fun F G H σ R Q' k =>
  h F G H σ R _ fun v d ρ1 G1 H1 e1 R1 hv q => by
    obtain ⟨b, rfl, q⟩ := q
    exact ⟨b, rep_bl hv, k b ρ1 G1 H1 e1 R1 q⟩
theorem et_and {Q : Bool → Env → Prop} (h : EvT K tt ρ fun b ρ1 => if b = true then EvT K tu ρ1 Q else Q false ρ1) : EvT K (tAnd tt tu) ρ Q := fun F G H σ R Q' k =>
  h F G H σ R _ fun b ρ1 G1 H1 e1 R1 q => by
    cases b with
    | true => exact q F G1 H1 σ R1 Q' fun b ρ2 G2 H2 e2 R2 q2 => k b ρ2 G2 H2 (e1.trans e2) R2 q2
    | false => exact k false ρ1 G1 H1 e1 R1 q
theorem et_or {Q : Bool → Env → Prop} (h : EvT K tt ρ fun b ρ1 => if b = true then Q true ρ1 else EvT K tu ρ1 Q) : EvT K (tOr tt tu) ρ Q := fun F G H σ R Q' k =>
  h F G H σ R _ fun b ρ1 G1 H1 e1 R1 q => by
    cases b with
    | false => exact q F G1 H1 σ R1 Q' fun b ρ2 G2 H2 e2 R2 q2 => k b ρ2 G2 H2 (e1.trans e2) R2 q2
    | true => exact k true ρ1 G1 H1 e1 R1 q
theorem et_not {Q : Bool → Env → Prop} (h : EvT K tt ρ fun b ρ1 => Q (!b) ρ1) : EvT K (tNot tt) ρ Q := fun F G H σ R Q' k =>
  h F G H σ R _ fun b ρ1 G1 H1 e1 R1 q => k (!b) ρ1 G1 H1 e1 R1 q
theorem et_yes {Q : Bool → Env → Prop} (q : Q true ρ) : EvT K tYes ρ Q := fun F G H σ R Q' k => k true ρ G H (Ex.refl G) R q
theorem ew_andV (h : EvW K ta ρ fun x ρ1 => ∃ c, x = .bl c ∧ if c = true then EvW K tb ρ1 Q else Q (.bl false) ρ1) : EvW K (tAndV ta tb) ρ Q := fun F G H σ R Q' k =>
  h F G H σ R _ fun v x ρ1 G1 H1 e1 R1 hv q => by
    obtain ⟨c, rfl, q⟩ := q
    refine ⟨c, rep_bl hv, ?_⟩
    cases c with
    | true => exact q F G1 H1 σ R1 Q' fun v d ρ2 G2 H2 e2 R2 hv q2 => k v d ρ2 G2 H2 (e1.trans e2) R2 hv q2
    | false => exact k _ _ ρ1 G1 H1 e1 R1 (.bl false) q
theorem ew_orV (h : EvW K ta ρ fun x ρ1 => ∃ c, x = .bl c ∧ if c = true then Q (.bl true) ρ1 else EvW K tb ρ1 Q) : EvW K (tOrV ta tb) ρ Q := fun F G H σ R Q' k =>
  h F G H σ R _ fun v x ρ1 G1 H1 e1 R1 hv q => by
    obtain ⟨c, rfl, q⟩ := q
    refine ⟨c, rep_bl hv, ?_⟩
    cases c with
    | false => exact q F G1 H1 σ R1 Q' fun v d ρ2 G2 H2 e2 R2 hv q2 => k v d ρ2 G2 H2 (e1.trans e2) R2 hv q2
    | true => exact k _ _ ρ1 G1 H1 e1 R1 (.bl true) q
theorem ew_notV (h : EvW K ta ρ fun x ρ1 => ∃ c, x = .bl c ∧ Q (.bl (!c)) ρ1) : EvW K (tNotV ta) ρ Q := fun F G H σ R Q' k =>
  h F G H σ R _ fun v x ρ1 G1 H1 e1 R1 hv q => by
    obtain ⟨c, rfl, q⟩ := q
    exact ⟨c, rep_bl hv, k _ _ ρ1 G1 H1 e1 R1 (.bl _) q⟩
theorem ew_if (h : EvT K tt ρ fun b ρ1 => if b = true then EvW K ta ρ1 Q else EvW K tb ρ1 Q) : EvW K (tIf tt ta tb) ρ Q := fun F G H σ R Q' k =>
  h F G H σ R _ fun b ρ1 G1 H1 e1 R1 q => by
    cases b with
    | true => exact q F G1 H1 σ R1 Q' fun v d ρ2 G2 H2 e2 R2 hv q2 => k v d ρ2 G2 H2 (e1.trans e2) R2 hv q2
    | false => exact q F G1 H1 σ R1 Q' fun v d ρ2 G2 H2 e2 R2 hv q2 => k v d ρ2 G2 H2 (e1.trans e2) R2 hv q2
theorem ew_chain {r r' : R2} (h : EvW K ta ρ fun x ρ1 => EvW K tb ρ1 fun y ρ2 => Op2 K r x y ρ2 fun z ρ3 => ∃ c, z = .bl c ∧ if c = true then EvW K tc ρ3 fun w ρ4 => Op2 K r' y w ρ4 Q else Q (.bl false) ρ3) : EvW K (tChain r r' ta tb tc) ρ Q := fun F G H σ R Q' k =>
  h F G H σ R _ fun v x ρ1 G1 H1 e1 R1 hv q1 => q1 F G1 H1 σ R1 _ fun w y ρ2 G2 H2 e2 R2 hw q2 =>
    q2 F G2 H2 σ R2 v w (hv.mono e2) hw _ fun z d ρ3 G3 H3 e3 R3 hz qz => by
      obtain ⟨c, rfl, q⟩ := qz
      refine ⟨c, rep_bl hz, ?_⟩
      cases c with
      | true => exact q F G3 H3 σ R3 _ fun u d ρ4 G4 H4 e4 R4 hu q4 => q4 F G4 H4 σ R4 w u (hw.mono (e3.trans e4)) hu Q' fun z d ρ5 G5 H5 e5 R5 hz q5 => k z d ρ5 G5 H5 ((((e1.trans e2).trans e3).trans e4).trans e5) R5 hz q5
      | false => exact k _ _ ρ3 G3 H3 ((e1.trans e2).trans e3) R3 (.bl false) q
end
end DL

set_option Elab.async false
set_option linter.all false
set_option maxRecDepth 100000
namespace DL
open PySem L2
variable [TabL]
section
variable {K : PySem.W.Frag} {F G H G' H' : Hp} {σ : L2.St} {ρ : Env}
/-- the frame with what is one's own -/
def addF (F H : Hp) (as : List Addr) : Hp := fun a => if a ∈ as then H a else F a
theorem addF_in {F H : Hp} {as : List Addr} {a : Addr} (h : a ∈ as) : addF F H as a = H a := if_pos h
theorem addF_out {F H : Hp} {as : List Addr} {a : Addr} (h : a ∉ as) : addF F H as a = F a := if_neg h
theorem RE.wdF (R : RE K F G H σ ρ) {as : List Addr} (sub : ∀ a ∈ as, a ∈ ownA ρ) : Wd (addF F H as) G H := by
  refine ⟨fun a o e => ?_, R.wd.g, fun a o e => ?_, fun a vs e => ?_, R.wd.tb.step (fun _ _ z => z) fun t ht => ⟨rfl, (R.wd.tb t ht).1, ?_⟩⟩
  · by_cases m : a ∈ as
    · rw [addF_in m] at e; exact e
    · rw [addF_out m] at e; exact R.wd.f a o e
  · by_cases m : a ∈ as
    · exact (R.sl.own (sub a m)).1
    · rw [addF_out m] at e; exact R.wd.fg a o e
  · by_cases m : a ∈ as
    · rw [addF_in m] at e
      obtain ⟨_, _, u, hu, nt⟩ := R.sl.own (sub a m)
      rw [hu] at e; cases e; exact nt.1 vs rfl
    · rw [addF_out m] at e; exact R.wd.ft a vs e
  · have m : t.1 ∉ as := fun m => by
      obtain ⟨_, _, u, hu, nt⟩ := R.sl.own (sub _ m)
      exact R.wd.tb.ne hu nt t ht rfl
    rw [addF_out m]
    exact (R.wd.tb t ht).2.1
theorem RE.wdB (R : RE K F G H σ ρ) {as : List Addr} (sub : ∀ a ∈ as, a ∈ ownA ρ) (W : Wd (addF F H as) G' H') : Wd F G' H' := by
  refine ⟨fun a o e => ?_, W.g, fun a o e => ?_, R.wd.ft, W.tb.step (fun _ _ z => z) fun t ht => ⟨rfl, (W.tb t ht).1, (R.wd.tb t ht).2.1⟩⟩
  · have m : a ∉ as := fun m => by rw [(R.sl.own (sub a m)).2.1] at e; cases e
    exact W.f a o (by rw [addF_out m]; exact e)
  · have m : a ∉ as := fun m => by rw [(R.sl.own (sub a m)).2.1] at e; cases e
    exact W.fg a o (by rw [addF_out m]; exact e)
theorem RE.keepF (R : RE K F G H σ ρ) {as : List Addr} (W : Wd (addF F H as) G' H') {a : Addr} (m : a ∈ as) (mo : a ∈ ownA ρ) : H' a = H a ∧ G' a = none := by
  obtain ⟨_, _, u, e, _⟩ := R.sl.own mo
  refine ⟨?_, W.fg a u (by rw [addF_in m]; exact e)⟩
  rw [e]
  exact W.f a u (by rw [addF_in m]; exact e)
theorem RE.back (R : RE K F G H σ ρ) (W : Wd (addF F H (ownA ρ)) G' H') (e : Ex G G') : RE K F G' H' σ ρ :=
  ⟨R.wdB (fun _ m => m) W, R.sl.step e fun a m => R.keepF W m m, R.nd⟩
theorem nodup_apart : ∀ {ρ : Env} {i j : Nat} {r r' : Sl} {a : Addr}, (ownA ρ).Nodup → ρ[i]? = some r → ρ[j]? = some r' → i ≠ j → a ∈ r.adr → a ∉ r'.adr
  | [], _, _, _, _, _, _, e, _, _, _ => by simp at e
  | r0 :: ρ, 0, 0, _, _, _, _, _, _, n, _ => absurd rfl n
  | r0 :: ρ, 0, j + 1, r, r', a, nd, e, f, _, m => fun m' => by
    simp at e; subst e
    rw [ownA_cons] at nd
    exact (List.nodup_append.mp nd).2.2 a m a (adr_mem (by simpa using f) m') rfl
  | r0 :: ρ, i + 1, 0, r, r', a, nd, e, f, _, m => fun m' => by
    simp at f; subst f
    rw [ownA_cons] at nd
    exact (List.nodup_append.mp nd).2.2 a m' a (adr_mem (by simpa using e) m) rfl
  | r0 :: ρ, i + 1, j + 1, r, r', a, nd, e, f, n, m => by
    rw [ownA_cons] at nd
    exact nodup_apart (List.nodup_append.mp nd).2.1 (by simpa using e) (by simpa using f) (fun z => n (by rw [z])) m
/-- one slot is another now, the others stay -/
theorem Slots.but {r' : Sl} : ∀ {σ : L2.St} {ρ : Env} {i : Nat} {s : Option V}, Slots K F G H σ ρ → σ[i]? = some s → SlotOk K F G' H' s r' → (∀ (j : Nat) s r, j ≠ i → σ[j]? = some s → ρ[j]? = some r → SlotOk K F G H s r → SlotOk K F G' H' s r) → Slots K F G' H' σ (ρ.set i r')
  | [], [], _, _, _, e, _, _ => by simp at e
  | [], _ :: _, _, _, h, _, _, _ => h.elim
  | _ :: _, [], _, _, h, _, _, _ => h.elim
  | s0 :: σ, r0 :: ρ, 0, s, h, e, hs, k => by
    simp at e; subst e
    exact ⟨hs, h.2.map fun j s r h1 h2 => k (j + 1) s r (by omega) (by simpa using h1) (by simpa using h2)⟩
  | s0 :: σ, r0 :: ρ, i + 1, s, h, e, hs, k => ⟨k 0 s0 r0 (by omega) rfl rfl h.1, Slots.but h.2 (by simpa using e) hs fun j s r n h1 h2 => k (j + 1) s r (by omega) (by simpa using h1) (by simpa using h2)⟩
/-- the object at a of slot i, changed -/
theorem RE.mut {r r' : Sl} {i : Nat} {a : Addr} {o : HO} {s : Option V} (R : RE K F G H σ ρ) (hr : ρ[i]? = some r) (ha : a ∈ r.adr) (ha' : r'.adr.Sublist r.adr) (hσ : σ[i]? = some s) (hs : SlotOk K F G (upd H a o) s r') : RE K F G (upd H a o) σ (ρ.set i r') := by
  obtain ⟨hG, hF, ua, hua, nta⟩ := R.sl.own (adr_mem hr ha)
  refine ⟨⟨fun b u e => ?_, fun b u e => ?_, R.wd.fg, R.wd.ft, R.wd.tb.step (fun _ _ z => z) fun t ht => ⟨upd_ne ?_, (R.wd.tb t ht).1, (R.wd.tb t ht).2.1⟩⟩, R.sl.but hσ hs (fun j s r2 n h1 h2 q => q.step (Ex.refl G) fun b m => ⟨upd_ne fun z => ?_, (q.own m).1⟩), List.Nodup.sublist (ownA_setr ha' hr) R.nd⟩
  · rw [upd_ne (ne_of_none e hF)]; exact R.wd.f b u e
  · rw [upd_ne (ne_of_none e hG)]; exact R.wd.g b u e
  · exact R.wd.tb.ne hua nta t ht
  · exact nodup_apart R.nd hr h2 (Ne.symm n) ha (z ▸ m)
theorem set_same {i : Nat} {r : Sl} (h : ρ[i]? = some r) : ρ.set i r = ρ := by
  obtain ⟨hl, hx⟩ := List.getElem?_eq_some_iff.mp h
  rw [← hx, List.set_getElem_self]
/-- own no more: shared from now on -/
theorem RE.give {i : Nat} {a : Addr} {d : D} (R : RE K F G H σ ρ) (hr : ρ[i]? = some (.own a d)) : ∃ o : HO, σ[i]? = some (some (.ref a)) ∧ H a = some o ∧ G a = none ∧ RE K F (upd G a o) H σ (ρ.set i (.sh d)) ∧ Rep K (upd G a o) (.ref a) d := by
  obtain ⟨s, hσ, rfl, hG, hF, ho⟩ := R.sl.get hr
  obtain ⟨o, e, hmu⟩ := ho.some
  have rp : Rep K (upd G a o) (.ref a) d := ownR_rep ho (by rw [upd_same, e]) (Ex.new hG)
  refine ⟨o, hσ, e, hG, ⟨⟨R.wd.f, fun b u q => ?_, fun b u q => ?_, R.wd.ft, R.wd.tb.step (fun c q z => Ex.new hG _ _ z) fun t ht => ⟨rfl, ?_, (R.wd.tb t ht).2.1⟩⟩, R.sl.but hσ (show SlotOk K F (upd G a o) H (some (.ref a)) (.sh d) from ⟨_, rfl, rp⟩) (fun j s r2 n h1 h2 q => q.step (Ex.new hG) fun b m => ⟨rfl, ?_⟩), List.Nodup.sublist (ownA_setr (r' := .sh d) (List.nil_sublist _) hr) R.nd⟩, rp⟩
  · by_cases z : b = a
    · subst z; rw [upd_same] at q; cases q; exact e
    · rw [upd_ne z] at q; exact R.wd.g b u q
  · by_cases z : b = a
    · subst z; rw [hF] at q; cases q
    · rw [upd_ne z]; exact R.wd.fg b u q
  · rw [upd_ne (R.wd.tb.ne e (nt_mut hmu) t ht)]
    exact (R.wd.tb t ht).1
  · have z : b ≠ a := fun z => nodup_apart R.nd hr h2 (Ne.symm n) (List.mem_singleton.mpr rfl) (z ▸ m)
    rw [upd_ne z]
    exact (q.own m).1
end

/-! ### promises -/
/-- a def of plain data: T says what may come -/
def spP (K : PySem.W.Frag) (T : List D → (D → Prop) → Prop) : Sp := fun vs H Q _ => ∃ F G ds Qd, Wd F G H ∧ Reps K G vs ds ∧ T ds Qd ∧
  ∀ v d G' H', Ex G G' → Wd F G' H' → Rep K G' v d → Qd d → Q v H'
/-- .. whose first argument is the state of draws -/
def spW (K : PySem.W.Frag) (T : List D → (D → Prop) → Prop) : Sp := fun vs H Q _ => ∃ a ws F G ds Qd, vs = .ref a :: ws ∧ Wd F G H ∧ G a = none ∧ F a = none ∧ DrwR (H a) ∧ Reps K G ws ds ∧ T ds Qd ∧
  ∀ v d G' H', Ex G G' → Wd F G' H' → G' a = none → DrwR (H' a) → Rep K G' v d → Qd d → Q v H'
/-- a def of plain data that hands back a new object -/
def spN (K : PySem.W.Frag) (T : List D → (D → Prop) → Prop) : Sp := fun vs H Q _ => ∃ F G ds Qd, Wd F G H ∧ Reps K G vs ds ∧ T ds Qd ∧
  ∀ p d G' H', Ex G G' → Wd F G' H' → G' p = none → F p = none → OwnR K G' (H' p) d → Qd d → Q (.ref p) H'
/-- a plain function -/
def fnT (f : List D → Option D) : List D → (D → Prop) → Prop := fun ds Q => ∃ d, f ds = some d ∧ Q d

section
variable {K : PySem.W.Frag} {te ta tb tc : TE} {tt tu : TT} {ts : TA} {ρ : Env} {Q : D → Env → Prop} {T : List D → (D → Prop) → Prop} {E : XK}
theorem ew_callP (h : EvA K ts ρ fun ds ρ1 => T ds fun d => Q d ρ1) : EvW K (tCall (spP K T) [] E ts) ρ Q := fun F G H σ R Q' k =>
  h F G H σ R _ fun vs ds ρ1 G1 H1 e1 R1 hv q => by
    refine ⟨addF F H1 (ownA ρ1), G1, ds, _, R1.wdF (fun _ m => m), by rw [List.append_nil]; exact hv, q, fun v d G' H' e W hd qd => ?_⟩
    exact k v d ρ1 G' H' (e1.trans e) (R1.back W e) hd qd
theorem en_callN (h : EvA K ts ρ fun ds ρ1 => T ds fun d => Q d ρ1) : EvN K (tCall (spN K T) [] E ts) ρ Q := fun F G H σ R Q' k =>
  h F G H σ R _ fun vs ds ρ1 G1 H1 e1 R1 hv q => by
    refine ⟨addF F H1 (ownA ρ1), G1, ds, _, R1.wdF (fun _ m => m), by rw [List.append_nil]; exact hv, q, fun p d G' H' e W hG hF ho qd => ?_⟩
    have np : p ∉ ownA ρ1 := fun m => by
      obtain ⟨_, _, u, hu, _⟩ := R1.sl.own m
      rw [addF_in m, hu] at hF; cases hF
    rw [addF_out np] at hF
    exact k p d ρ1 G' H' (e1.trans e) (R1.back W e) hG hF np ho qd
theorem ew_callW {i : Nat} {a : Addr} (hi : ρ[i]? = some (.drw a)) (h : EvA K ts ρ fun ds ρ1 => ρ1[i]? = some (.drw a) ∧ T ds fun d => Q d ρ1) : EvW K (tCall (spW K T) [] E (tCons (tVar i) ts)) ρ Q := fun F G H σ R Q' k => by
  obtain ⟨s, hs, rfl, _⟩ := R.sl.get hi
  refine ⟨.ref a, hs, h F G H σ R _ fun vs ds ρ1 G1 H1 e1 R1 hv q => ?_⟩
  obtain ⟨hi1, q⟩ := q
  obtain ⟨_, hs1, e, g1, g2, g3⟩ := R1.sl.get hi1
  have sub : ∀ b ∈ (ownA ρ1).filter (fun b => decide (b ≠ a)), b ∈ ownA ρ1 := fun b m => (List.mem_filter.mp m).1
  have na : a ∉ (ownA ρ1).filter (fun b => decide (b ≠ a)) := fun m => by
    have := (List.mem_filter.mp m).2
    simp at this
  refine ⟨a, vs, addF F H1 ((ownA ρ1).filter fun b => decide (b ≠ a)), G1, ds, _, by rw [List.append_nil], R1.wdF sub, g1, by rw [addF_out na]; exact g2, g3, hv, q, fun v d G' H' e2 W gn dn hd qd => ?_⟩
  have hF := R1.wdB sub W
  have hsl := R1.sl.but hs (show SlotOk K F G' H' (some (.ref a)) (.drw a) from ⟨rfl, gn, g2, dn⟩) (fun j s r2 n h1 h2 z => z.step e2 fun b m => ?_)
  · rw [set_same hi1] at hsl
    exact k v d ρ1 G' H' (e1.trans e2) ⟨hF, hsl, R1.nd⟩ hd qd
  · have nb : b ≠ a := fun z => nodup_apart R1.nd hi1 h2 (Ne.symm n) (List.mem_singleton.mpr rfl) (z ▸ m)
    have mb := adr_mem h2 m
    exact R1.keepF W (List.mem_filter.mpr ⟨mb, by simpa using nb⟩) mb
end

/-! ### statements -/
structure EndD where
  nx : Env → Prop
  rt : D → Env → Prop
  bk : Env → Prop := fun _ => False
  ct : Env → Prop := fun _ => False
  ro : D → Env → Prop := fun _ _ => False
  W : XK := fun _ _ _ => False
  xx : Str → Str → D → Prop := fun _ _ _ => False
structure Links (K : PySem.W.Frag) (F G : Hp) (E : EndD) (Dn : Ends) : Prop where
  nx : ∀ σ' ρ' G' H', Ex G G' → RE K F G' H' σ' ρ' → E.nx ρ' → Dn.nx σ' H'
  rt : ∀ v d σ' ρ' G' H', Ex G G' → RE K F G' H' σ' ρ' → Rep K G' v d → E.rt d ρ' → Dn.rt v H'
  bk : ∀ σ' ρ' G' H', Ex G G' → RE K F G' H' σ' ρ' → E.bk ρ' → Dn.bk σ' H'
  ct : ∀ σ' ρ' G' H', Ex G G' → RE K F G' H' σ' ρ' → E.ct ρ' → Dn.ct σ' H'
  ro : ∀ p d σ' ρ' G' H', Ex G G' → RE K F G' H' σ' ρ' → G' p = none → F p = none → p ∉ ownA ρ' → OwnR K G' (H' p) d → E.ro d ρ' → Dn.rt (.ref p) H'
  xx : ∀ C f v d dx G' H', Ex G G' → Wd F G' H' → H' dx = some (.xd [(f, v)]) → G' dx = none → F dx = none → Rep K G' v d → E.xx C f d → E.W (.ref (He.ga K C)) (some dx) H'
theorem Links.mono {K : PySem.W.Frag} {F G G1 : Hp} {E : EndD} {Dn : Ends} (L : Links K F G E Dn) (e : Ex G G1) : Links K F G1 E Dn :=
  ⟨fun σ' ρ' G' H' x => L.nx σ' ρ' G' H' (e.trans x), fun v d σ' ρ' G' H' x => L.rt v d σ' ρ' G' H' (e.trans x), fun σ' ρ' G' H' x => L.bk σ' ρ' G' H' (e.trans x), fun σ' ρ' G' H' x => L.ct σ' ρ' G' H' (e.trans x), fun p d σ' ρ' G' H' x => L.ro p d σ' ρ' G' H' (e.trans x), fun C f v d dx G' H' x => L.xx C f v d dx G' H' (e.trans x)⟩
def WS (K : PySem.W.Frag) (t : TS) (ρ : Env) (E : EndD) : Prop := ∀ F G H σ Dn, RE K F G H σ ρ → Links K F G E Dn → t Dn σ H
/-- a target -/
def GW (K : PySem.W.Frag) (g : TG) (d : D) (ρ : Env) (Q : Env → Prop) : Prop := ∀ F G H σ v, RE K F G H σ ρ → Rep K G v d → ∀ Q' : L2.St → Hp → Prop, (∀ σ' ρ' G' H', Ex G G' → RE K F G' H' σ' ρ' → Q ρ' → Q' σ' H') → g v σ H Q'
def GWs (K : PySem.W.Frag) (g : TGs) (ds : List D) (ρ : Env) (Q : Env → Prop) : Prop := ∀ F G H σ vs, RE K F G H σ ρ → Reps K G vs ds → ∀ Q' : L2.St → Hp → Prop, (∀ σ' ρ' G' H', Ex G G' → RE K F G' H' σ' ρ' → Q ρ' → Q' σ' H') → g vs σ H Q'
section
variable {K : PySem.W.Frag} {te ta tb tc : TE} {tt : TT} {t u : TS} {ts : TA} {ρ : Env} {E : EndD}
theorem ws_next (h : E.nx ρ) : WS K tNext ρ E := fun F G H σ Dn R L => L.nx σ ρ G H (Ex.refl G) R h
theorem ws_break (h : E.bk ρ) : WS K tBreak ρ E := fun F G H σ Dn R L => L.bk σ ρ G H (Ex.refl G) R h
theorem ws_cont (h : E.ct ρ) : WS K tCont ρ E := fun F G H σ Dn R L => L.ct σ ρ G H (Ex.refl G) R h
theorem ws_seq (h : WS K t ρ { E with nx := fun ρ' => WS K u ρ' E }) : WS K (tSeq t u) ρ E := fun F G H σ Dn R L =>
  h F G H σ { Dn with nx := u Dn } R ⟨fun σ' ρ' G' H' e R' q => q F G' H' σ' Dn R' (L.mono e), L.rt, L.bk, L.ct, L.ro, L.xx⟩
theorem ws_drop (h : EvW K te ρ fun _ ρ' => E.nx ρ') : WS K (tDrop te) ρ E := fun F G H σ Dn R L => h F G H σ R _ fun v d ρ' G' H' e R' _ q => L.nx σ ρ' G' H' e R' q
theorem ws_ret (h : EvW K te ρ fun d ρ' => E.rt d ρ') : WS K (tRet te) ρ E := fun F G H σ Dn R L => h F G H σ R _ fun v d ρ' G' H' e R' hv q => L.rt v d σ ρ' G' H' e R' hv q
theorem ws_retN (h : E.rt .non ρ) : WS K tRetN ρ E := fun F G H σ Dn R L => L.rt .non .non σ ρ G H (Ex.refl G) R .non h
/-- a new object is handed back, the caller's own -/
theorem ws_retNew (h : EvN K te ρ fun d ρ' => E.ro d ρ') : WS K (tRet te) ρ E := fun F G H σ Dn R L => h F G H σ R _ fun p d ρ' G' H' e R' hG hF hO o q => L.ro p d σ ρ' G' H' e R' hG hF hO o q
theorem ws_retOwn {i : Nat} {a : Addr} {d : D} (hi : ρ[i]? = some (.own a d)) (h : E.ro d (ρ.set i .un)) : WS K (tRet (tVar i)) ρ E := fun F G H σ Dn R L => by
  obtain ⟨s, hσ, rfl, hG, hF, ho⟩ := R.sl.get hi
  refine ⟨.ref a, hσ, L.ro a d σ _ G H (Ex.refl G) ⟨R.wd, ?_, List.Nodup.sublist (ownA_setr (r' := .un) (List.nil_sublist _) hi) R.nd⟩ hG hF (fun m => ?_) ho h⟩
  · exact R.sl.but hσ (r' := .un) trivial fun j s r n h1 h2 q => q
  · obtain ⟨r, hr, m⟩ := List.mem_flatMap.mp m
    obtain ⟨j, hj⟩ := List.mem_iff_getElem?.mp hr
    by_cases e : j = i
    · subst e
      obtain ⟨hl, _⟩ := List.getElem?_eq_some_iff.mp hi
      rw [List.getElem?_set_self hl] at hj
      cases hj
      cases m
    · rw [List.getElem?_set_ne (Ne.symm e)] at hj
      exact nodup_apart R.nd hi hj (Ne.symm e) (List.mem_singleton.mpr rfl) m
/-- the own object is handed back -/
theorem ws_retO {i : Nat} {a : Addr} {d : D} (hi : ρ[i]? = some (.own a d)) (h : E.rt d (ρ.set i (.sh d))) : WS K (tRet (tVar i)) ρ E := fun F G H σ Dn R L => by
  obtain ⟨o, hσ, _, hG, R', rp⟩ := R.give hi
  exact ⟨.ref a, hσ, L.rt _ d σ _ _ H (Ex.new hG) R' rp h⟩
theorem ws_if (h : EvT K tt ρ fun b ρ' => if b = true then WS K t ρ' E else WS K u ρ' E) : WS K (tIfS tt t u) ρ E := fun F G H σ Dn R L => h F G H σ R _ fun b ρ' G' H' e R' q => by
  cases b with
  | true => exact q F G' H' σ Dn R' (L.mono e)
  | false => exact q F G' H' σ Dn R' (L.mono e)
theorem gw_name {i : Nat} {d : D} {Q : Env → Prop} (h : Q (ρ.set i (.sh d))) : GW K (gName i) d ρ Q := fun F G H σ v R hv Q' k => k _ _ G H (Ex.refl G) (R.setSh hv i) h
theorem gws_nil {Q : Env → Prop} (h : Q ρ) : GWs K gNil [] ρ Q := fun F G H σ vs R hv Q' k => ⟨hv.nil_inv, k σ ρ G H (Ex.refl G) R h⟩
theorem gws_cons {g : TG} {gs : TGs} {d : D} {ds : List D} {Q : Env → Prop} (h : GW K g d ρ fun ρ1 => GWs K gs ds ρ1 Q) : GWs K (gCons g gs) (d :: ds) ρ Q := fun F G H σ vs R hv Q' k => by
  obtain ⟨v, ws, rfl, h1, h2⟩ := hv.cons_inv
  exact ⟨v, ws, rfl, h F G H σ v R h1 _ fun σ1 ρ1 G1 H1 e1 R1 q1 => q1 F G1 H1 σ1 ws R1 (h2.mono e1) Q' fun σ2 ρ2 G2 H2 e2 R2 q2 => k σ2 ρ2 G2 H2 (e1.trans e2) R2 q2⟩
theorem rep_tup {H : Hp} {v : V} {ds : List D} (h : Rep K H v (.tup ds)) : ∃ a vs, v = .ref a ∧ H a = some (.tup vs) ∧ Reps K H vs ds := by
  cases h with | tup a b => exact ⟨_, _, rfl, a, b⟩
theorem rep_lst {H : Hp} {v : V} {ds : List D} (h : Rep K H v (.lst ds)) : ∃ a vs, v = .ref a ∧ H a = some (.lst vs) ∧ Reps K H vs ds := by
  cases h with | lst a b => exact ⟨_, _, rfl, a, b⟩
theorem rep_dk {H : Hp} {v : V} {ps : List (Key × D)} (h : Rep K H v (.dk ps)) : ∃ a kvs, v = .ref a ∧ Rd H a (.dK kvs) ∧ kvs.map (·.1) = ps.map (·.1) ∧ Reps K H (kvs.map (·.2)) (ps.map (·.2)) := by
  cases h with | dk a b c => exact ⟨_, _, rfl, a, b, c⟩
theorem rep_dt {H : Hp} {v : V} {ps : List (List Key × D)} (h : Rep K H v (.dt ps)) : ∃ a kvs, v = .ref a ∧ Rd H a (.dT kvs) ∧ kvs.map (·.1) = ps.map (·.1) ∧ Reps K H (kvs.map (·.2)) (ps.map (·.2)) := by
  cases h with | dt a b c => exact ⟨_, _, rfl, a, b, c⟩
theorem rep_ins {H : Hp} {v : V} {C : Str} {ps : List (Str × D)} (h : Rep K H v (.ins C ps)) : ∃ a dx fs, v = .ref a ∧ H a = some (.ins (He.ga K C) dx fs) ∧ fs.map (·.1) = ps.map (·.1) ∧ Reps K H (fs.map (·.2)) (ps.map (·.2)) := by
  cases h with | ins a b c => exact ⟨_, _, _, rfl, a, b, c⟩
theorem rep_kt {H : Hp} {v : V} {ds : List D} (h : Rep K H v (.kt ds)) : ∃ a vs, v = .ref a ∧ SqT K H a vs ∧ Reps K H vs ds := by
  cases h with | kt a b => exact ⟨_, _, rfl, a, b⟩
theorem Ex.sqK {H H' : Hp} {a : Addr} {xs : List V} (e : Ex H H') (h : SqT K H a xs) : SqT K H' a xs := e.rdx.sqT h
theorem Ex.sqT {H H' : Hp} {a : Addr} {xs : List V} (e : Ex H H') (h : H a = some (.tup xs)) : SqT K H' a xs := .inl (.inl (e _ _ h))
theorem gw_tup {n : Nat} {gs : TGs} {ds : List D} {Q : Env → Prop} (hn : ds.length = n) (h : GWs K gs ds ρ Q) : GW K (gTup K n gs) (.tup ds) ρ Q := fun F G H σ v R hv Q' k => by
  obtain ⟨a, vs, rfl, h1, h2⟩ := rep_tup hv
  exact ⟨a, vs, rfl, R.wd.g.sqT h1, by rw [h2.length]; exact hn, h F G H σ vs R h2 Q' k⟩
theorem ws_asg {g : TG} (h : EvW K te ρ fun d ρ1 => GW K g d ρ1 E.nx) : WS K (tAsg te g) ρ E := fun F G H σ Dn R L => h F G H σ R _ fun v d ρ1 G1 H1 e1 R1 hv q =>
  q F G1 H1 σ v R1 hv _ fun σ2 ρ2 G2 H2 e2 R2 q2 => L.nx σ2 ρ2 G2 H2 (e1.trans e2) R2 q2
theorem ownA_set_own {r : Sl} : ∀ {ρ : Env} (i : Nat), (ownA ρ).Nodup → r.adr.Nodup → (∀ a ∈ r.adr, a ∉ ownA ρ) → (ownA (ρ.set i r)).Nodup ∧ ∀ b, b ∈ ownA (ρ.set i r) → b ∈ r.adr ∨ b ∈ ownA ρ
  | [], _, h, _, _ => ⟨h, fun b m => .inr m⟩
  | r0 :: ρ, 0, h, h1, h2 => by
    show (ownA (r :: ρ)).Nodup ∧ ∀ b, b ∈ ownA (r :: ρ) → _
    rw [ownA_cons] at h h2
    rw [ownA_cons]
    refine ⟨List.nodup_append.mpr ⟨h1, (List.nodup_append.mp h).2.1, fun a m b m' e => h2 a m (by rw [e]; exact List.mem_append_right _ m')⟩, fun b m => ?_⟩
    rw [ownA_cons]
    exact (List.mem_append.mp m).imp id (List.mem_append_right _)
  | r0 :: ρ, i + 1, h, h1, h2 => by
    show (ownA (r0 :: ρ.set i r)).Nodup ∧ ∀ b, b ∈ ownA (r0 :: ρ.set i r) → _
    rw [ownA_cons] at h h2
    rw [ownA_cons, ownA_cons]
    obtain ⟨n1, n2, n3⟩ := List.nodup_append.mp h
    obtain ⟨ih1, ih2⟩ := ownA_set_own (ρ := ρ) i n2 h1 (fun a m z => h2 a m (List.mem_append_right _ z))
    refine ⟨List.nodup_append.mpr ⟨n1, ih1, fun a m b m' e => ?_⟩, fun b m => ?_⟩
    · rcases ih2 b m' with z | z
      · exact h2 b z (List.mem_append_left _ (e ▸ m))
      · exact n3 a m b z e
    · rcases List.mem_append.mp m with m | m
      · exact .inr (List.mem_append_left _ m)
      · exact (ih2 b m).imp id (List.mem_append_right _)
theorem RE.setOwn {F G H : Hp} {σ : L2.St} {ρ : Env} {p : Addr} {d : D} (R : RE K F G H σ ρ) (hG : G p = none) (hF : F p = none) (hO : p ∉ ownA ρ) (o : OwnR K G (H p) d) (i : Nat) : RE K F G H (σ.set i (some (.ref p))) (ρ.set i (.own p d)) :=
  ⟨R.wd, R.sl.set (r := .own p d) ⟨rfl, hG, hF, o⟩ i, (ownA_set_own (r := .own p d) i R.nd (show [p].Nodup from List.nodup_cons.mpr ⟨List.not_mem_nil, List.nodup_nil⟩) (fun a m => by rw [List.mem_singleton.mp m]; exact hO)).1⟩
/-- a new object is given a name: it is the def's own -/
theorem ws_asgN {i : Nat} (h : EvN K te ρ fun d ρ1 => ∀ p, E.nx (ρ1.set i (.own p d))) : WS K (tAsg te (gName i)) ρ E := fun F G H σ Dn R L => h F G H σ R _ fun p d ρ1 G1 H1 e1 R1 hG hF hO o q =>
  L.nx _ _ G1 H1 e1 (R1.setOwn hG hF hO o i) (q p)
end
end DL

set_option Elab.async false
set_option linter.all false
set_option maxRecDepth 100000
namespace DL
open PySem L2
variable [TabL]
/-! ### derivations that serve several kinds -/
theorem pe_or {X : Cx} {e : Expr} {t u : TE} (h : PE X e t) (h' : PE X e u) : PE X e (fun σ H Q => t σ H Q ∨ u σ H Q) :=
  ⟨fun pins s σ H Q I q => q.elim (fun q => h.run pins s σ H Q I q) fun q => h'.run pins s σ H Q I q⟩
section
variable {K : PySem.W.Frag} {te ta tb tc : TE} {tt tu : TT} {ts : TA} {ρ : Env} {Q : D → Env → Prop}
theorem ew_inl {t u : TE} (h : EvW K t ρ Q) : EvW K (fun σ H Q => t σ H Q ∨ u σ H Q) ρ Q := fun F G H σ R Q' k => .inl (h F G H σ R Q' k)
theorem ew_inr {t u : TE} (h : EvW K u ρ Q) : EvW K (fun σ H Q => t σ H Q ∨ u σ H Q) ρ Q := fun F G H σ R Q' k => .inr (h F G H σ R Q' k)
theorem op2_inl {r r' : R2} {x y : D} (h : Op2 K r x y ρ Q) : Op2 K (fun x y H Q => r x y H Q ∨ r' x y H Q) x y ρ Q := fun F G H σ R v w hv hw Q' k => .inl (h F G H σ R v w hv hw Q' k)
theorem op2_inr {r r' : R2} {x y : D} (h : Op2 K r' x y ρ Q) : Op2 K (fun x y H Q => r x y H Q ∨ r' x y H Q) x y ρ Q := fun F G H σ R v w hv hw Q' k => .inr (h F G H σ R v w hv hw Q' k)
theorem opa_inl {r r' : List V → Hp → VK → Prop} {xs : List D} (h : OpA K r xs ρ Q) : OpA K (fun xs H Q => r xs H Q ∨ r' xs H Q) xs ρ Q := fun F G H σ R v hv Q' k => .inl (h F G H σ R v hv Q' k)
theorem opa_inr {r r' : List V → Hp → VK → Prop} {xs : List D} (h : OpA K r' xs ρ Q) : OpA K (fun xs H Q => r xs H Q ∨ r' xs H Q) xs ρ Q := fun F G H σ R v hv Q' k => .inr (h F G H σ R v hv Q' k)
/-! ### numbers -/
theorem op2_int {f : Int → Int → Int} {i j : Int} (q : Q (.int (f i j)) ρ) : Op2 K (rI0 fun i j => .int (f i j)) (.int i) (.int j) ρ Q := fun F G H σ R v w hv hw Q' k =>
  ⟨i, j, rep_int hv, rep_int hw, k _ _ ρ G H (Ex.refl G) R (.int _) q⟩
theorem op2_intC {C : Int → Int → Prop} {f : Int → Int → Int} {i j : Int} (c : C i j) (q : Q (.int (f i j)) ρ) : Op2 K (rI C fun i j => .int (f i j)) (.int i) (.int j) ρ Q := fun F G H σ R v w hv hw Q' k =>
  ⟨i, j, rep_int hv, rep_int hw, c, k _ _ ρ G H (Ex.refl G) R (.int _) q⟩
theorem op2_cmp {f : Int → Int → Bool} {i j : Int} (q : Q (.bl (f i j)) ρ) : Op2 K (rI0 fun i j => .bl (f i j)) (.int i) (.int j) ρ Q := fun F G H σ R v w hv hw Q' k =>
  ⟨i, j, rep_int hv, rep_int hw, k _ _ ρ G H (Ex.refl G) R (.bl _) q⟩
theorem op1_neg {i : Int} (q : Q (.int (-i)) ρ) : Op1 K (rU fun i => .int (-i)) (.int i) ρ Q := fun F G H σ R v hv Q' k => ⟨i, rep_int hv, k _ _ ρ G H (Ex.refl G) R (.int _) q⟩
/-! ### == of plain things -/
theorem op2_eq_int {i j : Int} (q : Q (.bl (decide (i = j))) ρ) : Op2 K rEq (.int i) (.int j) ρ Q := fun F G H σ R v w hv hw Q' k => by
  rw [rep_int hv, rep_int hw]
  refine ⟨rfl, ?_⟩
  have e : decide (V.int i = V.int j) = decide (i = j) := by simp
  rw [e]; exact k _ _ ρ G H (Ex.refl G) R (.bl _) q
theorem op2_eq_str {i j : Str} (q : Q (.bl (decide (i = j))) ρ) : Op2 K rEq (.str i) (.str j) ρ Q := fun F G H σ R v w hv hw Q' k => by
  rw [rep_str hv, rep_str hw]
  refine ⟨rfl, ?_⟩
  have e : decide (V.str i = V.str j) = decide (i = j) := by simp
  rw [e]; exact k _ _ ρ G H (Ex.refl G) R (.bl _) q
theorem op2_eq_bl {i j : Bool} (q : Q (.bl (decide (i = j))) ρ) : Op2 K rEq (.bl i) (.bl j) ρ Q := fun F G H σ R v w hv hw Q' k => by
  rw [rep_bl hv, rep_bl hw]
  refine ⟨rfl, ?_⟩
  have e : decide (V.bl i = V.bl j) = decide (i = j) := by simp
  rw [e]; exact k _ _ ρ G H (Ex.refl G) R (.bl _) q
theorem op2_ne_int {i j : Int} (q : Q (.bl (!decide (i = j))) ρ) : Op2 K rNe (.int i) (.int j) ρ Q := fun F G H σ R v w hv hw Q' k => by
  rw [rep_int hv, rep_int hw]
  refine ⟨rfl, ?_⟩
  have e : decide (V.int i = V.int j) = decide (i = j) := by simp
  rw [e]; exact k _ _ ρ G H (Ex.refl G) R (.bl _) q
theorem op2_ne_bl {i j : Bool} (q : Q (.bl (!decide (i = j))) ρ) : Op2 K rNe (.bl i) (.bl j) ρ Q := fun F G H σ R v w hv hw Q' k => by
  rw [rep_bl hv, rep_bl hw]
  refine ⟨rfl, ?_⟩
  have e : decide (V.bl i = V.bl j) = decide (i = j) := by simp
  rw [e]; exact k _ _ ρ G H (Ex.refl G) R (.bl _) q
def D.isNon : D → Bool
  | .non => true
  | .raw v => decide (v = .non)
  | .tag v _ => decide (v = .non)
  | _ => false
/-- x is None -/
theorem op2_isN {x : D} (q : Q (.bl x.isNon) ρ) : Op2 K (fun x y H Q => y = .non ∧ Q (.bl (decide (x = .non))) H) x .non ρ Q := fun F G H σ R v w hv hw Q' k => by
  refine ⟨rep_non hw, ?_⟩
  have e : decide (v = V.non) = x.isNon := by
    cases hv <;> first | rfl | exact decide_eq_false (fun z => nomatch z)
  rw [e]; exact k _ _ ρ G H (Ex.refl G) R (.bl _) q
/-! ### isinstance -/
def D.ty : D → String
  | .non => "NoneType" | .bl _ => "bool" | .int _ => "int" | .str _ => "str" | .lst _ => "list" | .tup _ => "tuple" | .dk _ => "dict" | .dt _ => "dict" | .ins _ _ => "?" | .scr _ => "?" | .kt _ => "tuple" | .raw _ => "?" | .tag _ _ => "?" | .exc _ _ => "?"
/-- no object of one's own -/
def D.plain : D → Bool
  | .ins _ _ => false
  | .dt _ => false
  | .scr _ => false
  | .raw _ => false
  | .tag _ _ => false
  | .exc _ _ => false
  | _ => true
def tyIs (t n : String) : Bool := t == n || (t == "bool" && n == "int")
def tyNames : List String := ["bool", "int", "str", "list", "tuple", "dict"]
theorem rd_tyX {H : Hp} {v : V} {d : D} (hp : d.plain = true) (h : Rep K H v d) : TyX K H v (.type d.ty) := by
  cases h with
  | non => exact .base .non
  | bl b => exact .base (.bl b)
  | int b => exact .base (.int b)
  | str b => exact .base (.str b)
  | lst a b => exact .base (.lst a)
  | tup a b => exact .base (.tup a)
  | kt a b =>
    rcases a with (a | ⟨o, a⟩) | ⟨o, its, n, a, c, _⟩
    · exact .base (.tup a)
    · exact .fTuple a
    · exact .kTuple a c
  | dk a b c =>
    rcases a with a | ⟨o, a⟩
    · exact .base (.dK a)
    · exact .fDict a
  | dt a b c => cases hp
  | ins a b c => cases hp
  | scr a => cases hp
  | raw => cases hp
  | tag _ => cases hp
  | exc _ _ _ _ => cases hp
  | ex0 _ => cases hp
theorem kit_names : ∀ t ∈ ["NoneType", "bool", "int", "str", "list", "tuple", "dict"], ∀ n ∈ tyNames, kitB t n = some (tyIs t n) := by decide +kernel
theorem kit_d {d : D} (hp : d.plain = true) {n : String} (hn : n ∈ tyNames) : PySem.W.kitOne K (.type d.ty) (.type n) = some (tyIs d.ty n) :=
  kit_ty (kit_names d.ty (by cases d <;> first | (simp [D.ty]; done) | cases hp) n hn)
theorem ew_isi {n : String} (hn : n ∈ tyNames) (h : EvW K te ρ fun d ρ1 => d.plain = true ∧ Q (.bl (tyIs d.ty n)) ρ1) : EvW K (tCB (rIsi K) (tCons te (tCons (tC (.ty n)) tNil))) ρ Q := fun F G H σ R Q' k =>
  h F G H σ R _ fun v d ρ1 G1 H1 e1 R1 hv q => ⟨v, .ty n, _, .type n, _, rfl, .ty n, rd_tyX q.1 (hv.mono R1.wd.g), kit_d q.1 hn, k _ _ ρ1 G1 H1 e1 R1 (.bl _) q.2⟩
theorem kitAny_names {d : D} (hp : d.plain = true) : ∀ (ns : List String), (∀ n ∈ ns, n ∈ tyNames) → PySem.W.kitAny K (.type d.ty) (ns.map Value.type) = some (ns.any fun n => tyIs d.ty n)
  | [], _ => kitAny_nil
  | n :: ns, h => by
    refine kitAny_cons (kit_d hp (h n List.mem_cons_self)) (fun e => ?_) (fun e => ?_)
    · rw [kitAny_names hp ns (fun m hm => h m (List.mem_cons_of_mem _ hm)), List.any_cons, e, Bool.false_or]
    · rw [List.any_cons, e, Bool.true_or]
/-- isinstance(x, (list, tuple)) -/
theorem ew_isi2 {n m : String} (hn : n ∈ tyNames) (hm : m ∈ tyNames) (h : EvW K te ρ fun d ρ1 => d.plain = true ∧ Q (.bl (tyIs d.ty n || tyIs d.ty m)) ρ1) :
    EvW K (tCB (rIsiT K) (tCons te (tCons (tTup (tCons (tC (.ty n)) (tCons (tC (.ty m)) tNil))) tNil))) ρ Q := fun F G H σ R Q' k =>
  h F G H σ R _ fun v d ρ1 G1 H1 e1 R1 hv q => ⟨by show 2 ≤ sizeLine; decide, fun p hp => by
    have e2 : Ex G1 (upd G1 p (.tup [.ty n, .ty m])) := Ex.new (R1.wd.g.none hp)
    have R2 := R1.new (o := .tup [.ty n, .ty m]) hp
    refine ⟨v, p, [.ty n, .ty m], _, [.type n, .type m], _, rfl, upd_same, .cons (.ty n) (.cons (.ty m) .nil), rd_tyX q.1 ((hv.mono e2).mono R2.wd.g), kitAny_names q.1 [n, m] ?_, ?_⟩
    · intro x hx
      simp at hx
      rcases hx with rfl | rfl
      · exact hn
      · exact hm
    · refine k _ _ ρ1 _ _ (e1.trans e2) R2 (.bl _) ?_
      have e : ([n, m].any fun z => tyIs d.ty z) = (tyIs d.ty n || tyIs d.ty m) := by simp
      rw [e]; exact q.2⟩
theorem ew_isi4 {n m o l : String} (hn : n ∈ tyNames) (hm : m ∈ tyNames) (ho : o ∈ tyNames) (hl : l ∈ tyNames) (h : EvW K te ρ fun d ρ1 => d.plain = true ∧ Q (.bl (tyIs d.ty n || (tyIs d.ty m || (tyIs d.ty o || tyIs d.ty l)))) ρ1) :
    EvW K (tCB (rIsiT K) (tCons te (tCons (tTup (tCons (tC (.ty n)) (tCons (tC (.ty m)) (tCons (tC (.ty o)) (tCons (tC (.ty l)) tNil))))) tNil))) ρ Q := fun F G H σ R Q' k =>
  h F G H σ R _ fun v d ρ1 G1 H1 e1 R1 hv q => ⟨by show 4 ≤ sizeLine; decide, fun p hp => by
    have e2 : Ex G1 (upd G1 p (.tup [.ty n, .ty m, .ty o, .ty l])) := Ex.new (R1.wd.g.none hp)
    have R2 := R1.new (o := .tup [.ty n, .ty m, .ty o, .ty l]) hp
    refine ⟨v, p, [.ty n, .ty m, .ty o, .ty l], _, [.type n, .type m, .type o, .type l], _, rfl, upd_same, .cons (.ty n) (.cons (.ty m) (.cons (.ty o) (.cons (.ty l) .nil))), rd_tyX q.1 ((hv.mono e2).mono R2.wd.g), kitAny_names q.1 [n, m, o, l] ?_, ?_⟩
    · intro x hx
      simp at hx
      rcases hx with rfl | rfl | rfl | rfl <;> assumption
    · refine k _ _ ρ1 _ _ (e1.trans e2) R2 (.bl _) ?_
      have e : ([n, m, o, l].any fun z => tyIs d.ty z) = (tyIs d.ty n || (tyIs d.ty m || (tyIs d.ty o || tyIs d.ty l))) := by simp
      rw [e]; exact q.2⟩
/-! ### len -/
def rLenU (K : PySem.W.Frag) : List V → Hp → VK → Prop := fun xs H Q => ((∃ p ys, xs = [.ref p] ∧ (SqL K H p ys ∨ SqT K H p ys) ∧ Q (.int ys.length) H) ∨ ∃ z, xs = [.str z] ∧ z.length ≤ sizeLine ∧ Q (.int z.length) H) ∨ ∃ a kvs, xs = [V.ref a] ∧ H a = some (.dK kvs) ∧ Q (.int kvs.length) H
theorem call_lenU {X : Cx} : CallR X (.builtin "len") (rLenU X.K) := CallR.or (CallR.or call_len_seq call_len_str) call_lenD
theorem opa_len_lst {xs : List D} (q : Q (.int xs.length) ρ) : OpA K (rLenU K) [.lst xs] ρ Q := fun F G H σ R vs hv Q' k => by
  obtain ⟨v, rfl, h⟩ := hv.one
  obtain ⟨a, ws, rfl, h1, h2⟩ := rep_lst h
  refine .inl (.inl ⟨a, ws, rfl, .inl (.inl (.inl (R.wd.g _ _ h1))), ?_⟩)
  rw [h2.length]; exact k _ _ ρ G H (Ex.refl G) R (.int _) q
theorem opa_len_tup {xs : List D} (q : Q (.int xs.length) ρ) : OpA K (rLenU K) [.tup xs] ρ Q := fun F G H σ R vs hv Q' k => by
  obtain ⟨v, rfl, h⟩ := hv.one
  obtain ⟨a, ws, rfl, h1, h2⟩ := rep_tup h
  refine .inl (.inl ⟨a, ws, rfl, .inr (R.wd.g.sqT h1), ?_⟩)
  rw [h2.length]; exact k _ _ ρ G H (Ex.refl G) R (.int _) q
theorem opa_len_str {x : Str} (hx : x.length ≤ 100000) (q : Q (.int x.length) ρ) : OpA K (rLenU K) [.str x] ρ Q := fun F G H σ R vs hv Q' k => by
  obtain ⟨v, rfl, h⟩ := hv.one
  rw [rep_str h]
  exact .inl (.inr ⟨x, rfl, big hx, k _ _ ρ G H (Ex.refl G) R (.int _) q⟩)
/-! ### all, any of a list of bools -/
theorem reps_bls {H : Hp} : ∀ {vs : List V} {bs : List Bool}, Reps K H vs (bs.map D.bl) → vs = bs.map V.bl
  | _, [], h => h.nil_inv
  | _, b :: bs, h => by
    obtain ⟨v, ws, rfl, h1, h2⟩ := h.cons_inv
    rw [rep_bl h1, reps_bls h2]; rfl
theorem opa_all {bs : List Bool} (q : Q (.bl (bs.all id)) ρ) : OpA K (rAll K) [.lst (bs.map D.bl)] ρ Q := fun F G H σ R vs hv Q' k => by
  obtain ⟨v, rfl, h⟩ := hv.one
  obtain ⟨a, ws, rfl, h1, h2⟩ := rep_lst h
  rw [reps_bls h2] at h1
  exact ⟨a, bs, rfl, .inl (.inl (R.wd.g _ _ h1)), k _ _ ρ G H (Ex.refl G) R (.bl _) q⟩
/-! ### walks -/
/-- an iterator that gives the data ds, while what is shared at G stands -/
structure Yields (K : PySem.W.Frag) (G : Hp) (J : It) (ds : List D) : Prop where
  go : ∀ F G2 H2 σ ρ i, Ex G G2 → RE K F G2 H2 σ ρ → i < ds.length → J.go i H2
  stop : ∀ F G2 H2 σ ρ, Ex G G2 → RE K F G2 H2 σ ρ → J.stop ds.length H2
  yld : ∀ F G2 H2 σ ρ i x H3, Ex G G2 → RE K F G2 H2 σ ρ → i < ds.length → J.yld i H2 x H3 → ∃ G3 d, Ex G2 G3 ∧ RE K F G3 H3 σ ρ ∧ ds[i]? = some d ∧ Rep K G3 x d
def EvI (K : PySem.W.Frag) (wi : TI) (ρ : Env) (Q : List D → Env → Prop) : Prop := ∀ F G H σ, RE K F G H σ ρ → ∀ R' : It → Hp → Prop,
  (∀ J ds ρ' G' H', Ex G G' → RE K F G' H' σ ρ' → Yields K G' J ds → Q ds ρ' → R' J H') → wi σ H R'
theorem reps_at {H : Hp} {vs : List V} {ds : List D} {i : Nat} {x : V} (h : Reps K H vs ds) (e : vs[i]? = some x) : ∃ d, ds[i]? = some d ∧ Rep K H x d := h.getV e
theorem yl_list {G : Hp} {a : Addr} {vs : List V} {ds : List D} (h1 : G a = some (.lst vs)) (h2 : Reps K G vs ds) : Yields K G (Itl K a) ds where
  go := fun F G2 H2 σ ρ i e R hi => ⟨vs, vs[i]'(by rw [h2.length]; exact hi), .inl (.inl (R.wd.g _ _ (e _ _ h1))), by rw [List.getElem?_eq_getElem]⟩
  stop := fun F G2 H2 σ ρ e R => ⟨vs, .inl (.inl (R.wd.g _ _ (e _ _ h1))), by rw [h2.length]; exact Nat.le_refl _⟩
  yld := fun F G2 H2 σ ρ i x H3 e R hi y => by
    obtain ⟨rfl, y⟩ := y
    obtain ⟨d, hd, hx⟩ := h2.getV (y vs (.inl (.inl (R.wd.g _ _ (e _ _ h1)))))
    exact ⟨G2, d, Ex.refl _, R, hd, hx.mono e⟩
theorem yl_tup {G : Hp} {a : Addr} {vs : List V} {ds : List D} (h1 : G a = some (.tup vs)) (h2 : Reps K G vs ds) : Yields K G (Itt K a) ds where
  go := fun F G2 H2 σ ρ i e R hi => ⟨vs, vs[i]'(by rw [h2.length]; exact hi), R.wd.g.sqT (e _ _ h1), by rw [List.getElem?_eq_getElem]⟩
  stop := fun F G2 H2 σ ρ e R => ⟨vs, R.wd.g.sqT (e _ _ h1), by rw [h2.length]; exact Nat.le_refl _⟩
  yld := fun F G2 H2 σ ρ i x H3 e R hi y => by
    obtain ⟨rfl, y⟩ := y
    obtain ⟨d, hd, hx⟩ := h2.getV (y vs (R.wd.g.sqT (e _ _ h1)))
    exact ⟨G2, d, Ex.refl _, R, hd, hx.mono e⟩
theorem yl_range {G : Hp} {lo : Int} {n : Nat} : Yields K G (Itr lo n) ((List.range n).map fun (i : Nat) => D.int (lo + (i : Int))) where
  go := fun F G2 H2 σ ρ i e R hi => by
    show i < n
    simpa using hi
  stop := fun F G2 H2 σ ρ e R => by
    show n ≤ _
    simp
  yld := fun F G2 H2 σ ρ i x H3 e R hi y => by
    obtain ⟨rfl, rfl⟩ := y
    have hi' : i < n := by simpa using hi
    exact ⟨G2, .int (lo + i), Ex.refl _, R, by simp [hi'], .int _⟩
theorem yl_str {G : Hp} {x : Str} : Yields K G (Its x) (x.cps.toList.map fun c => D.str ⟨#[c]⟩) where
  go := fun F G2 H2 σ ρ i e R hi => by
    show i < x.cps.size
    simpa using hi
  stop := fun F G2 H2 σ ρ e R => by
    show x.cps.size ≤ _
    simp
  yld := fun F G2 H2 σ ρ i v H3 e R hi y => by
    obtain ⟨rfl, c, hc, rfl⟩ := y
    refine ⟨G2, .str ⟨#[c]⟩, Ex.refl _, R, ?_, .str _⟩
    rw [List.getElem?_map, Array.getElem?_toList, hc]; rfl
/-- the walk of a list or a tuple: both derivations -/
theorem pi_or {X : Cx} {tg it : Expr} {w w' : TI} (h : PI X tg it w) (h' : PI X tg it w') : PI X tg it (fun σ H R => w σ H R ∨ w' σ H R) :=
  ⟨fun pins s σ H R I q => q.elim (fun q => h.run pins s σ H R I q) fun q => h'.run pins s σ H R I q⟩
theorem ei_inl {w w' : TI} {Q : List D → Env → Prop} (h : EvI K w ρ Q) : EvI K (fun σ H R => w σ H R ∨ w' σ H R) ρ Q := fun F G H σ R R' k => .inl (h F G H σ R R' k)
theorem ei_inr {w w' : TI} {Q : List D → Env → Prop} (h : EvI K w' ρ Q) : EvI K (fun σ H R => w σ H R ∨ w' σ H R) ρ Q := fun F G H σ R R' k => .inr (h F G H σ R R' k)
theorem ei_list {Q : List D → Env → Prop} (h : EvW K te ρ fun d ρ1 => ∃ ds, d = .lst ds ∧ Q ds ρ1) : EvI K (iList K te) ρ Q := fun F G H σ R R' k =>
  h F G H σ R _ fun v d ρ1 G1 H1 e1 R1 hv q => by
    obtain ⟨ds, rfl, q⟩ := q
    obtain ⟨a, vs, rfl, h1, h2⟩ := rep_lst hv
    exact ⟨a, rfl, ⟨vs, .inl (.inl (R1.wd.g _ _ h1))⟩, k _ ds ρ1 G1 H1 e1 R1 (yl_list h1 h2) q⟩
theorem ei_tup {Q : List D → Env → Prop} (h : EvW K te ρ fun d ρ1 => ∃ ds, d = .tup ds ∧ Q ds ρ1) : EvI K (iTup K te) ρ Q := fun F G H σ R R' k =>
  h F G H σ R _ fun v d ρ1 G1 H1 e1 R1 hv q => by
    obtain ⟨ds, rfl, q⟩ := q
    obtain ⟨a, vs, rfl, h1, h2⟩ := rep_tup hv
    exact ⟨a, rfl, ⟨vs, R1.wd.g.sqT h1⟩, k _ ds ρ1 G1 H1 e1 R1 (yl_tup h1 h2) q⟩
theorem ei_str {Q : List D → Env → Prop} (h : EvW K te ρ fun d ρ1 => ∃ x, d = .str x ∧ Q (x.cps.toList.map fun c => D.str ⟨#[c]⟩) ρ1) : EvI K (iStr te) ρ Q := fun F G H σ R R' k =>
  h F G H σ R _ fun v d ρ1 G1 H1 e1 R1 hv q => by
    obtain ⟨x, rfl, q⟩ := q
    rw [rep_str hv]
    exact ⟨x, rfl, k _ _ ρ1 G1 H1 e1 R1 yl_str q⟩
theorem ei_range1 {Q : List D → Env → Prop} (h : EvA K ts ρ fun ds ρ1 => ∃ j : Int, ds = [.int j] ∧ -100000 ≤ j ∧ j ≤ 100000 ∧ Q ((List.range j.toNat).map fun (i : Nat) => D.int (0 + (i : Int))) ρ1) : EvI K (iRng1 ts) ρ Q := fun F G H σ R R' k =>
  h F G H σ R _ fun vs ds ρ1 G1 H1 e1 R1 hv q => by
    obtain ⟨j, rfl, h1, h2, q⟩ := q
    obtain ⟨v, rfl, hv1⟩ := hv.one
    rw [rep_int hv1]
    exact ⟨j, rfl, by omega, by omega, k _ _ ρ1 G1 H1 e1 R1 yl_range q⟩
/-- for -/
theorem ws_for {wi : TI} {g : TG} {t : TS} {E : EndD} (h : EvI K wi ρ fun ds ρ1 => ∃ P : Nat → Env → Prop, P 0 ρ1 ∧
      (∀ i d ρ', ds[i]? = some d → P i ρ' → GW K g d ρ' fun ρ2 => WS K t ρ2 { E with nx := P (i + 1), ct := P (i + 1), bk := E.nx }) ∧ ∀ ρ', P ds.length ρ' → E.nx ρ') : WS K (tFor wi g t) ρ E := fun F G H σ Dn R L =>
  h F G H σ R _ fun J ds ρ1 G1 H1 e1 R1 Y q => by
    obtain ⟨P, p0, turn, fin⟩ := q
    refine ⟨fun i m σ' H' => m + i = ds.length ∧ ∃ ρ' G', Ex G1 G' ∧ RE K F G' H' σ' ρ' ∧ P i ρ', ⟨ds.length, rfl, ρ1, G1, Ex.refl _, R1, p0⟩, ?_⟩
    rintro i m σ' H' ⟨hm, ρ', G', e', R', p⟩
    by_cases hi : i < ds.length
    · refine .inr ⟨Y.go F G' H' σ' ρ' i e' R' hi, fun σ2 H2 => ∃ ρ2 G2, Ex G1 G2 ∧ RE K F G2 H2 σ2 ρ2 ∧ P (i + 1) ρ2, fun σ2 H2 z => ⟨m - 1, by omega, by omega, z⟩, fun x H2 y => ?_⟩
      obtain ⟨G2, d, e2, R2, hd, hx⟩ := Y.yld F G' H' σ' ρ' i x H2 e' R' hi y
      refine turn i d ρ' hd p F G2 H2 σ' x R2 hx _ fun σ3 ρ3 G3 H3 e3 R3 w3 => ?_
      refine w3 F G3 H3 σ3 _ R3 ⟨fun σ4 ρ4 G4 H4 e4 R4 p4 => ⟨ρ4, G4, ((e'.trans e2).trans e3).trans e4, R4, p4⟩, fun v d σ4 ρ4 G4 H4 e4 R4 hv r4 => ?_, fun σ4 ρ4 G4 H4 e4 R4 p4 => ?_, fun σ4 ρ4 G4 H4 e4 R4 p4 => ⟨ρ4, G4, ((e'.trans e2).trans e3).trans e4, R4, p4⟩, fun p d σ4 ρ4 G4 H4 e4 R4 => L.ro p d σ4 ρ4 G4 H4 ((((e1.trans e').trans e2).trans e3).trans e4) R4, fun C f v d dx G4 H4 e4 => L.xx C f v d dx G4 H4 ((((e1.trans e').trans e2).trans e3).trans e4)⟩
      · exact L.rt v d σ4 ρ4 G4 H4 ((((e1.trans e').trans e2).trans e3).trans e4) R4 hv r4
      · exact L.nx σ4 ρ4 G4 H4 ((((e1.trans e').trans e2).trans e3).trans e4) R4 p4
    · have ei : i = ds.length := by omega
      subst ei
      exact .inl ⟨Y.stop F G' H' σ' ρ' e' R', L.nx σ' ρ' G' H' (e1.trans e') R' (fin ρ' p)⟩
/-- the names of a comprehension forgotten -/
def wipeE (ρ : Env) : List Nat → Env
  | [] => ρ
  | v :: vs => (wipeE ρ vs).set v .un
theorem RE.wipe {F G H : Hp} {σ : L2.St} {ρ : Env} (R : RE K F G H σ ρ) : ∀ vs : List Nat, RE K F G H (L2.wipe σ vs) (wipeE ρ vs)
  | [] => R
  | v :: vs => (RE.wipe R vs).setUn v
theorem wipe_at : ∀ {σ : L2.St} {vs : List Nat} {i : Nat}, i ∉ vs → (L2.wipe σ vs)[i]? = σ[i]?
  | _, [], _, _ => rfl
  | σ, v :: vs, i, h => by
    show ((L2.wipe σ vs).set v none)[i]? = _
    rw [List.getElem?_set_ne (fun z => h (by rw [z]; exact List.mem_cons_self)), wipe_at fun z => h (List.mem_cons_of_mem _ z)]
theorem wipe_in : ∀ {σ : L2.St} {vs : List Nat} {i : Nat}, i ∈ vs → (L2.wipe σ vs)[i]? = if i < σ.length then some none else none
  | _, [], _, h => by cases h
  | σ, v :: vs, i, h => by
    show ((L2.wipe σ vs).set v none)[i]? = _
    by_cases e : v = i
    · subst e
      rw [List.getElem?_set]
      simp [L2.wipe_length]
    · rw [List.getElem?_set_ne e]
      rcases List.mem_cons.mp h with z | z
      · exact absurd z.symm e
      · exact wipe_in z
theorem wipeE_at : ∀ {ρ : Env} {vs : List Nat} {i : Nat}, i ∉ vs → (wipeE ρ vs)[i]? = ρ[i]?
  | _, [], _, _ => rfl
  | ρ, v :: vs, i, h => by
    show ((wipeE ρ vs).set v Sl.un)[i]? = _
    rw [List.getElem?_set_ne (fun z => h (by rw [z]; exact List.mem_cons_self)), wipeE_at fun z => h (List.mem_cons_of_mem _ z)]
theorem wipe_eq {σ σ' : L2.St} {vs : List Nat} (hl : σ'.length = σ.length) (h : ∀ i, i ∉ vs → σ'[i]? = σ[i]?) : L2.wipe σ' vs = L2.wipe σ vs := by
  apply List.ext_getElem?
  intro i
  by_cases m : i ∈ vs
  · rw [wipe_in m, wipe_in m, hl]
  · rw [wipe_at m, wipe_at m, h i m]
/-- a slot with an object of its own -/
def Sl.isOwn : Sl → Bool
  | .own _ _ => true
  | .drw _ => true
  | .two _ _ _ _ => true
  | _ => false
/-- none of the slots vs has an object of its own -/
def ownFree : Env → List Nat → Bool
  | _, [] => true
  | ρ, v :: vs => (match ρ[v]? with
    | some r => !r.isOwn
    | none => true) && ownFree ρ vs
theorem ownFree_at : ∀ {ρ : Env} {vs : List Nat}, ownFree ρ vs = true → ∀ (i : Nat) (r : Sl), ρ[i]? = some r → r.isOwn = true → i ∉ vs
  | _, [], _, _, _, _, _ => by simp
  | ρ, v :: vs, h, i, r, hr, ho => fun m => by
    unfold ownFree at h
    rw [Bool.and_eq_true] at h
    rcases List.mem_cons.mp m with e | m
    · subst e
      rw [hr] at h
      simp [ho] at h
    · exact ownFree_at h.2 i r hr ho m
theorem Slots.join {F G G' H H' : Hp} (e : Ex G G') {σ σ' : L2.St} {ρ ρ' : Env} (h : Slots K F G H σ ρ) (h' : Slots K F G' H' σ' ρ') (k : ∀ (i : Nat) (r : Sl), ρ[i]? = some r → r.isOwn = true → ρ'[i]? = some r ∧ σ'[i]? = σ[i]?) : Slots K F G' H' σ ρ :=
  h.map fun i s r hs hr q => by
    cases ho : r.isOwn with
    | true =>
      obtain ⟨z1, z2⟩ := k i r hr ho
      obtain ⟨s', h1, h2⟩ := h'.get z1
      rw [z2, hs] at h1
      cases h1
      exact h2
    | false => exact q.step e fun a m => by cases r <;> first | (cases ho; done) | (cases m; done)
section
variable {F G H : Hp} {σ : L2.St} {p : Addr} {o : HO}
theorem Slots.frm (hp : ∀ a, a ∈ ownA ρ → a ≠ p) (h : Slots K F G H σ ρ) : Slots K (upd F p o) G H σ ρ :=
  h.map fun i s r _ hr q => SlotOk.frm q fun a m => by rw [upd_ne (hp a (adr_mem hr m))]; exact (q.own m).2.1
theorem Slots.unfrm {σ : L2.St} {ρ : Env} (hF : F p = none) (h : Slots K (upd F p o) G H σ ρ) : Slots K F G H σ ρ :=
  h.map fun i s r _ hr q => SlotOk.frm q fun a m => by
    have z := (q.own m).2.1
    by_cases e : a = p
    · rw [e]; exact hF
    · rw [upd_ne e] at z; exact z
/-- an object of nobody's stands by -/
theorem RE.frm (R : RE K F G H σ ρ) (hp : H p = some o) (hG : G p = none) (hO : p ∉ ownA ρ) (nt : NT o) : RE K (upd F p o) G H σ ρ := by
  refine ⟨⟨fun a u e => ?_, R.wd.g, fun a u e => ?_, fun a vs e => ?_, R.wd.tb.step (fun _ _ z => z) fun t ht => ⟨rfl, (R.wd.tb t ht).1, ?_⟩⟩, R.sl.frm (fun a m z => hO (z ▸ m)), R.nd⟩
  · by_cases z : a = p
    · subst z; rw [upd_same] at e; rw [← e]; exact hp
    · rw [upd_ne z] at e; exact R.wd.f a u e
  · by_cases z : a = p
    · subst z; exact hG
    · rw [upd_ne z] at e; exact R.wd.fg a u e
  · by_cases z : a = p
    · subst z; rw [upd_same] at e; cases e; exact nt.1 vs rfl
    · rw [upd_ne z] at e; exact R.wd.ft a vs e
  · rw [upd_ne (R.wd.tb.ne hp nt t ht)]
    exact (R.wd.tb t ht).2.1
theorem RE.unfrm (R : RE K (upd F p o) G H σ ρ) (hF : F p = none) : RE K F G H σ ρ ∧ H p = some o ∧ G p = none := by
  have e : upd F p o p = some o := upd_same
  refine ⟨⟨⟨fun a u q => ?_, R.wd.g, fun a u q => ?_, fun a vs q => R.wd.ft a vs (by rw [upd_ne (ne_of_none q hF)]; exact q), R.wd.tb.step (fun _ _ z => z) fun t ht => ⟨rfl, (R.wd.tb t ht).1, ?_⟩⟩, R.sl.unfrm hF, R.nd⟩, R.wd.f p o e, R.wd.fg p o e⟩
  · exact R.wd.f a u (by rw [upd_ne (ne_of_none q hF)]; exact q)
  · exact R.wd.fg a u (by rw [upd_ne (ne_of_none q hF)]; exact q)
  · have z := (R.wd.tb t ht).2.1
    by_cases ep : t.1 = p
    · rw [ep]; exact hF
    · rw [upd_ne ep] at z; exact z
theorem RE.aloneU {u' : HO} (R : RE K F G H σ ρ) (hG : G p = none) (hF : F p = none) (hO : p ∉ ownA ρ) (hu : H p = some u') (nt : NT u') : RE K F G (upd H p o) σ ρ := by
  refine ⟨⟨fun a u e => ?_, fun a u e => ?_, R.wd.fg, R.wd.ft, R.wd.tb.step (fun _ _ z => z) fun t ht => ⟨upd_ne (R.wd.tb.ne hu nt t ht), (R.wd.tb t ht).1, (R.wd.tb t ht).2.1⟩⟩, R.sl.step (Ex.refl G) (fun a m => ⟨upd_ne fun z => hO (z ▸ m), (R.sl.own m).1⟩), R.nd⟩
  · rw [upd_ne (ne_of_none e hF)]; exact R.wd.f a u e
  · rw [upd_ne (ne_of_none e hG)]; exact R.wd.g a u e
end
/-- a target of a comprehension: it stores in the slots vs -/
def GV (K : PySem.W.Frag) (g : TG) (vs : List Nat) (d : D) (ρ : Env) (Q : Env → Prop) : Prop := ∀ F G H σ v, RE K F G H σ ρ → Rep K G v d → ∀ Q' : L2.St → Hp → Prop,
  (∀ σ' ρ', σ'.length = σ.length → (∀ i, i ∉ vs → σ'[i]? = σ[i]? ∧ ρ'[i]? = ρ[i]?) → RE K F G H σ' ρ' → Q ρ' → Q' σ' H) → g v σ H Q'
def GVs (K : PySem.W.Frag) (g : TGs) (vs : List Nat) (ds : List D) (ρ : Env) (Q : Env → Prop) : Prop := ∀ F G H σ ws, RE K F G H σ ρ → Reps K G ws ds → ∀ Q' : L2.St → Hp → Prop,
  (∀ σ' ρ', σ'.length = σ.length → (∀ i, i ∉ vs → σ'[i]? = σ[i]? ∧ ρ'[i]? = ρ[i]?) → RE K F G H σ' ρ' → Q ρ' → Q' σ' H) → g ws σ H Q'
theorem gv_name {i : Nat} {vs : List Nat} {d : D} {Q : Env → Prop} (hi : i ∈ vs) (h : Q (ρ.set i (.sh d))) : GV K (gName i) vs d ρ Q := fun F G H σ v R hv Q' k =>
  k _ _ (List.length_set) (fun j hj => ⟨List.getElem?_set_ne fun (z : i = j) => hj (by rw [← z]; exact hi), List.getElem?_set_ne fun (z : i = j) => hj (by rw [← z]; exact hi)⟩) (R.setSh hv i) h
theorem gvs_nil {vs : List Nat} {Q : Env → Prop} (h : Q ρ) : GVs K gNil vs [] ρ Q := fun F G H σ ws R hv Q' k => ⟨hv.nil_inv, k σ ρ rfl (fun _ _ => ⟨rfl, rfl⟩) R h⟩
theorem gvs_cons {g : TG} {gs : TGs} {vs : List Nat} {d : D} {ds : List D} {Q : Env → Prop} (h : GV K g vs d ρ fun ρ1 => GVs K gs vs ds ρ1 Q) : GVs K (gCons g gs) vs (d :: ds) ρ Q := fun F G H σ ws R hv Q' k => by
  obtain ⟨v, us, rfl, h1, h2⟩ := hv.cons_inv
  exact ⟨v, us, rfl, h F G H σ v R h1 _ fun σ1 ρ1 l1 s1 R1 q1 => q1 F G H σ1 us R1 h2 Q' fun σ2 ρ2 l2 s2 R2 q2 => k σ2 ρ2 (l2.trans l1) (fun i hi => ⟨(s2 i hi).1.trans (s1 i hi).1, (s2 i hi).2.trans (s1 i hi).2⟩) R2 q2⟩
theorem gv_tup {n : Nat} {gs : TGs} {vs : List Nat} {ds : List D} {Q : Env → Prop} (hn : ds.length = n) (h : GVs K gs vs ds ρ Q) : GV K (gTup K n gs) vs (.tup ds) ρ Q := fun F G H σ v R hv Q' k => by
  obtain ⟨a, us, rfl, h1, h2⟩ := rep_tup hv
  exact ⟨a, us, rfl, R.wd.g.sqT h1, by rw [h2.length]; exact hn, h F G H σ us R h2 Q' k⟩
/-- [te for g in wi if tt], the names vs within; what is own stays as it is -/
theorem en_lc {wi : TI} {g : TG} {vs : List Nat} (h : EvI K wi ρ fun ds ρ1 => ownFree ρ1 vs = true ∧ ds.length ≤ 90000 ∧ ∃ P : Nat → List D → Prop, P 0 [] ∧
      (∀ i d acc, ds[i]? = some d → P i acc → GV K g vs d (wipeE ρ1 vs) fun ρ2 => EvT K tt ρ2 fun b ρ3 => ρ3 = ρ2 ∧ if b = true then EvW K te ρ2 fun y ρ4 => ρ4 = ρ2 ∧ P (i + 1) (acc ++ [y]) else P (i + 1) acc) ∧
      ∀ acc, P ds.length acc → Q (.lst acc) ρ1) : EvN K (tLc wi g tt te vs) ρ Q := fun F G H σ R Q' k =>
  h F G H σ R _ fun J ds ρ1 G1 H1 e1 R1 Y q => fun Dd hD => by
    obtain ⟨hv0, hlen, P, p0, turn, fin⟩ := q
    have hv := ownFree_at hv0
    have hF0 : F Dd = none := R1.wd.f.none hD
    have hO : Dd ∉ ownA ρ1 := ownA_fresh R1 hD
    refine ⟨fun i m H' => m + i = ds.length ∧ ∃ acc accV G', Ex G1 G' ∧ RE K F G' H' σ ρ1 ∧ G' Dd = none ∧ H' Dd = some (.lst accV) ∧ Reps K G' accV acc ∧ acc.length ≤ i ∧ P i acc,
      ⟨ds.length, rfl, [], [], G1, Ex.refl _, R1.alone hD, R1.wd.g.none hD, upd_same, .nil, Nat.le_refl _, p0⟩, ?_⟩
    rintro i m H' ⟨hm, acc, accV, G', e', R', hG, hH, ra, hl, p⟩
    have Rf := R'.frm hH hG hO ⟨fun _ z => (nomatch z), fun _ z => (nomatch z)⟩
    by_cases hi : i < ds.length
    · refine .inr ⟨Y.go _ G' H' σ ρ1 i e' Rf hi, fun H2 => ∃ acc accV G2, Ex G1 G2 ∧ RE K F G2 H2 σ ρ1 ∧ G2 Dd = none ∧ H2 Dd = some (.lst accV) ∧ Reps K G2 accV acc ∧ acc.length ≤ i + 1 ∧ P (i + 1) acc, fun H2 z => ⟨m - 1, by omega, by omega, z⟩, fun x H2 y => ?_⟩
      obtain ⟨G2, d, e2, R2, hd, hx⟩ := Y.yld _ G' H' σ ρ1 i x H2 e' Rf hi y
      refine turn i d acc hd p _ G2 H2 _ x (R2.wipe vs) hx _ fun σ2 ρ2 l2 s2 R3 w3 => ?_
      refine ⟨?_, w3 _ G2 H2 σ2 R3 _ fun b ρ3 G4 H4 e4 R4 w4 => ?_⟩
      · have e0 : L2.wipe (L2.wipe σ vs) vs = L2.wipe σ vs := wipe_eq (L2.wipe_length σ vs) fun i hi => wipe_at hi
        rw [wipe_eq l2 fun i hi => (s2 i hi).1, e0]
      obtain ⟨rfl, w4⟩ := w4
      have back : ∀ {G5 H5 : Hp}, Ex G2 G5 → RE K (upd F Dd (.lst accV)) G5 H5 σ2 ρ3 → RE K F G5 H5 σ ρ1 ∧ H5 Dd = some (.lst accV) ∧ G5 Dd = none := fun {G5 H5} e5 R5 => by
        obtain ⟨R6, h6, g6⟩ := R5.unfrm hF0
        refine ⟨⟨R6.wd, Slots.join (e2.trans e5) R'.sl R6.sl (fun j r hr ho => ?_), R'.nd⟩, h6, g6⟩
        have hj := hv j r hr ho
        rw [(s2 j hj).1, (s2 j hj).2, wipe_at hj, wipeE_at hj]
        exact ⟨hr, rfl⟩
      cases b with
      | true =>
        refine w4 _ G4 H4 σ2 R4 _ fun v yv ρ5 G5 H5 e5 R5 hvy w5 => ?_
        obtain ⟨rfl, w5⟩ := w5
        obtain ⟨R6, h6, g6⟩ := back (e4.trans e5) R5
        refine ⟨accV, h6, by rw [ra.length]; exact bigl (by omega), acc ++ [yv], accV ++ [v], G5, ((e'.trans e2).trans e4).trans e5, R6.aloneU g6 hF0 hO h6 ⟨fun _ z => (nomatch z), fun _ z => (nomatch z)⟩, g6, upd_same, (ra.mono ((e2.trans e4).trans e5)).append (.cons hvy .nil), by simp; omega, w5⟩
      | false =>
        obtain ⟨R6, h6, g6⟩ := back e4 R4
        exact ⟨acc, accV, G4, (e'.trans e2).trans e4, R6, g6, h6, ra.mono (e2.trans e4), by omega, w4⟩
    · have ei : i = ds.length := by omega
      subst ei
      exact .inl ⟨Y.stop _ G' H' σ ρ1 e' R', k Dd (.lst acc) ρ1 G' H' (e1.trans e') R' hG hF0 hO ⟨accV, hH, ra⟩ (fin acc p)⟩
end
end DL

set_option Elab.async false
set_option linter.all false
set_option maxRecDepth 100000
namespace DL
open PySem PySem.Spec PyProof.Rows L2
variable [TabL]
/-! ### a def that keeps its promise, by name -/
structure FnB (P : Program) (w : World) (K : PySem.W.Frag) (mg : Str → Option Value) (base : Heap) (k : Nat) (x : Str) (ps : List Str) (sp : Sp) : Prop where
  ex : ∃ fd, FnOk P w K mg base CX0 k (He.ga K x) fd ps sp ∧ Binds K fd ps []
  kp : PySem.W.keepIn K (.ref (He.ga K x)) = true
  at_ : mg x = some (.ref (He.ga K x))
theorem FnB.mono {P : Program} {w : World} {K : PySem.W.Frag} {mg : Str → Option Value} {base : Heap} {j k : Nat} {x : Str} {ps : List Str} {sp : Sp} (F : FnB P w K mg base j x ps sp) (h : j ≤ k) : FnB P w K mg base k x ps sp := by
  obtain ⟨fd, h1, h2⟩ := F.ex
  exact ⟨⟨fd, h1.mono h, h2⟩, F.kp, F.at_⟩
theorem pe_callF {X : Cx} {k : Nat} {x : Str} {ps : List Str} {sp : Sp} {e : Expr} {es : List Expr} {t : TA} {p pos : Pos} (F : FnB X.prog X.w X.K X.mg X.base k x ps sp) (hr : Room k X.A) (ha : PA X (e :: es) t) (hg : Gl X x := by rfl)
    (he : starEach (e :: es) X.env = (false, eval e X.env) :: starEach es X.env := by rfl) (hpl : (backTo pos (starEach es X.env)).any (·.1) = false := by rfl) (hd : (x == ("__debug__" : Str)) = false := by decide) : PE X (.Call (.Name x p) (e :: es) [] pos) (tCall sp [] E0 t) := by
  obtain ⟨fd, h1, h2⟩ := F.ex
  exact pe_call h1 hr hg F.at_ F.kp h2 .nil pass0 ha hd he hpl
theorem slots_start {K : PySem.W.Frag} {F G H : Hp} : ∀ {vs : List V} {ds : List D} (n : Nat), Reps K G vs ds → Slots K F G H (vs.map some ++ List.replicate n none) (ds.map Sl.sh ++ List.replicate n Sl.un)
  | [], [], 0, _ => trivial
  | [], [], n + 1, h => ⟨trivial, slots_start (vs := []) (ds := []) n h⟩
  | [], _ :: _, _, h => by cases h
  | _ :: _, [], _, h => by cases h
  | _ :: _, _ :: _, n, h => by
    cases h with | cons a b => exact ⟨⟨_, rfl, a⟩, slots_start n b⟩
theorem ownA_un : ∀ n : Nat, ownA (List.replicate n Sl.un) = []
  | 0 => rfl
  | n + 1 => ownA_un n
theorem own_start : ∀ (ds : List D) (n : Nat), ownA (ds.map Sl.sh ++ List.replicate n Sl.un) = []
  | [], n => ownA_un n
  | d :: ds, n => own_start ds n
abbrev envP (N : List Str) (ds : List D) : Env := ds.map Sl.sh ++ List.replicate (N.length - ds.length) Sl.un
theorem fn_P {P : Program} {w : World} {K : PySem.W.Frag} {mg : Str → Option Value} {base : Heap} {x qual : Str} {params : Arguments} {body : List Stmt} {scope : Scope} {fd : FuncData} {N ps : List Str} {k : Nat} {T : List D → (D → Prop) → Prop}
    (F : FunD K x qual params body scope [] [] (He.ga K x) fd) (at_ : mg x = some (.ref (He.ga K x)))
    (bi : ∀ (kV doc pm : Value) (an : Option Addr) (cdv ct : Value) (us : List Value), us.length = ps.length → bindArgs (PySem.W.fnOf x qual params body scope .none kV doc pm an cdv ct) ⟨us, []⟩ = pure (ps.zip us))
    (S : FnScope N ps scope) (hl : ∀ ds Qd, T ds Qd → ds.length = ps.length)
    (hb : ∀ (cdv : Value) (A : Around) (outer : List PySem.Env) (s : Shared) (H : Hp) (E : XK), Room k (A.deeper (envOfC qual scope s.heap.objs.size (He.ga K x) cdv)) →
      ∃ t, PSs (cxOf CX0 P w K mg base N qual scope (He.ga K x) cdv A outer s H E).nox body t ∧ ∀ ds Qd, T ds Qd → WS K t (envP N ds) { nx := fun _ => Qd .non, rt := fun d _ => Qd d }) :
    FnB P w K mg base (k + 1) x ps (spP K T) := by
  refine ⟨⟨fd, F.ok S (fun vs H Q E h => ?_) (fun cdv A outer s H vs Q E hr h => ?_), F.bindsN bi⟩, F.kp, at_⟩
  · obtain ⟨_, _, ds, Qd, _, r, t, _⟩ := h
    rw [r.length]; exact hl ds Qd t
  · obtain ⟨F', G, ds, Qd, W, r, tt, post⟩ := h
    obtain ⟨t, hd, hw⟩ := hb cdv A outer s H E hr
    refine ⟨t, PSs.nox hd, ?_⟩
    have R : RE K F' G H (L2.start N vs) (envP N ds) := by
      unfold L2.start
      refine ⟨W, by rw [r.length]; exact slots_start _ r, by rw [own_start]; exact List.nodup_nil⟩
    refine hw ds Qd tt F' G H (L2.start N vs) _ R ⟨fun σ' ρ' G' H' e R' q => ?_, fun v d σ' ρ' G' H' e R' hv q => ?_, fun σ' ρ' G' H' e R' q => q.elim, fun σ' ρ' G' H' e R' q => q.elim, fun p d σ' ρ' G' H' e R' _ _ _ _ q => q.elim, fun C f v d dx G' H' _ _ _ _ _ _ q => q.elim⟩
    · exact post .non .non G' H' e R'.wd .non q
    · exact post v d G' H' e R'.wd hv q
/-- .. that hands back a new object -/
theorem fn_N {P : Program} {w : World} {K : PySem.W.Frag} {mg : Str → Option Value} {base : Heap} {x qual : Str} {params : Arguments} {body : List Stmt} {scope : Scope} {fd : FuncData} {N ps : List Str} {k : Nat} {T : List D → (D → Prop) → Prop}
    (F : FunD K x qual params body scope [] [] (He.ga K x) fd) (at_ : mg x = some (.ref (He.ga K x)))
    (bi : ∀ (kV doc pm : Value) (an : Option Addr) (cdv ct : Value) (us : List Value), us.length = ps.length → bindArgs (PySem.W.fnOf x qual params body scope .none kV doc pm an cdv ct) ⟨us, []⟩ = pure (ps.zip us))
    (S : FnScope N ps scope) (hl : ∀ ds Qd, T ds Qd → ds.length = ps.length)
    (hb : ∀ (cdv : Value) (A : Around) (outer : List PySem.Env) (s : Shared) (H : Hp) (E : XK), Room k (A.deeper (envOfC qual scope s.heap.objs.size (He.ga K x) cdv)) →
      ∃ t, PSs (cxOf CX0 P w K mg base N qual scope (He.ga K x) cdv A outer s H E).nox body t ∧ ∀ ds Qd, T ds Qd → WS K t (envP N ds) { nx := fun _ => False, rt := fun _ _ => False, ro := fun d _ => Qd d }) :
    FnB P w K mg base (k + 1) x ps (spN K T) := by
  refine ⟨⟨fd, F.ok S (fun vs H Q E h => ?_) (fun cdv A outer s H vs Q E hr h => ?_), F.bindsN bi⟩, F.kp, at_⟩
  · obtain ⟨_, _, ds, Qd, _, r, t, _⟩ := h
    rw [r.length]; exact hl ds Qd t
  · obtain ⟨F', G, ds, Qd, W, r, tt, post⟩ := h
    obtain ⟨t, hd, hw⟩ := hb cdv A outer s H E hr
    refine ⟨t, PSs.nox hd, ?_⟩
    have R : RE K F' G H (L2.start N vs) (envP N ds) := by
      unfold L2.start
      refine ⟨W, by rw [r.length]; exact slots_start _ r, by rw [own_start]; exact List.nodup_nil⟩
    refine hw ds Qd tt F' G H (L2.start N vs) _ R ⟨fun σ' ρ' G' H' e R' q => q.elim, fun v d σ' ρ' G' H' e R' hv q => q.elim, fun σ' ρ' G' H' e R' q => q.elim, fun σ' ρ' G' H' e R' q => q.elim, fun p d σ' ρ' G' H' e R' hG hF hO o q => ?_, fun C f v d dx G' H' _ _ _ _ _ _ q => q.elim⟩
    exact post p d G' H' e R'.wd hG hF o q
/-- .. whose first argument is the state of draws -/
abbrev envW (a : Addr) (N : List Str) (ds : List D) : Env := Sl.drw a :: (ds.map Sl.sh ++ List.replicate (N.length - 1 - ds.length) Sl.un)
theorem fn_W {P : Program} {w : World} {K : PySem.W.Frag} {mg : Str → Option Value} {base : Heap} {x qual : Str} {params : Arguments} {body : List Stmt} {scope : Scope} {fd : FuncData} {N ps : List Str} {k : Nat} {T : List D → (D → Prop) → Prop}
    (F : FunD K x qual params body scope [] [] (He.ga K x) fd) (at_ : mg x = some (.ref (He.ga K x)))
    (bi : ∀ (kV doc pm : Value) (an : Option Addr) (cdv ct : Value) (us : List Value), us.length = ps.length → bindArgs (PySem.W.fnOf x qual params body scope .none kV doc pm an cdv ct) ⟨us, []⟩ = pure (ps.zip us))
    (S : FnScope N ps scope) (hN : N ≠ []) (hl : ∀ ds Qd, T ds Qd → ds.length + 1 = ps.length)
    (hb : ∀ (cdv : Value) (A : Around) (outer : List PySem.Env) (s : Shared) (H : Hp) (E : XK), Room k (A.deeper (envOfC qual scope s.heap.objs.size (He.ga K x) cdv)) →
      ∃ t, PSs (cxOf CX0 P w K mg base N qual scope (He.ga K x) cdv A outer s H E).nox body t ∧ ∀ a ds Qd, T ds Qd → WS K t (envW a N ds) { nx := fun ρ => ρ[0]? = some (.drw a) ∧ Qd .non, rt := fun d ρ => ρ[0]? = some (.drw a) ∧ Qd d }) :
    FnB P w K mg base (k + 1) x ps (spW K T) := by
  refine ⟨⟨fd, F.ok S (fun vs H Q E h => ?_) (fun cdv A outer s H vs Q E hr h => ?_), F.bindsN bi⟩, F.kp, at_⟩
  · obtain ⟨a, ws, _, _, ds, Qd, rfl, _, _, _, _, r, t, _⟩ := h
    rw [List.length_cons, r.length]; exact hl ds Qd t
  · obtain ⟨a, ws, F', G, ds, Qd, rfl, W, hG, hF, hD, r, tt, post⟩ := h
    obtain ⟨t, hd, hw⟩ := hb cdv A outer s H E hr
    refine ⟨t, PSs.nox hd, ?_⟩
    have es : L2.start N (.ref a :: ws) = some (.ref a) :: (ws.map some ++ List.replicate (N.length - 1 - ws.length) none) := by
      unfold L2.start
      simp only [List.map_cons, List.cons_append, List.length_cons]
      rw [show N.length - (ws.length + 1) = N.length - 1 - ws.length by omega]
    have R : RE K F' G H (L2.start N (.ref a :: ws)) (envW a N ds) := by
      rw [es]
      refine ⟨W, ⟨⟨rfl, hG, hF, hD⟩, by rw [r.length]; exact slots_start _ r⟩, ?_⟩
      show (a :: ownA (ds.map Sl.sh ++ List.replicate (N.length - 1 - ds.length) Sl.un)).Nodup
      rw [own_start]
      simp
    have dr : ∀ {σ' : L2.St} {ρ' : Env} {G' H' : Hp}, RE K F' G' H' σ' ρ' → ρ'[0]? = some (.drw a) → G' a = none ∧ DrwR (H' a) := fun R' h0 => by
      obtain ⟨_, _, _, h1, _, h2⟩ := R'.sl.get h0
      exact ⟨h1, h2⟩
    refine hw a ds Qd tt F' G H _ _ R ⟨fun σ' ρ' G' H' e R' q => ?_, fun v d σ' ρ' G' H' e R' hv q => ?_, fun σ' ρ' G' H' e R' q => q.elim, fun σ' ρ' G' H' e R' q => q.elim, fun p d σ' ρ' G' H' e R' _ _ _ _ q => q.elim, fun C f v d dx G' H' _ _ _ _ _ _ q => q.elim⟩
    · exact post .non .non G' H' e R'.wd (dr R' q.1).1 (dr R' q.1).2 .non q.2
    · exact post v d G' H' e R'.wd (dr R' q.1).1 (dr R' q.1).2 hv q.2
end DL

set_option Elab.async false
set_option linter.all false
set_option maxRecDepth 100000
namespace DL
open PySem PySem.Spec PyProof.Rows L2
variable [TabL]
/-! ### enumerate over a tuple -/
set_option maxHeartbeats 1000000 in
theorem meets_enum1 {v : Value} {ob : Obj} {HB : Heap → Prop} (B : Begins v ob HB) :
    Meets (Builtin.«enumerate.__new__» ⟨[.type "enumerate", v], []⟩)
      (fun _ R s => HB s.heap ∧ R (.ok (.ret (.ref (s.heap.push ob).objs.size)))
        { s with heap := (s.heap.push ob).push { cls := .type "enumerate", data := .fields #[.none, .bool false, .ref s.heap.objs.size, rawInt 0, .none, .none] } }) := by
  refine .of_wp fun prog w A R s h => ?_
  obtain ⟨hp, gs, dr, tk, os⟩ := s
  obtain ⟨hb, hR⟩ := h
  have sube := sub_enumerate
  have begin1 : ∀ {A' : Around} {E' : Value → Shared → Prop} {Q' : Value → Shared → Prop}, Q' (.ref hp.objs.size) ⟨hp.push ob, gs, dr, tk, os⟩ → wpAny (model prog w) A' (pyIter v) Q' E' ⟨hp, gs, dr, tk, os⟩ := fun z => B.iter prog w _ _ ⟨hp, gs, dr, tk, os⟩ _ hb z
  wp_walk using begin1
  refine wpAny_stack_any fun stk => wpAny_pure ?_
  split
  · rename_i cc _ _ _ _ _
    cases (cc == Value.type "enumerate") <;> (wp_walk using begin1; exact ⟨_, rfl, hR⟩)
  · wp_walk using begin1
    exact ⟨_, rfl, hR⟩
theorem call_enum1 {prog : Program} {w : World} {A : Around} {E : Value → Shared → Prop} {s : Shared} {v : Value} {ob : Obj} {HB : Heap → Prop} {Q : Value → Shared → Prop} (B : Begins v ob HB) (hb : HB s.heap)
    (h : ∀ h', IsEnum h' (s.heap.objs.size + 1) s.heap.objs.size 0 .none → h'.get? s.heap.objs.size = some ob → (∀ b o, s.heap.get? b = some o → h'.get? b = some o) → Q (.ref (s.heap.objs.size + 1)) { s with heap := h' }) :
    wpAny (model prog w) A (call (.type "enumerate") [v]) Q E s := by
  refine callType_new F.called_enumerate (by decide) (F.typeCall_enumerate_1 _) (F.newCall_enumerate_1 _) (fun obj => F.args_object_init_2 obj _) F.entry_enumerate_new (meets_enum1 B) ⟨hb, ?_⟩
  have sz : (s.heap.push ob).objs.size = s.heap.objs.size + 1 := Heap.size_push ..
  have at0 := Heap.get?_push_size (s.heap.push ob) (o := { cls := .type "enumerate", data := .fields #[.none, .bool false, .ref s.heap.objs.size, rawInt 0, .none, .none] }) rfl
  rw [sz] at at0
  show _ ∧ _
  rw [sz]
  exact ⟨⟨_, at0, rfl⟩, h _ at0 (Heap.get?_push_of_some _ (Heap.get?_push_size _ B.free)) fun b o x => Heap.get?_push_of_some _ (Heap.get?_push_of_some _ x)⟩
/-- the tuple at a, each item in a new pair -/
def IteT (K : PySem.W.Frag) (a : Addr) : It where
  go := fun i H => ∃ (xs : List V) (x : V), SqT K H a xs ∧ xs[i]? = some x
  yld := fun i H v H' => ∃ T x, v = .ref T ∧ H T = none ∧ H' = upd H T (.tup [.int (i : Nat), x]) ∧ ∀ xs, SqT K H a xs → xs[i]? = some x
  stop := fun i H => ∃ xs : List V, SqT K H a xs ∧ xs.length = i
theorem turn_enumT {P : Program} {w : World} {K : PySem.W.Frag} {elts : List Expr} {kk : Nat} {tpos : Pos} (a e it : Addr) (hai : a ≠ it) (hae : e ≠ a) :
    Turn P w K (.Tuple elts kk tpos) (IteT K a) [e, it] e (fun i h => (∃ old, IsEnum h e it ((i : Nat) : Int) old) ∧ h.IsTupleIter it a i ∧ e ≠ it) where
  mem := by simp
  obj := fun i h st b hb => by
    obtain ⟨⟨old, he⟩, ⟨o, ho, hc, hd⟩, _⟩ := st
    rcases (show b = e ∨ b = it by simpa using hb) with rfl | rfl
    · exact ⟨_, he, fun v q => nomatch q⟩
    · exact ⟨o, ho, fun v q => by rw [hd] at q; cases q⟩
  keep := fun i h h' st k => by
    obtain ⟨⟨old, he⟩, hi, hne⟩ := st
    exact ⟨⟨old, k e (by simp) _ he⟩, hi.at fun o q => k it (by simp) o q, hne⟩
  item := by
    intro X hP hw hK hc i pins s σ H E I hf st hg
    subst hP hw hK
    obtain ⟨⟨old, he⟩, hit, hne⟩ := st
    obtain ⟨xs, x, hq, hx⟩ := hg
    obtain ⟨its, rv, tp, hz⟩ := I.tuple hq
    obtain ⟨u, hu, ru⟩ := rv.get hx
    have hel : e < s.heap.objs.size := Heap.lt_size he
    have hil : it < s.heap.objs.size := by obtain ⟨_, q, _⟩ := hit; exact Heap.lt_size q
    have hh : X.A.in1.handled = none := by simpa using I.ok.hd hc
    have hlt : i < its.toArray.size := by
      have := (List.getElem?_eq_some_iff.mp hu).1
      simpa using this
    have hef : e ∉ [it, a] := fun m => by
      rcases (show e = it ∨ e = a by simpa using m) with z | z
      · exact hne z
      · exact hae z
    refine wpAny_pyNext_enum_itemD (Draws.tuple (prog := X.prog) (w := X.w) hh it a hai its.toArray) he ⟨hit, tp⟩ hlt hne hef fun y h' tk hy ho hst hT hsz hk => ?_
    have ey : y = u := by
      have h1 : its.toArray[i]? = some u := by simpa using hu
      exact Option.some.inj (hy.symm.trans h1)
    subst ey
    refine ⟨_, rfl, wpAny_letOwnedTupleGo_enum (s := { s with heap := h', toks := tk + 1 }) ho fun h'' he' sb => ?_⟩
    have hT2 : h''.get? s.heap.objs.size = some { cls := .type "tuple", data := .seq #[.int i tk, y] } := (sb.2 _ (Nat.ne_of_gt hel)).trans hT
    have new : ObjOk X.prog X.w (upd H s.heap.objs.size (.tup [.int (i : Nat), x])) h'' s.heap.objs.size (.tup [.int (i : Nat), x]) := by
      refine ⟨by show 2 ≤ sizeLine; decide, [.int i tk, y], .cons ⟨_, rfl⟩ (.cons ru .nil), ⟨_, hT2, rfl, _, rfl⟩⟩
    have I1 : Inv X pins σ (upd H s.heap.objs.size (.tup [.int (i : Nat), x])) { s with heap := h'', toks := tk + 1 } := by
      refine I.turnedNew (ch := [e, it]) (fun b ob hb q => ?_) hf (Nat.le_refl _) new
      exact (sb.2 b fun z => hb (by simp [z])).trans (hk b ob (fun z => hb (by simp [z])) (fun z => hb (by simp [z])) q)
    refine ⟨.ref s.heap.objs.size, _, I1, rfl, ⟨_, x, rfl, I.hok.fresh (Nat.le_refl _), rfl, fun ys hy => by rw [I.tuple_inj hy hq]; exact hx⟩, ⟨⟨y, ?_⟩, hst.1.at fun o q => (sb.2 it (Ne.symm hne)).trans q, hne⟩, fun b hb => ?_⟩
    · rw [show ((i + 1 : Nat) : Int) = (i : Int) + 1 by omega]
      exact he'
    · have hb' : b < s.heap.objs.size := by
        rcases (show b = e ∨ b = it by simpa using hb) with z | z
        · rw [z]; exact hel
        · rw [z]; exact hil
      rw [upd_ne (Nat.ne_of_lt hb')]
      exact (hf b hb).1
  done := by
    intro X hP hw hK hc i pins s σ H E I hf st hg
    subst hP hw hK
    obtain ⟨⟨old, he⟩, hit, hne⟩ := st
    obtain ⟨xs, hq, hx⟩ := hg
    obtain ⟨its, rv, tp, hz⟩ := I.tuple hq
    obtain ⟨f0, f1, f2, f3, f4, f5⟩ := hf it (by simp)
    have hh : X.A.in1.handled = none := by simpa using I.ok.hd hc
    have hl := rv.length
    have ei : i = its.toArray.size := by simp; omega
    subst ei
    refine wpAny_pyNext_enum_endD (Draws.tuple (prog := X.prog) (w := X.w) hh it a hai its.toArray) he ⟨hit, tp⟩ fun h' eb => ?_
    exact ⟨rfl, I.turned (t' := s.toks) (fun b o hb q => eb b o hb q) f0 f1 f3 f4 f5⟩
  self := fun A i s Q E st h => by
    obtain ⟨⟨_, he⟩, _⟩ := st
    exact wpAny_pyIter_enum he h
def iEnumT (K : PySem.W.Frag) (ta : TA) : TI := fun σ H R => ta σ H fun vs H1 => ∃ a xs, vs = [.ref a] ∧ SqT K H1 a xs ∧ R (IteT K a) H1
theorem pi_enumT {X : Cx} {e : Expr} {ta : TA} {p pos tpos : Pos} {elts : List Expr} {kk : Nat} (hg : Gl X "enumerate") (hm : X.mg "enumerate" = none) (ha : PA X [e] ta) (hs : starEach [e] X.env = [(false, eval e X.env)] := by rfl) :
    PI X (.Tuple elts kk tpos) (.Call (.Name "enumerate" p) [e] [] pos) (iEnumT X.K ta) := by
  refine ⟨fun pins s σ H R I h => ?_⟩
  refine Call_ (ld_blt I hg hm boot_enumerate (PyProof.Rows.callWith_type1 (thn (ha.run pos pins s σ H _ I h) fun us s1 z => ?_) hs rfl))
  obtain ⟨vs, H1, I1, r1, a, xs, rfl, hq, q⟩ := z
  obtain ⟨u, rfl, ru⟩ := vals1 r1
  cases ru
  obtain ⟨its, rv, tp, hz⟩ := I1.tuple hq
  have ha1 : a < s1.heap.objs.size := by obtain ⟨o, h1, _⟩ := tp; exact Heap.lt_size h1
  refine call_enum1 (begins_tuple a its.toArray) tp fun h' he hit hk => wpAny_pyIter_enum he ?_
  have I2 : Inv X pins σ H1 { s1 with heap := h' } := I1.kept (t' := s1.toks) hk
  refine ⟨s1.heap.objs.size + 1, [s1.heap.objs.size + 1, s1.heap.objs.size], _, _, H1, rfl, I2, turn_enumT a (s1.heap.objs.size + 1) s1.heap.objs.size (Nat.ne_of_lt ha1) (Nat.ne_of_gt (Nat.lt_succ_of_lt ha1)), ⟨⟨.none, he⟩, ⟨_, hit, rfl, rfl⟩, Nat.succ_ne_self _⟩, fun b hb => ?_, q⟩
  have hle : s1.heap.objs.size ≤ b := by
    rcases (show b = s1.heap.objs.size + 1 ∨ b = s1.heap.objs.size by simpa using hb) with z | z
    · rw [z]; exact Nat.le_add_right _ _
    · rw [z]; exact Nat.le_refl _
  exact I1.fpOk hle (I1.hok.fresh hle)
/-- enumerate of a list or of a tuple -/
theorem pi_enumU {X : Cx} {e : Expr} {ta : TA} {p pos tpos : Pos} {elts : List Expr} {kk : Nat} (hg : Gl X "enumerate") (hm : X.mg "enumerate" = none) (ha : PA X [e] ta) (hs : starEach [e] X.env = [(false, eval e X.env)] := by rfl) :
    PI X (.Tuple elts kk tpos) (.Call (.Name "enumerate" p) [e] [] pos) (fun σ H R => iEnum X.K ta σ H R ∨ iEnumT X.K ta σ H R) := pi_or (pi_enum hg hm ha hs) (pi_enumT hg hm ha hs)
section
variable {K : PySem.W.Frag} {ts : TA} {ρ : Env} {Q : List D → Env → Prop}
def enumD (ds : List D) : List D := (List.range ds.length).zipWith (fun i d => D.tup [.int (i : Nat), d]) ds
theorem enumD_len (ds : List D) : (enumD ds).length = ds.length := by simp [enumD]
theorem enumD_at {ds : List D} {i : Nat} {d : D} (h : ds[i]? = some d) : (enumD ds)[i]? = some (.tup [.int (i : Nat), d]) := by
  have hl := (List.getElem?_eq_some_iff.mp h).1
  unfold enumD
  rw [List.getElem?_zipWith, h]
  simp [List.getElem?_range hl]
theorem pair_new {F G H : Hp} {σ : L2.St} {ρ : Env} (R : RE K F G H σ ρ) {T : Addr} (hT : H T = none) {x y : V} {d e : D} (hx : Rep K G x d) (hy : Rep K G y e) :
    ∃ G3, Ex G G3 ∧ RE K F G3 (upd H T (.tup [x, y])) σ ρ ∧ Rep K G3 (.ref T) (.tup [d, e]) := by
  have e3 : Ex G (upd G T (.tup [x, y])) := Ex.new (R.wd.g.none hT)
  exact ⟨_, e3, R.new hT, .tup upd_same (.cons (hx.mono e3) (.cons (hy.mono e3) .nil))⟩
theorem yl_enumL {G : Hp} {a : Addr} {vs : List V} {ds : List D} (h1 : G a = some (.lst vs)) (h2 : Reps K G vs ds) : Yields K G (Ite K a) (enumD ds) where
  go := fun F G2 H2 σ ρ i e R hi => ⟨vs, vs[i]'(by rw [h2.length]; simpa [enumD_len] using hi), .inl (.inl (R.wd.g _ _ (e _ _ h1))), by rw [List.getElem?_eq_getElem]⟩
  stop := fun F G2 H2 σ ρ e R => ⟨vs, .inl (.inl (R.wd.g _ _ (e _ _ h1))), by rw [h2.length, enumD_len]; exact Nat.le_refl _⟩
  yld := fun F G2 H2 σ ρ i x H3 e R hi y => by
    obtain ⟨T, z, rfl, hT, rfl, y⟩ := y
    obtain ⟨d, hd, hx⟩ := h2.getV (y vs (.inl (.inl (R.wd.g _ _ (e _ _ h1)))))
    obtain ⟨G3, e3, R3, h3⟩ := pair_new R hT (.int ((i : Nat) : Int)) (hx.mono e)
    exact ⟨G3, _, e3, R3, enumD_at hd, h3⟩
theorem yl_enumT {G : Hp} {a : Addr} {vs : List V} {ds : List D} (h1 : G a = some (.tup vs)) (h2 : Reps K G vs ds) : Yields K G (IteT K a) (enumD ds) where
  go := fun F G2 H2 σ ρ i e R hi => ⟨vs, vs[i]'(by rw [h2.length]; simpa [enumD_len] using hi), R.wd.g.sqT (e _ _ h1), by rw [List.getElem?_eq_getElem]⟩
  stop := fun F G2 H2 σ ρ e R => ⟨vs, R.wd.g.sqT (e _ _ h1), by rw [h2.length, enumD_len]⟩
  yld := fun F G2 H2 σ ρ i x H3 e R hi y => by
    obtain ⟨T, z, rfl, hT, rfl, y⟩ := y
    obtain ⟨d, hd, hx⟩ := h2.getV (y vs (R.wd.g.sqT (e _ _ h1)))
    obtain ⟨G3, e3, R3, h3⟩ := pair_new R hT (.int ((i : Nat) : Int)) (hx.mono e)
    exact ⟨G3, _, e3, R3, enumD_at hd, h3⟩
theorem ei_enumL (h : EvA K ts ρ fun xs ρ1 => ∃ ds, xs = [.lst ds] ∧ Q (enumD ds) ρ1) : EvI K (fun σ H R => iEnum K ts σ H R ∨ iEnumT K ts σ H R) ρ Q := fun F G H σ R R' k =>
  .inl (h F G H σ R _ fun vs xs ρ1 G1 H1 e1 R1 hv q => by
    obtain ⟨ds, rfl, q⟩ := q
    obtain ⟨v, rfl, hv1⟩ := hv.one
    obtain ⟨a, ws, rfl, h1, h2⟩ := rep_lst hv1
    exact ⟨a, ws, rfl, .inl (.inl (R1.wd.g _ _ h1)), k _ _ ρ1 G1 H1 e1 R1 (yl_enumL h1 h2) q⟩)
theorem ei_enumT (h : EvA K ts ρ fun xs ρ1 => ∃ ds, xs = [.tup ds] ∧ Q (enumD ds) ρ1) : EvI K (fun σ H R => iEnum K ts σ H R ∨ iEnumT K ts σ H R) ρ Q := fun F G H σ R R' k =>
  .inr (h F G H σ R _ fun vs xs ρ1 G1 H1 e1 R1 hv q => by
    obtain ⟨ds, rfl, q⟩ := q
    obtain ⟨v, rfl, hv1⟩ := hv.one
    obtain ⟨a, ws, rfl, h1, h2⟩ := rep_tup hv1
    exact ⟨a, ws, rfl, R1.wd.g.sqT h1, k _ _ ρ1 G1 H1 e1 R1 (yl_enumT h1 h2) q⟩)
end
end DL

set_option Elab.async false
set_option linter.all false
set_option maxRecDepth 100000
namespace DL
open PySem PySem.Spec PyProof.Rows L2
variable [TabL]
section
variable {K : PySem.W.Frag} {te ta tb tc td ty : TE} {tt tu : TT} {ts : TA} {ρ : Env} {Q : D → Env → Prop}
/-! ### dicts: what is there -/
def kD : Key → D
  | .inl i => .int i
  | .inr x => .str x
theorem rep_kD {H : Hp} {v : V} {k : Key} (h : Rep K H v (kD k)) : v = kV k := by
  cases k with
  | inl i => exact rep_int h
  | inr x => exact rep_str h
def dget {κ : Type} [DecidableEq κ] (ps : List (κ × D)) (k : κ) : Option D := (ps.find? fun kv => decide (kv.1 = k)).map (·.2)
theorem dk_look {κ : Type} [DecidableEq κ] {H : Hp} (k : κ) : ∀ {kvs : List (κ × V)} {ps : List (κ × D)}, kvs.map (·.1) = ps.map (·.1) → Reps K H (kvs.map (·.2)) (ps.map (·.2)) →
    (valV kvs k = none ∧ dget ps k = none) ∨ ∃ v d, valV kvs k = some v ∧ dget ps k = some d ∧ Rep K H v d
  | [], [], _, _ => .inl ⟨rfl, rfl⟩
  | [], _ :: _, e, _ => by simp at e
  | _ :: _, [], e, _ => by simp at e
  | kv :: kvs, p :: ps, e, r => by
    simp only [List.map_cons, List.cons.injEq] at e
    cases r with
    | cons r1 r2 =>
      by_cases hk : kv.1 = k
      · refine .inr ⟨kv.2, p.2, valV_pos hk, ?_, r1⟩
        have hp : p.1 = k := e.1 ▸ hk
        simp [dget, List.find?_cons, hp]
      · have hp : ¬ p.1 = k := fun z => hk (e.1.trans z)
        have e1 : valV (kv :: kvs) k = valV kvs k := by simp [valV, List.find?_cons, hk]
        have e2 : dget (p :: ps) k = dget ps k := by simp [dget, List.find?_cons, hp]
        rw [e1, e2]
        exact dk_look k e.2 r2
/-- k in d -/
theorem ew_din (h : EvW K ty ρ fun y ρ1 => EvW K td ρ1 fun x ρ2 => ∃ k ps, y = kD k ∧ x = .dk ps ∧ Q (.bl (dget ps k).isSome) ρ2) : EvW K (tDIn ty td) ρ Q := fun F G H σ R Q' k =>
  h F G H σ R _ fun v y ρ1 G1 H1 e1 R1 hv q1 => q1 F G1 H1 σ R1 _ fun w x ρ2 G2 H2 e2 R2 hw q2 => by
    obtain ⟨kk, ps, rfl, rfl, q⟩ := q2
    obtain ⟨a, kvs, rfl, h1, h2, h3⟩ := rep_dk hw
    have hr : Rd H2 a (.dK kvs) := R2.wd.g.rdx.1 _ _ trivial h1
    refine ⟨a, valV kvs kk, rfl, .inl ⟨kvs, kk, hr, rep_kD hv, rfl⟩, ?_⟩
    have e : (valV kvs kk).isSome = (dget ps kk).isSome := by
      rcases dk_look kk h2 h3 with ⟨z1, z2⟩ | ⟨_, _, z1, z2, _⟩ <;> rw [z1, z2] <;> rfl
    rw [e]
    exact k _ _ ρ2 G2 H2 (e1.trans e2) R2 (.bl _) q
theorem ew_dnotin (h : EvW K ty ρ fun y ρ1 => EvW K td ρ1 fun x ρ2 => ∃ k ps, y = kD k ∧ x = .dk ps ∧ Q (.bl (!(dget ps k).isSome)) ρ2) : EvW K (tDNotIn ty td) ρ Q := fun F G H σ R Q' k =>
  h F G H σ R _ fun v y ρ1 G1 H1 e1 R1 hv q1 => q1 F G1 H1 σ R1 _ fun w x ρ2 G2 H2 e2 R2 hw q2 => by
    obtain ⟨kk, ps, rfl, rfl, q⟩ := q2
    obtain ⟨a, kvs, rfl, h1, h2, h3⟩ := rep_dk hw
    have hr : Rd H2 a (.dK kvs) := R2.wd.g.rdx.1 _ _ trivial h1
    refine ⟨a, valV kvs kk, rfl, .inl ⟨kvs, kk, hr, rep_kD hv, rfl⟩, ?_⟩
    have e : (valV kvs kk).isSome = (dget ps kk).isSome := by
      rcases dk_look kk h2 h3 with ⟨z1, z2⟩ | ⟨_, _, z1, z2, _⟩ <;> rw [z1, z2] <;> rfl
    rw [e]
    exact k _ _ ρ2 G2 H2 (e1.trans e2) R2 (.bl _) q
/-- d[k] -/
theorem ew_dgetk (h : EvW K td ρ fun x ρ1 => EvW K ty ρ1 fun y ρ2 => ∃ k ps d, y = kD k ∧ x = .dk ps ∧ dget ps k = some d ∧ Q d ρ2) : EvW K (tDGet td ty) ρ Q := fun F G H σ R Q' k =>
  h F G H σ R _ fun v x ρ1 G1 H1 e1 R1 hv q1 => q1 F G1 H1 σ R1 _ fun w y ρ2 G2 H2 e2 R2 hw q2 => by
    obtain ⟨kk, ps, d, rfl, rfl, hd, q⟩ := q2
    obtain ⟨a, kvs, rfl, h1, h2, h3⟩ := rep_dk (hv.mono e2)
    have hr : Rd H2 a (.dK kvs) := R2.wd.g.rdx.1 _ _ trivial h1
    rcases dk_look kk h2 h3 with ⟨_, z2⟩ | ⟨v1, d1, z1, z2, z3⟩
    · rw [hd] at z2; cases z2
    · rw [hd] at z2; cases z2
      exact ⟨a, v1, rfl, .inl ⟨kvs, kk, hr, rep_kD hw, z1.symm⟩, k _ _ ρ2 G2 H2 (e1.trans e2) R2 z3 q⟩
/-! ### fields -/
theorem fs_look {H : Hp} (f : Str) : ∀ {fs : List (Str × V)} {ps : List (Str × D)}, fs.map (·.1) = ps.map (·.1) → Reps K H (fs.map (·.2)) (ps.map (·.2)) → ∀ {d : D}, ps.lookup f = some d → ∃ v, fs.lookup f = some v ∧ Rep K H v d
  | [], [], _, _, d, e => by simp at e
  | [], _ :: _, e, _, _, _ => by simp at e
  | _ :: _, [], e, _, _, _ => by simp at e
  | (g, v) :: fs, (g', x) :: ps, e, r, d, h => by
    simp only [List.map_cons, List.cons.injEq] at e
    obtain ⟨e0, e1⟩ := e
    subst e0
    cases r with
    | cons r1 r2 =>
      by_cases z : f == g
      · rw [List.lookup_cons, z] at h ⊢
        exact ⟨v, rfl, by cases h; exact r1⟩
      · have z' : (f == g) = false := by simpa using z
        rw [List.lookup_cons, z'] at h ⊢
        exact fs_look f e1 r2 h
theorem ew_fld {f : Str} (h : EvW K ta ρ fun x ρ1 => ∃ C ps d, x = .ins C ps ∧ Cls K (He.ga K C) ∧ NoAttr K (He.ga K C) f ∧ ps.lookup f = some d ∧ Q d ρ1) : EvW K (tFld K ta f) ρ Q := fun F G H σ R Q' k =>
  h F G H σ R _ fun v x ρ1 G1 H1 e1 R1 hv q => by
    obtain ⟨C, ps, d, rfl, c, n, hl, q⟩ := q
    obtain ⟨a, dx, fs, rfl, h1, h2, h3⟩ := rep_ins hv
    obtain ⟨v, hv1, hv2⟩ := fs_look f h2 h3 hl
    exact ⟨a, _, dx, fs, v, rfl, R1.wd.g _ _ h1, c, n, hv1, k _ _ ρ1 G1 H1 e1 R1 hv2 q⟩
/-! ### items -/
theorem atI_rep {H : Hp} {vs : List V} {ds : List D} {i : Int} {d : D} (r : Reps K H vs ds) (h : atI ds i = some d) : ∃ v, atI vs i = some v ∧ Rep K H v d := by
  unfold atI at h ⊢
  rw [r.length]
  cases e : ixN ds.length i with
  | none => rw [e] at h; cases h
  | some j =>
    rw [e] at h
    obtain ⟨v, h1, h2⟩ := r.get (show ds[j]? = some d from h)
    exact ⟨v, h1, h2⟩
theorem op2_ixL {ds : List D} {i : Int} {d : D} (h : atI ds i = some d) (q : Q d ρ) : Op2 K (rIx K) (.lst ds) (.int i) ρ Q := fun F G H σ R v w hv hw Q' k => by
  obtain ⟨a, vs, rfl, h1, h2⟩ := rep_lst hv
  obtain ⟨x, h3, h4⟩ := atI_rep h2 h
  exact .inl ⟨a, vs, i, x, rfl, rep_int hw, .inl (.inl (R.wd.g _ _ h1)), h3, k _ _ ρ G H (Ex.refl G) R h4 q⟩
theorem op2_ixT {ds : List D} {i : Int} {d : D} (h : atI ds i = some d) (q : Q d ρ) : Op2 K (rIx K) (.tup ds) (.int i) ρ Q := fun F G H σ R v w hv hw Q' k => by
  obtain ⟨a, vs, rfl, h1, h2⟩ := rep_tup hv
  obtain ⟨x, h3, h4⟩ := atI_rep h2 h
  exact .inr (.inl ⟨a, vs, i, x, rfl, rep_int hw, R.wd.g.sqT h1, h3, k _ _ ρ G H (Ex.refl G) R h4 q⟩)
/-- of a list or a tuple -/
def D.seq : D → Option (List D)
  | .lst xs => some xs
  | .tup xs => some xs
  | _ => none
theorem op2_ix {x : D} {ds : List D} {i : Int} {d : D} (hx : x.seq = some ds) (h : atI ds i = some d) (q : Q d ρ) : Op2 K (rIx K) x (.int i) ρ Q := by
  cases x with
  | lst xs => cases hx; exact op2_ixL h q
  | tup xs => cases hx; exact op2_ixT h q
  | _ => cases hx
theorem opa_len {x : D} {ds : List D} (hx : x.seq = some ds) (q : Q (.int ds.length) ρ) : OpA K (rLenU K) [x] ρ Q := by
  cases x with
  | lst xs => cases hx; exact opa_len_lst q
  | tup xs => cases hx; exact opa_len_tup q
  | _ => cases hx
/-! ### slices -/
def cutDD (xs : List D) (lo hi : Option Int) : List D := (xs.drop (HT.sIx xs.length 0 lo)).take (HT.sIx xs.length xs.length hi - HT.sIx xs.length 0 lo)
theorem cut_reps {H : Hp} {vs : List V} {ds : List D} (r : Reps K H vs ds) (lo hi : Option Int) : Reps K H (cutV vs lo hi) (cutDD ds lo hi) := by
  unfold cutV cutDD
  rw [r.length]
  exact (r.drop _).take _
theorem eo_none {Q : Option Int → Env → Prop} (q : Q none ρ) : EvO K tNoPart ρ Q := fun F G H σ R Q' k => k none ρ G H (Ex.refl G) R q
theorem eo_some {Q : Option Int → Env → Prop} (h : EvW K te ρ fun d ρ1 => ∃ i, d = .int i ∧ Q (some i) ρ1) : EvO K (tPart te) ρ Q := fun F G H σ R Q' k =>
  h F G H σ R _ fun v d ρ1 G1 H1 e1 R1 hv q => by
    obtain ⟨i, rfl, q⟩ := q
    exact ⟨i, rep_int hv, k _ ρ1 G1 H1 e1 R1 q⟩
def rSlU (K : PySem.W.Frag) : V → Option Int → Option Int → Hp → VK → Prop := fun x lo hi H Q => rSlL K x lo hi H Q ∨ rSlA K x lo hi H Q
theorem sl_U {X : Cx} : SlR X (rSlU X.K) := SlR.or sl_list sl_tupA
/-- a slice of a list -/
theorem en_slL {tl th : TO} (h : EvW K te ρ fun x ρ1 => EvO K tl ρ1 fun lo ρ2 => EvO K th ρ2 fun hi ρ3 => ∃ ds, x = .lst ds ∧ Q (.lst (cutDD ds lo hi)) ρ3) : EvN K (tSl (rSlU K) te tl th) ρ Q := fun F G H σ R Q' k =>
  h F G H σ R _ fun v x ρ1 G1 H1 e1 R1 hv q1 => q1 F G1 H1 σ R1 _ fun lo ρ2 G2 H2 e2 R2 q2 => q2 F G2 H2 σ R2 _ fun hi ρ3 G3 H3 e3 R3 q3 => by
    obtain ⟨ds, rfl, q⟩ := q3
    obtain ⟨a, vs, rfl, h1, h2⟩ := rep_lst (hv.mono (e2.trans e3))
    refine .inl ⟨a, vs, rfl, .inl (.inl (R3.wd.g _ _ h1)), fun p hp => ?_⟩
    exact k p (.lst (cutDD ds lo hi)) ρ3 G3 _ ((e1.trans e2).trans e3) (R3.alone hp) (R3.wd.g.none hp) (R3.wd.f.none hp) (ownA_fresh R3 hp) ⟨_, upd_same, cut_reps h2 lo hi⟩ q
/-- a slice of a tuple -/
theorem ew_slT {tl th : TO} (h : EvW K te ρ fun x ρ1 => EvO K tl ρ1 fun lo ρ2 => EvO K th ρ2 fun hi ρ3 => ∃ ds, x = .tup ds ∧ Q (.tup (cutDD ds lo hi)) ρ3) : EvW K (tSl (rSlU K) te tl th) ρ Q := fun F G H σ R Q' k =>
  h F G H σ R _ fun v x ρ1 G1 H1 e1 R1 hv q1 => q1 F G1 H1 σ R1 _ fun lo ρ2 G2 H2 e2 R2 q2 => q2 F G2 H2 σ R2 _ fun hi ρ3 G3 H3 e3 R3 q3 => by
    obtain ⟨ds, rfl, q⟩ := q3
    obtain ⟨a, vs, rfl, h1, h2⟩ := rep_tup (hv.mono (e2.trans e3))
    refine .inr ⟨a, vs, rfl, R3.wd.g.sqT h1, fun hw => ?_, fun _ p hp => ?_⟩
    · have e : cutDD ds lo hi = ds := by
        unfold cutDD
        rw [h2.length] at hw
        rw [hw.1, hw.2]
        simp
      rw [e] at q
      exact k _ _ ρ3 G3 H3 ((e1.trans e2).trans e3) R3 (.tup h1 h2) q
    · have en : Ex G3 (upd G3 p (.tup (cutV vs lo hi))) := Ex.new (R3.wd.g.none hp)
      exact k _ _ ρ3 _ _ (((e1.trans e2).trans e3).trans en) (R3.new hp) (.tup upd_same ((cut_reps h2 lo hi).mono en)) q
/-! ### in a list or tuple of texts -/
def strsD (xs : List Str) : List D := xs.map D.str
theorem reps_strs {H : Hp} : ∀ {vs : List V} {xs : List Str}, Reps K H vs (strsD xs) → vs = xs.map V.str
  | _, [], h => h.nil_inv
  | _, x :: xs, h => by
    obtain ⟨v, ws, rfl, h1, h2⟩ := h.cons_inv
    rw [rep_str h1, reps_strs h2]; rfl
theorem inV_strs (x : Str) : ∀ xs : List Str, inV (.str x) (xs.map V.str) = decide (x ∈ xs)
  | [] => by simp [inV]
  | y :: ys => by
    have ih := inV_strs x ys
    unfold inV at ih ⊢
    rw [List.map_cons, List.any_cons, ih]
    have e : eqV (.str y) (.str x) = decide (y = x) := by
      unfold eqV
      by_cases z : y = x
      · subst z; simp
      · simp [z]
    rw [e]
    by_cases z : y = x
    · subst z; simp
    · have z' : ¬ x = y := fun q => z q.symm
      simp [z, z']
theorem flat_strs : ∀ xs : List Str, (xs.map V.str).all flatV = true
  | [] => rfl
  | x :: xs => by rw [List.map_cons, List.all_cons, flat_strs xs]; rfl
theorem op2_in {neg : Bool} {x : Str} {y : D} {ys : List Str} (hy : y.seq = some (strsD ys)) (q : Q (.bl (if neg then !decide (x ∈ ys) else decide (x ∈ ys))) ρ) : Op2 K (rIn K neg) (.str x) y ρ Q := fun F G H σ R v w hv hw Q' k => by
  rw [rep_str hv]
  have fin : Q' (.bl (if neg then !inV (.str x) (ys.map V.str) else inV (.str x) (ys.map V.str))) H := by
    rw [inV_strs]; exact k _ _ ρ G H (Ex.refl G) R (.bl _) q
  cases y with
  | lst xs =>
    cases hy
    obtain ⟨a, vs, rfl, h1, h2⟩ := rep_lst hw
    rw [reps_strs h2] at h1
    exact ⟨a, _, rfl, .inl (.inl (.inl (R.wd.g _ _ h1))), rfl, flat_strs ys, fin⟩
  | tup xs =>
    cases hy
    obtain ⟨a, vs, rfl, h1, h2⟩ := rep_tup hw
    rw [reps_strs h2] at h1
    exact ⟨a, _, rfl, .inr (R.wd.g.sqT h1), rfl, flat_strs ys, fin⟩
  | _ => cases hy
theorem op2_sign {c : Nat} {z : Str} (q : Q (.bl (decide (c ∈ z.cps.toList))) ρ) : Op2 K (fun x y H Q => ∃ (c : Nat) (z : Str), x = .str ⟨#[c]⟩ ∧ y = .str z ∧ Q (.bl (decide (c ∈ z.cps.toList))) H) (.str ⟨#[c]⟩) (.str z) ρ Q := fun F G H σ R v w hv hw Q' k => by
  rw [rep_str hv, rep_str hw]
  exact ⟨c, z, rfl, rfl, k _ _ ρ G H (Ex.refl G) R (.bl _) q⟩
/-! ### targets: a list unpacked -/
theorem pg_or {X : Cx} {tg : Expr} {g g' : TG} (h : PG X tg g) (h' : PG X tg g') : PG X tg (fun v σ H Q => g v σ H Q ∨ g' v σ H Q) :=
  ⟨fun pins s σ H v u Q I r q => q.elim (fun q => h.run pins s σ H v u Q I r q) fun q => h'.run pins s σ H v u Q I r q⟩
theorem gw_inl {g g' : TG} {d : D} {Q : Env → Prop} (h : GW K g d ρ Q) : GW K (fun v σ H Q => g v σ H Q ∨ g' v σ H Q) d ρ Q := fun F G H σ v R hv Q' k => .inl (h F G H σ v R hv Q' k)
theorem gw_inr {g g' : TG} {d : D} {Q : Env → Prop} (h : GW K g' d ρ Q) : GW K (fun v σ H Q => g v σ H Q ∨ g' v σ H Q) d ρ Q := fun F G H σ v R hv Q' k => .inr (h F G H σ v R hv Q' k)
theorem gw_unl {n : Nat} {gs : TGs} {ds : List D} {Q : Env → Prop} (hn : ds.length = n) (h : GWs K gs ds ρ Q) : GW K (gUnl K n gs) (.lst ds) ρ Q := fun F G H σ v R hv Q' k => by
  obtain ⟨a, vs, rfl, h1, h2⟩ := rep_lst hv
  exact ⟨a, vs, rfl, .inl (.inl (R.wd.g _ _ h1)), by rw [h2.length]; exact hn, h F G H σ vs R h2 Q' k⟩
/-- a list or a tuple unpacked -/
theorem gw_seq {n : Nat} {gs gs' : TGs} {x : D} {ds : List D} {Q : Env → Prop} (hx : x.seq = some ds) (hn : ds.length = n) (h : GWs K gs ds ρ Q) (h' : GWs K gs' ds ρ Q) : GW K (fun v σ H Q => gTup K n gs v σ H Q ∨ gUnl K n gs' v σ H Q) x ρ Q := by
  cases x with
  | lst xs => cases hx; exact gw_inr (gw_unl hn h')
  | tup xs => cases hx; exact gw_inl (gw_tup hn h)
  | _ => cases hx
/-- the walk of a list or a tuple -/
theorem ei_seq {Q : List D → Env → Prop} (x : D) {ds : List D} (hx : x.seq = some ds) (h : EvW K te ρ fun d ρ1 => d = x ∧ Q ds ρ1) : EvI K (fun σ H R => iList K te σ H R ∨ iTup K te σ H R) ρ Q := by
  cases x with
  | lst xs => cases hx; exact ei_inl (ei_list (ew_weak h fun d ρ1 z => ⟨ds, z.1, z.2⟩))
  | tup xs => cases hx; exact ei_inr (ei_tup (ew_weak h fun d ρ1 z => ⟨ds, z.1, z.2⟩))
  | _ => cases hx
theorem ei_enum {Q : List D → Env → Prop} (x : D) {ds : List D} (hx : x.seq = some ds) (h : EvA K ts ρ fun xs ρ1 => xs = [x] ∧ Q (enumD ds) ρ1) : EvI K (fun σ H R => iEnum K ts σ H R ∨ iEnumT K ts σ H R) ρ Q := by
  cases x with
  | lst xs => cases hx; exact ei_enumL fun F G H σ R Q' k => h F G H σ R Q' fun vs ys ρ' G' H' e R1 hv q => k vs ys ρ' G' H' e R1 hv ⟨ds, q.1, q.2⟩
  | tup xs => cases hx; exact ei_enumT fun F G H σ R Q' k => h F G H σ R Q' fun vs ys ρ' G' H' e R1 hv q => k vs ys ρ' G' H' e R1 hv ⟨ds, q.1, q.2⟩
  | _ => cases hx
/-- a slice of a list or of a tuple, to be read at once -/
theorem ew_slU {tl th : TO} (x : D) {ds : List D} (hx : x.seq = some ds) (h : EvW K te ρ fun d ρ1 => d = x ∧ EvO K tl ρ1 fun lo ρ2 => EvO K th ρ2 fun hi ρ3 => ∀ y : D, y.seq = some (cutDD ds lo hi) → Q y ρ3) : EvW K (tSl (rSlU K) te tl th) ρ Q := by
  cases x with
  | lst xs =>
    cases hx
    refine ew_new (en_slL (ew_weak h fun d ρ1 z => ?_))
    refine fun F G H σ R Q' k => z.2 F G H σ R Q' fun lo ρ2 G2 H2 e2 R2 q2 => k lo ρ2 G2 H2 e2 R2 fun F G H σ R Q' k => q2 F G H σ R Q' fun hi ρ3 G3 H3 e3 R3 q3 => k hi ρ3 G3 H3 e3 R3 ⟨ds, z.1, q3 _ rfl⟩
  | tup xs =>
    cases hx
    refine ew_slT (ew_weak h fun d ρ1 z => ?_)
    refine fun F G H σ R Q' k => z.2 F G H σ R Q' fun lo ρ2 G2 H2 e2 R2 q2 => k lo ρ2 G2 H2 e2 R2 fun F G H σ R Q' k => q2 F G H σ R Q' fun hi ρ3 G3 H3 e3 R3 q3 => k hi ρ3 G3 H3 e3 R3 ⟨ds, z.1, q3 _ rfl⟩
  | _ => cases hx
/-- a, b = x, y -/
theorem ws_par {i j : Nat} {E : EndD} (h : EvA K ts ρ fun ds ρ1 => ∃ d e, ds = [d, e] ∧ E.nx ((ρ1.set i (.sh d)).set j (.sh e))) : WS K (tPar i j ts) ρ E := fun F G H σ Dn R L =>
  h F G H σ R _ fun vs ds ρ1 G1 H1 e1 R1 hv q => by
    obtain ⟨d, e, rfl, q⟩ := q
    obtain ⟨v, w, rfl, h1, h2⟩ := hv.two
    exact ⟨v, w, rfl, L.nx _ _ G1 H1 e1 ((R1.setSh h1 i).setSh h2 j) q⟩
/-- a comprehension of tests over some data, all of it -/
theorem en_lcB {wi : TI} {g : TG} {vs : List Nat} {f : D → Bool} (h : EvI K wi ρ fun ds ρ1 => ownFree ρ1 vs = true ∧ ds.length ≤ 90000 ∧
      (∀ (i : Nat) d, ds[i]? = some d → GV K g vs d (wipeE ρ1 vs) fun ρ2 => EvW K te ρ2 fun y ρ4 => ρ4 = ρ2 ∧ y = .bl (f d)) ∧
      Q (.lst ((ds.map f).map D.bl)) ρ1) : EvN K (tLc wi g tYes te vs) ρ Q := by
  refine en_lc fun F G H σ R R' k => h F G H σ R R' fun J ds ρ' G' H' e R1 Y q => k J ds ρ' G' H' e R1 Y ?_
  obtain ⟨h1, h2, h3, h4⟩ := q
  refine ⟨h1, h2, fun i acc => acc = ((ds.map f).map D.bl).take i, rfl, fun i d acc hd hp => ?_, fun acc hp => ?_⟩
  · subst hp
    refine fun F G H σ v R hv Q' k => h3 i d hd F G H σ v R hv Q' fun σ' ρ2 l s R2 q2 => k σ' ρ2 l s R2 (et_yes ⟨rfl, ?_⟩)
    show EvW K te ρ2 _
    refine ew_weak q2 fun y ρ4 z => ⟨z.1, ?_⟩
    show _ ++ [y] = List.take (i + 1) _
    rw [z.2, List.take_add_one]
    simp [hd]
  · subst hp
    have e : ((ds.map f).map D.bl).take ds.length = (ds.map f).map D.bl := List.take_of_length_le (by simp)
    rw [e]; exact h4
end
end DL

set_option Elab.async false
set_option linter.all false
set_option maxRecDepth 100000
namespace DL
open PySem PySem.Spec PyProof.Rows L2
variable [TabL]
/-! ### rules with the written part told by its own letter (within comprehensions) -/
section
variable {X : Cx} {K : PySem.W.Frag}
theorem kin (h : X.K = K) : OpR X (compareOp .In) (rIn K false) := h ▸ op_in_seq
theorem knotin (h : X.K = K) : OpR X (compareOp .NotIn) (rIn K true) := h ▸ op_notIn_seq
theorem kix (h : X.K = K) : IxR X (rIx K) := h ▸ ix_seq
theorem ksl (h : X.K = K) : SlR X (rSlU K) := h ▸ sl_U
theorem klen (h : X.K = K) : CallR X (.builtin "len") (rLenU K) := h ▸ call_lenU
theorem kisi (h : X.K = K) : CallR X (.builtin "isinstance") (rIsi K) := h ▸ call_isi
theorem kisiT (h : X.K = K) : CallR X (.builtin "isinstance") (rIsiT K) := h ▸ call_isiT
theorem kall (hc : X.calm = true) (h : X.K = K) : CallR X (.builtin "all") (rAll K) := h ▸ cr_all hc
theorem kany (hc : X.calm = true) (h : X.K = K) : CallR X (.builtin "any") (rAny K) := h ▸ cr_any hc
theorem keqD (h : X.K = K) (hu : X.A.units + 64 < cLine) : OpR X (compareOp .Eq) (rEqD K) := h ▸ op_eqD hu
theorem kneD (h : X.K = K) (hu : X.A.units + 64 < cLine) : OpR X (compareOp .NotEq) (rNeD K) := h ▸ op_neD hu
theorem kcatA (h : X.K = K) : OpR X (binaryOp .Add) (rCatA K) := h ▸ op_catA
def rTupOf (K : PySem.W.Frag) : List V → Hp → VK → Prop := fun xs H Q => ∃ p ys, xs = [.ref p] ∧ ((SqL K H p ys ∧ ∀ l, H l = none → Q (.ref l) (upd H l (.tup ys))) ∨ (SqT K H p ys ∧ Q (.ref p) H))
def rLstOf (K : PySem.W.Frag) : List V → Hp → VK → Prop := fun xs H Q => ∃ p ys, xs = [.ref p] ∧ (SqL K H p ys ∨ SqT K H p ys) ∧ ∀ l, H l = none → Q (.ref l) (upd H l (.lst ys))
theorem ktuple (h : X.K = K) : CallR X (.type "tuple") (rTupOf K) := h ▸ call_tuple_of
theorem klist (h : X.K = K) : CallR X (.type "list") (rLstOf K) := h ▸ call_list_of
theorem kfld {e : Expr} {ta : TE} {f : Str} {pos : Pos} (h : X.K = K) (he : PE X e ta) (hb : attributeBase e f X.env (eval e X.env) = eval e X.env) : PE X (.Attribute e f pos) (tFld K ta f) := h ▸ pe_fld he hb
theorem kwl {tg e : Expr} {te : TE} (h : X.K = K) (he : PE X e te) : PI X tg e (iList K te) := h ▸ pi_list he
theorem kwt {tg e : Expr} {te : TE} (h : X.K = K) (he : PE X e te) : PI X tg e (iTup K te) := h ▸ pi_tup he
theorem kwU {tg e : Expr} {te : TE} (h : X.K = K) (he : PE X e te) : PI X tg e (fun σ H R => iList K te σ H R ∨ iTup K te σ H R) := pi_or (kwl h he) (kwt h he)
theorem kenum {e : Expr} {ta : TA} {p pos tpos : Pos} {elts : List Expr} {kk : Nat} (h : X.K = K) (hg : Gl X "enumerate") (hm : X.mg "enumerate" = none) (ha : PA X [e] ta) (hs : starEach [e] X.env = [(false, eval e X.env)] := by rfl) :
    PI X (.Tuple elts kk tpos) (.Call (.Name "enumerate" p) [e] [] pos) (fun σ H R => iEnum K ta σ H R ∨ iEnumT K ta σ H R) := h ▸ pi_enumU hg hm ha hs
theorem kzip {e e2 : Expr} {ta : TA} {p pos tpos : Pos} {elts : List Expr} {kk : Nat} (h : X.K = K) (hg : Gl X "zip") (hm : X.mg "zip" = none) (ha : PA X [e, e2] ta)
    (hs : starEach [e, e2] X.env = (false, eval e X.env) :: starEach [e2] X.env := by rfl) (hpl : (backTo pos (starEach [e2] X.env)).any (·.1) = false := by rfl) :
    PI X (.Tuple elts kk tpos) (.Call (.Name "zip" p) [e, e2] [] pos) (iZip K ta) := h ▸ pi_zip hg hm ha hs hpl
theorem kgt {es : List Expr} {k : Nat} {t : TGs} {n : Nat} {pos : Pos} (h : X.K = K) (hc : X.calm = true) (hg : PGs X es t) (hn : (assignEach es X.env).length = n := by rfl) (hst : (assignEach es X.env).findIdx? (·.1) = none := by rfl) : PG X (.Tuple es k pos) (gTup K n t) := h ▸ pg_tup hc hg hn hst
theorem kgu {es : List Expr} {k : Nat} {t : TGs} {n : Nat} {pos : Pos} (h : X.K = K) (hc : X.calm = true) (hg : PGs X es t) (hn : (assignEach es X.env).length = n := by rfl) (hst : (assignEach es X.env).findIdx? (·.1) = none := by rfl) : PG X (.Tuple es k pos) (gUnl K n t) := h ▸ pg_unl hc hg hn hst
theorem kbm {o e : Expr} {es : List Expr} {name : Str} {apos cpos : Pos} {T : String} {id : String} {r : V → List V → Hp → VK → Prop} {to : TE} {t : TA} (h : X.K = K) (hp : PE X (.Call (.Attribute o name apos) (e :: es) [] cpos) (tBM X.K T r to t)) : PE X (.Call (.Attribute o name apos) (e :: es) [] cpos) (tBM K T r to t) := h ▸ hp
theorem kbm0 {o : Expr} {name : Str} {apos cpos : Pos} {T : String} {r : V → List V → Hp → VK → Prop} {to : TE} (h : X.K = K) (hp : PE X (.Call (.Attribute o name apos) [] [] cpos) (tBM0 X.K T r to)) : PE X (.Call (.Attribute o name apos) [] [] cpos) (tBM0 K T r to) := h ▸ hp
end
/-- if t: .. without else, the way that goes on told by C -/
theorem ws_ifn {K : PySem.W.Frag} {tt : TT} {t : TS} {ρ : Env} {E : EndD} {C : Prop} (h : EvT K tt ρ fun b ρ' => if b = true then WS K t ρ' E else ρ' = ρ ∧ C) (k : C → E.nx ρ) : WS K (tIfS tt t tNext) ρ E :=
  ws_if (et_weak h fun b ρ' q => by
    cases b with
    | true => exact q
    | false =>
      obtain ⟨rfl, c⟩ := q
      exact ws_next (k c))
end DL

set_option Elab.async false
set_option linter.all false
set_option maxRecDepth 100000
namespace DL
open PySem PySem.Spec PyProof.Rows L2
variable [TabL]
section
variable {K : PySem.W.Frag} {te ta tb tc td ty tv : TE} {tt tu : TT} {ts : TA} {ρ : Env} {Q : D → Env → Prop} {E : EndD}
/-! ### the state of draws -/
theorem ew_drwix {i : Nat} {a : Addr} {j : Int} (hi : ρ[i]? = some (.drw a)) (hj : 0 ≤ j ∧ j < 3) (h : ∀ x, Q (.int x) ρ) : EvW K (tOp (rIx K) (tVar i) (tC (.int j))) ρ Q := fun F G H σ R Q' k => by
  obtain ⟨s, hs, rfl, _, _, x, y, z, hd⟩ := R.sl.get hi
  have key : ∃ n, atI ([.int x, .int y, .int z] : List V) j = some (.int n) := by
    have : j = 0 ∨ j = 1 ∨ j = 2 := by omega
    rcases this with rfl | rfl | rfl
    · exact ⟨x, rfl⟩
    · exact ⟨y, rfl⟩
    · exact ⟨z, rfl⟩
  obtain ⟨n, hn⟩ := key
  exact ⟨.ref a, hs, .inl ⟨a, _, j, .int n, rfl, rfl, .inl (.inl hd), hn, k _ _ ρ G H (Ex.refl G) R (.int n) (h n)⟩⟩
theorem ws_drwset {i : Nat} {a : Addr} {j : Int} (hi : ρ[i]? = some (.drw a)) (hj : 0 ≤ j ∧ j < 3) (h : EvW K te ρ fun d ρ1 => ∃ n, d = .int n ∧ ρ1[i]? = some (.drw a) ∧ E.nx ρ1) : WS K (tAsg te (gSub (tVar i) (tC (.int j)) rSetL)) ρ E := fun F G H σ Dn R L =>
  h F G H σ R _ fun v d ρ1 G1 H1 e1 R1 hv q => by
    obtain ⟨n, rfl, hi1, q⟩ := q
    rw [rep_int hv]
    obtain ⟨s, hs, rfl, hG, hF, x, y, z, hd⟩ := R1.sl.get hi1
    have key : ∃ m, ixN 3 j = some m ∧ ∃ x' y' z', ([.int x, .int y, .int z] : List V).set m (.int n) = [.int x', .int y', .int z'] := by
      have : j = 0 ∨ j = 1 ∨ j = 2 := by omega
      rcases this with rfl | rfl | rfl
      · exact ⟨0, rfl, n, y, z, rfl⟩
      · exact ⟨1, rfl, x, n, z, rfl⟩
      · exact ⟨2, rfl, x, y, n, rfl⟩
    obtain ⟨m, hm, x', y', z', es⟩ := key
    refine ⟨.ref a, hs, a, _, j, m, rfl, rfl, hd, hm, ?_⟩
    rw [es]
    have R2 := R1.mut (r' := .drw a) (o := .lst [.int x', .int y', .int z']) hi1 (List.mem_singleton.mpr rfl) (List.Sublist.refl _) hs ⟨rfl, hG, hF, x', y', z', upd_same⟩
    rw [set_same hi1] at R2
    exact L.nx _ _ G1 _ e1 R2 q
/-! ### own lists -/
theorem ew_append {i : Nat} {a : Addr} {d0 : List D} (hi : ρ[i]? = some (.own a (.lst d0))) (h : EvW K te ρ fun d ρ1 => ∃ ds, ρ1[i]? = some (.own a (.lst ds)) ∧ ds.length < 90000 ∧ Q .non (ρ1.set i (.own a (.lst (ds ++ [d]))))) :
    EvW K (tBM K "list" rAppend (tVar i) (tCons te tNil)) ρ Q := fun F G H σ R Q' k => by
  obtain ⟨s, hs, rfl, _, _, vs0, hd0, _⟩ := R.sl.get hi
  refine ⟨.ref a, hs, .inl ⟨rfl, vs0, .inl (.inl hd0)⟩, h F G H σ R _ fun v d ρ1 G1 H1 e1 R1 hv q => ?_⟩
  obtain ⟨ds, hi1, hl, q⟩ := q
  obtain ⟨_, hs1, e, hG, hF, vs, hd, hr⟩ := R1.sl.get hi1
  refine ⟨a, vs, v, rfl, rfl, hd, by rw [hr.length]; exact bigl (by omega), ?_⟩
  exact k .non .non _ G1 _ e1 (R1.mut (r' := .own a (.lst (ds ++ [d]))) hi1 (List.mem_singleton.mpr rfl) (List.Sublist.refl _) hs ⟨rfl, hG, hF, _, upd_same, hr.append (.cons hv .nil)⟩) .non q
theorem ew_popAt {i : Nat} {a : Addr} {d0 : List D} (hi : ρ[i]? = some (.own a (.lst d0))) (h : EvW K te ρ fun d ρ1 => ∃ ds j y, d = .int j ∧ ρ1[i]? = some (.own a (.lst ds)) ∧ 0 ≤ j ∧ j < 100000 ∧ ds[j.toNat]? = some y ∧ Q y (ρ1.set i (.own a (.lst (ds.eraseIdx j.toNat))))) :
    EvW K (tBM K "list" rPopAt (tVar i) (tCons te tNil)) ρ Q := fun F G H σ R Q' k => by
  obtain ⟨s, hs, rfl, _, _, vs0, hd0, _⟩ := R.sl.get hi
  refine ⟨.ref a, hs, .inl ⟨rfl, vs0, .inl (.inl hd0)⟩, h F G H σ R _ fun v d ρ1 G1 H1 e1 R1 hv q => ?_⟩
  obtain ⟨ds, j, y, rfl, hi1, h0, h1, hy, q⟩ := q
  rw [rep_int hv]
  obtain ⟨_, hs1, e, hG, hF, vs, hd, hr⟩ := R1.sl.get hi1
  obtain ⟨x, hx, hxr⟩ := hr.get hy
  have hlt := (List.getElem?_eq_some_iff.mp hx).1
  have hj : ixN vs.length j = some j.toNat := by
    unfold ixN
    rw [if_pos h0, if_pos (by omega)]
  refine ⟨a, vs, j, j.toNat, x, rfl, rfl, hd, by omega, by omega, (ixN_seq hj).1, hx, ?_⟩
  exact k x y _ G1 _ e1 (R1.mut (r' := .own a (.lst (ds.eraseIdx j.toNat))) hi1 (List.mem_singleton.mpr rfl) (List.Sublist.refl _) hs ⟨rfl, hG, hF, _, upd_same, hr.eraseIdx _⟩) hxr q
/-! ### own dicts -/
def dput {κ : Type} [DecidableEq κ] (ps : List (κ × D)) (k : κ) (d : D) : List (κ × D) :=
  if (ps.any fun kv => decide (kv.1 = k)) = true then ps.map (fun kv => if kv.1 = k then (kv.1, d) else kv) else ps ++ [(k, d)]
theorem any_keys {κ α β : Type} [DecidableEq κ] (k : κ) : ∀ {kvs : List (κ × α)} {ps : List (κ × β)}, kvs.map (·.1) = ps.map (·.1) → (kvs.any fun kv => decide (kv.1 = k)) = ps.any fun kv => decide (kv.1 = k)
  | [], [], _ => rfl
  | [], _ :: _, e => by simp at e
  | _ :: _, [], e => by simp at e
  | kv :: kvs, p :: ps, e => by
    simp only [List.map_cons, List.cons.injEq] at e
    rw [List.any_cons, List.any_cons, any_keys k e.2, e.1]
theorem put_rel {κ : Type} [DecidableEq κ] {H : Hp} {kvs : List (κ × V)} {ps : List (κ × D)} {k : κ} {v : V} {d : D} (e : kvs.map (·.1) = ps.map (·.1)) (r : Reps K H (kvs.map (·.2)) (ps.map (·.2))) (hv : Rep K H v d) :
    (putK kvs k v).map (·.1) = (dput ps k d).map (·.1) ∧ Reps K H ((putK kvs k v).map (·.2)) ((dput ps k d).map (·.2)) := by
  unfold putK dput
  rw [any_keys k e]
  split
  · have key : ∀ {kvs : List (κ × V)} {ps : List (κ × D)}, kvs.map (·.1) = ps.map (·.1) → Reps K H (kvs.map (·.2)) (ps.map (·.2)) →
        (kvs.map fun kv => if kv.1 = k then (kv.1, v) else kv).map (·.1) = (ps.map fun kv => if kv.1 = k then (kv.1, d) else kv).map (·.1) ∧ Reps K H ((kvs.map fun kv => if kv.1 = k then (kv.1, v) else kv).map (·.2)) ((ps.map fun kv => if kv.1 = k then (kv.1, d) else kv).map (·.2)) := by
      intro kvs
      induction kvs with
      | nil => intro ps e r; cases ps with
        | nil => exact ⟨rfl, .nil⟩
        | cons _ _ => simp at e
      | cons kv kvs ih =>
        intro ps e r
        cases ps with
        | nil => simp at e
        | cons p ps =>
          simp only [List.map_cons, List.cons.injEq] at e
          cases r with
          | cons r1 r2 =>
            obtain ⟨i1, i2⟩ := ih e.2 r2
            simp only [List.map_cons]
            by_cases hk : kv.1 = k
            · have hp : p.1 = k := e.1 ▸ hk
              rw [if_pos hk, if_pos hp]
              exact ⟨by rw [i1, e.1], .cons hv i2⟩
            · have hp : ¬ p.1 = k := fun z => hk (e.1.trans z)
              rw [if_neg hk, if_neg hp]
              exact ⟨by rw [i1, e.1], .cons r1 i2⟩
    exact key e r
  · rw [List.map_append, List.map_append, List.map_append, List.map_append, e]
    exact ⟨rfl, r.append (.cons hv .nil)⟩
/-- d[k] = v, d the def's own -/
theorem ws_dput {i : Nat} {a : Addr} (h : EvW K tv ρ fun d ρ1 => (∃ p0, ρ1[i]? = some (.own a p0)) ∧ EvW K ty ρ1 fun y ρ2 => ∃ k ps, y = kD k ∧ ρ2[i]? = some (.own a (.dk ps)) ∧ ps.length < 90000 ∧ E.nx (ρ2.set i (.own a (.dk (dput ps k d))))) :
    WS K (sDPut (tVar i) ty tv) ρ E := fun F G H σ Dn R L =>
  h F G H σ R _ fun v d ρ1 G1 H1 e1 R1 hv q => by
    obtain ⟨⟨p0, hi1⟩, q⟩ := q
    obtain ⟨_, hs1, rfl, _⟩ := R1.sl.get hi1
    refine ⟨.ref a, hs1, q F G1 H1 σ R1 _ fun w y ρ2 G2 H2 e2 R2 hw q2 => ?_⟩
    obtain ⟨kk, ps, rfl, hi2, hl, q2⟩ := q2
    obtain ⟨_, hs2, e, hG, hF, kvs, hd, hk, hr⟩ := R2.sl.get hi2
    obtain ⟨z1, z2⟩ := put_rel (k := kk) hk hr (hv.mono e2)
    have hlen : kvs.length = ps.length := by have := congrArg List.length hk; simpa using this
    refine ⟨a, upd H2 a (.dK (putK kvs kk v)), rfl, .inl ⟨kvs, kk, hd, rep_kD hw, by rw [hlen]; exact bigl (by omega), rfl⟩, ?_⟩
    exact L.nx _ _ G2 _ (e1.trans e2) (R2.mut (r' := .own a (.dk (dput ps kk d))) hi2 (List.mem_singleton.mpr rfl) (List.Sublist.refl _) hs1 ⟨rfl, hG, hF, _, upd_same, z1, z2⟩) q2
theorem ownR_nx {G : Hp} {o : Option HO} {d : D} (h : OwnR K G o d) {c : Addr} {q : Str} : o ≠ some (LamX.CodeO c q) := fun e => by
  unfold LamX.CodeO at e
  cases d with
  | lst _ => obtain ⟨vs, e1, _⟩ := h; rw [e1] at e; cases e
  | dk _ => obtain ⟨vs, e1, _⟩ := h; rw [e1] at e; cases e
  | dt _ => obtain ⟨vs, e1, _⟩ := h; rw [e1] at e; cases e
  | ins _ _ => obtain ⟨dx, vs, e1, _⟩ := h; rw [e1] at e; cases e
  | _ => exact h.elim
/-! ### own things looked at -/
def D.flat : D → Bool
  | .non => true
  | .bl _ => true
  | .int _ => true
  | .str _ => true
  | _ => false
theorem flat_rep {H H' : Hp} {v : V} {d : D} (hf : d.flat = true) (h : Rep K H v d) : Rep K H' v d := by
  cases h with
  | non => exact .non
  | bl b => exact .bl b
  | int b => exact .int b
  | str b => exact .str b
  | _ => cases hf
def shr : Sl → Sl
  | .own _ d => .sh d
  | r => r
def ownO (ρ : Env) : List Addr := ρ.flatMap fun r => match r with
  | .own a _ => [a]
  | _ => []
theorem ownO_sub {a : Addr} (m : a ∈ ownO ρ) : ∃ (i : Nat) (d : D), ρ[i]? = some (Sl.own a d) := by
  obtain ⟨r, hr, m⟩ := List.mem_flatMap.mp m
  obtain ⟨i, hi⟩ := List.mem_iff_getElem?.mp hr
  cases r with
  | own b d => exact ⟨i, d, by rw [hi, List.mem_singleton.mp m]⟩
  | _ => cases m
theorem ownO_mem {a : Addr} {i : Nat} {d : D} (h : ρ[i]? = some (.own a d)) : a ∈ ownO ρ := List.mem_flatMap.mpr ⟨_, List.mem_of_getElem? h, List.mem_singleton.mpr rfl⟩
theorem slots_map {F G H F' G' H' : Hp} {f : Sl → Sl} : ∀ {σ : L2.St} {ρ : Env}, Slots K F G H σ ρ → (∀ (i : Nat) s r, σ[i]? = some s → ρ[i]? = some r → SlotOk K F G H s r → SlotOk K F' G' H' s (f r)) → Slots K F' G' H' σ (ρ.map f)
  | [], [], _, _ => trivial
  | [], _ :: _, h, _ => h.elim
  | _ :: _, [], h, _ => h.elim
  | s :: σ, r :: ρ, h, k => ⟨k 0 s r rfl rfl h.1, slots_map h.2 fun i s' r' hs hr => k (i + 1) s' r' (by simpa using hs) (by simpa using hr)⟩
theorem ownA_shr : ∀ ρ : Env, (ownA (ρ.map shr)).Sublist (ownA ρ)
  | [] => List.Sublist.refl _
  | r :: ρ => by
    rw [List.map_cons, ownA_cons, ownA_cons]
    refine List.Sublist.append ?_ (ownA_shr ρ)
    cases r <;> first | exact List.Sublist.refl _ | exact List.nil_sublist _
theorem ew_peek (h : EvW K te (ρ.map shr) fun d ρ' => ρ' = ρ.map shr ∧ d.flat = true ∧ Q d ρ) : EvW K te ρ Q := fun F G H σ R Q' k => by
  have gx : Ex G (addF G H (ownO ρ)) := fun b u e => by
    by_cases m : b ∈ ownO ρ
    · obtain ⟨i, d, hi⟩ := ownO_sub m
      rw [(R.sl.own (adr_mem hi (List.mem_singleton.mpr rfl))).1] at e; cases e
    · rw [addF_out m]; exact e
  have R1 : RE K F (addF G H (ownO ρ)) H σ (ρ.map shr) := by
    refine ⟨⟨R.wd.f, fun b u e => ?_, fun b u e => ?_, R.wd.ft, R.wd.tb.step (fun c q z => gx _ _ z) fun t ht => ⟨rfl, ?_, (R.wd.tb t ht).2.1⟩⟩, slots_map R.sl (fun i s r hs hr q => ?_), List.Nodup.sublist (ownA_shr ρ) R.nd⟩
    · by_cases m : b ∈ ownO ρ
      · rw [addF_in m] at e; exact e
      · rw [addF_out m] at e; exact R.wd.g b u e
    · by_cases m : b ∈ ownO ρ
      · obtain ⟨i, d, hi⟩ := ownO_sub m
        rw [(R.sl.own (adr_mem hi (List.mem_singleton.mpr rfl))).2.1] at e; cases e
      · rw [addF_out m]; exact R.wd.fg b u e
    · rw [addF_out fun m => ?_]
      · exact (R.wd.tb t ht).1
      · obtain ⟨i, d, hi⟩ := ownO_sub m
        obtain ⟨_, _, u, hu, nt⟩ := R.sl.own (adr_mem hi (List.mem_singleton.mpr rfl))
        exact R.wd.tb.ne hu nt t ht rfl
    · cases r with
      | own a d =>
        obtain ⟨h0, h1, h2, h3⟩ := q
        exact ⟨.ref a, h0, ownR_rep h3 (addF_in (ownO_mem hr)) gx⟩
      | un => trivial
      | sh d => exact q.step gx fun a m => by cases m
      | drw a =>
        refine q.step gx fun b m => ⟨rfl, ?_⟩
        rw [addF_out fun z => ?_]
        · exact (q.own m).1
        · obtain ⟨j, d, hj⟩ := ownO_sub z
          by_cases e : i = j
          · subst e; rw [hr] at hj; cases hj
          · exact nodup_apart R.nd hr hj e m (List.mem_singleton.mpr rfl)
      | two p q' xs ys =>
        refine q.step gx fun b m => ⟨rfl, ?_⟩
        rw [addF_out fun z => ?_]
        · exact (q.own m).1
        · obtain ⟨j, d, hj⟩ := ownO_sub z
          by_cases e : i = j
          · subst e; rw [hr] at hj; cases hj
          · exact nodup_apart R.nd hr hj e m (List.mem_singleton.mpr rfl)
  refine h F _ H σ R1 Q' fun v d ρ' G2 H2 e2 R2 hv q => ?_
  obtain ⟨rfl, hf, q⟩ := q
  have own2 : ∀ b, b ∈ ownO ρ → H2 b = H b := fun b m => by
    obtain ⟨i, d, hi⟩ := ownO_sub m
    obtain ⟨_, _, u, hu, _⟩ := R.sl.own (adr_mem hi (List.mem_singleton.mpr rfl))
    rw [hu]
    exact R2.wd.g b u (e2 b u (by rw [addF_in m]; exact hu))
  let G3 : Hp := fun b => if b ∈ ownO ρ then none else G2 b
  have g3i : ∀ {b}, b ∈ ownO ρ → G3 b = none := fun m => if_pos m
  have g3o : ∀ {b}, b ∉ ownO ρ → G3 b = G2 b := fun m => if_neg m
  have e3 : Ex G G3 := fun b u e => by
    by_cases m : b ∈ ownO ρ
    · obtain ⟨i, d, hi⟩ := ownO_sub m
      rw [(R.sl.own (adr_mem hi (List.mem_singleton.mpr rfl))).1] at e; cases e
    · rw [g3o m]; exact e2 b u (gx b u e)
  refine k v d ρ G3 H2 e3 ⟨⟨R2.wd.f, fun b u e => ?_, fun b u e => ?_, R2.wd.ft, R2.wd.tb.step (fun c q' z => ?_) fun t ht => ⟨rfl, ?_, (R2.wd.tb t ht).2.1⟩⟩, R.sl.map (fun i s r hs hr z => ?_), R.nd⟩ (flat_rep hf hv) q
  · by_cases m : b ∈ ownO ρ
    · rw [g3i m] at e; cases e
    · rw [g3o m] at e; exact R2.wd.g b u e
  · by_cases m : b ∈ ownO ρ
    · exact g3i m
    · rw [g3o m]; exact R2.wd.fg b u e
  · rw [g3o fun m => ?_]
    · exact z
    · obtain ⟨i', d'', hi'⟩ := ownO_sub m
      obtain ⟨_, _, _, _, _, ho0⟩ := R.sl.get hi'
      have ho : OwnR K G (H c) d'' := ho0
      obtain ⟨u, hu, _⟩ := ho.some
      have e4 : G2 c = some u := e2 c u (by rw [addF_in m]; exact hu)
      rw [e4] at z
      exact ownR_nx ho (hu.trans z)
  · by_cases m : t.1 ∈ ownO ρ
    · exact g3i m
    · rw [g3o m]; exact (R2.wd.tb t ht).1
  · have hr2 : (ρ.map shr)[i]? = some (shr r) := by rw [List.getElem?_map, hr]; rfl
    obtain ⟨s', hs', z2⟩ := R2.sl.get hr2
    rw [hs] at hs'; cases hs'
    have out : ∀ {b}, (∀ d, r ≠ .own b d) → b ∈ r.adr → b ∉ ownO ρ := fun {b} hne m z => by
      obtain ⟨j, d, hj⟩ := ownO_sub z
      by_cases e : i = j
      · subst e; rw [hr] at hj; cases hj; exact hne d rfl
      · exact nodup_apart R.nd hr hj e m (List.mem_singleton.mpr rfl)
    cases r with
    | un => trivial
    | sh d => exact z.step e3 fun a m => by cases m
    | own a d =>
      refine z.step e3 fun b m => ?_
      rw [List.mem_singleton.mp m]
      exact ⟨own2 a (ownO_mem hr), g3i (ownO_mem hr)⟩
    | drw a =>
      obtain ⟨h0, h1, h2, h3⟩ := z2
      exact ⟨h0, by rw [g3o (out (fun d z => nomatch z) (List.mem_singleton.mpr rfl))]; exact h1, h2, h3⟩
    | two p q' xs ys =>
      obtain ⟨⟨t, h0, ht⟩, h1, h2, h3, h4, h5, h6⟩ := z2
      obtain ⟨⟨t', h0', ht'⟩, _⟩ := z
      have et : t' = t := by rw [h0] at h0'; cases h0'; rfl
      subst et
      exact ⟨⟨t', h0, e3 _ _ ht'⟩, by rw [g3o (out (fun d z => nomatch z) List.mem_cons_self)]; exact h1, h2, by rw [g3o (out (fun d z => nomatch z) (List.mem_cons_of_mem _ (List.mem_singleton.mpr rfl)))]; exact h3, h4, h5, h6⟩
theorem et_peek {Q : Bool → Env → Prop} (h : EvT K tt (ρ.map shr) fun d ρ' => ρ' = ρ.map shr ∧ Q d ρ) : EvT K tt ρ Q := by
  intro F G H σ R Q' k
  -- a test as an expression of a truth value
  exact ew_peek (K := K) (te := fun σ H Q => tt σ H fun b H1 => Q (.bl b) H1) (ρ := ρ) (Q := fun d ρ' => ∃ b, d = .bl b ∧ Q b ρ')
    (fun F G H σ R Q' k => h F G H σ R _ fun b ρ' G' H' e R' q => k (.bl b) (.bl b) ρ' G' H' e R' (.bl b) ⟨q.1, rfl, b, rfl, q.2⟩)
    F G H σ R (fun v H1 => match v with | .bl b => Q' b H1 | _ => True) fun v d ρ' G' H' e R' hv q => by
      obtain ⟨b', rfl, q⟩ := q
      rw [rep_bl hv]
      exact k _ ρ' G' H' e R' q
end
end DL

set_option Elab.async false
set_option linter.all false
set_option maxRecDepth 100000
namespace DL
open PySem PySem.Spec PyProof.Rows L2
variable [TabL]
section
variable {K : PySem.W.Frag} {te ta tb tc td ty tv : TE} {tt tu : TT} {ts : TA} {ρ : Env} {Q : D → Env → Prop} {E : EndD}
/-! ### new lists and tuples -/
theorem en_of {F G H : Hp} {σ : L2.St} {ρ : Env} (R : RE K F G H σ ρ) {p : Addr} (hp : H p = none) {vs : List V} {ds : List D} (hr : Reps K G vs ds) :
    RE K F G (upd H p (.lst vs)) σ ρ ∧ G p = none ∧ F p = none ∧ p ∉ ownA ρ ∧ OwnR K G (upd H p (.lst vs) p) (.lst ds) :=
  ⟨R.alone hp, R.wd.g.none hp, R.wd.f.none hp, ownA_fresh R hp, vs, upd_same, hr⟩
theorem tn_of {F G H : Hp} {σ : L2.St} {ρ : Env} (R : RE K F G H σ ρ) {p : Addr} (hp : H p = none) {vs : List V} {ds : List D} (hr : Reps K G vs ds) :
    Ex G (upd G p (.tup vs)) ∧ RE K F (upd G p (.tup vs)) (upd H p (.tup vs)) σ ρ ∧ Rep K (upd G p (.tup vs)) (.ref p) (.tup ds) :=
  ⟨Ex.new (R.wd.g.none hp), R.new hp, .tup upd_same (hr.mono (Ex.new (R.wd.g.none hp)))⟩
/-- xs + ys, lists -/
theorem en_cat (h : EvW K ta ρ fun x ρ1 => EvW K tb ρ1 fun y ρ2 => ∃ xs ys, x = .lst xs ∧ y = .lst ys ∧ xs.length + ys.length ≤ 90000 ∧ Q (.lst (xs ++ ys)) ρ2) : EvN K (tOp rCat ta tb) ρ Q := fun F G H σ R Q' k =>
  h F G H σ R _ fun v x ρ1 G1 H1 e1 R1 hv q1 => q1 F G1 H1 σ R1 _ fun w y ρ2 G2 H2 e2 R2 hw q2 => by
    obtain ⟨xs, ys, rfl, rfl, hl, q⟩ := q2
    obtain ⟨a, vs, rfl, h1, h2⟩ := rep_lst (hv.mono e2)
    obtain ⟨b, ws, rfl, h3, h4⟩ := rep_lst hw
    refine ⟨a, b, vs, ws, rfl, rfl, R2.wd.g _ _ h1, R2.wd.g _ _ h3, by rw [h2.length, h4.length]; exact big (by omega), fun p hp => ?_⟩
    obtain ⟨z1, z2, z3, z4, z5⟩ := en_of R2 hp (h2.append h4)
    exact k p _ ρ2 G2 _ (e1.trans e2) z1 z2 z3 z4 z5 q
/-- t + u, tuples -/
theorem op2_catT {xs ys : List D} (hl : xs.length + ys.length ≤ 90000) (q : Q (.tup (xs ++ ys)) ρ) : Op2 K (rCatA K) (.tup xs) (.tup ys) ρ Q := fun F G H σ R v w hv hw Q' k => by
  obtain ⟨a, vs, rfl, h1, h2⟩ := rep_tup hv
  obtain ⟨b, ws, rfl, h3, h4⟩ := rep_tup hw
  have l1 := h2.length
  have l2 := h4.length
  refine ⟨a, b, vs, ws, rfl, rfl, R.wd.g.sqT h1, R.wd.g.sqT h3, by rw [l1, l2]; exact big (by omega), fun e => ?_, fun _ e => ?_, fun _ _ p hp => ?_⟩
  · have : xs = [] := List.length_eq_zero_iff.mp (by rw [← l1, e]; rfl)
    subst this
    exact k _ _ ρ G H (Ex.refl G) R (.tup h3 h4) q
  · have : ys = [] := List.length_eq_zero_iff.mp (by rw [← l2, e]; rfl)
    subst this
    rw [List.append_nil] at q
    exact k _ _ ρ G H (Ex.refl G) R (.tup h1 h2) q
  · obtain ⟨z1, z2, z3⟩ := tn_of R hp (h2.append h4)
    exact k _ _ ρ _ _ z1 z2 z3 q
/-- tuple(x), list(x) -/
theorem opa_tuple {x : D} {ds : List D} (hx : x.seq = some ds) (q : Q (.tup ds) ρ) : OpA K (rTupOf K) [x] ρ Q := fun F G H σ R vs hv Q' k => by
  obtain ⟨v, rfl, h⟩ := hv.one
  cases x with
  | lst xs =>
    cases hx
    obtain ⟨a, ws, rfl, h1, h2⟩ := rep_lst h
    refine ⟨a, ws, rfl, .inl ⟨.inl (.inl (R.wd.g _ _ h1)), fun p hp => ?_⟩⟩
    obtain ⟨z1, z2, z3⟩ := tn_of R hp h2
    exact k _ _ ρ _ _ z1 z2 z3 q
  | tup xs =>
    cases hx
    obtain ⟨a, ws, rfl, h1, h2⟩ := rep_tup h
    exact ⟨a, ws, rfl, .inr ⟨R.wd.g.sqT h1, k _ _ ρ G H (Ex.refl G) R h q⟩⟩
  | _ => cases hx
theorem opn_list {x : D} {ds : List D} (hx : x.seq = some ds) (q : Q (.lst ds) ρ) : OpN K (rLstOf K) [x] ρ Q := fun F G H σ R vs hv Q' k => by
  obtain ⟨v, rfl, h⟩ := hv.one
  cases x with
  | lst xs =>
    cases hx
    obtain ⟨a, ws, rfl, h1, h2⟩ := rep_lst h
    refine ⟨a, ws, rfl, .inl (.inl (.inl (R.wd.g _ _ h1))), fun p hp => ?_⟩
    obtain ⟨z1, z2, z3, z4, z5⟩ := en_of R hp h2
    exact k p _ ρ G _ (Ex.refl G) z1 z2 z3 z4 z5 q
  | tup xs =>
    cases hx
    obtain ⟨a, ws, rfl, h1, h2⟩ := rep_tup h
    refine ⟨a, ws, rfl, .inr (R.wd.g.sqT h1), fun p hp => ?_⟩
    obtain ⟨z1, z2, z3, z4, z5⟩ := en_of R hp h2
    exact k p _ ρ G _ (Ex.refl G) z1 z2 z3 z4 z5 q
  | _ => cases hx
/-- sorted(d), d with texts for keys -/
def rSortD : List V → Hp → VK → Prop := fun xs H Q => ∃ (a : Addr) (kvs : List (Key × V)) (ks : List Str), xs = [.ref a] ∧ Rd H a (.dK kvs) ∧ kvs.map (·.1) = ks.map Sum.inr ∧ ks.length < 64 ∧
    ∀ ys p, ys.Perm ks → sortedS ys = true → H p = none → Q (.ref p) (upd H p (.lst (ys.map V.str)))
theorem csortD {X : Cx} (hc : X.calm = true) : CallR X (.builtin "sorted") rSortD := call_sortedD hc
theorem reps_of_strs {H : Hp} : ∀ xs : List Str, Reps K H (xs.map V.str) (strsD xs)
  | [] => .nil
  | x :: xs => .cons (.str x) (reps_of_strs xs)
theorem opn_sortD {ps : List (Key × D)} {ks : List Str} (hk : ps.map (·.1) = ks.map Sum.inr) (hl : ks.length < 64) (q : ∀ ys : List Str, ys.Perm ks → sortedS ys = true → Q (.lst (strsD ys)) ρ) : OpN K rSortD [.dk ps] ρ Q := fun F G H σ R vs hv Q' k => by
  obtain ⟨v, rfl, h⟩ := hv.one
  obtain ⟨a, kvs, rfl, h1, h2, h3⟩ := rep_dk h
  refine ⟨a, kvs, ks, rfl, R.wd.g.rdx.1 _ _ trivial h1, h2.trans hk, hl, fun ys p hp hs hn => ?_⟩
  obtain ⟨z1, z2, z3, z4, z5⟩ := en_of R hn (reps_of_strs (K := K) (H := G) ys)
  exact k p _ ρ G _ (Ex.refl G) z1 z2 z3 z4 z5 (q ys hp hs)
/-- int(n) -/
theorem opa_int {i : Int} (q : Q (.int i) ρ) : OpA K (fun xs H Q => (∃ i, xs = [.int i] ∧ Q (.int i) H) ∨ ∃ k, xs = [.bl k] ∧ Q (.int (if k then 1 else 0)) H) [.int i] ρ Q := fun F G H σ R vs hv Q' k => by
  obtain ⟨v, rfl, h⟩ := hv.one
  rw [rep_int h]
  exact .inl ⟨i, rfl, k _ _ ρ G H (Ex.refl G) R (.int i) q⟩
theorem opa_min {i j : Int} (q : Q (.int (if j < i then j else i)) ρ) : OpA K (fun xs H Q => ∃ i j, xs = [.int i, .int j] ∧ Q (.int (if j < i then j else i)) H) [.int i, .int j] ρ Q := fun F G H σ R vs hv Q' k => by
  obtain ⟨v, w, rfl, h1, h2⟩ := hv.two
  rw [rep_int h1, rep_int h2]
  exact ⟨i, j, rfl, k _ _ ρ G H (Ex.refl G) R (.int _) q⟩
/-! ### the script -/
theorem rep_scr {H : Hp} {v : V} {ns : List Int} (h : Rep K H v (.scr ns)) : ∃ a, v = .ref a ∧ SqL K H a (ns.map V.int) := by
  cases h with | scr a => exact ⟨_, rfl, a⟩
theorem Ex.sqL {H H' : Hp} {a : Addr} {xs : List V} (e : Ex H H') (h : SqL K H a xs) : SqL K H' a xs := e.rdx.sqL h
theorem opa_len_scr {ns : List Int} (q : Q (.int ns.length) ρ) : OpA K (rLenU K) [.scr ns] ρ Q := fun F G H σ R vs hv Q' k => by
  obtain ⟨v, rfl, h⟩ := hv.one
  obtain ⟨a, rfl, h1⟩ := rep_scr h
  refine .inl (.inl ⟨a, _, rfl, .inl (R.wd.g.sqL h1), ?_⟩)
  rw [List.length_map]
  exact k _ _ ρ G H (Ex.refl G) R (.int _) q
theorem op2_ix_scr {ns : List Int} {j : Nat} {n : Int} (h : ns[j]? = some n) (q : Q (.int n) ρ) : Op2 K (rIx K) (.scr ns) (.int (j : Nat)) ρ Q := fun F G H σ R v w hv hw Q' k => by
  obtain ⟨a, rfl, h1⟩ := rep_scr hv
  exact .inl ⟨a, _, j, .int n, rfl, rep_int hw, R.wd.g.sqL h1, atI_nat (by rw [List.getElem?_map, h]; rfl), k _ _ ρ G H (Ex.refl G) R (.int n) q⟩
/-! ### two new objects at once -/
theorem RE.unfrm' {F G H : Hp} {σ : L2.St} {ρ : Env} {p : Addr} {o : HO} (R : RE K (upd F p o) G H σ ρ) (hF : F p = none) : p ∉ ownA ρ := fun m => by
  have z := (R.sl.own m).2.1
  rw [upd_same] at z; cases z
/-- a, b = new, new -/
theorem ws_parNN {i j : Nat} (hij : i ≠ j) (h : EvN K ta ρ fun d ρ1 => EvN K tb ρ1 fun e ρ2 => ∀ p q, E.nx ((ρ2.set i (.own p d)).set j (.own q e))) : WS K (tPar i j (tCons ta (tCons tb tNil))) ρ E := fun F G H σ Dn R L =>
  h F G H σ R _ fun p d ρ1 G1 H1 e1 R1 hG hF hO o q => by
    obtain ⟨u, hu, hm⟩ := o.some
    refine q (upd F p u) G1 H1 σ (R1.frm hu hG hO (nt_mut hm)) _ fun p2 e ρ2 G2 H2 e2 R2 hG2 hF2 hO2 o2 q2 => ?_
    obtain ⟨R3, h3, g3⟩ := R2.unfrm hF
    have np : p ∉ ownA ρ2 := R2.unfrm' hF
    have nq : p2 ≠ p := fun z => by rw [z, upd_same] at hF2; cases hF2
    have hF2' : F p2 = none := by rw [upd_ne nq] at hF2; exact hF2
    have o1 : OwnR K G2 (H2 p) d := by rw [h3, ← hu]; exact o.mono e2
    have R4 := R3.setOwn g3 hF np o1 i
    refine ⟨.ref p, .ref p2, rfl, L.nx _ _ G2 H2 (e1.trans e2) (R4.setOwn hG2 hF2' (fun m => ?_) o2 j) (q2 p p2)⟩
    rcases (ownA_set_own (r := .own p d) i R3.nd (show [p].Nodup from List.nodup_cons.mpr ⟨List.not_mem_nil, List.nodup_nil⟩) (fun a m => by rw [List.mem_singleton.mp m]; exact np)).2 p2 m with z | z
    · exact nq (List.mem_singleton.mp z)
    · exact hO2 z
/-- an own thing read: from now on it is shared -/
theorem ew_give {i : Nat} {a : Addr} {d : D} (hi : ρ[i]? = some (.own a d)) (q : Q d (ρ.set i (.sh d))) : EvW K (tVar i) ρ Q := fun F G H σ R Q' k => by
  obtain ⟨o, hσ, _, hG, R', rp⟩ := R.give hi
  exact ⟨.ref a, hσ, k _ d _ _ H (Ex.new hG) R' rp q⟩
/-! ### == and != of data at any depth -/
mutual
def toPy : D → Option PyData
  | .non => some .none
  | .bl b => some (.bool b)
  | .int i => some (.int i)
  | .str x => some (.str x)
  | .lst xs => (toPys xs).map PyData.list
  | .tup xs => (toPys xs).map PyData.tuple
  | .dk _ => none
  | .dt _ => none
  | .ins _ _ => none
  | .scr _ => none
  | .kt _ => none
  | .raw _ => none
  | .tag _ _ => none
  | .exc _ _ => none
def toPys : List D → Option (List PyData)
  | [] => some []
  | x :: xs => match toPy x, toPys xs with
    | some p, some ps => some (p :: ps)
    | _, _ => none
end
mutual
theorem rep_dp {H : Hp} : ∀ {v : V} {d : D} {p : PyData}, Rep K H v d → toPy d = some p → Dp K H v p
  | _, _, _, .non, e => by unfold toPy at e; cases e; exact .non
  | _, _, _, .bl b, e => by unfold toPy at e; cases e; exact .bl b
  | _, _, _, .int b, e => by unfold toPy at e; cases e; exact .int b
  | _, _, _, .str b, e => by unfold toPy at e; cases e; exact .str b
  | _, _, _, .lst h r, e => by
    unfold toPy at e
    obtain ⟨ps, h1, rfl⟩ := Option.map_eq_some_iff.mp e
    exact .lst (.inl (.inl h)) (reps_dp r h1)
  | _, _, _, .tup h r, e => by
    unfold toPy at e
    obtain ⟨ps, h1, rfl⟩ := Option.map_eq_some_iff.mp e
    exact .tup (.inl (.inl h)) (reps_dp r h1)
  | _, _, _, .dk _ _ _, e => by unfold toPy at e; cases e
  | _, _, _, .dt _ _ _, e => by unfold toPy at e; cases e
  | _, _, _, .ins _ _ _, e => by unfold toPy at e; cases e
  | _, _, _, .scr _, e => by unfold toPy at e; cases e
  | _, _, _, .kt _ _, e => by unfold toPy at e; cases e
  | _, _, _, .raw, e => by unfold toPy at e; cases e
  | _, _, _, .tag _, e => by unfold toPy at e; cases e
  | _, _, _, .exc _ _ _ _, e => by unfold toPy at e; cases e
  | _, _, _, .ex0 _, e => by unfold toPy at e; cases e
theorem reps_dp {H : Hp} : ∀ {vs : List V} {ds : List D} {ps : List PyData}, Reps K H vs ds → toPys ds = some ps → DpAll K H vs ps
  | _, _, _, .nil, e => by unfold toPys at e; cases e; exact .nil
  | _, _, _, .cons (d := d) (ds := ds) h r, e => by
    unfold toPys at e
    cases e1 : toPy d with
    | none => rw [e1] at e; simp at e
    | some p =>
      cases e2 : toPys ds with
      | none => rw [e1, e2] at e; simp at e
      | some ps =>
        rw [e1, e2] at e
        cases e
        exact .cons (rep_dp h e1) (reps_dp r e2)
end
theorem op2_eqD {x y : D} {p q : PyData} (hx : toPy x = some p) (hy : toPy y = some q) (sx : SeqAt.shaped p = true) (sy : SeqAt.shaped q = true) (h : Q (.bl (PyData.eqv p q)) ρ) : Op2 K (rEqD K) x y ρ Q := fun F G H σ R v w hv hw Q' k =>
  ⟨p, q, rep_dp (hv.mono R.wd.g) hx, rep_dp (hw.mono R.wd.g) hy, sx, sy, k _ _ ρ G H (Ex.refl G) R (.bl _) h⟩
theorem op2_neD {x y : D} {p q : PyData} (hx : toPy x = some p) (hy : toPy y = some q) (sx : SeqAt.shaped p = true) (sy : SeqAt.shaped q = true) (h : Q (.bl (!PyData.eqv p q)) ρ) : Op2 K (rNeD K) x y ρ Q := fun F G H σ R v w hv hw Q' k =>
  ⟨p, q, rep_dp (hv.mono R.wd.g) hx, rep_dp (hw.mono R.wd.g) hy, sx, sy, k _ _ ρ G H (Ex.refl G) R (.bl _) h⟩
theorem toPys_strs : ∀ xs : List Str, toPys (strsD xs) = some (xs.map PyData.str)
  | [] => by unfold strsD; rw [List.map_nil, toPys]; rfl
  | x :: xs => by
    have ih := toPys_strs xs
    unfold strsD at ih ⊢
    rw [List.map_cons, toPys, toPy, ih]
    rfl
theorem shaped_strs {xs : List Str} (h : ∀ x ∈ xs, PyData.strOk x = true) : SeqAt.shaped (.list (xs.map PyData.str)) = true := by
  have key : ∀ xs : List Str, (∀ x ∈ xs, PyData.strOk x = true) → PyData.canLayAll0 (xs.map PyData.str) = true ∧ PyData.depthAll (xs.map PyData.str) = 0 := by
    intro xs
    induction xs with
    | nil => intro _; exact ⟨by simp [PyData.canLayAll0], by simp [PyData.depthAll]⟩
    | cons x xs ih =>
      intro h
      obtain ⟨i1, i2⟩ := ih fun y hy => h y (List.mem_cons_of_mem _ hy)
      refine ⟨?_, ?_⟩
      · rw [List.map_cons, PyData.canLayAll0, PyData.canLay0, h x List.mem_cons_self, i1]; rfl
      · rw [List.map_cons, PyData.depthAll, PyData.depth, i2]; rfl
  obtain ⟨k1, k2⟩ := key xs h
  unfold SeqAt.shaped
  rw [PyData.canLay0, k1, PyData.depth, k2]
  rfl
/-- xs != [] of texts -/
theorem op2_ne_nil {xs : List Str} (hs : ∀ x ∈ xs, PyData.strOk x = true) (h : Q (.bl (!xs.isEmpty)) ρ) : Op2 K (rNeD K) (.lst (strsD xs)) (.lst []) ρ Q := by
  refine op2_neD (p := .list (xs.map PyData.str)) (q := .list []) (by rw [toPy, toPys_strs]; rfl) (by rw [toPy, toPys]; rfl) (shaped_strs hs) (by decide +kernel) ?_
  have e : PyData.eqv (.list (xs.map PyData.str)) (.list []) = xs.isEmpty := by
    cases xs with
    | nil => simp [PyData.eqv, PyData.eqvAll]
    | cons x xs => simp [PyData.eqv, PyData.eqvAll]
  rw [e]; exact h
end
end DL

set_option Elab.async false
set_option linter.all false
set_option maxRecDepth 100000
namespace DL
open PySem PySem.Spec PyProof.Rows L2
variable [TabL]
section
variable {K : PySem.W.Frag} {te ta tb tc td ty tv : TE} {tt tu : TT} {ts : TA} {ρ : Env} {Q : D → Env → Prop} {E : EndD}
theorem notin_un {r : Sl} {i : Nat} {a : Addr} (nd : (ownA ρ).Nodup) (hi : ρ[i]? = some r) (m : a ∈ r.adr) : a ∉ ownA (ρ.set i .un) := fun z => by
  obtain ⟨r', hr, m'⟩ := List.mem_flatMap.mp z
  obtain ⟨j, hj⟩ := List.mem_iff_getElem?.mp hr
  by_cases e : j = i
  · subst e
    obtain ⟨hl, _⟩ := List.getElem?_eq_some_iff.mp hi
    rw [List.getElem?_set_self hl] at hj
    cases hj
    cases m'
  · rw [List.getElem?_set_ne (Ne.symm e)] at hj
    exact nodup_apart nd hi hj (Ne.symm e) m m'
theorem RE.forget {F G H : Hp} {σ : L2.St} {r : Sl} {i : Nat} {s : Option V} (R : RE K F G H σ ρ) (hi : ρ[i]? = some r) (hσ : σ[i]? = some s) : RE K F G H σ (ρ.set i .un) :=
  ⟨R.wd, R.sl.but hσ (r' := .un) trivial fun j s r n h1 h2 q => q, List.Nodup.sublist (ownA_setr (r' := .un) (List.nil_sublist _) hi) R.nd⟩
theorem RE.setAny {F G H : Hp} {σ : L2.St} {ρ : Env} {s : Option V} {r : Sl} (R : RE K F G H σ ρ) (hs : SlotOk K F G H s r) (h1 : r.adr.Nodup) (h2 : ∀ a ∈ r.adr, a ∉ ownA ρ) (i : Nat) : RE K F G H (σ.set i s) (ρ.set i r) :=
  ⟨R.wd, R.sl.set hs i, (ownA_set_own i R.nd h1 h2).1⟩
theorem two_nd {i : Nat} {k m : Addr} {xs ys : List Str} (nd : (ownA ρ).Nodup) (hi : ρ[i]? = some (.two k m xs ys)) : k ≠ m := by
  have key : ∀ {ρ : Env} {i : Nat} {r : Sl}, (ownA ρ).Nodup → ρ[i]? = some r → r.adr.Nodup := by
    intro ρ
    induction ρ with
    | nil => intro i r _ h; simp at h
    | cons r0 ρ ih =>
      intro i r nd h
      rw [ownA_cons] at nd
      obtain ⟨n1, n2, _⟩ := List.nodup_append.mp nd
      cases i with
      | zero => simp at h; subst h; exact n1
      | succ i => exact ih n2 (by simpa using h)
  have := key nd hi
  intro e
  have z : ([k, m] : List Addr).Nodup := this
  rw [e] at z
  simp at z
/-- known, more = names -/
theorem ws_unpack2 {i p q : Nat} {k m : Addr} {xs ys : List Str} (hi : ρ[i]? = some (.two k m xs ys)) (h : E.nx (((ρ.set i .un).set p (.own k (.lst (strsD xs)))).set q (.own m (.lst (strsD ys))))) :
    WS K (tAsg (tVar i) (gTup K 2 (gCons (gName p) (gCons (gName q) gNil)))) ρ E := fun F G H σ Dn R L => by
  obtain ⟨s, hs, ⟨t, rfl, ht⟩, hGk, hFk, hGm, hFm, hk, hm⟩ := R.sl.get hi
  have km := two_nd R.nd hi
  have R1 := R.forget hi hs
  have nk := notin_un R.nd hi (a := k) List.mem_cons_self
  have nm := notin_un R.nd hi (a := m) (List.mem_cons_of_mem _ (List.mem_singleton.mpr rfl))
  have R2 := R1.setOwn hGk hFk nk (d := .lst (strsD xs)) ⟨_, hk, reps_of_strs xs⟩ p
  have R3 := R2.setOwn hGm hFm (fun z => ?_) (d := .lst (strsD ys)) ⟨_, hm, reps_of_strs ys⟩ q
  · exact ⟨.ref t, hs, t, _, rfl, .inl (.inl (R.wd.g _ _ ht)), rfl, _, _, rfl, _, _, rfl, rfl, L.nx _ _ G H (Ex.refl G) R3 h⟩
  · rcases (ownA_set_own (r := .own k (.lst (strsD xs))) p R1.nd (show [k].Nodup from List.nodup_cons.mpr ⟨List.not_mem_nil, List.nodup_nil⟩) (fun a m => by rw [List.mem_singleton.mp m]; exact nk)).2 m z with z | z
    · exact km (List.mem_singleton.mp z).symm
    · exact nm z
/-- a def of the draws, data, a pair of lists, data -/
def spE (K : PySem.W.Frag) (J : List Str → List Str → Prop) (T : List D → (D → Prop) → Prop) : Sp := fun vs H Q _ => ∃ a t k m vr vb xs ys F G dr db Qd, vs = [.ref a, vr, .ref t, vb] ∧ Wd F G H ∧ (G a = none ∧ F a = none ∧ DrwR (H a)) ∧ Rep K G vr dr ∧ Rep K G vb db ∧
  (G t = some (.tup [.ref k, .ref m]) ∧ G k = none ∧ F k = none ∧ G m = none ∧ F m = none ∧ H k = some (.lst (xs.map V.str)) ∧ H m = some (.lst (ys.map V.str))) ∧ (k ≠ m ∧ a ≠ k ∧ a ≠ m) ∧ J xs ys ∧ T [dr, db] Qd ∧
  ∀ v d G' H' xs' ys', Ex G G' → Wd F G' H' → G' a = none → DrwR (H' a) → (G' k = none ∧ G' m = none ∧ H' k = some (.lst (xs'.map V.str)) ∧ H' m = some (.lst (ys'.map V.str))) → J xs' ys' → Rep K G' v d → Qd d → Q v H'
theorem ew_callE {J : List Str → List Str → Prop} {T : List D → (D → Prop) → Prop} {E : XK} {i0 i1 i2 i3 : Nat} {a k m : Addr} {xs ys : List Str} {dr db : D} (h0 : ρ[i0]? = some (.drw a)) (h1 : ρ[i1]? = some (.sh dr)) (h2 : ρ[i2]? = some (.two k m xs ys)) (h3 : ρ[i3]? = some (.sh db))
    (hj : J xs ys) (ht : T [dr, db] fun d => ∀ xs' ys', J xs' ys' → Q d (ρ.set i2 (.two k m xs' ys'))) : EvW K (tCall (spE K J T) [] E (tCons (tVar i0) (tCons (tVar i1) (tCons (tVar i2) (tCons (tVar i3) tNil))))) ρ Q := fun F G H σ R Q' kk => by
  obtain ⟨s0, e0, rfl, ga, fa, da⟩ := R.sl.get h0
  obtain ⟨s1, e1, v1, rfl, r1⟩ := R.sl.get h1
  obtain ⟨s2, e2, ⟨t, rfl, gt⟩, gk, fk, gm, fm, hk, hm⟩ := R.sl.get h2
  obtain ⟨s3, e3, v3, rfl, r3⟩ := R.sl.get h3
  refine ⟨.ref a, e0, v1, e1, .ref t, e2, v3, e3, ?_⟩
  have i02 : i0 ≠ i2 := fun z => by subst z; rw [h0] at h2; cases h2
  have ak : a ≠ k := fun z => nodup_apart R.nd h0 h2 i02 (List.mem_singleton.mpr rfl) (z ▸ List.mem_cons_self)
  have am : a ≠ m := fun z => nodup_apart R.nd h0 h2 i02 (List.mem_singleton.mpr rfl) (z ▸ List.mem_cons_of_mem _ (List.mem_singleton.mpr rfl))
  let as := (ownA ρ).filter fun b => decide (b ≠ a ∧ b ≠ k ∧ b ≠ m)
  have sub : ∀ b ∈ as, b ∈ ownA ρ := fun b z => (List.mem_filter.mp z).1
  have out : ∀ {b}, b ∈ as → b ≠ a ∧ b ≠ k ∧ b ≠ m := fun z => of_decide_eq_true (List.mem_filter.mp z).2
  have na : a ∉ as := fun z => (out z).1 rfl
  have nk : k ∉ as := fun z => (out z).2.1 rfl
  have nm : m ∉ as := fun z => (out z).2.2 rfl
  refine ⟨a, t, k, m, v1, v3, xs, ys, addF F H as, G, dr, db, _, rfl, R.wdF sub, ⟨ga, by rw [addF_out na]; exact fa, da⟩, r1, r3, ⟨gt, gk, by rw [addF_out nk]; exact fk, gm, by rw [addF_out nm]; exact fm, hk, hm⟩, ⟨two_nd R.nd h2, ak, am⟩, hj, ht, ?_⟩
  rintro v d G' H' xs' ys' e W gn dn ⟨g1, g2, g3, g4⟩ hj' hd qd
  have hsl := R.sl.but e2 (show SlotOk K F G' H' (some (.ref t)) (.two k m xs' ys') from ⟨⟨t, rfl, e _ _ gt⟩, g1, fk, g2, fm, g3, g4⟩) (fun j s r2 n z1 z2 z => ?_)
  · refine kk v d _ G' H' e ⟨R.wdB sub W, hsl, ?_⟩ hd (qd xs' ys' hj')
    exact List.Nodup.sublist (ownA_setr (r := .two k m xs ys) (r' := .two k m xs' ys') (show [k, m].Sublist [k, m] from List.Sublist.refl _) h2) R.nd
  · by_cases ej : j = i0
    · subst ej
      rw [h0] at z2; cases z2
      rw [e0] at z1; cases z1
      exact ⟨rfl, gn, fa, dn⟩
    · refine z.step e fun b mb => R.keepF W (List.mem_filter.mpr ⟨adr_mem z2 mb, ?_⟩) (adr_mem z2 mb)
      have c1 : b ≠ a := fun y => nodup_apart R.nd h0 z2 (Ne.symm ej) (List.mem_singleton.mpr rfl) (y ▸ mb)
      have c2 : b ≠ k := fun y => nodup_apart R.nd h2 z2 (Ne.symm n) (a := k) List.mem_cons_self (y ▸ mb)
      have c3 : b ≠ m := fun y => nodup_apart R.nd h2 z2 (Ne.symm n) (a := m) (List.mem_cons_of_mem _ (List.mem_singleton.mpr rfl)) (y ▸ mb)
      exact decide_eq_true ⟨c1, c2, c3⟩
theorem fn_E {P : Program} {w : World} {mg : Str → Option Value} {base : Heap} {x qual : Str} {params : Arguments} {body : List Stmt} {scope : Scope} {fd : FuncData} {N ps : List Str} {k n : Nat} {i j : Nat} {J : List Str → List Str → Prop} {T : List D → (D → Prop) → Prop}
    (F : FunD K x qual params body scope [] [] (He.ga K x) fd) (at_ : mg x = some (.ref (He.ga K x)))
    (bi : ∀ (kV doc pm : Value) (an : Option Addr) (cdv ct : Value) (us : List Value), us.length = ps.length → bindArgs (PySem.W.fnOf x qual params body scope .none kV doc pm an cdv ct) ⟨us, []⟩ = pure (ps.zip us))
    (S : FnScope N ps scope) (hN : N.length = n + 4) (hl : ps.length = 4)
    (hb : ∀ (cdv : Value) (A : Around) (outer : List PySem.Env) (s : Shared) (H : Hp) (E : XK), Room k (A.deeper (envOfC qual scope s.heap.objs.size (He.ga K x) cdv)) →
      ∃ t, PSs (cxOf CX0 P w K mg base N qual scope (He.ga K x) cdv A outer s H E).nox body t ∧ ∀ a p m xs ys dr db Qd, J xs ys → T [dr, db] Qd → WS K t (.drw a :: .sh dr :: .two p m xs ys :: .sh db :: List.replicate n .un) { nx := fun ρ => False, rt := fun d ρ => ρ[0]? = some (.drw a) ∧ (∃ xs' ys', J xs' ys' ∧ ρ[i]? = some (.own p (.lst (strsD xs'))) ∧ ρ[j]? = some (.own m (.lst (strsD ys')))) ∧ Qd d }) :
    FnB P w K mg base (k + 1) x ps (spE K J T) := by
  refine ⟨⟨fd, F.ok S (fun vs H Q E h => ?_) (fun cdv A outer s H vs Q E hr h => ?_), F.bindsN bi⟩, F.kp, at_⟩
  · obtain ⟨a, t, p, m, vr, vb, xs, ys, _, _, dr, db, Qd, rfl, _⟩ := h
    rw [hl]; rfl
  · obtain ⟨a, t0, p, m, vr, vb, xs, ys, F', G, dr, db, Qd, rfl, W, ⟨hG, hF, hD⟩, rr, rb, ⟨gt, gk, fk, gm, fm, hk, hm⟩, ⟨km, ak, am⟩, hj, tt, post⟩ := h
    obtain ⟨t, hd, hw⟩ := hb cdv A outer s H E hr
    refine ⟨t, PSs.nox hd, ?_⟩
    have es : L2.start N [.ref a, vr, .ref t0, vb] = some (.ref a) :: some vr :: some (.ref t0) :: some vb :: List.replicate n none := by
      unfold L2.start
      simp only [List.map_cons, List.map_nil, List.cons_append, List.nil_append, List.length_cons, List.length_nil]
      rw [hN]
      rfl
    have hrep : ∀ n : Nat, Slots K F' G H (List.replicate n none) (List.replicate n Sl.un) := by
      intro n
      induction n with
      | zero => exact trivial
      | succ n ih => exact ⟨trivial, ih⟩
    have R : RE K F' G H (L2.start N [.ref a, vr, .ref t0, vb]) (.drw a :: .sh dr :: .two p m xs ys :: .sh db :: List.replicate n .un) := by
      rw [es]
      refine ⟨W, ⟨⟨rfl, hG, hF, hD⟩, ⟨vr, rfl, rr⟩, ⟨⟨t0, rfl, gt⟩, gk, fk, gm, fm, hk, hm⟩, ⟨vb, rfl, rb⟩, hrep n⟩, ?_⟩
      show (a :: p :: m :: ownA (List.replicate n Sl.un)).Nodup
      rw [ownA_un]
      simp [ak, am, km]
    refine hw a p m xs ys dr db Qd hj tt F' G H _ _ R ⟨fun σ' ρ' G' H' e R' q => q.elim, fun v d σ' ρ' G' H' e R' hv q => ?_, fun σ' ρ' G' H' e R' q => q.elim, fun σ' ρ' G' H' e R' q => q.elim, fun p d σ' ρ' G' H' e R' _ _ _ _ q => q.elim, fun C f v d dx G' H' _ _ _ _ _ _ q => q.elim⟩
    obtain ⟨h0, ⟨xs', ys', hj', hi, hj2⟩, qd⟩ := q
    obtain ⟨_, _, _, z1, _, z2⟩ := R'.sl.get h0
    obtain ⟨_, _, _, y1, _, vs1, y2, y3⟩ := R'.sl.get hi
    obtain ⟨_, _, _, x1, _, vs2, x2, x3⟩ := R'.sl.get hj2
    rw [reps_strs y3] at y2
    rw [reps_strs x3] at x2
    exact post v d G' H' xs' ys' e R'.wd z1 z2 ⟨y1, x1, y2, x2⟩ hj' hv qd
/-- names, time, found = ([], [..]), n, {} -/
theorem ws_par3E {i j l : Nat} {n : Int} (hij : i ≠ j) (hil : i ≠ l) (hjl : j ≠ l) (h : EvN K tb ρ fun d ρ1 => ∃ ys, d = .lst (strsD ys) ∧ ∀ k m p, E.nx (((ρ1.set i (.two k m [] ys)).set j (.sh (.int n))).set l (.own p (.dk [])))) :
    WS K (tPar3 i j l (tCons (tTup (tCons (tLst tNil) (tCons tb tNil))) (tCons (tC (.int n)) (tCons tDNewK tNil)))) ρ E := fun F G H σ Dn R L => by
  refine ⟨by show 0 ≤ sizeLine; decide, fun k hk => ?_⟩
  have hFk : F k = none := R.wd.f.none hk
  have R1 : RE K (upd F k (.lst [])) G (upd H k (.lst [])) σ ρ := (R.alone hk).frm upd_same (R.wd.g.none hk) (ownA_fresh R hk) ⟨fun _ z => (nomatch z), fun _ z => (nomatch z)⟩
  refine h _ G _ σ R1 _ fun m d ρ1 G2 H2 e2 R2 hGm hFm hOm o q => ?_
  obtain ⟨ys, rfl, q⟩ := q
  obtain ⟨R3, h3, g3⟩ := R2.unfrm hFk
  have nk : k ∉ ownA ρ1 := R2.unfrm' hFk
  have mk : m ≠ k := fun z => by rw [z, upd_same] at hFm; cases hFm
  have hFm' : F m = none := by rw [upd_ne mk] at hFm; exact hFm
  obtain ⟨vs, hm, hr⟩ := o
  have hvs := reps_strs hr
  subst hvs
  refine ⟨by show 2 ≤ sizeLine; decide, fun t ht => ?_⟩
  have R4 := R3.new (o := .tup [.ref k, .ref m]) ht
  have kt : k ≠ t := ne_of_none h3 ht
  have mt : m ≠ t := ne_of_none hm ht
  refine fun p hp => ?_
  have R5 := R4.alone (o := .dK []) hp
  have kp : k ≠ p := ne_of_none (show upd H2 t (.tup [.ref k, .ref m]) k = _ by rw [upd_ne kt]; exact h3) hp
  have mp : m ≠ p := ne_of_none (show upd H2 t (.tup [.ref k, .ref m]) m = _ by rw [upd_ne mt]; exact hm) hp
  have R6 := R5.setAny (s := some (.ref t)) (r := .two k m [] ys) ⟨⟨t, rfl, upd_same⟩, by rw [upd_ne kt]; exact g3, hFk, by rw [upd_ne mt]; exact hGm, hFm', by rw [upd_ne kp, upd_ne kt]; exact h3, by rw [upd_ne mp, upd_ne mt]; exact hm⟩
    (show [k, m].Nodup by simp [Ne.symm mk]) (fun a z => by
      rcases List.mem_cons.mp z with z | z
      · rw [z]; exact nk
      · rw [List.mem_singleton.mp z]; exact hOm) i
  have R7 := R6.setSh (v := .int n) (d := .int n) (.int n) j
  have hGp := R4.wd.g.none hp
  have hFp := R4.wd.f.none hp
  have R8 := R7.setOwn hGp hFp (fun z => ?_) (d := .dk []) ⟨[], upd_same, rfl, .nil⟩ l
  · exact ⟨_, _, _, rfl, L.nx _ _ _ _ (e2.trans (Ex.new (R3.wd.g.none ht))) R8 (q k m p)⟩
  · have z1 := (ownA_set0 (r := .sh (.int n)) rfl j).subset z
    rcases (ownA_set_own (r := .two k m [] ys) i R5.nd (show [k, m].Nodup by simp [Ne.symm mk]) (fun a z => by
      rcases List.mem_cons.mp z with z | z
      · rw [z]; exact nk
      · rw [List.mem_singleton.mp z]; exact hOm)).2 p z1 with z2 | z2
    · rcases List.mem_cons.mp z2 with z | z
      · exact kp z.symm
      · exact mp (List.mem_singleton.mp z).symm
    · exact ownA_fresh R4 hp z2
/-- own + new -/
theorem en_catO {i : Nat} {a : Addr} {xs : List D} (hi : ρ[i]? = some (.own a (.lst xs))) (h : EvW K tb ρ fun y ρ2 => ∃ ys, y = .lst ys ∧ ρ2[i]? = some (.own a (.lst xs)) ∧ xs.length + ys.length ≤ 90000 ∧ Q (.lst (xs ++ ys)) ρ2) : EvN K (tOp rCat (tVar i) tb) ρ Q := fun F G H σ R Q' k => by
  obtain ⟨s, hs, rfl, _⟩ := R.sl.get hi
  refine ⟨.ref a, hs, h F G H σ R _ fun w y ρ2 G2 H2 e2 R2 hw q2 => ?_⟩
  obtain ⟨ys, rfl, hi2, hl, q⟩ := q2
  obtain ⟨_, _, _, _, _, vs, h1, h2⟩ := R2.sl.get hi2
  obtain ⟨b, ws, rfl, h3, h4⟩ := rep_lst hw
  refine ⟨a, b, vs, ws, rfl, rfl, h1, R2.wd.g _ _ h3, by rw [h2.length, h4.length]; exact big (by omega), fun p hp => ?_⟩
  obtain ⟨z1, z2, z3, z4, z5⟩ := en_of R2 hp (h2.append h4)
  exact k p _ ρ2 G2 _ e2 z1 z2 z3 z4 z5 q
/-- a new list of three ints is the draws -/
theorem ws_asgD {i : Nat} (h : EvN K te ρ fun d ρ1 => ∃ x y z : Int, d = .lst [.int x, .int y, .int z] ∧ ∀ p, E.nx (ρ1.set i (.drw p))) : WS K (tAsg te (gName i)) ρ E := fun F G H σ Dn R L =>
  h F G H σ R _ fun p d ρ1 G1 H1 e1 R1 hG hF hO o q => by
    obtain ⟨x, y, z, rfl, q⟩ := q
    obtain ⟨vs, h1, h2⟩ := o
    obtain ⟨v1, ws, rfl, a1, b1⟩ := h2.cons_inv
    obtain ⟨v2, v3, rfl, a2, a3⟩ := b1.two
    rw [rep_int a1, rep_int a2, rep_int a3] at h1
    exact L.nx _ _ G1 H1 e1 (R1.setAny (s := some (.ref p)) (r := .drw p) ⟨rfl, hG, hF, x, y, z, h1⟩ (List.nodup_cons.mpr ⟨List.not_mem_nil, List.nodup_nil⟩) (fun a m => by rw [List.mem_singleton.mp m]; exact hO) i) (q p)
end
end DL

set_option Elab.async false
set_option linter.all false
set_option maxRecDepth 100000
namespace DL
open PySem PySem.Spec PyProof.Rows L2
variable [TabL]
theorem kv_vals {κ : Type} {kvs : List (κ × V)} {vs : List (κ × Value)} (r : KV kvs vs) : Vals (kvs.map (·.2)) (vs.map (·.2)) := by
  unfold KV at r
  induction r with
  | nil => exact .nil
  | cons h t ih => exact .cons h.2 ih
section
variable {X : Cx} {o : Expr} {p pos apos mpos : Pos} {td : TE}
/-- list(o.values()) -/
def tListVals (td : TE) : TE := fun σ H Q => td σ H fun x H1 => ∃ (a : Addr) (kvs : List (Key × V)), x = V.ref a ∧ Rd H1 a (.dK kvs) ∧ ∀ p, H1 p = none → Q (.ref p) (upd H1 p (.lst (kvs.map (·.2))))
theorem pe_listVals (hc : X.calm = true) (hg : Gl X "list") (hm : X.mg "list" = none) (hd : PE X o td) (hbase : attributeBase o "values" X.env (eval o X.env) = eval o X.env := by rfl) (hline : (apos.endLine == mpos.line) = true := by rfl)
    (hse : starEach [Expr.Call (.Attribute o "values" apos) [] [] mpos] X.env = [(false, eval (Expr.Call (.Attribute o "values" apos) [] [] mpos) X.env)] := by rfl) :
    PE X (.Call (.Name "list" p) [.Call (.Attribute o "values" apos) [] [] mpos] [] pos) (tListVals td) := by
  refine ⟨fun pins s σ H Q I h => ?_⟩
  refine wpAny_Call_Name_kw (ld_blt I hg hm (u := .type "list") (by first | rfl | decide +kernel) ?_ (by first | decide +kernel | decide) (by first | decide +kernel | decide))
  rw [hse]
  refine PySem.callWith_type1 (wpAny_Call_method0_late hbase hline (thn (hd.run pins s σ H _ I h) fun v s1 ⟨x, H1, I1, r1, a, kvs, ex, ha, q⟩ => ?_))
  subst ex
  obtain rfl : v = Value.ref a := r1
  obtain ⟨hsz, hsys, vs, rel, dof⟩ := dk_rd I1.hok ha
  obtain ⟨ep, dat⟩ := dof.dictAt
  have dat' := dat
  obtain ⟨ob, es, ho, ex, hdat, hko, hpr, hnd⟩ := dat'
  refine ⟨"dict", "dict.values", F.plainAttrs_dict, F.slot_dict_values, F.type_dict_values, ⟨ob, ho, ex.1⟩, fun b e => ?_, Calls.callWith_builtin rfl (PySem.evalArgs_none ?_)⟩
  · cases e
    exact ⟨ob, ho, ex.2.1⟩
  refine call_meetsIn F.slot_dict_values ⟨ob, ho, ex.1⟩ F.entry_dict_values (F.args_dict_values_1 _) (meets_dict_values (mixKind X.prog X.w) a hsys) ⟨⟨vs, dof⟩, ?_⟩
  have k1 : ∀ b u, s1.heap.get? b = some u → (s1.heap.push { cls := .type "dict_values", data := .fields #[.ref a] }).get? b = some u := fun b u e => Heap.get?_push_of_some _ e
  have dat1 : (s1.heap.push { cls := .type "dict_values", data := .fields #[.ref a] }).DictAt (mixKind X.prog X.w) a vs ep := dat.keep k1
  have I2 : Inv X pins σ H1 { s1 with heap := s1.heap.push { cls := .type "dict_values", data := .fields #[.ref a] } } := I1.kept (t' := s1.toks) k1
  have hl : kvs.length = vs.length := KV.length rel
  refine PySem.W.kdl_call (PySem.W.kdl_values (knd := mixKind X.prog X.w) (r := s1.heap.objs.size) (d := a) (kvs := vs) (ep := ep)) (I1.ok.hd hc) ⟨⟨_, Heap.get?_push_size _ rfl, rfl, rfl⟩, dat1⟩ (by rw [← hl]; exact hsz) fun h' tk acc c' hk hD hacc => ?_
  have ea : acc.toList = vs.map (·.2) := by
    apply List.ext_getElem?
    intro j
    rw [List.getElem?_map]
    cases hj : acc.toList[j]? with
    | none =>
      have h1 := List.getElem?_eq_none_iff.mp hj
      rw [Array.length_toList, hacc.1] at h1
      rw [List.getElem?_eq_none h1]; rfl
    | some v =>
      obtain ⟨k, hk⟩ := hacc.2 j v (by rw [← Array.getElem?_toList]; exact hj)
      rw [hk]; rfl
  have rv : Vals (kvs.map (·.2)) acc.toList := by rw [ea]; exact kv_vals rel
  refine ⟨.ref _, upd H1 _ (.lst (kvs.map (·.2))), I2.laid (t' := tk) hk (Nat.le_refl _) (show ObjOk X.prog X.w _ _ _ (.lst (kvs.map (·.2))) from ⟨by rw [List.length_map]; exact hsz, acc.toList, c', rv, by rw [Array.toArray_toList]; exact hD⟩), rfl, q _ (I2.hok.fresh (Nat.le_refl _))⟩
end
section
variable {K : PySem.W.Frag} {td : TE} {ρ : Env} {Q : D → Env → Prop}
theorem en_listVals (h : EvW K td ρ fun x ρ1 => ∃ ps, x = .dk ps ∧ Q (.lst (ps.map (·.2))) ρ1) : EvN K (tListVals td) ρ Q := fun F G H σ R Q' k =>
  h F G H σ R _ fun v x ρ1 G1 H1 e1 R1 hv q => by
    obtain ⟨ps, rfl, q⟩ := q
    obtain ⟨a, kvs, rfl, h1, h2, h3⟩ := rep_dk hv
    refine ⟨a, kvs, rfl, R1.wd.g.rdx.1 _ _ trivial h1, fun p hp => ?_⟩
    obtain ⟨z1, z2, z3, z4, z5⟩ := en_of R1 hp h3
    exact k p _ ρ1 G1 _ e1 z1 z2 z3 z4 z5 q
end
end DL

set_option Elab.async false
set_option linter.all false
set_option maxRecDepth 100000
namespace DL
open PySem PySem.Spec PyProof.Rows L2
variable [TabL]
section
variable {K : PySem.W.Frag} {te ta tb tc td ty tv tk : TE} {tt tu : TT} {ts : TA} {ρ : Env} {Q : D → Env → Prop} {E : EndD}
theorem OwnR.rdx {G G' : Hp} {o : Option HO} {d : D} (h : OwnR K G o d) (x : RdX G G') : OwnR K G' o d := by
  cases d with
  | lst _ => obtain ⟨vs, e, r⟩ := h; exact ⟨vs, e, r.rdx x⟩
  | dk _ => obtain ⟨vs, e, k, r⟩ := h; exact ⟨vs, e, k, r.rdx x⟩
  | dt _ => obtain ⟨vs, e, k, r⟩ := h; exact ⟨vs, e, k, r.rdx x⟩
  | ins _ _ => obtain ⟨dx, vs, e, k, r⟩ := h; exact ⟨dx, vs, e, k, r.rdx x⟩
  | _ => exact h.elim
theorem SlotOk.rdx {F G G' H H' : Hp} {s : Option V} {r : Sl} (h : SlotOk K F G H s r) (e : RdX G G') (ht : ∀ t xs, G t = some (.tup xs) → G' t = some (.tup xs)) (hx : ∀ c c' q, G c = some (LamX.CodeO c' q) → G' c = some (LamX.CodeO c' q)) (k : ∀ a ∈ r.adr, H' a = H a ∧ G' a = none) : SlotOk K F G' H' s r := by
  cases r with
  | un => trivial
  | sh d => obtain ⟨v, h1, h2⟩ := h; exact ⟨v, h1, h2.rdx e⟩
  | own b d =>
    obtain ⟨h0, h1, h2, h3⟩ := h
    have kb := k b (List.mem_singleton.mpr rfl)
    exact ⟨h0, kb.2, h2, by rw [kb.1]; exact h3.rdx e⟩
  | drw b =>
    obtain ⟨h0, h1, h2, h3⟩ := h
    have kb := k b (List.mem_singleton.mpr rfl)
    exact ⟨h0, kb.2, h2, by rw [kb.1]; exact h3⟩
  | two p q xs ys =>
    obtain ⟨⟨t, h0, h00⟩, h1, h2, h3, h4, h5, h6⟩ := h
    have kp := k p List.mem_cons_self
    have kq := k q (List.mem_cons_of_mem _ (List.mem_singleton.mpr rfl))
    exact ⟨⟨t, h0, ht _ _ h00⟩, kp.2, h2, kq.2, h4, by rw [kp.1]; exact h5, by rw [kq.1]; exact h6⟩
theorem RE.relock {F G H : Hp} {σ : L2.St} {d : Addr} {u u' : HO} (R : RE K F G H σ ρ) (hd : G d = some u) (e : RdX G (upd G d u')) (hu : ∀ xs, u ≠ .tup xs) (hv : ∀ c q, u ≠ LamX.CodeO c q) : RE K F (upd G d u') (upd H d u') σ ρ := by
  refine ⟨⟨fun a o h => ?_, R.wd.g.upd, fun a o h => ?_, R.wd.ft, R.wd.tb.step (fun c q z => ?_) fun t ht => ?_⟩, R.sl.map (fun i s r _ hr q => q.rdx e (fun t xs z => ?_) (fun c c' q' z => ?_) fun a m => ?_), R.nd⟩
  · have ne : a ≠ d := fun z => by rw [z] at h; rw [R.wd.fg d o h] at hd; cases hd
    rw [upd_ne ne]; exact R.wd.f a o h
  · have ne : a ≠ d := fun z => by rw [z] at h; rw [R.wd.fg d o h] at hd; cases hd
    rw [upd_ne ne]; exact R.wd.fg a o h
  · have ne : c ≠ d := fun z' => by rw [z', hd] at z; exact hv _ _ (Option.some.inj z)
    rw [upd_ne ne]; exact z
  · obtain ⟨g1, g2, _⟩ := R.wd.tb t ht
    have ne : t.1 ≠ d := fun z => by rw [z, hd] at g1; cases g1
    rw [upd_ne ne, upd_ne ne]
    exact ⟨rfl, g1, g2⟩
  · have ne : t ≠ d := fun z' => by rw [z', hd] at z; cases z; exact hu _ rfl
    rw [upd_ne ne]; exact z
  · have ne : c ≠ d := fun z' => by rw [z', hd] at z; exact hv _ _ (Option.some.inj z)
    rw [upd_ne ne]; exact z
  · have ne : a ≠ d := fun z => by
      have := (q.own m).1
      rw [z, hd] at this; cases this
    rw [upd_ne ne, upd_ne ne]
    exact ⟨rfl, (q.own m).1⟩
theorem rdx_lock {G : Hp} {d : Addr} {od : Obj} {kvs : List (Key × V)} (hd : G d = some (.dK kvs)) : RdX G (upd G d (.frz od (.dK kvs))) := by
  refine ⟨fun a u hu h => ?_, fun a C dx fs h => ?_, fun a xs h => ?_, fun a xs h => ?_, fun a φ h => ?_, fun a φ h => ?_⟩
  · by_cases e : a = d
    · subst e
      rcases h with h | ⟨o, h⟩
      · rw [hd] at h; cases h; exact .inr ⟨od, upd_same⟩
      · rw [hd] at h; cases h
    · unfold Rd; rw [upd_ne e]; exact h
  · have ne : a ≠ d := fun z => by rw [z, hd] at h; cases h
    rw [upd_ne ne]; exact h
  · have ne : a ≠ d := fun z => by rw [z, hd] at h; cases h
    rw [upd_ne ne]; exact h
  · have ne : a ≠ d := fun z => by rw [z, hd] at h; cases h
    rw [upd_ne ne]; exact h
  · have ne : a ≠ d := fun z => by rw [z, hd] at h; cases h
    rw [upd_ne ne]; exact h
  · have ne : a ≠ d := fun z => by rw [z, hd] at h; cases h
    rw [upd_ne ne]; exact h
theorem rdx_unlock {G : Hp} {d : Addr} {od : Obj} {kvs : List (Key × V)} (hd : G d = some (.frz od (.dK kvs))) : RdX G (upd G d (.dK kvs)) := by
  refine ⟨fun a u hu h => ?_, fun a C dx fs h => ?_, fun a xs h => ?_, fun a xs h => ?_, fun a φ h => ?_, fun a φ h => ?_⟩
  · by_cases e : a = d
    · subst e
      rcases h with h | ⟨o, h⟩
      · rw [hd] at h; cases h; exact hu.elim
      · rw [hd] at h; cases h; exact .inl upd_same
    · unfold Rd; rw [upd_ne e]; exact h
  · have ne : a ≠ d := fun z => by rw [z, hd] at h; cases h
    rw [upd_ne ne]; exact h
  · have ne : a ≠ d := fun z => by rw [z, hd] at h; cases h
    rw [upd_ne ne]; exact h
  · have ne : a ≠ d := fun z => by rw [z, hd] at h; cases h
    rw [upd_ne ne]; exact h
  · have ne : a ≠ d := fun z => by rw [z, hd] at h; cases h
    rw [upd_ne ne]; exact h
  · have ne : a ≠ d := fun z => by rw [z, hd] at h; cases h
    rw [upd_ne ne]; exact h
theorem rep_of_kD {H : Hp} (k : Key) : Rep K H (kV k) (kD k) := by
  cases k with
  | inl i => exact .int i
  | inr x => exact .str x
theorem yl_keys {G : Hp} {d : Addr} {o : Obj} {kvs : List (Key × V)} {ps : List (Key × D)} (h : G d = some (.frz o (.dK kvs))) (hk : kvs.map (·.1) = ps.map (·.1)) : Yields K G (Itk d o kvs) (ps.map fun p => kD p.1) where
  go := fun F G2 H2 σ ρ i e R hi => ⟨R.wd.g _ _ (e _ _ h), by have := congrArg List.length hk; simp at this hi; omega⟩
  stop := fun F G2 H2 σ ρ e R => ⟨R.wd.g _ _ (e _ _ h), by have := congrArg List.length hk; simp at this ⊢; omega⟩
  yld := fun F G2 H2 σ ρ i x H3 e R hi y => by
    obtain ⟨rfl, k, v, hkv, rfl⟩ := y
    refine ⟨G2, kD k, Ex.refl _, R, ?_, rep_of_kD k⟩
    have z : (kvs.map (·.1))[i]? = some k := by rw [List.getElem?_map, hkv]; rfl
    rw [hk, List.getElem?_map] at z
    obtain ⟨p, hp, rfl⟩ := Option.map_eq_some_iff.mp z
    rw [List.getElem?_map, hp]; rfl
theorem for_core {J : It} {g : TG} {t : TS} {Dn : Ends} {F G H : Hp} {σ : L2.St} {ds : List D} (R1 : RE K F G H σ ρ) (Y : Yields K G J ds) (L : Links K F G E Dn) (P : Nat → Env → Prop) (p0 : P 0 ρ)
    (turn : ∀ i d ρ', ds[i]? = some d → P i ρ' → GW K g d ρ' fun ρ2 => WS K t ρ2 { E with nx := P (i + 1), ct := P (i + 1), bk := E.nx }) (fin : ∀ ρ', P ds.length ρ' → E.nx ρ') : tFor (fun σ H R => R J H) g t Dn σ H := by
  refine ⟨fun i m σ' H' => m + i = ds.length ∧ ∃ ρ' G', Ex G G' ∧ RE K F G' H' σ' ρ' ∧ P i ρ', ⟨ds.length, rfl, ρ, G, Ex.refl _, R1, p0⟩, ?_⟩
  rintro i m σ' H' ⟨hm, ρ', G', e', R', p⟩
  by_cases hi : i < ds.length
  · refine .inr ⟨Y.go F G' H' σ' ρ' i e' R' hi, fun σ2 H2 => ∃ ρ2 G2, Ex G G2 ∧ RE K F G2 H2 σ2 ρ2 ∧ P (i + 1) ρ2, fun σ2 H2 z => ⟨m - 1, by omega, by omega, z⟩, fun x H2 y => ?_⟩
    obtain ⟨G2, d, e2, R2, hd, hx⟩ := Y.yld F G' H' σ' ρ' i x H2 e' R' hi y
    refine turn i d ρ' hd p F G2 H2 σ' x R2 hx _ fun σ3 ρ3 G3 H3 e3 R3 w3 => ?_
    refine w3 F G3 H3 σ3 _ R3 ⟨fun σ4 ρ4 G4 H4 e4 R4 p4 => ⟨ρ4, G4, ((e'.trans e2).trans e3).trans e4, R4, p4⟩, fun v d σ4 ρ4 G4 H4 e4 R4 hv r4 => ?_, fun σ4 ρ4 G4 H4 e4 R4 p4 => ?_, fun σ4 ρ4 G4 H4 e4 R4 p4 => ⟨ρ4, G4, ((e'.trans e2).trans e3).trans e4, R4, p4⟩, fun p d σ4 ρ4 G4 H4 e4 R4 => L.ro p d σ4 ρ4 G4 H4 (((e'.trans e2).trans e3).trans e4) R4, fun C f v d dx G4 H4 e4 => L.xx C f v d dx G4 H4 (((e'.trans e2).trans e3).trans e4)⟩
    · exact L.rt v d σ4 ρ4 G4 H4 (((e'.trans e2).trans e3).trans e4) R4 hv r4
    · exact L.nx σ4 ρ4 G4 H4 (((e'.trans e2).trans e3).trans e4) R4 p4
  · have ei : i = ds.length := by omega
    subst ei
    exact .inl ⟨Y.stop F G' H' σ' ρ' e' R', L.nx σ' ρ' G' H' e' R' (fin ρ' p)⟩
theorem ps_or {X : Cx} {st : Stmt} {t u : TS} (h : PS X st t) (h' : PS X st u) : PS X st (fun D σ H => t D σ H ∨ u D σ H) :=
  ⟨fun pins s σ H D I q => q.elim (fun q => h.run pins s σ H D I q) fun q => h'.run pins s σ H D I q⟩
/-- for k in d, d a dict that is shared -/
theorem ws_forK {g : TG} {t : TS} {i : Nat} {ps : List (Key × D)} (hi : ρ[i]? = some (.sh (.dk ps))) (P : Nat → Env → Prop) (p0 : P 0 ρ)
    (turn : ∀ i d ρ', (ps.map fun p => kD p.1)[i]? = some d → P i ρ' → GW K g d ρ' fun ρ2 => WS K t ρ2 { nx := P (i + 1), rt := fun _ _ => False, bk := P ps.length, ct := P (i + 1) }) (fin : ∀ ρ', P ps.length ρ' → E.nx ρ') :
    WS K (fun D σ H => tLock (tFor (iKeys (tVar i)) g t) D σ H ∨ tFor (iKeys (tVar i)) g t D σ H) ρ E := fun F G H σ Dn R L => by
  obtain ⟨s, hs, v, rfl, hv⟩ := R.sl.get hi
  obtain ⟨a, kvs, rfl, hd, hk, hr⟩ := rep_dk hv
  have hlen : (ps.map fun p => kD p.1).length = ps.length := List.length_map ..
  rcases hd with hG | ⟨o, hG⟩
  · refine .inl ⟨a, .dK kvs, R.wd.g _ _ hG, trivial, fun od => ?_⟩
    have R1 := R.relock (u' := .frz od (.dK kvs)) hG (rdx_lock hG) (fun xs z => nomatch z) (fun c q z => by unfold LamX.CodeO at z; cases z)
    refine ⟨.ref a, hs, a, od, rfl, .inl ⟨kvs, upd_same, ?_⟩⟩
    refine for_core (E := { nx := P ps.length, rt := fun _ _ => False }) R1 (yl_keys upd_same hk) ⟨fun σ' ρ' G' H' e R' q => ?_, fun v d σ' ρ' G' H' e R' hv q => q.elim, fun σ' ρ' G' H' e R' q => q.elim, fun σ' ρ' G' H' e R' q => q.elim, fun p d σ' ρ' G' H' e R' _ _ _ _ q => q.elim, fun C f v d dx G' H' _ _ _ _ _ _ q => q.elim⟩ P p0 turn (by rw [hlen]; exact fun ρ' z => z)
    have hG' := e _ _ (upd_same (H := G) (a := a) (o := .frz od (.dK kvs)))
    refine ⟨R'.wd.g _ _ hG', L.nx σ' ρ' (upd G' a (.dK kvs)) _ (fun b u z => ?_) (R'.relock hG' (rdx_unlock hG') (fun xs z => nomatch z) (fun c q z => by unfold LamX.CodeO at z; cases z)) (fin ρ' q)⟩
    by_cases eb : b = a
    · subst eb; rw [hG] at z; cases z; exact upd_same
    · rw [upd_ne eb]; exact e b u (by rw [upd_ne eb]; exact z)
  · refine .inr ⟨.ref a, hs, a, o, rfl, .inl ⟨kvs, R.wd.g _ _ hG, ?_⟩⟩
    exact for_core (E := { nx := P ps.length, rt := fun _ _ => False }) R (yl_keys hG hk) ⟨fun σ' ρ' G' H' e R' q => L.nx σ' ρ' G' H' e R' (fin ρ' q), fun v d σ' ρ' G' H' e R' hv q => q.elim, fun σ' ρ' G' H' e R' q => q.elim, fun σ' ρ' G' H' e R' q => q.elim, fun p d σ' ρ' G' H' e R' _ _ _ _ q => q.elim, fun C f v d dx G' H' _ _ _ _ _ _ q => q.elim⟩ P p0 turn (by rw [hlen]; exact fun ρ' z => z)
theorem dput_le {κ : Type} [DecidableEq κ] (ps : List (κ × D)) (k : κ) (d : D) : (dput ps k d).length ≤ ps.length + 1 := by
  unfold dput
  split
  · rw [List.length_map]; omega
  · simp
/-- {tk: tv for g in wi if tt} -/
theorem en_dc {wi : TI} {g : TG} {vs : List Nat} (h : EvI K wi ρ fun ds ρ1 => ownFree ρ1 vs = true ∧ ds.length ≤ 90000 ∧ ∃ P : Nat → List (Key × D) → Prop, P 0 [] ∧
      (∀ i d acc, ds[i]? = some d → P i acc → GV K g vs d (wipeE ρ1 vs) fun ρ2 => EvT K tt ρ2 fun b ρ3 => ρ3 = ρ2 ∧ if b = true then EvW K tk ρ2 fun y ρ4 => ρ4 = ρ2 ∧ EvW K tv ρ2 fun z ρ5 => ρ5 = ρ2 ∧ ∃ k, y = kD k ∧ P (i + 1) (dput acc k z) else P (i + 1) acc) ∧
      ∀ acc, P ds.length acc → Q (.dk acc) ρ1) : EvN K (tDc wi g tt tk tv vs) ρ Q := fun F G H σ R Q' k =>
  h F G H σ R _ fun J ds ρ1 G1 H1 e1 R1 Y q => fun Dd hD => by
    obtain ⟨hv0, hlen, P, p0, turn, fin⟩ := q
    have hv := ownFree_at hv0
    have hF0 : F Dd = none := R1.wd.f.none hD
    have hO : Dd ∉ ownA ρ1 := ownA_fresh R1 hD
    refine ⟨fun i m H' => m + i = ds.length ∧ ∃ acc accV G', Ex G1 G' ∧ RE K F G' H' σ ρ1 ∧ G' Dd = none ∧ H' Dd = some (.dK accV) ∧ accV.map (·.1) = acc.map (·.1) ∧ Reps K G' (accV.map (·.2)) (acc.map (·.2)) ∧ acc.length ≤ i ∧ P i acc,
      ⟨ds.length, rfl, [], [], G1, Ex.refl _, R1.alone hD, R1.wd.g.none hD, upd_same, rfl, .nil, Nat.le_refl _, p0⟩, ?_⟩
    rintro i m H' ⟨hm, acc, accV, G', e', R', hG, hH, rk, ra, hl, p⟩
    have Rf := R'.frm hH hG hO ⟨fun _ z => (nomatch z), fun _ z => (nomatch z)⟩
    by_cases hi : i < ds.length
    · refine .inr ⟨Y.go _ G' H' σ ρ1 i e' Rf hi, fun H2 => ∃ acc accV G2, Ex G1 G2 ∧ RE K F G2 H2 σ ρ1 ∧ G2 Dd = none ∧ H2 Dd = some (.dK accV) ∧ accV.map (·.1) = acc.map (·.1) ∧ Reps K G2 (accV.map (·.2)) (acc.map (·.2)) ∧ acc.length ≤ i + 1 ∧ P (i + 1) acc, fun H2 z => ⟨m - 1, by omega, by omega, z⟩, fun x H2 y => ?_⟩
      obtain ⟨G2, d, e2, R2, hd, hx⟩ := Y.yld _ G' H' σ ρ1 i x H2 e' Rf hi y
      refine turn i d acc hd p _ G2 H2 _ x (R2.wipe vs) hx _ fun σ2 ρ2 l2 s2 R3 w3 => ?_
      refine ⟨?_, w3 _ G2 H2 σ2 R3 _ fun b ρ3 G4 H4 e4 R4 w4 => ?_⟩
      · have e0 : L2.wipe (L2.wipe σ vs) vs = L2.wipe σ vs := wipe_eq (L2.wipe_length σ vs) fun i hi => wipe_at hi
        rw [wipe_eq l2 fun i hi => (s2 i hi).1, e0]
      obtain ⟨rfl, w4⟩ := w4
      have back : ∀ {G5 H5 : Hp}, Ex G2 G5 → RE K (upd F Dd (.dK accV)) G5 H5 σ2 ρ3 → RE K F G5 H5 σ ρ1 ∧ H5 Dd = some (.dK accV) ∧ G5 Dd = none := fun {G5 H5} e5 R5 => by
        obtain ⟨R6, h6, g6⟩ := R5.unfrm hF0
        refine ⟨⟨R6.wd, Slots.join (e2.trans e5) R'.sl R6.sl (fun j r hr ho => ?_), R'.nd⟩, h6, g6⟩
        have hj := hv j r hr ho
        rw [(s2 j hj).1, (s2 j hj).2, wipe_at hj, wipeE_at hj]
        exact ⟨hr, rfl⟩
      cases b with
      | true =>
        refine w4 _ G4 H4 σ2 R4 _ fun v yv ρ5 G5 H5 e5 R5 hvy w5 => ?_
        obtain ⟨rfl, w5⟩ := w5
        refine w5 _ G5 H5 σ2 R5 _ fun v2 zv ρ6 G6 H6 e6 R6 hvz w6 => ?_
        obtain ⟨rfl, kk, rfl, w6⟩ := w6
        obtain ⟨R7, h7, g7⟩ := back ((e4.trans e5).trans e6) R6
        have e9 : Ex G' G6 := ((e2.trans e4).trans e5).trans e6
        obtain ⟨z1, z2⟩ := put_rel (k := kk) rk (ra.mono e9) hvz
        have hll : accV.length = acc.length := by have := congrArg List.length rk; simpa using this
        refine ⟨accV, kk, rep_kD hvy, h7, by rw [hll]; exact bigl (by omega), dput acc kk zv, putK accV kk v2, G6, e'.trans e9, R7.aloneU g7 hF0 hO h7 ⟨fun _ z => (nomatch z), fun _ z => (nomatch z)⟩, g7, upd_same, z1, z2, by have := dput_le acc kk zv; omega, w6⟩
      | false =>
        obtain ⟨R6, h6, g6⟩ := back e4 R4
        exact ⟨acc, accV, G4, (e'.trans e2).trans e4, R6, g6, h6, rk, ra.mono (e2.trans e4), by omega, w4⟩
    · have ei : i = ds.length := by omega
      subst ei
      exact .inl ⟨Y.stop _ G' H' σ ρ1 e' R', k Dd (.dk acc) ρ1 G' H' (e1.trans e') R' hG hF0 hO ⟨accV, hH, rk, ra⟩ (fin acc p)⟩
/-! ### instances in the making -/
def putD (f : Str) (d : D) : List (Str × D) → List (Str × D)
  | [] => [(f, d)]
  | (g, x) :: r => if g = f then (g, d) :: r else (g, x) :: putD f d r
theorem putF_rel {H : Hp} {f : Str} {v : V} {d : D} (hv : Rep K H v d) : ∀ {fs : List (Str × V)} {ps : List (Str × D)}, fs.map (·.1) = ps.map (·.1) → Reps K H (fs.map (·.2)) (ps.map (·.2)) →
    (putF f v fs).map (·.1) = (putD f d ps).map (·.1) ∧ Reps K H ((putF f v fs).map (·.2)) ((putD f d ps).map (·.2))
  | [], [], _, _ => ⟨rfl, .cons hv .nil⟩
  | [], _ :: _, e, _ => by simp at e
  | _ :: _, [], e, _ => by simp at e
  | (g, x) :: fs, (g', y) :: ps, e, r => by
    simp only [List.map_cons, List.cons.injEq] at e
    obtain ⟨rfl, e⟩ := e
    cases r with
    | cons r1 r2 =>
      unfold putF putD
      by_cases h : g = f
      · rw [if_pos h, if_pos h]
        simp only [List.map_cons]
        exact ⟨by rw [e], .cons hv r2⟩
      · rw [if_neg h, if_neg h]
        obtain ⟨i1, i2⟩ := putF_rel hv e r2
        simp only [List.map_cons]
        exact ⟨by rw [i1], .cons r1 i2⟩
/-- self.f = v -/
theorem ws_fldset {i : Nat} {a : Addr} {C f : Str} (hc : Cls K (He.ga K C)) (hn : NoAttr K (He.ga K C) f) (h : EvW K tv ρ fun d ρ1 => ∃ ps, ρ1[i]? = some (.own a (.ins C ps)) ∧ ps.length < 1000 ∧ E.nx (ρ1.set i (.own a (.ins C (putD f d ps))))) : WS K (sFld K (tVar i) tv f) ρ E := fun F G H σ Dn R L =>
  h F G H σ R _ fun v d ρ1 G1 H1 e1 R1 hv q => by
    obtain ⟨ps, hi, hl, q⟩ := q
    obtain ⟨s, hs, rfl, hG, hF, dx, fs, hd, hk, hr⟩ := R1.sl.get hi
    obtain ⟨z1, z2⟩ := putF_rel (f := f) hv hk hr
    have hll : fs.length = ps.length := by have := congrArg List.length hk; simpa using this
    exact ⟨.ref a, hs, a, _, dx, fs, rfl, hd, hc, hn, by omega, L.nx _ _ G1 _ e1 (R1.mut (r' := .own a (.ins C (putD f d ps))) hi (List.mem_singleton.mpr rfl) (List.Sublist.refl _) hs ⟨rfl, hG, hF, dx, _, upd_same, z1, z2⟩) q⟩
def spI (K : PySem.W.Frag) (C : Str) (T : List D → (D → Prop) → Prop) : Sp := fun vs H Q _ => ∃ a dx ws F G ds Qd, vs = .ref a :: ws ∧ Wd F G H ∧ G a = none ∧ F a = none ∧ H a = some (.ins (He.ga K C) dx []) ∧ Reps K G ws ds ∧ T ds Qd ∧
  ∀ ps G' H', Ex G G' → Wd F G' H' → G' a = none → OwnR K G' (H' a) (.ins C ps) → Qd (.ins C ps) → Q .non H'
structure FnI (P : Program) (w : World) (K : PySem.W.Frag) (mg : Str → Option Value) (base : Heap) (k : Nat) (C : Str) (ps : List Str) (sp : Sp) : Prop where
  ex : ∃ f fd, FnOk P w K mg base CX0 k f fd ps sp ∧ Binds K fd ps [] ∧ Mk K (He.ga K C) f
  at_ : mg C = some (.ref (He.ga K C))
theorem pe_makeF {X : Cx} {k : Nat} {x : Str} {ps : List Str} {sp : Sp} {e : Expr} {es : List Expr} {t : TA} {p pos : Pos} (F : FnI X.prog X.w X.K X.mg X.base k x ps sp) (hr : Room (k + 1) X.A) (ha : PA X (e :: es) t) (hg : Gl X x := by rfl)
    (he : starEach (e :: es) X.env = (false, eval e X.env) :: starEach es X.env := by rfl) (hpl : (backTo pos (starEach es X.env)).any (·.1) = false := by rfl) (hd : (x == ("__debug__" : Str)) = false := by decide) : PE X (.Call (.Name x p) (e :: es) [] pos) (tMake (He.ga X.K x) sp [] E0 t) := by
  obtain ⟨f, fd, h1, h2, h3⟩ := F.ex
  exact pe_make h3 h1 hr hg F.at_ h2 .nil pass0 ha hd he hpl
theorem ew_make {C : Str} {T : List D → (D → Prop) → Prop} {E : XK} (h : EvA K ts ρ fun ds ρ1 => T ds fun d => Q d ρ1) : EvW K (tMake (He.ga K C) (spI K C T) [] E ts) ρ Q := fun F G H σ R Q' k =>
  h F G H σ R _ fun vs ds ρ1 G1 H1 e1 R1 hv q => fun x dx hx hdx hne => by
    have hx2 : upd H1 dx (.own x) x = none := by rw [upd_ne (Ne.symm hne)]; exact hx
    have W := R1.wdF (as := ownA ρ1) (fun _ m => m)
    have ex2 : Ex H1 (upd (upd H1 dx (.own x)) x (.ins (He.ga K C) dx [])) := (Ex.new hdx).trans (Ex.new hx2)
    have nx := ownA_fresh R1 hx
    have hFx := R1.wd.f.none hx
    refine ⟨x, dx, vs, addF F H1 (ownA ρ1), G1, ds, _, by rw [List.append_nil], ⟨W.f.trans ex2, W.g.trans ex2, W.fg, W.ft, W.tb.step (fun _ _ z => z) fun t ht => ⟨by rw [upd_ne (W.tb.neN hx t ht), upd_ne (W.tb.neN hdx t ht)], (W.tb t ht).1, (W.tb t ht).2.1⟩⟩, R1.wd.g.none hx, by rw [addF_out nx]; exact hFx, upd_same, hv, q, fun ps G' H' e W' hG o qd => ⟨rfl, ?_⟩⟩
    have R2 := R1.back W' e
    obtain ⟨u, hu, hmu⟩ := o.some
    exact k (.ref x) (.ins C ps) ρ1 (upd G' x u) H' ((e1.trans e).trans (Ex.new hG)) (R2.share hu hG hFx nx (nt_mut hmu).2) (ownR_rep o (by rw [upd_same, hu]) (Ex.new hG)) qd
theorem fn_I {P : Program} {w : World} {mg : Str → Option Value} {base : Heap} {x qual C : Str} {params : Arguments} {body : List Stmt} {scope : Scope} {f : Addr} {fd : FuncData} {N ps : List Str} {k : Nat} {T : List D → (D → Prop) → Prop}
    (F : FunD K x qual params body scope [] [] f fd) (M : Mk K (He.ga K C) f) (at_ : mg C = some (.ref (He.ga K C)))
    (bi : ∀ (kV doc pm : Value) (an : Option Addr) (cdv ct : Value) (us : List Value), us.length = ps.length → bindArgs (PySem.W.fnOf x qual params body scope .none kV doc pm an cdv ct) ⟨us, []⟩ = pure (ps.zip us))
    (S : FnScope N ps scope) (hN : N ≠ []) (hl : ∀ ds Qd, T ds Qd → ds.length + 1 = ps.length)
    (hb : ∀ (cdv : Value) (A : Around) (outer : List PySem.Env) (s : Shared) (H : Hp) (E : XK), Room k (A.deeper (envOfC qual scope s.heap.objs.size f cdv)) →
      ∃ t, PSs (cxOf CX0 P w K mg base N qual scope f cdv A outer s H E).nox body t ∧ ∀ a ds Qd, T ds Qd → WS K t (Sl.own a (.ins C []) :: (ds.map Sl.sh ++ List.replicate (N.length - 1 - ds.length) Sl.un)) { nx := fun ρ => ∃ ps, ρ[0]? = some (.own a (.ins C ps)) ∧ Qd (.ins C ps), rt := fun d ρ => False }) :
    FnI P w K mg base (k + 1) C ps (spI K C T) := by
  refine ⟨⟨f, fd, F.ok S (fun vs H Q E h => ?_) (fun cdv A outer s H vs Q E hr h => ?_), F.bindsN bi, M⟩, at_⟩
  · obtain ⟨a, dx, ws, _, _, ds, Qd, rfl, _, _, _, _, r, t, _⟩ := h
    rw [List.length_cons, r.length]; exact hl ds Qd t
  · obtain ⟨a, dx, ws, F', G, ds, Qd, rfl, W, hG, hF, hD, r, tt, post⟩ := h
    obtain ⟨t, hd, hw⟩ := hb cdv A outer s H E hr
    refine ⟨t, PSs.nox hd, ?_⟩
    have es : L2.start N (.ref a :: ws) = some (.ref a) :: (ws.map some ++ List.replicate (N.length - 1 - ws.length) none) := by
      unfold L2.start
      simp only [List.map_cons, List.cons_append, List.length_cons]
      rw [show N.length - (ws.length + 1) = N.length - 1 - ws.length by omega]
    have R : RE K F' G H (L2.start N (.ref a :: ws)) (Sl.own a (.ins C []) :: (ds.map Sl.sh ++ List.replicate (N.length - 1 - ds.length) Sl.un)) := by
      rw [es]
      refine ⟨W, ⟨⟨rfl, hG, hF, dx, [], hD, rfl, .nil⟩, by rw [r.length]; exact slots_start _ r⟩, ?_⟩
      show (a :: ownA (ds.map Sl.sh ++ List.replicate (N.length - 1 - ds.length) Sl.un)).Nodup
      rw [own_start]
      simp
    refine hw a ds Qd tt F' G H _ _ R ⟨fun σ' ρ' G' H' e R' q => ?_, fun v d σ' ρ' G' H' e R' hv q => q.elim, fun σ' ρ' G' H' e R' q => q.elim, fun σ' ρ' G' H' e R' q => q.elim, fun p d σ' ρ' G' H' e R' _ _ _ _ q => q.elim, fun C f v d dx G' H' _ _ _ _ _ _ q => q.elim⟩
    obtain ⟨ps', h0, qd⟩ := q
    obtain ⟨_, _, _, z1, _, z2⟩ := R'.sl.get h0
    exact post ps' G' H' e R'.wd z1 z2 qd
end
end DL

set_option Elab.async false
set_option linter.all false
set_option maxRecDepth 100000
namespace DL
open PySem PySem.Spec PyProof.Rows L2
variable [TabL]
/-! ### exceptions -/
/-- an exception of the class C whose field f holds d -/
def XLink (K : PySem.W.Frag) (F G : Hp) (W : XK) (X : Str → Str → D → Prop) : Prop := ∀ C f v d dx G' H', Ex G G' → Wd F G' H' → H' dx = some (.xd [(f, v)]) → G' dx = none → F dx = none → Rep K G' v d → X C f d → W (.ref (He.ga K C)) (some dx) H'
theorem XLink.mono {K : PySem.W.Frag} {F G G1 : Hp} {W : XK} {X : Str → Str → D → Prop} (L : XLink K F G W X) (e : Ex G G1) : XLink K F G1 W X := fun C f v d dx G' H' x => L C f v d dx G' H' (e.trans x)
/-- an expression that may raise; W: what is wished of an exception -/
def EvX (K : PySem.W.Frag) (te : TE) (W : XK) (ρ : Env) (Q : D → Env → Prop) (X : Str → Str → D → Prop) : Prop := ∀ F G H σ, RE K F G H σ ρ → XLink K F G W X → ∀ Q' : VK,
  (∀ v d ρ' G' H', Ex G G' → RE K F G' H' σ ρ' → Rep K G' v d → Q d ρ' → Q' v H') → te σ H Q'
/-- a def of plain data that may raise -/
def spX (K : PySem.W.Frag) (T : List D → (D → Prop) → (Str → Str → D → Prop) → Prop) : Sp := fun vs H Q W => ∃ F G ds Qd X, Wd F G H ∧ Reps K G vs ds ∧ T ds Qd X ∧
  (∀ v d G' H', Ex G G' → Wd F G' H' → Rep K G' v d → Qd d → Q v H') ∧ XLink K F G W X
section
variable {K : PySem.W.Frag} {te ta tb tc : TE} {tt : TT} {ts : TA} {ρ : Env} {Q : D → Env → Prop} {E : EndD} {W : XK} {X : Str → Str → D → Prop} {T : List D → (D → Prop) → (Str → Str → D → Prop) → Prop}
theorem ex_call (h : EvA K ts ρ fun ds ρ1 => T ds (fun d => Q d ρ1) X) : EvX K (tCall (spX K T) [] W ts) W ρ Q X := fun F G H σ R L Q' k =>
  h F G H σ R _ fun vs ds ρ1 G1 H1 e1 R1 hv q => by
    refine ⟨addF F H1 (ownA ρ1), G1, ds, _, X, R1.wdF (fun _ m => m), by rw [List.append_nil]; exact hv, q, fun v d G' H' e Wd' hd qd => ?_, fun C f v d dx G' H' e Wd' h1 h2 h3 h4 h5 => ?_⟩
    · exact k v d ρ1 G' H' (e1.trans e) (R1.back Wd' e) hd qd
    · refine L C f v d dx G' H' (e1.trans e) (R1.back Wd' e).wd h1 h2 ?_ h4 h5
      by_cases m : dx ∈ ownA ρ1
      · exact (R1.sl.own m).2.1
      · rw [addF_out m] at h3; exact h3
theorem Links.xl {F G : Hp} {Dn : Ends} (L : Links K F G E Dn) : XLink K F G E.W E.xx := L.xx
theorem ws_dropX (hW : E.W = W) (h : EvX K te W ρ (fun _ ρ' => E.nx ρ') E.xx) : WS K (tDrop te) ρ E := fun F G H σ Dn R L => h F G H σ R (hW ▸ L.xl) _ fun v d ρ' G' H' e R' _ q => L.nx σ ρ' G' H' e R' q
theorem ws_retX (hW : E.W = W) (h : EvX K te W ρ (fun d ρ' => E.rt d ρ') E.xx) : WS K (tRet te) ρ E := fun F G H σ Dn R L => h F G H σ R (hW ▸ L.xl) _ fun v d ρ' G' H' e R' hv q => L.rt v d σ ρ' G' H' e R' hv q
theorem ws_asgX {i : Nat} (hW : E.W = W) (h : EvX K te W ρ (fun d ρ' => E.nx (ρ'.set i (.sh d))) E.xx) : WS K (tAsg te (gName i)) ρ E := fun F G H σ Dn R L => h F G H σ R (hW ▸ L.xl) _ fun v d ρ' G' H' e R' hv q => L.nx _ _ G' H' e (R'.setSh hv i) q
/-- raise C(e) -/
theorem ws_raise {C f : Str} (hW : E.W = W) (h : EvW K te ρ fun d _ => E.xx C f d) : WS K (fun _ σ H => tMkS (He.ga K C) f te σ H fun cls d H' => W cls d H') ρ E := fun F G H σ Dn R L =>
  h F G H σ R _ fun v d ρ1 G1 H1 e1 R1 hv q => fun dx hdx => by
    rw [← hW]
    exact L.xx C f v d dx G1 _ e1 (R1.alone hdx).wd upd_same (R1.wd.g.none hdx) (R1.wd.f.none hdx) hv q
/-- a def that may raise, by name -/
structure FnX (P : Program) (w : World) (K : PySem.W.Frag) (mg : Str → Option Value) (base : Heap) (k : Nat) (x : Str) (ps : List Str) (sp : Sp) : Prop where
  ex : ∃ fd, FnOk P w K mg base (L2.CX P w) k (He.ga K x) fd ps sp ∧ Binds K fd ps []
  kp : PySem.W.keepIn K (.ref (He.ga K x)) = true
  at_ : mg x = some (.ref (He.ga K x))
theorem pe_callX {X : Cx} {k : Nat} {x : Str} {ps : List Str} {sp : Sp} {e : Expr} {es : List Expr} {t : TA} {W : WX} {E : XK} {p pos : Pos} (F : FnX X.prog X.w X.K X.mg X.base k x ps sp) (tk : Takes X W) (hW : ∀ cls d σ H, E cls d H → W cls d σ H) (hr : Room k X.A) (ha : PA X (e :: es) t) (hg : Gl X x := by rfl)
    (he : starEach (e :: es) X.env = (false, eval e X.env) :: starEach es X.env := by rfl) (hpl : (backTo pos (starEach es X.env)).any (·.1) = false := by rfl) (hd : (x == ("__debug__" : Str)) = false := by decide) : PE X (.Call (.Name x p) (e :: es) [] pos) (tCall sp [] E t) := by
  obtain ⟨fd, h1, h2⟩ := F.ex
  exact pe_call h1 hr hg F.at_ F.kp h2 .nil (passes_call tk hW) ha hd he hpl
/-- nothing is raised here -/
theorem takesN {X : Cx} : Takes X (fun _ _ _ _ => False) := fun _ _ x => by
  obtain ⟨_, _, _, _, _, _, _, _, _, _, _, _, _, _, _, _, z⟩ := x
  exact z.elim
/-- a call that does not raise -/
theorem ew_callQ (h : EvA K ts ρ fun ds ρ1 => T ds (fun d => Q d ρ1) fun _ _ _ => False) : EvW K (tCall (spX K T) [] W ts) ρ Q := fun F G H σ R Q' k =>
  ex_call (X := fun _ _ _ => False) h F G H σ R (fun _ _ _ _ _ _ _ _ _ _ _ _ _ z => z.elim) Q' k
theorem fn_X {P : Program} {w : World} {mg : Str → Option Value} {base : Heap} {x qual : Str} {params : Arguments} {body : List Stmt} {scope : Scope} {fd : FuncData} {N ps : List Str} {k : Nat}
    (F : FunD K x qual params body scope [] [] (He.ga K x) fd) (at_ : mg x = some (.ref (He.ga K x)))
    (bi : ∀ (kV doc pm : Value) (an : Option Addr) (cdv ct : Value) (us : List Value), us.length = ps.length → bindArgs (PySem.W.fnOf x qual params body scope .none kV doc pm an cdv ct) ⟨us, []⟩ = pure (ps.zip us))
    (S : FnScope N ps scope) (hl : ∀ ds Qd X, T ds Qd X → ds.length = ps.length)
    (hb : ∀ (cdv : Value) (A : Around) (outer : List PySem.Env) (s : Shared) (H : Hp) (W : XK), Room k (A.deeper (envOfC qual scope s.heap.objs.size (He.ga K x) cdv)) →
      Takes (cxOf (L2.CX P w) P w K mg base N qual scope (He.ga K x) cdv A outer s H W) (fun cls d _ H => W cls d H) → PassesOwn (model P w) (A.deeper (envOfC qual scope s.heap.objs.size (He.ga K x) cdv)) (envOfC qual scope s.heap.objs.size (He.ga K x) cdv) (cxOf (L2.CX P w) P w K mg base N qual scope (He.ga K x) cdv A outer s H W).xe →
      ∃ t, PSs (cxOf (L2.CX P w) P w K mg base N qual scope (He.ga K x) cdv A outer s H W) body t ∧ ∀ ds Qd X, T ds Qd X → WS K t (envP N ds) { nx := fun _ => Qd .non, rt := fun d _ => Qd d, W := W, xx := X }) :
    FnX P w K mg base (k + 1) x ps (spX K T) := by
  refine ⟨⟨fd, F.ok S (fun vs H Q E h => ?_) (fun cdv A outer s H vs Q W hr h => ?_), F.bindsN bi⟩, F.kp, at_⟩
  · obtain ⟨_, _, ds, Qd, X, _, r, t, _⟩ := h
    rw [r.length]; exact hl ds Qd X t
  · obtain ⟨F', G, ds, Qd, X, Wd', r, tt, post, lk⟩ := h
    obtain ⟨t, hd, hw⟩ := hb cdv A outer s H W hr (takes_of rfl rfl rfl rfl) (passes_of rfl)
    refine ⟨t, hd, ?_⟩
    have R : RE K F' G H (L2.start N vs) (envP N ds) := by
      unfold L2.start
      refine ⟨Wd', by rw [r.length]; exact slots_start _ r, by rw [own_start]; exact List.nodup_nil⟩
    refine hw ds Qd X tt F' G H (L2.start N vs) _ R ⟨fun σ' ρ' G' H' e R' q => ?_, fun v d σ' ρ' G' H' e R' hv q => ?_, fun σ' ρ' G' H' e R' q => q.elim, fun σ' ρ' G' H' e R' q => q.elim, fun p d σ' ρ' G' H' e R' _ _ _ _ q => q.elim, lk⟩
    · exact post .non .non G' H' e R'.wd .non q
    · exact post v d G' H' e R'.wd hv q
end
end DL

set_option Elab.async false
set_option linter.all false
set_option maxRecDepth 100000
set_option maxHeartbeats 2000000
/-! a lambda handed to a def: the heap behind its making, told exactly -/
namespace LamY
open PySem PySem.Spec PyProof.Rows L2 LamX
/-- the heap behind the making: as it was, or with a code object more, told by the table -/
def Made (q : Str) (P : Addr) (ps : Array Value) (H H1 : Hp) : Prop := H1 = H ∨ ∃ (c : Addr) (ps' : Array Value), H c = none ∧ c ≠ P ∧ H1 = upd (upd H P (.tbl ps')) c (CodeO c q) ∧ TriplesOk ps'.toList ∧
  ∀ (pos : Pos) (cv : Value), codeAmong pos ps'.toList = some cv → codeAmong pos ps.toList = some cv ∨ cv = .ref c
/-- the table at P as it is asked -/
def TabOk (H : Hp) (P : Addr) (q : Str) (ps : Array Value) : Prop := H P = some (.tbl ps) ∧ TriplesOk ps.toList ∧ ∀ (pos : Pos) (cv : Value), codeAmong pos ps.toList = some cv → ∃ c, cv = .ref c ∧ H c = some (CodeO c q)
section
variable {X : Cx} {pins : List (Addr × Obj)} {σ : L2.St} {H : Hp} {s : Shared}
theorem make3 {c P : Addr} {ps : Array Value} {params : Arguments} {body : Expr} {scope : Scope} {pos : Pos} {E : Value → Shared → Prop} {Q : Value → Shared → Prop} (I : Inv X pins σ H s) (TB : TabB X.base X.mg c P) (hcode : X.env.code = .ref c)
    (hT : TabOk H P (X.env.qual ++ "<lambda>") ps) (hdef : defaultsOf params X.env = ([], [])) (hfree : ∀ y ∈ scope.names, y.2 = .free → ∃ c, X.env.cells.lookup y.1 = some c)
    (h : ∀ (f c' : Addr) (pm ctv : Value) (H1 : Hp) (s' : Shared), Inv X pins σ H1 s' → Made (X.env.qual ++ "<lambda>") P ps H H1 →
      s'.heap.get? f = some (PySem.W.kla_obj "<lambda>" (X.env.qual ++ "<lambda>") params body scope (cloFrom X.env.cells scope.names []) pm c' ctv) → H1 f = none → f ∉ frs X.stack → H1 c' = some (CodeO c' (X.env.qual ++ "<lambda>")) → Q (.ref f) s') :
    wpAny (model X.prog X.w) X.A (eval (.Lambda params body scope pos) X.env) Q E s := by
  obtain ⟨hP, ht, ha⟩ := hT
  have at_P : s.heap.get? P = some { cls := .none, data := .fields ps } := I.hok P _ hP
  have away : ∀ f, s.heap.objs.size ≤ f → f ∉ frs X.stack := fun f hf z => by
    rcases List.mem_cons.mp (I.stkSub _ z) with e | e
    · exact Nat.lt_irrefl _ (Nat.lt_of_lt_of_le (e ▸ I.lt) hf)
    · exact I.nofs hf e
  refine PySem.W.kla_eval hdef ?_
  cases hc : codeAmong pos ps.toList with
  | some cv =>
    obtain ⟨c', rfl, hco⟩ := ha pos cv hc
    refine PySem.W.kla_makeFunctionHit (mg := X.mg) (c := c) (P := P) (ps := ps) (closure_ok hfree) I.ok.glob (I.mod.glob.keeps I.bk) hcode (TB.code.keeps I.bk) at_P ht hc (TB.bm.keeps I.bk) fun ctv h' tk hx hsz => ?_
    exact h h'.objs.size c' ((X.mg "__name__").getD .none) ctv H _ (I.kept fun b o e => Heap.get?_push_of_some _ (hx b o e)) (.inl rfl) (Heap.get?_push_size _ rfl) (I.hok.fresh hsz) (away _ hsz) hco
  | none =>
    refine PySem.W.kla_makeFunction (mg := X.mg) (c := c) (P := P) (ps := ps) (closure_ok hfree) I.ok.glob (I.mod.glob.keeps I.bk) hcode (TB.code.keeps I.bk) at_P ht hc TB.gP (TB.bm.keeps I.bk) fun c' ctv h' tk hx hge hlt hrec htb => ?_
    obtain ⟨c2, oc, vs, t, e2, hoc, hd, hv⟩ := hrec
    cases e2
    have hsz : s.heap.objs.size ≤ h'.objs.size := Nat.le_trans hge (Nat.le_of_lt hlt)
    have nC : H c' = none := I.hok.fresh hge
    have nP : c' ≠ P := Ne.symm (ne_of_none hP nC)
    have J := inv_table (t' := tk) (more := #[rawInt pos.line, rawInt pos.col, .ref c']) (q := X.env.qual ++ "<lambda>") (h' := h'.push (PySem.W.kla_obj "<lambda>" (X.env.qual ++ "<lambda>") params body scope (cloFrom X.env.cells scope.names []) ((X.mg "__name__").getD .none) c' ctv)) I hP
      (fun b o hb e => Heap.get?_push_of_some _ (hx b o hb e)) (Heap.get?_push_of_some _ htb) hge ⟨oc, vs, t, Heap.get?_push_of_some _ hoc, hd, hv⟩
    have eL : (ps ++ #[rawInt pos.line, rawInt pos.col, .ref c']).toList = ps.toList ++ [rawInt pos.line, rawInt pos.col, .ref c'] := by simp
    refine h h'.objs.size c' ((X.mg "__name__").getD .none) ctv _ _ J (.inr ⟨c', ps ++ #[rawInt pos.line, rawInt pos.col, .ref c'], nC, nP, rfl, by rw [eL]; exact PySem.TriplesOk_snoc _ _ _ _ ht, fun p' cv hcv => ?_⟩) (Heap.get?_push_size _ rfl) ?_ (away _ hsz) upd_same
    · rw [eL] at hcv
      exact among_app _ ht hcv
    · rw [upd_ne (Nat.ne_of_gt hlt), upd_ne (Nat.ne_of_gt (Nat.lt_of_lt_of_le (Heap.lt_size at_P) hsz))]
      exact I.hok.fresh hsz
end
def tLam3 (P : Addr) (q : Str) (TT : (XK → Hp → VK → Prop) → Hp → VK → Prop) (t : XK → TE) : TE := fun σ H Q => ∃ ps, TabOk H P q ps ∧ ∀ H1, Made q P ps H H1 → TT (fun E H' Q' => t E σ H' Q') H1 Q
section
variable {X : Cx}
/-- x(lambda: body) -/
theorem pe_lamcall3 {TT : (XK → Hp → VK → Prop) → Hp → VK → Prop} {x a : Str} {g c P : Addr} {k : Nat} {pg : Arguments} {bg : List Stmt} {sg : Scope} {dV kV doc pm cdv ct oc : Value} {an od : Option Addr} {osl : Array (Option Value)} {Ng : List Str}
    {params : Arguments} {body : Expr} {scope : Scope} {t : XK → TE} {p lpos pos : Pos} (hg : Gl X x) (hm : X.mg x = some (.ref g)) (hk : PySem.W.keepIn X.K (.ref g) = true)
    (lk : X.K.lookup g = some ⟨oc, od, .func (PySem.W.fnOf x x pg bg sg dV kV doc pm an cdv ct), osl⟩) (hcg : PySem.W.codeIn X.K cdv x = true) (hb : L2.Binds X.K (PySem.W.fnOf x x pg bg sg dV kV doc pm an cdv ct) [a] []) (Sg : FnScope Ng [a] sg) (hNg : Ng[0]? = some a) (hva : Vis sg a)
    (hG : GivesTo X Ng x sg g cdv bg a (X.env.qual ++ "<lambda>") TT)
    (TB : TabB X.base X.mg c P) (hcode : X.env.code = .ref c) (hr : Room (k + 2) X.A) (L : LamS X.env.scope scope) (hdef : defaultsOf params X.env = ([], []))
    (hbind : ∀ (q : Str) (cl : List (Str × Addr)) (pm cv ctv : Value), bindArgs (PySem.W.kla_fn "<lambda>" q params body scope cl pm cv ctv) ⟨[], []⟩ = pure [])
    (hbody : ∀ (A : Around) (outer : List PySem.Env) (s : Shared) (H : Hp) (E : XK) (f c' : Addr), Room k (A.deeper (lamEnv X scope s.heap.objs.size f c')) → PE (lamCx X A outer s H E scope f c') body (t E))
    (hdb : (x == ("__debug__" : Str)) = false := by decide) (hd : (a == ("__debug__" : Str)) = false := by decide) (hcd : (a == ("__classdict__" : Str)) = false := by decide) :
    PE X (.Call (.Name x p) [.Lambda params body scope lpos] [] pos) (tLam3 P (X.env.qual ++ "<lambda>") TT t) := by
  refine ⟨fun pins s σ H Q I h => ?_⟩
  obtain ⟨ps, hT, h⟩ := h
  refine wpAny_Call_Name_kw (ld_glob I hg hm ?_ hdb)
  refine PySem.W.callWith_K (h₀ := X.base) I.ok.mod.kin hk ?_ (by rfl) (by rfl)
  show wpAny _ _ (spliced ((false, eval (.Lambda params body scope lpos) X.env) :: backTo pos (starEach [] X.env))) _ _ s
  refine Calls.spliced_cons (make3 I TB hcode hT hdef (L.has I.ok) fun f c' pm' ctv H1 s' I1 md hf hfn hfr hco => Calls.spliced_nil ⟨I1.kIn, ?_⟩)
  have run : codeAny (model X.prog X.w) X.A (.call (.ref g) ⟨[.ref f], []⟩) (CR C8.CX0 X.stack X.prog X.w H1 s' Q C8.E0) s' := by
    refine run_ofS (N := Ng) (ps := [a]) (us := [.ref f]) (vs := [.ref f]) lk hcg Sg hr I1.env0 (hb s' [.ref f] I1.kIn rfl) (.cons rfl .nil) rfl fun hr' => ?_
    obtain ⟨t', ht', hq'⟩ := hG f c' s' H1 Q (fun E H' Q' => t E σ H' Q') (fun W pn xe E p1 p2 tk hW => pe_act (i := 0) I1 L hf hfn hfr (hbind _ _ _ _ _) tk hW hr' (fun A outer s H hr2 => hbody A outer s H E f c' hr2) hNg hva hd hcd) hco (h H1 md)
    exact ⟨t', ht'.nox, hq'⟩
  refine wpAny_call (codeAny_mono run fun r s2 hq => ?_)
  cases r with
  | error e => exact (show False from hq).elim
  | ok fl =>
    cases fl with
    | ret u => exact I1.after hq
    | next => exact False.elim hq
    | brk => exact False.elim hq
    | cont => exact False.elim hq
end
end LamY

set_option Elab.async false
set_option linter.all false
set_option maxRecDepth 100000
namespace DL
open PySem PySem.Spec PyProof.Rows L2 LamX LamY
variable [TabL]
section
variable {K : PySem.W.Frag} {te : TE} {ρ : Env} {Q : D → Env → Prop}
/-- what the def that gets the lambda makes of it -/
def EvL (K : PySem.W.Frag) (TT : (XK → Hp → VK → Prop) → Hp → VK → Prop) (t : XK → TE) (ρ : Env) (Q : D → Env → Prop) : Prop := ∀ F G H σ, RE K F G H σ ρ → ∀ Q' : VK,
  (∀ v d ρ' G' H', Ex G G' → RE K F G' H' σ ρ' → Rep K G' v d → Q d ρ' → Q' v H') → TT (fun E H' Q' => t E σ H' Q') H Q'
theorem fst_inj {α β : Type} : ∀ {l : List (α × β)}, (l.map (·.1)).Nodup → ∀ {a b : α × β}, a ∈ l → b ∈ l → a.1 = b.1 → a = b
  | [], _, _, _, m, _, _ => by cases m
  | x :: l, nd, a, b, ma, mb, e => by
    rw [List.map_cons, List.nodup_cons] at nd
    rcases List.mem_cons.mp ma with ea | ma2
    · rcases List.mem_cons.mp mb with eb | mb2
      · rw [ea, eb]
      · exact absurd (List.mem_map.mpr ⟨b, mb2, by rw [← e, ea]⟩) nd.1
    · rcases List.mem_cons.mp mb with eb | mb2
      · exact absurd (List.mem_map.mpr ⟨a, ma2, by rw [e, eb]⟩) nd.1
      · exact fst_inj nd.2 ma2 mb2 e
theorem upd_comm {H : Hp} {a b : Addr} {x y : HO} (h : a ≠ b) : upd (upd H a x) b y = upd (upd H b y) a x := by
  funext z
  by_cases h1 : z = a
  · subst h1; rw [upd_ne h, upd_same, upd_same]
  · by_cases h2 : z = b
    · subst h2; rw [upd_same, upd_ne h1, upd_same]
    · rw [upd_ne h2, upd_ne h1, upd_ne h1, upd_ne h2]
theorem ew_lam {P : Addr} {q : Str} {TT : (XK → Hp → VK → Prop) → Hp → VK → Prop} {t : XK → TE} (hm : (P, q) ∈ TabL.tabs) (h : EvL K TT t ρ Q) : EvW K (tLam3 P q TT t) ρ Q := fun F G H σ R Q' k => by
  obtain ⟨hG, hF, ps, hP, ht, ha⟩ := R.wd.tb _ hm
  refine ⟨ps, ⟨hP, ht, fun pos cv hc => ?_⟩, fun H1 md => ?_⟩
  · obtain ⟨c, e1, e2⟩ := ha pos cv hc
    exact ⟨c, e1, R.wd.g _ _ e2⟩
  rcases md with rfl | ⟨c, ps', hc, hcP, rfl, ht', ha'⟩
  · exact h F G H1 σ R Q' k
  · have hGc := R.wd.g.none hc
    have hP' : H P = some (.tbl ps) := hP
    have hGP : G P = none := hG
    have hFP : F P = none := hF
    have R1 := R.new (o := CodeO c q) hc
    have nP : ∀ {a : Addr} {o : HO}, H a = some o → NT o → a ≠ P := fun ho nt z => by
      rw [z, hP'] at ho; exact nt.2 _ (Option.some.inj ho).symm
    have R2 : RE K F (upd G c (CodeO c q)) (upd (upd H c (CodeO c q)) P (.tbl ps')) σ ρ := by
      refine ⟨⟨fun a o e => ?_, fun a o e => ?_, R1.wd.fg, R1.wd.ft, fun u hu => ?_⟩, R1.sl.step (Ex.refl _) (fun a m => ?_), R1.nd⟩
      · rw [upd_ne (ne_of_none e hFP)]; exact R1.wd.f a o e
      · have ne : a ≠ P := fun z => by rw [z, upd_ne (Ne.symm hcP), hGP] at e; cases e
        rw [upd_ne ne]; exact R1.wd.g a o e
      · by_cases eu : u.1 = P
        · have eq : u = (P, q) := by
            exact fst_inj TabL.nd hu hm eu
          subst eq
          refine ⟨by rw [upd_ne (Ne.symm hcP)]; exact hGP, hFP, ps', upd_same, ht', fun pos cv hcv => ?_⟩
          rcases ha' pos cv hcv with z | z
          · obtain ⟨c0, e1, e2⟩ := ha pos cv z
            exact ⟨c0, e1, Ex.new hGc _ _ e2⟩
          · exact ⟨c, z, upd_same⟩
        · obtain ⟨g1, g2, qs, g3, g4, g5⟩ := R1.wd.tb u hu
          exact ⟨g1, g2, qs, by rw [upd_ne eu]; exact g3, g4, g5⟩
      · obtain ⟨h1, _, u, hu, nt⟩ := R.sl.own m
        refine ⟨upd_ne (nP hu nt), ?_⟩
        rw [upd_ne (ne_of_none hu hc)]; exact h1
    rw [upd_comm hcP] at R2
    exact h F _ _ σ R2 Q' fun v d ρ' G' H' e R' hv q => k v d ρ' G' H' ((Ex.new hGc).trans e) R' hv q
end
end DL

set_option Elab.async false
set_option linter.all false
set_option maxRecDepth 100000
set_option maxHeartbeats 2000000
/-! try: return (told, work()) / except x as e: return (row, e.f) -/
namespace LamY
open PySem PySem.Spec PyProof.Rows L2 LamX
def TTried (K : PySem.W.Frag) (CS : Addr) (f told row : Str) : (XK → Hp → VK → Prop) → Hp → VK → Prop := fun tl H Q =>
  tl (fun cls d H' => ∃ b, PySem.W.exmOne K cls (.ref CS) = some b ∧ (b = true → cls = .ref CS ∧ ∃ (dd : Addr) (fs : List (Str × V)) (v : V), d = some dd ∧ H' dd = some (.xd fs) ∧ fs.lookup f = some v ∧ ∀ p, H' p = none → Q (.ref p) (upd H' p (.tup [.str row, v]))) ∧ (b = false → False)) H
    (fun v H' => [V.str told, v].length ≤ sizeLine ∧ ∀ p, H' p = none → Q (.ref p) (upd H' p (.tup [.str told, v])))
/-- a name that is bound, if the state has its slot -/
def tVarW (i : Nat) (a : Addr) : TE := fun σ H Q => (i < σ.length → σ[i]? = some (some (.ref a))) ∧ Q (.ref a) H
theorem pe_varW {X : Cx} {i : Nat} {a : Addr} {n : Str} {pos : Pos} (hi : X.N[i]? = some n) (hv : Vis X.env.scope n) (hd : (n == ("__debug__" : Str)) = false) (hc : (n == ("__classdict__" : Str)) = false) : PE X (.Name n pos) (tVarW i a) := by
  refine ⟨fun pins s σ H Q I h => ?_⟩
  obtain ⟨h1, h2⟩ := h
  have hl : i < σ.length := by rw [I.len]; exact (List.getElem?_eq_some_iff.mp hi).1
  exact (pe_var (pos := pos) (i := i) hi hv hd hc).run pins s σ H Q I ⟨.ref a, h1 hl, h2⟩
section
variable {X : Cx}
theorem tried_gives {Ng : List Str} {x a e n q f told row : Str} {sg : Scope} {g CS : Addr} {cdg : Value} {i j1 j2 kt kt2 : Nat} {p1 p2 p3 p4 p5 p6 p7 p8 p9 p10 p11 p12 p13 : Pos} (T : XfC X.K CS) (hno : PySem.W.findIn X.K (.ref CS) f = some none)
    (hge : sg.names.lookup e = some .globalImplicit) (hme : X.mg e = some (.ref CS)) (hde : (e == ("__debug__" : Str)) = false) (hN : Ng.Nodup) (hi : Ng[i]? = some n) (hln : sg.names.lookup n = some .local) (hnd : (n == ("__debug__" : Str)) = false) (hnc : (n == ("__classdict__" : Str)) = false)
    (h0 : ∀ f : Addr, (L2.start Ng [V.ref f])[0]? = some (some (V.ref f))) (hlen : ∀ f : Addr, i < (L2.start Ng [V.ref f]).length) :
    GivesTo X Ng x sg g cdg [.Try [.Return (some (.Tuple [.Constant (.str told) j1 p1, .Call (.Name a p2) [] [] p3] kt p4)) p5] [.ExceptHandler (some (.Name e p6)) (some n) [.Return (some (.Tuple [.Constant (.str row) j2 p7, .Attribute (.Name n p8) f p9] kt2 p10)) p11] p12] [] [] p13] a q (TTried X.K CS f told row) := by
  intro fl c' s H Q tl act hc h
  have hgl : Gl (cxOf C8.CX0 X.prog X.w X.K X.mg X.base Ng x sg g cdg X.A X.stack s H C8.E0).nox e := hge
  refine ⟨_, pss_one (ps_try_as (X := (cxOf C8.CX0 X.prog X.w X.K X.mg X.base Ng x sg g cdg X.A X.stack s H C8.E0).nox) (c := .ref CS) (i := i)
      (tb := fun W D σ H => ∃ Ech : XK, (∀ cls d σ' H', Ech cls d H' → W cls d σ' H') ∧ σ[0]? = some (some (.ref fl)) ∧ H c' = some (CodeO c' q) ∧ tl Ech H (fun v H' => [V.str told, v].length ≤ sizeLine ∧ ∀ p, H' p = none → D.rt (.ref p) (upd H' p (.tup [.str told, v]))))
      (ts := fun a cls d => tRet (tTup (tCons (tC (.str row)) (tCons (tXf a cls d CS f (tVarW i a)) tNil))))
      rfl rfl hN hi hln ⟨hgl, hde, .inl hme⟩ LamX.takes0 (fun W pn xe tk _ => ?_) (fun a oe cls d pn hz hf => pss_one (ps_ret (pe_tup (pa_cons pe_str (pa_cons (pe_xf T hno hz hf (pe_varW (a := a) hi (.inl hln) hnd hnc)) pa_nil)))))), ?_⟩
  · refine ⟨fun pins s' σ H' D I h' => ?_⟩
    obtain ⟨Ech, hW, h1, h2, h3⟩ := h'
    have hp := act W pn xe Ech p2 p3 tk hW
    have hq : PSs ((cxOf C8.CX0 X.prog X.w X.K X.mg X.base Ng x sg g cdg X.A X.stack s H C8.E0).tr pn xe) [.Return (some (.Tuple [.Constant (.str told) j1 p1, .Call (.Name a p2) [] [] p3] kt p4)) p5] _ := pss_one (ps_ret (pe_tup (pa_cons pe_str (pa_cons hp pa_nil))))
    exact hq.run pins s' σ H' D I ⟨h1, h2, h3⟩
  · refine ⟨_, fun cls d σ' H' hx => ?_, h0 fl, hc, h⟩
    obtain ⟨b, e1, e2, e3⟩ := hx
    refine ⟨b, e1, fun hb a ha => ?_, fun hb => e3 hb⟩
    obtain ⟨ec, dd, fs, v, ed, exd, el, eq⟩ := e2 hb
    exact ⟨fun hl => List.getElem?_set_self (by simpa using hl), rfl, ec, dd, fs, v, ed, exd, el, by show 2 ≤ sizeLine; decide, eq⟩
end
end LamY

set_option Elab.async false
set_option linter.all false
set_option maxRecDepth 100000
namespace DL
open PySem PySem.Spec PyProof.Rows L2 LamX LamY
variable [TabL]
section
variable {K : PySem.W.Frag} {ρ : Env} {Q : D → Env → Prop}
/-- own things hidden -/
def hide : Sl → Sl
  | .sh d => .sh d
  | _ => .un
theorem ownA_hide : ∀ ρ : Env, ownA (ρ.map hide) = []
  | [] => rfl
  | r :: ρ => by
    rw [List.map_cons, ownA_cons, ownA_hide ρ]
    cases r <;> rfl
/-- while a lambda runs, what is own stands in the frame -/
theorem RE.hid {F G H : Hp} {σ : L2.St} (R : RE K F G H σ ρ) : RE K (addF F H (ownA ρ)) G H σ (ρ.map hide) := by
  refine ⟨R.wdF (fun _ m => m), slots_map R.sl (fun i s r hs hr q => ?_), by rw [ownA_hide]; exact List.nodup_nil⟩
  cases r with
  | un => trivial
  | sh d => exact q
  | own a d => trivial
  | drw a => trivial
  | two p q' xs ys => trivial
theorem el_tried {C f told row : Str} {t : XK → TE} (hex : PySem.W.exmOne K (.ref (He.ga K C)) (.ref (He.ga K C)) = some true)
    (h : ∀ W, EvX K (t W) W (ρ.map hide) (fun d ρ1 => Q (.tup [.str told, d]) ρ) (fun C' f' d => C' = C ∧ f' = f ∧ Q (.tup [.str row, d]) ρ)) : EvL K (TTried K (He.ga K C) f told row) t ρ Q := fun F G H σ R Q' k => by
  refine h _ _ G H σ R.hid (fun C' f' v d dx G' H' e W hx hg hf rv q => ?_) _ fun v d ρ' G' H' e R' hv q => ⟨by show 2 ≤ sizeLine; decide, fun p hp => ?_⟩
  · obtain ⟨rfl, rfl, q⟩ := q
    have R2 := R.back W e
    refine ⟨true, hex, fun _ => ⟨rfl, dx, _, v, rfl, hx, by simp [List.lookup], fun p hp => ?_⟩, fun z => (nomatch z)⟩
    have R3 := R2.new (o := .tup [.str row, v]) hp
    exact k (.ref p) (.tup [.str row, d]) ρ _ _ (e.trans (Ex.new (R2.wd.g.none hp))) R3 (.tup upd_same (.cons (.str _) (.cons (rv.mono (Ex.new (R2.wd.g.none hp))) .nil))) q
  · have R2 := R.back R'.wd e
    have R3 := R2.new (o := .tup [.str told, v]) hp
    exact k (.ref p) (.tup [.str told, d]) ρ _ _ (e.trans (Ex.new (R2.wd.g.none hp))) R3 (.tup upd_same (.cons (.str _) (.cons (hv.mono (Ex.new (R2.wd.g.none hp))) .nil))) q
end
end DL

set_option Elab.async false
set_option linter.all false
set_option maxRecDepth 100000
set_option maxHeartbeats 2000000
/-! sorted of tuples of ints and texts -/
namespace SrtK
open PySem PySem.Spec PyProof.Rows L2 SrtO
/-! ### a stable sort as a function -/
section
variable {α : Type} {lt : α → α → Bool}
def ins (lt : α → α → Bool) (x : α) : List α → List α
  | [] => [x]
  | y :: l => if lt y x = true then y :: ins lt x l else x :: y :: l
def srt (lt : α → α → Bool) : List α → List α
  | [] => []
  | x :: l => ins lt x (srt lt l)
theorem ins_mem {x y : α} : ∀ {l : List α}, y ∈ ins lt x l → y = x ∨ y ∈ l
  | [], h => .inl (List.mem_singleton.mp h)
  | z :: l, h => by
    unfold ins at h
    split at h
    · rcases List.mem_cons.mp h with e | h
      · exact .inr (e ▸ List.mem_cons_self)
      · exact (ins_mem h).imp id (List.mem_cons_of_mem _)
    · exact List.mem_cons.mp h
theorem ins_srtd (O : Swo lt) {x : α} : ∀ {l : List α}, Srtd lt l → Srtd lt (ins lt x l)
  | [], _ => srtd_one x
  | y :: l, h => by
    obtain ⟨h1, h2⟩ := List.pairwise_cons.mp h
    unfold ins
    split
    · rename_i c
      refine List.pairwise_cons.mpr ⟨fun z hz => ?_, ins_srtd O h2⟩
      rcases ins_mem hz with e | hz
      · rw [e]; exact O.asym _ _ c
      · exact h1 z hz
    · rename_i c
      have c' : lt y x = false := by simpa using c
      refine List.pairwise_cons.mpr ⟨fun z hz => ?_, h⟩
      rcases List.mem_cons.mp hz with e | hz
      · rw [e]; exact c'
      · exact O.tr x y z c' (h1 z hz)
theorem ins_stb (O : Swo lt) {x : α} : ∀ {l : List α}, Stb lt (ins lt x l) (x :: l)
  | [] => Stb.refl _
  | y :: l => by
    unfold ins
    split
    · rename_i c
      have ih := ins_stb O (x := x) (l := l)
      refine ⟨(ih.perm.cons y).trans (List.Perm.swap x y l), fun z => ?_⟩
      have hz := ih.cls z
      rw [List.filter_cons, hz, List.filter_cons, List.filter_cons, List.filter_cons]
      cases h1 : eqv lt z y <;> cases h2 : eqv lt z x <;> try rfl
      exfalso
      obtain ⟨a1, a2⟩ := eqv_iff.mp h1
      obtain ⟨b1, b2⟩ := eqv_iff.mp h2
      have := O.tr x z y b1 a2
      rw [c] at this; cases this
    · exact Stb.refl _
theorem srt_srtd (O : Swo lt) : ∀ l : List α, Srtd lt (srt lt l)
  | [] => List.Pairwise.nil
  | x :: l => ins_srtd O (srt_srtd O l)
theorem Stb.symm {l m : List α} (h : Stb lt l m) : Stb lt m l := ⟨h.perm.symm, fun x => (h.cls x).symm⟩
theorem srt_stb (O : Swo lt) : ∀ l : List α, Stb lt (srt lt l) l
  | [] => Stb.refl _
  | x :: l => (ins_stb O).trans (show Stb lt ([x] ++ srt lt l) ([x] ++ l) from (Stb.refl [x]).app (srt_stb O l))
theorem srt_eq (O : Swo lt) {l m : List α} (h1 : Srtd lt m) (h2 : Stb lt m l) : m = srt lt l := stb_uniq O h1 (srt_srtd O l) (h2.trans (Stb.symm (srt_stb O l)))
theorem srt_perm (O : Swo lt) (l : List α) : (srt lt l).Perm l := (srt_stb O l).perm
theorem srt_map {β : Type} {lt' : β → β → Bool} (f : α → β) (h : ∀ x y, lt' (f x) (f y) = lt x y) : ∀ l : List α, srt lt' (l.map f) = (srt lt l).map f
  | [] => rfl
  | x :: l => by
    have key : ∀ l : List α, ins lt' (f x) (l.map f) = (ins lt x l).map f := by
      intro l
      induction l with
      | nil => rfl
      | cons y l ih =>
        rw [List.map_cons, ins, ins, h]
        split
        · rw [ih]; rfl
        · rfl
    rw [List.map_cons, srt, srt_map f h l, key]; rfl
end
/-! ### the order of keys -/
def kLt : Key → Key → Bool
  | .inl i, .inl j => decide (i < j)
  | .inr a, .inr b => decide (a.cps.toList < b.cps.toList)
  | .inl _, .inr _ => true
  | .inr _, .inl _ => false
theorem str_ext {a b : Str} (h : a.cps.toList = b.cps.toList) : a = b := by
  cases a; cases b
  simp only [Str.mk.injEq]
  exact Array.toList_inj.mp h
theorem kLt_asym {x y : Key} (h : kLt x y = true) : kLt y x = false := by
  cases x with
  | inl i => cases y with
    | inl j => simp only [kLt, decide_eq_true_eq, decide_eq_false_iff_not] at h ⊢; omega
    | inr b => rfl
  | inr a => cases y with
    | inl j => cases h
    | inr b =>
      simp only [kLt, decide_eq_true_eq, decide_eq_false_iff_not] at h ⊢
      exact fun z => List.lt_irrefl _ (List.lt_trans h z)
theorem kLt_trans {x y z : Key} (h : kLt x y = true) (g : kLt y z = true) : kLt x z = true := by
  cases x with
  | inl i => cases y with
    | inl j => cases z with
      | inl k => simp only [kLt, decide_eq_true_eq] at h g ⊢; omega
      | inr c => rfl
    | inr b => cases z with
      | inl k => cases g
      | inr c => rfl
  | inr a => cases y with
    | inl j => cases h
    | inr b => cases z with
      | inl k => cases g
      | inr c => simp only [kLt, decide_eq_true_eq] at h g ⊢; exact List.lt_trans h g
theorem kLt_total {x y : Key} (n : x ≠ y) (h : kLt x y = false) : kLt y x = true := by
  cases x with
  | inl i => cases y with
    | inl j =>
      simp only [kLt, decide_eq_true_eq, decide_eq_false_iff_not] at h ⊢
      have : i ≠ j := fun z => n (by rw [z])
      omega
    | inr b => cases h
  | inr a => cases y with
    | inl j => rfl
    | inr b =>
      simp only [kLt, decide_eq_true_eq, decide_eq_false_iff_not] at h ⊢
      by_cases g : b.cps.toList < a.cps.toList
      · exact g
      · exact absurd (congrArg Sum.inr (str_ext (List.le_antisymm (List.not_lt.mp g) (List.not_lt.mp h)))) n
theorem kLt_irr (x : Key) : kLt x x = false := by
  cases h : kLt x x with
  | false => rfl
  | true => rw [kLt_asym h] at h; cases h
def lexK : List Key → List Key → Bool
  | [], [] => false
  | [], _ :: _ => true
  | _ :: _, [] => false
  | x :: xs, y :: ys => if x = y then lexK xs ys else kLt x y
theorem lexK_asym : ∀ {x y : List Key}, lexK x y = true → lexK y x = false
  | [], [], h => by cases h
  | [], _ :: _, _ => rfl
  | _ :: _, [], h => by cases h
  | x :: xs, y :: ys, h => by
    unfold lexK at h ⊢
    by_cases e : x = y
    · rw [if_pos e] at h; rw [if_pos e.symm]; exact lexK_asym h
    · rw [if_neg e] at h; rw [if_neg (Ne.symm e)]; exact kLt_asym h
theorem lexK_tr : ∀ {x y z : List Key}, lexK y x = false → lexK z y = false → lexK z x = false
  | [], [], [], _, _ => rfl
  | [], [], _ :: _, _, _ => rfl
  | [], _ :: _, [], _, h => by cases h
  | [], _ :: _, _ :: _, _, _ => rfl
  | _ :: _, [], _, h, _ => by cases h
  | _ :: _, _ :: _, [], _, h => by cases h
  | x :: xs, y :: ys, z :: zs, h, g => by
    unfold lexK at h g ⊢
    by_cases e : y = x
    · subst e
      rw [if_pos rfl] at h
      by_cases f : z = y
      · rw [if_pos f] at g ⊢; exact lexK_tr h g
      · rw [if_neg f] at g ⊢; exact g
    · rw [if_neg e] at h
      have h' := kLt_total e h
      by_cases f : z = y
      · subst f
        rw [if_neg e]; exact h
      · rw [if_neg f] at g
        have g' := kLt_total f g
        have k := kLt_trans h' g'
        have ne : z ≠ x := fun q => by rw [q, kLt_irr] at k; cases k
        rw [if_neg ne]; exact kLt_asym k
theorem lexK_anti : ∀ {x y : List Key}, lexK x y = false → lexK y x = false → x = y
  | [], [], _, _ => rfl
  | [], _ :: _, h, _ => by cases h
  | _ :: _, [], _, h => by cases h
  | x :: xs, y :: ys, h, g => by
    unfold lexK at h g
    by_cases e : x = y
    · subst e
      rw [if_pos rfl] at h g
      rw [lexK_anti h g]
    · rw [if_neg e] at h
      rw [if_neg (Ne.symm e)] at g
      rw [kLt_total e h] at g; cases g
theorem lexK_swo : Swo lexK := ⟨fun _ _ h => lexK_asym h, fun _ _ _ h g => lexK_tr h g⟩
/-- sorted keys, ascending -/
def srtK (ks : List (List Key)) : List (List Key) := srt lexK ks
/-- which of a tuple's items are ints -/
def isL : Key → Bool
  | .inl _ => true
  | .inr _ => false
def shp (ks : List Key) : List Bool := ks.map isL
/-! ### in the model -/
section
variable {prog : Program} {w : World} {A : Around} {E : Value → Shared → Prop} {s : Shared}
theorem oneLt_strs (c : Bool) {p q : Str} {t u : Tok} {Q : Bool → Shared → Prop} (h : Q (decide (p.cps.toList < q.cps.toList)) s) : wpAny (model prog w) A (oneLt' c (.str p t) (.str q u)) Q E s := by
  cases c with
  | true => exact oneLt_str h
  | false => exact PySem.W.kat_one _ _ (PyProof.Rows.lt_str h)
theorem oneLt_intsC (c : Bool) {p q : Int} {t u : Tok} {Q : Bool → Shared → Prop} (h : Q (decide (p < q)) s) : wpAny (model prog w) A (oneLt' c (.int p t) (.int q u)) Q E s := by
  cases c with
  | true => exact oneLt_int h
  | false => exact PySem.W.kat_one _ _ (PyProof.Rows.lt_int h)
theorem katlex {b : Bool} {Q : Bool → Shared → Prop} : ∀ {ks js : List Key} {us ws : List Value} (i : Nat), Vals (ks.map kV) us → Vals (js.map kV) ws → shp ks = shp js → Q (lexK ks js) s → PySem.W.KatLex prog w A b false Q (us.zip ws) i s
  | [], [], _, _, i, .nil, .nil, _, h => PySem.W.kat_nil h
  | [], _ :: _, _, _, i, _, _, e, h => by cases e
  | _ :: _, [], _, _, i, _, _, e, h => by cases e
  | .inl x :: ks, .inl y :: js, _, _, i, .cons r1 t1, .cons r2 t2, e, h => by
    obtain ⟨a, rfl⟩ := r1
    obtain ⟨c, rfl⟩ := r2
    have e' : shp ks = shp js := (List.cons.inj e).2
    refine PySem.W.kat_cons (SeqAt.EqAt.int_int x a y c prog w _ _ ?_)
    refine PySem.W.kat_go (fun e1 => ?_) (fun e1 => ?_)
    · have ex : x = y := by simpa using e1
      refine PySem.W.kat_yes (katlex (i + 1) t1 t2 e' ?_)
      rw [lexK, if_pos (by rw [ex])] at h; exact h
    · have ex : ¬ x = y := by simpa using e1
      refine PySem.W.kat_no (oneLt_intsC _ ?_)
      rw [lexK, if_neg (fun z => ex (Sum.inl.inj z))] at h; exact h
  | .inr x :: ks, .inr y :: js, _, _, i, .cons r1 t1, .cons r2 t2, e, h => by
    obtain ⟨a, rfl⟩ := r1
    obtain ⟨c, rfl⟩ := r2
    have e' : shp ks = shp js := (List.cons.inj e).2
    refine PySem.W.kat_cons (SeqAt.EqAt.str_str x a y c prog w _ _ ?_)
    refine PySem.W.kat_go (fun e1 => ?_) (fun e1 => ?_)
    · have ex : x = y := by simpa using e1
      refine PySem.W.kat_yes (katlex (i + 1) t1 t2 e' ?_)
      rw [lexK, if_pos (by rw [ex])] at h; exact h
    · have ex : ¬ x = y := by simpa using e1
      refine PySem.W.kat_no (oneLt_strs _ ?_)
      rw [lexK, if_neg (fun z => ex (Sum.inr.inj z))] at h; exact h
  | .inl x :: ks, .inr y :: js, _, _, i, _, _, e, h => by cases (List.cons.inj e).1
  | .inr x :: ks, .inl y :: js, _, _, i, _, _, e, h => by cases (List.cons.inj e).1
/-- v is a tuple of these keys -/
def TupK (h : Heap) (v : Value) (ks : List Key) : Prop := ∃ a o its n, v = .ref a ∧ h.get? a = some o ∧ o.cls = .type "tuple" ∧ o.data = .seq its n ∧ Vals (ks.map kV) its.toList
theorem TupK.keeps {h h' : Heap} {v : Value} {ks : List Key} (t : TupK h v ks) (k : ∀ b o, h.get? b = some o → o.cls = .type "tuple" → h'.get? b = some o) : TupK h' v ks := by
  obtain ⟨a, o, its, n, e, ho, hc, hd, r⟩ := t
  exact ⟨a, o, its, n, e, k _ _ ho hc, hc, hd, r⟩
theorem tup_cmp {vs : List Value} {k : Value → List Key} {sh : List Bool} (hp : ∀ v ∈ vs, TupK s.heap v (k v) ∧ shp (k v) = sh) : Cmp prog w A s (tuples' true) (fun p => p.1 ∈ vs) (lt2 fun v u => lexK (k v) (k u)) := by
  intro p q hm hm'
  obtain ⟨⟨a, o, its, n, e, ho, hc, hd, r⟩, s1⟩ := hp _ hm
  obtain ⟨⟨a', o', its', n', e', ho', hc', hd', r'⟩, s2⟩ := hp _ hm'
  show wpAny (model prog w) A (keyLt' (tuples' true) p.1 q.1) (fun r s' => s' = s ∧ r = lexK (k p.1) (k q.1)) (fun _ _ => False) s
  have kk := katlex (prog := prog) (w := w) (A := A) (s := s) (b := true) (Q := fun r s' => s' = s ∧ r = lexK (k p.1) (k q.1)) 0 r r' (s1.trans s2.symm) ⟨rfl, rfl⟩
  have hl : its.size = its'.size := by
    have l1 := r.length
    have l2 := r'.length
    have l3 := congrArg List.length (s1.trans s2.symm)
    unfold shp at l3
    rw [List.length_map, List.length_map] at l3
    rw [List.length_map] at l1 l2
    have q1 : its.toList.length = its.size := Array.length_toList
    have q2 : its'.toList.length = its'.size := Array.length_toList
    omega
  have hf : (decide (its.size < its'.size)) = false := by rw [hl]; exact decide_eq_false (Nat.lt_irrefl _)
  rw [e, e']
  refine PySem.W.kat_lt ho hd ho' hd' ?_
  rw [hf]
  rw [e, e'] at kk
  exact kk
theorem firstsK {h : Heap} {b : Bool} {sr : List Bool} : ∀ {vs : List Value}, (∀ v ∈ vs, ∃ ks, TupK h v ks ∧ shp ks = b :: sr) → ∃ fs : List Value, PySem.W.KatTups h vs fs ∧ fs.length = vs.length ∧ ∀ f ∈ fs, ∃ M : Model → Prop, (∀ M' : Model, PySem.W.Looks M' h (typeOf f) (.type (if b then "int" else "str")))
  | [], _ => ⟨[], PySem.W.KatTups.nil, rfl, fun _ hm => by simp at hm⟩
  | v :: vs, hp => by
    obtain ⟨fs, h1, h2, h3⟩ := firstsK (vs := vs) fun v' hm => hp v' (List.mem_cons_of_mem _ hm)
    obtain ⟨ks, ⟨a, o, its, n, e, ho, hc, hd, r⟩, hs⟩ := hp v List.mem_cons_self
    subst e
    cases ks with
    | nil => cases hs
    | cons k ks =>
      have hb : isL k = b := (List.cons.inj hs).1
      rw [List.map_cons] at r
      obtain ⟨f, rest, hit, rf⟩ : ∃ f rest, its.toList = f :: rest ∧ RelV (kV k) f := by
        cases hq : its.toList with
        | nil => rw [hq] at r; cases r
        | cons f rest => rw [hq] at r; cases r with | cons r1 _ => exact ⟨f, rest, rfl, r1⟩
      have hf0 : its[0]? = some f := by
        rw [← Array.getElem?_toList, hit]; rfl
      refine ⟨f :: fs, PySem.W.KatTups.cons ho hc hd hf0 h1, by rw [List.length_cons, List.length_cons, h2], fun g hm => ?_⟩
      rcases List.mem_cons.mp hm with rfl | hm
      · refine ⟨fun _ => True, fun M' => ?_⟩
        cases k with
        | inl i => obtain ⟨t, rfl⟩ := rf; subst hb; exact PySem.W.Looks.now
        | inr x => obtain ⟨t, rfl⟩ := rf; subst hb; exact PySem.W.Looks.now
      · exact h3 g hm
theorem tups_sortable {a : Addr} {vs : List Value} {k : Value → List Key} {b : Bool} {sr : List Bool} (h0 : 0 < vs.length) (hp : ∀ v ∈ vs, TupK s.heap v (k v) ∧ shp (k v) = b :: sr) (ha : ∀ o, s.heap.get? a = some o → o.cls ≠ .type "tuple") : SortableO prog w A s a vs fun v u => lexK (k v) (k u) := by
  intro h' keep
  have hp' : ∀ v ∈ vs, TupK h' v (k v) ∧ shp (k v) = b :: sr := fun v hm => ⟨(hp v hm).1.keeps fun b o e c => keep b o (fun z => by subst z; exact ha o e c) e, (hp v hm).2⟩
  obtain ⟨fs, h1, h2, h3⟩ := firstsK fun v hm => ⟨_, hp' v hm⟩
  refine ⟨tuples' true, fun Q E hq => ?_, tup_cmp hp'⟩
  refine PySem.W.kat_kind (T := .type (if b then "int" else "str")) h1 (by omega) (fun f hm => ?_) (by cases b <;> rfl) ?_
  · obtain ⟨_, hh⟩ := h3 f hm
    exact hh _
  · have e : (Value.type (if b then "int" else "str") != Value.type "tuple") = true := by cases b <;> decide +kernel
    rw [e]
    exact hq
theorem swo_on {α β : Type} {lt : β → β → Bool} (O : Swo lt) (f : α → β) : Swo fun x y => lt (f x) (f y) := ⟨fun x y => O.asym (f x) (f y), fun x y z => O.tr (f x) (f y) (f z)⟩
end
end SrtK

set_option Elab.async false
set_option linter.all false
set_option maxRecDepth 100000
set_option maxHeartbeats 2000000
namespace SrtK
open PySem PySem.Spec PyProof.Rows L2 SrtO
theorem kV_inj {x y : Key} (h : kV x = kV y) : x = y := by
  cases x <;> cases y <;> first | (cases h; rfl) | (cases h; done)
theorem kVs_inj : ∀ {x y : List Key}, x.map kV = y.map kV → x = y
  | [], [], _ => rfl
  | [], _ :: _, h => by cases h
  | _ :: _, [], h => by cases h
  | x :: xs, y :: ys, h => by
    have h' := List.cons.inj h
    rw [kV_inj h'.1, kVs_inj h'.2]
open Classical in
noncomputable def keyAt (H : Hp) (v : Value) : List Key := if h : ∃ (ks : List Key) (a : Addr), v = .ref a ∧ H a = some (.tup (ks.map kV)) then h.choose else []
theorem keyAt_eq {H : Hp} {a : Addr} {ks : List Key} (h : H a = some (.tup (ks.map kV))) : keyAt H (.ref a) = ks := by
  have ex : ∃ (ks : List Key) (b : Addr), (Value.ref a) = .ref b ∧ H b = some (.tup (ks.map kV)) := ⟨ks, a, rfl, h⟩
  unfold keyAt
  rw [dif_pos ex]
  obtain ⟨b, e, hb⟩ := ex.choose_spec
  cases e
  rw [h] at hb
  exact (kVs_inj (HO.tup.inj (Option.some.inj hb))).symm
/-- the addresses bs hold tuples of the keys ks -/
def KeysAt (H : Hp) (bs : List Addr) (ks : List (List Key)) : Prop := Paired (fun b k => H b = some (.tup (k.map kV))) bs ks
theorem KeysAt.key {H : Hp} : ∀ {bs : List Addr} {ks : List (List Key)}, KeysAt H bs ks → (bs.map Value.ref).map (keyAt H) = ks
  | _, _, .nil => rfl
  | _, _, .cons h r => by rw [List.map_cons, List.map_cons, keyAt_eq h, KeysAt.key r]
theorem KeysAt.mem {H : Hp} : ∀ {bs : List Addr} {ks : List (List Key)}, KeysAt H bs ks → ∀ v ∈ bs.map Value.ref, ∃ a, v = .ref a ∧ a ∈ bs ∧ H a = some (.tup ((keyAt H v).map kV)) ∧ keyAt H v ∈ ks
  | _, _, .nil, v, m => by cases m
  | _, _, .cons h r, v, m => by
    rw [List.map_cons] at m
    rcases List.mem_cons.mp m with e | m
    · subst e
      exact ⟨_, rfl, List.mem_cons_self, by rw [keyAt_eq h]; exact h, by rw [keyAt_eq h]; exact List.mem_cons_self⟩
    · obtain ⟨a, e, ma, h1, h2⟩ := KeysAt.mem r v m
      exact ⟨a, e, List.mem_cons_of_mem _ ma, h1, List.mem_cons_of_mem _ h2⟩
theorem keysAt_of {H : Hp} : ∀ {out : List Value}, (∀ v ∈ out, ∃ a, v = .ref a ∧ H a = some (.tup ((keyAt H v).map kV))) → ∃ bs : List Addr, out = bs.map Value.ref ∧ KeysAt H bs (out.map (keyAt H))
  | [], _ => ⟨[], rfl, .nil⟩
  | v :: out, h => by
    obtain ⟨bs, e, k⟩ := keysAt_of (out := out) fun u hu => h u (List.mem_cons_of_mem _ hu)
    obtain ⟨a, rfl, ha⟩ := h v List.mem_cons_self
    exact ⟨a :: bs, by rw [List.map_cons, ← e], .cons ha k⟩
theorem sort_core {H : Hp} {bs0 : List Addr} {ks0 : List (List Key)} (k0 : KeysAt H bs0 ks0) {out : List Value} (h1 : Srtd (fun v u => lexK (keyAt H v) (keyAt H u)) out) (h2 : Stb (fun v u => lexK (keyAt H v) (keyAt H u)) out (bs0.map Value.ref)) :
    ∃ bs : List Addr, out = bs.map Value.ref ∧ KeysAt H bs (srtK ks0) ∧ bs.length = bs0.length := by
  obtain ⟨bs, e, k⟩ := keysAt_of (H := H) (out := out) fun v hv => by
    obtain ⟨a, e, _, h, _⟩ := k0.mem v (h2.perm.mem_iff.mp hv)
    exact ⟨a, e, h⟩
  have es : out.map (keyAt H) = srtK ks0 := by
    have z := srt_eq lexK_swo (srtd_map h1) (Stb.map lexK_swo (keyAt H) h2)
    rw [k0.key] at z
    exact z
  rw [es] at k
  refine ⟨bs, e, k, ?_⟩
  have l := h2.perm.length_eq
  rw [e, List.length_map, List.length_map] at l
  exact l
section
variable {X : Cx}
theorem tupK_of {pins : List (Addr × Obj)} {σ : L2.St} {H : Hp} {s : Shared} (I : Inv X pins σ H s) {a : Addr} {ks : List Key} (h : H a = some (.tup (ks.map kV))) : TupK s.heap (.ref a) ks := by
  obtain ⟨_, its, r, o, h1, h2, n, h3⟩ := (show ObjOk X.prog X.w H s.heap a (.tup (ks.map kV)) from I.hok a _ h)
  exact ⟨a, o, its.toArray, n, rfl, h1, h2, h3, by simpa using r⟩
/-- sorted(xs), xs a list of tuples of ints and texts, all of one shape -/
def rSortKL (K : PySem.W.Frag) : List V → Hp → VK → Prop := fun xs H Q => ∃ (a : Addr) (bs0 : List Addr) (ks0 : List (List Key)) (b : Bool) (sr : List Bool), xs = [.ref a] ∧ SqL K H a (bs0.map V.ref) ∧ KeysAt H bs0 ks0 ∧ (∀ k ∈ ks0, shp k = b :: sr) ∧
  ∀ (bs : List Addr) (p : Addr), KeysAt H bs (srtK ks0) → H p = none → Q (.ref p) (upd H p (.lst (bs.map V.ref)))
theorem vals_ref : ∀ bs : List Addr, Vals (bs.map V.ref) (bs.map Value.ref)
  | [] => .nil
  | b :: bs => .cons rfl (vals_ref bs)
theorem vals_ref_inv : ∀ {bs : List Addr} {us : List Value}, Vals (bs.map V.ref) us → us = bs.map Value.ref
  | [], _, r => by cases r; rfl
  | b :: bs, _, r => by
    rw [List.map_cons] at r
    cases r with
    | cons r1 r2 =>
      cases r1
      rw [List.map_cons, vals_ref_inv r2]
theorem cr_sortKL : CallR X (.builtin "sorted") (rSortKL X.K) := by
  intro pins s σ H vs us Q I r h
  obtain ⟨a, bs0, ks0, b, sr, rfl, hs, k0, hsh, q⟩ := h
  obtain ⟨its, rv, hl, hz⟩ := I.list hs
  rw [Vals.ref1 r]
  have ei := vals_ref_inv rv
  subst ei
  rw [List.length_map] at hz
  refine SrtO.sorted_ord (swo_on lexK_swo (keyAt H)) hl.isList (by rw [List.length_map]; exact hz) (fun h2 h₁ a' ha kk => ?_) fun out h1 h2 => ?_
  · refine tups_sortable (b := b) (sr := sr) (s := { s with heap := h₁ }) (by omega) (fun v hm => ?_) fun o e => ?_
    · obtain ⟨c, e, _, hc, hk⟩ := k0.mem v hm
      subst e
      exact ⟨(tupK_of I hc).keeps fun b o e _ => (kk b o e).2, hsh _ hk⟩
    · have e' : some o = some (seqObj "list" (bs0.map Value.ref).toArray 0) := e.symm.trans ha
      cases e'
      intro c
      exact absurd (Value.type.inj c) (by decide)
  · obtain ⟨bs, e, k, hlen⟩ := sort_core k0 h1 h2
    obtain ⟨n, hn⟩ := PyProof.Rows.sortedAll_at s.heap (bs0.map Value.ref) out.toArray
    refine ⟨.ref _, upd H (s.heap.objs.size + 1) (.lst (bs.map V.ref)), I.laid (t' := s.toks) (fun _ _ => PyProof.Rows.sortedAll_old) (Nat.le_succ _) ⟨by rw [List.length_map, hlen]; exact hz, out, n, by rw [e]; exact vals_ref bs, hn⟩, rfl, q bs _ k (I.hok.fresh (Nat.le_succ _))⟩
/-- sorted(d), d a dict with such keys -/
def rSortKD : List V → Hp → VK → Prop := fun xs H Q => ∃ (a : Addr) (kvs : List (List Key × V)) (b : Bool) (sr : List Bool), xs = [.ref a] ∧ Rd H a (.dT kvs) ∧ (∀ k ∈ kvs.map (·.1), shp k = b :: sr) ∧
  ∀ (bs : List Addr) (p : Addr), KeysAt H bs (srtK (kvs.map (·.1))) → H p = none → Q (.ref p) (upd H p (.lst (bs.map V.ref)))
theorem keysAt_isKeys {H : Hp} : ∀ {kvs : List (List Key × V)} {bs : List Addr}, IsKeys H kvs bs → KeysAt H bs (kvs.map (·.1))
  | _, _, .nil => .nil
  | _, _, .cons h r => .cons h (keysAt_isKeys r)
theorem cr_sortKD (hc : X.calm = true) : CallR X (.builtin "sorted") rSortKD := by
  intro pins s σ H xs us Q I r h
  obtain ⟨d, kvs, b, sr, rfl, hd, hsh, q⟩ := h
  rw [Vals.ref1 r]
  obtain ⟨z, hs, ks, pr, o, es, ep, ho, hx, hdt, he, hn⟩ := (show ObjOk X.prog X.w H s.heap d (.dT kvs) from hd.ok I.hok)
  have l1 : es.size = ks.length := size_of_entries he
  have l2 : kvs.length = ks.length := Paired.length pr
  have k0 : KeysAt H (ks.map fun x => x.2.1) (kvs.map (·.1)) := keysAt_isKeys (isKeys_of pr)
  refine Calls.call_function_entry PyProof.Rows.kind_sorted PyProof.Rows.plain_sorted PyProof.Rows.entry_sorted (PyProof.Rows.args_sorted1 _) ?_
  unfold Builtin.«sorted»
  refine wpAny_bind (m := checkCount "sorted" 1 1 _) (wpAny_pure ?_)
  refine wpAny_bind (PySem.W.kdu_collect (A := X.A.in1) (kdl_raw hs hx hdt) (I.ok.hd hc) ho (by omega) fun h' tk acc' kp it => ?_)
  have ea : acc'.toList = (ks.map fun x => x.2.1).map Value.ref := by
    have hl : acc'.toList.length = ks.length := by rw [Array.length_toList, it.1]; exact l1
    apply List.ext_getElem?
    intro j
    rw [List.getElem?_map, List.getElem?_map]
    cases hj : acc'.toList[j]? with
    | none =>
      have h1 := List.getElem?_eq_none_iff.mp hj
      rw [List.getElem?_eq_none (by omega)]
      all_goals rfl
    | some v =>
      obtain ⟨en, hen, hv⟩ := it.2 j v (by rw [← Array.getElem?_toList]; exact hj)
      have qe := entry_at he j
      rw [hen] at qe
      cases hb : ks[j]? with
      | none =>
        rw [hb] at qe
        exact nomatch (show some en = none from qe)
      | some b =>
        rw [hb] at qe
        have e2 : en = entryOfKey (tupleKind (mixKind X.prog X.w)) b := Option.some.inj qe
        rw [hv, e2]
        all_goals rfl
  have hz : acc'.toList.length ≤ sizeLine := by rw [ea, List.length_map, List.length_map]; omega
  have I1 : Inv X pins σ H { s with heap := h', toks := tk } := I.kept kp
  refine wpAny_bind (wpAny_newList ?_ hz)
  have hoL : (h'.push (seqObj "list" acc'.toList.toArray 0)).get? h'.objs.size = some (seqObj "list" acc'.toList.toArray 0) := Heap.get?_push_size _ rfl
  show wpAny _ _ _ _ _ { s with heap := h'.push (seqObj "list" acc'.toList.toArray 0), toks := tk }
  refine wpAny_bind (wpAny_holding (wpAny_call_entry PyProof.Rows.slot_list_sort ⟨_, hoL, rfl⟩ PyProof.Rows.entry_list_sort
    (SrtO.list_sort_ord (s := { s with heap := h'.push (seqObj "list" acc'.toList.toArray 0), toks := tk }) (swo_on lexK_swo (keyAt H)) hoL hz (fun h2 => ?_) fun out h1 h2 => ⟨_, rfl, ?_⟩)
    (PyProof.Rows.args_list_sort _)))
  · refine tups_sortable (b := b) (sr := sr) (by omega) (fun v hm => ?_) fun o e => ?_
    · rw [ea] at hm
      obtain ⟨c, e, _, hc, hk⟩ := k0.mem v hm
      subst e
      exact ⟨(tupK_of I1 hc).keeps fun b o e _ => Heap.get?_push_of_some _ e, hsh _ hk⟩
    · have e' : some o = some (seqObj "list" acc'.toList.toArray 0) := e.symm.trans hoL
      cases e'
      intro c
      exact absurd (Value.type.inj c) (by decide)
  · rw [ea] at h2
    obtain ⟨bs, e, k, hlen⟩ := sort_core k0 h1 h2
    obtain ⟨e', he'⟩ := PyProof.Rows.sortedHeap_at (vs := acc'.toList) (out := out.toArray) hoL
    refine wpAny_pure ⟨_, rfl, .ref h'.objs.size, upd H h'.objs.size (.lst (bs.map V.ref)), I1.laid (t' := tk) (fun b u e => ?_) (Nat.le_refl _)
      (show ObjOk X.prog X.w _ _ _ (.lst (bs.map V.ref)) from ⟨by rw [List.length_map, hlen, List.length_map]; omega, out, e', by rw [e]; exact vals_ref bs, he'⟩), rfl, q bs _ k (I1.hok.fresh (Nat.le_refl _))⟩
    have hb : b < h'.objs.size := Heap.lt_size e
    rw [PyProof.Rows.sortedHeap_old (Nat.ne_of_lt hb) (by rw [size_push']; exact Nat.lt_succ_of_lt hb)]
    exact Heap.get?_push_of_some _ e
end
end SrtK

set_option Elab.async false
set_option linter.all false
set_option maxRecDepth 100000
set_option maxHeartbeats 2000000
namespace SrtK
open PySem PySem.Spec PyProof.Rows L2 SrtO
def mergeT {α : Type} (kvs more : List (List Key × V)) : List (List Key × V) := more.foldl (fun acc kv => putK acc kv.1 kv.2) kvs
theorem putK_len {κ : Type} [DecidableEq κ] (kvs : List (κ × V)) (k : κ) (v : V) : (putK kvs k v).length ≤ kvs.length + 1 := by
  unfold putK
  split
  · rw [List.length_map]; omega
  · simp
section
variable {X : Cx}
/-- dict(xs), xs a list of pairs of a tuple and a value -/
def rDictT (K : PySem.W.Frag) : List V → Hp → VK → Prop := fun xs H Q => ∃ (a : Addr) (ps : List Addr) (kvs : List (List Key × Addr × V)), xs = [.ref a] ∧ SqL K H a (ps.map V.ref) ∧ Paired (fun p kv => H p = some (.tup [.ref kv.2.1, kv.2.2]) ∧ H kv.2.1 = some (.tup (kv.1.map kV))) ps kvs ∧
  ∀ p, H p = none → Q (.ref p) (upd H p (.dT ((kvs.map fun x => (x.1, x.2.2)).foldl (fun acc kv => putK acc kv.1 kv.2) [])))
theorem pairs_t {pins : List (Addr × Obj)} {σ : L2.St} {H : Hp} {s : Shared} (I : Inv X pins σ H s) : ∀ {ps : List Addr} {kvs : List (List Key × Addr × V)}, Paired (fun p kv => H p = some (.tup [.ref kv.2.1, kv.2.2]) ∧ H kv.2.1 = some (.tup (kv.1.map kV))) ps kvs →
    ∃ prs : List (List Key × Addr × Value), Paired (fun (p : List Key × Addr × V) (q : List Key × Addr × Value) => p.1 = q.1 ∧ p.2.1 = q.2.1 ∧ RelV p.2.2 q.2.2) kvs prs ∧ prs.length = ps.length ∧ ∀ (j : Nat) (q : List Key × Addr × Value), prs[j]? = some q → ∃ b : Addr, ps[j]? = some b ∧ s.heap.IsTuple b #[.ref q.2.1, q.2.2] ∧ H q.2.1 = some (.tup (q.1.map kV))
  | _, _, .nil => ⟨[], .nil, rfl, fun j q e => by simp at e⟩
  | _, _, .cons (a := p) (b := kv) h t => by
    obtain ⟨prs, r, hl, hp⟩ := pairs_t I t
    obtain ⟨h, hk⟩ := h
    obtain ⟨_, its, rv, o, h1, h2, n, h3⟩ := (show ObjOk X.prog X.w H s.heap p (.tup [.ref kv.2.1, kv.2.2]) from I.hok p _ h)
    obtain ⟨u, y, ei, ru, ry⟩ := vals2 rv
    subst ei
    cases ru
    refine ⟨(kv.1, kv.2.1, y) :: prs, .cons ⟨rfl, rfl, ry⟩ r, by rw [List.length_cons, List.length_cons, hl], fun j q e => ?_⟩
    cases j with
    | zero =>
      have e' : (kv.1, kv.2.1, y) = q := Option.some.inj e
      subst e'
      exact ⟨p, rfl, ⟨o, h1, h2, n, h3⟩, hk⟩
    | succ j =>
      obtain ⟨b, e1, e2, e3⟩ := hp j q (by simpa using e)
      exact ⟨b, by simpa using e1, e2, e3⟩
theorem kt_all {H : Hp} : ∀ {kvs : List (List Key × Addr × V)} {prs : List (List Key × Addr × Value)} {acc : List (List Key × V)} {xs : List (List Key × Addr × Value)}, Paired (fun (p : List Key × Addr × V) (q : List Key × Addr × Value) => p.1 = q.1 ∧ p.2.1 = q.2.1 ∧ RelV p.2.2 q.2.2) kvs prs →
    (∀ q ∈ prs, H q.2.1 = some (.tup (q.1.map kV))) → KT H acc xs → KT H ((kvs.map fun x => (x.1, x.2.2)).foldl (fun acc kv => putK acc kv.1 kv.2) acc) (storedAllH xs prs)
  | _, _, acc, xs, .nil, _, r => r
  | _, _, acc, xs, .cons (a := p) (b := q) h t, hk, r => by
    obtain ⟨e1, e2, e3⟩ := h
    have hq := hk q List.mem_cons_self
    have := kt_all (H := H) t (fun z hz => hk z (List.mem_cons_of_mem _ hz)) (r.put q.1 hq e3)
    rw [List.map_cons, List.foldl_cons, e1]
    exact this
theorem call_dictT (hc : X.calm = true) (hu : X.A.units + 64 < cLine) : CallR X (.type "dict") (rDictT X.K) := by
  intro pins s σ H xs us Q I r q
  obtain ⟨a, ps, kvs, rfl, hq, hp, q⟩ := q
  rw [Vals.ref1 r]
  obtain ⟨its, rv, pl, hz⟩ := I.list hq
  have ei := vals_ref_inv rv
  subst ei
  rw [List.length_map] at hz
  obtain ⟨prs, rel, hl, hpr⟩ := pairs_t I hp
  obtain ⟨o, n, ho, hcl, hd, hdat⟩ := pl
  have hks : ∀ x ∈ prs, H x.2.1 = some (.tup (x.1.map kV)) := fun x hx => by
    obtain ⟨j, hj⟩ := List.mem_iff_getElem?.mp hx
    obtain ⟨_, _, _, h⟩ := hpr j x hj
    exact h
  let vps : List (Value × Value) := prs.map fun x => (Value.ref x.2.1, x.2.2)
  have hvl : vps.length = ps.length := by rw [List.length_map]; exact hl
  have hat : ∀ (j : Nat) (k v : Value), vps[j]? = some (k, v) → ∃ x, prs[j]? = some x ∧ k = .ref x.2.1 ∧ v = x.2.2 := fun j k v e => by
    rw [List.getElem?_map] at e
    obtain ⟨x, h1, h2⟩ := Option.map_eq_some_iff.mp e
    cases h2
    exact ⟨x, h1, rfl, rfl⟩
  refine call_dict_pairsH (knd := tupleKind (mixKind X.prog X.w)) (ps := prs) (PairArg.list a (ps.map Value.ref).toArray (fun j => ps.getD j 0) vps) (I.ok.hd hc) ?_ ⟨⟨o, n, ho, hcl, hd, hdat⟩, ?_, fun j k v e => ?_⟩ ⟨?_, fun i key v e => ?_⟩ (fun h' kk x hx => ?_) (by rw [hvl]; exact hz) fun h' tk hd' k => ?_
  · show X.A.in1.in1.units < cLine
    show X.A.units + 1 + 1 < cLine
    omega
  · rw [hvl]; simp
  · obtain ⟨x, h1, rfl, rfl⟩ := hat j k v e
    obtain ⟨b, e1, e2, _⟩ := hpr j x h1
    refine ⟨?_, .inl ?_⟩
    · rw [List.getElem?_toArray, List.getElem?_map, e1]
      simp [List.getD, e1]
    · have : ps.getD j 0 = b := by simp [List.getD, e1]
      show s.heap.IsTuple (ps.getD j 0) _
      rw [this]; exact e2
  · rw [hvl, hl]
  · obtain ⟨x, h1, rfl, rfl⟩ := hat i key v e
    exact ⟨x.1, x.2.1, h1, rfl⟩
  · refine (tupleKind_stays (knd := mixKind X.prog X.w)).stays (fun b o vs n e _ => kk b o (Nat.ne_of_lt (Heap.lt_size e)) (fun z => nomatch z) e) (key_of I.hok (hks x hx))
  · have hm : (s.heap.objs.size == sysModules) = false := beq_eq_false_iff_ne.mpr (Nat.ne_of_gt I.big)
    have hn : H s.heap.objs.size = none := I.hok.fresh (Nat.le_refl _)
    have kt := kt_all (H := H) rel hks (acc := []) (xs := []) .nil
    obtain ⟨o', es, ep, g1, g2, g3, g4, _, g5⟩ := hd'
    have len : ∀ (l : List (List Key × V)) (acc : List (List Key × V)), (l.foldl (fun acc kv => putK acc kv.1 kv.2) acc).length ≤ acc.length + l.length := by
      intro l
      induction l with
      | nil => intro acc; simp
      | cons x l ih =>
        intro acc
        rw [List.foldl_cons, List.length_cons]
        have h1 := ih (putK acc x.1 x.2)
        have h2 := putK_len acc x.1 x.2
        omega
    have hlen := len (kvs.map fun x => (x.1, x.2.2)) []
    rw [List.length_nil, List.length_map, Paired.length rel] at hlen
    refine ⟨.ref s.heap.objs.size, _, I.laid (t' := tk) (o := .dT ((kvs.map fun x => (x.1, x.2.2)).foldl (fun acc kv => putK acc kv.1 kv.2) [])) (fun b o e => k b o (fun z => nomatch z) e) (Nat.le_refl _) ?_, rfl, q _ hn⟩
    exact ⟨by omega, hm, storedAllH [] prs, kt.keeps (fun b ys e => by rw [upd_ne (ne_of_none e hn)]; exact e), o', es, ep, g1, g2, g3, g4, g5⟩
end
end SrtK

set_option Elab.async false
set_option linter.all false
set_option maxRecDepth 100000
namespace DL
open PySem PySem.Spec PyProof.Rows L2 SrtK
variable [TabL]
section
variable {K : PySem.W.Frag} {te ta tb tc td ty tv tx : TE} {tt tu : TT} {ts : TA} {ρ : Env} {Q : D → Env → Prop} {E : EndD}
/-! ### what a slot lets read -/
def Sl.dat : Sl → Option D
  | .sh d => some d
  | .own _ d => some d
  | _ => none
/-- the top of the data at v, read in H, its parts in G -/
def RepT (K : PySem.W.Frag) (G H : Hp) (v : V) : D → Prop
  | .lst ds => ∃ a vs, v = .ref a ∧ H a = some (.lst vs) ∧ Reps K G vs ds
  | .dk ps => ∃ a kvs, v = .ref a ∧ Rd H a (.dK kvs) ∧ kvs.map (·.1) = ps.map (·.1) ∧ Reps K G (kvs.map (·.2)) (ps.map (·.2))
  | .dt ps => ∃ a kvs, v = .ref a ∧ Rd H a (.dT kvs) ∧ kvs.map (·.1) = ps.map (·.1) ∧ Reps K G (kvs.map (·.2)) (ps.map (·.2))
  | .ins C ps => ∃ a dx fs, v = .ref a ∧ H a = some (.ins (He.ga K C) dx fs) ∧ fs.map (·.1) = ps.map (·.1) ∧ Reps K G (fs.map (·.2)) (ps.map (·.2))
  | d => Rep K G v d
theorem repT_rep {G H : Hp} {v : V} {d : D} (e : Ex G H) (h : Rep K G v d) : RepT K G H v d := by
  cases h with
  | lst a b => exact ⟨_, _, rfl, e _ _ a, b⟩
  | dk a b c => exact ⟨_, _, rfl, e.rdx.1 _ _ trivial a, b, c⟩
  | dt a b c => exact ⟨_, _, rfl, e.rdx.1 _ _ trivial a, b, c⟩
  | ins a b c => exact ⟨_, _, _, rfl, e _ _ a, b, c⟩
  | non => exact .non
  | bl b => exact .bl b
  | int b => exact .int b
  | str b => exact .str b
  | tup a b => exact .tup a b
  | kt a b => exact .kt a b
  | scr a => exact .scr a
  | raw => exact .raw
  | tag h => exact .tag h
  | exc a b c d => exact .exc a b c d
  | ex0 a => exact .ex0 a
theorem repT_own {G H : Hp} {a : Addr} {d : D} (h : OwnR K G (H a) d) : RepT K G H (.ref a) d := by
  cases d with
  | lst _ => obtain ⟨vs, e, r⟩ := h; exact ⟨a, vs, rfl, e, r⟩
  | dk _ => obtain ⟨vs, e, k, r⟩ := h; exact ⟨a, vs, rfl, .inl e, k, r⟩
  | dt _ => obtain ⟨vs, e, k, r⟩ := h; exact ⟨a, vs, rfl, .inl e, k, r⟩
  | ins _ _ => obtain ⟨dx, vs, e, k, r⟩ := h; exact ⟨a, dx, vs, rfl, e, k, r⟩
  | _ => exact h.elim
theorem slot_rd {F G H : Hp} {σ : L2.St} {i : Nat} {d : D} (R : RE K F G H σ ρ) (h : (ρ[i]?.bind Sl.dat) = some d) : ∃ v, σ[i]? = some (some v) ∧ RepT K G H v d := by
  cases hr : ρ[i]? with
  | none => rw [hr] at h; cases h
  | some r =>
    rw [hr] at h
    obtain ⟨s, hs, q⟩ := R.sl.get hr
    cases r with
    | sh x => cases h; obtain ⟨v, rfl, hv⟩ := q; exact ⟨v, hs, repT_rep R.wd.g hv⟩
    | own a x => cases h; obtain ⟨rfl, _, _, ho⟩ := q; exact ⟨_, hs, repT_own ho⟩
    | un => cases h
    | drw a => cases h
    | two a b c d => cases h
theorem rep_kDs {H : Hp} : ∀ {vs : List V} {ks : List Key}, Reps K H vs (ks.map kD) → vs = ks.map kV
  | _, [], h => h.nil_inv
  | _, k :: ks, h => by
    obtain ⟨v, ws, rfl, h1, h2⟩ := h.cons_inv
    rw [rep_kD h1, rep_kDs h2]; rfl
theorem reps_kD {H : Hp} : ∀ ks : List Key, Reps K H (ks.map kV) (ks.map kD)
  | [] => .nil
  | k :: ks => .cons (rep_of_kD k) (reps_kD ks)
theorem rep_kT {H : Hp} {v : V} {ks : List Key} (h : Rep K H v (.tup (ks.map kD))) : ∃ b, v = .ref b ∧ H b = some (.tup (ks.map kV)) := by
  obtain ⟨a, vs, rfl, h1, h2⟩ := rep_tup h
  rw [rep_kDs h2] at h1
  exact ⟨a, rfl, h1⟩
/-- an own thing may be shared from now on -/
theorem ws_share {i : Nat} {a : Addr} {d : D} {t : TS} (hi : ρ[i]? = some (.own a d)) (h : WS K t (ρ.set i (.sh d)) E) : WS K t ρ E := fun F G H σ Dn R L => by
  obtain ⟨o, _, _, hG, R', _⟩ := R.give hi
  exact h F _ H σ Dn R' (L.mono (Ex.new hG))
theorem ew_share {i : Nat} {a : Addr} {d : D} (hi : ρ[i]? = some (.own a d)) (h : EvW K te (ρ.set i (.sh d)) Q) : EvW K te ρ Q := fun F G H σ R Q' k => by
  obtain ⟨o, _, _, hG, R', _⟩ := R.give hi
  exact h F _ H σ R' Q' fun v d ρ' G' H' e => k v d ρ' G' H' ((Ex.new hG).trans e)
/-! ### dicts that are read -/
theorem ew_dgetV {i : Nat} {d0 : D} (h0 : (ρ[i]?.bind Sl.dat) = some d0) (h : EvW K ty ρ fun y ρ2 => ∃ k ps d, y = kD k ∧ (ρ2[i]?.bind Sl.dat) = some (.dk ps) ∧ dget ps k = some d ∧ Q d ρ2) : EvW K (tDGet (tVar i) ty) ρ Q := fun F G H σ R Q' k => by
  obtain ⟨v, hv, _⟩ := slot_rd R h0
  refine ⟨v, hv, h F G H σ R _ fun w y ρ2 G2 H2 e2 R2 hw q2 => ?_⟩
  obtain ⟨kk, ps, d, rfl, h2, hd, q⟩ := q2
  obtain ⟨v', hv', a, kvs, rfl, hr, r1, r2⟩ := slot_rd R2 h2
  rw [hv] at hv'; cases hv'
  rcases dk_look kk r1 r2 with ⟨_, z2⟩ | ⟨v1, d1, z1, z2, z3⟩
  · rw [hd] at z2; cases z2
  · rw [hd] at z2; cases z2
    exact ⟨a, v1, rfl, .inl ⟨kvs, kk, hr, rep_kD hw, z1.symm⟩, k _ _ ρ2 G2 H2 e2 R2 z3 q⟩
theorem ew_dgetVT {i : Nat} {d0 : D} (h0 : (ρ[i]?.bind Sl.dat) = some d0) (h : EvW K ty ρ fun y ρ2 => ∃ k ps d, y = .tup (k.map kD) ∧ (ρ2[i]?.bind Sl.dat) = some (.dt ps) ∧ dget ps k = some d ∧ Q d ρ2) : EvW K (tDGet (tVar i) ty) ρ Q := fun F G H σ R Q' k => by
  obtain ⟨v, hv, _⟩ := slot_rd R h0
  refine ⟨v, hv, h F G H σ R _ fun w y ρ2 G2 H2 e2 R2 hw q2 => ?_⟩
  obtain ⟨kk, ps, d, rfl, h2, hd, q⟩ := q2
  obtain ⟨v', hv', a, kvs, rfl, hr, r1, r2⟩ := slot_rd R2 h2
  rw [hv] at hv'; cases hv'
  obtain ⟨b, rfl, hb⟩ := rep_kT hw
  rcases dk_look kk r1 r2 with ⟨_, z2⟩ | ⟨v1, d1, z1, z2, z3⟩
  · rw [hd] at z2; cases z2
  · rw [hd] at z2; cases z2
    exact ⟨a, v1, rfl, .inr ⟨kvs, kk, b, hr, rfl, R2.wd.g _ _ hb, z1.symm⟩, k _ _ ρ2 G2 H2 e2 R2 z3 q⟩
/-- d.get(k, c) -/
theorem ew_get2 {i : Nat} {p0 : List (Key × D)} (h0 : (ρ[i]?.bind Sl.dat) = some (.dk p0)) (h : EvW K ty ρ fun y ρ2 => EvW K tx ρ2 fun z ρ3 => ∃ k ps, y = kD k ∧ (ρ3[i]?.bind Sl.dat) = some (.dk ps) ∧ Q ((dget ps k).getD z) ρ3) : EvW K (tDGet2 (tVar i) ty tx) ρ Q := fun F G H σ R Q' k => by
  obtain ⟨v, hv, a, kvs0, rfl, hr0, _⟩ := slot_rd R h0
  refine ⟨.ref a, hv, a, rfl, .inl ⟨kvs0, hr0⟩, h F G H σ R _ fun w y ρ2 G2 H2 e2 R2 hw q2 => q2 F G2 H2 σ R2 _ fun u z ρ3 G3 H3 e3 R3 hu q3 => ?_⟩
  obtain ⟨kk, ps, rfl, h2, q⟩ := q3
  obtain ⟨v', hv', a', kvs, rfl, hr, r1, r2⟩ := slot_rd R3 h2
  rw [hv] at hv'; cases hv'
  refine ⟨_, .inl ⟨kvs, kk, hr, rep_kD (hw.mono e3), rfl⟩, ?_⟩
  rcases dk_look kk r1 r2 with ⟨z1, z2⟩ | ⟨v1, d1, z1, z2, z3⟩
  · rw [z2] at q; rw [z1]; exact k _ _ ρ3 G3 H3 (e2.trans e3) R3 hu q
  · rw [z2] at q; rw [z1]; exact k _ _ ρ3 G3 H3 (e2.trans e3) R3 z3 q
theorem ew_get2T {i : Nat} {p0 : List (List Key × D)} (h0 : (ρ[i]?.bind Sl.dat) = some (.dt p0)) (h : EvW K ty ρ fun y ρ2 => EvW K tx ρ2 fun z ρ3 => ∃ k ps, y = .tup (k.map kD) ∧ (ρ3[i]?.bind Sl.dat) = some (.dt ps) ∧ Q ((dget ps k).getD z) ρ3) : EvW K (tDGet2 (tVar i) ty tx) ρ Q := fun F G H σ R Q' k => by
  obtain ⟨v, hv, a, kvs0, rfl, hr0, _⟩ := slot_rd R h0
  refine ⟨.ref a, hv, a, rfl, .inr ⟨kvs0, hr0⟩, h F G H σ R _ fun w y ρ2 G2 H2 e2 R2 hw q2 => q2 F G2 H2 σ R2 _ fun u z ρ3 G3 H3 e3 R3 hu q3 => ?_⟩
  obtain ⟨kk, ps, rfl, h2, q⟩ := q3
  obtain ⟨v', hv', a', kvs, rfl, hr, r1, r2⟩ := slot_rd R3 h2
  rw [hv] at hv'; cases hv'
  obtain ⟨b, rfl, hb⟩ := rep_kT (hw.mono e3)
  refine ⟨_, .inr ⟨kvs, kk, b, hr, rfl, R3.wd.g _ _ hb, rfl⟩, ?_⟩
  rcases dk_look kk r1 r2 with ⟨z1, z2⟩ | ⟨v1, d1, z1, z2, z3⟩
  · rw [z2] at q; rw [z1]; exact k _ _ ρ3 G3 H3 (e2.trans e3) R3 hu q
  · rw [z2] at q; rw [z1]; exact k _ _ ρ3 G3 H3 (e2.trans e3) R3 z3 q
/-- k in d -/
theorem ew_dinV {i : Nat} (h : EvW K ty ρ fun y ρ1 => ∃ k ps, y = kD k ∧ (ρ1[i]?.bind Sl.dat) = some (.dk ps) ∧ Q (.bl (dget ps k).isSome) ρ1) : EvW K (tDIn ty (tVar i)) ρ Q := fun F G H σ R Q' k =>
  h F G H σ R _ fun w y ρ1 G1 H1 e1 R1 hw q => by
    obtain ⟨kk, ps, rfl, h2, q⟩ := q
    obtain ⟨v, hv, a, kvs, rfl, hr, r1, r2⟩ := slot_rd R1 h2
    refine ⟨.ref a, hv, a, valV kvs kk, rfl, .inl ⟨kvs, kk, hr, rep_kD hw, rfl⟩, ?_⟩
    have e : (valV kvs kk).isSome = (dget ps kk).isSome := by
      rcases dk_look kk r1 r2 with ⟨z1, z2⟩ | ⟨_, _, z1, z2, _⟩ <;> rw [z1, z2] <;> rfl
    rw [e]
    exact k _ _ ρ1 G1 H1 e1 R1 (.bl _) q
theorem ew_dnotinV {i : Nat} (h : EvW K ty ρ fun y ρ1 => ∃ k ps, y = kD k ∧ (ρ1[i]?.bind Sl.dat) = some (.dk ps) ∧ Q (.bl (!(dget ps k).isSome)) ρ1) : EvW K (tDNotIn ty (tVar i)) ρ Q := fun F G H σ R Q' k =>
  h F G H σ R _ fun w y ρ1 G1 H1 e1 R1 hw q => by
    obtain ⟨kk, ps, rfl, h2, q⟩ := q
    obtain ⟨v, hv, a, kvs, rfl, hr, r1, r2⟩ := slot_rd R1 h2
    refine ⟨.ref a, hv, a, valV kvs kk, rfl, .inl ⟨kvs, kk, hr, rep_kD hw, rfl⟩, ?_⟩
    have e : (valV kvs kk).isSome = (dget ps kk).isSome := by
      rcases dk_look kk r1 r2 with ⟨z1, z2⟩ | ⟨_, _, z1, z2, _⟩ <;> rw [z1, z2] <;> rfl
    rw [e]
    exact k _ _ ρ1 G1 H1 e1 R1 (.bl _) q
/-- d[k] = v, k a tuple, d the def's own -/
theorem ws_dputT {i : Nat} {a : Addr} (h : EvW K tv ρ fun d ρ1 => (∃ p0, ρ1[i]? = some (.own a p0)) ∧ EvW K ty ρ1 fun y ρ2 => ∃ k ps, y = .tup (k.map kD) ∧ ρ2[i]? = some (.own a (.dt ps)) ∧ ps.length < 90000 ∧ E.nx (ρ2.set i (.own a (.dt (dput ps k d))))) :
    WS K (sDPut (tVar i) ty tv) ρ E := fun F G H σ Dn R L =>
  h F G H σ R _ fun v d ρ1 G1 H1 e1 R1 hv q => by
    obtain ⟨⟨p0, hi1⟩, q⟩ := q
    obtain ⟨_, hs1, rfl, _⟩ := R1.sl.get hi1
    refine ⟨.ref a, hs1, q F G1 H1 σ R1 _ fun w y ρ2 G2 H2 e2 R2 hw q2 => ?_⟩
    obtain ⟨kk, ps, rfl, hi2, hl, q2⟩ := q2
    obtain ⟨_, hs2, e, hG, hF, kvs, hd, hk, hr⟩ := R2.sl.get hi2
    obtain ⟨z1, z2⟩ := put_rel (k := kk) hk hr (hv.mono e2)
    have hlen : kvs.length = ps.length := by have := congrArg List.length hk; simpa using this
    obtain ⟨b, rfl, hb⟩ := rep_kT hw
    refine ⟨a, upd H2 a (.dT (putK kvs kk v)), rfl, .inr ⟨kvs, kk, b, hd, rfl, R2.wd.g _ _ hb, by rw [hlen]; exact bigl (by omega), rfl⟩, ?_⟩
    exact L.nx _ _ G2 _ (e1.trans e2) (R2.mut (r' := .own a (.dt (dput ps kk d))) hi2 (List.mem_singleton.mpr rfl) (List.Sublist.refl _) hs1 ⟨rfl, hG, hF, _, upd_same, z1, z2⟩) q2
/-! ### own lists that are read -/
theorem ew_lenV {i : Nat} {ds : List D} (h : (ρ[i]?.bind Sl.dat) = some (.lst ds)) (q : Q (.int ds.length) ρ) : EvW K (tCB (rLenU K) (tCons (tVar i) tNil)) ρ Q := fun F G H σ R Q' k => by
  obtain ⟨v, hv, a, vs, rfl, h1, h2⟩ := slot_rd R h
  refine ⟨.ref a, hv, .inl (.inl ⟨a, vs, rfl, .inl (.inl (.inl h1)), ?_⟩)⟩
  rw [h2.length]
  exact k _ _ ρ G H (Ex.refl G) R (.int _) q
theorem ew_ixV {i : Nat} {d0 : D} (h0 : (ρ[i]?.bind Sl.dat) = some d0) (h : EvW K tb ρ fun y ρ2 => ∃ j ds d, y = .int j ∧ (ρ2[i]?.bind Sl.dat) = some (.lst ds) ∧ atI ds j = some d ∧ Q d ρ2) : EvW K (tOp (rIx K) (tVar i) tb) ρ Q := fun F G H σ R Q' k => by
  obtain ⟨v, hv, _⟩ := slot_rd R h0
  refine ⟨v, hv, h F G H σ R _ fun w y ρ2 G2 H2 e2 R2 hw q2 => ?_⟩
  obtain ⟨j, ds, d, rfl, h2, hd, q⟩ := q2
  obtain ⟨v', hv', a, vs, rfl, h3, h4⟩ := slot_rd R2 h2
  rw [hv] at hv'; cases hv'
  obtain ⟨x, h5, h6⟩ := atI_rep h4 hd
  exact .inl ⟨a, vs, j, x, rfl, rep_int hw, .inl (.inl h3), h5, k _ _ ρ2 G2 H2 e2 R2 h6 q⟩
/-- xs.extend(ys) -/
theorem ew_extend {i : Nat} {a : Addr} {d0 : List D} (hi : ρ[i]? = some (.own a (.lst d0))) (h : EvW K te ρ fun d ρ1 => ∃ ds es, ρ1[i]? = some (.own a (.lst ds)) ∧ d = .lst es ∧ ds.length + es.length < 90000 ∧ Q .non (ρ1.set i (.own a (.lst (ds ++ es))))) :
    EvW K (tBM K "list" rExtend (tVar i) (tCons te tNil)) ρ Q := fun F G H σ R Q' k => by
  obtain ⟨s, hs, rfl, _, _, vs0, hd0, _⟩ := R.sl.get hi
  refine ⟨.ref a, hs, .inl ⟨rfl, vs0, .inl (.inl hd0)⟩, h F G H σ R _ fun v d ρ1 G1 H1 e1 R1 hv q => ?_⟩
  obtain ⟨ds, es, hi1, rfl, hl, q⟩ := q
  obtain ⟨_, hs1, e, hG, hF, vs, hd, hr⟩ := R1.sl.get hi1
  obtain ⟨b, ws, rfl, hb, hr2⟩ := rep_lst hv
  refine ⟨a, b, vs, ws, rfl, rfl, hd, R1.wd.g _ _ hb, by rw [hr.length, hr2.length]; exact big (by omega), ?_⟩
  exact k .non .non _ G1 _ e1 (R1.mut (r' := .own a (.lst (ds ++ es))) hi1 (List.mem_singleton.mpr rfl) (List.Sublist.refl _) hs ⟨rfl, hG, hF, _, upd_same, hr.append hr2⟩) .non q
/-- xs * n -/
theorem reps_flat {H : Hp} {vs : List V} {ds : List D} (h : Reps K H vs ds) : ∀ n : Nat, Reps K H (List.replicate n vs).flatten (List.replicate n ds).flatten
  | 0 => .nil
  | n + 1 => by
    rw [List.replicate_succ, List.replicate_succ, List.flatten_cons, List.flatten_cons]
    exact h.append (reps_flat h n)
theorem en_rep (h : EvW K ta ρ fun x ρ1 => EvW K tb ρ1 fun y ρ2 => ∃ (xs : List D) (n : Int), x = .lst xs ∧ y = .int n ∧ 0 ≤ n ∧ n ≤ 1000 ∧ xs.length * n.toNat ≤ 90000 ∧ Q (.lst (List.replicate n.toNat xs).flatten) ρ2) : EvN K (tOp rRep ta tb) ρ Q := fun F G H σ R Q' k =>
  h F G H σ R _ fun v x ρ1 G1 H1 e1 R1 hv q1 => q1 F G1 H1 σ R1 _ fun w y ρ2 G2 H2 e2 R2 hw q2 => by
    obtain ⟨xs, n, rfl, rfl, n0, n1, hl, q⟩ := q2
    obtain ⟨a, vs, rfl, h1, h2⟩ := rep_lst (hv.mono e2)
    refine ⟨a, n, vs, rfl, rep_int hw, R2.wd.g _ _ h1, by omega, by omega, by rw [h2.length]; exact big (by omega), fun p hp => ?_⟩
    obtain ⟨z1, z2, z3, z4, z5⟩ := en_of R2 hp (reps_flat h2 n.toNat)
    exact k p _ ρ2 G2 _ (e1.trans e2) z1 z2 z3 z4 z5 q
/-- x in WORDS -/
theorem op2_inK {neg : Bool} {x : Str} {ys : List Str} (q : Q (.bl (if neg then !decide (x ∈ ys) else decide (x ∈ ys))) ρ) : Op2 K (rIn K neg) (.str x) (.kt (strsD ys)) ρ Q := fun F G H σ R v w hv hw Q' k => by
  rw [rep_str hv]
  have fin : Q' (.bl (if neg then !inV (.str x) (ys.map V.str) else inV (.str x) (ys.map V.str))) H := by
    rw [inV_strs]; exact k _ _ ρ G H (Ex.refl G) R (.bl _) q
  obtain ⟨a, vs, rfl, h1, h2⟩ := rep_kt hw
  rw [reps_strs h2] at h1
  exact ⟨a, _, rfl, .inr (R.wd.g.sqK h1), rfl, flat_strs ys, fin⟩
/-! ### tuples that stand anywhere -/
theorem RE.tupIn {F G H : Hp} {σ : L2.St} {q : Addr} {vs : List V} (R : RE K F G H σ ρ) (hq : H q = some (.tup vs)) : ∃ G', Ex G G' ∧ RE K F G' H σ ρ ∧ G' q = some (.tup vs) := by
  cases hG : G q with
  | some o =>
    have := R.wd.g _ _ hG
    rw [hq] at this; cases this
    exact ⟨G, Ex.refl G, R, hG⟩
  | none =>
    have hF : F q = none := by
      cases z : F q with
      | none => rfl
      | some o =>
        have := R.wd.f _ _ z
        rw [hq] at this; cases this
        exact absurd z (R.wd.ft q vs)
    have hO : q ∉ ownA ρ := fun m => by
      obtain ⟨_, _, u, hu, nt⟩ := R.sl.own m
      rw [hq] at hu; cases hu
      exact nt.1 vs rfl
    exact ⟨upd G q (.tup vs), Ex.new hG, R.share hq hG hF hO (fun _ z => (nomatch z)), upd_same⟩
theorem tupsIn {F H : Hp} {σ : L2.St} : ∀ {bs : List Addr} {ks : List (List Key)} {G : Hp}, RE K F G H σ ρ → KeysAt H bs ks → ∃ G', Ex G G' ∧ RE K F G' H σ ρ ∧ Reps K G' (bs.map V.ref) (ks.map fun k => D.tup (k.map kD))
  | _, _, G, R, .nil => ⟨G, Ex.refl G, R, .nil⟩
  | _, _, G, R, .cons (a := b) (b := k) h r => by
    obtain ⟨G1, e1, R1, h1⟩ := R.tupIn h
    obtain ⟨G2, e2, R2, h2⟩ := tupsIn R1 r
    exact ⟨G2, e1.trans e2, R2, .cons (.tup (e2 _ _ h1) (reps_kD k)) h2⟩
theorem KeysAt.up {H H' : Hp} (e : Ex H H') : ∀ {bs : List Addr} {ks : List (List Key)}, KeysAt H bs ks → KeysAt H' bs ks
  | _, _, .nil => .nil
  | _, _, .cons h r => .cons (e _ _ h) (KeysAt.up e r)
/-- sorted(d), d with tuples for keys -/
theorem opn_sortKD {ps : List (List Key × D)} {b : Bool} {sr : List Bool} (hs : ∀ k ∈ ps.map (·.1), shp k = b :: sr) (q : Q (.lst ((srtK (ps.map (·.1))).map fun k => D.tup (k.map kD))) ρ) : OpN K rSortKD [.dt ps] ρ Q := fun F G H σ R vs hv Q' k => by
  obtain ⟨v, rfl, h⟩ := hv.one
  obtain ⟨a, kvs, rfl, h1, h2, h3⟩ := rep_dt h
  refine ⟨a, kvs, b, sr, rfl, R.wd.g.rdx.1 _ _ trivial h1, by rw [h2]; exact hs, fun bs p hk hp => ?_⟩
  rw [h2] at hk
  obtain ⟨G1, e1, R1, r1⟩ := tupsIn R hk
  obtain ⟨z1, z2, z3, z4, z5⟩ := en_of R1 hp r1
  exact k p _ ρ G1 _ e1 z1 z2 z3 z4 z5 q
end
end DL

set_option Elab.async false
set_option linter.all false
set_option maxRecDepth 100000
namespace DL
open PySem PySem.Spec PyProof.Rows L2 SrtK
variable [TabL]
section
variable {K : PySem.W.Frag} {te ta tb tc td ty tv tx tk : TE} {tt tu : TT} {ts : TA} {ρ : Env} {Q : D → Env → Prop} {E : EndD}
/-! ### dict(pairs) -/
/-- pairs put one after another -/
def dputs {κ : Type} [DecidableEq κ] (acc ps : List (κ × D)) : List (κ × D) := ps.foldl (fun a p => dput a p.1 p.2) acc
theorem puts_rel {κ : Type} [DecidableEq κ] {H : Hp} : ∀ {kvs : List (κ × V)} {ps : List (κ × D)} {acc : List (κ × V)} {bcc : List (κ × D)}, kvs.map (·.1) = ps.map (·.1) → Reps K H (kvs.map (·.2)) (ps.map (·.2)) → acc.map (·.1) = bcc.map (·.1) → Reps K H (acc.map (·.2)) (bcc.map (·.2)) →
    (kvs.foldl (fun a kv => putK a kv.1 kv.2) acc).map (·.1) = (dputs bcc ps).map (·.1) ∧ Reps K H ((kvs.foldl (fun a kv => putK a kv.1 kv.2) acc).map (·.2)) ((dputs bcc ps).map (·.2))
  | [], [], acc, bcc, _, _, e, r => ⟨e, r⟩
  | [], _ :: _, _, _, e, _, _, _ => by simp at e
  | _ :: _, [], _, _, e, _, _, _ => by simp at e
  | kv :: kvs, p :: ps, acc, bcc, e, r, e2, r2 => by
    simp only [List.map_cons, List.cons.injEq] at e
    cases r with
    | cons h1 h2 =>
      obtain ⟨z1, z2⟩ := put_rel (k := kv.1) e2 r2 h1
      have := puts_rel (kvs := kvs) (ps := ps) e.2 h2 z1 z2
      rw [List.foldl_cons]
      unfold dputs
      rw [List.foldl_cons, ← e.1]
      exact this
theorem opn_dictT {ps : List (List Key × D)} (hl : ps.length ≤ 90000) (q : Q (.dt (dputs [] ps)) ρ) : OpN K (rDictT K) [.lst (ps.map fun p => .tup [.tup (p.1.map kD), p.2])] ρ Q := fun F G H σ R vs hv Q' k => by
  obtain ⟨v, rfl, h⟩ := hv.one
  obtain ⟨a, ws, rfl, h1, h2⟩ := rep_lst h
  have key : ∀ {ws : List V} {ps : List (List Key × D)}, Reps K G ws (ps.map fun p => .tup [.tup (p.1.map kD), p.2]) → ∃ (bs : List Addr) (kvs : List (List Key × Addr × V)), ws = bs.map V.ref ∧ Paired (fun p kv => H p = some (.tup [.ref kv.2.1, kv.2.2]) ∧ H kv.2.1 = some (.tup (kv.1.map kV))) bs kvs ∧ (kvs.map fun x => (x.1, x.2.2)).map (·.1) = ps.map (·.1) ∧ Reps K G ((kvs.map fun x => (x.1, x.2.2)).map (·.2)) (ps.map (·.2)) := by
    intro ws
    induction ws with
    | nil =>
      intro ps h
      cases ps with
      | nil => exact ⟨[], [], rfl, .nil, rfl, .nil⟩
      | cons _ _ => cases h
    | cons w ws ih =>
      intro ps h
      cases ps with
      | nil => cases h
      | cons p ps =>
        cases h with
        | cons h1 h2 =>
          obtain ⟨bs, kvs, e, pr, e1, r1⟩ := ih h2
          obtain ⟨b, us, rfl, g1, g2⟩ := rep_tup h1
          obtain ⟨u1, u2, rfl, g3, g4⟩ := g2.two
          obtain ⟨c, rfl, g5⟩ := rep_kT g3
          exact ⟨b :: bs, (p.1, c, u2) :: kvs, by rw [e]; rfl, .cons ⟨R.wd.g _ _ g1, R.wd.g _ _ g5⟩ pr, by simp only [List.map_cons]; rw [e1], .cons g4 r1⟩
  obtain ⟨bs, kvs, rfl, pr, e1, r1⟩ := key h2
  refine ⟨a, bs, kvs, rfl, .inl (.inl (R.wd.g _ _ h1)), pr, fun p hp => ?_⟩
  obtain ⟨z1, z2⟩ := puts_rel (acc := []) (bcc := []) e1 r1 rfl .nil
  exact k p (.dt (dputs [] ps)) ρ G _ (Ex.refl G) (R.alone hp) (R.wd.g.none hp) (R.wd.f.none hp) (ownA_fresh R hp) ⟨_, upd_same, z1, z2⟩ q
/-- dict(pairs) with ints and texts for keys -/
def rDictP (K : PySem.W.Frag) : List V → Hp → VK → Prop := fun xs H Q => ∃ (a : Addr) (ps : List Addr) (kvs : List (Key × V)), xs = [.ref a] ∧ SqL K H a (ps.map V.ref) ∧ Paired (fun p kv => SqT K H p [kV kv.1, kv.2]) ps kvs ∧ ∀ p, H p = none → Q (.ref p) (upd H p (.dK (mergeK [] kvs)))
theorem kdictP {X : Cx} (hc : X.calm = true) (h : X.K = K) : CallR X (.type "dict") (rDictP K) := h ▸ call_dictP hc
theorem kdictT {X : Cx} (hc : X.calm = true) (hu : X.A.units + 64 < cLine) (h : X.K = K) : CallR X (.type "dict") (rDictT K) := h ▸ call_dictT hc hu
theorem opn_dictP {ps : List (Key × D)} (q : Q (.dk (dputs [] ps)) ρ) : OpN K (rDictP K) [.lst (ps.map fun p => .tup [kD p.1, p.2])] ρ Q := fun F G H σ R vs hv Q' k => by
  obtain ⟨v, rfl, h⟩ := hv.one
  obtain ⟨a, ws, rfl, h1, h2⟩ := rep_lst h
  have key : ∀ {ws : List V} {ps : List (Key × D)}, Reps K G ws (ps.map fun p => .tup [kD p.1, p.2]) → ∃ (bs : List Addr) (kvs : List (Key × V)), ws = bs.map V.ref ∧ Paired (fun p kv => SqT K H p [kV kv.1, kv.2]) bs kvs ∧ kvs.map (·.1) = ps.map (·.1) ∧ Reps K G (kvs.map (·.2)) (ps.map (·.2)) := by
    intro ws
    induction ws with
    | nil =>
      intro ps h
      cases ps with
      | nil => exact ⟨[], [], rfl, .nil, rfl, .nil⟩
      | cons _ _ => cases h
    | cons w ws ih =>
      intro ps h
      cases ps with
      | nil => cases h
      | cons p ps =>
        cases h with
        | cons h1 h2 =>
          obtain ⟨bs, kvs, e, pr, e1, r1⟩ := ih h2
          obtain ⟨b, us, rfl, g1, g2⟩ := rep_tup h1
          obtain ⟨u1, u2, rfl, g3, g4⟩ := g2.two
          rw [rep_kD g3] at g1
          exact ⟨b :: bs, (p.1, u2) :: kvs, by rw [e]; rfl, .cons (R.wd.g.sqT g1) pr, by simp only [List.map_cons]; rw [e1], .cons g4 r1⟩
  obtain ⟨bs, kvs, rfl, pr, e1, r1⟩ := key h2
  refine ⟨a, bs, kvs, rfl, .inl (.inl (R.wd.g _ _ h1)), pr, fun p hp => ?_⟩
  obtain ⟨z1, z2⟩ := puts_rel (acc := []) (bcc := []) e1 r1 rfl .nil
  exact k p (.dk (dputs [] ps)) ρ G _ (Ex.refl G) (R.alone hp) (R.wd.g.none hp) (R.wd.f.none hp) (ownA_fresh R hp) ⟨_, upd_same, z1, z2⟩ q
/-! ### a dict that is walked is locked -/
def FzD (K : PySem.W.Frag) (G : Hp) (a : Addr) (od : Obj) : D → Prop
  | .dk ps => ∃ kvs, G a = some (.frz od (.dK kvs)) ∧ kvs.map (·.1) = ps.map (·.1) ∧ Reps K G (kvs.map (·.2)) (ps.map (·.2))
  | .dt ps => ∃ kvs, G a = some (.frz od (.dT kvs)) ∧ kvs.map (·.1) = ps.map (·.1) ∧ Reps K G (kvs.map (·.2)) (ps.map (·.2))
  | _ => False
def D.isDict : D → Bool
  | .dk _ => true
  | .dt _ => true
  | _ => false
def DictU (u : HO) : Prop := (∃ kvs, u = .dK kvs) ∨ ∃ kvs, u = .dT kvs
theorem DictU.nt {u : HO} (h : DictU u) : ∀ xs, u ≠ .tup xs := fun xs z => by rcases h with ⟨_, rfl⟩ | ⟨_, rfl⟩ <;> cases z
theorem DictU.nc {u : HO} (h : DictU u) : ∀ c q, u ≠ LamX.CodeO c q := fun c q z => by unfold LamX.CodeO at z; rcases h with ⟨_, rfl⟩ | ⟨_, rfl⟩ <;> cases z
theorem DictU.mu {u : HO} (h : DictU u) : Mut (some u) := by rcases h with ⟨_, rfl⟩ | ⟨_, rfl⟩ <;> trivial
theorem rdx_lockU {G : Hp} {d : Addr} {od : Obj} {u : HO} (hu : DictU u) (hd : G d = some u) : RdX G (upd G d (.frz od u)) := by
  refine ⟨fun a w hw h => ?_, fun a C dx fs h => ?_, fun a xs h => ?_, fun a xs h => ?_, fun a φ h => ?_, fun a φ h => ?_⟩
  · by_cases e : a = d
    · subst e
      rcases h with h | ⟨o, h⟩
      · rw [hd] at h; cases h; exact .inr ⟨od, upd_same⟩
      · rw [hd] at h; rcases hu with ⟨_, rfl⟩ | ⟨_, rfl⟩ <;> cases h
    · unfold Rd; rw [upd_ne e]; exact h
  all_goals
    have ne : a ≠ d := fun z => by rw [z, hd] at h; rcases hu with ⟨_, rfl⟩ | ⟨_, rfl⟩ <;> cases h
    rw [upd_ne ne]; exact h
theorem rdx_unlockU {G : Hp} {d : Addr} {od : Obj} {u : HO} (hu : DictU u) (hd : G d = some (.frz od u)) : RdX G (upd G d u) := by
  refine ⟨fun a w hw h => ?_, fun a C dx fs h => ?_, fun a xs h => ?_, fun a xs h => ?_, fun a φ h => ?_, fun a φ h => ?_⟩
  · by_cases e : a = d
    · subst e
      rcases h with h | ⟨o, h⟩
      · rw [hd] at h; cases h; exact hw.elim
      · rw [hd] at h; cases h; exact .inl upd_same
    · unfold Rd; rw [upd_ne e]; exact h
  all_goals
    have ne : a ≠ d := fun z => by rw [z, hd] at h; cases h
    rw [upd_ne ne]; exact h
/-- a shared dict: what stands there, locked or not -/
theorem dict_at {G : Hp} {v : V} {d0 : D} (h : Rep K G v d0) (hd : d0.isDict = true) : ∃ a u, v = .ref a ∧ DictU u ∧ ((G a = some u ∧ ∀ od G', G' a = some (.frz od u) → RdX G G' → FzD K G' a od d0) ∨ ∃ od, FzD K G a od d0) := by
  cases h with
  | @dk _ kvs _ h1 h2 h3 =>
    refine ⟨_, .dK kvs, rfl, .inl ⟨_, rfl⟩, ?_⟩
    rcases h1 with h1 | ⟨o, h1⟩
    · exact .inl ⟨h1, fun od G' e x => ⟨_, e, h2, h3.rdx x⟩⟩
    · exact .inr ⟨o, _, h1, h2, h3⟩
  | @dt _ kvs _ h1 h2 h3 =>
    refine ⟨_, .dT kvs, rfl, .inr ⟨_, rfl⟩, ?_⟩
    rcases h1 with h1 | ⟨o, h1⟩
    · exact .inl ⟨h1, fun od G' e x => ⟨_, e, h2, h3.rdx x⟩⟩
    · exact .inr ⟨o, _, h1, h2, h3⟩
  | non => cases hd
  | bl _ => cases hd
  | int _ => cases hd
  | str _ => cases hd
  | lst _ _ => cases hd
  | tup _ _ => cases hd
  | kt _ _ => cases hd
  | ins _ _ _ => cases hd
  | scr _ => cases hd
  | raw => cases hd
  | tag _ => cases hd
  | exc _ _ _ _ => cases hd
  | ex0 _ => cases hd
theorem ex_unlock {G G' : Hp} {a : Addr} {u : HO} {od : Obj} (hG : G a = some u) (e : Ex (upd G a (.frz od u)) G') : Ex G (upd G' a u) := fun b w z => by
  by_cases eb : b = a
  · subst eb; rw [hG] at z; cases z; exact upd_same
  · rw [upd_ne eb]; exact e b w (by rw [upd_ne eb]; exact z)
theorem en_lock {i : Nat} {d0 : D} (hi : ρ[i]? = some (.sh d0)) (hd : d0.isDict = true) (h : ∀ F G H σ a od, RE K F G H σ ρ → σ[i]? = some (some (.ref a)) → FzD K G a od d0 → ∀ Q' : VK,
    (∀ p d ρ' G' H', Ex G G' → RE K F G' H' σ ρ' → G' p = none → F p = none → p ∉ ownA ρ' → OwnR K G' (H' p) d → Q d ρ' → Q' (.ref p) H') → te σ H Q') : EvN K (fun σ H Q => tLockE te σ H Q ∨ te σ H Q) ρ Q := fun F G H σ R Q' k => by
  obtain ⟨s, hs, v, rfl, hv⟩ := R.sl.get hi
  obtain ⟨a, u, rfl, hu, hcase⟩ := dict_at hv hd
  rcases hcase with ⟨hG, fz⟩ | ⟨od, fz⟩
  · refine .inl ⟨a, u, R.wd.g _ _ hG, hu.mu, fun od => ?_⟩
    have x := rdx_lockU (od := od) hu hG
    have R1 := R.relock (u' := .frz od u) hG x hu.nt hu.nc
    refine h F _ _ σ a od R1 hs (fz od _ upd_same x) _ fun p d ρ' G' H' e R' hp hF hO o q => ?_
    have hG' := e _ _ (upd_same (H := G) (a := a) (o := .frz od u))
    have x2 := rdx_unlockU hu hG'
    have ne : p ≠ a := fun z => by rw [z, hG'] at hp; cases hp
    refine ⟨R'.wd.g _ _ hG', k p d ρ' (upd G' a u) _ (ex_unlock hG e) (R'.relock hG' x2 (fun xs z => nomatch z) (fun c q z => by unfold LamX.CodeO at z; cases z)) (by rw [upd_ne ne]; exact hp) hF hO (by rw [upd_ne ne]; exact o.rdx x2) q⟩
  · exact .inr (h F G H σ a od R hs fz Q' k)
/-- what a walk of the dict in slot i yields -/
def WalkD (K : PySem.W.Frag) (wi : TI) (i : Nat) (d0 : D) (ds : List D) : Prop := ∀ F G H σ ρ a od, RE K F G H σ ρ → σ[i]? = some (some (.ref a)) → FzD K G a od d0 → ∀ R' : It → Hp → Prop, (∀ J, Yields K G J ds → R' J H) → wi σ H R'
theorem wk_keys {i : Nat} {ps : List (Key × D)} : WalkD K (iKeys (tVar i)) i (.dk ps) (ps.map fun p => kD p.1) := fun F G H σ ρ a od R hs fz R' k => by
  obtain ⟨kvs, h1, h2, h3⟩ := fz
  exact ⟨.ref a, hs, a, od, rfl, .inl ⟨kvs, R.wd.g _ _ h1, k _ (yl_keys h1 h2)⟩⟩
theorem wk_keysT {i : Nat} {ps : List (List Key × D)} : WalkD K (iKeys (tVar i)) i (.dt ps) (ps.map fun p => .tup (p.1.map kD)) := fun F G H σ ρ a od R hs fz R' k => by
  obtain ⟨kvs, h1, h2, h3⟩ := fz
  have hlen : kvs.length = ps.length := by have := congrArg List.length h2; simpa using this
  refine ⟨.ref a, hs, a, od, rfl, .inr ⟨kvs, R.wd.g _ _ h1, k _ ⟨?_, ?_, ?_⟩⟩⟩
  · intro F G2 H2 σ ρ i e R hi
    exact ⟨R.wd.g _ _ (e _ _ h1), by rw [List.length_map] at hi; omega⟩
  · intro F G2 H2 σ ρ e R
    exact ⟨R.wd.g _ _ (e _ _ h1), by rw [List.length_map]; omega⟩
  · intro F G2 H2 σ ρ i x H3 e R hi y
    obtain ⟨rfl, kk, v, q, hkv, rfl, hq⟩ := y
    obtain ⟨G3, e3, R3, h3⟩ := R.tupIn hq
    have z : (kvs.map (·.1))[i]? = some kk := by rw [List.getElem?_map, hkv]; rfl
    rw [h2, List.getElem?_map] at z
    obtain ⟨p, hp, rfl⟩ := Option.map_eq_some_iff.mp z
    exact ⟨G3, .tup (p.1.map kD), e3, R3, by rw [List.getElem?_map, hp]; rfl, .tup h3 (reps_kD _)⟩
theorem wk_vals {i : Nat} {ps : List (Key × D)} : WalkD K (iVals (tVar i)) i (.dk ps) (ps.map (·.2)) := fun F G H σ ρ a od R hs fz R' k => by
  obtain ⟨kvs, h1, h2, h3⟩ := fz
  have hlen : kvs.length = ps.length := by have := congrArg List.length h2; simpa using this
  refine ⟨.ref a, hs, a, od, kvs, rfl, R.wd.g _ _ h1, k _ ⟨?_, ?_, ?_⟩⟩
  · intro F G2 H2 σ ρ i e R hi
    exact ⟨R.wd.g _ _ (e _ _ h1), by rw [List.length_map] at hi; omega⟩
  · intro F G2 H2 σ ρ e R
    exact ⟨R.wd.g _ _ (e _ _ h1), by rw [List.length_map]; omega⟩
  · intro F G2 H2 σ ρ i x H3 e R hi y
    obtain ⟨rfl, kk, hkv⟩ := y
    obtain ⟨d, hd, hr⟩ := h3.getV (show (kvs.map (·.2))[i]? = some x by rw [List.getElem?_map, hkv]; rfl)
    exact ⟨G2, d, Ex.refl _, R, hd, hr.mono e⟩
theorem wk_items {i : Nat} {ps : List (Key × D)} : WalkD K (iItems (tVar i)) i (.dk ps) (ps.map fun p => .tup [kD p.1, p.2]) := fun F G H σ ρ a od R hs fz R' k => by
  obtain ⟨kvs, h1, h2, h3⟩ := fz
  have hlen : kvs.length = ps.length := by have := congrArg List.length h2; simpa using this
  refine ⟨.ref a, hs, a, od, kvs, rfl, R.wd.g _ _ h1, k _ ⟨?_, ?_, ?_⟩⟩
  · intro F G2 H2 σ ρ i e R hi
    exact ⟨R.wd.g _ _ (e _ _ h1), by rw [List.length_map] at hi; omega⟩
  · intro F G2 H2 σ ρ e R
    exact ⟨R.wd.g _ _ (e _ _ h1), by rw [List.length_map]; omega⟩
  · intro F G2 H2 σ ρ i x H3 e R hi y
    obtain ⟨T, kk, v, hkv, rfl, hT, rfl⟩ := y
    obtain ⟨d, hd, hr⟩ := h3.getV (show (kvs.map (·.2))[i]? = some v by rw [List.getElem?_map, hkv]; rfl)
    have z : (kvs.map (·.1))[i]? = some kk := by rw [List.getElem?_map, hkv]; rfl
    rw [h2, List.getElem?_map] at z
    rw [List.getElem?_map] at hd
    obtain ⟨p, hp, rfl⟩ := Option.map_eq_some_iff.mp z
    rw [hp] at hd
    cases hd
    have en := Ex.new (o := .tup [kV p.1, v]) (R.wd.g.none hT)
    exact ⟨_, .tup [kD p.1, p.2], en, R.new hT, by rw [List.getElem?_map, hp]; rfl, .tup upd_same (.cons (rep_of_kD _) (.cons ((hr.mono e).mono en) .nil))⟩
end
end DL

set_option Elab.async false
set_option linter.all false
set_option maxRecDepth 100000
namespace DL
open PySem PySem.Spec PyProof.Rows L2 SrtK
variable [TabL]
section
variable {K : PySem.W.Frag} {te ta tb tc td ty tv tx tk : TE} {tt tu : TT} {ts : TA} {ρ : Env} {Q : D → Env → Prop} {E : EndD}
/-- a comprehension over a walk that is known -/
theorem lc_core {J : It} {ds : List D} {g : TG} {vs : List Nat} {F G1 H1 : Hp} {σ : L2.St} {ρ1 : Env} (R1 : RE K F G1 H1 σ ρ1) (Y : Yields K G1 J ds) (hv0 : ownFree ρ1 vs = true) (hlen : ds.length ≤ 90000) (P : Nat → List D → Prop) (p0 : P 0 [])
      (turn : ∀ i d acc, ds[i]? = some d → P i acc → GV K g vs d (wipeE ρ1 vs) fun ρ2 => EvT K tt ρ2 fun b ρ3 => ρ3 = ρ2 ∧ if b = true then EvW K te ρ2 fun y ρ4 => ρ4 = ρ2 ∧ P (i + 1) (acc ++ [y]) else P (i + 1) acc)
      (fin : ∀ acc, P ds.length acc → Q (.lst acc) ρ1) (Q' : VK) (k : ∀ p d ρ' G' H', Ex G1 G' → RE K F G' H' σ ρ' → G' p = none → F p = none → p ∉ ownA ρ' → OwnR K G' (H' p) d → Q d ρ' → Q' (.ref p) H') : tLc (fun _ H R => R J H) g tt te vs σ H1 Q' := fun Dd hD => by
    have hv := ownFree_at hv0
    have hF0 : F Dd = none := R1.wd.f.none hD
    have hO : Dd ∉ ownA ρ1 := ownA_fresh R1 hD
    refine ⟨fun i m H' => m + i = ds.length ∧ ∃ acc accV G', Ex G1 G' ∧ RE K F G' H' σ ρ1 ∧ G' Dd = none ∧ H' Dd = some (.lst accV) ∧ Reps K G' accV acc ∧ acc.length ≤ i ∧ P i acc,
      ⟨ds.length, rfl, [], [], G1, Ex.refl _, R1.alone hD, R1.wd.g.none hD, upd_same, .nil, Nat.le_refl _, p0⟩, ?_⟩
    rintro i m H' ⟨hm, acc, accV, G', e', R', hG, hH, ra, hl, p⟩
    have Rf := R'.frm hH hG hO ⟨fun _ z => (nomatch z), fun _ z => (nomatch z)⟩
    by_cases hi : i < ds.length
    · refine .inr ⟨Y.go _ G' H' σ ρ1 i e' Rf hi, fun H2 => ∃ acc accV G2, Ex G1 G2 ∧ RE K F G2 H2 σ ρ1 ∧ G2 Dd = none ∧ H2 Dd = some (.lst accV) ∧ Reps K G2 accV acc ∧ acc.length ≤ i + 1 ∧ P (i + 1) acc, fun H2 z => ⟨m - 1, by omega, by omega, z⟩, fun x H2 y => ?_⟩
      obtain ⟨G2, d, e2, R2, hd, hx⟩ := Y.yld _ G' H' σ ρ1 i x H2 e' Rf hi y
      refine turn i d acc hd p _ G2 H2 _ x (R2.wipe vs) hx _ fun σ2 ρ2 l2 s2 R3 w3 => ?_
      refine ⟨?_, w3 _ G2 H2 σ2 R3 _ fun b ρ3 G4 H4 e4 R4 w4 => ?_⟩
      · have e0 : L2.wipe (L2.wipe σ vs) vs = L2.wipe σ vs := wipe_eq (L2.wipe_length σ vs) fun i hi => wipe_at hi
        rw [wipe_eq l2 fun i hi => (s2 i hi).1, e0]
      obtain ⟨rfl, w4⟩ := w4
      have back : ∀ {G5 H5 : Hp}, Ex G2 G5 → RE K (upd F Dd (.lst accV)) G5 H5 σ2 ρ3 → RE K F G5 H5 σ ρ1 ∧ H5 Dd = some (.lst accV) ∧ G5 Dd = none := fun {G5 H5} e5 R5 => by
        obtain ⟨R6, h6, g6⟩ := R5.unfrm hF0
        refine ⟨⟨R6.wd, Slots.join (e2.trans e5) R'.sl R6.sl (fun j r hr ho => ?_), R'.nd⟩, h6, g6⟩
        have hj := hv j r hr ho
        rw [(s2 j hj).1, (s2 j hj).2, wipe_at hj, wipeE_at hj]
        exact ⟨hr, rfl⟩
      cases b with
      | true =>
        refine w4 _ G4 H4 σ2 R4 _ fun v yv ρ5 G5 H5 e5 R5 hvy w5 => ?_
        obtain ⟨rfl, w5⟩ := w5
        obtain ⟨R6, h6, g6⟩ := back (e4.trans e5) R5
        refine ⟨accV, h6, by rw [ra.length]; exact bigl (by omega), acc ++ [yv], accV ++ [v], G5, ((e'.trans e2).trans e4).trans e5, R6.aloneU g6 hF0 hO h6 ⟨fun _ z => (nomatch z), fun _ z => (nomatch z)⟩, g6, upd_same, (ra.mono ((e2.trans e4).trans e5)).append (.cons hvy .nil), by simp; omega, w5⟩
      | false =>
        obtain ⟨R6, h6, g6⟩ := back e4 R4
        exact ⟨acc, accV, G4, (e'.trans e2).trans e4, R6, g6, h6, ra.mono (e2.trans e4), by omega, w4⟩
    · have ei : i = ds.length := by omega
      subst ei
      exact .inl ⟨Y.stop _ G' H' σ ρ1 e' R', k Dd (.lst acc) ρ1 G' H' e' R' hG hF0 hO ⟨accV, hH, ra⟩ (fin acc p)⟩
/-- a comprehension over a shared dict -/
theorem en_lcD {wi : TI} {g : TG} {vs : List Nat} {i0 : Nat} {d0 : D} {ds : List D} (hi : ρ[i0]? = some (.sh d0)) (hd : d0.isDict = true) (W : WalkD K wi i0 d0 ds) (hv0 : ownFree ρ vs = true) (hlen : ds.length ≤ 90000) (P : Nat → List D → Prop) (p0 : P 0 [])
      (turn : ∀ i d acc, ds[i]? = some d → P i acc → GV K g vs d (wipeE ρ vs) fun ρ2 => EvT K tt ρ2 fun b ρ3 => ρ3 = ρ2 ∧ if b = true then EvW K te ρ2 fun y ρ4 => ρ4 = ρ2 ∧ P (i + 1) (acc ++ [y]) else P (i + 1) acc)
      (fin : ∀ acc, P ds.length acc → Q (.lst acc) ρ) : EvN K (fun σ H Q => tLockE (tLc wi g tt te vs) σ H Q ∨ tLc wi g tt te vs σ H Q) ρ Q :=
  en_lock hi hd fun F G H σ a od R hs fz Q' k => W F G H σ ρ a od R hs fz _ fun J Y => lc_core R Y hv0 hlen P p0 turn fin Q' k
/-- all turns alike: a map -/
theorem en_lcDM {wi : TI} {g : TG} {vs : List Nat} {i0 : Nat} {d0 : D} {ds : List D} {f : D → D} (hi : ρ[i0]? = some (.sh d0)) (hd : d0.isDict = true) (W : WalkD K wi i0 d0 ds) (hv0 : ownFree ρ vs = true) (hlen : ds.length ≤ 90000)
      (turn : ∀ (i : Nat) d, ds[i]? = some d → GV K g vs d (wipeE ρ vs) fun ρ2 => EvW K te ρ2 fun y ρ4 => ρ4 = ρ2 ∧ y = f d)
      (fin : Q (.lst (ds.map f)) ρ) : EvN K (fun σ H Q => tLockE (tLc wi g tYes te vs) σ H Q ∨ tLc wi g tYes te vs σ H Q) ρ Q := by
  refine en_lcD hi hd W hv0 hlen (fun i acc => acc = (ds.map f).take i) rfl (fun i d acc hd hp => ?_) (fun acc hp => ?_)
  · subst hp
    refine fun F G H σ v R hv Q' k => turn i d hd F G H σ v R hv Q' fun σ' ρ2 l s R2 q2 => k σ' ρ2 l s R2 (et_yes ⟨rfl, ?_⟩)
    refine ew_weak q2 fun y ρ4 z => ⟨z.1, ?_⟩
    rw [z.2, List.take_add_one]
    simp [hd]
  · subst hp
    have e : (ds.map f).take ds.length = ds.map f := List.take_of_length_le (by simp)
    rw [e]; exact fin
/-- a comprehension: a map -/
theorem en_lcM {wi : TI} {g : TG} {vs : List Nat} {f : D → D} (h : EvI K wi ρ fun ds ρ1 => ownFree ρ1 vs = true ∧ ds.length ≤ 90000 ∧
      (∀ (i : Nat) d, ds[i]? = some d → GV K g vs d (wipeE ρ1 vs) fun ρ2 => EvW K te ρ2 fun y ρ4 => ρ4 = ρ2 ∧ y = f d) ∧
      Q (.lst (ds.map f)) ρ1) : EvN K (tLc wi g tYes te vs) ρ Q := by
  refine en_lc fun F G H σ R R' k => h F G H σ R R' fun J ds ρ' G' H' e R1 Y q => k J ds ρ' G' H' e R1 Y ?_
  obtain ⟨h1, h2, h3, h4⟩ := q
  refine ⟨h1, h2, fun i acc => acc = (ds.map f).take i, rfl, fun i d acc hd hp => ?_, fun acc hp => ?_⟩
  · subst hp
    refine fun F G H σ v R hv Q' k => h3 i d hd F G H σ v R hv Q' fun σ' ρ2 l s R2 q2 => k σ' ρ2 l s R2 (et_yes ⟨rfl, ?_⟩)
    show EvW K te ρ2 _
    refine ew_weak q2 fun y ρ4 z => ⟨z.1, ?_⟩
    show _ ++ [y] = List.take (i + 1) _
    rw [z.2, List.take_add_one]
    simp [hd]
  · subst hp
    have e : (ds.map f).take ds.length = ds.map f := List.take_of_length_le (by simp)
    rw [e]; exact h4
theorem filter_take {p : D → Bool} {ds : List D} {i : Nat} {d : D} (h : ds[i]? = some d) : (ds.take (i + 1)).filter p = (ds.take i).filter p ++ (if p d = true then [d] else []) := by
  rw [List.take_add_one, h, List.filter_append]
  congr 1
  by_cases z : p d = true
  · rw [if_pos z]; exact List.filter_cons_of_pos z
  · rw [if_neg z]; exact List.filter_cons_of_neg z
/-- a comprehension with a test: a filter, then a map -/
theorem en_lcF {wi : TI} {g : TG} {vs : List Nat} {f : D → D} {p : D → Bool} (h : EvI K wi ρ fun ds ρ1 => ownFree ρ1 vs = true ∧ ds.length ≤ 90000 ∧
      (∀ (i : Nat) d, ds[i]? = some d → GV K g vs d (wipeE ρ1 vs) fun ρ2 => EvT K tt ρ2 fun b ρ3 => ρ3 = ρ2 ∧ b = p d ∧ (p d = true → EvW K te ρ2 fun y ρ4 => ρ4 = ρ2 ∧ y = f d)) ∧
      Q (.lst ((ds.filter p).map f)) ρ1) : EvN K (tLc wi g tt te vs) ρ Q := by
  refine en_lc fun F G H σ R R' k => h F G H σ R R' fun J ds ρ' G' H' e R1 Y q => k J ds ρ' G' H' e R1 Y ?_
  obtain ⟨h1, h2, h3, h4⟩ := q
  refine ⟨h1, h2, fun i acc => acc = ((ds.take i).filter p).map f, by simp, fun i d acc hd hp => ?_, fun acc hp => ?_⟩
  · subst hp
    refine fun F G H σ v R hv Q' k => h3 i d hd F G H σ v R hv Q' fun σ' ρ2 l s R2 q2 => k σ' ρ2 l s R2 (et_weak q2 fun b ρ3 z => ⟨z.1, ?_⟩)
    obtain ⟨_, rfl, z⟩ := z
    have e := filter_take (p := p) hd
    cases c : p d with
    | true =>
      rw [if_pos rfl]
      refine ew_weak (z c) fun y ρ4 w => ⟨w.1, ?_⟩
      show _ = List.map f (List.filter p (List.take (i + 1) ds))
      rw [e, c, w.2, if_pos rfl, List.map_append]; rfl
    | false =>
      rw [if_neg (by decide)]
      show _ = List.map f (List.filter p (List.take (i + 1) ds))
      rw [e, c, if_neg (by decide), List.append_nil]
  · subst hp
    rw [List.take_length]; exact h4
/-! ### a def that may raise and hands back a new object -/
def spXN (K : PySem.W.Frag) (T : List D → (D → Prop) → (Str → Str → D → Prop) → Prop) : Sp := fun vs H Q W => ∃ F G ds Qd X, Wd F G H ∧ Reps K G vs ds ∧ T ds Qd X ∧
  (∀ p d G' H', Ex G G' → Wd F G' H' → G' p = none → F p = none → OwnR K G' (H' p) d → Qd d → Q (.ref p) H') ∧ XLink K F G W X
theorem en_callQN {T : List D → (D → Prop) → (Str → Str → D → Prop) → Prop} {W : XK} (h : EvA K ts ρ fun ds ρ1 => T ds (fun d => Q d ρ1) fun _ _ _ => False) : EvN K (tCall (spXN K T) [] W ts) ρ Q := fun F G H σ R Q' k =>
  h F G H σ R _ fun vs ds ρ1 G1 H1 e1 R1 hv q => by
    refine ⟨addF F H1 (ownA ρ1), G1, ds, _, _, R1.wdF (fun _ m => m), by rw [List.append_nil]; exact hv, q, fun p d G' H' e Wd' hG hF ho qd => ?_, fun _ _ _ _ _ _ _ _ _ _ _ _ _ z => z.elim⟩
    have np : p ∉ ownA ρ1 := fun m => by
      obtain ⟨_, _, u, hu, _⟩ := R1.sl.own m
      rw [addF_in m, hu] at hF; cases hF
    rw [addF_out np] at hF
    exact k p d ρ1 G' H' (e1.trans e) (R1.back Wd' e) hG hF np ho qd
theorem ex_callN {T : List D → (D → Prop) → (Str → Str → D → Prop) → Prop} {W : XK} {X : Str → Str → D → Prop} (h : EvA K ts ρ fun ds ρ1 => T ds (fun d => Q d ρ1) X) : EvX K (tCall (spXN K T) [] W ts) W ρ Q X := fun F G H σ R L Q' k =>
  h F G H σ R _ fun vs ds ρ1 G1 H1 e1 R1 hv q => by
    refine ⟨addF F H1 (ownA ρ1), G1, ds, _, X, R1.wdF (fun _ m => m), by rw [List.append_nil]; exact hv, q, fun p d G' H' e Wd' hG hF ho qd => ?_, fun C f v d dx G' H' e Wd' h1 h2 h3 h4 h5 => ?_⟩
    · have np : p ∉ ownA ρ1 := fun m => by
        obtain ⟨_, _, u, hu, _⟩ := R1.sl.own m
        rw [addF_in m, hu] at hF; cases hF
      rw [addF_out np] at hF
      obtain ⟨u, hu, hmu⟩ := ho.some
      have R2 := R1.back Wd' e
      exact k (.ref p) d ρ1 (upd G' p u) H' ((e1.trans e).trans (Ex.new hG)) (R2.share hu hG hF np (nt_mut hmu).2) (ownR_rep ho (by rw [upd_same, hu]) (Ex.new hG)) qd
    · refine L C f v d dx G' H' (e1.trans e) (R1.back Wd' e).wd h1 h2 ?_ h4 h5
      by_cases m : dx ∈ ownA ρ1
      · exact (R1.sl.own m).2.1
      · rw [addF_out m] at h3; exact h3
theorem fn_XN {P : Program} {w : World} {mg : Str → Option Value} {base : Heap} {x qual : Str} {params : Arguments} {body : List Stmt} {scope : Scope} {fd : FuncData} {N ps : List Str} {k : Nat} {T : List D → (D → Prop) → (Str → Str → D → Prop) → Prop}
    (F : FunD K x qual params body scope [] [] (He.ga K x) fd) (at_ : mg x = some (.ref (He.ga K x)))
    (bi : ∀ (kV doc pm : Value) (an : Option Addr) (cdv ct : Value) (us : List Value), us.length = ps.length → bindArgs (PySem.W.fnOf x qual params body scope .none kV doc pm an cdv ct) ⟨us, []⟩ = pure (ps.zip us))
    (S : FnScope N ps scope) (hl : ∀ ds Qd X, T ds Qd X → ds.length = ps.length)
    (hb : ∀ (cdv : Value) (A : Around) (outer : List PySem.Env) (s : Shared) (H : Hp) (W : XK), Room k (A.deeper (envOfC qual scope s.heap.objs.size (He.ga K x) cdv)) →
      Takes (cxOf (L2.CX P w) P w K mg base N qual scope (He.ga K x) cdv A outer s H W) (fun cls d _ H => W cls d H) → PassesOwn (model P w) (A.deeper (envOfC qual scope s.heap.objs.size (He.ga K x) cdv)) (envOfC qual scope s.heap.objs.size (He.ga K x) cdv) (cxOf (L2.CX P w) P w K mg base N qual scope (He.ga K x) cdv A outer s H W).xe →
      ∃ t, PSs (cxOf (L2.CX P w) P w K mg base N qual scope (He.ga K x) cdv A outer s H W) body t ∧ ∀ ds Qd X, T ds Qd X → WS K t (envP N ds) { nx := fun _ => False, rt := fun d _ => False, ro := fun d _ => Qd d, W := W, xx := X }) :
    FnX P w K mg base (k + 1) x ps (spXN K T) := by
  refine ⟨⟨fd, F.ok S (fun vs H Q E h => ?_) (fun cdv A outer s H vs Q W hr h => ?_), F.bindsN bi⟩, F.kp, at_⟩
  · obtain ⟨_, _, ds, Qd, X, _, r, t, _⟩ := h
    rw [r.length]; exact hl ds Qd X t
  · obtain ⟨F', G, ds, Qd, X, Wd', r, tt, post, lk⟩ := h
    obtain ⟨t, hd, hw⟩ := hb cdv A outer s H W hr (takes_of rfl rfl rfl rfl) (passes_of rfl)
    refine ⟨t, hd, ?_⟩
    have R : RE K F' G H (L2.start N vs) (envP N ds) := by
      unfold L2.start
      refine ⟨Wd', by rw [r.length]; exact slots_start _ r, by rw [own_start]; exact List.nodup_nil⟩
    refine hw ds Qd X tt F' G H (L2.start N vs) _ R ⟨fun σ' ρ' G' H' e R' q => q.elim, fun v d σ' ρ' G' H' e R' hv q => q.elim, fun σ' ρ' G' H' e R' q => q.elim, fun σ' ρ' G' H' e R' q => q.elim, fun p d σ' ρ' G' H' e R' hG hF _ o q => post p d G' H' e R'.wd hG hF o q, lk⟩
end
end DL

set_option Elab.async false
set_option linter.all false
set_option maxRecDepth 100000
namespace DL
open PySem PySem.Spec PyProof.Rows L2 SrtK RZ
variable [TabL]
theorem pe_either {X : Cx} {e : Expr} {t u : TE} (h : PE X e t) (h' : PE X e u) : PE X e (fun σ H Q => t σ H Q ∨ u σ H Q) :=
  ⟨fun pins s σ H Q I q => q.elim (fun q => h.run pins s σ H Q I q) fun q => h'.run pins s σ H Q I q⟩
theorem kzipA {X : Cx} {K : PySem.W.Frag} {e e2 : Expr} {ta : TA} {p pos tpos : Pos} {elts : List Expr} {kk : Nat} (h : X.K = K) (hg : Gl X "zip") (hm : X.mg "zip" = none) (ha : PA X [e, e2] ta)
    (hs : starEach [e, e2] X.env = (false, eval e X.env) :: starEach [e2] X.env := by rfl) (hpl : (backTo pos (starEach [e2] X.env)).any (·.1) = false := by rfl) :
    PI X (.Tuple elts kk tpos) (.Call (.Name "zip" p) [e, e2] [] pos) (iZipA K ta) := h ▸ pi_zipA hg hm ha hs hpl
section
variable {K : PySem.W.Frag} {te ta tb tc td ty tv tx tk : TE} {tt tu : TT} {ts : TA} {ρ : Env} {Q : D → Env → Prop} {E : EndD}
def zipD (xs ys : List D) : List D := xs.zipWith (fun x y => D.tup [x, y]) ys
theorem zipD_len {xs ys : List D} : (zipD xs ys).length = min xs.length ys.length := List.length_zipWith ..
theorem zipD_at {xs ys : List D} {i : Nat} {d : D} (h : (zipD xs ys)[i]? = some d) : ∃ x y, xs[i]? = some x ∧ ys[i]? = some y ∧ d = .tup [x, y] := by
  unfold zipD at h
  rw [List.getElem?_zipWith] at h
  cases hx : xs[i]? with
  | none => rw [hx] at h; simp at h
  | some x =>
    cases hy : ys[i]? with
    | none => rw [hx, hy] at h; simp at h
    | some y => rw [hx, hy] at h; simp at h; exact ⟨x, y, rfl, rfl, h.symm⟩
theorem yl_zip {G : Hp} {a b : Addr} {vs ws : List V} {xs ys : List D} (h1 : G a = some (.lst vs)) (h2 : Reps K G vs xs) (h3 : G b = some (.lst ws)) (h4 : Reps K G ws ys) : Yields K G (Itz K a b) (zipD xs ys) where
  go := fun F G2 H2 σ ρ i e R hi => by
    rw [zipD_len] at hi
    have l1 : i < vs.length := by rw [h2.length]; omega
    have l2 : i < ws.length := by rw [h4.length]; omega
    exact ⟨vs, ws, vs[i], ws[i], .inl (.inl (R.wd.g _ _ (e _ _ h1))), .inl (.inl (R.wd.g _ _ (e _ _ h3))), List.getElem?_eq_getElem l1, List.getElem?_eq_getElem l2⟩
  stop := fun F G2 H2 σ ρ e R => ⟨vs, ws, .inl (.inl (R.wd.g _ _ (e _ _ h1))), .inl (.inl (R.wd.g _ _ (e _ _ h3))), by rw [zipD_len, h2.length, h4.length]; omega⟩
  yld := fun F G2 H2 σ ρ i x H3 e R hi y => by
    obtain ⟨T, u, v, rfl, hT, rfl, y1, y2⟩ := y
    have q1 := y1 vs (.inl (.inl (R.wd.g _ _ (e _ _ h1))))
    have q2 := y2 ws (.inl (.inl (R.wd.g _ _ (e _ _ h3))))
    obtain ⟨d1, e1, r1⟩ := h2.getV q1
    obtain ⟨d2, e2, r2⟩ := h4.getV q2
    have en := Ex.new (o := .tup [u, v]) (R.wd.g.none hT)
    refine ⟨_, .tup [d1, d2], en, R.new hT, ?_, .tup upd_same (.cons ((r1.mono e).mono en) (.cons ((r2.mono e).mono en) .nil))⟩
    unfold zipD
    rw [List.getElem?_zipWith, e1, e2]
theorem yl_zipT {G : Hp} {a b : Addr} {vs ws : List V} {xs ys : List D} (h1 : G a = some (.tup vs)) (h2 : Reps K G vs xs) (h3 : G b = some (.tup ws)) (h4 : Reps K G ws ys) : Yields K G (ItzT K a b) (zipD xs ys) where
  go := fun F G2 H2 σ ρ i e R hi => by
    rw [zipD_len] at hi
    have l1 : i < vs.length := by rw [h2.length]; omega
    have l2 : i < ws.length := by rw [h4.length]; omega
    exact ⟨vs, ws, vs[i], ws[i], R.wd.g.sqT (e _ _ h1), R.wd.g.sqT (e _ _ h3), List.getElem?_eq_getElem l1, List.getElem?_eq_getElem l2⟩
  stop := fun F G2 H2 σ ρ e R => ⟨vs, ws, R.wd.g.sqT (e _ _ h1), R.wd.g.sqT (e _ _ h3), by rw [zipD_len, h2.length, h4.length]; omega⟩
  yld := fun F G2 H2 σ ρ i x H3 e R hi y => by
    obtain ⟨T, u, v, rfl, hT, rfl, y1, y2⟩ := y
    have q1 := y1 vs (R.wd.g.sqT (e _ _ h1))
    have q2 := y2 ws (R.wd.g.sqT (e _ _ h3))
    obtain ⟨d1, e1, r1⟩ := h2.getV q1
    obtain ⟨d2, e2, r2⟩ := h4.getV q2
    have en := Ex.new (o := .tup [u, v]) (R.wd.g.none hT)
    refine ⟨_, .tup [d1, d2], en, R.new hT, ?_, .tup upd_same (.cons ((r1.mono e).mono en) (.cons ((r2.mono e).mono en) .nil))⟩
    unfold zipD
    rw [List.getElem?_zipWith, e1, e2]
theorem ei_zip {Q : List D → Env → Prop} (h : EvA K ts ρ fun ds ρ1 => ∃ xs ys, (ds = [.lst xs, .lst ys] ∨ ds = [.tup xs, .tup ys]) ∧ Q (zipD xs ys) ρ1) : EvI K (iZipA K ts) ρ Q := fun F G H σ R R' k =>
  h F G H σ R _ fun vs ds ρ1 G1 H1 e1 R1 hv q => by
    obtain ⟨xs, ys, hds, q⟩ := q
    rcases hds with rfl | rfl
    · obtain ⟨v, w, rfl, a1, a2⟩ := hv.two
      obtain ⟨a, us, rfl, h1, h2⟩ := rep_lst a1
      obtain ⟨b, ws, rfl, h3, h4⟩ := rep_lst a2
      exact ⟨a, b, us, ws, rfl, .inl ⟨.inl (.inl (R1.wd.g _ _ h1)), .inl (.inl (R1.wd.g _ _ h3)), k _ _ ρ1 G1 H1 e1 R1 (yl_zip h1 h2 h3 h4) q⟩⟩
    · obtain ⟨v, w, rfl, a1, a2⟩ := hv.two
      obtain ⟨a, us, rfl, h1, h2⟩ := rep_tup a1
      obtain ⟨b, ws, rfl, h3, h4⟩ := rep_tup a2
      exact ⟨a, b, us, ws, rfl, .inr ⟨R1.wd.g.sqT h1, R1.wd.g.sqT h3, k _ _ ρ1 G1 H1 e1 R1 (yl_zipT h1 h2 h3 h4) q⟩⟩
end
theorem srtK_mem {ks : List (List Key)} {k : List Key} : k ∈ srtK ks ↔ k ∈ ks := (srt_perm lexK_swo ks).mem_iff
theorem srtK_len (ks : List (List Key)) : (srtK ks).length = ks.length := (srt_perm lexK_swo ks).length_eq
theorem srtK_nodup {ks : List (List Key)} (h : ks.Nodup) : (srtK ks).Nodup := (srt_perm lexK_swo ks).nodup_iff.mpr h
/-! ### comprehensions over data of one sort -/
section
variable {K : PySem.W.Frag} {te ta tb tc td ty tv tx tk : TE} {tt tu : TT} {ts : TA} {ρ : Env} {Q : D → Env → Prop} {E : EndD} {α : Type}
theorem filter_take' {p : α → Bool} {ds : List α} {i : Nat} {d : α} (h : ds[i]? = some d) : (ds.take (i + 1)).filter p = (ds.take i).filter p ++ (if p d = true then [d] else []) := by
  rw [List.take_add_one, h, List.filter_append]
  congr 1
  by_cases z : p d = true
  · rw [if_pos z]; exact List.filter_cons_of_pos z
  · rw [if_neg z]; exact List.filter_cons_of_neg z
theorem en_lcFt {wi : TI} {g : TG} {vs : List Nat} (e : α → D) (ys : List α) (f : α → D) (p : α → Bool) (h : EvI K wi ρ fun ds ρ1 => ds = ys.map e ∧ ownFree ρ1 vs = true ∧ ys.length ≤ 90000 ∧
      (∀ y ∈ ys, GV K g vs (e y) (wipeE ρ1 vs) fun ρ2 => EvT K tt ρ2 fun b ρ3 => ρ3 = ρ2 ∧ b = p y ∧ (p y = true → EvW K te ρ2 fun z ρ4 => ρ4 = ρ2 ∧ z = f y)) ∧
      Q (.lst ((ys.filter p).map f)) ρ1) : EvN K (tLc wi g tt te vs) ρ Q := by
  refine en_lc fun F G H σ R R' k => h F G H σ R R' fun J ds ρ' G' H' e R1 Y q => k J ds ρ' G' H' e R1 Y ?_
  obtain ⟨rfl, h1, h2, h3, h4⟩ := q
  refine ⟨h1, by rw [List.length_map]; exact h2, fun i acc => acc = ((ys.take i).filter p).map f, by simp, fun i d acc hd hp => ?_, fun acc hp => ?_⟩
  · subst hp
    rw [List.getElem?_map] at hd
    obtain ⟨y, hy, rfl⟩ := Option.map_eq_some_iff.mp hd
    refine fun F G H σ v R hv Q' k => h3 y (List.mem_of_getElem? hy) F G H σ v R hv Q' fun σ' ρ2 l s R2 q2 => k σ' ρ2 l s R2 (et_weak q2 fun b ρ3 z => ⟨z.1, ?_⟩)
    obtain ⟨_, rfl, z⟩ := z
    have e := filter_take' (p := p) hy
    cases c : p y with
    | true =>
      rw [if_pos rfl]
      refine ew_weak (z c) fun y ρ4 w => ⟨w.1, ?_⟩
      show _ = List.map f (List.filter p (List.take (i + 1) ys))
      rw [e, c, w.2, if_pos rfl, List.map_append]; rfl
    | false =>
      rw [if_neg (by decide)]
      show _ = List.map f (List.filter p (List.take (i + 1) ys))
      rw [e, c, if_neg (by decide), List.append_nil]
  · subst hp
    rw [List.length_map, List.take_length]; exact h4
theorem en_lcMt {wi : TI} {g : TG} {vs : List Nat} (e : α → D) (ys : List α) (f : α → D) (h : EvI K wi ρ fun ds ρ1 => ds = ys.map e ∧ ownFree ρ1 vs = true ∧ ys.length ≤ 90000 ∧
      (∀ y ∈ ys, GV K g vs (e y) (wipeE ρ1 vs) fun ρ2 => EvW K te ρ2 fun z ρ4 => ρ4 = ρ2 ∧ z = f y) ∧
      Q (.lst (ys.map f)) ρ1) : EvN K (tLc wi g tYes te vs) ρ Q := by
  refine en_lc fun F G H σ R R' k => h F G H σ R R' fun J ds ρ' G' H' e R1 Y q => k J ds ρ' G' H' e R1 Y ?_
  obtain ⟨rfl, h1, h2, h3, h4⟩ := q
  refine ⟨h1, by rw [List.length_map]; exact h2, fun i acc => acc = (ys.take i).map f, by simp, fun i d acc hd hp => ?_, fun acc hp => ?_⟩
  · subst hp
    rw [List.getElem?_map] at hd
    obtain ⟨y, hy, rfl⟩ := Option.map_eq_some_iff.mp hd
    refine fun F G H σ v R hv Q' k => h3 y (List.mem_of_getElem? hy) F G H σ v R hv Q' fun σ' ρ2 l s R2 q2 => k σ' ρ2 l s R2 (et_yes ⟨rfl, ?_⟩)
    refine ew_weak q2 fun z ρ4 w => ⟨w.1, ?_⟩
    show _ ++ [z] = List.map f (List.take (i + 1) ys)
    rw [w.2, List.take_add_one, hy, List.map_append]; rfl
  · subst hp
    rw [List.length_map, List.take_length]; exact h4
theorem en_lcDMt {wi : TI} {g : TG} {vs : List Nat} {i0 : Nat} {d0 : D} (e : α → D) (ys : List α) (f : α → D) (hi : ρ[i0]? = some (.sh d0)) (hd : d0.isDict = true) (W : WalkD K wi i0 d0 (ys.map e)) (hv0 : ownFree ρ vs = true) (hlen : ys.length ≤ 90000)
      (turn : ∀ y ∈ ys, GV K g vs (e y) (wipeE ρ vs) fun ρ2 => EvW K te ρ2 fun z ρ4 => ρ4 = ρ2 ∧ z = f y)
      (fin : Q (.lst (ys.map f)) ρ) : EvN K (fun σ H Q => tLockE (tLc wi g tYes te vs) σ H Q ∨ tLc wi g tYes te vs σ H Q) ρ Q := by
  refine en_lcD hi hd W hv0 (by rw [List.length_map]; exact hlen) (fun i acc => acc = (ys.take i).map f) (by simp) (fun i d acc hd hp => ?_) (fun acc hp => ?_)
  · subst hp
    rw [List.getElem?_map] at hd
    obtain ⟨y, hy, rfl⟩ := Option.map_eq_some_iff.mp hd
    refine fun F G H σ v R hv Q' k => turn y (List.mem_of_getElem? hy) F G H σ v R hv Q' fun σ' ρ2 l s R2 q2 => k σ' ρ2 l s R2 (et_yes ⟨rfl, ?_⟩)
    refine ew_weak q2 fun z ρ4 w => ⟨w.1, ?_⟩
    rw [w.2, List.take_add_one, hy, List.map_append]; rfl
  · subst hp
    rw [List.length_map, List.take_length]; exact fin
end
/-! ### dicts of ints -/
section
variable {κ : Type} [DecidableEq κ]
def ilift (s : List (κ × Int)) : List (κ × D) := s.map fun p => (p.1, .int p.2)
def iget (s : List (κ × Int)) (k : κ) : Int := ((s.find? fun kv => decide (kv.1 = k)).map (·.2)).getD 0
def iput (s : List (κ × Int)) (k : κ) (v : Int) : List (κ × Int) := if (s.any fun kv => decide (kv.1 = k)) = true then s.map (fun kv => if kv.1 = k then (kv.1, v) else kv) else s ++ [(k, v)]
theorem ilift_keys (s : List (κ × Int)) : (ilift s).map (·.1) = s.map (·.1) := by unfold ilift; rw [List.map_map]; rfl
theorem ilift_len (s : List (κ × Int)) : (ilift s).length = s.length := List.length_map ..
theorem dget_ilift (s : List (κ × Int)) (k : κ) : dget (ilift s) k = (s.find? fun kv => decide (kv.1 = k)).map fun p => D.int p.2 := by
  unfold dget ilift
  rw [List.find?_map]
  cases h : s.find? ((fun kv => decide (kv.1 = k)) ∘ fun p => (p.1, D.int p.2)) with
  | none =>
    have : (s.find? fun kv => decide (kv.1 = k)) = none := h
    rw [this]; rfl
  | some p =>
    have : (s.find? fun kv => decide (kv.1 = k)) = some p := h
    rw [this]; rfl
theorem dget_ilift_getD (s : List (κ × Int)) (k : κ) : (dget (ilift s) k).getD (.int 0) = .int (iget s k) := by
  rw [dget_ilift]
  unfold iget
  cases s.find? fun kv => decide (kv.1 = k) <;> rfl
theorem dget_ilift_mem {s : List (κ × Int)} {k : κ} (h : k ∈ s.map (·.1)) : dget (ilift s) k = some (.int (iget s k)) := by
  rw [dget_ilift]
  unfold iget
  cases z : s.find? fun kv => decide (kv.1 = k) with
  | some p => rfl
  | none =>
    rw [List.find?_eq_none] at z
    obtain ⟨p, hp, rfl⟩ := List.mem_map.mp h
    exact absurd (decide_eq_true rfl) (z p hp)
theorem dput_ilift (s : List (κ × Int)) (k : κ) (v : Int) : dput (ilift s) k (.int v) = ilift (iput s k v) := by
  unfold dput iput ilift
  rw [List.any_map]
  have e : (s.any ((fun kv => decide (kv.1 = k)) ∘ fun p => (p.1, D.int p.2))) = s.any fun kv => decide (kv.1 = k) := rfl
  rw [e]
  split
  · rw [List.map_map, List.map_map]
    refine List.map_congr_left fun p _ => ?_
    simp only [Function.comp]
    split <;> rfl
  · rw [List.map_append]; rfl
theorem iput_keys (s : List (κ × Int)) (k : κ) (v : Int) : (iput s k v).map (·.1) = if k ∈ s.map (·.1) then s.map (·.1) else s.map (·.1) ++ [k] := by
  unfold iput
  have e : (s.any fun kv => decide (kv.1 = k)) = decide (k ∈ s.map (·.1)) := by
    rw [Bool.eq_iff_iff, List.any_eq_true, decide_eq_true_eq, List.mem_map]
    constructor
    · rintro ⟨p, hp, e⟩; exact ⟨p, hp, of_decide_eq_true e⟩
    · rintro ⟨p, hp, e⟩; exact ⟨p, hp, decide_eq_true e⟩
  rw [e]
  by_cases h : k ∈ s.map (·.1)
  · rw [if_pos (decide_eq_true h), if_pos h, List.map_map]
    refine List.map_congr_left fun p _ => ?_
    simp only [Function.comp]
    split <;> rfl
  · rw [if_neg (by rw [decide_eq_false h]; decide), if_neg h, List.map_append]; rfl
theorem iput_nodup {s : List (κ × Int)} (h : (s.map (·.1)).Nodup) (k : κ) (v : Int) : ((iput s k v).map (·.1)).Nodup := by
  rw [iput_keys]
  split
  · exact h
  · rename_i hk
    rw [List.nodup_append]
    exact ⟨h, List.nodup_cons.mpr ⟨List.not_mem_nil, List.nodup_nil⟩, fun a ha b hb z => by rw [List.mem_singleton.mp hb] at z; exact hk (z ▸ ha)⟩
theorem iput_len (s : List (κ × Int)) (k : κ) (v : Int) : (iput s k v).length ≤ s.length + 1 := by
  unfold iput
  split
  · rw [List.length_map]; omega
  · simp
theorem iget_mem : ∀ {s : List (κ × Int)}, (s.map (·.1)).Nodup → ∀ p ∈ s, iget s p.1 = p.2
  | [], _, p, h => by cases h
  | q :: s, nd, p, h => by
    rw [List.map_cons, List.nodup_cons] at nd
    unfold iget
    rw [List.find?_cons]
    rcases List.mem_cons.mp h with e | h
    · subst e; rw [decide_eq_true rfl]; rfl
    · have ne : q.1 ≠ p.1 := fun z => nd.1 (z ▸ List.mem_map.mpr ⟨p, h, rfl⟩)
      rw [decide_eq_false ne]
      exact iget_mem nd.2 p h
/-- amounts added up by a key -/
def sumBy {α : Type} (key : α → κ) (amt : α → Int) (rs : List α) : List (κ × Int) := rs.foldl (fun s r => iput s (key r) (iget s (key r) + amt r)) []
theorem sumBy_snoc {α : Type} (key : α → κ) (amt : α → Int) (rs : List α) (r : α) : sumBy key amt (rs ++ [r]) = iput (sumBy key amt rs) (key r) (iget (sumBy key amt rs) (key r) + amt r) := by
  unfold sumBy
  rw [List.foldl_append]; rfl
theorem sumBy_nodup {α : Type} (key : α → κ) (amt : α → Int) (rs : List α) : ((sumBy key amt rs).map (·.1)).Nodup := by
  have h : ∀ (rs : List α) (s : List (κ × Int)), (s.map (·.1)).Nodup → ((rs.foldl (fun s r => iput s (key r) (iget s (key r) + amt r)) s).map (·.1)).Nodup := by
    intro rs
    induction rs with
    | nil => intro s h; exact h
    | cons r rs ih => intro s h; exact ih _ (iput_nodup h _ _)
  exact h rs [] List.nodup_nil
theorem sumBy_len {α : Type} (key : α → κ) (amt : α → Int) (rs : List α) : (sumBy key amt rs).length ≤ rs.length := by
  have h : ∀ (rs : List α) (s : List (κ × Int)), (rs.foldl (fun s r => iput s (key r) (iget s (key r) + amt r)) s).length ≤ s.length + rs.length := by
    intro rs
    induction rs with
    | nil => intro s; simp
    | cons r rs ih =>
      intro s
      rw [List.foldl_cons, List.length_cons]
      have h1 := ih (iput s (key r) (iget s (key r) + amt r))
      have h2 := iput_len s (key r) (iget s (key r) + amt r)
      omega
  have := h rs []
  unfold sumBy
  simpa using this
theorem sumBy_keys {α : Type} (key : α → κ) (amt : α → Int) (rs : List α) : ∀ k ∈ (sumBy key amt rs).map (·.1), ∃ r ∈ rs, k = key r := by
  have h : ∀ (rs : List α) (s : List (κ × Int)) k, k ∈ (rs.foldl (fun s r => iput s (key r) (iget s (key r) + amt r)) s).map (·.1) → k ∈ s.map (·.1) ∨ ∃ r ∈ rs, k = key r := by
    intro rs
    induction rs with
    | nil => intro s k h; exact .inl h
    | cons r rs ih =>
      intro s k h
      rcases ih _ k h with z | ⟨r', m, e⟩
      · rw [iput_keys] at z
        split at z
        · exact .inl z
        · rcases List.mem_append.mp z with z | z
          · exact .inl z
          · exact .inr ⟨r, List.mem_cons_self, List.mem_singleton.mp z⟩
      · exact .inr ⟨r', List.mem_cons_of_mem _ m, e⟩
  intro k hk
  rcases h rs [] k hk with z | z
  · cases z
  · exact z
/-- pairs with unlike keys, put one after another, stand as they are -/
theorem dputs_nodup : ∀ (ps acc : List (κ × D)), ((acc ++ ps).map (·.1)).Nodup → dputs acc ps = acc ++ ps
  | [], acc, _ => (List.append_nil _).symm
  | p :: ps, acc, h => by
    have hk : p.1 ∉ acc.map (·.1) := fun m => by
      rw [List.map_append, List.nodup_append] at h
      exact h.2.2 _ m _ (by simp) rfl
    have e : dput acc p.1 p.2 = acc ++ [p] := by
      unfold dput
      have : (acc.any fun kv => decide (kv.1 = p.1)) = false := by
        rw [Bool.eq_false_iff]
        intro z
        obtain ⟨q, hq, e⟩ := List.any_eq_true.mp z
        exact hk (List.mem_map.mpr ⟨q, hq, of_decide_eq_true e⟩)
      rw [this, if_neg (by decide)]
    show dputs (dput acc p.1 p.2) ps = _
    rw [e, dputs_nodup ps (acc ++ [p]) (by rw [List.append_assoc]; exact h), List.append_assoc]; rfl
end
end DL

set_option Elab.async false
set_option linter.all false
set_option maxRecDepth 100000
namespace DL
open PySem PySem.Spec PyProof.Rows L2 SrtK
variable [TabL]
theorem slots_un {K : PySem.W.Frag} {F G H : Hp} : ∀ n : Nat, Slots K F G H (List.replicate n none) (List.replicate n Sl.un)
  | 0 => trivial
  | n + 1 => ⟨trivial, slots_un n⟩
/-! ### the same data twice -/
inductive PyOk : Nat → D → Prop
  | non {n : Nat} : PyOk n .non
  | bl {n : Nat} (b : Bool) : PyOk n (.bl b)
  | int {n : Nat} (i : Int) : PyOk n (.int i)
  | str {n : Nat} {x : Str} : PyData.strOk x = true → PyOk n (.str x)
  | lst {n : Nat} {xs : List D} : (∀ x ∈ xs, PyOk n x) → PyOk (n + 1) (.lst xs)
  | tup {n : Nat} {xs : List D} : (∀ x ∈ xs, PyOk n x) → PyOk (n + 1) (.tup xs)
theorem pyOk_all {n : Nat} (ih : ∀ x, PyOk n x → ∃ p, toPy x = some p ∧ p.canLay0 = true ∧ p.depth ≤ n) : ∀ xs : List D, (∀ x ∈ xs, PyOk n x) → ∃ ps, toPys xs = some ps ∧ PyData.canLayAll0 ps = true ∧ PyData.depthAll ps ≤ n
  | [], _ => ⟨[], by rw [toPys], by simp [PyData.canLayAll0], by simp [PyData.depthAll]⟩
  | x :: xs, h => by
    obtain ⟨p, h1, h2, h3⟩ := ih x (h x List.mem_cons_self)
    obtain ⟨ps, g1, g2, g3⟩ := pyOk_all ih xs fun y hy => h y (List.mem_cons_of_mem _ hy)
    refine ⟨p :: ps, by rw [toPys, h1, g1], ?_, ?_⟩
    · rw [PyData.canLayAll0, h2, g2]; rfl
    · rw [PyData.depthAll]; omega
theorem pyOk_py : ∀ (n : Nat) (x : D), PyOk n x → ∃ p, toPy x = some p ∧ p.canLay0 = true ∧ p.depth ≤ n
  | _, _, .non => ⟨.none, by rw [toPy], by simp [PyData.canLay0], by simp [PyData.depth]⟩
  | _, _, .bl b => ⟨.bool b, by rw [toPy], by simp [PyData.canLay0], by simp [PyData.depth]⟩
  | _, _, .int b => ⟨.int b, by rw [toPy], by simp [PyData.canLay0], by simp [PyData.depth]⟩
  | _, _, .str (x := b) h => ⟨.str b, by rw [toPy], by rw [PyData.canLay0]; exact h, by simp [PyData.depth]⟩
  | n + 1, .lst xs, .lst h => by
    obtain ⟨ps, h1, h2, h3⟩ := pyOk_all (pyOk_py n) xs h
    exact ⟨.list ps, by rw [toPy, h1]; rfl, by rw [PyData.canLay0]; exact h2, by rw [PyData.depth]; omega⟩
  | n + 1, .tup xs, .tup h => by
    obtain ⟨ps, h1, h2, h3⟩ := pyOk_all (pyOk_py n) xs h
    exact ⟨.tuple ps, by rw [toPy, h1]; rfl, by rw [PyData.canLay0]; exact h2, by rw [PyData.depth]; omega⟩
section
variable {K : PySem.W.Frag} {te ta tb tc td ty tv tx tk : TE} {tt tu : TT} {ts : TA} {t u : TS} {ρ : Env} {Q : D → Env → Prop} {E : EndD}
theorem op2_neSelf {x : D} {n : Nat} (h : PyOk n x) (hn : n ≤ 64) (q : Q (.bl false) ρ) : Op2 K (rNeD K) x x ρ Q := by
  obtain ⟨p, h1, h2, h3⟩ := pyOk_py n x h
  have sh : SeqAt.shaped p = true := by
    unfold SeqAt.shaped
    rw [h2, decide_eq_true (Nat.le_trans h3 hn)]; rfl
  refine op2_neD h1 h1 sh sh ?_
  rw [SeqAt.eqv_refl p h2]
  exact q
theorem op2_eqSelf {x : D} {n : Nat} (h : PyOk n x) (hn : n ≤ 64) (q : Q (.bl true) ρ) : Op2 K (rEqD K) x x ρ Q := by
  obtain ⟨p, h1, h2, h3⟩ := pyOk_py n x h
  have sh : SeqAt.shaped p = true := by
    unfold SeqAt.shaped
    rw [h2, decide_eq_true (Nat.le_trans h3 hn)]; rfl
  refine op2_eqD h1 h1 sh sh ?_
  rw [SeqAt.eqv_refl p h2]
  exact q
/-- what stands between two statements -/
theorem ws_mid (C : Env → Prop) (h : WS K t ρ { E with nx := C }) (k : ∀ ρ', C ρ' → WS K u ρ' E) : WS K (tSeq t u) ρ E := ws_seq fun F G H σ Dn R L => h F G H σ Dn R ⟨fun σ' ρ' G' H' e R' q => L.nx σ' ρ' G' H' e R' (k ρ' q), L.rt, L.bk, L.ct, L.ro, L.xx⟩
end
end DL

set_option Elab.async false
set_option linter.all false
set_option maxRecDepth 100000
namespace DL
open PySem PySem.Spec PyProof.Rows L2 SrtK
variable [TabL]
/-! ### the universal promise: own things lent, a result shared or new, an exception -/
inductive Ag where
  | sh (d : D) | ow (d : D) | dr
inductive RV where
  | sh (d : D) | nw (d : D)
def RV.d : RV → D
  | .sh d => d
  | .nw d => d
def Sl.er : Sl → Ag
  | .sh d => .sh d
  | .own _ d => .ow d
  | .drw _ => .dr
  | _ => .sh .non
def Sl.isArg : Sl → Bool
  | .sh _ => true
  | .own _ _ => true
  | .drw _ => true
  | _ => false
def SameS : Sl → Sl → Prop
  | .sh d, s => s = .sh d
  | .own a _, s => ∃ d, s = .own a d
  | .drw a, s => s = .drw a
  | _, _ => False
def SameA : Env → Env → Prop
  | [], [] => True
  | r :: ρ, s :: τ => SameS r s ∧ SameA ρ τ
  | _, _ => False
section
variable {K : PySem.W.Frag} {te ta tb tc td ty tv tx tk : TE} {tt tu : TT} {ts : TA} {t u : TS} {ρ : Env} {E : EndD}
theorem SameS.adr {r s : Sl} (h : SameS r s) : s.adr = r.adr := by
  cases r with
  | sh d => rw [show s = .sh d from h]
  | own a d => obtain ⟨d', rfl⟩ := h; rfl
  | drw a => rw [show s = .drw a from h]
  | _ => exact h.elim
theorem SameA.own : ∀ {ρ τ : Env}, SameA ρ τ → ownA τ = ownA ρ
  | [], [], _ => rfl
  | [], _ :: _, h => h.elim
  | _ :: _, [], h => h.elim
  | r :: ρ, s :: τ, h => by rw [ownA_cons, ownA_cons, h.1.adr, SameA.own h.2]
def RvOk (K : PySem.W.Frag) (F G H : Hp) (ρ : Env) (v : V) : RV → Prop
  | .sh d => Rep K G v d
  | .nw d => ∃ p, v = .ref p ∧ G p = none ∧ F p = none ∧ p ∉ ownA ρ ∧ OwnR K G (H p) d
/-- a result, shared or new -/
def EvR (K : PySem.W.Frag) (te : TE) (ρ : Env) (Q : RV → Env → Prop) : Prop := ∀ F G H σ, RE K F G H σ ρ → ∀ Q' : VK,
  (∀ v r ρ' G' H', Ex G G' → RE K F G' H' σ ρ' → RvOk K F G' H' ρ' v r → Q r ρ' → Q' v H') → te σ H Q'
theorem ew_rv {Q : D → Env → Prop} (h : EvR K te ρ fun r ρ' => Q r.d ρ') : EvW K te ρ Q := fun F G H σ R Q' k => h F G H σ R Q' fun v r ρ' G' H' e R' hr q => by
  cases r with
  | sh d => exact k v d ρ' G' H' e R' hr q
  | nw d =>
    obtain ⟨p, rfl, hG, hF, hO, o⟩ := hr
    obtain ⟨u, hu, hm⟩ := o.some
    exact k (.ref p) d ρ' (upd G' p u) H' (e.trans (Ex.new hG)) (R'.share hu hG hF hO (nt_mut hm).2) (ownR_rep o (by rw [upd_same, hu]) (Ex.new hG)) q
theorem en_rv {Q : D → Env → Prop} (h : EvR K te ρ fun r ρ' => ∃ d, r = .nw d ∧ Q d ρ') : EvN K te ρ Q := fun F G H σ R Q' k => h F G H σ R Q' fun v r ρ' G' H' e R' hr q => by
  obtain ⟨d, rfl, q⟩ := q
  obtain ⟨p, rfl, hG, hF, hO, o⟩ := hr
  exact k p d ρ' G' H' e R' hG hF hO o q
def spU (K : PySem.W.Frag) (T : List Ag → (RV → List Ag → Prop) → (Str → Str → D → Prop) → Prop) : Sp := fun vs H Q W => ∃ F G ags Qd X, RE K F G H (vs.map some) ags ∧ (∀ s ∈ ags, s.isArg = true) ∧ T (ags.map Sl.er) Qd X ∧
  (∀ v r ags' G' H', Ex G G' → RE K F G' H' (vs.map some) ags' → SameA ags ags' → RvOk K F G' H' ags' v r → Qd r (ags'.map Sl.er) → Q v H') ∧ XLink K F G W X
/-- what the parameters are in the end -/
def FinL : Env → Env → (List Ag → Prop) → Prop
  | [], _, C => C []
  | .sh d :: as, ρ, C => FinL as ρ.tail fun l => C (.sh d :: l)
  | .own a _ :: as, ρ, C => ∃ d, ρ.head? = some (.own a d) ∧ FinL as ρ.tail fun l => C (.ow d :: l)
  | .drw a :: as, ρ, C => ρ.head? = some (.drw a) ∧ FinL as ρ.tail fun l => C (.dr :: l)
  | _ :: _, _, _ => False
theorem finL_ok {F G G' H H' : Hp} (e : Ex G G') : ∀ {vs : List V} {ags : Env} {σ : L2.St} {ρ : Env} {C : List Ag → Prop}, Slots K F G H (vs.map some) ags → Slots K F G' H' σ ρ → FinL ags ρ C → ∃ ags', Slots K F G' H' (vs.map some) ags' ∧ SameA ags ags' ∧ C (ags'.map Sl.er)
  | [], [], _, _, _, _, _, h => ⟨[], trivial, trivial, h⟩
  | [], _ :: _, _, _, _, h, _, _ => h.elim
  | _ :: _, [], _, _, _, h, _, _ => h.elim
  | v :: vs, .sh d :: as, σ, ρ, C, h1, h2, h => by
    obtain ⟨⟨v', ev, hv⟩, h1⟩ := h1
    have ht : Slots K F G' H' σ.tail ρ.tail := by
      cases σ with
      | nil => cases ρ with
        | nil => trivial
        | cons _ _ => exact h2.elim
      | cons _ _ => cases ρ with
        | nil => exact h2.elim
        | cons _ _ => exact h2.2
    obtain ⟨ags', g1, g2, g3⟩ := finL_ok e (vs := vs) (ags := as) h1 ht h
    exact ⟨.sh d :: ags', ⟨⟨v', ev, hv.mono e⟩, g1⟩, ⟨rfl, g2⟩, g3⟩
  | v :: vs, .own a d0 :: as, σ, ρ, C, h1, h2, h => by
    obtain ⟨⟨ev, _⟩, h1⟩ := h1
    obtain ⟨d, hd, h⟩ := h
    cases ρ with
    | nil => cases hd
    | cons r ρ =>
      cases σ with
      | nil => exact h2.elim
      | cons s σ =>
        cases hd
        obtain ⟨ags', g1, g2, g3⟩ := finL_ok e (vs := vs) (ags := as) h1 h2.2 h
        obtain ⟨_, k1, k2, k3⟩ := h2.1
        exact ⟨.own a d :: ags', ⟨⟨ev, k1, k2, k3⟩, g1⟩, ⟨⟨d, rfl⟩, g2⟩, g3⟩
  | v :: vs, .drw a :: as, σ, ρ, C, h1, h2, h => by
    obtain ⟨⟨ev, _⟩, h1⟩ := h1
    obtain ⟨hd, h⟩ := h
    cases ρ with
    | nil => cases hd
    | cons r ρ =>
      cases σ with
      | nil => exact h2.elim
      | cons s σ =>
        cases hd
        obtain ⟨ags', g1, g2, g3⟩ := finL_ok e (vs := vs) (ags := as) h1 h2.2 h
        obtain ⟨_, k1, k2, k3⟩ := h2.1
        exact ⟨.drw a :: ags', ⟨⟨ev, k1, k2, k3⟩, g1⟩, ⟨rfl, g2⟩, g3⟩
  | v :: vs, .un :: as, _, _, _, _, _, h => h.elim
  | v :: vs, .two _ _ _ _ :: as, _, _, _, _, _, h => h.elim
theorem slots_app {F G H : Hp} : ∀ {σ : L2.St} {ρ : Env} (n : Nat), Slots K F G H σ ρ → Slots K F G H (σ ++ List.replicate n none) (ρ ++ List.replicate n Sl.un)
  | [], [], n, _ => slots_un n
  | [], _ :: _, _, h => h.elim
  | _ :: _, [], _, h => h.elim
  | _ :: _, _ :: _, n, h => ⟨h.1, slots_app n h.2⟩
theorem ownA_app (ρ : Env) (n : Nat) : ownA (ρ ++ List.replicate n Sl.un) = ownA ρ := by
  unfold ownA
  rw [List.flatMap_append]
  have : (List.replicate n Sl.un).flatMap Sl.adr = [] := ownA_un n
  rw [this, List.append_nil]
/-- the body of such a def -/
def BodyU (K : PySem.W.Frag) (N : List Str) (W : XK) (T : List Ag → (RV → List Ag → Prop) → (Str → Str → D → Prop) → Prop) (t : TS) : Prop := ∀ ags Qd X, (∀ s ∈ ags, s.isArg = true) → T (ags.map Sl.er) Qd X →
  WS K t (ags ++ List.replicate (N.length - ags.length) .un) { nx := fun ρ => FinL ags ρ (Qd (.sh .non)), rt := fun d ρ => FinL ags ρ (Qd (.sh d)), ro := fun d ρ => FinL ags ρ (Qd (.nw d)), W := W, xx := X }
theorem body_run {N : List Str} {W : XK} {T : List Ag → (RV → List Ag → Prop) → (Str → Str → D → Prop) → Prop} {t : TS} {vs : List V} {H : Hp} {Q : VK} (hw : BodyU K N W T t) (h : spU K T vs H Q W) : t { nx := fun _ H' => Q .non H', rt := Q } (L2.start N vs) H := by
  obtain ⟨F, G, ags, Qd, X, R, ha, tt, post, lk⟩ := h
  have hl : vs.length = ags.length := by have := R.sl.length; rw [List.length_map] at this; exact this
  have R1 : RE K F G H (L2.start N vs) (ags ++ List.replicate (N.length - ags.length) .un) := by
    unfold L2.start
    rw [hl]
    exact ⟨R.wd, slots_app _ R.sl, by rw [ownA_app]; exact R.nd⟩
  have fin : ∀ {C : List Ag → Prop} {σ' : L2.St} {ρ' : Env} {G' H' : Hp}, Ex G G' → RE K F G' H' σ' ρ' → FinL ags ρ' C → ∃ ags', RE K F G' H' (vs.map some) ags' ∧ SameA ags ags' ∧ C (ags'.map Sl.er) := fun e R' f => by
    obtain ⟨ags', g1, g2, g3⟩ := finL_ok e R.sl R'.sl f
    exact ⟨ags', ⟨R'.wd, g1, by rw [g2.own]; exact R.nd⟩, g2, g3⟩
  refine hw ags Qd X ha tt F G H _ _ R1 ⟨fun σ' ρ' G' H' e R' q => ?_, fun v d σ' ρ' G' H' e R' hv q => ?_, fun σ' ρ' G' H' e R' q => q.elim, fun σ' ρ' G' H' e R' q => q.elim, fun p d σ' ρ' G' H' e R' hG hF hO o q => ?_, lk⟩
  · obtain ⟨ags', g1, g2, g3⟩ := fin e R' q
    exact post .non (.sh .non) ags' G' H' e g1 g2 .non g3
  · obtain ⟨ags', g1, g2, g3⟩ := fin e R' q
    exact post v (.sh d) ags' G' H' e g1 g2 hv g3
  · have key : ∀ {ags : Env} {ρ' : Env} {C : List Ag → Prop}, FinL ags ρ' C → ∀ a ∈ ownA ags, a ∈ ownA ρ' := by
      intro ags
      induction ags with
      | nil => intro ρ' C _ a m; cases m
      | cons r as ih =>
        intro ρ' C f a m
        rw [ownA_cons] at m
        have tl : ∀ {ρ' : Env}, a ∈ ownA ρ'.tail → a ∈ ownA ρ' := fun {ρ'} z => by
          cases ρ' with
          | nil => exact z
          | cons s ρ' => rw [ownA_cons]; exact List.mem_append_right _ z
        cases r with
        | sh d => exact tl (ih f a m)
        | own b d =>
          obtain ⟨d', hd, f⟩ := f
          rcases List.mem_append.mp m with z | z
          · cases ρ' with
            | nil => cases hd
            | cons s ρ' => cases hd; rw [ownA_cons]; exact List.mem_append_left _ z
          · exact tl (ih f a z)
        | drw b =>
          obtain ⟨hd, f⟩ := f
          rcases List.mem_append.mp m with z | z
          · cases ρ' with
            | nil => cases hd
            | cons s ρ' => cases hd; rw [ownA_cons]; exact List.mem_append_left _ z
          · exact tl (ih f a z)
        | un => exact f.elim
        | two _ _ _ _ => exact f.elim
    have sub := key q
    obtain ⟨ags', g1, g2, g3⟩ := fin e R' q
    exact post (.ref p) (.nw d) ags' G' H' e g1 g2 ⟨p, rfl, hG, hF, fun m => hO (sub p (by rw [g2.own] at m; exact m)), o⟩ g3
theorem fn_U {P : Program} {w : World} {mg : Str → Option Value} {base : Heap} {x qual : Str} {params : Arguments} {body : List Stmt} {scope : Scope} {f : Addr} {fd : FuncData} {N ps : List Str} {k : Nat} {T : List Ag → (RV → List Ag → Prop) → (Str → Str → D → Prop) → Prop}
    (F : FunD K x qual params body scope [] [] f fd) (S : FnScope N ps scope) (hl : ∀ ds Qd X, T ds Qd X → ds.length = ps.length)
    (hb : ∀ (cdv : Value) (A : Around) (outer : List PySem.Env) (s : Shared) (H : Hp) (W : XK), fd.code = cdv → Room k (A.deeper (envOfC qual scope s.heap.objs.size f cdv)) →
      Takes (cxOf (L2.CX P w) P w K mg base N qual scope f cdv A outer s H W) (fun cls d _ H => W cls d H) → PassesOwn (model P w) (A.deeper (envOfC qual scope s.heap.objs.size f cdv)) (envOfC qual scope s.heap.objs.size f cdv) (cxOf (L2.CX P w) P w K mg base N qual scope f cdv A outer s H W).xe →
      ∃ t, PSs (cxOf (L2.CX P w) P w K mg base N qual scope f cdv A outer s H W) body t ∧ BodyU K N W T t) :
    FnOk P w K mg base (L2.CX P w) (k + 1) f fd ps (spU K T) := by
  obtain ⟨oc, od, dV, kV, doc, pm, an, cdv, ct, osl, rfl, lk, hcd, _, _⟩ := F.ex
  refine fn_of lk hcd S (fun vs H Q E h => ?_) fun A outer s H vs Q W hr h => ?_
  · obtain ⟨_, _, ags, Qd, X, R, _, tt, _⟩ := h
    have h1 := hl _ _ _ tt
    have h2 := R.sl.length
    rw [List.length_map] at h1 h2
    rw [h2]; exact h1
  · obtain ⟨t, hd, hw⟩ := hb cdv A outer s H W rfl hr (takes_of rfl rfl rfl rfl) (passes_of rfl)
    exact ⟨t, hd, body_run hw h⟩
/-! ### a call -/
inductive Ar where
  | d (d : D) | s (i : Nat)
def ArsOk (K : PySem.W.Frag) (G : Hp) (σ : L2.St) : List V → List Ar → Prop
  | [], [] => True
  | v :: vs, .d x :: as => Rep K G v x ∧ ArsOk K G σ vs as
  | v :: vs, .s i :: as => σ[i]? = some (some v) ∧ ArsOk K G σ vs as
  | _, _ => False
theorem ArsOk.mono {G G' : Hp} {σ : L2.St} (e : Ex G G') : ∀ {vs : List V} {as : List Ar}, ArsOk K G σ vs as → ArsOk K G' σ vs as
  | [], [], _ => trivial
  | v :: vs, .d x :: as, h => ⟨h.1.mono e, ArsOk.mono e h.2⟩
  | v :: vs, .s i :: as, h => ⟨h.1, ArsOk.mono e h.2⟩
  | [], _ :: _, h => h.elim
  | _ :: _, [], h => h.elim
def EvG (K : PySem.W.Frag) (ts : TA) (ρ : Env) (Q : List Ar → Env → Prop) : Prop := ∀ F G H σ, RE K F G H σ ρ → ∀ Q' : List V → Hp → Prop,
  (∀ vs as ρ' G' H', Ex G G' → RE K F G' H' σ ρ' → ArsOk K G' σ vs as → Q as ρ' → Q' vs H') → ts σ H Q'
theorem eg_nil {Q : List Ar → Env → Prop} (q : Q [] ρ) : EvG K tNil ρ Q := fun F G H σ R Q' k => k [] [] ρ G H (Ex.refl G) R trivial q
theorem eg_sh {Q : List Ar → Env → Prop} (h : EvW K ta ρ fun x ρ1 => EvG K ts ρ1 fun as ρ2 => Q (.d x :: as) ρ2) : EvG K (tCons ta ts) ρ Q := fun F G H σ R Q' k =>
  h F G H σ R _ fun v x ρ1 G1 H1 e1 R1 hv q1 => q1 F G1 H1 σ R1 _ fun vs as ρ2 G2 H2 e2 R2 hvs q2 => k (v :: vs) (.d x :: as) ρ2 G2 H2 (e1.trans e2) R2 ⟨hv.mono e2, hvs⟩ q2
theorem eg_ow {Q : List Ar → Env → Prop} {i : Nat} {r : Sl} (hi : ρ[i]? = some r) (ho : r.isOwn = true) (h : EvG K ts ρ fun as ρ2 => Q (.s i :: as) ρ2) : EvG K (tCons (tVar i) ts) ρ Q := fun F G H σ R Q' k => by
  obtain ⟨s, hs, q⟩ := R.sl.get hi
  have hv : ∃ v, s = some v := by
    cases r with
    | own a d => exact ⟨_, q.1⟩
    | drw a => exact ⟨_, q.1⟩
    | two a b c d => obtain ⟨⟨t, z, _⟩, _⟩ := q; exact ⟨_, z⟩
    | un => cases ho
    | sh d => cases ho
  obtain ⟨v, rfl⟩ := hv
  exact ⟨v, hs, h F G H σ R _ fun vs as ρ2 G2 H2 e2 R2 hvs q2 => k (v :: vs) (.s i :: as) ρ2 G2 H2 e2 R2 ⟨hs, hvs⟩ q2⟩
/-- the parameters that are handed -/
def lent (ρ : Env) : List Ar → Option Env
  | [] => some []
  | .d x :: as => (lent ρ as).map (Sl.sh x :: ·)
  | .s i :: as => match ρ[i]? with
    | some (.own a d) => (lent ρ as).map (Sl.own a d :: ·)
    | some (.drw a) => (lent ρ as).map (Sl.drw a :: ·)
    | _ => none
def idx : List Ar → List Nat
  | [] => []
  | .d _ :: as => idx as
  | .s i :: as => i :: idx as
def upS : Sl → Ag → Sl
  | .own a _, .ow d => .own a d
  | s, _ => s
def putB (ρ : Env) : List Ar → List Ag → Env
  | .d _ :: as, _ :: gs => putB ρ as gs
  | .s i :: as, g :: gs => putB (match ρ[i]? with | some r => ρ.set i (upS r g) | none => ρ) as gs
  | _, _ => ρ
theorem upS_adr (r : Sl) (g : Ag) : (upS r g).adr = r.adr := by
  cases r <;> cases g <;> rfl
theorem ownA_setE {r r' : Sl} (ha : r'.adr = r.adr) : ∀ {ρ : Env} {i : Nat}, ρ[i]? = some r → ownA (ρ.set i r') = ownA ρ
  | [], _, e => by simp at e
  | r0 :: ρ, 0, e => by
    simp at e; subst e
    show ownA (r' :: ρ) = _
    rw [ownA_cons, ownA_cons, ha]
  | r0 :: ρ, i + 1, e => by
    show ownA (r0 :: ρ.set i r') = _
    rw [ownA_cons, ownA_cons, ownA_setE ha (by simpa using e)]
theorem putB_own : ∀ (as : List Ar) (gs : List Ag) (ρ : Env), ownA (putB ρ as gs) = ownA ρ
  | [], _, _ => rfl
  | .d _ :: as, [], _ => rfl
  | .s _ :: as, [], _ => rfl
  | .d _ :: as, _ :: gs, ρ => putB_own as gs ρ
  | .s i :: as, g :: gs, ρ => by
    unfold putB
    rw [putB_own as gs]
    cases h : ρ[i]? with
    | none => rfl
    | some r => exact ownA_setE (upS_adr r g) h
theorem putB_len : ∀ (as : List Ar) (gs : List Ag) (ρ : Env), (putB ρ as gs).length = ρ.length
  | [], _, _ => rfl
  | .d _ :: as, [], _ => rfl
  | .s _ :: as, [], _ => rfl
  | .d _ :: as, _ :: gs, ρ => putB_len as gs ρ
  | .s i :: as, g :: gs, ρ => by
    unfold putB
    rw [putB_len as gs]
    cases ρ[i]? with
    | none => rfl
    | some r => exact List.length_set
theorem putB_out : ∀ (as : List Ar) (gs : List Ag) (ρ : Env) {j : Nat}, j ∉ idx as → (putB ρ as gs)[j]? = ρ[j]?
  | [], _, _, _, _ => rfl
  | .d _ :: as, [], _, _, _ => rfl
  | .s _ :: as, [], _, _, _ => rfl
  | .d _ :: as, _ :: gs, ρ, j, h => putB_out as gs ρ h
  | .s i :: as, g :: gs, ρ, j, h => by
    unfold putB
    rw [putB_out as gs _ (fun z => h (List.mem_cons_of_mem _ z))]
    have ne : i ≠ j := fun z => h (by rw [z]; exact List.mem_cons_self)
    cases ρ[i]? with
    | none => rfl
    | some r => exact List.getElem?_set_ne ne
theorem slots_ix {F G H : Hp} : ∀ {σ : L2.St} {ρ : Env}, σ.length = ρ.length → (∀ (j : Nat) s r, σ[j]? = some s → ρ[j]? = some r → SlotOk K F G H s r) → Slots K F G H σ ρ
  | [], [], _, _ => trivial
  | [], _ :: _, h, _ => by simp at h
  | _ :: _, [], h, _ => by simp at h
  | s :: σ, r :: ρ, h, k => ⟨k 0 s r rfl rfl, slots_ix (by simpa using h) fun j s' r' h1 h2 => k (j + 1) s' r' (by simpa using h1) (by simpa using h2)⟩
theorem lent_arg : ∀ {as : List Ar} {ags : Env}, lent ρ as = some ags → ∀ s ∈ ags, s.isArg = true
  | [], ags, h, s, m => by cases h; cases m
  | .d x :: as, ags, h, s, m => by
    obtain ⟨bs, h1, rfl⟩ := Option.map_eq_some_iff.mp (show (lent ρ as).map (Sl.sh x :: ·) = some ags from h)
    rcases List.mem_cons.mp m with z | z
    · rw [z]; rfl
    · exact lent_arg h1 s z
  | .s i :: as, ags, h, s, m => by
    unfold lent at h
    split at h
    · obtain ⟨bs, h1, rfl⟩ := Option.map_eq_some_iff.mp h
      rcases List.mem_cons.mp m with z | z
      · rw [z]; rfl
      · exact lent_arg h1 s z
    · obtain ⟨bs, h1, rfl⟩ := Option.map_eq_some_iff.mp h
      rcases List.mem_cons.mp m with z | z
      · rw [z]; rfl
      · exact lent_arg h1 s z
    · cases h
/-- the addresses that are lent stand in slots that are named -/
theorem lent_own : ∀ {as : List Ar} {ags : Env}, lent ρ as = some ags → ∀ a ∈ ownA ags, ∃ (i : Nat) (r : Sl), i ∈ idx as ∧ ρ[i]? = some r ∧ a ∈ r.adr
  | [], ags, h, a, m => by cases h; cases m
  | .d x :: as, ags, h, a, m => by
    obtain ⟨bs, h1, rfl⟩ := Option.map_eq_some_iff.mp (show (lent ρ as).map (Sl.sh x :: ·) = some ags from h)
    exact lent_own h1 a m
  | .s i :: as, ags, h, a, m => by
    unfold lent at h
    split at h
    · rename_i b d hb
      obtain ⟨bs, h1, rfl⟩ := Option.map_eq_some_iff.mp h
      rw [ownA_cons] at m
      rcases List.mem_append.mp m with z | z
      · exact ⟨i, _, List.mem_cons_self, hb, z⟩
      · obtain ⟨j, r, q1, q2, q3⟩ := lent_own h1 a z
        exact ⟨j, r, List.mem_cons_of_mem _ q1, q2, q3⟩
    · rename_i b hb
      obtain ⟨bs, h1, rfl⟩ := Option.map_eq_some_iff.mp h
      rw [ownA_cons] at m
      rcases List.mem_append.mp m with z | z
      · exact ⟨i, _, List.mem_cons_self, hb, z⟩
      · obtain ⟨j, r, q1, q2, q3⟩ := lent_own h1 a z
        exact ⟨j, r, List.mem_cons_of_mem _ q1, q2, q3⟩
    · cases h
theorem lent_nd (nd : (ownA ρ).Nodup) : ∀ {as : List Ar} {ags : Env}, lent ρ as = some ags → (idx as).Nodup → (ownA ags).Nodup
  | [], ags, h, _ => by cases h; exact List.nodup_nil
  | .d x :: as, ags, h, n => by
    obtain ⟨bs, h1, rfl⟩ := Option.map_eq_some_iff.mp (show (lent ρ as).map (Sl.sh x :: ·) = some ags from h)
    have := lent_nd nd h1 n
    rw [ownA_cons]
    exact this
  | .s i :: as, ags, h, n => by
    have n1 := (List.nodup_cons.mp n).1
    have n2 := (List.nodup_cons.mp n).2
    unfold lent at h
    split at h
    · rename_i b d hb
      obtain ⟨bs, h1, rfl⟩ := Option.map_eq_some_iff.mp h
      rw [ownA_cons]
      refine List.nodup_append.mpr ⟨List.nodup_cons.mpr ⟨List.not_mem_nil, List.nodup_nil⟩, lent_nd nd h1 n2, fun a ma c mc z => ?_⟩
      subst z
      obtain ⟨j, r, q1, q2, q3⟩ := lent_own h1 _ mc
      exact nodup_apart nd hb q2 (fun z => n1 (z ▸ q1)) ma q3
    · rename_i b hb
      obtain ⟨bs, h1, rfl⟩ := Option.map_eq_some_iff.mp h
      rw [ownA_cons]
      refine List.nodup_append.mpr ⟨List.nodup_cons.mpr ⟨List.not_mem_nil, List.nodup_nil⟩, lent_nd nd h1 n2, fun a ma c mc z => ?_⟩
      subst z
      obtain ⟨j, r, q1, q2, q3⟩ := lent_own h1 _ mc
      exact nodup_apart nd hb q2 (fun z => n1 (z ▸ q1)) ma q3
    · cases h
theorem lent_slots {F F' G H : Hp} {σ : L2.St} (R : Slots K F G H σ ρ) : ∀ {vs : List V} {as : List Ar} {ags : Env}, ArsOk K G σ vs as → lent ρ as = some ags → (∀ a ∈ ownA ags, F' a = none) → Slots K F' G H (vs.map some) ags
  | [], [], ags, _, h, _ => by cases h; trivial
  | [], _ :: _, _, h, _, _ => h.elim
  | _ :: _, [], _, h, _, _ => h.elim
  | v :: vs, .d x :: as, ags, h, hl, hF => by
    obtain ⟨bs, h1, rfl⟩ := Option.map_eq_some_iff.mp (show (lent ρ as).map (Sl.sh x :: ·) = some ags from hl)
    exact ⟨⟨v, rfl, h.1⟩, lent_slots R h.2 h1 hF⟩
  | v :: vs, .s i :: as, ags, h, hl, hF => by
    unfold lent at hl
    split at hl
    · rename_i b d hb
      obtain ⟨bs, h1, rfl⟩ := Option.map_eq_some_iff.mp hl
      obtain ⟨s, hs, q⟩ := R.get hb
      rw [h.1] at hs; cases hs
      exact ⟨SlotOk.frm (r := .own b d) q fun a m => hF a (by rw [ownA_cons]; exact List.mem_append_left _ m), lent_slots R h.2 h1 fun a m => hF a (by rw [ownA_cons]; exact List.mem_append_right _ m)⟩
    · rename_i b hb
      obtain ⟨bs, h1, rfl⟩ := Option.map_eq_some_iff.mp hl
      obtain ⟨s, hs, q⟩ := R.get hb
      rw [h.1] at hs; cases hs
      exact ⟨SlotOk.frm (r := .drw b) q fun a m => hF a (by rw [ownA_cons]; exact List.mem_append_left _ m), lent_slots R h.2 h1 fun a m => hF a (by rw [ownA_cons]; exact List.mem_append_right _ m)⟩
    · cases hl
/-- what a lent slot is behind the call -/
theorem put_slot {F' G' H' : Hp} {σ : L2.St} : ∀ {vs : List V} {as : List Ar} {ags ags' : Env} {ρ τ : Env}, lent ρ as = some ags → (idx as).Nodup → (∀ i ∈ idx as, τ[i]? = ρ[i]?) → (∀ (j : Nat) v, (∃ (k : Nat), as[k]? = some (.s j) ∧ vs[k]? = some v) → σ[j]? = some (some v)) →
    Slots K F' G' H' (vs.map some) ags' → SameA ags ags' → ∀ (j : Nat) s r, j ∈ idx as → σ[j]? = some s → (putB τ as (ags'.map Sl.er))[j]? = some r → SlotOk K F' G' H' s r
  | _, [], _, _, _, _, _, _, _, _, _, _, j, s, r, m, _, _ => by cases m
  | [], .d x :: as, [], _, ρ, _, h, _, _, _, _, _, _, _, _, _, _, _ => by
    obtain ⟨_, _, z⟩ := Option.map_eq_some_iff.mp (show (lent ρ as).map (Sl.sh x :: ·) = some [] from h); cases z
  | [], .s i :: as, [], _, ρ, _, h, _, _, _, _, _, _, _, _, _, _, _ => by
    unfold lent at h
    split at h
    · obtain ⟨_, _, z⟩ := Option.map_eq_some_iff.mp h; cases z
    · obtain ⟨_, _, z⟩ := Option.map_eq_some_iff.mp h; cases z
    · cases h
  | [], _ :: _, _ :: _, [], _, _, _, _, _, _, _, sa, _, _, _, _, _, _ => sa.elim
  | [], _ :: _, _ :: _, _ :: _, _, _, _, _, _, _, sl, _, _, _, _, _, _, _ => sl.elim
  | v :: vs, .d x :: as, ags, ags', ρ, τ, h, n, ht, hv, sl, sa, j, s, r, m, hs, hp => by
    obtain ⟨bs, h1, rfl⟩ := Option.map_eq_some_iff.mp (show (lent ρ as).map (Sl.sh x :: ·) = some ags from h)
    cases ags' with
    | nil => exact sa.elim
    | cons g gs => exact put_slot (vs := vs) h1 n ht (fun j v ⟨k, k1, k2⟩ => hv j v ⟨k + 1, by simpa using k1, by simpa using k2⟩) sl.2 sa.2 j s r m hs hp
  | v :: vs, .s i :: as, ags, ags', ρ, τ, h, n, ht, hv, sl, sa, j, s, r, m, hs, hp => by
    have n1 := (List.nodup_cons.mp n).1
    have n2 := (List.nodup_cons.mp n).2
    have hti := ht i List.mem_cons_self
    cases ags' with
    | nil => cases ags with
      | nil =>
        unfold lent at h
        split at h
        · obtain ⟨_, _, z⟩ := Option.map_eq_some_iff.mp h; cases z
        · obtain ⟨_, _, z⟩ := Option.map_eq_some_iff.mp h; cases z
        · cases h
      | cons _ _ => exact sa.elim
    | cons g gs =>
      have key : ∃ r0 bs, ρ[i]? = some r0 ∧ ags = r0 :: bs ∧ lent ρ as = some bs ∧ upS r0 g.er = g := by
        unfold lent at h
        split at h
        · rename_i b d hb
          obtain ⟨bs, h1, rfl⟩ := Option.map_eq_some_iff.mp h
          obtain ⟨d', rfl⟩ := sa.1
          exact ⟨_, bs, hb, rfl, h1, rfl⟩
        · rename_i b hb
          obtain ⟨bs, h1, rfl⟩ := Option.map_eq_some_iff.mp h
          have e : g = .drw b := sa.1
          subst e
          exact ⟨_, bs, hb, rfl, h1, rfl⟩
        · cases h
      obtain ⟨r0, bs, hr0, rfl, h1, hu⟩ := key
      have ep : putB τ (.s i :: as) ((g :: gs).map Sl.er) = putB (τ.set i g) as (gs.map Sl.er) := by
        rw [List.map_cons]
        show putB (match τ[i]? with | some r => τ.set i (upS r g.er) | none => τ) as (gs.map Sl.er) = _
        rw [hti, hr0]
        show putB (τ.set i (upS r0 g.er)) as _ = _
        rw [hu]
      rw [ep] at hp
      by_cases ej : j = i
      · subst ej
        rw [putB_out as _ _ n1] at hp
        have hlt : j < τ.length := (List.getElem?_eq_some_iff.mp (hti.trans hr0)).1
        rw [List.getElem?_set_self hlt] at hp
        cases hp
        have := hv j v ⟨0, rfl, rfl⟩
        rw [hs] at this
        cases this
        exact sl.1
      · have mj : j ∈ idx as := by
          rcases List.mem_cons.mp m with z | z
          · exact absurd z ej
          · exact z
        refine put_slot (vs := vs) h1 n2 (fun i' hi' => ?_) (fun j v ⟨k, k1, k2⟩ => hv j v ⟨k + 1, by simpa using k1, by simpa using k2⟩) sl.2 sa.2 j s r mj hs hp
        have ne : i ≠ i' := fun z => n1 (z ▸ hi')
        rw [List.getElem?_set_ne ne]
        exact ht i' (List.mem_cons_of_mem _ hi')
theorem arsOk_at {G : Hp} {σ : L2.St} : ∀ {vs : List V} {as : List Ar}, ArsOk K G σ vs as → ∀ (k j : Nat) v, as[k]? = some (.s j) → vs[k]? = some v → σ[j]? = some (some v)
  | [], [], _, k, j, v, h, _ => by simp at h
  | v :: vs, .d x :: as, h, 0, j, u, h1, h2 => by simp at h1
  | v :: vs, .s i :: as, h, 0, j, u, h1, h2 => by
    simp at h1 h2
    subst h1; subst h2
    exact h.1
  | v :: vs, .d x :: as, h, k + 1, j, u, h1, h2 => arsOk_at h.2 k j u (by simpa using h1) (by simpa using h2)
  | v :: vs, .s i :: as, h, k + 1, j, u, h1, h2 => arsOk_at h.2 k j u (by simpa using h1) (by simpa using h2)
  | [], _ :: _, h, _, _, _, _, _ => h.elim
  | _ :: _, [], h, _, _, _, _, _ => h.elim
theorem call_core {F G1 H1 : Hp} {σ : L2.St} {ρ1 : Env} {vs : List V} {as : List Ar} {ags : Env} {T : List Ag → (RV → List Ag → Prop) → (Str → Str → D → Prop) → Prop} {W : XK} {X : Str → Str → D → Prop} {Q : RV → Env → Prop} {Q' : VK} {Qd : RV → List Ag → Prop}
    (R1 : RE K F G1 H1 σ ρ1) (hv : ArsOk K G1 σ vs as) (hl : lent ρ1 as = some ags) (hn : (idx as).Nodup) (ht : T (ags.map Sl.er) Qd X) (hq : ∀ r gs, Qd r gs → Q r (putB ρ1 as gs))
    (k : ∀ v r ρ' G' H', Ex G1 G' → RE K F G' H' σ ρ' → RvOk K F G' H' ρ' v r → Q r ρ' → Q' v H') (lk : XLink K F G1 W X) : spU K T vs H1 Q' W := by
  let as' := (ownA ρ1).filter fun b => decide (b ∉ ownA ags)
  have sub : ∀ b ∈ as', b ∈ ownA ρ1 := fun b m => (List.mem_filter.mp m).1
  have out : ∀ {b}, b ∈ as' → b ∉ ownA ags := fun m => of_decide_eq_true (List.mem_filter.mp m).2
  have own1 : ∀ a ∈ ownA ags, a ∈ ownA ρ1 := fun a m => by
    obtain ⟨i, r, _, q2, q3⟩ := lent_own hl a m
    exact adr_mem q2 q3
  have hF' : ∀ a ∈ ownA ags, addF F H1 as' a = none := fun a m => by
    rw [addF_out fun z => out z m]
    exact (R1.sl.own (own1 a m)).2.1
  refine ⟨addF F H1 as', G1, ags, Qd, X, ⟨R1.wdF sub, lent_slots R1.sl hv hl hF', lent_nd R1.nd hl hn⟩, lent_arg hl, ht, fun v r ags' G' H' e R' sa hr q => ?_, fun C f v d dx G' H' e Wd' h1 h2 h3 h4 h5 => ?_⟩
  · have hF : Wd F G' H' := R1.wdB sub R'.wd
    refine k v r _ G' H' e ⟨hF, slots_ix ?_ (fun j s r2 hs hr2 => ?_), by rw [putB_own]; exact R1.nd⟩ ?_ (hq r _ q)
    · rw [putB_len]; exact R1.sl.length
    · by_cases mj : j ∈ idx as
      · refine SlotOk.frm (put_slot (vs := vs) hl hn (fun _ _ => rfl) (fun j v ⟨kk, k1, k2⟩ => arsOk_at hv kk j v k1 k2) R'.sl sa j s r2 mj hs hr2) fun a m => ?_
        have ha : a ∈ ownA (putB ρ1 as (ags'.map Sl.er)) := adr_mem hr2 m
        rw [putB_own] at ha
        exact (R1.sl.own ha).2.1
      · rw [putB_out as _ _ mj] at hr2
        obtain ⟨s', hs', q⟩ := R1.sl.get hr2
        rw [hs] at hs'; cases hs'
        refine q.step e fun b m => R1.keepF R'.wd (List.mem_filter.mpr ⟨adr_mem hr2 m, decide_eq_true fun z => ?_⟩) (adr_mem hr2 m)
        obtain ⟨i, r3, q1, q2, q3⟩ := lent_own hl b z
        exact nodup_apart R1.nd q2 hr2 (fun z => mj (z ▸ q1)) q3 m
    · cases r with
      | sh d => exact hr
      | nw d =>
        obtain ⟨p, rfl, g1, g2, g3, g4⟩ := hr
        have np : p ∉ ownA ρ1 := fun m => by
          by_cases z : p ∈ ownA ags
          · exact g3 (by rw [sa.own]; exact z)
          · obtain ⟨_, _, u, hu, _⟩ := R1.sl.own m
            rw [addF_in (List.mem_filter.mpr ⟨m, decide_eq_true z⟩), hu] at g2; cases g2
        refine ⟨p, rfl, g1, ?_, by rw [putB_own]; exact np, g4⟩
        rw [addF_out fun z => np (sub p z)] at g2
        exact g2
  · refine lk C f v d dx G' H' e (R1.wdB sub Wd') h1 h2 ?_ h4 h5
    by_cases m : dx ∈ as'
    · exact (R1.sl.own (sub dx m)).2.1
    · rw [addF_out m] at h3; exact h3
/-- a call that does not raise -/
theorem er_callU {T : List Ag → (RV → List Ag → Prop) → (Str → Str → D → Prop) → Prop} {W : XK} {Q : RV → Env → Prop} (h : EvG K ts ρ fun as ρ1 => ∃ ags, lent ρ1 as = some ags ∧ (idx as).Nodup ∧ T (ags.map Sl.er) (fun r gs => Q r (putB ρ1 as gs)) fun _ _ _ => False) : EvR K (tCall (spU K T) [] W ts) ρ Q := fun F G H σ R Q' k =>
  h F G H σ R _ fun vs as ρ1 G1 H1 e1 R1 hv q => by
    obtain ⟨ags, hl, hn, ht⟩ := q
    rw [List.append_nil]
    exact call_core R1 hv hl hn ht (fun _ _ z => z) (fun v r ρ' G' H' e => k v r ρ' G' H' (e1.trans e)) fun _ _ _ _ _ _ _ _ _ _ _ _ _ z => z.elim
/-- .. that may -/
def EvRX (K : PySem.W.Frag) (te : TE) (W : XK) (ρ : Env) (Q : RV → Env → Prop) (X : Str → Str → D → Prop) : Prop := ∀ F G H σ, RE K F G H σ ρ → XLink K F G W X → ∀ Q' : VK,
  (∀ v r ρ' G' H', Ex G G' → RE K F G' H' σ ρ' → RvOk K F G' H' ρ' v r → Q r ρ' → Q' v H') → te σ H Q'
theorem xr_callU {T : List Ag → (RV → List Ag → Prop) → (Str → Str → D → Prop) → Prop} {W : XK} {Q : RV → Env → Prop} {X : Str → Str → D → Prop} (h : EvG K ts ρ fun as ρ1 => ∃ ags, lent ρ1 as = some ags ∧ (idx as).Nodup ∧ T (ags.map Sl.er) (fun r gs => Q r (putB ρ1 as gs)) X) : EvRX K (tCall (spU K T) [] W ts) W ρ Q X := fun F G H σ R L Q' k =>
  h F G H σ R _ fun vs as ρ1 G1 H1 e1 R1 hv q => by
    obtain ⟨ags, hl, hn, ht⟩ := q
    rw [List.append_nil]
    exact call_core R1 hv hl hn ht (fun _ _ z => z) (fun v r ρ' G' H' e => k v r ρ' G' H' (e1.trans e)) (L.mono e1)
theorem ex_rv {W : XK} {Q : D → Env → Prop} {X : Str → Str → D → Prop} (h : EvRX K te W ρ (fun r ρ' => Q r.d ρ') X) : EvX K te W ρ Q X := fun F G H σ R L Q' k => h F G H σ R L Q' fun v r ρ' G' H' e R' hr q => by
  cases r with
  | sh d => exact k v d ρ' G' H' e R' hr q
  | nw d =>
    obtain ⟨p, rfl, hG, hF, hO, o⟩ := hr
    obtain ⟨u, hu, hm⟩ := o.some
    exact k (.ref p) d ρ' (upd G' p u) H' (e.trans (Ex.new hG)) (R'.share hu hG hF hO (nt_mut hm).2) (ownR_rep o (by rw [upd_same, hu]) (Ex.new hG)) q
end
end DL

set_option Elab.async false
set_option linter.all false
set_option maxRecDepth 100000
namespace DL
open PySem PySem.Spec PyProof.Rows L2 SrtK
variable [TabL]
/-! ### methods and constructors -/
structure FnM (P : Program) (w : World) (K : PySem.W.Frag) (mg : Str → Option Value) (base : Heap) (k : Nat) (C m : Str) (ps : List Str) (sp : Sp) : Prop where
  ex : ∃ f fd, FnOk P w K mg base (L2.CX P w) k f fd ps sp ∧ Binds K fd ps [] ∧ Meth K (He.ga K C) m f
  cl : Cls K (He.ga K C)
structure FnC (P : Program) (w : World) (K : PySem.W.Frag) (mg : Str → Option Value) (base : Heap) (k : Nat) (C : Str) (ps : List Str) (sp : Sp) : Prop where
  ex : ∃ f fd, FnOk P w K mg base (L2.CX P w) k f fd ps sp ∧ Binds K fd ps [] ∧ Mk K (He.ga K C) f
  at_ : mg C = some (.ref (He.ga K C))
theorem pe_methX {X : Cx} {k : Nat} {C m : Str} {ps : List Str} {sp : Sp} {o e : Expr} {es : List Expr} {ta : TE} {t : TA} {W : WX} {E : XK} {apos pos : Pos} {pl : Sem Bool} (F : FnM X.prog X.w X.K X.mg X.base k C m ps sp) (tk : Takes X W) (hW : ∀ cls d σ H, E cls d H → W cls d σ H) (hr : Room k X.A) (he : PE X o ta) (ha : PA X (e :: es) t)
    (hst : starEach (e :: es) X.env = (false, eval e X.env) :: starEach es X.env := by rfl) (hpl : (backTo pos (starEach es X.env)).any (·.1) = false := by rfl)
    (ht : eval (.Call (.Attribute o m apos) (e :: es) [] pos) X.env = (do
      let ov ← eval o X.env
      standAt apos.atName
      let (f, first) ← holding [ov] (getMethod ov m pl)
      callWith pos f first (backTo pos (starEach (e :: es) X.env)) (backToKw pos (keywordEach [] X.env))) := by rfl) : PE X (.Call (.Attribute o m apos) (e :: es) [] pos) (tMeth (He.ga X.K C) m sp [] E ta t) := by
  obtain ⟨f, fd, h1, h2, h3⟩ := F.ex
  exact pe_meth he F.cl h3 h1 hr h2 .nil (passes_call tk hW) ha hst hpl ht
theorem pe_methX0 {X : Cx} {k : Nat} {C m : Str} {ps : List Str} {sp : Sp} {o : Expr} {ta : TE} {W : WX} {E : XK} {apos pos : Pos} {pl : Sem Bool} (F : FnM X.prog X.w X.K X.mg X.base k C m ps sp) (tk : Takes X W) (hW : ∀ cls d σ H, E cls d H → W cls d σ H) (hr : Room k X.A) (he : PE X o ta)
    (ht : eval (.Call (.Attribute o m apos) [] [] pos) X.env = (do
      let ov ← eval o X.env
      standAt apos.atName
      let (f, first) ← holding [ov] (getMethod ov m pl)
      callWith pos f first (backTo pos (starEach [] X.env)) (backToKw pos (keywordEach [] X.env))) := by rfl) : PE X (.Call (.Attribute o m apos) [] [] pos) (tMeth (He.ga X.K C) m sp [] E ta tNil) := by
  obtain ⟨f, fd, h1, h2, h3⟩ := F.ex
  exact pe_meth0 he F.cl h3 h1 hr h2 .nil (passes_call tk hW) ht
theorem pe_makeX {X : Cx} {k : Nat} {x : Str} {ps : List Str} {sp : Sp} {e : Expr} {es : List Expr} {t : TA} {W : WX} {E : XK} {p pos : Pos} (F : FnC X.prog X.w X.K X.mg X.base k x ps sp) (tk : Takes X W) (hW : ∀ cls d σ H, E cls d H → W cls d σ H) (hr : Room (k + 1) X.A) (ha : PA X (e :: es) t) (hg : Gl X x := by rfl)
    (he : starEach (e :: es) X.env = (false, eval e X.env) :: starEach es X.env := by rfl) (hpl : (backTo pos (starEach es X.env)).any (·.1) = false := by rfl) (hd : (x == ("__debug__" : Str)) = false := by decide) : PE X (.Call (.Name x p) (e :: es) [] pos) (tMake (He.ga X.K x) sp [] E t) := by
  obtain ⟨f, fd, h1, h2, h3⟩ := F.ex
  exact pe_make h3 h1 hr hg F.at_ h2 .nil (passes_call tk hW) ha hd he hpl
section
variable {K : PySem.W.Frag} {te ta tb tc td ty tv tx tk : TE} {tt tu : TT} {ts : TA} {t u : TS} {ρ : Env} {E : EndD} {T : List Ag → (RV → List Ag → Prop) → (Str → Str → D → Prop) → Prop} {W : XK}
theorem look_none {fs : List (Str × V)} {ps : List (Str × D)} (m : Str) (e : fs.map (·.1) = ps.map (·.1)) (h : ps.lookup m = none) : fs.lookup m = none := by
  induction fs generalizing ps with
  | nil => rfl
  | cons f fs ih =>
    cases ps with
    | nil => cases e
    | cons p ps =>
      obtain ⟨f1, f2⟩ := f
      obtain ⟨p1, p2⟩ := p
      simp only [List.map_cons, List.cons.injEq] at e
      obtain ⟨e1, e2⟩ := e
      subst e1
      rw [List.lookup_cons] at h ⊢
      cases z : (m == f1) with
      | true => rw [z] at h; cases h
      | false => rw [z] at h; exact ih e2 h
/-- o.m(..), o a shared instance -/
theorem xr_meth {C m : Str} {Q : RV → Env → Prop} {X : Str → Str → D → Prop} (h : EvW K ta ρ fun d ρ1 => ∃ ps, d = .ins C ps ∧ ps.lookup m = none ∧ EvG K ts ρ1 fun as ρ2 => ∃ ags, lent ρ2 as = some ags ∧ (idx as).Nodup ∧ T (.sh (.ins C ps) :: ags.map Sl.er) (fun r gs => Q r (putB ρ2 as gs.tail)) X) :
    EvRX K (tMeth (He.ga K C) m (spU K T) [] W ta ts) W ρ Q X := fun F G H σ R L Q' k =>
  h F G H σ R _ fun v d ρ1 G1 H1 e1 R1 hv q => by
    obtain ⟨ps, rfl, hm, q⟩ := q
    obtain ⟨a, dx, fs, rfl, g1, g2, g3⟩ := rep_ins hv
    refine ⟨a, dx, fs, rfl, R1.wd.g _ _ g1, look_none m g2 hm, q F G1 H1 σ R1 _ fun vs as ρ2 G2 H2 e2 R2 hvs q => ?_⟩
    obtain ⟨ags, hl, hn, ht⟩ := q
    rw [List.append_nil]
    refine call_core (as := .d (.ins C ps) :: as) (ags := .sh (.ins C ps) :: ags) R2 ⟨hv.mono e2, hvs⟩ (by show (lent ρ2 as).map _ = _; rw [hl]; rfl) hn ht (fun r gs z => ?_) (fun v r ρ' G' H' e => k v r ρ' G' H' ((e1.trans e2).trans e)) (L.mono (e1.trans e2))
    cases gs with
    | nil => exact (show putB ρ2 as [] = putB ρ2 (.d (.ins C ps) :: as) [] by cases as with | nil => rfl | cons a _ => cases a <;> rfl) ▸ z
    | cons g gs => exact z
theorem er_of {Q : RV → Env → Prop} (h : EvRX K te W ρ Q fun _ _ _ => False) : EvR K te ρ Q := fun F G H σ R Q' k => h F G H σ R (fun _ _ _ _ _ _ _ _ _ _ _ _ _ z => z.elim) Q' k
/-- o.m(..), o an own thing in slot i -/
theorem xr_methO {C m : Str} {i : Nat} {a : Addr} {p0 : List (Str × D)} {Q : RV → Env → Prop} {X : Str → Str → D → Prop} (hi : ρ[i]? = some (.own a (.ins C p0))) (hm : p0.lookup m = none) (h : EvG K ts ρ fun as ρ2 => ∃ ags, lent ρ2 (.s i :: as) = some ags ∧ (idx (.s i :: as)).Nodup ∧ T (ags.map Sl.er) (fun r gs => Q r (putB ρ2 (.s i :: as) gs)) X) :
    EvRX K (tMeth (He.ga K C) m (spU K T) [] W (tVar i) ts) W ρ Q X := fun F G H σ R L Q' k => by
  obtain ⟨s, hs, rfl, _, _, dx, fs, hd, hk, _⟩ := R.sl.get hi
  refine ⟨.ref a, hs, a, dx, fs, rfl, hd, look_none m hk hm, h F G H σ R _ fun vs as ρ2 G2 H2 e2 R2 hvs q => ?_⟩
  obtain ⟨ags, hl, hn, ht⟩ := q
  rw [List.append_nil]
  exact call_core (as := .s i :: as) R2 ⟨hs, hvs⟩ hl hn ht (fun _ _ z => z) (fun v r ρ' G' H' e => k v r ρ' G' H' (e2.trans e)) (L.mono e2)
/-! a slot more -/
theorem slots_snoc {F G H : Hp} {s : Option V} {r : Sl} (hs : SlotOk K F G H s r) : ∀ {σ : L2.St} {ρ : Env}, Slots K F G H σ ρ → Slots K F G H (σ ++ [s]) (ρ ++ [r])
  | [], [], _ => ⟨hs, trivial⟩
  | [], _ :: _, h => h.elim
  | _ :: _, [], h => h.elim
  | _ :: _, _ :: _, h => ⟨h.1, slots_snoc hs h.2⟩
theorem slots_unsnoc {F G H : Hp} {s : Option V} {r : Sl} : ∀ {σ : L2.St} {ρ : Env}, Slots K F G H (σ ++ [s]) (ρ ++ [r]) → Slots K F G H σ ρ ∧ SlotOk K F G H s r
  | [], [], h => ⟨trivial, h.1⟩
  | [], r' :: ρ, h => by
    cases ρ with
    | nil => exact h.2.elim
    | cons _ _ => exact h.2.elim
  | s' :: σ, [], h => by
    cases σ with
    | nil => exact h.2.elim
    | cons _ _ => exact h.2.elim
  | _ :: _, _ :: _, h => ⟨⟨h.1, (slots_unsnoc h.2).1⟩, (slots_unsnoc h.2).2⟩
theorem ownA_snoc (ρ : Env) (r : Sl) : ownA (ρ ++ [r]) = ownA ρ ++ r.adr := by
  unfold ownA
  rw [List.flatMap_append]
  congr 1
  exact List.append_nil _
theorem lent_snoc {r : Sl} : ∀ {as : List Ar} {ags : Env}, lent ρ as = some ags → lent (ρ ++ [r]) as = some ags
  | [], _, h => h
  | .d x :: as, ags, h => by
    obtain ⟨bs, h1, rfl⟩ := Option.map_eq_some_iff.mp (show (lent ρ as).map (Sl.sh x :: ·) = some ags from h)
    show (lent (ρ ++ [r]) as).map _ = _
    rw [lent_snoc h1]; rfl
  | .s i :: as, ags, h => by
    unfold lent at h ⊢
    have key : ∀ {z : Sl}, ρ[i]? = some z → (ρ ++ [r])[i]? = some z := fun {z} hz => by
      rw [List.getElem?_append_left (List.getElem?_eq_some_iff.mp hz).1]; exact hz
    split at h
    · rename_i b d hb
      obtain ⟨bs, h1, rfl⟩ := Option.map_eq_some_iff.mp h
      rw [key hb, lent_snoc h1]; rfl
    · rename_i b hb
      obtain ⟨bs, h1, rfl⟩ := Option.map_eq_some_iff.mp h
      rw [key hb, lent_snoc h1]; rfl
    · cases h
theorem lent_lt : ∀ {as : List Ar} {ags : Env}, lent ρ as = some ags → ∀ i ∈ idx as, i < ρ.length
  | [], _, _, i, m => by cases m
  | .d x :: as, ags, h, i, m => by
    obtain ⟨bs, h1, rfl⟩ := Option.map_eq_some_iff.mp (show (lent ρ as).map (Sl.sh x :: ·) = some ags from h)
    exact lent_lt h1 i m
  | .s j :: as, ags, h, i, m => by
    unfold lent at h
    split at h
    · rename_i b d hb
      obtain ⟨bs, h1, rfl⟩ := Option.map_eq_some_iff.mp h
      rcases List.mem_cons.mp m with z | z
      · rw [z]; exact (List.getElem?_eq_some_iff.mp hb).1
      · exact lent_lt h1 i z
    · rename_i b hb
      obtain ⟨bs, h1, rfl⟩ := Option.map_eq_some_iff.mp h
      rcases List.mem_cons.mp m with z | z
      · rw [z]; exact (List.getElem?_eq_some_iff.mp hb).1
      · exact lent_lt h1 i z
    · cases h
theorem putB_snoc {r : Sl} : ∀ (as : List Ar) (gs : List Ag) {ρ : Env}, (∀ i ∈ idx as, i < ρ.length) → putB (ρ ++ [r]) as gs = putB ρ as gs ++ [r]
  | [], _, _, _ => rfl
  | .d _ :: as, [], _, _ => rfl
  | .s _ :: as, [], _, _ => rfl
  | .d _ :: as, _ :: gs, ρ, h => putB_snoc as gs h
  | .s i :: as, g :: gs, ρ, h => by
    have hi := h i List.mem_cons_self
    unfold putB
    rw [List.getElem?_append_left hi, List.getElem?_eq_getElem hi]
    show putB ((ρ ++ [r]).set i (upS ρ[i] g)) as gs = putB (ρ.set i (upS ρ[i] g)) as gs ++ [r]
    rw [List.set_append_left _ _ hi]
    exact putB_snoc as gs fun j hj => by rw [List.length_set]; exact h j (List.mem_cons_of_mem _ hj)
/-- C(..) -/
theorem xr_make {C : Str} {Q : RV → Env → Prop} {X : Str → Str → D → Prop} (h : EvG K ts ρ fun as ρ1 => ∃ ags, lent ρ1 as = some ags ∧ (idx as).Nodup ∧ T (.ow (.ins C []) :: ags.map Sl.er) (fun r gs => ∃ ps gs', r = .sh .non ∧ gs = .ow (.ins C ps) :: gs' ∧ Q (.nw (.ins C ps)) (putB ρ1 as gs')) X) :
    EvRX K (tMake (He.ga K C) (spU K T) [] W ts) W ρ Q X := fun F G H σ R L Q' k =>
  h F G H σ R _ fun vs as ρ1 G1 H1 e1 R1 hv q => fun x dx hx hdx hne => by
    obtain ⟨ags, hl, hn, ht⟩ := q
    have hx2 : upd H1 dx (.own x) x = none := by rw [upd_ne (Ne.symm hne)]; exact hx
    have R2 := (R1.alone (o := .own x) hdx).alone (o := .ins (He.ga K C) dx []) hx2
    have nx := ownA_fresh R1 hx
    have hGx := R1.wd.g.none hx
    have hFx := R1.wd.f.none hx
    have R3 : RE K F G1 (upd (upd H1 dx (.own x)) x (.ins (He.ga K C) dx [])) (σ ++ [some (.ref x)]) (ρ1 ++ [Sl.own x (.ins C [])]) := by
      refine ⟨R2.wd, slots_snoc (r := .own x (.ins C [])) ⟨rfl, hGx, hFx, dx, [], upd_same, rfl, .nil⟩ R2.sl, ?_⟩
      rw [ownA_snoc]
      exact List.nodup_append.mpr ⟨R2.nd, List.nodup_cons.mpr ⟨List.not_mem_nil, List.nodup_nil⟩, fun a ma b mb z => by rw [List.mem_singleton.mp mb] at z; exact nx (z ▸ ma)⟩
    have hlen : σ.length = ρ1.length := R1.sl.length
    have lts := lent_lt hl
    have hat : (ρ1 ++ [Sl.own x (.ins C [])])[ρ1.length]? = some (Sl.own x (.ins C [])) := by rw [List.getElem?_append_right (Nat.le_refl _), Nat.sub_self]; rfl
    rw [List.append_nil]
    have hars : ArsOk K G1 (σ ++ [some (.ref x)]) (.ref x :: vs) (.s ρ1.length :: as) := by
      refine ⟨by rw [← hlen, List.getElem?_append_right (Nat.le_refl _), Nat.sub_self]; rfl, ?_⟩
      have key : ∀ {vs : List V} {as : List Ar}, ArsOk K G1 σ vs as → ArsOk K G1 (σ ++ [some (.ref x)]) vs as := by
        intro vs
        induction vs with
        | nil => intro as h; cases as with
          | nil => trivial
          | cons _ _ => exact h.elim
        | cons v vs ih =>
          intro as h
          cases as with
          | nil => exact h.elim
          | cons a as =>
            cases a with
            | d y => exact ⟨h.1, ih h.2⟩
            | s i => exact ⟨by rw [List.getElem?_append_left (List.getElem?_eq_some_iff.mp h.1).1]; exact h.1, ih h.2⟩
      exact key hv
    have hl2 : lent (ρ1 ++ [Sl.own x (.ins C [])]) (.s ρ1.length :: as) = some (.own x (.ins C []) :: ags) := by
      unfold lent
      rw [hat, lent_snoc hl]; rfl
    refine call_core (as := .s ρ1.length :: as) (ags := .own x (.ins C []) :: ags) (Q := fun r ρ' => ∃ ps ρ2, r = .sh .non ∧ ρ' = ρ2 ++ [Sl.own x (.ins C ps)] ∧ Q (.nw (.ins C ps)) ρ2) R3 hars hl2 (List.nodup_cons.mpr ⟨fun m => Nat.lt_irrefl _ (lts _ m), hn⟩) ht (fun r gs z => ?_) (fun v r ρ' G' H' e R' hr z => ?_) (fun C' f v d dy G' H' e => L C' f v d dy G' H' (e1.trans e))
    · obtain ⟨ps, gs', rfl, rfl, q⟩ := z
      refine ⟨ps, putB ρ1 as gs', rfl, ?_, q⟩
      show putB (match (ρ1 ++ [Sl.own x (.ins C [])])[ρ1.length]? with | some r => (ρ1 ++ [Sl.own x (.ins C [])]).set ρ1.length (upS r (.ow (.ins C ps))) | none => _) as gs' = _
      rw [hat]
      show putB ((ρ1 ++ [Sl.own x (.ins C [])]).set ρ1.length (Sl.own x (.ins C ps))) as gs' = _
      rw [List.set_append_right _ _ (Nat.le_refl _), Nat.sub_self]
      show putB (ρ1 ++ [Sl.own x (.ins C ps)]) as gs' = _
      exact putB_snoc as gs' lts
    · obtain ⟨ps, ρ2, rfl, rfl, q⟩ := z
      refine ⟨rep_non hr, ?_⟩
      obtain ⟨s1, s2⟩ := slots_unsnoc R'.sl
      have nd := R'.nd
      rw [ownA_snoc] at nd
      obtain ⟨n1, _, n3⟩ := List.nodup_append.mp nd
      obtain ⟨_, g1, g2, g3⟩ := s2
      exact k (.ref x) (.nw (.ins C ps)) ρ2 G' H' (e1.trans e) ⟨R'.wd, s1, n1⟩ ⟨x, rfl, g1, g2, fun m => n3 x m x (List.mem_singleton.mpr rfl) rfl, g3⟩ q
end
end DL

set_option Elab.async false
set_option linter.all false
set_option maxRecDepth 100000
namespace DL
open PySem PySem.Spec PyProof.Rows L2 SrtK
variable [TabL]
section
variable {K : PySem.W.Frag} {te ta tb tc td ty tv tx tk : TE} {tt tu : TT} {ts : TA} {t u : TS} {ρ : Env} {E : EndD} {Q : D → Env → Prop}
/-! ### exceptions as data -/
theorem exo_nt {a C : Addr} {d : Option Addr} : ∀ ps, exo a C d ≠ .tbl ps := fun ps z => exo_tbl z
theorem ew_mkE {C f : Str} (h : EvW K te ρ fun d ρ1 => Q (.exc C [(f, d)]) ρ1) : EvW K (tMkE (He.ga K C) f te) ρ Q := fun F G H σ R Q' k =>
  h F G H σ R _ fun v d ρ1 G1 H1 e1 R1 hv q => fun a dx ha hdx hne => by
    have R2 := R1.new (o := .xd [(f, v)]) hdx
    have ha2 : upd H1 dx (.xd [(f, v)]) a = none := by rw [upd_ne (Ne.symm hne)]; exact ha
    have R3 := R2.new (o := exo a (He.ga K C) (some dx)) ha2
    have hG := R1.wd.g.none hdx
    have e2 : Ex G1 (upd G1 dx (.xd [(f, v)])) := Ex.new hG
    have e3 : Ex (upd G1 dx (.xd [(f, v)])) (upd (upd G1 dx (.xd [(f, v)])) a (exo a (He.ga K C) (some dx))) := Ex.new (R2.wd.g.none ha2)
    exact k (.ref a) _ ρ1 _ _ (e1.trans (e2.trans e3)) R3 (.exc (fs := [(f, v)]) (ps := [(f, d)]) upd_same (by rw [upd_ne hne]; exact upd_same) rfl (.cons (hv.mono (e2.trans e3)) .nil)) q
theorem ew_mkE0 {C : Str} (q : Q (.exc C []) ρ) : EvW K (tMkE0 (He.ga K C)) ρ Q := fun F G H σ R Q' k => fun a ha =>
  k (.ref a) _ ρ _ _ (Ex.new (R.wd.g.none ha)) (R.new (o := exo a (He.ga K C) none) ha) (.ex0 upd_same) q
theorem rep_exc {H : Hp} {v : V} {C : Str} {ps : List (Str × D)} (h : Rep K H v (.exc C ps)) : ∃ a od, v = .ref a ∧ H a = some (exo a (He.ga K C) od) ∧ (∀ dx, od = some dx → ∃ fs, H dx = some (.xd fs) ∧ fs.map (·.1) = ps.map (·.1) ∧ Reps K H (fs.map (·.2)) (ps.map (·.2))) ∧ (od = none → ps = []) := by
  cases h with
  | @exc a dx _ fs _ h1 h2 h3 r => exact ⟨a, some dx, rfl, h1, fun y e => by cases e; exact ⟨fs, h2, h3, r⟩, fun z => (nomatch z)⟩
  | @ex0 a _ h1 => exact ⟨a, none, rfl, h1, fun y e => (nomatch e), fun _ => rfl⟩
theorem look_rep {H : Hp} {fs : List (Str × V)} {ps : List (Str × D)} {m : Str} {d : D} (e : fs.map (·.1) = ps.map (·.1)) (r : Reps K H (fs.map (·.2)) (ps.map (·.2))) (h : ps.lookup m = some d) : ∃ v, fs.lookup m = some v ∧ Rep K H v d := by
  induction fs generalizing ps with
  | nil => cases ps with
    | nil => cases h
    | cons _ _ => cases e
  | cons f fs ih =>
    cases ps with
    | nil => cases e
    | cons p ps =>
      obtain ⟨f1, f2⟩ := f
      obtain ⟨p1, p2⟩ := p
      simp only [List.map_cons, List.cons.injEq] at e
      obtain ⟨e1, e2⟩ := e
      subst e1
      obtain ⟨v, ws, ev, r1, r2⟩ := r.cons_inv
      cases ev
      rw [List.lookup_cons] at h ⊢
      cases z : (m == f1) with
      | true => rw [z] at h; cases h; exact ⟨_, rfl, r1⟩
      | false => rw [z] at h; exact ih e2 r2 h
theorem ew_xfH {C f : Str} (h : EvW K te ρ fun x ρ1 => ∃ ps d, x = .exc C ps ∧ ps.lookup f = some d ∧ Q d ρ1) : EvW K (tXfH (He.ga K C) f te) ρ Q := fun F G H σ R Q' k =>
  h F G H σ R _ fun v x ρ1 G1 H1 e1 R1 hv q => by
    obtain ⟨ps, d, rfl, hl, q⟩ := q
    obtain ⟨a, od, rfl, h1, h2, h3⟩ := rep_exc hv
    cases od with
    | none => rw [h3 rfl] at hl; cases hl
    | some dx =>
      obtain ⟨fs, g1, g2, g3⟩ := h2 dx rfl
      obtain ⟨w, l1, l2⟩ := look_rep g2 g3 hl
      exact ⟨a, dx, fs, w, rfl, R1.wd.g _ _ h1, R1.wd.g _ _ g1, l1, k w d ρ1 G1 H1 e1 R1 l2 q⟩
theorem ew_isX {c : V} {cv : Value} (hc : ClsV c cv) (h : EvW K te ρ fun x ρ1 => ∃ C ps b, x = .exc C ps ∧ ExcC K (He.ga K C) ∧ PySem.W.kitOne K (.ref (He.ga K C)) cv = some b ∧ Q (.bl b) ρ1) : EvW K (tCB (rIsX K) (tCons te (tCons (tC c) tNil))) ρ Q := fun F G H σ R Q' k =>
  h F G H σ R _ fun v x ρ1 G1 H1 e1 R1 hv q => by
    obtain ⟨C, ps, b, rfl, hC, hk, q⟩ := q
    obtain ⟨a, od, rfl, h1, h2, h3⟩ := rep_exc hv
    exact ⟨a, _, od, c, cv, b, rfl, R1.wd.g _ _ h1, fun dx e => by
      obtain ⟨fs, g1, _⟩ := h2 dx e
      exact ⟨fs, R1.wd.g _ _ g1⟩, hC, hc, hk, k _ _ ρ1 G1 H1 e1 R1 (.bl b) q⟩
/-- isinstance(ValueError('m'), c) -/
theorem ew_isVE {C : Str} {b : Bool} (hk : PySem.W.kitOne K (.type "ValueError") (.ref (He.ga K C)) = some b) (h : EvA K ts ρ fun ds ρ1 => ds.length ≤ 1000 ∧ Q (.bl b) ρ1) : EvW K (tCB (rIsBx K "ValueError") (tCons (tMkB "ValueError" ts) (tCons (tC (.ref (He.ga K C))) tNil))) ρ Q := fun F G H σ R Q' k =>
  h F G H σ R _ fun vs ds ρ1 G1 H1 e1 R1 hv q => ⟨by rw [hv.length]; exact big (Nat.le_trans q.1 (by decide)), fun a ha => ⟨a, _, _, b, rfl, upd_same, .own _, hk, k _ _ ρ1 G1 _ e1 (R1.alone ha) (.bl b) q.2⟩⟩
/-! ### values told by themselves -/
theorem ew_rawT {i : Nat} {v : V} {d : D} (hi : ρ[i]? = some (.sh (.tag v d))) (q : Q (.raw v) ρ) : EvW K (tVar i) ρ Q := fun F G H σ R Q' k => by
  obtain ⟨s, hs, w, rfl, hw⟩ := R.sl.get hi
  cases hw with
  | tag r => exact ⟨_, hs, k v (.raw v) ρ G H (Ex.refl G) R .raw q⟩
theorem ew_rawO {i : Nat} {a : Addr} {d : D} (hi : ρ[i]? = some (.own a d)) (q : Q (.raw (.ref a)) ρ) : EvW K (tVar i) ρ Q := fun F G H σ R Q' k => by
  obtain ⟨s, hs, rfl, _⟩ := R.sl.get hi
  exact ⟨_, hs, k (.ref a) (.raw (.ref a)) ρ G H (Ex.refl G) R .raw q⟩
theorem ew_tagD {i : Nat} {v : V} {d : D} (hi : ρ[i]? = some (.sh (.tag v d))) (q : Q d ρ) : EvW K (tVar i) ρ Q := fun F G H σ R Q' k => by
  obtain ⟨s, hs, w, rfl, hw⟩ := R.sl.get hi
  cases hw with
  | tag r => exact ⟨_, hs, k v d ρ G H (Ex.refl G) R r q⟩
theorem ws_tag {i : Nat} {d : D} (hi : ρ[i]? = some (.sh d)) (h : ∀ v, WS K t (ρ.set i (.sh (.tag v d))) E) : WS K t ρ E := fun F G H σ Dn R L => by
  obtain ⟨s, hs, w, rfl, hw⟩ := R.sl.get hi
  refine h w F G H σ Dn ⟨R.wd, R.sl.but hs (r' := .sh (.tag w d)) ⟨w, rfl, .tag hw⟩ (fun _ _ _ _ _ _ q => q), List.Nodup.sublist (ownA_setr (r' := .sh (.tag w d)) (List.nil_sublist _) hi) R.nd⟩ L
theorem ws_shareT {i : Nat} {a : Addr} {d : D} (hi : ρ[i]? = some (.own a d)) (h : WS K t (ρ.set i (.sh (.tag (.ref a) d))) E) : WS K t ρ E := fun F G H σ Dn R L => by
  obtain ⟨o, hσ, ho, hG, R1, rp⟩ := R.give hi
  have hl : i < ρ.length := (List.getElem?_eq_some_iff.mp hi).1
  have hi2 : (ρ.set i (.sh d))[i]? = some (.sh d) := List.getElem?_set_self hl
  refine h F (upd G a o) H σ Dn ⟨R1.wd, ?_, ?_⟩ (L.mono (Ex.new hG))
  · have := R1.sl.but hσ (r' := .sh (.tag (.ref a) d)) (G' := upd G a o) (H' := H) ⟨.ref a, rfl, .tag rp⟩ (fun _ _ _ _ _ _ q => q)
    rw [List.set_set] at this
    exact this
  · exact List.Nodup.sublist (ownA_setr (r' := .sh (.tag (.ref a) d)) (List.nil_sublist _) hi) R.nd
theorem reps_raw {H : Hp} {v : V} {d : D} (hv : Rep K H v d) : ∀ {vs : List V} {n : Nat}, Reps K H vs (List.replicate n (.raw v)) → Reps K H vs (List.replicate n d)
  | vs, 0, h => by rw [h.nil_inv]; exact .nil
  | vs, n + 1, h => by
    obtain ⟨w, ws, rfl, h1, h2⟩ := h.cons_inv
    cases h1 with
    | raw => exact .cons hv (reps_raw hv h2)
theorem ws_untag {i j : Nat} {v : V} {d : D} {n : Nat} (hi : ρ[i]? = some (.sh (.tag v d))) (hj : ρ[j]? = some (.sh (.lst (List.replicate n (.raw v))))) (h : WS K t (ρ.set j (.sh (.lst (List.replicate n d)))) E) : WS K t ρ E := fun F G H σ Dn R L => by
  obtain ⟨s, hs, w, rfl, hw⟩ := R.sl.get hi
  obtain ⟨s', hs', w', rfl, hw'⟩ := R.sl.get hj
  obtain ⟨b, ws, rfl, h1, h2⟩ := rep_lst hw'
  cases hw with
  | tag r =>
    exact h F G H σ Dn ⟨R.wd, R.sl.but hs' (r' := .sh (.lst (List.replicate n d))) ⟨_, rfl, .lst h1 (reps_raw r h2)⟩ (fun _ _ _ _ _ _ q => q), List.Nodup.sublist (ownA_setr (r' := .sh (.lst (List.replicate n d))) (List.nil_sublist _) hj) R.nd⟩ L
/-- a thing that is shared or new is given a name -/
theorem ws_asgR {i : Nat} (h : EvR K te ρ fun r ρ1 => match r with
    | .sh d => E.nx (ρ1.set i (.sh d))
    | .nw d => ∀ p, E.nx (ρ1.set i (.own p d))) : WS K (tAsg te (gName i)) ρ E := fun F G H σ Dn R L => h F G H σ R _ fun v r ρ1 G1 H1 e1 R1 hr q => by
  cases r with
  | sh d => exact L.nx _ _ G1 H1 e1 (R1.setSh hr i) q
  | nw d =>
    obtain ⟨p, rfl, hG, hF, hO, o⟩ := hr
    exact L.nx _ _ G1 H1 e1 (R1.setOwn hG hF hO o i) (q p)
/-! ### what is made while nothing else is looked at -/
def iso : Sl → Sl
  | .drw a => .drw a
  | .sh d => if d.flat = true then .sh d else .un
  | _ => .un
theorem iso_flat {d : D} (h : d.flat = true) : iso (.sh d) = .sh d := if_pos h
theorem iso_nf {d : D} (h : ¬ d.flat = true) : iso (.sh d) = .un := if_neg h
def flatL : D → Bool
  | .lst ds => ds.all D.flat
  | _ => false
def rvOf (d : D) : RV := if flatL d = true then .nw d else .sh d
theorem ownA_iso : ∀ ρ : Env, (ownA (ρ.map iso)).Sublist (ownA ρ)
  | [] => List.Sublist.refl _
  | r :: ρ => by
    rw [List.map_cons, ownA_cons, ownA_cons]
    refine List.Sublist.append ?_ (ownA_iso ρ)
    cases r with
    | sh d =>
      by_cases hf : d.flat = true
      · rw [iso_flat hf]; exact List.Sublist.refl _
      · rw [iso_nf hf]; exact List.Sublist.refl _
    | drw a => exact List.Sublist.refl _
    | _ => exact List.nil_sublist _
theorem mem_iso {a : Addr} (h : a ∈ ownA (ρ.map iso)) : ∃ i : Nat, ρ[i]? = some (.drw a) := by
  obtain ⟨r, hr, m⟩ := List.mem_flatMap.mp h
  obtain ⟨r0, hr0, rfl⟩ := List.mem_map.mp hr
  obtain ⟨i, hi⟩ := List.mem_iff_getElem?.mp hr0
  cases r0 with
  | drw b => exact ⟨i, by rw [hi, List.mem_singleton.mp m]⟩
  | sh d =>
    by_cases hf : d.flat = true
    · rw [iso_flat hf] at m; cases m
    · rw [iso_nf hf] at m; cases m
  | _ => cases m
theorem reps_flatA {H H' : Hp} : ∀ {vs : List V} {ds : List D}, ds.all D.flat = true → Reps K H vs ds → Reps K H' vs ds
  | _, _, _, .nil => .nil
  | _, _, h, .cons a r => by
    rw [List.all_cons, Bool.and_eq_true] at h
    exact .cons (flat_rep h.1 a) (reps_flatA h.2 r)
theorem er_iso {Q : RV → Env → Prop} (ht : TabL.tabs = []) (h : EvW K te (ρ.map iso) fun d ρ' => ρ' = ρ.map iso ∧ Q (rvOf d) ρ) : EvR K te ρ Q := fun F G H σ R Q' k => by
  have tbs : ∀ F G H : Hp, Tbs F G H := fun F G H t m => by rw [ht] at m; cases m
  let A0 := ownA (ρ.map iso)
  let F' : Hp := fun b => if b ∈ A0 then none else match H b with
    | some (.tup _) => none
    | o => o
  let G0 : Hp := fun b => match H b with
    | some (.tup vs) => some (.tup vs)
    | _ => none
  have f1 : ∀ b o, F' b = some o → b ∉ A0 ∧ H b = some o ∧ ∀ vs, o ≠ .tup vs := fun b o e => by
    by_cases m : b ∈ A0
    · rw [show F' b = none from if_pos m] at e; cases e
    · refine ⟨m, ?_⟩
      have e : (match H b with | some (.tup _) => none | o => o) = some o := by rw [← e]; exact (if_neg m).symm
      split at e
      · cases e
      · rename_i hh
        exact ⟨e, fun vs z => by subst z; exact hh vs e⟩
  have f2 : ∀ b o, b ∉ A0 → H b = some o → (∀ vs, o ≠ .tup vs) → F' b = some o := fun b o m e nt => by
    rw [show F' b = (match H b with | some (.tup _) => none | o => o) from if_neg m, e]
    split
    · rename_i vs z; exact absurd (Option.some.inj z) (nt vs)
    · rfl
  have g1 : ∀ b o, G0 b = some o → H b = some o ∧ ∃ vs, o = .tup vs := fun b o e => by
    have e : (match H b with | some (.tup vs) => some (HO.tup vs) | _ => none) = some o := e
    split at e
    · rename_i vs z; cases e; exact ⟨z, vs, rfl⟩
    · cases e
  have g2 : ∀ b vs, H b = some (.tup vs) → G0 b = some (.tup vs) := fun b vs e => by
    show (match H b with | some (.tup vs) => some (HO.tup vs) | _ => none) = _
    rw [e]
  have g3 : ∀ b o, H b = some o → (∀ vs, o ≠ .tup vs) → G0 b = none := fun b o e nt => by
    cases z : G0 b with
    | none => rfl
    | some u => obtain ⟨z1, vs, rfl⟩ := g1 b u z; rw [e] at z1; exact absurd (Option.some.inj z1) (nt vs)
  have R0 : RE K F' G0 H σ (ρ.map iso) := by
    refine ⟨⟨fun b o e => (f1 b o e).2.1, fun b o e => (g1 b o e).1, fun b o e => g3 b o (f1 b o e).2.1 (f1 b o e).2.2, fun b vs e => (f1 b _ e).2.2 vs rfl, tbs _ _ _⟩, slots_map R.sl (fun i s r hs hr q => ?_), List.Nodup.sublist (ownA_iso ρ) R.nd⟩
    cases r with
    | un => trivial
    | sh d =>
      by_cases hf : d.flat = true
      · rw [iso_flat hf]
        obtain ⟨v, e, r⟩ := q
        exact ⟨v, e, flat_rep hf r⟩
      · rw [iso_nf hf]; trivial
    | own a d => trivial
    | drw a =>
      obtain ⟨q1, q2, q3, x, y, z, q4⟩ := q
      have m : a ∈ A0 := adr_mem (ρ := ρ.map iso) (i := i) (r := .drw a) (by rw [List.getElem?_map, hr]; rfl) (List.mem_singleton.mpr rfl)
      exact ⟨q1, g3 a _ q4 (fun _ z => (nomatch z)), if_pos m, x, y, z, q4⟩
    | two _ _ _ _ => trivial
  refine h F' G0 H σ R0 Q' fun v d ρ' G1 H1 e1 R1 hv q => ?_
  obtain ⟨rfl, q⟩ := q
  have keep : ∀ b o, H b = some o → b ∉ A0 → H1 b = some o := fun b o e m => by
    by_cases nt : ∃ vs, o = .tup vs
    · obtain ⟨vs, rfl⟩ := nt
      exact R1.wd.g _ _ (e1 _ _ (g2 b vs e))
    · exact R1.wd.f _ _ (f2 b o m e fun vs z => nt ⟨vs, z⟩)
  have off : ∀ b o, H b = some o → (∀ vs, o ≠ .tup vs) → G1 b = none := fun b o e nt => by
    by_cases m : b ∈ A0
    · exact (R1.sl.own m).1
    · exact R1.wd.fg b o (f2 b o m e nt)
  have inA : ∀ b, b ∈ A0 → b ∈ ownA ρ := fun b m => (ownA_iso ρ).subset m
  have core : ∀ x : Option Addr, (∀ b, x = some b → H b = none) → ∃ G2 : Hp, Ex G G2 ∧ RE K F G2 H1 σ ρ ∧ (∀ b o, G1 b = some o → x ≠ some b → G2 b = some o) ∧ ∀ b, x = some b → G2 b = none := fun x hx => by
    let G2 : Hp := fun b => match G b with
      | some o => some o
      | none => if x = some b then none else G1 b
    have c1 : Ex G G2 := fun b o e => by
      show (match G b with | some o => some o | none => if x = some b then none else G1 b) = _
      rw [e]
    have c2 : ∀ b, G b = none → G1 b = none → G2 b = none := fun b e e' => by
      show (match G b with | some o => some o | none => if x = some b then none else G1 b) = _
      rw [e]
      show (if x = some b then none else G1 b) = none
      rw [e']
      split <;> rfl
    have c3 : ∀ b o, G2 b = some o → G b = some o ∨ G1 b = some o := fun b o e => by
      have e : (match G b with | some o => some o | none => if x = some b then none else G1 b) = some o := e
      split at e
      · rename_i u hu; cases e; exact .inl hu
      · split at e
        · cases e
        · exact .inr e
    have c5 : ∀ b o, G b = some o → H1 b = some o := fun b o e => keep b o (R.wd.g _ _ e) fun m => by rw [(R.sl.own (inA b m)).1] at e; cases e
    refine ⟨G2, c1, ⟨⟨fun b o e => keep b o (R.wd.f _ _ e) fun m => ?_, fun b o e => ?_, fun b o e => c2 b (R.wd.fg b o e) (off b o (R.wd.f _ _ e) fun vs z => R.wd.ft b vs (z ▸ e)), R.wd.ft, tbs _ _ _⟩, R.sl.map (fun i s r hs hr q => ?_), R.nd⟩, fun b o e ne => ?_, fun b e => ?_⟩
    · rw [(R.sl.own (inA b m)).2.1] at e; cases e
    · rcases c3 b o e with z | z
      · exact c5 b o z
      · exact R1.wd.g _ _ z
    · by_cases hd : ∃ a, r = .drw a
      · obtain ⟨a, rfl⟩ := hd
        obtain ⟨q1, q2, q3, _⟩ := q
        obtain ⟨s', hs', p1, p2, p3, p4⟩ := R1.sl.get (i := i) (r := .drw a) (by rw [List.getElem?_map, hr]; rfl)
        exact ⟨q1, c2 a q2 p2, q3, p4⟩
      · refine q.step c1 fun b m => ?_
        obtain ⟨o1, o2, u, o3, o4⟩ := q.own m
        have nA : b ∉ A0 := fun z => by
          obtain ⟨j, hj⟩ := mem_iso z
          by_cases e : i = j
          · subst e; rw [hr] at hj; exact hd ⟨b, Option.some.inj hj⟩
          · exact nodup_apart R.nd hr hj e m (List.mem_singleton.mpr rfl)
        exact ⟨by rw [o3]; exact keep b u o3 nA, c2 b o1 (off b u o3 o4.1)⟩
    · show (match G b with | some o => some o | none => if x = some b then none else G1 b) = _
      cases z : G b with
      | some u => have := R1.wd.g _ _ e; rw [c5 b u z] at this; exact this
      | none => exact (if_neg ne).trans e
    · show (match G b with | some o => some o | none => if x = some b then none else G1 b) = _
      rw [R.wd.g.none (hx b e)]
      exact if_pos e
  unfold rvOf at q
  by_cases fl : flatL d = true
  · rw [if_pos fl] at q
    cases d with
    | lst ds =>
      obtain ⟨p, vs, rfl, h1, h2⟩ := rep_lst hv
      have hp : H p = none := by
        cases z : H p with
        | none => rfl
        | some o =>
          by_cases nt : ∃ vs, o = .tup vs
          · obtain ⟨ws, rfl⟩ := nt
            have := e1 _ _ (g2 p ws z)
            rw [h1] at this; cases this
          · rw [off p o z fun vs y => nt ⟨vs, y⟩] at h1; cases h1
      obtain ⟨G2, c1, c2, c3, c4⟩ := core (some p) fun b e => by cases e; exact hp
      exact k (.ref p) (.nw (.lst ds)) ρ G2 H1 c1 c2 ⟨p, rfl, c4 p rfl, R.wd.f.none hp, ownA_fresh R hp, vs, R1.wd.g _ _ h1, reps_flatA fl h2⟩ q
    | _ => cases fl
  · rw [if_neg fl] at q
    obtain ⟨G2, c1, c2, c3, c4⟩ := core none fun b e => (nomatch e)
    exact k v (.sh d) ρ G2 H1 c1 c2 (hv.mono fun b o e => c3 b o e (fun z => (nomatch z))) q
end
end DL

set_option Elab.async false
set_option linter.all false
set_option maxRecDepth 100000
namespace L2
open PySem PySem.Spec PyProof.Rows
theorem op_orR {X : Cx} {f : Value → Value → Sem Value} {r r' : R2} (h : OpR X f r) (h' : OpR X f r') : OpR X f (fun x y H Q => r x y H Q ∨ r' x y H Q) := fun pins s σ H x y v u Q I rx ry z => by
  rcases z with z | z
  · exact h pins s σ H x y v u Q I rx ry z
  · exact h' pins s σ H x y v u Q I rx ry z
/-- two dicts of flat things, equal -/
def rEqDR : R2 := fun x y H Q => ∃ a b ks ls, x = .ref a ∧ y = .ref b ∧ Rd H a (.dK ks) ∧ Rd H b (.dK ls) ∧ ks.length = ls.length ∧ (∀ p ∈ ks, valV ls p.1 = some p.2 ∧ flatB p.2 = true) ∧ Q (.bl true) H
theorem op_eq_dictR {X : Cx} (hu : X.A.units + 1 < cLine) : OpR X (compareOp .Eq) rEqDR := by
  intro pins s σ H x y v u Q I rx ry h
  obtain ⟨a, b, ks, ls, rfl, rfl, ea, eb, hlen, hp, q⟩ := h
  obtain rfl : v = Value.ref a := rx
  obtain rfl : u = Value.ref b := ry
  obtain ⟨_, ya, va, ra, da⟩ := (show ObjOk X.prog X.w H s.heap a (.dK ks) from ea.ok I.hok)
  obtain ⟨_, yb, vb, rb, db⟩ := (show ObjOk X.prog X.w H s.heap b (.dK ls) from eb.ok I.hok)
  have hl : va.length = vb.length := by rw [← ra.length, ← rb.length]; exact hlen
  exact PySem.W.keq_eq (knd := mixKind X.prog X.w) (r := true) ya yb da db (by omega) (fun _ => hits_all rb ra hp) (fin_bl I q (by simp [hl]))
theorem kisX {X : Cx} {K : PySem.W.Frag} (h : X.K = K) : CallR X (.builtin "isinstance") (rIsX K) := h ▸ call_isX
theorem kisB {X : Cx} {K : PySem.W.Frag} (h : X.K = K) : CallR X (.builtin "isinstance") (rIsBx K "ValueError") := h ▸ call_isB
end L2
namespace DL
open PySem PySem.Spec PyProof.Rows L2 SrtK
variable [TabL]
section
variable {K : PySem.W.Frag} {te ta tb tc td ty tv tx tk : TE} {tt tu : TT} {ts : TA} {t u : TS} {ρ : Env} {E : EndD} {Q : D → Env → Prop}
theorem op2_eq_non (q : Q (.bl true) ρ) : Op2 K rEq .non .non ρ Q := fun F G H σ R v w hv hw Q' k => by
  rw [rep_non hv, rep_non hw]
  exact ⟨rfl, k _ _ ρ G H (Ex.refl G) R (.bl _) q⟩
theorem op2_eq_dk1 {x : Key} {d : D} (hd : d.flat = true) (q : Q (.bl true) ρ) : Op2 K rEqDR (.dk [(x, d)]) (.dk [(x, d)]) ρ Q := fun F G H σ R v w hv hw Q' k => by
  obtain ⟨a, ks, rfl, h1, h2, h3⟩ := rep_dk hv
  obtain ⟨b, ls, rfl, g1, g2, g3⟩ := rep_dk hw
  have one : ∀ {ks : List (Key × V)}, ks.map (·.1) = [x] → Reps K G (ks.map (·.2)) [d] → ∃ u, ks = [(x, u)] ∧ Rep K G u d := fun {ks} e r => by
    cases ks with
    | nil => cases e
    | cons p ks =>
      cases ks with
      | cons _ _ => cases e
      | nil =>
        obtain ⟨p1, p2⟩ := p
        cases e
        obtain ⟨u, hu, r⟩ := r.one
        cases hu
        exact ⟨_, rfl, r⟩
  obtain ⟨u, rfl, r1⟩ := one h2 h3
  obtain ⟨u', rfl, r2⟩ := one g2 g3
  have e : u = u' ∧ flatB u = true := by
    cases r1 with
    | non => cases r2; exact ⟨rfl, rfl⟩
    | bl b => cases r2; exact ⟨rfl, rfl⟩
    | int b => cases r2; exact ⟨rfl, rfl⟩
    | str b => cases r2; exact ⟨rfl, rfl⟩
    | _ => cases hd
  obtain ⟨rfl, hf⟩ := e
  have up : ∀ {a ks}, Rd G a (.dK ks) → Rd H a (.dK ks) := fun h => (R.wd.g.rdx).1 _ _ trivial h
  refine ⟨a, b, _, _, rfl, rfl, up h1, up g1, rfl, fun p hp => ?_, k _ _ ρ G H (Ex.refl G) R (.bl _) q⟩
  rw [List.mem_singleton.mp hp]
  exact ⟨by simp [valV, List.find?], hf⟩
theorem ew_isi3 {n m o : String} (hn : n ∈ tyNames) (hm : m ∈ tyNames) (ho : o ∈ tyNames) (h : EvW K te ρ fun d ρ1 => d.plain = true ∧ Q (.bl (tyIs d.ty n || (tyIs d.ty m || tyIs d.ty o))) ρ1) :
    EvW K (tCB (rIsiT K) (tCons te (tCons (tTup (tCons (tC (.ty n)) (tCons (tC (.ty m)) (tCons (tC (.ty o)) tNil)))) tNil))) ρ Q := fun F G H σ R Q' k =>
  h F G H σ R _ fun v d ρ1 G1 H1 e1 R1 hv q => ⟨by show 3 ≤ sizeLine; decide, fun p hp => by
    have e2 : Ex G1 (upd G1 p (.tup [.ty n, .ty m, .ty o])) := Ex.new (R1.wd.g.none hp)
    have R2 := R1.new (o := .tup [.ty n, .ty m, .ty o]) hp
    refine ⟨v, p, [.ty n, .ty m, .ty o], _, [.type n, .type m, .type o], _, rfl, upd_same, .cons (.ty n) (.cons (.ty m) (.cons (.ty o) .nil)), rd_tyX q.1 ((hv.mono e2).mono R2.wd.g), kitAny_names q.1 [n, m, o] ?_, ?_⟩
    · intro x hx
      simp at hx
      rcases hx with rfl | rfl | rfl <;> assumption
    · refine k _ _ ρ1 _ _ (e1.trans e2) R2 (.bl _) ?_
      have e : ([n, m, o].any fun z => tyIs d.ty z) = (tyIs d.ty n || (tyIs d.ty m || tyIs d.ty o)) := by simp
      rw [e]; exact q.2⟩
/-! the pieces of the laws about errors -/
theorem ew_pairE {C f : Str} {d : D} (hi : ρ[0]? = some (.sh d)) (q : Q (.tup [.exc C [(f, d)], .exc C [(f, d)]]) ρ) : EvW K (tTup (tCons (tMkE (He.ga K C) f (tVar 0)) (tCons (tMkE (He.ga K C) f (tVar 0)) tNil))) ρ Q :=
  ew_tup <| ea_cons <| ew_mkE <| ew_var hi <| ea_cons <| ew_mkE <| ew_var hi <| ea_nil ⟨by show 2 ≤ 100000; decide, q⟩
theorem ew_held {C f : Str} {d : D} {ds : List D} {i : Int} (hi : ρ[0]? = some (.sh (.lst ds))) (hd : atI ds i = some (.exc C [(f, d)])) (q : Q d ρ) : EvW K (tXfH (He.ga K C) f (tOp (rIx K) (tVar 0) (tC (.int i)))) ρ Q :=
  ew_xfH <| ew_op <| ew_var hi <| ew_int <| op2_ixL hd ⟨_, _, rfl, by simp [List.lookup], q⟩
theorem ew_isXC {C c : Str} {ps : List (Str × D)} {b : Bool} (hi : ρ[0]? = some (.sh (.exc C ps))) (hC : ExcC K (He.ga K C)) (hk : PySem.W.kitOne K (.ref (He.ga K C)) (.ref (He.ga K c)) = some b) (q : Q (.bl b) ρ) : EvW K (tCB (rIsX K) (tCons (tVar 0) (tCons (tC (.ref (He.ga K c))) tNil))) ρ Q :=
  ew_isX (.own _) <| ew_var hi ⟨C, ps, b, rfl, hC, hk, q⟩
end
end DL

set_option Elab.async false
set_option linter.all false
set_option maxRecDepth 100000
namespace DL
open PySem PySem.Spec PyProof.Rows L2 SrtK
variable [TabL]
section
variable {K : PySem.W.Frag} {te ta tb tc td ty tv tx tk : TE} {tt tu : TT} {ts : TA} {t u z : TS} {ρ : Env} {E : EndD} {Q : D → Env → Prop}
theorem en_disp1 {x : Str} {i : Int} (q : Q (.dk [(.inr x, .int i)]) ρ) : EvN K (tDisp [(tC (.str x), tC (.int i))]) ρ Q := fun F G H σ R Q' k p hp =>
  ⟨upd_same, [(.inr x, .int i)], rfl, by show 1 ≤ 15; decide, by
    rw [upd_upd]
    exact k p (.dk [(.inr x, .int i)]) ρ G _ (Ex.refl G) (R.alone hp) (R.wd.g.none hp) (R.wd.f.none hp) (ownA_fresh R hp) ⟨[(.inr x, .int i)], upd_same, rfl, .cons (.int i) .nil⟩ q⟩
theorem opa_any {bs : List Bool} (q : Q (.bl (bs.any id)) ρ) : OpA K (rAny K) [.lst (bs.map D.bl)] ρ Q := fun F G H σ R vs hv Q' k => by
  obtain ⟨v, rfl, h⟩ := hv.one
  obtain ⟨a, ws, rfl, h1, h2⟩ := rep_lst h
  rw [reps_bls h2] at h1
  exact ⟨a, bs, rfl, .inl (.inl (R.wd.g _ _ h1)), k _ _ ρ G H (Ex.refl G) R (.bl _) q⟩
theorem ws_nx {N N' : Env → Prop} (h : WS K t ρ { E with nx := N }) (k : ∀ ρ', N ρ' → N' ρ') : WS K t ρ { E with nx := N' } := fun F G H σ Dn R L =>
  h F G H σ Dn R ⟨fun σ' ρ' G' H' e R' q => L.nx σ' ρ' G' H' e R' (k ρ' q), L.rt, L.bk, L.ct, L.ro, L.xx⟩
theorem ws_mid3 (C : Env → Prop) (h : WS K t ρ { E with nx := fun ρ1 => WS K u ρ1 { E with nx := C } }) (k : ∀ ρ', C ρ' → WS K z ρ' E) : WS K (tSeq t (tSeq u z)) ρ E :=
  ws_seq <| ws_nx (N := fun ρ1 => WS K u ρ1 { E with nx := C }) h fun ρ1 h1 => ws_seq <| ws_nx h1 k
/-- an own thing is shared at the end -/
theorem ws_endT {N : Env → Prop} {i : Nat} (h : WS K t ρ { E with nx := fun ρ' => ∃ a d, ρ'[i]? = some (.own a d) ∧ N (ρ'.set i (.sh (.tag (.ref a) d))) }) : WS K t ρ { E with nx := N } := fun F G H σ Dn R L =>
  h F G H σ Dn R ⟨fun σ' ρ' G' H' e R' q => by
    obtain ⟨a, d, hi, q⟩ := q
    obtain ⟨o, hσ, ho, hG, R1, rp⟩ := R'.give hi
    refine L.nx σ' _ (upd G' a o) H' (e.trans (Ex.new hG)) ⟨R1.wd, ?_, List.Nodup.sublist (ownA_setr (r' := .sh (.tag (.ref a) d)) (List.nil_sublist _) hi) R'.nd⟩ q
    have := R1.sl.but hσ (r' := .sh (.tag (.ref a) d)) (G' := upd G' a o) (H' := H') ⟨.ref a, rfl, .tag rp⟩ (fun _ _ _ _ _ _ q => q)
    rw [List.set_set] at this
    exact this, L.rt, L.bk, L.ct, L.ro, L.xx⟩
end
end DL

set_option Elab.async false
set_option linter.all false
set_option maxRecDepth 100000
namespace K87
open PySem PySem.Spec PyProof.Rows L2 DL SrtK
def top (i : Nat) : Stmt := PySem.Challenge.pw_seatroads_k87_errors_made.main.body.getD i (.Pass ⟨0, 0, 0, 0⟩)
def inCls (i j : Nat) : Stmt := match top i with
  | .ClassDef _ _ _ b _ _ _ _ _ _ _ => b.getD j (.Pass ⟨0, 0, 0, 0⟩)
  | _ => .Pass ⟨0, 0, 0, 0⟩
abbrev s_BadRank___init__ : Stmt := (inCls 2 0)
abbrev s_BadKind___init__ : Stmt := (inCls 3 0)
abbrev s_BadEvent___init__ : Stmt := (inCls 4 0)
abbrev s_BadTime___init__ : Stmt := (inCls 5 0)
abbrev s_NoPerson___init__ : Stmt := (inCls 6 0)
abbrev s_BadTruth___init__ : Stmt := (inCls 7 0)
abbrev s_NoRoad___init__ : Stmt := (inCls 8 0)
abbrev s_BadLetter___init__ : Stmt := (inCls 9 0)
abbrev s_BadWishes___init__ : Stmt := (inCls 10 0)
abbrev s_BadPerson___init__ : Stmt := (inCls 11 0)
abbrev s_BadFree___init__ : Stmt := (inCls 12 0)
abbrev s_BadMatching___init__ : Stmt := (inCls 13 0)
abbrev s_BadSide___init__ : Stmt := (inCls 14 0)
abbrev s_NotStable___init__ : Stmt := (inCls 15 0)
abbrev s_BadNumber___init__ : Stmt := (inCls 16 0)
abbrev s_BadTurns___init__ : Stmt := (inCls 17 0)
abbrev s_BadRow___init__ : Stmt := (inCls 18 0)
abbrev s_BadDeed___init__ : Stmt := (inCls 19 0)
abbrev s_BadAccount___init__ : Stmt := (inCls 20 0)
abbrev s_BadName___init__ : Stmt := (inCls 21 0)
abbrev s_BadFloor___init__ : Stmt := (inCls 22 0)
abbrev s_BadBooks___init__ : Stmt := (inCls 23 0)
abbrev s_BadFee___init__ : Stmt := (inCls 24 0)
abbrev s_BadHearing___init__ : Stmt := (inCls 25 0)
abbrev s_BadHoldings___init__ : Stmt := (inCls 26 0)
abbrev s_BadItem___init__ : Stmt := (inCls 27 0)
abbrev s_NotFeasible___init__ : Stmt := (inCls 28 0)
abbrev s_BadCoins___init__ : Stmt := (inCls 29 0)
abbrev s_BadDebts___init__ : Stmt := (inCls 30 0)
abbrev s_NoMember___init__ : Stmt := (inCls 31 0)
abbrev s_NotPayments___init__ : Stmt := (inCls 32 0)
abbrev s_NotFailing___init__ : Stmt := (inCls 33 0)
abbrev s_BadHolds___init__ : Stmt := (inCls 34 0)
abbrev s_BadWay___init__ : Stmt := (inCls 35 0)
abbrev s_BadOutcome___init__ : Stmt := (inCls 36 0)
abbrev s_BadHall___init__ : Stmt := (inCls 37 0)
abbrev s_NotAsked___init__ : Stmt := (inCls 38 0)
abbrev s_BadTable___init__ : Stmt := (inCls 39 0)
abbrev s_BadComer___init__ : Stmt := (inCls 40 0)
abbrev s_BadCounts___init__ : Stmt := (inCls 41 0)
abbrev s_BadBook___init__ : Stmt := (inCls 42 0)
abbrev s_BadPeople___init__ : Stmt := (inCls 43 0)
abbrev s_BadRule___init__ : Stmt := (inCls 44 0)
abbrev s_BadText___init__ : Stmt := (inCls 45 0)
abbrev s_Nothing___init__ : Stmt := (inCls 46 0)
abbrev s__law_source : Stmt := (top 48)
abbrev s__law_draw : Stmt := (top 49)
abbrev s__law_pick : Stmt := (top 50)
abbrev s__law_same : Stmt := (top 51)
abbrev s__law_pairs_one : Stmt := (top 52)
abbrev s__law_pairs_two : Stmt := (top 53)
abbrev s__law_held_one : Stmt := (top 54)
abbrev s__law_held_two : Stmt := (top 55)
abbrev s__law_is_these : Stmt := (top 56)
abbrev s__law_is_those : Stmt := (top 57)
abbrev s_law : Stmt := (top 58)
def excN : List Str := (["BadRank", "BadKind", "BadEvent", "BadTime", "NoPerson", "BadTruth", "NoRoad", "BadLetter", "BadWishes", "BadPerson", "BadFree", "BadMatching", "BadSide", "NotStable", "BadNumber"] : List Str) ++ (["BadTurns", "BadRow", "BadDeed", "BadAccount", "BadName", "BadFloor", "BadBooks", "BadFee", "BadHearing", "BadHoldings", "BadItem", "NotFeasible", "BadCoins", "BadDebts", "NoMember"] : List Str) ++ (["NotPayments", "NotFailing", "BadHolds", "BadWay", "BadOutcome", "BadHall", "NotAsked", "BadTable", "BadComer", "BadCounts", "BadBook", "BadPeople", "BadRule", "BadText", "Nothing"] : List Str)
structure TX (P : Program) (K : PySem.W.Frag) (mg : Str → Option Value) : Prop where
  n_ValueError : mg "ValueError" = none
  n_all : mg "all" = none
  n_any : mg "any" = none
  n_bool : mg "bool" = none
  n_enumerate : mg "enumerate" = none
  n_int : mg "int" = none
  n_isinstance : mg "isinstance" = none
  n_len : mg "len" = none
  n_list : mg "list" = none
  n_min : mg "min" = none
  n_range : mg "range" = none
  n_super : mg "super" = none
  n_tuple : mg "tuple" = none
  n_zip : mg "zip" = none
  g__law_source : mg "_law_source" = some (.ref (He.ga K "_law_source"))
  g__law_draw : mg "_law_draw" = some (.ref (He.ga K "_law_draw"))
  g__law_pick : mg "_law_pick" = some (.ref (He.ga K "_law_pick"))
  g__law_same : mg "_law_same" = some (.ref (He.ga K "_law_same"))
  g__law_pairs_one : mg "_law_pairs_one" = some (.ref (He.ga K "_law_pairs_one"))
  g__law_pairs_two : mg "_law_pairs_two" = some (.ref (He.ga K "_law_pairs_two"))
  g__law_held_one : mg "_law_held_one" = some (.ref (He.ga K "_law_held_one"))
  g__law_held_two : mg "_law_held_two" = some (.ref (He.ga K "_law_held_two"))
  g__law_is_these : mg "_law_is_these" = some (.ref (He.ga K "_law_is_these"))
  g__law_is_those : mg "_law_is_those" = some (.ref (He.ga K "_law_is_those"))
  g_law : mg "law" = some (.ref (He.ga K "law"))
  g_OfficeError : mg "OfficeError" = some (.ref (He.ga K "OfficeError"))
  g_BadRank : mg "BadRank" = some (.ref (He.ga K "BadRank"))
  g_BadKind : mg "BadKind" = some (.ref (He.ga K "BadKind"))
  g_BadEvent : mg "BadEvent" = some (.ref (He.ga K "BadEvent"))
  g_BadTime : mg "BadTime" = some (.ref (He.ga K "BadTime"))
  g_NoPerson : mg "NoPerson" = some (.ref (He.ga K "NoPerson"))
  g_BadTruth : mg "BadTruth" = some (.ref (He.ga K "BadTruth"))
  g_NoRoad : mg "NoRoad" = some (.ref (He.ga K "NoRoad"))
  g_BadLetter : mg "BadLetter" = some (.ref (He.ga K "BadLetter"))
  g_BadWishes : mg "BadWishes" = some (.ref (He.ga K "BadWishes"))
  g_BadPerson : mg "BadPerson" = some (.ref (He.ga K "BadPerson"))
  g_BadFree : mg "BadFree" = some (.ref (He.ga K "BadFree"))
  g_BadMatching : mg "BadMatching" = some (.ref (He.ga K "BadMatching"))
  g_BadSide : mg "BadSide" = some (.ref (He.ga K "BadSide"))
  g_NotStable : mg "NotStable" = some (.ref (He.ga K "NotStable"))
  g_BadNumber : mg "BadNumber" = some (.ref (He.ga K "BadNumber"))
  g_BadTurns : mg "BadTurns" = some (.ref (He.ga K "BadTurns"))
  g_BadRow : mg "BadRow" = some (.ref (He.ga K "BadRow"))
  g_BadDeed : mg "BadDeed" = some (.ref (He.ga K "BadDeed"))
  g_BadAccount : mg "BadAccount" = some (.ref (He.ga K "BadAccount"))
  g_BadName : mg "BadName" = some (.ref (He.ga K "BadName"))
  g_BadFloor : mg "BadFloor" = some (.ref (He.ga K "BadFloor"))
  g_BadBooks : mg "BadBooks" = some (.ref (He.ga K "BadBooks"))
  g_BadFee : mg "BadFee" = some (.ref (He.ga K "BadFee"))
  g_BadHearing : mg "BadHearing" = some (.ref (He.ga K "BadHearing"))
  g_BadHoldings : mg "BadHoldings" = some (.ref (He.ga K "BadHoldings"))
  g_BadItem : mg "BadItem" = some (.ref (He.ga K "BadItem"))
  g_NotFeasible : mg "NotFeasible" = some (.ref (He.ga K "NotFeasible"))
  g_BadCoins : mg "BadCoins" = some (.ref (He.ga K "BadCoins"))
  g_BadDebts : mg "BadDebts" = some (.ref (He.ga K "BadDebts"))
  g_NoMember : mg "NoMember" = some (.ref (He.ga K "NoMember"))
  g_NotPayments : mg "NotPayments" = some (.ref (He.ga K "NotPayments"))
  g_NotFailing : mg "NotFailing" = some (.ref (He.ga K "NotFailing"))
  g_BadHolds : mg "BadHolds" = some (.ref (He.ga K "BadHolds"))
  g_BadWay : mg "BadWay" = some (.ref (He.ga K "BadWay"))
  g_BadOutcome : mg "BadOutcome" = some (.ref (He.ga K "BadOutcome"))
  g_BadHall : mg "BadHall" = some (.ref (He.ga K "BadHall"))
  g_NotAsked : mg "NotAsked" = some (.ref (He.ga K "NotAsked"))
  g_BadTable : mg "BadTable" = some (.ref (He.ga K "BadTable"))
  g_BadComer : mg "BadComer" = some (.ref (He.ga K "BadComer"))
  g_BadCounts : mg "BadCounts" = some (.ref (He.ga K "BadCounts"))
  g_BadBook : mg "BadBook" = some (.ref (He.ga K "BadBook"))
  g_BadPeople : mg "BadPeople" = some (.ref (He.ga K "BadPeople"))
  g_BadRule : mg "BadRule" = some (.ref (He.ga K "BadRule"))
  g_BadText : mg "BadText" = some (.ref (He.ga K "BadText"))
  g_Nothing : mg "Nothing" = some (.ref (He.ga K "Nothing"))
  S_BadRank : EXS.SupC K P (He.ga K "BadRank") (He.ma K (He.ga K "BadRank") "__init__") "kind" "kind"
  xf_BadRank : XfC K (He.ga K "BadRank")
  xn_BadRank : PySem.W.findIn K (.ref (He.ga K "BadRank")) "kind" = some none
  S_BadKind : EXS.SupC K P (He.ga K "BadKind") (He.ma K (He.ga K "BadKind") "__init__") "kind" "kind"
  xf_BadKind : XfC K (He.ga K "BadKind")
  xn_BadKind : PySem.W.findIn K (.ref (He.ga K "BadKind")) "kind" = some none
  S_BadEvent : EXS.SupC K P (He.ga K "BadEvent") (He.ma K (He.ga K "BadEvent") "__init__") "time" "time"
  xf_BadEvent : XfC K (He.ga K "BadEvent")
  xn_BadEvent : PySem.W.findIn K (.ref (He.ga K "BadEvent")) "time" = some none
  S_BadTime : EXS.SupC K P (He.ga K "BadTime") (He.ma K (He.ga K "BadTime") "__init__") "time" "time"
  xf_BadTime : XfC K (He.ga K "BadTime")
  xn_BadTime : PySem.W.findIn K (.ref (He.ga K "BadTime")) "time" = some none
  S_NoPerson : EXS.SupC K P (He.ga K "NoPerson") (He.ma K (He.ga K "NoPerson") "__init__") "name" "name"
  xf_NoPerson : XfC K (He.ga K "NoPerson")
  xn_NoPerson : PySem.W.findIn K (.ref (He.ga K "NoPerson")) "name" = some none
  S_BadTruth : EXS.SupC K P (He.ga K "BadTruth") (He.ma K (He.ga K "BadTruth") "__init__") "index" "index"
  xf_BadTruth : XfC K (He.ga K "BadTruth")
  xn_BadTruth : PySem.W.findIn K (.ref (He.ga K "BadTruth")) "index" = some none
  S_NoRoad : EXS.SupC K P (He.ga K "NoRoad") (He.ma K (He.ga K "NoRoad") "__init__") "index" "index"
  xf_NoRoad : XfC K (He.ga K "NoRoad")
  xn_NoRoad : PySem.W.findIn K (.ref (He.ga K "NoRoad")) "index" = some none
  S_BadLetter : EXS.SupC K P (He.ga K "BadLetter") (He.ma K (He.ga K "BadLetter") "__init__") "index" "index"
  xf_BadLetter : XfC K (He.ga K "BadLetter")
  xn_BadLetter : PySem.W.findIn K (.ref (He.ga K "BadLetter")) "index" = some none
  S_BadWishes : EXS.SupC K P (He.ga K "BadWishes") (He.ma K (He.ga K "BadWishes") "__init__") "thing" "thing"
  xf_BadWishes : XfC K (He.ga K "BadWishes")
  xn_BadWishes : PySem.W.findIn K (.ref (He.ga K "BadWishes")) "thing" = some none
  S_BadPerson : EXS.SupC K P (He.ga K "BadPerson") (He.ma K (He.ga K "BadPerson") "__init__") "index" "index"
  xf_BadPerson : XfC K (He.ga K "BadPerson")
  xn_BadPerson : PySem.W.findIn K (.ref (He.ga K "BadPerson")) "index" = some none
  S_BadFree : EXS.SupC K P (He.ga K "BadFree") (He.ma K (He.ga K "BadFree") "__init__") "thing" "thing"
  xf_BadFree : XfC K (He.ga K "BadFree")
  xn_BadFree : PySem.W.findIn K (.ref (He.ga K "BadFree")) "thing" = some none
  S_BadMatching : EXS.SupC K P (He.ga K "BadMatching") (He.ma K (He.ga K "BadMatching") "__init__") "thing" "thing"
  xf_BadMatching : XfC K (He.ga K "BadMatching")
  xn_BadMatching : PySem.W.findIn K (.ref (He.ga K "BadMatching")) "thing" = some none
  S_BadSide : EXS.SupC K P (He.ga K "BadSide") (He.ma K (He.ga K "BadSide") "__init__") "side" "side"
  xf_BadSide : XfC K (He.ga K "BadSide")
  xn_BadSide : PySem.W.findIn K (.ref (He.ga K "BadSide")) "side" = some none
  S_NotStable : EXS.SupC K P (He.ga K "NotStable") (He.ma K (He.ga K "NotStable") "__init__") "matching" "matching"
  xf_NotStable : XfC K (He.ga K "NotStable")
  xn_NotStable : PySem.W.findIn K (.ref (He.ga K "NotStable")) "matching" = some none
  S_BadNumber : EXS.SupC K P (He.ga K "BadNumber") (He.ma K (He.ga K "BadNumber") "__init__") "number" "number"
  xf_BadNumber : XfC K (He.ga K "BadNumber")
  xn_BadNumber : PySem.W.findIn K (.ref (He.ga K "BadNumber")) "number" = some none
  S_BadTurns : EXS.SupC K P (He.ga K "BadTurns") (He.ma K (He.ga K "BadTurns") "__init__") "numbers" "numbers"
  xf_BadTurns : XfC K (He.ga K "BadTurns")
  xn_BadTurns : PySem.W.findIn K (.ref (He.ga K "BadTurns")) "numbers" = some none
  S_BadRow : EXS.SupC K P (He.ga K "BadRow") (He.ma K (He.ga K "BadRow") "__init__") "index" "index"
  xf_BadRow : XfC K (He.ga K "BadRow")
  xn_BadRow : PySem.W.findIn K (.ref (He.ga K "BadRow")) "index" = some none
  S_BadDeed : EXS.SupC K P (He.ga K "BadDeed") (He.ma K (He.ga K "BadDeed") "__init__") "index" "index"
  xf_BadDeed : XfC K (He.ga K "BadDeed")
  xn_BadDeed : PySem.W.findIn K (.ref (He.ga K "BadDeed")) "index" = some none
  S_BadAccount : EXS.SupC K P (He.ga K "BadAccount") (He.ma K (He.ga K "BadAccount") "__init__") "account" "account"
  xf_BadAccount : XfC K (He.ga K "BadAccount")
  xn_BadAccount : PySem.W.findIn K (.ref (He.ga K "BadAccount")) "account" = some none
  S_BadName : EXS.SupC K P (He.ga K "BadName") (He.ma K (He.ga K "BadName") "__init__") "thing" "thing"
  xf_BadName : XfC K (He.ga K "BadName")
  xn_BadName : PySem.W.findIn K (.ref (He.ga K "BadName")) "thing" = some none
  S_BadFloor : EXS.SupC K P (He.ga K "BadFloor") (He.ma K (He.ga K "BadFloor") "__init__") "floor" "floor"
  xf_BadFloor : XfC K (He.ga K "BadFloor")
  xn_BadFloor : PySem.W.findIn K (.ref (He.ga K "BadFloor")) "floor" = some none
  S_BadBooks : EXS.SupC K P (He.ga K "BadBooks") (He.ma K (He.ga K "BadBooks") "__init__") "index" "index"
  xf_BadBooks : XfC K (He.ga K "BadBooks")
  xn_BadBooks : PySem.W.findIn K (.ref (He.ga K "BadBooks")) "index" = some none
  S_BadFee : EXS.SupC K P (He.ga K "BadFee") (He.ma K (He.ga K "BadFee") "__init__") "thing" "thing"
  xf_BadFee : XfC K (He.ga K "BadFee")
  xn_BadFee : PySem.W.findIn K (.ref (He.ga K "BadFee")) "thing" = some none
  S_BadHearing : EXS.SupC K P (He.ga K "BadHearing") (He.ma K (He.ga K "BadHearing") "__init__") "index" "index"
  xf_BadHearing : XfC K (He.ga K "BadHearing")
  xn_BadHearing : PySem.W.findIn K (.ref (He.ga K "BadHearing")) "index" = some none
  S_BadHoldings : EXS.SupC K P (He.ga K "BadHoldings") (He.ma K (He.ga K "BadHoldings") "__init__") "thing" "thing"
  xf_BadHoldings : XfC K (He.ga K "BadHoldings")
  xn_BadHoldings : PySem.W.findIn K (.ref (He.ga K "BadHoldings")) "thing" = some none
  S_BadItem : EXS.SupC K P (He.ga K "BadItem") (He.ma K (He.ga K "BadItem") "__init__") "index" "index"
  xf_BadItem : XfC K (He.ga K "BadItem")
  xn_BadItem : PySem.W.findIn K (.ref (He.ga K "BadItem")) "index" = some none
  S_NotFeasible : EXS.SupC K P (He.ga K "NotFeasible") (He.ma K (He.ga K "NotFeasible") "__init__") "numbers" "numbers"
  xf_NotFeasible : XfC K (He.ga K "NotFeasible")
  xn_NotFeasible : PySem.W.findIn K (.ref (He.ga K "NotFeasible")) "numbers" = some none
  S_BadCoins : EXS.SupC K P (He.ga K "BadCoins") (He.ma K (He.ga K "BadCoins") "__init__") "thing" "thing"
  xf_BadCoins : XfC K (He.ga K "BadCoins")
  xn_BadCoins : PySem.W.findIn K (.ref (He.ga K "BadCoins")) "thing" = some none
  S_BadDebts : EXS.SupC K P (He.ga K "BadDebts") (He.ma K (He.ga K "BadDebts") "__init__") "thing" "thing"
  xf_BadDebts : XfC K (He.ga K "BadDebts")
  xn_BadDebts : PySem.W.findIn K (.ref (He.ga K "BadDebts")) "thing" = some none
  S_NoMember : EXS.SupC K P (He.ga K "NoMember") (He.ma K (He.ga K "NoMember") "__init__") "member" "member"
  xf_NoMember : XfC K (He.ga K "NoMember")
  xn_NoMember : PySem.W.findIn K (.ref (He.ga K "NoMember")) "member" = some none
  S_NotPayments : EXS.SupC K P (He.ga K "NotPayments") (He.ma K (He.ga K "NotPayments") "__init__") "thing" "thing"
  xf_NotPayments : XfC K (He.ga K "NotPayments")
  xn_NotPayments : PySem.W.findIn K (.ref (He.ga K "NotPayments")) "thing" = some none
  S_NotFailing : EXS.SupC K P (He.ga K "NotFailing") (He.ma K (He.ga K "NotFailing") "__init__") "who" "who"
  xf_NotFailing : XfC K (He.ga K "NotFailing")
  xn_NotFailing : PySem.W.findIn K (.ref (He.ga K "NotFailing")) "who" = some none
  S_BadHolds : EXS.SupC K P (He.ga K "BadHolds") (He.ma K (He.ga K "BadHolds") "__init__") "thing" "thing"
  xf_BadHolds : XfC K (He.ga K "BadHolds")
  xn_BadHolds : PySem.W.findIn K (.ref (He.ga K "BadHolds")) "thing" = some none
  S_BadWay : EXS.SupC K P (He.ga K "BadWay") (He.ma K (He.ga K "BadWay") "__init__") "index" "index"
  xf_BadWay : XfC K (He.ga K "BadWay")
  xn_BadWay : PySem.W.findIn K (.ref (He.ga K "BadWay")) "index" = some none
  S_BadOutcome : EXS.SupC K P (He.ga K "BadOutcome") (He.ma K (He.ga K "BadOutcome") "__init__") "outcome" "outcome"
  xf_BadOutcome : XfC K (He.ga K "BadOutcome")
  xn_BadOutcome : PySem.W.findIn K (.ref (He.ga K "BadOutcome")) "outcome" = some none
  S_BadHall : EXS.SupC K P (He.ga K "BadHall") (He.ma K (He.ga K "BadHall") "__init__") "hall" "hall"
  xf_BadHall : XfC K (He.ga K "BadHall")
  xn_BadHall : PySem.W.findIn K (.ref (He.ga K "BadHall")) "hall" = some none
  S_NotAsked : EXS.SupC K P (He.ga K "NotAsked") (He.ma K (He.ga K "NotAsked") "__init__") "time" "time"
  xf_NotAsked : XfC K (He.ga K "NotAsked")
  xn_NotAsked : PySem.W.findIn K (.ref (He.ga K "NotAsked")) "time" = some none
  S_BadTable : EXS.SupC K P (He.ga K "BadTable") (He.ma K (He.ga K "BadTable") "__init__") "part" "part"
  xf_BadTable : XfC K (He.ga K "BadTable")
  xn_BadTable : PySem.W.findIn K (.ref (He.ga K "BadTable")) "part" = some none
  S_BadComer : EXS.SupC K P (He.ga K "BadComer") (He.ma K (He.ga K "BadComer") "__init__") "comer" "comer"
  xf_BadComer : XfC K (He.ga K "BadComer")
  xn_BadComer : PySem.W.findIn K (.ref (He.ga K "BadComer")) "comer" = some none
  S_BadCounts : EXS.SupC K P (He.ga K "BadCounts") (He.ma K (He.ga K "BadCounts") "__init__") "counts" "counts"
  xf_BadCounts : XfC K (He.ga K "BadCounts")
  xn_BadCounts : PySem.W.findIn K (.ref (He.ga K "BadCounts")) "counts" = some none
  S_BadBook : EXS.SupC K P (He.ga K "BadBook") (He.ma K (He.ga K "BadBook") "__init__") "book" "book"
  xf_BadBook : XfC K (He.ga K "BadBook")
  xn_BadBook : PySem.W.findIn K (.ref (He.ga K "BadBook")) "book" = some none
  S_BadPeople : EXS.SupC K P (He.ga K "BadPeople") (He.ma K (He.ga K "BadPeople") "__init__") "name" "name"
  xf_BadPeople : XfC K (He.ga K "BadPeople")
  xn_BadPeople : PySem.W.findIn K (.ref (He.ga K "BadPeople")) "name" = some none
  S_BadRule : EXS.SupC K P (He.ga K "BadRule") (He.ma K (He.ga K "BadRule") "__init__") "rule" "rule"
  xf_BadRule : XfC K (He.ga K "BadRule")
  xn_BadRule : PySem.W.findIn K (.ref (He.ga K "BadRule")) "rule" = some none
  S_BadText : EXS.SupC K P (He.ga K "BadText") (He.ma K (He.ga K "BadText") "__init__") "line" "line"
  xf_BadText : XfC K (He.ga K "BadText")
  xn_BadText : PySem.W.findIn K (.ref (He.ga K "BadText")) "line" = some none
  S0_Nothing : EXS.SupC0 K P (He.ga K "Nothing") (He.ma K (He.ga K "Nothing") "__init__")
  ec : ∀ C ∈ excN, ExcC K (He.ga K C)
  km : ∀ C ∈ excN, ∀ c ∈ excN, PySem.W.kitOne K (.ref (He.ga K C)) (.ref (He.ga K c)) = some (decide (C = c))
  ko : ∀ C ∈ excN, PySem.W.kitOne K (.ref (He.ga K C)) (.ref (He.ga K "OfficeError")) = some true
  kv : ∀ C ∈ excN, PySem.W.kitOne K (.ref (He.ga K C)) (.type "ValueError") = some true
  kb : PySem.W.kitOne K (.type "ValueError") (.ref (He.ga K "OfficeError")) = some false
  F__law_source : ∃ fd, FunD K "_law_source" "_law_source" (defArgs s__law_source) (defBody s__law_source) (defScope s__law_source) [] [] (He.ga K "_law_source") fd
  F__law_draw : ∃ fd, FunD K "_law_draw" "_law_draw" (defArgs s__law_draw) (defBody s__law_draw) (defScope s__law_draw) [] [] (He.ga K "_law_draw") fd
  F__law_pick : ∃ fd, FunD K "_law_pick" "_law_pick" (defArgs s__law_pick) (defBody s__law_pick) (defScope s__law_pick) [] [] (He.ga K "_law_pick") fd
  F__law_same : ∃ fd, FunD K "_law_same" "_law_same" (defArgs s__law_same) (defBody s__law_same) (defScope s__law_same) [] [] (He.ga K "_law_same") fd
  F__law_pairs_one : ∃ fd, FunD K "_law_pairs_one" "_law_pairs_one" (defArgs s__law_pairs_one) (defBody s__law_pairs_one) (defScope s__law_pairs_one) [] [] (He.ga K "_law_pairs_one") fd
  F__law_pairs_two : ∃ fd, FunD K "_law_pairs_two" "_law_pairs_two" (defArgs s__law_pairs_two) (defBody s__law_pairs_two) (defScope s__law_pairs_two) [] [] (He.ga K "_law_pairs_two") fd
  F__law_held_one : ∃ fd, FunD K "_law_held_one" "_law_held_one" (defArgs s__law_held_one) (defBody s__law_held_one) (defScope s__law_held_one) [] [] (He.ga K "_law_held_one") fd
  F__law_held_two : ∃ fd, FunD K "_law_held_two" "_law_held_two" (defArgs s__law_held_two) (defBody s__law_held_two) (defScope s__law_held_two) [] [] (He.ga K "_law_held_two") fd
  F__law_is_these : ∃ fd, FunD K "_law_is_these" "_law_is_these" (defArgs s__law_is_these) (defBody s__law_is_these) (defScope s__law_is_these) [] [] (He.ga K "_law_is_these") fd
  F__law_is_those : ∃ fd, FunD K "_law_is_those" "_law_is_those" (defArgs s__law_is_those) (defBody s__law_is_those) (defScope s__law_is_those) [] [] (He.ga K "_law_is_those") fd
  F_law : ∃ fd, FunD K "law" "law" (defArgs s_law) (defBody s_law) (defScope s_law) [] [] (He.ga K "law") fd
instance tabs0 : TabL := ⟨[], List.nodup_nil⟩
theorem ite_b {b : Bool} {A B : Prop} (h1 : b = true → A) (h2 : b = false → B) : if b = true then A else B := by
  cases b with
  | true => exact h1 rfl
  | false => exact h2 rfl
section
variable {P : Program} {w : World} {K : PySem.W.Frag} {mg : Str → Option Value} {base : Heap}
def T__law_source : List D → (D → Prop) → Prop := fun ds Q => ∃ (ns : List Int) (j : Nat), ds = [.scr ns, .int (j : Nat)] ∧ ∀ x y : Int, Q (.lst [.int x, .int y, .int 0])
abbrev N__law_source : List Str := ["_law_script", "_law_turn", "_law_cell"]
theorem S__law_source : FnScope N__law_source ["_law_script", "_law_turn"] (defScope s__law_source) := ⟨rfl, rfl, rfl, by decide +kernel, rfl, by decide +kernel, by decide +kernel⟩
theorem ok__law_source (T : TX P K mg) : FnB P w K mg base 1 "_law_source" ["_law_script", "_law_turn"] (spN K T__law_source) := by
  obtain ⟨fd, F⟩ := T.F__law_source
  refine fn_N (k := 0) F T.g__law_source (fun _ _ _ _ _ _ us hl => match us, hl with | [_, _], _ => rfl) S__law_source (fun ds Qd h => by first | (obtain ⟨rfl, _⟩ := h; rfl) | (obtain ⟨_, rfl, _⟩ := h; rfl) | (obtain ⟨_, _, rfl, _⟩ := h; rfl) | (obtain ⟨_, _, _, rfl, _⟩ := h; rfl) | (obtain ⟨_, _, _, _, rfl, _⟩ := h; rfl) | (obtain ⟨_, _, _, _, _, rfl, _⟩ := h; rfl) | (obtain ⟨_, _, _, _, _, _, rfl, _⟩ := h; rfl)) fun cdv A outer s H E hr => ⟨_, (pss_cons (ps_set (i := 2) S__law_source.nd rfl (by first | exact .inl rfl | exact .inr rfl) (pe_ifExp (pt_cmpR op_lt (pv 1) (pe_callB (klen (K := K) rfl) (by rfl) T.n_len (by decide +kernel) (pa_cons (pv 0) pa_nil)) (nomark _)) (pe_ix (kix (K := K) rfl) (pv 0) (pv 1) (fun _ _ => rfl)) (pe_op op_add (pe_op op_mul pe_int (pv 1)) pe_int)))
      (pss_one (ps_ret (pe_lst (pa_cons (pe_ifExp (pt_cmpR op_ge (pv 2) (pe_op op_pow pe_int pe_int) (nomark _)) (pv 2) pe_int) (pa_cons (pe_op op_mod (pe_callTy call_int1 (by rfl) T.n_int (by decide +kernel) (pa_cons (pv 2) pa_nil)) pe_int) (pa_cons pe_int pa_nil))))))), fun ds Qd h => ?_⟩
  obtain ⟨ns, j, rfl, q⟩ := h
  refine ws_seq <| ws_asg <| ew_weak (Q₁ := fun d ρ1 => ∃ c : Int, d = .int c ∧ ρ1 = envP N__law_source [D.scr ns, .int (j : Nat)]) ?_ ?_
  · refine ew_if <| et_test <| ew_op <| ew_var rfl <| ew_cb <| ea_cons <| ew_var rfl <| ea_nil <| opa_len_scr <| op2_cmp ⟨_, rfl, ite_b (fun h1 => ?_) (fun h1 => ?_)⟩
    · have hlt : j < ns.length := by have := of_decide_eq_true h1; omega
      exact ew_op <| ew_var rfl <| ew_var rfl <| op2_ix_scr (List.getElem?_eq_getElem hlt) ⟨_, rfl, rfl⟩
    · exact ew_op <| ew_op <| ew_int <| ew_var rfl <| op2_intC (.inl ⟨by decide, by decide⟩) <| ew_int <| op2_int ⟨_, rfl, rfl⟩
  rintro d ρ1 ⟨c, rfl, rfl⟩
  refine gw_name <| ws_retNew <| en_lst <| ea_cons <| ew_weak (Q₁ := fun d ρ1 => ∃ x : Int, d = .int x ∧ ρ1 = (envP N__law_source [D.scr ns, .int (j : Nat)]).set 2 (.sh (.int c))) ?_ ?_
  · exact ew_if <| et_test <| ew_op <| ew_var rfl <| ew_op <| ew_int <| ew_int <| op2_intC ⟨by decide, by decide, by decide⟩ <| op2_cmp ⟨_, rfl, ite_b (fun _ => ew_var rfl ⟨_, rfl, rfl⟩) (fun _ => ew_int ⟨_, rfl, rfl⟩)⟩
  rintro d ρ1 ⟨x, rfl, rfl⟩
  refine ea_cons <| ew_op <| ew_cb <| ea_cons <| ew_var rfl <| ea_nil <| opa_int <| ew_int <| op2_intC (by show (0 : Int) < 2147483629; decide) <| ea_cons <| ew_int <| ea_nil ⟨?_, q _ _⟩
  show 3 ≤ 100000
  decide
def T__law_draw : List D → (D → Prop) → Prop := fun ds Q => ∃ m : Int, ds = [.int m] ∧ 0 < m ∧ m < 1073741824 ∧ ∀ r : Int, 0 ≤ r → r < m → Q (.int r)
abbrev N__law_draw : List Str := ["_law_draws", "_law_many", "_law_digit"]
theorem S__law_draw : FnScope N__law_draw ["_law_draws", "_law_many"] (defScope s__law_draw) := ⟨rfl, rfl, rfl, by decide +kernel, rfl, by decide +kernel, by decide +kernel⟩
theorem ok__law_draw (T : TX P K mg) : FnB P w K mg base 1 "_law_draw" ["_law_draws", "_law_many"] (spW K T__law_draw) := by
  obtain ⟨fd, F⟩ := T.F__law_draw
  refine fn_W (k := 0) F T.g__law_draw (fun _ _ _ _ _ _ us hl => match us, hl with | [_, _], _ => rfl) S__law_draw (by decide) (fun ds Qd h => by first | (obtain ⟨rfl, _⟩ := h; rfl) | (obtain ⟨_, rfl, _⟩ := h; rfl) | (obtain ⟨_, _, rfl, _⟩ := h; rfl) | (obtain ⟨_, _, _, rfl, _⟩ := h; rfl) | (obtain ⟨_, _, _, _, rfl, _⟩ := h; rfl) | (obtain ⟨_, _, _, _, _, rfl, _⟩ := h; rfl) | (obtain ⟨_, _, _, _, _, _, rfl, _⟩ := h; rfl)) fun cdv A outer s H E hr => ⟨_, (pss_cons (ps_if (pt_cmpR op_gt (pe_ix (kix (K := K) rfl) (pv 0) pe_int (fun _ _ => rfl)) pe_int (nomark _)) (pss_cons (ps_set (i := 2) S__law_draw.nd rfl (by first | exact .inl rfl | exact .inr rfl) (pe_op op_mod (pe_callTy call_int1 (by rfl) T.n_int (by decide +kernel) (pa_cons (pe_ix (kix (K := K) rfl) (pv 0) pe_int (fun _ _ => rfl)) pa_nil)) (pv 1)))
      (pss_cons (ps_asg (pe_op op_fdiv (pe_ix (kix (K := K) rfl) (pv 0) pe_int (fun _ _ => rfl)) (pv 1)) (pg_sub (pv 0) pe_int set_list))
      (pss_one (ps_ret (pv 2))))) pss_nil)
      (pss_cons (ps_asg (pe_op op_add (pe_ix (kix (K := K) rfl) (pv 0) pe_int (fun _ _ => rfl)) pe_int) (pg_sub (pv 0) pe_int set_list))
      (pss_cons (ps_asg (pe_op op_mod (pe_callTy call_int1 (by rfl) T.n_int (by decide +kernel) (pa_cons (pe_op op_add (pe_op op_add (pe_op op_mul (pe_ix (kix (K := K) rfl) (pv 0) pe_int (fun _ _ => rfl)) pe_int) (pe_op op_mul (pe_ix (kix (K := K) rfl) (pv 0) pe_int (fun _ _ => rfl)) pe_int)) pe_int) pa_nil)) pe_int) (pg_sub (pv 0) pe_int set_list))
      (pss_one (ps_ret (pe_op op_mod (pe_callTy call_int1 (by rfl) T.n_int (by decide +kernel) (pa_cons (pe_op op_add (pe_op op_fdiv (pe_ix (kix (K := K) rfl) (pv 0) pe_int (fun _ _ => rfl)) pe_int) (pe_ix (kix (K := K) rfl) (pv 0) pe_int (fun _ _ => rfl))) pa_nil)) (pv 1))))))), fun a ds Qd h => ?_⟩
  obtain ⟨m, rfl, h0, h1, q⟩ := h
  have b3 : ∀ {j : Int}, j = 0 ∨ j = 1 ∨ j = 2 → 0 ≤ j ∧ j < 3 := fun h => by omega
  refine ws_seq <| ws_if <| et_test <| ew_op <| ew_drwix rfl (b3 (.inl rfl)) fun x => ew_int <| op2_cmp ⟨_, rfl, ite_b (fun _ => ?_) (fun _ => ws_next ?_)⟩
  · refine ws_seq <| ws_asg <| ew_op <| ew_cb <| ea_cons <| ew_drwix rfl (b3 (.inl rfl)) fun y => ea_nil <| opa_int <| ew_var rfl <| op2_intC h0 <| gw_name ?_
    refine ws_seq <| ws_drwset rfl (b3 (.inl rfl)) <| ew_op <| ew_drwix rfl (b3 (.inl rfl)) fun z => ew_var rfl <| op2_intC ⟨h0, h1⟩ ⟨_, rfl, rfl, ?_⟩
    exact ws_ret <| ew_var rfl ⟨rfl, q _ (Int.emod_nonneg _ (by omega)) (Int.emod_lt_of_pos _ h0)⟩
  · refine ws_seq <| ws_drwset rfl (b3 (.inr (.inr rfl))) <| ew_op <| ew_drwix rfl (b3 (.inr (.inr rfl))) fun z => ew_int <| op2_int ⟨_, rfl, rfl, ?_⟩
    refine ws_seq <| ws_drwset rfl (b3 (.inr (.inl rfl))) <| ew_op <| ew_cb <| ea_cons <| ew_op <| ew_op <| ew_op <| ew_drwix rfl (b3 (.inr (.inl rfl))) fun y => ew_int <| op2_intC (.inr ⟨by decide, by decide⟩) <| ew_op <| ew_drwix rfl (b3 (.inr (.inr rfl))) fun z => ew_int <| op2_intC (.inr ⟨by decide, by decide⟩) <| op2_int <| ew_int <| op2_int <| ea_nil <| opa_int <| ew_int <| op2_intC (by show (0 : Int) < 2147483629; decide) ⟨_, rfl, rfl, ?_⟩
    exact ws_ret <| ew_op <| ew_cb <| ea_cons <| ew_op <| ew_op <| ew_drwix rfl (b3 (.inr (.inl rfl))) fun y => ew_int <| op2_intC ⟨by decide, by decide⟩ <| ew_drwix rfl (b3 (.inr (.inl rfl))) fun z => op2_int <| ea_nil <| opa_int <| ew_var rfl <| op2_intC h0 ⟨rfl, q _ (Int.emod_nonneg _ (by omega)) (Int.emod_lt_of_pos _ h0)⟩
def T__law_pick : List D → (D → Prop) → Prop := fun ds Q => ∃ x xs, ds = [x] ∧ x.seq = some xs ∧ 0 < xs.length ∧ xs.length ≤ 100000 ∧ ∀ d ∈ xs, Q d
abbrev N__law_pick : List Str := ["_law_draws", "_law_things"]
theorem S__law_pick : FnScope N__law_pick ["_law_draws", "_law_things"] (defScope s__law_pick) := ⟨rfl, rfl, rfl, by decide +kernel, rfl, by decide +kernel, by decide +kernel⟩
theorem ok__law_pick (T : TX P K mg) : FnB P w K mg base 2 "_law_pick" ["_law_draws", "_law_things"] (spW K T__law_pick) := by
  obtain ⟨fd, F⟩ := T.F__law_pick
  have G__law_draw := ok__law_draw (P := P) (w := w) (base := base) T
  refine fn_W (k := 1) F T.g__law_pick (fun _ _ _ _ _ _ us hl => match us, hl with | [_, _], _ => rfl) S__law_pick (by decide) (fun ds Qd h => by first | (obtain ⟨rfl, _⟩ := h; rfl) | (obtain ⟨_, rfl, _⟩ := h; rfl) | (obtain ⟨_, _, rfl, _⟩ := h; rfl) | (obtain ⟨_, _, _, rfl, _⟩ := h; rfl) | (obtain ⟨_, _, _, _, rfl, _⟩ := h; rfl) | (obtain ⟨_, _, _, _, _, rfl, _⟩ := h; rfl) | (obtain ⟨_, _, _, _, _, _, rfl, _⟩ := h; rfl)) fun cdv A outer s H E hr => ⟨_, (pss_one (ps_ret (pe_ix (kix (K := K) rfl) (pv 1) (pe_callF G__law_draw (hr.mono (by first | decide | omega)) (pa_cons (pv 0) (pa_cons (pe_callB (klen (K := K) rfl) (by rfl) T.n_len (by decide +kernel) (pa_cons (pv 1) pa_nil)) pa_nil))) (fun _ _ => rfl)))), fun a ds Qd h => ?_⟩
  obtain ⟨x, xs, rfl, hx, h0, h1, q⟩ := h
  refine ws_ret <| ew_op <| ew_var rfl <| ew_callW rfl <| ea_cons <| ew_cb <| ea_cons <| ew_var rfl <| ea_nil <| opa_len hx <| ea_nil ⟨rfl, _, rfl, by omega, by omega, fun r hr0 hr1 => ?_⟩
  have hlt : r.toNat < xs.length := by omega
  have e : r = ((r.toNat : Nat) : Int) := by omega
  rw [e]
  exact op2_ix hx (atI_nat (List.getElem?_eq_getElem hlt)) ⟨rfl, q _ (List.getElem_mem hlt)⟩
/-! ### the same, found and due -/
inductive Pl : Nat → D → Prop
  | non {n : Nat} : Pl n .non
  | bl {n : Nat} (b : Bool) : Pl n (.bl b)
  | int {n : Nat} (i : Int) : Pl n (.int i)
  | str {n : Nat} (x : Str) : Pl n (.str x)
  | dk {n : Nat} {x : Key} {d : D} : d.flat = true → Pl n (.dk [(x, d)])
  | lst {n : Nat} {xs : List D} : xs.length ≤ 1000 → (∀ x ∈ xs, Pl n x) → Pl (n + 1) (.lst xs)
  | tup {n : Nat} {xs : List D} : xs.length ≤ 1000 → (∀ x ∈ xs, Pl n x) → Pl (n + 1) (.tup xs)
def T_same (n : Nat) : List D → (D → Prop) → Prop := fun ds Q => ∃ x, ds = [x, x] ∧ Pl n x ∧ Q (.bl true)
abbrev N__law_same : List Str := ["_law_found", "_law_due", "_law_one", "_law_other"]
theorem S__law_same : FnScope N__law_same ["_law_found", "_law_due"] (defScope s__law_same) := ⟨rfl, rfl, rfl, by decide +kernel, rfl, by decide +kernel, by decide +kernel⟩
theorem same_step (T : TX P K mg) (n : Nat) {R : List D → (D → Prop) → Prop} (hR : ∀ m, n = m + 1 → R = T_same m) (G__law_same : FnB P w K mg base (n + 1) "_law_same" ["_law_found", "_law_due"] (spP K R)) : FnB P w K mg base (n + 2) "_law_same" ["_law_found", "_law_due"] (spP K (T_same n)) := by
  obtain ⟨fd, F⟩ := T.F__law_same
  refine fn_P (k := n + 1) F T.g__law_same (fun _ _ _ _ _ _ us hl => match us, hl with | [_, _], _ => rfl) S__law_same (fun ds Qd h => by obtain ⟨_, rfl, _⟩ := h; rfl) fun cdv A outer s H E hr => ⟨_, (pss_cons (ps_if (pt_val (pe_callB (kisiT (K := K) rfl) (by rfl) T.n_isinstance (by decide +kernel) (pa_cons (pv 1) (pa_cons (pe_tup (pa_cons (pe_bltn (v := .ty "list") (by rfl) T.n_list (by decide +kernel) rfl) (pa_cons (pe_bltn (v := .ty "tuple") (by rfl) T.n_tuple (by decide +kernel) rfl) pa_nil))) pa_nil)))) (pss_cons (ps_if (PW.pt (pw_or (pt_cmpR op_ne (pe_callB (kisi (K := K) rfl) (by rfl) T.n_isinstance (by decide +kernel) (pa_cons (pv 0) (pa_cons (pe_bltn (v := .ty "list") (by rfl) T.n_list (by decide +kernel) rfl) pa_nil))) (pe_callB (kisi (K := K) rfl) (by rfl) T.n_isinstance (by decide +kernel) (pa_cons (pv 1) (pa_cons (pe_bltn (v := .ty "list") (by rfl) T.n_list (by decide +kernel) rfl) pa_nil))) (nomark _)) (pw_or1 (pt_cmpR op_ne (pe_callB (kisi (K := K) rfl) (by rfl) T.n_isinstance (by decide +kernel) (pa_cons (pv 0) (pa_cons (pe_bltn (v := .ty "tuple") (by rfl) T.n_tuple (by decide +kernel) rfl) pa_nil))) (pe_callB (kisi (K := K) rfl) (by rfl) T.n_isinstance (by decide +kernel) (pa_cons (pv 1) (pa_cons (pe_bltn (v := .ty "tuple") (by rfl) T.n_tuple (by decide +kernel) rfl) pa_nil))) (nomark _))))) (pss_one (ps_ret pe_bl)) pss_nil)
      (pss_one (ps_ret (pe_and (pe_cmpR op_eq (pe_callB (klen (K := K) rfl) (by rfl) T.n_len (by decide +kernel) (pa_cons (pv 0) pa_nil)) (pe_callB (klen (K := K) rfl) (by rfl) T.n_len (by decide +kernel) (pa_cons (pv 1) pa_nil)) (nomark _)) (pe_one (pe_callB (kall rfl (K := K) rfl) (by rfl) T.n_all (by decide +kernel) (pa_cons (pe_lc (own := [("_law_one", 2), ("_law_other", 3)]) rfl S__law_same.nd (kzipA (K := K) rfl (by rfl) T.n_zip (pa_cons (pv 0) (pa_cons (pv 1) pa_nil))) (blkOk_by (own := [("_law_one", 2), ("_law_other", 3)]) (N := N__law_same) (sc := defScope s__law_same) (by decide +kernel)) (fun _ _ _ _ _ => (kgt (K := K) (n := 2) rfl rfl (pgs_cons (pg_name (i := 2) S__law_same.nd rfl (by first | exact .inl rfl | exact .inr rfl)) (pgs_cons (pg_name (i := 3) S__law_same.nd rfl (by first | exact .inl rfl | exact .inr rfl)) pgs_nil)))) (fun _ _ _ _ _ => pts_nil) (fun _ _ _ _ _ => (pe_callF G__law_same (hr.mono (by first | decide | omega)) (pa_cons (pv 2) (pa_cons (pv 3) pa_nil))))) pa_nil))))))) pss_nil)
      (pss_cons (ps_if (pt_val (pe_callB (kisi (K := K) rfl) (by rfl) T.n_isinstance (by decide +kernel) (pa_cons (pv 1) (pa_cons (pe_bltn (v := .ty "int") (by rfl) T.n_int (by decide +kernel) rfl) pa_nil)))) (pss_one (ps_ret (pe_and (pe_callB (kisi (K := K) rfl) (by rfl) T.n_isinstance (by decide +kernel) (pa_cons (pv 0) (pa_cons (pe_bltn (v := .ty "int") (by rfl) T.n_int (by decide +kernel) rfl) pa_nil))) (pe_and (pe_cmpR op_eq (pe_callB (kisi (K := K) rfl) (by rfl) T.n_isinstance (by decide +kernel) (pa_cons (pv 0) (pa_cons (pe_bltn (v := .ty "bool") (by rfl) T.n_bool (by decide +kernel) rfl) pa_nil))) (pe_callB (kisi (K := K) rfl) (by rfl) T.n_isinstance (by decide +kernel) (pa_cons (pv 1) (pa_cons (pe_bltn (v := .ty "bool") (by rfl) T.n_bool (by decide +kernel) rfl) pa_nil))) (nomark _)) (pe_one (pe_cmpR (op_orR op_eq (op_eq_dictR (hu_of hr))) (pv 0) (pv 1) (nomark _))))))) pss_nil)
      (pss_one (ps_ret (pe_and (pe_not (pe_callB (kisiT (K := K) rfl) (by rfl) T.n_isinstance (by decide +kernel) (pa_cons (pv 0) (pa_cons (pe_tup (pa_cons (pe_bltn (v := .ty "int") (by rfl) T.n_int (by decide +kernel) rfl) (pa_cons (pe_bltn (v := .ty "list") (by rfl) T.n_list (by decide +kernel) rfl) (pa_cons (pe_bltn (v := .ty "tuple") (by rfl) T.n_tuple (by decide +kernel) rfl) pa_nil)))) pa_nil)))) (pe_one (pe_cmpR (op_orR op_eq (op_eq_dictR (hu_of hr))) (pv 0) (pv 1) (nomark _)))))))), fun ds Qd h => ?_⟩
  obtain ⟨d, rfl, hd, q⟩ := h
  have hcase : (∃ xs m, n = m + 1 ∧ xs.length ≤ 1000 ∧ (∀ x ∈ xs, Pl m x) ∧ (d = .lst xs ∨ d = .tup xs)) ∨ (∃ b, d = .bl b) ∨ (∃ b, d = .int b) ∨ (d.plain = true ∧ (tyIs d.ty "list" || tyIs d.ty "tuple") = false ∧ tyIs d.ty "int" = false ∧ ∀ (ρ : DL.Env) (Q : D → DL.Env → Prop), Q (.bl true) ρ → Op2 K (fun x y H Q => rEq x y H Q ∨ rEqDR x y H Q) d d ρ Q) := by
    cases hd with
    | lst h1 h2 => exact .inl ⟨_, _, rfl, h1, h2, .inl rfl⟩
    | tup h1 h2 => exact .inl ⟨_, _, rfl, h1, h2, .inr rfl⟩
    | bl b => exact .inr (.inl ⟨b, rfl⟩)
    | int b => exact .inr (.inr (.inl ⟨b, rfl⟩))
    | str b => exact .inr (.inr (.inr ⟨rfl, rfl, rfl, fun ρ Q q => op2_inl <| op2_eq_str (by rw [decide_eq_true rfl]; exact q)⟩))
    | non => exact .inr (.inr (.inr ⟨rfl, rfl, rfl, fun ρ Q q => op2_inl <| op2_eq_non q⟩))
    | dk h => exact .inr (.inr (.inr ⟨rfl, rfl, rfl, fun ρ Q q => op2_inr <| op2_eq_dk1 h q⟩))
  rcases hcase with ⟨xs, m, hm, hl, hx, hds⟩ | ⟨b, rfl⟩ | ⟨b, rfl⟩ | ⟨hp, h1, h2, hq⟩
  · -- lists and tuples
    have hp : d.plain = true := by rcases hds with rfl | rfl <;> rfl
    have hs : d.seq = some xs := by rcases hds with rfl | rfl <;> rfl
    have h1 : (tyIs d.ty "list" || tyIs d.ty "tuple") = true := by rcases hds with rfl | rfl <;> rfl
    refine ws_seq <| ws_if <| et_B <| ew_isi2 (by decide) (by decide) <| ew_var rfl ⟨hp, _, rfl, ?_⟩
    rw [h1]
    refine iteT <| ws_seq <| ws_ifn (C := True) (et_or <| et_test <| ew_op <| ew_isi (by decide) <| ew_var rfl ⟨hp, ew_isi (by decide) <| ew_var rfl ⟨hp, op2_ne_bl ⟨_, rfl, ?_⟩⟩⟩) fun _ => ?_
    · rw [decide_eq_true rfl]
      refine iteF <| et_test <| ew_op <| ew_isi (by decide) <| ew_var rfl ⟨hp, ew_isi (by decide) <| ew_var rfl ⟨hp, op2_ne_bl ⟨_, rfl, ?_⟩⟩⟩
      rw [decide_eq_true rfl]
      exact iteF ⟨rfl, trivial⟩
    · refine ws_ret <| ew_andV <| ew_op <| ew_cb <| ea_cons <| ew_var rfl <| ea_nil <| opa_len hs <| ew_cb <| ea_cons <| ew_var rfl <| ea_nil <| opa_len hs <| op2_eq_int ⟨_, rfl, ?_⟩
      rw [decide_eq_true rfl]
      refine iteT <| ew_cb <| ea_cons <| ew_new <| en_lcB (f := fun _ => true) <| ei_zip <| ea_cons <| ew_var rfl <| ea_cons <| ew_var rfl <| ea_nil ⟨xs, xs, ?_, rfl, ?_, fun i y hy => ?_, ea_nil <| opa_all ?_⟩
      · rcases hds with rfl | rfl
        · exact .inl rfl
        · exact .inr rfl
      · rw [zipD_len]; omega
      · obtain ⟨x, x', e1, e2, rfl⟩ := zipD_at hy
        rw [e1] at e2; cases e2
        have px := hx x (List.mem_of_getElem? e1)
        refine gv_tup rfl <| gvs_cons <| gv_name (by decide) <| gvs_cons <| gv_name (by decide) <| gvs_nil <| ew_callP <| ea_cons <| ew_var rfl <| ea_cons <| ew_var rfl <| ea_nil ?_
        rw [hR m hm]
        exact ⟨x, rfl, px, rfl, rfl⟩
      · rw [List.all_map, show (List.all (zipD xs xs) (id ∘ fun _ => true)) = true by rw [List.all_eq_true]; intro _ _; rfl]
        exact q
  · -- truth values
    refine ws_seq <| ws_if <| et_B <| ew_isi2 (by decide) (by decide) <| ew_var rfl ⟨rfl, _, rfl, iteF <| ws_next ?_⟩
    refine ws_seq <| ws_if <| et_B <| ew_isi (by decide) <| ew_var rfl ⟨rfl, _, rfl, iteT ?_⟩
    refine ws_ret <| ew_andV <| ew_isi (by decide) <| ew_var rfl ⟨rfl, _, rfl, iteT ?_⟩
    refine ew_andV <| ew_op <| ew_isi (by decide) <| ew_var rfl ⟨rfl, ew_isi (by decide) <| ew_var rfl ⟨rfl, op2_eq_bl ⟨_, rfl, iteT ?_⟩⟩⟩
    exact ew_op <| ew_var rfl <| ew_var rfl <| op2_inl <| op2_eq_bl (by rw [decide_eq_true rfl]; exact q)
  · -- ints
    refine ws_seq <| ws_if <| et_B <| ew_isi2 (by decide) (by decide) <| ew_var rfl ⟨rfl, _, rfl, iteF <| ws_next ?_⟩
    refine ws_seq <| ws_if <| et_B <| ew_isi (by decide) <| ew_var rfl ⟨rfl, _, rfl, iteT ?_⟩
    refine ws_ret <| ew_andV <| ew_isi (by decide) <| ew_var rfl ⟨rfl, _, rfl, iteT ?_⟩
    refine ew_andV <| ew_op <| ew_isi (by decide) <| ew_var rfl ⟨rfl, ew_isi (by decide) <| ew_var rfl ⟨rfl, op2_eq_bl ⟨_, rfl, iteT ?_⟩⟩⟩
    exact ew_op <| ew_var rfl <| ew_var rfl <| op2_inl <| op2_eq_int (by rw [decide_eq_true rfl]; exact q)
  · refine ws_seq <| ws_if <| et_B <| ew_isi2 (by decide) (by decide) <| ew_var rfl ⟨hp, _, rfl, ?_⟩
    rw [h1]
    refine iteF <| ws_next <| ws_seq <| ws_if <| et_B <| ew_isi (by decide) <| ew_var rfl ⟨hp, _, rfl, ?_⟩
    rw [h2]
    refine iteF <| ws_next <| ws_ret <| ew_andV <| ew_notV <| ew_isi3 (by decide) (by decide) (by decide) <| ew_var rfl ⟨hp, _, rfl, _, rfl, ?_⟩
    rw [h2, h1]
    exact iteT <| ew_op <| ew_var rfl <| ew_var rfl <| hq _ _ q
theorem same_all (T : TX P K mg) : ∀ n : Nat, FnB P w K mg base (n + 2) "_law_same" ["_law_found", "_law_due"] (spP K (T_same n))
  | 0 => by
    obtain ⟨fd, F⟩ := T.F__law_same
    exact same_step T 0 (R := fun _ _ => False) (fun m h => (nomatch h)) (fn_P (k := 0) F T.g__law_same (fun _ _ _ _ _ _ us hl => match us, hl with | [_, _], _ => rfl) S__law_same (fun ds Qd h => h.elim) fun cdv A outer s H E hr => ⟨fun _ _ _ => False, ⟨fun _ _ _ _ _ _ h => h.elim⟩, fun ds Qd h => h.elim⟩)
  | n + 1 => same_step T (n + 1) (R := T_same n) (fun m h => by cases h; rfl) (same_all T n)
theorem ok__law_same (T : TX P K mg) : FnB P w K mg base 6 "_law_same" ["_law_found", "_law_due"] (spP K (T_same 4)) := same_all T 4
end
end K87

set_option Elab.async false
set_option linter.all false
set_option maxRecDepth 100000
set_option maxHeartbeats 4000000
namespace K87
open PySem PySem.Spec PyProof.Rows L2 DL SrtK
section
variable {P : Program} {w : World} {K : PySem.W.Frag} {mg : Str → Option Value} {base : Heap}

def cs1 : List (Str × Str) := ([("BadRank", "kind"), ("BadKind", "kind"), ("BadEvent", "time"), ("BadTime", "time"), ("NoPerson", "name"), ("BadTruth", "index"), ("NoRoad", "index"), ("BadLetter", "index")] : List (Str × Str)) ++ ([("BadWishes", "thing"), ("BadPerson", "index"), ("BadFree", "thing"), ("BadMatching", "thing"), ("BadSide", "side"), ("NotStable", "matching"), ("BadNumber", "number"), ("BadTurns", "numbers")] : List (Str × Str)) ++ ([("BadRow", "index"), ("BadDeed", "index"), ("BadAccount", "account"), ("BadName", "thing"), ("BadFloor", "floor"), ("BadBooks", "index")] : List (Str × Str))
def cs2 : List (Str × Str) := ([("BadFee", "thing"), ("BadHearing", "index"), ("BadHoldings", "thing"), ("BadItem", "index"), ("NotFeasible", "numbers"), ("BadCoins", "thing"), ("BadDebts", "thing"), ("NoMember", "member")] : List (Str × Str)) ++ ([("NotPayments", "thing"), ("NotFailing", "who"), ("BadHolds", "thing"), ("BadWay", "index"), ("BadOutcome", "outcome"), ("BadHall", "hall"), ("NotAsked", "time"), ("BadTable", "part")] : List (Str × Str)) ++ ([("BadComer", "comer"), ("BadCounts", "counts"), ("BadBook", "book"), ("BadPeople", "name"), ("BadRule", "rule"), ("BadText", "line")] : List (Str × Str))
def T__law_pairs_one : List D → (D → Prop) → Prop := fun ds Q => ∃ d, ds = [d] ∧ Q (.lst (cs1.map fun c => .tup [.exc c.1 [(c.2, d)], .exc c.1 [(c.2, d)]]))
abbrev N__law_pairs_one : List Str := ["_law_x", "_law_found"]
theorem S__law_pairs_one : FnScope N__law_pairs_one ["_law_x"] (defScope s__law_pairs_one) := ⟨rfl, rfl, rfl, by decide +kernel, rfl, by decide +kernel, by decide +kernel⟩
theorem ok__law_pairs_one (T : TX P K mg) : FnB P w K mg base 2 "_law_pairs_one" ["_law_x"] (spN K T__law_pairs_one) := by
  obtain ⟨fd, F⟩ := T.F__law_pairs_one
  refine fn_N (k := 1) F T.g__law_pairs_one (fun _ _ _ _ _ _ us hl => match us, hl with | [_], _ => rfl) S__law_pairs_one (fun ds Qd h => by first | (obtain ⟨rfl, _⟩ := h; rfl) | (obtain ⟨_, rfl, _⟩ := h; rfl) | (obtain ⟨_, _, rfl, _⟩ := h; rfl) | (obtain ⟨_, _, _, rfl, _⟩ := h; rfl) | (obtain ⟨_, _, _, _, rfl, _⟩ := h; rfl) | (obtain ⟨_, _, _, _, _, rfl, _⟩ := h; rfl) | (obtain ⟨_, _, _, _, _, _, rfl, _⟩ := h; rfl)) fun cdv A outer s H E hr => ⟨_, (pss_cons (ps_set (i := 1) S__law_pairs_one.nd rfl (by first | exact .inl rfl | exact .inr rfl) (pe_lst (pa_cons (pe_tup (pa_cons (pe_exs (k := 0) T.S_BadRank (hr.mono (by first | decide | omega)) (by rfl) T.g_BadRank T.n_super (pv 0)) (pa_cons (pe_exk (k := 0) T.S_BadRank (fun _ _ _ _ _ _ _ _ _ _ _ _ _ _ _ _ => rfl) (hr.mono (by first | decide | omega)) (by rfl) T.g_BadRank T.n_super (pv 0)) pa_nil))) (pa_cons (pe_tup (pa_cons (pe_exs (k := 0) T.S_BadKind (hr.mono (by first | decide | omega)) (by rfl) T.g_BadKind T.n_super (pv 0)) (pa_cons (pe_exk (k := 0) T.S_BadKind (fun _ _ _ _ _ _ _ _ _ _ _ _ _ _ _ _ => rfl) (hr.mono (by first | decide | omega)) (by rfl) T.g_BadKind T.n_super (pv 0)) pa_nil))) pa_nil))))
      (pss_cons (ps_expr (kbm (K := K) (id := "") rfl (pe_bm PySem.F.plainAttrs_list PySem.F.slot_list_extend PySem.F.type_list_extend mt_extend (pv 1) (pa_cons (pe_lst (pa_cons (pe_tup (pa_cons (pe_exs (k := 0) T.S_BadEvent (hr.mono (by first | decide | omega)) (by rfl) T.g_BadEvent T.n_super (pv 0)) (pa_cons (pe_exk (k := 0) T.S_BadEvent (fun _ _ _ _ _ _ _ _ _ _ _ _ _ _ _ _ => rfl) (hr.mono (by first | decide | omega)) (by rfl) T.g_BadEvent T.n_super (pv 0)) pa_nil))) (pa_cons (pe_tup (pa_cons (pe_exs (k := 0) T.S_BadTime (hr.mono (by first | decide | omega)) (by rfl) T.g_BadTime T.n_super (pv 0)) (pa_cons (pe_exk (k := 0) T.S_BadTime (fun _ _ _ _ _ _ _ _ _ _ _ _ _ _ _ _ => rfl) (hr.mono (by first | decide | omega)) (by rfl) T.g_BadTime T.n_super (pv 0)) pa_nil))) pa_nil))) pa_nil))))
      (pss_cons (ps_expr (kbm (K := K) (id := "") rfl (pe_bm PySem.F.plainAttrs_list PySem.F.slot_list_extend PySem.F.type_list_extend mt_extend (pv 1) (pa_cons (pe_lst (pa_cons (pe_tup (pa_cons (pe_exs (k := 0) T.S_NoPerson (hr.mono (by first | decide | omega)) (by rfl) T.g_NoPerson T.n_super (pv 0)) (pa_cons (pe_exk (k := 0) T.S_NoPerson (fun _ _ _ _ _ _ _ _ _ _ _ _ _ _ _ _ => rfl) (hr.mono (by first | decide | omega)) (by rfl) T.g_NoPerson T.n_super (pv 0)) pa_nil))) (pa_cons (pe_tup (pa_cons (pe_exs (k := 0) T.S_BadTruth (hr.mono (by first | decide | omega)) (by rfl) T.g_BadTruth T.n_super (pv 0)) (pa_cons (pe_exk (k := 0) T.S_BadTruth (fun _ _ _ _ _ _ _ _ _ _ _ _ _ _ _ _ => rfl) (hr.mono (by first | decide | omega)) (by rfl) T.g_BadTruth T.n_super (pv 0)) pa_nil))) pa_nil))) pa_nil))))
      (pss_cons (ps_expr (kbm (K := K) (id := "") rfl (pe_bm PySem.F.plainAttrs_list PySem.F.slot_list_extend PySem.F.type_list_extend mt_extend (pv 1) (pa_cons (pe_lst (pa_cons (pe_tup (pa_cons (pe_exs (k := 0) T.S_NoRoad (hr.mono (by first | decide | omega)) (by rfl) T.g_NoRoad T.n_super (pv 0)) (pa_cons (pe_exk (k := 0) T.S_NoRoad (fun _ _ _ _ _ _ _ _ _ _ _ _ _ _ _ _ => rfl) (hr.mono (by first | decide | omega)) (by rfl) T.g_NoRoad T.n_super (pv 0)) pa_nil))) (pa_cons (pe_tup (pa_cons (pe_exs (k := 0) T.S_BadLetter (hr.mono (by first | decide | omega)) (by rfl) T.g_BadLetter T.n_super (pv 0)) (pa_cons (pe_exk (k := 0) T.S_BadLetter (fun _ _ _ _ _ _ _ _ _ _ _ _ _ _ _ _ => rfl) (hr.mono (by first | decide | omega)) (by rfl) T.g_BadLetter T.n_super (pv 0)) pa_nil))) pa_nil))) pa_nil))))
      (pss_cons (ps_expr (kbm (K := K) (id := "") rfl (pe_bm PySem.F.plainAttrs_list PySem.F.slot_list_extend PySem.F.type_list_extend mt_extend (pv 1) (pa_cons (pe_lst (pa_cons (pe_tup (pa_cons (pe_exs (k := 0) T.S_BadWishes (hr.mono (by first | decide | omega)) (by rfl) T.g_BadWishes T.n_super (pv 0)) (pa_cons (pe_exk (k := 0) T.S_BadWishes (fun _ _ _ _ _ _ _ _ _ _ _ _ _ _ _ _ => rfl) (hr.mono (by first | decide | omega)) (by rfl) T.g_BadWishes T.n_super (pv 0)) pa_nil))) (pa_cons (pe_tup (pa_cons (pe_exs (k := 0) T.S_BadPerson (hr.mono (by first | decide | omega)) (by rfl) T.g_BadPerson T.n_super (pv 0)) (pa_cons (pe_exk (k := 0) T.S_BadPerson (fun _ _ _ _ _ _ _ _ _ _ _ _ _ _ _ _ => rfl) (hr.mono (by first | decide | omega)) (by rfl) T.g_BadPerson T.n_super (pv 0)) pa_nil))) pa_nil))) pa_nil))))
      (pss_cons (ps_expr (kbm (K := K) (id := "") rfl (pe_bm PySem.F.plainAttrs_list PySem.F.slot_list_extend PySem.F.type_list_extend mt_extend (pv 1) (pa_cons (pe_lst (pa_cons (pe_tup (pa_cons (pe_exs (k := 0) T.S_BadFree (hr.mono (by first | decide | omega)) (by rfl) T.g_BadFree T.n_super (pv 0)) (pa_cons (pe_exk (k := 0) T.S_BadFree (fun _ _ _ _ _ _ _ _ _ _ _ _ _ _ _ _ => rfl) (hr.mono (by first | decide | omega)) (by rfl) T.g_BadFree T.n_super (pv 0)) pa_nil))) (pa_cons (pe_tup (pa_cons (pe_exs (k := 0) T.S_BadMatching (hr.mono (by first | decide | omega)) (by rfl) T.g_BadMatching T.n_super (pv 0)) (pa_cons (pe_exk (k := 0) T.S_BadMatching (fun _ _ _ _ _ _ _ _ _ _ _ _ _ _ _ _ => rfl) (hr.mono (by first | decide | omega)) (by rfl) T.g_BadMatching T.n_super (pv 0)) pa_nil))) pa_nil))) pa_nil))))
      (pss_cons (ps_expr (kbm (K := K) (id := "") rfl (pe_bm PySem.F.plainAttrs_list PySem.F.slot_list_extend PySem.F.type_list_extend mt_extend (pv 1) (pa_cons (pe_lst (pa_cons (pe_tup (pa_cons (pe_exs (k := 0) T.S_BadSide (hr.mono (by first | decide | omega)) (by rfl) T.g_BadSide T.n_super (pv 0)) (pa_cons (pe_exk (k := 0) T.S_BadSide (fun _ _ _ _ _ _ _ _ _ _ _ _ _ _ _ _ => rfl) (hr.mono (by first | decide | omega)) (by rfl) T.g_BadSide T.n_super (pv 0)) pa_nil))) (pa_cons (pe_tup (pa_cons (pe_exs (k := 0) T.S_NotStable (hr.mono (by first | decide | omega)) (by rfl) T.g_NotStable T.n_super (pv 0)) (pa_cons (pe_exk (k := 0) T.S_NotStable (fun _ _ _ _ _ _ _ _ _ _ _ _ _ _ _ _ => rfl) (hr.mono (by first | decide | omega)) (by rfl) T.g_NotStable T.n_super (pv 0)) pa_nil))) pa_nil))) pa_nil))))
      (pss_cons (ps_expr (kbm (K := K) (id := "") rfl (pe_bm PySem.F.plainAttrs_list PySem.F.slot_list_extend PySem.F.type_list_extend mt_extend (pv 1) (pa_cons (pe_lst (pa_cons (pe_tup (pa_cons (pe_exs (k := 0) T.S_BadNumber (hr.mono (by first | decide | omega)) (by rfl) T.g_BadNumber T.n_super (pv 0)) (pa_cons (pe_exk (k := 0) T.S_BadNumber (fun _ _ _ _ _ _ _ _ _ _ _ _ _ _ _ _ => rfl) (hr.mono (by first | decide | omega)) (by rfl) T.g_BadNumber T.n_super (pv 0)) pa_nil))) (pa_cons (pe_tup (pa_cons (pe_exs (k := 0) T.S_BadTurns (hr.mono (by first | decide | omega)) (by rfl) T.g_BadTurns T.n_super (pv 0)) (pa_cons (pe_exk (k := 0) T.S_BadTurns (fun _ _ _ _ _ _ _ _ _ _ _ _ _ _ _ _ => rfl) (hr.mono (by first | decide | omega)) (by rfl) T.g_BadTurns T.n_super (pv 0)) pa_nil))) pa_nil))) pa_nil))))
      (pss_cons (ps_expr (kbm (K := K) (id := "") rfl (pe_bm PySem.F.plainAttrs_list PySem.F.slot_list_extend PySem.F.type_list_extend mt_extend (pv 1) (pa_cons (pe_lst (pa_cons (pe_tup (pa_cons (pe_exs (k := 0) T.S_BadRow (hr.mono (by first | decide | omega)) (by rfl) T.g_BadRow T.n_super (pv 0)) (pa_cons (pe_exk (k := 0) T.S_BadRow (fun _ _ _ _ _ _ _ _ _ _ _ _ _ _ _ _ => rfl) (hr.mono (by first | decide | omega)) (by rfl) T.g_BadRow T.n_super (pv 0)) pa_nil))) (pa_cons (pe_tup (pa_cons (pe_exs (k := 0) T.S_BadDeed (hr.mono (by first | decide | omega)) (by rfl) T.g_BadDeed T.n_super (pv 0)) (pa_cons (pe_exk (k := 0) T.S_BadDeed (fun _ _ _ _ _ _ _ _ _ _ _ _ _ _ _ _ => rfl) (hr.mono (by first | decide | omega)) (by rfl) T.g_BadDeed T.n_super (pv 0)) pa_nil))) pa_nil))) pa_nil))))
      (pss_cons (ps_expr (kbm (K := K) (id := "") rfl (pe_bm PySem.F.plainAttrs_list PySem.F.slot_list_extend PySem.F.type_list_extend mt_extend (pv 1) (pa_cons (pe_lst (pa_cons (pe_tup (pa_cons (pe_exs (k := 0) T.S_BadAccount (hr.mono (by first | decide | omega)) (by rfl) T.g_BadAccount T.n_super (pv 0)) (pa_cons (pe_exk (k := 0) T.S_BadAccount (fun _ _ _ _ _ _ _ _ _ _ _ _ _ _ _ _ => rfl) (hr.mono (by first | decide | omega)) (by rfl) T.g_BadAccount T.n_super (pv 0)) pa_nil))) (pa_cons (pe_tup (pa_cons (pe_exs (k := 0) T.S_BadName (hr.mono (by first | decide | omega)) (by rfl) T.g_BadName T.n_super (pv 0)) (pa_cons (pe_exk (k := 0) T.S_BadName (fun _ _ _ _ _ _ _ _ _ _ _ _ _ _ _ _ => rfl) (hr.mono (by first | decide | omega)) (by rfl) T.g_BadName T.n_super (pv 0)) pa_nil))) pa_nil))) pa_nil))))
      (pss_cons (ps_expr (kbm (K := K) (id := "") rfl (pe_bm PySem.F.plainAttrs_list PySem.F.slot_list_extend PySem.F.type_list_extend mt_extend (pv 1) (pa_cons (pe_lst (pa_cons (pe_tup (pa_cons (pe_exs (k := 0) T.S_BadFloor (hr.mono (by first | decide | omega)) (by rfl) T.g_BadFloor T.n_super (pv 0)) (pa_cons (pe_exk (k := 0) T.S_BadFloor (fun _ _ _ _ _ _ _ _ _ _ _ _ _ _ _ _ => rfl) (hr.mono (by first | decide | omega)) (by rfl) T.g_BadFloor T.n_super (pv 0)) pa_nil))) (pa_cons (pe_tup (pa_cons (pe_exs (k := 0) T.S_BadBooks (hr.mono (by first | decide | omega)) (by rfl) T.g_BadBooks T.n_super (pv 0)) (pa_cons (pe_exk (k := 0) T.S_BadBooks (fun _ _ _ _ _ _ _ _ _ _ _ _ _ _ _ _ => rfl) (hr.mono (by first | decide | omega)) (by rfl) T.g_BadBooks T.n_super (pv 0)) pa_nil))) pa_nil))) pa_nil))))
      (pss_one (ps_ret (pv 1)))))))))))))), fun ds Qd h => ?_⟩
  obtain ⟨d, rfl, q⟩ := h
  refine ws_seq <| ws_asgN <| en_lst <| ea_cons <| ew_pairE rfl <| ea_cons <| ew_pairE rfl <| ea_nil ⟨by show 2 ≤ 100000; decide, fun p => ?_⟩
  refine ws_seq <| ws_drop <| ew_extend (a := p) rfl <| ew_new <| en_lst <| ea_cons <| ew_pairE rfl <| ea_cons <| ew_pairE rfl <| ea_nil ⟨by show 2 ≤ 100000; decide, _, _, rfl, rfl, by show 2 + 2 < 90000; decide, ?_⟩
  refine ws_seq <| ws_drop <| ew_extend (a := p) rfl <| ew_new <| en_lst <| ea_cons <| ew_pairE rfl <| ea_cons <| ew_pairE rfl <| ea_nil ⟨by show 2 ≤ 100000; decide, _, _, rfl, rfl, by show 4 + 2 < 90000; decide, ?_⟩
  refine ws_seq <| ws_drop <| ew_extend (a := p) rfl <| ew_new <| en_lst <| ea_cons <| ew_pairE rfl <| ea_cons <| ew_pairE rfl <| ea_nil ⟨by show 2 ≤ 100000; decide, _, _, rfl, rfl, by show 6 + 2 < 90000; decide, ?_⟩
  refine ws_seq <| ws_drop <| ew_extend (a := p) rfl <| ew_new <| en_lst <| ea_cons <| ew_pairE rfl <| ea_cons <| ew_pairE rfl <| ea_nil ⟨by show 2 ≤ 100000; decide, _, _, rfl, rfl, by show 8 + 2 < 90000; decide, ?_⟩
  refine ws_seq <| ws_drop <| ew_extend (a := p) rfl <| ew_new <| en_lst <| ea_cons <| ew_pairE rfl <| ea_cons <| ew_pairE rfl <| ea_nil ⟨by show 2 ≤ 100000; decide, _, _, rfl, rfl, by show 10 + 2 < 90000; decide, ?_⟩
  refine ws_seq <| ws_drop <| ew_extend (a := p) rfl <| ew_new <| en_lst <| ea_cons <| ew_pairE rfl <| ea_cons <| ew_pairE rfl <| ea_nil ⟨by show 2 ≤ 100000; decide, _, _, rfl, rfl, by show 12 + 2 < 90000; decide, ?_⟩
  refine ws_seq <| ws_drop <| ew_extend (a := p) rfl <| ew_new <| en_lst <| ea_cons <| ew_pairE rfl <| ea_cons <| ew_pairE rfl <| ea_nil ⟨by show 2 ≤ 100000; decide, _, _, rfl, rfl, by show 14 + 2 < 90000; decide, ?_⟩
  refine ws_seq <| ws_drop <| ew_extend (a := p) rfl <| ew_new <| en_lst <| ea_cons <| ew_pairE rfl <| ea_cons <| ew_pairE rfl <| ea_nil ⟨by show 2 ≤ 100000; decide, _, _, rfl, rfl, by show 16 + 2 < 90000; decide, ?_⟩
  refine ws_seq <| ws_drop <| ew_extend (a := p) rfl <| ew_new <| en_lst <| ea_cons <| ew_pairE rfl <| ea_cons <| ew_pairE rfl <| ea_nil ⟨by show 2 ≤ 100000; decide, _, _, rfl, rfl, by show 18 + 2 < 90000; decide, ?_⟩
  refine ws_seq <| ws_drop <| ew_extend (a := p) rfl <| ew_new <| en_lst <| ea_cons <| ew_pairE rfl <| ea_cons <| ew_pairE rfl <| ea_nil ⟨by show 2 ≤ 100000; decide, _, _, rfl, rfl, by show 20 + 2 < 90000; decide, ?_⟩
  exact ws_retOwn rfl q
def T__law_pairs_two : List D → (D → Prop) → Prop := fun ds Q => ∃ d, ds = [d] ∧ Q (.lst (cs2.map fun c => .tup [.exc c.1 [(c.2, d)], .exc c.1 [(c.2, d)]]))
abbrev N__law_pairs_two : List Str := ["_law_x", "_law_found"]
theorem S__law_pairs_two : FnScope N__law_pairs_two ["_law_x"] (defScope s__law_pairs_two) := ⟨rfl, rfl, rfl, by decide +kernel, rfl, by decide +kernel, by decide +kernel⟩
theorem ok__law_pairs_two (T : TX P K mg) : FnB P w K mg base 2 "_law_pairs_two" ["_law_x"] (spN K T__law_pairs_two) := by
  obtain ⟨fd, F⟩ := T.F__law_pairs_two
  refine fn_N (k := 1) F T.g__law_pairs_two (fun _ _ _ _ _ _ us hl => match us, hl with | [_], _ => rfl) S__law_pairs_two (fun ds Qd h => by first | (obtain ⟨rfl, _⟩ := h; rfl) | (obtain ⟨_, rfl, _⟩ := h; rfl) | (obtain ⟨_, _, rfl, _⟩ := h; rfl) | (obtain ⟨_, _, _, rfl, _⟩ := h; rfl) | (obtain ⟨_, _, _, _, rfl, _⟩ := h; rfl) | (obtain ⟨_, _, _, _, _, rfl, _⟩ := h; rfl) | (obtain ⟨_, _, _, _, _, _, rfl, _⟩ := h; rfl)) fun cdv A outer s H E hr => ⟨_, (pss_cons (ps_set (i := 1) S__law_pairs_two.nd rfl (by first | exact .inl rfl | exact .inr rfl) (pe_lst (pa_cons (pe_tup (pa_cons (pe_exs (k := 0) T.S_BadFee (hr.mono (by first | decide | omega)) (by rfl) T.g_BadFee T.n_super (pv 0)) (pa_cons (pe_exk (k := 0) T.S_BadFee (fun _ _ _ _ _ _ _ _ _ _ _ _ _ _ _ _ => rfl) (hr.mono (by first | decide | omega)) (by rfl) T.g_BadFee T.n_super (pv 0)) pa_nil))) (pa_cons (pe_tup (pa_cons (pe_exs (k := 0) T.S_BadHearing (hr.mono (by first | decide | omega)) (by rfl) T.g_BadHearing T.n_super (pv 0)) (pa_cons (pe_exk (k := 0) T.S_BadHearing (fun _ _ _ _ _ _ _ _ _ _ _ _ _ _ _ _ => rfl) (hr.mono (by first | decide | omega)) (by rfl) T.g_BadHearing T.n_super (pv 0)) pa_nil))) pa_nil))))
      (pss_cons (ps_expr (kbm (K := K) (id := "") rfl (pe_bm PySem.F.plainAttrs_list PySem.F.slot_list_extend PySem.F.type_list_extend mt_extend (pv 1) (pa_cons (pe_lst (pa_cons (pe_tup (pa_cons (pe_exs (k := 0) T.S_BadHoldings (hr.mono (by first | decide | omega)) (by rfl) T.g_BadHoldings T.n_super (pv 0)) (pa_cons (pe_exk (k := 0) T.S_BadHoldings (fun _ _ _ _ _ _ _ _ _ _ _ _ _ _ _ _ => rfl) (hr.mono (by first | decide | omega)) (by rfl) T.g_BadHoldings T.n_super (pv 0)) pa_nil))) (pa_cons (pe_tup (pa_cons (pe_exs (k := 0) T.S_BadItem (hr.mono (by first | decide | omega)) (by rfl) T.g_BadItem T.n_super (pv 0)) (pa_cons (pe_exk (k := 0) T.S_BadItem (fun _ _ _ _ _ _ _ _ _ _ _ _ _ _ _ _ => rfl) (hr.mono (by first | decide | omega)) (by rfl) T.g_BadItem T.n_super (pv 0)) pa_nil))) pa_nil))) pa_nil))))
      (pss_cons (ps_expr (kbm (K := K) (id := "") rfl (pe_bm PySem.F.plainAttrs_list PySem.F.slot_list_extend PySem.F.type_list_extend mt_extend (pv 1) (pa_cons (pe_lst (pa_cons (pe_tup (pa_cons (pe_exs (k := 0) T.S_NotFeasible (hr.mono (by first | decide | omega)) (by rfl) T.g_NotFeasible T.n_super (pv 0)) (pa_cons (pe_exk (k := 0) T.S_NotFeasible (fun _ _ _ _ _ _ _ _ _ _ _ _ _ _ _ _ => rfl) (hr.mono (by first | decide | omega)) (by rfl) T.g_NotFeasible T.n_super (pv 0)) pa_nil))) (pa_cons (pe_tup (pa_cons (pe_exs (k := 0) T.S_BadCoins (hr.mono (by first | decide | omega)) (by rfl) T.g_BadCoins T.n_super (pv 0)) (pa_cons (pe_exk (k := 0) T.S_BadCoins (fun _ _ _ _ _ _ _ _ _ _ _ _ _ _ _ _ => rfl) (hr.mono (by first | decide | omega)) (by rfl) T.g_BadCoins T.n_super (pv 0)) pa_nil))) pa_nil))) pa_nil))))
      (pss_cons (ps_expr (kbm (K := K) (id := "") rfl (pe_bm PySem.F.plainAttrs_list PySem.F.slot_list_extend PySem.F.type_list_extend mt_extend (pv 1) (pa_cons (pe_lst (pa_cons (pe_tup (pa_cons (pe_exs (k := 0) T.S_BadDebts (hr.mono (by first | decide | omega)) (by rfl) T.g_BadDebts T.n_super (pv 0)) (pa_cons (pe_exk (k := 0) T.S_BadDebts (fun _ _ _ _ _ _ _ _ _ _ _ _ _ _ _ _ => rfl) (hr.mono (by first | decide | omega)) (by rfl) T.g_BadDebts T.n_super (pv 0)) pa_nil))) (pa_cons (pe_tup (pa_cons (pe_exs (k := 0) T.S_NoMember (hr.mono (by first | decide | omega)) (by rfl) T.g_NoMember T.n_super (pv 0)) (pa_cons (pe_exk (k := 0) T.S_NoMember (fun _ _ _ _ _ _ _ _ _ _ _ _ _ _ _ _ => rfl) (hr.mono (by first | decide | omega)) (by rfl) T.g_NoMember T.n_super (pv 0)) pa_nil))) pa_nil))) pa_nil))))
      (pss_cons (ps_expr (kbm (K := K) (id := "") rfl (pe_bm PySem.F.plainAttrs_list PySem.F.slot_list_extend PySem.F.type_list_extend mt_extend (pv 1) (pa_cons (pe_lst (pa_cons (pe_tup (pa_cons (pe_exs (k := 0) T.S_NotPayments (hr.mono (by first | decide | omega)) (by rfl) T.g_NotPayments T.n_super (pv 0)) (pa_cons (pe_exk (k := 0) T.S_NotPayments (fun _ _ _ _ _ _ _ _ _ _ _ _ _ _ _ _ => rfl) (hr.mono (by first | decide | omega)) (by rfl) T.g_NotPayments T.n_super (pv 0)) pa_nil))) (pa_cons (pe_tup (pa_cons (pe_exs (k := 0) T.S_NotFailing (hr.mono (by first | decide | omega)) (by rfl) T.g_NotFailing T.n_super (pv 0)) (pa_cons (pe_exk (k := 0) T.S_NotFailing (fun _ _ _ _ _ _ _ _ _ _ _ _ _ _ _ _ => rfl) (hr.mono (by first | decide | omega)) (by rfl) T.g_NotFailing T.n_super (pv 0)) pa_nil))) pa_nil))) pa_nil))))
      (pss_cons (ps_expr (kbm (K := K) (id := "") rfl (pe_bm PySem.F.plainAttrs_list PySem.F.slot_list_extend PySem.F.type_list_extend mt_extend (pv 1) (pa_cons (pe_lst (pa_cons (pe_tup (pa_cons (pe_exs (k := 0) T.S_BadHolds (hr.mono (by first | decide | omega)) (by rfl) T.g_BadHolds T.n_super (pv 0)) (pa_cons (pe_exk (k := 0) T.S_BadHolds (fun _ _ _ _ _ _ _ _ _ _ _ _ _ _ _ _ => rfl) (hr.mono (by first | decide | omega)) (by rfl) T.g_BadHolds T.n_super (pv 0)) pa_nil))) (pa_cons (pe_tup (pa_cons (pe_exs (k := 0) T.S_BadWay (hr.mono (by first | decide | omega)) (by rfl) T.g_BadWay T.n_super (pv 0)) (pa_cons (pe_exk (k := 0) T.S_BadWay (fun _ _ _ _ _ _ _ _ _ _ _ _ _ _ _ _ => rfl) (hr.mono (by first | decide | omega)) (by rfl) T.g_BadWay T.n_super (pv 0)) pa_nil))) pa_nil))) pa_nil))))
      (pss_cons (ps_expr (kbm (K := K) (id := "") rfl (pe_bm PySem.F.plainAttrs_list PySem.F.slot_list_extend PySem.F.type_list_extend mt_extend (pv 1) (pa_cons (pe_lst (pa_cons (pe_tup (pa_cons (pe_exs (k := 0) T.S_BadOutcome (hr.mono (by first | decide | omega)) (by rfl) T.g_BadOutcome T.n_super (pv 0)) (pa_cons (pe_exk (k := 0) T.S_BadOutcome (fun _ _ _ _ _ _ _ _ _ _ _ _ _ _ _ _ => rfl) (hr.mono (by first | decide | omega)) (by rfl) T.g_BadOutcome T.n_super (pv 0)) pa_nil))) (pa_cons (pe_tup (pa_cons (pe_exs (k := 0) T.S_BadHall (hr.mono (by first | decide | omega)) (by rfl) T.g_BadHall T.n_super (pv 0)) (pa_cons (pe_exk (k := 0) T.S_BadHall (fun _ _ _ _ _ _ _ _ _ _ _ _ _ _ _ _ => rfl) (hr.mono (by first | decide | omega)) (by rfl) T.g_BadHall T.n_super (pv 0)) pa_nil))) pa_nil))) pa_nil))))
      (pss_cons (ps_expr (kbm (K := K) (id := "") rfl (pe_bm PySem.F.plainAttrs_list PySem.F.slot_list_extend PySem.F.type_list_extend mt_extend (pv 1) (pa_cons (pe_lst (pa_cons (pe_tup (pa_cons (pe_exs (k := 0) T.S_NotAsked (hr.mono (by first | decide | omega)) (by rfl) T.g_NotAsked T.n_super (pv 0)) (pa_cons (pe_exk (k := 0) T.S_NotAsked (fun _ _ _ _ _ _ _ _ _ _ _ _ _ _ _ _ => rfl) (hr.mono (by first | decide | omega)) (by rfl) T.g_NotAsked T.n_super (pv 0)) pa_nil))) (pa_cons (pe_tup (pa_cons (pe_exs (k := 0) T.S_BadTable (hr.mono (by first | decide | omega)) (by rfl) T.g_BadTable T.n_super (pv 0)) (pa_cons (pe_exk (k := 0) T.S_BadTable (fun _ _ _ _ _ _ _ _ _ _ _ _ _ _ _ _ => rfl) (hr.mono (by first | decide | omega)) (by rfl) T.g_BadTable T.n_super (pv 0)) pa_nil))) pa_nil))) pa_nil))))
      (pss_cons (ps_expr (kbm (K := K) (id := "") rfl (pe_bm PySem.F.plainAttrs_list PySem.F.slot_list_extend PySem.F.type_list_extend mt_extend (pv 1) (pa_cons (pe_lst (pa_cons (pe_tup (pa_cons (pe_exs (k := 0) T.S_BadComer (hr.mono (by first | decide | omega)) (by rfl) T.g_BadComer T.n_super (pv 0)) (pa_cons (pe_exk (k := 0) T.S_BadComer (fun _ _ _ _ _ _ _ _ _ _ _ _ _ _ _ _ => rfl) (hr.mono (by first | decide | omega)) (by rfl) T.g_BadComer T.n_super (pv 0)) pa_nil))) (pa_cons (pe_tup (pa_cons (pe_exs (k := 0) T.S_BadCounts (hr.mono (by first | decide | omega)) (by rfl) T.g_BadCounts T.n_super (pv 0)) (pa_cons (pe_exk (k := 0) T.S_BadCounts (fun _ _ _ _ _ _ _ _ _ _ _ _ _ _ _ _ => rfl) (hr.mono (by first | decide | omega)) (by rfl) T.g_BadCounts T.n_super (pv 0)) pa_nil))) pa_nil))) pa_nil))))
      (pss_cons (ps_expr (kbm (K := K) (id := "") rfl (pe_bm PySem.F.plainAttrs_list PySem.F.slot_list_extend PySem.F.type_list_extend mt_extend (pv 1) (pa_cons (pe_lst (pa_cons (pe_tup (pa_cons (pe_exs (k := 0) T.S_BadBook (hr.mono (by first | decide | omega)) (by rfl) T.g_BadBook T.n_super (pv 0)) (pa_cons (pe_exk (k := 0) T.S_BadBook (fun _ _ _ _ _ _ _ _ _ _ _ _ _ _ _ _ => rfl) (hr.mono (by first | decide | omega)) (by rfl) T.g_BadBook T.n_super (pv 0)) pa_nil))) (pa_cons (pe_tup (pa_cons (pe_exs (k := 0) T.S_BadPeople (hr.mono (by first | decide | omega)) (by rfl) T.g_BadPeople T.n_super (pv 0)) (pa_cons (pe_exk (k := 0) T.S_BadPeople (fun _ _ _ _ _ _ _ _ _ _ _ _ _ _ _ _ => rfl) (hr.mono (by first | decide | omega)) (by rfl) T.g_BadPeople T.n_super (pv 0)) pa_nil))) pa_nil))) pa_nil))))
      (pss_cons (ps_expr (kbm (K := K) (id := "") rfl (pe_bm PySem.F.plainAttrs_list PySem.F.slot_list_extend PySem.F.type_list_extend mt_extend (pv 1) (pa_cons (pe_lst (pa_cons (pe_tup (pa_cons (pe_exs (k := 0) T.S_BadRule (hr.mono (by first | decide | omega)) (by rfl) T.g_BadRule T.n_super (pv 0)) (pa_cons (pe_exk (k := 0) T.S_BadRule (fun _ _ _ _ _ _ _ _ _ _ _ _ _ _ _ _ => rfl) (hr.mono (by first | decide | omega)) (by rfl) T.g_BadRule T.n_super (pv 0)) pa_nil))) (pa_cons (pe_tup (pa_cons (pe_exs (k := 0) T.S_BadText (hr.mono (by first | decide | omega)) (by rfl) T.g_BadText T.n_super (pv 0)) (pa_cons (pe_exk (k := 0) T.S_BadText (fun _ _ _ _ _ _ _ _ _ _ _ _ _ _ _ _ => rfl) (hr.mono (by first | decide | omega)) (by rfl) T.g_BadText T.n_super (pv 0)) pa_nil))) pa_nil))) pa_nil))))
      (pss_one (ps_ret (pv 1)))))))))))))), fun ds Qd h => ?_⟩
  obtain ⟨d, rfl, q⟩ := h
  refine ws_seq <| ws_asgN <| en_lst <| ea_cons <| ew_pairE rfl <| ea_cons <| ew_pairE rfl <| ea_nil ⟨by show 2 ≤ 100000; decide, fun p => ?_⟩
  refine ws_seq <| ws_drop <| ew_extend (a := p) rfl <| ew_new <| en_lst <| ea_cons <| ew_pairE rfl <| ea_cons <| ew_pairE rfl <| ea_nil ⟨by show 2 ≤ 100000; decide, _, _, rfl, rfl, by show 2 + 2 < 90000; decide, ?_⟩
  refine ws_seq <| ws_drop <| ew_extend (a := p) rfl <| ew_new <| en_lst <| ea_cons <| ew_pairE rfl <| ea_cons <| ew_pairE rfl <| ea_nil ⟨by show 2 ≤ 100000; decide, _, _, rfl, rfl, by show 4 + 2 < 90000; decide, ?_⟩
  refine ws_seq <| ws_drop <| ew_extend (a := p) rfl <| ew_new <| en_lst <| ea_cons <| ew_pairE rfl <| ea_cons <| ew_pairE rfl <| ea_nil ⟨by show 2 ≤ 100000; decide, _, _, rfl, rfl, by show 6 + 2 < 90000; decide, ?_⟩
  refine ws_seq <| ws_drop <| ew_extend (a := p) rfl <| ew_new <| en_lst <| ea_cons <| ew_pairE rfl <| ea_cons <| ew_pairE rfl <| ea_nil ⟨by show 2 ≤ 100000; decide, _, _, rfl, rfl, by show 8 + 2 < 90000; decide, ?_⟩
  refine ws_seq <| ws_drop <| ew_extend (a := p) rfl <| ew_new <| en_lst <| ea_cons <| ew_pairE rfl <| ea_cons <| ew_pairE rfl <| ea_nil ⟨by show 2 ≤ 100000; decide, _, _, rfl, rfl, by show 10 + 2 < 90000; decide, ?_⟩
  refine ws_seq <| ws_drop <| ew_extend (a := p) rfl <| ew_new <| en_lst <| ea_cons <| ew_pairE rfl <| ea_cons <| ew_pairE rfl <| ea_nil ⟨by show 2 ≤ 100000; decide, _, _, rfl, rfl, by show 12 + 2 < 90000; decide, ?_⟩
  refine ws_seq <| ws_drop <| ew_extend (a := p) rfl <| ew_new <| en_lst <| ea_cons <| ew_pairE rfl <| ea_cons <| ew_pairE rfl <| ea_nil ⟨by show 2 ≤ 100000; decide, _, _, rfl, rfl, by show 14 + 2 < 90000; decide, ?_⟩
  refine ws_seq <| ws_drop <| ew_extend (a := p) rfl <| ew_new <| en_lst <| ea_cons <| ew_pairE rfl <| ea_cons <| ew_pairE rfl <| ea_nil ⟨by show 2 ≤ 100000; decide, _, _, rfl, rfl, by show 16 + 2 < 90000; decide, ?_⟩
  refine ws_seq <| ws_drop <| ew_extend (a := p) rfl <| ew_new <| en_lst <| ea_cons <| ew_pairE rfl <| ea_cons <| ew_pairE rfl <| ea_nil ⟨by show 2 ≤ 100000; decide, _, _, rfl, rfl, by show 18 + 2 < 90000; decide, ?_⟩
  refine ws_seq <| ws_drop <| ew_extend (a := p) rfl <| ew_new <| en_lst <| ea_cons <| ew_pairE rfl <| ea_cons <| ew_pairE rfl <| ea_nil ⟨by show 2 ≤ 100000; decide, _, _, rfl, rfl, by show 20 + 2 < 90000; decide, ?_⟩
  exact ws_retOwn rfl q
def T__law_held_one : List D → (D → Prop) → Prop := fun ds Q => ∃ d, ds = [.lst (cs1.map fun c => .exc c.1 [(c.2, d)])] ∧ Q (.lst (List.replicate 22 d))
abbrev N__law_held_one : List Str := ["_law_errors", "_law_found"]
theorem S__law_held_one : FnScope N__law_held_one ["_law_errors"] (defScope s__law_held_one) := ⟨rfl, rfl, rfl, by decide +kernel, rfl, by decide +kernel, by decide +kernel⟩
theorem ok__law_held_one (T : TX P K mg) : FnB P w K mg base 1 "_law_held_one" ["_law_errors"] (spN K T__law_held_one) := by
  obtain ⟨fd, F⟩ := T.F__law_held_one
  refine fn_N (k := 0) F T.g__law_held_one (fun _ _ _ _ _ _ us hl => match us, hl with | [_], _ => rfl) S__law_held_one (fun ds Qd h => by first | (obtain ⟨rfl, _⟩ := h; rfl) | (obtain ⟨_, rfl, _⟩ := h; rfl) | (obtain ⟨_, _, rfl, _⟩ := h; rfl) | (obtain ⟨_, _, _, rfl, _⟩ := h; rfl) | (obtain ⟨_, _, _, _, rfl, _⟩ := h; rfl) | (obtain ⟨_, _, _, _, _, rfl, _⟩ := h; rfl) | (obtain ⟨_, _, _, _, _, _, rfl, _⟩ := h; rfl)) fun cdv A outer s H E hr => ⟨_, (pss_cons (ps_set (i := 1) S__law_held_one.nd rfl (by first | exact .inl rfl | exact .inr rfl) (pe_lst (pa_cons (pe_xfH T.xf_BadRank T.xn_BadRank (pe_ix (kix (K := K) rfl) (pv 0) pe_int (fun _ _ => rfl))) (pa_cons (pe_xfH T.xf_BadKind T.xn_BadKind (pe_ix (kix (K := K) rfl) (pv 0) pe_int (fun _ _ => rfl))) (pa_cons (pe_xfH T.xf_BadEvent T.xn_BadEvent (pe_ix (kix (K := K) rfl) (pv 0) pe_int (fun _ _ => rfl))) (pa_cons (pe_xfH T.xf_BadTime T.xn_BadTime (pe_ix (kix (K := K) rfl) (pv 0) pe_int (fun _ _ => rfl))) (pa_cons (pe_xfH T.xf_NoPerson T.xn_NoPerson (pe_ix (kix (K := K) rfl) (pv 0) pe_int (fun _ _ => rfl))) pa_nil)))))))
      (pss_cons (ps_expr (kbm (K := K) (id := "") rfl (pe_bm PySem.F.plainAttrs_list PySem.F.slot_list_extend PySem.F.type_list_extend mt_extend (pv 1) (pa_cons (pe_lst (pa_cons (pe_xfH T.xf_BadTruth T.xn_BadTruth (pe_ix (kix (K := K) rfl) (pv 0) pe_int (fun _ _ => rfl))) (pa_cons (pe_xfH T.xf_NoRoad T.xn_NoRoad (pe_ix (kix (K := K) rfl) (pv 0) pe_int (fun _ _ => rfl))) (pa_cons (pe_xfH T.xf_BadLetter T.xn_BadLetter (pe_ix (kix (K := K) rfl) (pv 0) pe_int (fun _ _ => rfl))) (pa_cons (pe_xfH T.xf_BadWishes T.xn_BadWishes (pe_ix (kix (K := K) rfl) (pv 0) pe_int (fun _ _ => rfl))) pa_nil))))) pa_nil))))
      (pss_cons (ps_expr (kbm (K := K) (id := "") rfl (pe_bm PySem.F.plainAttrs_list PySem.F.slot_list_extend PySem.F.type_list_extend mt_extend (pv 1) (pa_cons (pe_lst (pa_cons (pe_xfH T.xf_BadPerson T.xn_BadPerson (pe_ix (kix (K := K) rfl) (pv 0) pe_int (fun _ _ => rfl))) (pa_cons (pe_xfH T.xf_BadFree T.xn_BadFree (pe_ix (kix (K := K) rfl) (pv 0) pe_int (fun _ _ => rfl))) (pa_cons (pe_xfH T.xf_BadMatching T.xn_BadMatching (pe_ix (kix (K := K) rfl) (pv 0) pe_int (fun _ _ => rfl))) (pa_cons (pe_xfH T.xf_BadSide T.xn_BadSide (pe_ix (kix (K := K) rfl) (pv 0) pe_int (fun _ _ => rfl))) pa_nil))))) pa_nil))))
      (pss_cons (ps_expr (kbm (K := K) (id := "") rfl (pe_bm PySem.F.plainAttrs_list PySem.F.slot_list_extend PySem.F.type_list_extend mt_extend (pv 1) (pa_cons (pe_lst (pa_cons (pe_xfH T.xf_NotStable T.xn_NotStable (pe_ix (kix (K := K) rfl) (pv 0) pe_int (fun _ _ => rfl))) (pa_cons (pe_xfH T.xf_BadNumber T.xn_BadNumber (pe_ix (kix (K := K) rfl) (pv 0) pe_int (fun _ _ => rfl))) (pa_cons (pe_xfH T.xf_BadTurns T.xn_BadTurns (pe_ix (kix (K := K) rfl) (pv 0) pe_int (fun _ _ => rfl))) (pa_cons (pe_xfH T.xf_BadRow T.xn_BadRow (pe_ix (kix (K := K) rfl) (pv 0) pe_int (fun _ _ => rfl))) pa_nil))))) pa_nil))))
      (pss_cons (ps_expr (kbm (K := K) (id := "") rfl (pe_bm PySem.F.plainAttrs_list PySem.F.slot_list_extend PySem.F.type_list_extend mt_extend (pv 1) (pa_cons (pe_lst (pa_cons (pe_xfH T.xf_BadDeed T.xn_BadDeed (pe_ix (kix (K := K) rfl) (pv 0) pe_int (fun _ _ => rfl))) (pa_cons (pe_xfH T.xf_BadAccount T.xn_BadAccount (pe_ix (kix (K := K) rfl) (pv 0) pe_int (fun _ _ => rfl))) (pa_cons (pe_xfH T.xf_BadName T.xn_BadName (pe_ix (kix (K := K) rfl) (pv 0) pe_int (fun _ _ => rfl))) (pa_cons (pe_xfH T.xf_BadFloor T.xn_BadFloor (pe_ix (kix (K := K) rfl) (pv 0) pe_int (fun _ _ => rfl))) pa_nil))))) pa_nil))))
      (pss_cons (ps_expr (kbm (K := K) (id := "") rfl (pe_bm PySem.F.plainAttrs_list PySem.F.slot_list_extend PySem.F.type_list_extend mt_extend (pv 1) (pa_cons (pe_lst (pa_cons (pe_xfH T.xf_BadBooks T.xn_BadBooks (pe_ix (kix (K := K) rfl) (pv 0) pe_int (fun _ _ => rfl))) pa_nil)) pa_nil))))
      (pss_one (ps_ret (pv 1))))))))), fun ds Qd h => ?_⟩
  obtain ⟨d, rfl, q⟩ := h
  refine ws_seq <| ws_asgN <| en_lst <| ea_cons <| ew_held rfl rfl <| ea_cons <| ew_held rfl rfl <| ea_cons <| ew_held rfl rfl <| ea_cons <| ew_held rfl rfl <| ea_cons <| ew_held rfl rfl <| ea_nil ⟨by show 5 ≤ 100000; decide, fun p => ?_⟩
  refine ws_seq <| ws_drop <| ew_extend (a := p) rfl <| ew_new <| en_lst <| ea_cons <| ew_held rfl rfl <| ea_cons <| ew_held rfl rfl <| ea_cons <| ew_held rfl rfl <| ea_cons <| ew_held rfl rfl <| ea_nil ⟨by show 4 ≤ 100000; decide, _, _, rfl, rfl, by show 5 + 4 < 90000; decide, ?_⟩
  refine ws_seq <| ws_drop <| ew_extend (a := p) rfl <| ew_new <| en_lst <| ea_cons <| ew_held rfl rfl <| ea_cons <| ew_held rfl rfl <| ea_cons <| ew_held rfl rfl <| ea_cons <| ew_held rfl rfl <| ea_nil ⟨by show 4 ≤ 100000; decide, _, _, rfl, rfl, by show 9 + 4 < 90000; decide, ?_⟩
  refine ws_seq <| ws_drop <| ew_extend (a := p) rfl <| ew_new <| en_lst <| ea_cons <| ew_held rfl rfl <| ea_cons <| ew_held rfl rfl <| ea_cons <| ew_held rfl rfl <| ea_cons <| ew_held rfl rfl <| ea_nil ⟨by show 4 ≤ 100000; decide, _, _, rfl, rfl, by show 13 + 4 < 90000; decide, ?_⟩
  refine ws_seq <| ws_drop <| ew_extend (a := p) rfl <| ew_new <| en_lst <| ea_cons <| ew_held rfl rfl <| ea_cons <| ew_held rfl rfl <| ea_cons <| ew_held rfl rfl <| ea_cons <| ew_held rfl rfl <| ea_nil ⟨by show 4 ≤ 100000; decide, _, _, rfl, rfl, by show 17 + 4 < 90000; decide, ?_⟩
  refine ws_seq <| ws_drop <| ew_extend (a := p) rfl <| ew_new <| en_lst <| ea_cons <| ew_held rfl rfl <| ea_nil ⟨by show 1 ≤ 100000; decide, _, _, rfl, rfl, by show 21 + 1 < 90000; decide, ?_⟩
  exact ws_retOwn rfl q
def T__law_held_two : List D → (D → Prop) → Prop := fun ds Q => ∃ d, ds = [.lst (cs2.map fun c => .exc c.1 [(c.2, d)])] ∧ Q (.lst (List.replicate 22 d))
abbrev N__law_held_two : List Str := ["_law_errors", "_law_found"]
theorem S__law_held_two : FnScope N__law_held_two ["_law_errors"] (defScope s__law_held_two) := ⟨rfl, rfl, rfl, by decide +kernel, rfl, by decide +kernel, by decide +kernel⟩
theorem ok__law_held_two (T : TX P K mg) : FnB P w K mg base 1 "_law_held_two" ["_law_errors"] (spN K T__law_held_two) := by
  obtain ⟨fd, F⟩ := T.F__law_held_two
  refine fn_N (k := 0) F T.g__law_held_two (fun _ _ _ _ _ _ us hl => match us, hl with | [_], _ => rfl) S__law_held_two (fun ds Qd h => by first | (obtain ⟨rfl, _⟩ := h; rfl) | (obtain ⟨_, rfl, _⟩ := h; rfl) | (obtain ⟨_, _, rfl, _⟩ := h; rfl) | (obtain ⟨_, _, _, rfl, _⟩ := h; rfl) | (obtain ⟨_, _, _, _, rfl, _⟩ := h; rfl) | (obtain ⟨_, _, _, _, _, rfl, _⟩ := h; rfl) | (obtain ⟨_, _, _, _, _, _, rfl, _⟩ := h; rfl)) fun cdv A outer s H E hr => ⟨_, (pss_cons (ps_set (i := 1) S__law_held_two.nd rfl (by first | exact .inl rfl | exact .inr rfl) (pe_lst (pa_cons (pe_xfH T.xf_BadFee T.xn_BadFee (pe_ix (kix (K := K) rfl) (pv 0) pe_int (fun _ _ => rfl))) (pa_cons (pe_xfH T.xf_BadHearing T.xn_BadHearing (pe_ix (kix (K := K) rfl) (pv 0) pe_int (fun _ _ => rfl))) (pa_cons (pe_xfH T.xf_BadHoldings T.xn_BadHoldings (pe_ix (kix (K := K) rfl) (pv 0) pe_int (fun _ _ => rfl))) (pa_cons (pe_xfH T.xf_BadItem T.xn_BadItem (pe_ix (kix (K := K) rfl) (pv 0) pe_int (fun _ _ => rfl))) pa_nil))))))
      (pss_cons (ps_expr (kbm (K := K) (id := "") rfl (pe_bm PySem.F.plainAttrs_list PySem.F.slot_list_extend PySem.F.type_list_extend mt_extend (pv 1) (pa_cons (pe_lst (pa_cons (pe_xfH T.xf_NotFeasible T.xn_NotFeasible (pe_ix (kix (K := K) rfl) (pv 0) pe_int (fun _ _ => rfl))) (pa_cons (pe_xfH T.xf_BadCoins T.xn_BadCoins (pe_ix (kix (K := K) rfl) (pv 0) pe_int (fun _ _ => rfl))) (pa_cons (pe_xfH T.xf_BadDebts T.xn_BadDebts (pe_ix (kix (K := K) rfl) (pv 0) pe_int (fun _ _ => rfl))) (pa_cons (pe_xfH T.xf_NoMember T.xn_NoMember (pe_ix (kix (K := K) rfl) (pv 0) pe_int (fun _ _ => rfl))) pa_nil))))) pa_nil))))
      (pss_cons (ps_expr (kbm (K := K) (id := "") rfl (pe_bm PySem.F.plainAttrs_list PySem.F.slot_list_extend PySem.F.type_list_extend mt_extend (pv 1) (pa_cons (pe_lst (pa_cons (pe_xfH T.xf_NotPayments T.xn_NotPayments (pe_ix (kix (K := K) rfl) (pv 0) pe_int (fun _ _ => rfl))) (pa_cons (pe_xfH T.xf_NotFailing T.xn_NotFailing (pe_ix (kix (K := K) rfl) (pv 0) pe_int (fun _ _ => rfl))) (pa_cons (pe_xfH T.xf_BadHolds T.xn_BadHolds (pe_ix (kix (K := K) rfl) (pv 0) pe_int (fun _ _ => rfl))) (pa_cons (pe_xfH T.xf_BadWay T.xn_BadWay (pe_ix (kix (K := K) rfl) (pv 0) pe_int (fun _ _ => rfl))) pa_nil))))) pa_nil))))
      (pss_cons (ps_expr (kbm (K := K) (id := "") rfl (pe_bm PySem.F.plainAttrs_list PySem.F.slot_list_extend PySem.F.type_list_extend mt_extend (pv 1) (pa_cons (pe_lst (pa_cons (pe_xfH T.xf_BadOutcome T.xn_BadOutcome (pe_ix (kix (K := K) rfl) (pv 0) pe_int (fun _ _ => rfl))) (pa_cons (pe_xfH T.xf_BadHall T.xn_BadHall (pe_ix (kix (K := K) rfl) (pv 0) pe_int (fun _ _ => rfl))) (pa_cons (pe_xfH T.xf_NotAsked T.xn_NotAsked (pe_ix (kix (K := K) rfl) (pv 0) pe_int (fun _ _ => rfl))) (pa_cons (pe_xfH T.xf_BadTable T.xn_BadTable (pe_ix (kix (K := K) rfl) (pv 0) pe_int (fun _ _ => rfl))) pa_nil))))) pa_nil))))
      (pss_cons (ps_expr (kbm (K := K) (id := "") rfl (pe_bm PySem.F.plainAttrs_list PySem.F.slot_list_extend PySem.F.type_list_extend mt_extend (pv 1) (pa_cons (pe_lst (pa_cons (pe_xfH T.xf_BadComer T.xn_BadComer (pe_ix (kix (K := K) rfl) (pv 0) pe_int (fun _ _ => rfl))) (pa_cons (pe_xfH T.xf_BadCounts T.xn_BadCounts (pe_ix (kix (K := K) rfl) (pv 0) pe_int (fun _ _ => rfl))) (pa_cons (pe_xfH T.xf_BadBook T.xn_BadBook (pe_ix (kix (K := K) rfl) (pv 0) pe_int (fun _ _ => rfl))) (pa_cons (pe_xfH T.xf_BadPeople T.xn_BadPeople (pe_ix (kix (K := K) rfl) (pv 0) pe_int (fun _ _ => rfl))) pa_nil))))) pa_nil))))
      (pss_cons (ps_expr (kbm (K := K) (id := "") rfl (pe_bm PySem.F.plainAttrs_list PySem.F.slot_list_extend PySem.F.type_list_extend mt_extend (pv 1) (pa_cons (pe_lst (pa_cons (pe_xfH T.xf_BadRule T.xn_BadRule (pe_ix (kix (K := K) rfl) (pv 0) pe_int (fun _ _ => rfl))) (pa_cons (pe_xfH T.xf_BadText T.xn_BadText (pe_ix (kix (K := K) rfl) (pv 0) pe_int (fun _ _ => rfl))) pa_nil))) pa_nil))))
      (pss_one (ps_ret (pv 1))))))))), fun ds Qd h => ?_⟩
  obtain ⟨d, rfl, q⟩ := h
  refine ws_seq <| ws_asgN <| en_lst <| ea_cons <| ew_held rfl rfl <| ea_cons <| ew_held rfl rfl <| ea_cons <| ew_held rfl rfl <| ea_cons <| ew_held rfl rfl <| ea_nil ⟨by show 4 ≤ 100000; decide, fun p => ?_⟩
  refine ws_seq <| ws_drop <| ew_extend (a := p) rfl <| ew_new <| en_lst <| ea_cons <| ew_held rfl rfl <| ea_cons <| ew_held rfl rfl <| ea_cons <| ew_held rfl rfl <| ea_cons <| ew_held rfl rfl <| ea_nil ⟨by show 4 ≤ 100000; decide, _, _, rfl, rfl, by show 4 + 4 < 90000; decide, ?_⟩
  refine ws_seq <| ws_drop <| ew_extend (a := p) rfl <| ew_new <| en_lst <| ea_cons <| ew_held rfl rfl <| ea_cons <| ew_held rfl rfl <| ea_cons <| ew_held rfl rfl <| ea_cons <| ew_held rfl rfl <| ea_nil ⟨by show 4 ≤ 100000; decide, _, _, rfl, rfl, by show 8 + 4 < 90000; decide, ?_⟩
  refine ws_seq <| ws_drop <| ew_extend (a := p) rfl <| ew_new <| en_lst <| ea_cons <| ew_held rfl rfl <| ea_cons <| ew_held rfl rfl <| ea_cons <| ew_held rfl rfl <| ea_cons <| ew_held rfl rfl <| ea_nil ⟨by show 4 ≤ 100000; decide, _, _, rfl, rfl, by show 12 + 4 < 90000; decide, ?_⟩
  refine ws_seq <| ws_drop <| ew_extend (a := p) rfl <| ew_new <| en_lst <| ea_cons <| ew_held rfl rfl <| ea_cons <| ew_held rfl rfl <| ea_cons <| ew_held rfl rfl <| ea_cons <| ew_held rfl rfl <| ea_nil ⟨by show 4 ≤ 100000; decide, _, _, rfl, rfl, by show 16 + 4 < 90000; decide, ?_⟩
  refine ws_seq <| ws_drop <| ew_extend (a := p) rfl <| ew_new <| en_lst <| ea_cons <| ew_held rfl rfl <| ea_cons <| ew_held rfl rfl <| ea_nil ⟨by show 2 ≤ 100000; decide, _, _, rfl, rfl, by show 20 + 2 < 90000; decide, ?_⟩
  exact ws_retOwn rfl q
def nm1 : List Str := excN.take 22
def nm2 : List Str := excN.drop 22
def T__law_is_these : List D → (D → Prop) → Prop := fun ds Q => ∃ C ps, ds = [.exc C ps] ∧ C ∈ excN ∧ Q (.lst (nm1.map fun c => .bl (decide (C = c))))
abbrev N__law_is_these : List Str := ["_law_e", "_law_found"]
theorem S__law_is_these : FnScope N__law_is_these ["_law_e"] (defScope s__law_is_these) := ⟨rfl, rfl, rfl, by decide +kernel, rfl, by decide +kernel, by decide +kernel⟩
theorem ok__law_is_these (T : TX P K mg) : FnB P w K mg base 1 "_law_is_these" ["_law_e"] (spN K T__law_is_these) := by
  obtain ⟨fd, F⟩ := T.F__law_is_these
  refine fn_N (k := 0) F T.g__law_is_these (fun _ _ _ _ _ _ us hl => match us, hl with | [_], _ => rfl) S__law_is_these (fun ds Qd h => by first | (obtain ⟨rfl, _⟩ := h; rfl) | (obtain ⟨_, rfl, _⟩ := h; rfl) | (obtain ⟨_, _, rfl, _⟩ := h; rfl) | (obtain ⟨_, _, _, rfl, _⟩ := h; rfl) | (obtain ⟨_, _, _, _, rfl, _⟩ := h; rfl) | (obtain ⟨_, _, _, _, _, rfl, _⟩ := h; rfl) | (obtain ⟨_, _, _, _, _, _, rfl, _⟩ := h; rfl)) fun cdv A outer s H E hr => ⟨_, (pss_cons (ps_set (i := 1) S__law_is_these.nd rfl (by first | exact .inl rfl | exact .inr rfl) (pe_lst (pa_cons (pe_callB (kisX (K := K) rfl) (by rfl) T.n_isinstance (by decide +kernel) (pa_cons (pv 0) (pa_cons (pe_glob (v := .ref (He.ga K "BadRank")) (by rfl) T.g_BadRank rfl) pa_nil))) (pa_cons (pe_callB (kisX (K := K) rfl) (by rfl) T.n_isinstance (by decide +kernel) (pa_cons (pv 0) (pa_cons (pe_glob (v := .ref (He.ga K "BadKind")) (by rfl) T.g_BadKind rfl) pa_nil))) (pa_cons (pe_callB (kisX (K := K) rfl) (by rfl) T.n_isinstance (by decide +kernel) (pa_cons (pv 0) (pa_cons (pe_glob (v := .ref (He.ga K "BadEvent")) (by rfl) T.g_BadEvent rfl) pa_nil))) pa_nil)))))
      (pss_cons (ps_expr (kbm (K := K) (id := "") rfl (pe_bm PySem.F.plainAttrs_list PySem.F.slot_list_extend PySem.F.type_list_extend mt_extend (pv 1) (pa_cons (pe_lst (pa_cons (pe_callB (kisX (K := K) rfl) (by rfl) T.n_isinstance (by decide +kernel) (pa_cons (pv 0) (pa_cons (pe_glob (v := .ref (He.ga K "BadTime")) (by rfl) T.g_BadTime rfl) pa_nil))) (pa_cons (pe_callB (kisX (K := K) rfl) (by rfl) T.n_isinstance (by decide +kernel) (pa_cons (pv 0) (pa_cons (pe_glob (v := .ref (He.ga K "NoPerson")) (by rfl) T.g_NoPerson rfl) pa_nil))) (pa_cons (pe_callB (kisX (K := K) rfl) (by rfl) T.n_isinstance (by decide +kernel) (pa_cons (pv 0) (pa_cons (pe_glob (v := .ref (He.ga K "BadTruth")) (by rfl) T.g_BadTruth rfl) pa_nil))) pa_nil)))) pa_nil))))
      (pss_cons (ps_expr (kbm (K := K) (id := "") rfl (pe_bm PySem.F.plainAttrs_list PySem.F.slot_list_extend PySem.F.type_list_extend mt_extend (pv 1) (pa_cons (pe_lst (pa_cons (pe_callB (kisX (K := K) rfl) (by rfl) T.n_isinstance (by decide +kernel) (pa_cons (pv 0) (pa_cons (pe_glob (v := .ref (He.ga K "NoRoad")) (by rfl) T.g_NoRoad rfl) pa_nil))) (pa_cons (pe_callB (kisX (K := K) rfl) (by rfl) T.n_isinstance (by decide +kernel) (pa_cons (pv 0) (pa_cons (pe_glob (v := .ref (He.ga K "BadLetter")) (by rfl) T.g_BadLetter rfl) pa_nil))) (pa_cons (pe_callB (kisX (K := K) rfl) (by rfl) T.n_isinstance (by decide +kernel) (pa_cons (pv 0) (pa_cons (pe_glob (v := .ref (He.ga K "BadWishes")) (by rfl) T.g_BadWishes rfl) pa_nil))) pa_nil)))) pa_nil))))
      (pss_cons (ps_expr (kbm (K := K) (id := "") rfl (pe_bm PySem.F.plainAttrs_list PySem.F.slot_list_extend PySem.F.type_list_extend mt_extend (pv 1) (pa_cons (pe_lst (pa_cons (pe_callB (kisX (K := K) rfl) (by rfl) T.n_isinstance (by decide +kernel) (pa_cons (pv 0) (pa_cons (pe_glob (v := .ref (He.ga K "BadPerson")) (by rfl) T.g_BadPerson rfl) pa_nil))) (pa_cons (pe_callB (kisX (K := K) rfl) (by rfl) T.n_isinstance (by decide +kernel) (pa_cons (pv 0) (pa_cons (pe_glob (v := .ref (He.ga K "BadFree")) (by rfl) T.g_BadFree rfl) pa_nil))) (pa_cons (pe_callB (kisX (K := K) rfl) (by rfl) T.n_isinstance (by decide +kernel) (pa_cons (pv 0) (pa_cons (pe_glob (v := .ref (He.ga K "BadMatching")) (by rfl) T.g_BadMatching rfl) pa_nil))) pa_nil)))) pa_nil))))
      (pss_cons (ps_expr (kbm (K := K) (id := "") rfl (pe_bm PySem.F.plainAttrs_list PySem.F.slot_list_extend PySem.F.type_list_extend mt_extend (pv 1) (pa_cons (pe_lst (pa_cons (pe_callB (kisX (K := K) rfl) (by rfl) T.n_isinstance (by decide +kernel) (pa_cons (pv 0) (pa_cons (pe_glob (v := .ref (He.ga K "BadSide")) (by rfl) T.g_BadSide rfl) pa_nil))) (pa_cons (pe_callB (kisX (K := K) rfl) (by rfl) T.n_isinstance (by decide +kernel) (pa_cons (pv 0) (pa_cons (pe_glob (v := .ref (He.ga K "NotStable")) (by rfl) T.g_NotStable rfl) pa_nil))) (pa_cons (pe_callB (kisX (K := K) rfl) (by rfl) T.n_isinstance (by decide +kernel) (pa_cons (pv 0) (pa_cons (pe_glob (v := .ref (He.ga K "BadNumber")) (by rfl) T.g_BadNumber rfl) pa_nil))) pa_nil)))) pa_nil))))
      (pss_cons (ps_expr (kbm (K := K) (id := "") rfl (pe_bm PySem.F.plainAttrs_list PySem.F.slot_list_extend PySem.F.type_list_extend mt_extend (pv 1) (pa_cons (pe_lst (pa_cons (pe_callB (kisX (K := K) rfl) (by rfl) T.n_isinstance (by decide +kernel) (pa_cons (pv 0) (pa_cons (pe_glob (v := .ref (He.ga K "BadTurns")) (by rfl) T.g_BadTurns rfl) pa_nil))) (pa_cons (pe_callB (kisX (K := K) rfl) (by rfl) T.n_isinstance (by decide +kernel) (pa_cons (pv 0) (pa_cons (pe_glob (v := .ref (He.ga K "BadRow")) (by rfl) T.g_BadRow rfl) pa_nil))) (pa_cons (pe_callB (kisX (K := K) rfl) (by rfl) T.n_isinstance (by decide +kernel) (pa_cons (pv 0) (pa_cons (pe_glob (v := .ref (He.ga K "BadDeed")) (by rfl) T.g_BadDeed rfl) pa_nil))) pa_nil)))) pa_nil))))
      (pss_cons (ps_expr (kbm (K := K) (id := "") rfl (pe_bm PySem.F.plainAttrs_list PySem.F.slot_list_extend PySem.F.type_list_extend mt_extend (pv 1) (pa_cons (pe_lst (pa_cons (pe_callB (kisX (K := K) rfl) (by rfl) T.n_isinstance (by decide +kernel) (pa_cons (pv 0) (pa_cons (pe_glob (v := .ref (He.ga K "BadAccount")) (by rfl) T.g_BadAccount rfl) pa_nil))) (pa_cons (pe_callB (kisX (K := K) rfl) (by rfl) T.n_isinstance (by decide +kernel) (pa_cons (pv 0) (pa_cons (pe_glob (v := .ref (He.ga K "BadName")) (by rfl) T.g_BadName rfl) pa_nil))) (pa_cons (pe_callB (kisX (K := K) rfl) (by rfl) T.n_isinstance (by decide +kernel) (pa_cons (pv 0) (pa_cons (pe_glob (v := .ref (He.ga K "BadFloor")) (by rfl) T.g_BadFloor rfl) pa_nil))) pa_nil)))) pa_nil))))
      (pss_cons (ps_expr (kbm (K := K) (id := "") rfl (pe_bm PySem.F.plainAttrs_list PySem.F.slot_list_extend PySem.F.type_list_extend mt_extend (pv 1) (pa_cons (pe_lst (pa_cons (pe_callB (kisX (K := K) rfl) (by rfl) T.n_isinstance (by decide +kernel) (pa_cons (pv 0) (pa_cons (pe_glob (v := .ref (He.ga K "BadBooks")) (by rfl) T.g_BadBooks rfl) pa_nil))) pa_nil)) pa_nil))))
      (pss_one (ps_ret (pv 1))))))))))), fun ds Qd h => ?_⟩
  obtain ⟨C, ps, rfl, hC, q⟩ := h
  have he := T.ec C hC
  refine ws_seq <| ws_asgN <| en_lst <| ea_cons <| ew_isXC rfl he (T.km C hC _ (List.mem_of_getElem? (i := 0) rfl)) <| ea_cons <| ew_isXC rfl he (T.km C hC _ (List.mem_of_getElem? (i := 1) rfl)) <| ea_cons <| ew_isXC rfl he (T.km C hC _ (List.mem_of_getElem? (i := 2) rfl)) <| ea_nil ⟨by show 3 ≤ 100000; decide, fun p => ?_⟩
  refine ws_seq <| ws_drop <| ew_extend (a := p) rfl <| ew_new <| en_lst <| ea_cons <| ew_isXC rfl he (T.km C hC _ (List.mem_of_getElem? (i := 3) rfl)) <| ea_cons <| ew_isXC rfl he (T.km C hC _ (List.mem_of_getElem? (i := 4) rfl)) <| ea_cons <| ew_isXC rfl he (T.km C hC _ (List.mem_of_getElem? (i := 5) rfl)) <| ea_nil ⟨by show 3 ≤ 100000; decide, _, _, rfl, rfl, by show 3 + 3 < 90000; decide, ?_⟩
  refine ws_seq <| ws_drop <| ew_extend (a := p) rfl <| ew_new <| en_lst <| ea_cons <| ew_isXC rfl he (T.km C hC _ (List.mem_of_getElem? (i := 6) rfl)) <| ea_cons <| ew_isXC rfl he (T.km C hC _ (List.mem_of_getElem? (i := 7) rfl)) <| ea_cons <| ew_isXC rfl he (T.km C hC _ (List.mem_of_getElem? (i := 8) rfl)) <| ea_nil ⟨by show 3 ≤ 100000; decide, _, _, rfl, rfl, by show 6 + 3 < 90000; decide, ?_⟩
  refine ws_seq <| ws_drop <| ew_extend (a := p) rfl <| ew_new <| en_lst <| ea_cons <| ew_isXC rfl he (T.km C hC _ (List.mem_of_getElem? (i := 9) rfl)) <| ea_cons <| ew_isXC rfl he (T.km C hC _ (List.mem_of_getElem? (i := 10) rfl)) <| ea_cons <| ew_isXC rfl he (T.km C hC _ (List.mem_of_getElem? (i := 11) rfl)) <| ea_nil ⟨by show 3 ≤ 100000; decide, _, _, rfl, rfl, by show 9 + 3 < 90000; decide, ?_⟩
  refine ws_seq <| ws_drop <| ew_extend (a := p) rfl <| ew_new <| en_lst <| ea_cons <| ew_isXC rfl he (T.km C hC _ (List.mem_of_getElem? (i := 12) rfl)) <| ea_cons <| ew_isXC rfl he (T.km C hC _ (List.mem_of_getElem? (i := 13) rfl)) <| ea_cons <| ew_isXC rfl he (T.km C hC _ (List.mem_of_getElem? (i := 14) rfl)) <| ea_nil ⟨by show 3 ≤ 100000; decide, _, _, rfl, rfl, by show 12 + 3 < 90000; decide, ?_⟩
  refine ws_seq <| ws_drop <| ew_extend (a := p) rfl <| ew_new <| en_lst <| ea_cons <| ew_isXC rfl he (T.km C hC _ (List.mem_of_getElem? (i := 15) rfl)) <| ea_cons <| ew_isXC rfl he (T.km C hC _ (List.mem_of_getElem? (i := 16) rfl)) <| ea_cons <| ew_isXC rfl he (T.km C hC _ (List.mem_of_getElem? (i := 17) rfl)) <| ea_nil ⟨by show 3 ≤ 100000; decide, _, _, rfl, rfl, by show 15 + 3 < 90000; decide, ?_⟩
  refine ws_seq <| ws_drop <| ew_extend (a := p) rfl <| ew_new <| en_lst <| ea_cons <| ew_isXC rfl he (T.km C hC _ (List.mem_of_getElem? (i := 18) rfl)) <| ea_cons <| ew_isXC rfl he (T.km C hC _ (List.mem_of_getElem? (i := 19) rfl)) <| ea_cons <| ew_isXC rfl he (T.km C hC _ (List.mem_of_getElem? (i := 20) rfl)) <| ea_nil ⟨by show 3 ≤ 100000; decide, _, _, rfl, rfl, by show 18 + 3 < 90000; decide, ?_⟩
  refine ws_seq <| ws_drop <| ew_extend (a := p) rfl <| ew_new <| en_lst <| ea_cons <| ew_isXC rfl he (T.km C hC _ (List.mem_of_getElem? (i := 21) rfl)) <| ea_nil ⟨by show 1 ≤ 100000; decide, _, _, rfl, rfl, by show 21 + 1 < 90000; decide, ?_⟩
  exact ws_retOwn rfl q
def T__law_is_those : List D → (D → Prop) → Prop := fun ds Q => ∃ C ps, ds = [.exc C ps] ∧ C ∈ excN ∧ Q (.lst (nm2.map fun c => .bl (decide (C = c))))
abbrev N__law_is_those : List Str := ["_law_e", "_law_found"]
theorem S__law_is_those : FnScope N__law_is_those ["_law_e"] (defScope s__law_is_those) := ⟨rfl, rfl, rfl, by decide +kernel, rfl, by decide +kernel, by decide +kernel⟩
theorem ok__law_is_those (T : TX P K mg) : FnB P w K mg base 1 "_law_is_those" ["_law_e"] (spN K T__law_is_those) := by
  obtain ⟨fd, F⟩ := T.F__law_is_those
  refine fn_N (k := 0) F T.g__law_is_those (fun _ _ _ _ _ _ us hl => match us, hl with | [_], _ => rfl) S__law_is_those (fun ds Qd h => by first | (obtain ⟨rfl, _⟩ := h; rfl) | (obtain ⟨_, rfl, _⟩ := h; rfl) | (obtain ⟨_, _, rfl, _⟩ := h; rfl) | (obtain ⟨_, _, _, rfl, _⟩ := h; rfl) | (obtain ⟨_, _, _, _, rfl, _⟩ := h; rfl) | (obtain ⟨_, _, _, _, _, rfl, _⟩ := h; rfl) | (obtain ⟨_, _, _, _, _, _, rfl, _⟩ := h; rfl)) fun cdv A outer s H E hr => ⟨_, (pss_cons (ps_set (i := 1) S__law_is_those.nd rfl (by first | exact .inl rfl | exact .inr rfl) (pe_lst (pa_cons (pe_callB (kisX (K := K) rfl) (by rfl) T.n_isinstance (by decide +kernel) (pa_cons (pv 0) (pa_cons (pe_glob (v := .ref (He.ga K "BadFee")) (by rfl) T.g_BadFee rfl) pa_nil))) (pa_cons (pe_callB (kisX (K := K) rfl) (by rfl) T.n_isinstance (by decide +kernel) (pa_cons (pv 0) (pa_cons (pe_glob (v := .ref (He.ga K "BadHearing")) (by rfl) T.g_BadHearing rfl) pa_nil))) (pa_cons (pe_callB (kisX (K := K) rfl) (by rfl) T.n_isinstance (by decide +kernel) (pa_cons (pv 0) (pa_cons (pe_glob (v := .ref (He.ga K "BadHoldings")) (by rfl) T.g_BadHoldings rfl) pa_nil))) pa_nil)))))
      (pss_cons (ps_expr (kbm (K := K) (id := "") rfl (pe_bm PySem.F.plainAttrs_list PySem.F.slot_list_extend PySem.F.type_list_extend mt_extend (pv 1) (pa_cons (pe_lst (pa_cons (pe_callB (kisX (K := K) rfl) (by rfl) T.n_isinstance (by decide +kernel) (pa_cons (pv 0) (pa_cons (pe_glob (v := .ref (He.ga K "BadItem")) (by rfl) T.g_BadItem rfl) pa_nil))) (pa_cons (pe_callB (kisX (K := K) rfl) (by rfl) T.n_isinstance (by decide +kernel) (pa_cons (pv 0) (pa_cons (pe_glob (v := .ref (He.ga K "NotFeasible")) (by rfl) T.g_NotFeasible rfl) pa_nil))) (pa_cons (pe_callB (kisX (K := K) rfl) (by rfl) T.n_isinstance (by decide +kernel) (pa_cons (pv 0) (pa_cons (pe_glob (v := .ref (He.ga K "BadCoins")) (by rfl) T.g_BadCoins rfl) pa_nil))) pa_nil)))) pa_nil))))
      (pss_cons (ps_expr (kbm (K := K) (id := "") rfl (pe_bm PySem.F.plainAttrs_list PySem.F.slot_list_extend PySem.F.type_list_extend mt_extend (pv 1) (pa_cons (pe_lst (pa_cons (pe_callB (kisX (K := K) rfl) (by rfl) T.n_isinstance (by decide +kernel) (pa_cons (pv 0) (pa_cons (pe_glob (v := .ref (He.ga K "BadDebts")) (by rfl) T.g_BadDebts rfl) pa_nil))) (pa_cons (pe_callB (kisX (K := K) rfl) (by rfl) T.n_isinstance (by decide +kernel) (pa_cons (pv 0) (pa_cons (pe_glob (v := .ref (He.ga K "NoMember")) (by rfl) T.g_NoMember rfl) pa_nil))) (pa_cons (pe_callB (kisX (K := K) rfl) (by rfl) T.n_isinstance (by decide +kernel) (pa_cons (pv 0) (pa_cons (pe_glob (v := .ref (He.ga K "NotPayments")) (by rfl) T.g_NotPayments rfl) pa_nil))) pa_nil)))) pa_nil))))
      (pss_cons (ps_expr (kbm (K := K) (id := "") rfl (pe_bm PySem.F.plainAttrs_list PySem.F.slot_list_extend PySem.F.type_list_extend mt_extend (pv 1) (pa_cons (pe_lst (pa_cons (pe_callB (kisX (K := K) rfl) (by rfl) T.n_isinstance (by decide +kernel) (pa_cons (pv 0) (pa_cons (pe_glob (v := .ref (He.ga K "NotFailing")) (by rfl) T.g_NotFailing rfl) pa_nil))) (pa_cons (pe_callB (kisX (K := K) rfl) (by rfl) T.n_isinstance (by decide +kernel) (pa_cons (pv 0) (pa_cons (pe_glob (v := .ref (He.ga K "BadHolds")) (by rfl) T.g_BadHolds rfl) pa_nil))) (pa_cons (pe_callB (kisX (K := K) rfl) (by rfl) T.n_isinstance (by decide +kernel) (pa_cons (pv 0) (pa_cons (pe_glob (v := .ref (He.ga K "BadWay")) (by rfl) T.g_BadWay rfl) pa_nil))) pa_nil)))) pa_nil))))
      (pss_cons (ps_expr (kbm (K := K) (id := "") rfl (pe_bm PySem.F.plainAttrs_list PySem.F.slot_list_extend PySem.F.type_list_extend mt_extend (pv 1) (pa_cons (pe_lst (pa_cons (pe_callB (kisX (K := K) rfl) (by rfl) T.n_isinstance (by decide +kernel) (pa_cons (pv 0) (pa_cons (pe_glob (v := .ref (He.ga K "BadOutcome")) (by rfl) T.g_BadOutcome rfl) pa_nil))) (pa_cons (pe_callB (kisX (K := K) rfl) (by rfl) T.n_isinstance (by decide +kernel) (pa_cons (pv 0) (pa_cons (pe_glob (v := .ref (He.ga K "BadHall")) (by rfl) T.g_BadHall rfl) pa_nil))) (pa_cons (pe_callB (kisX (K := K) rfl) (by rfl) T.n_isinstance (by decide +kernel) (pa_cons (pv 0) (pa_cons (pe_glob (v := .ref (He.ga K "NotAsked")) (by rfl) T.g_NotAsked rfl) pa_nil))) pa_nil)))) pa_nil))))
      (pss_cons (ps_expr (kbm (K := K) (id := "") rfl (pe_bm PySem.F.plainAttrs_list PySem.F.slot_list_extend PySem.F.type_list_extend mt_extend (pv 1) (pa_cons (pe_lst (pa_cons (pe_callB (kisX (K := K) rfl) (by rfl) T.n_isinstance (by decide +kernel) (pa_cons (pv 0) (pa_cons (pe_glob (v := .ref (He.ga K "BadTable")) (by rfl) T.g_BadTable rfl) pa_nil))) (pa_cons (pe_callB (kisX (K := K) rfl) (by rfl) T.n_isinstance (by decide +kernel) (pa_cons (pv 0) (pa_cons (pe_glob (v := .ref (He.ga K "BadComer")) (by rfl) T.g_BadComer rfl) pa_nil))) (pa_cons (pe_callB (kisX (K := K) rfl) (by rfl) T.n_isinstance (by decide +kernel) (pa_cons (pv 0) (pa_cons (pe_glob (v := .ref (He.ga K "BadCounts")) (by rfl) T.g_BadCounts rfl) pa_nil))) pa_nil)))) pa_nil))))
      (pss_cons (ps_expr (kbm (K := K) (id := "") rfl (pe_bm PySem.F.plainAttrs_list PySem.F.slot_list_extend PySem.F.type_list_extend mt_extend (pv 1) (pa_cons (pe_lst (pa_cons (pe_callB (kisX (K := K) rfl) (by rfl) T.n_isinstance (by decide +kernel) (pa_cons (pv 0) (pa_cons (pe_glob (v := .ref (He.ga K "BadBook")) (by rfl) T.g_BadBook rfl) pa_nil))) (pa_cons (pe_callB (kisX (K := K) rfl) (by rfl) T.n_isinstance (by decide +kernel) (pa_cons (pv 0) (pa_cons (pe_glob (v := .ref (He.ga K "BadPeople")) (by rfl) T.g_BadPeople rfl) pa_nil))) (pa_cons (pe_callB (kisX (K := K) rfl) (by rfl) T.n_isinstance (by decide +kernel) (pa_cons (pv 0) (pa_cons (pe_glob (v := .ref (He.ga K "BadRule")) (by rfl) T.g_BadRule rfl) pa_nil))) pa_nil)))) pa_nil))))
      (pss_cons (ps_expr (kbm (K := K) (id := "") rfl (pe_bm PySem.F.plainAttrs_list PySem.F.slot_list_extend PySem.F.type_list_extend mt_extend (pv 1) (pa_cons (pe_lst (pa_cons (pe_callB (kisX (K := K) rfl) (by rfl) T.n_isinstance (by decide +kernel) (pa_cons (pv 0) (pa_cons (pe_glob (v := .ref (He.ga K "BadText")) (by rfl) T.g_BadText rfl) pa_nil))) (pa_cons (pe_callB (kisX (K := K) rfl) (by rfl) T.n_isinstance (by decide +kernel) (pa_cons (pv 0) (pa_cons (pe_glob (v := .ref (He.ga K "Nothing")) (by rfl) T.g_Nothing rfl) pa_nil))) pa_nil))) pa_nil))))
      (pss_one (ps_ret (pv 1))))))))))), fun ds Qd h => ?_⟩
  obtain ⟨C, ps, rfl, hC, q⟩ := h
  have he := T.ec C hC
  refine ws_seq <| ws_asgN <| en_lst <| ea_cons <| ew_isXC rfl he (T.km C hC _ (List.mem_of_getElem? (i := 22) rfl)) <| ea_cons <| ew_isXC rfl he (T.km C hC _ (List.mem_of_getElem? (i := 23) rfl)) <| ea_cons <| ew_isXC rfl he (T.km C hC _ (List.mem_of_getElem? (i := 24) rfl)) <| ea_nil ⟨by show 3 ≤ 100000; decide, fun p => ?_⟩
  refine ws_seq <| ws_drop <| ew_extend (a := p) rfl <| ew_new <| en_lst <| ea_cons <| ew_isXC rfl he (T.km C hC _ (List.mem_of_getElem? (i := 25) rfl)) <| ea_cons <| ew_isXC rfl he (T.km C hC _ (List.mem_of_getElem? (i := 26) rfl)) <| ea_cons <| ew_isXC rfl he (T.km C hC _ (List.mem_of_getElem? (i := 27) rfl)) <| ea_nil ⟨by show 3 ≤ 100000; decide, _, _, rfl, rfl, by show 3 + 3 < 90000; decide, ?_⟩
  refine ws_seq <| ws_drop <| ew_extend (a := p) rfl <| ew_new <| en_lst <| ea_cons <| ew_isXC rfl he (T.km C hC _ (List.mem_of_getElem? (i := 28) rfl)) <| ea_cons <| ew_isXC rfl he (T.km C hC _ (List.mem_of_getElem? (i := 29) rfl)) <| ea_cons <| ew_isXC rfl he (T.km C hC _ (List.mem_of_getElem? (i := 30) rfl)) <| ea_nil ⟨by show 3 ≤ 100000; decide, _, _, rfl, rfl, by show 6 + 3 < 90000; decide, ?_⟩
  refine ws_seq <| ws_drop <| ew_extend (a := p) rfl <| ew_new <| en_lst <| ea_cons <| ew_isXC rfl he (T.km C hC _ (List.mem_of_getElem? (i := 31) rfl)) <| ea_cons <| ew_isXC rfl he (T.km C hC _ (List.mem_of_getElem? (i := 32) rfl)) <| ea_cons <| ew_isXC rfl he (T.km C hC _ (List.mem_of_getElem? (i := 33) rfl)) <| ea_nil ⟨by show 3 ≤ 100000; decide, _, _, rfl, rfl, by show 9 + 3 < 90000; decide, ?_⟩
  refine ws_seq <| ws_drop <| ew_extend (a := p) rfl <| ew_new <| en_lst <| ea_cons <| ew_isXC rfl he (T.km C hC _ (List.mem_of_getElem? (i := 34) rfl)) <| ea_cons <| ew_isXC rfl he (T.km C hC _ (List.mem_of_getElem? (i := 35) rfl)) <| ea_cons <| ew_isXC rfl he (T.km C hC _ (List.mem_of_getElem? (i := 36) rfl)) <| ea_nil ⟨by show 3 ≤ 100000; decide, _, _, rfl, rfl, by show 12 + 3 < 90000; decide, ?_⟩
  refine ws_seq <| ws_drop <| ew_extend (a := p) rfl <| ew_new <| en_lst <| ea_cons <| ew_isXC rfl he (T.km C hC _ (List.mem_of_getElem? (i := 37) rfl)) <| ea_cons <| ew_isXC rfl he (T.km C hC _ (List.mem_of_getElem? (i := 38) rfl)) <| ea_cons <| ew_isXC rfl he (T.km C hC _ (List.mem_of_getElem? (i := 39) rfl)) <| ea_nil ⟨by show 3 ≤ 100000; decide, _, _, rfl, rfl, by show 15 + 3 < 90000; decide, ?_⟩
  refine ws_seq <| ws_drop <| ew_extend (a := p) rfl <| ew_new <| en_lst <| ea_cons <| ew_isXC rfl he (T.km C hC _ (List.mem_of_getElem? (i := 40) rfl)) <| ea_cons <| ew_isXC rfl he (T.km C hC _ (List.mem_of_getElem? (i := 41) rfl)) <| ea_cons <| ew_isXC rfl he (T.km C hC _ (List.mem_of_getElem? (i := 42) rfl)) <| ea_nil ⟨by show 3 ≤ 100000; decide, _, _, rfl, rfl, by show 18 + 3 < 90000; decide, ?_⟩
  refine ws_seq <| ws_drop <| ew_extend (a := p) rfl <| ew_new <| en_lst <| ea_cons <| ew_isXC rfl he (T.km C hC _ (List.mem_of_getElem? (i := 43) rfl)) <| ea_cons <| ew_isXC rfl he (T.km C hC _ (List.mem_of_getElem? (i := 44) rfl)) <| ea_nil ⟨by show 2 ≤ 100000; decide, _, _, rfl, rfl, by show 21 + 2 < 90000; decide, ?_⟩
  exact ws_retOwn rfl q
end
end K87

set_option Elab.async false
set_option linter.all false
set_option maxRecDepth 100000
set_option maxHeartbeats 4000000
namespace K87
open PySem PySem.Spec PyProof.Rows L2 DL SrtK
section
variable {P : Program} {w : World} {K : PySem.W.Frag} {mg : Str → Option Value} {base : Heap}
abbrev N_law : List Str := ["_law_script", "_law_turn", "_law_draws", "_law_x", "_law_pairs", "_law_hand", "_law_left", "_law_right", "_law_held", "_law_every", "_law_n", "_law_e", "_law_pair", "_law_stay", "_law_k"]
theorem S_law : FnScope N_law ["_law_script"] (defScope s_law) := ⟨rfl, rfl, rfl, by decide +kernel, rfl, by decide +kernel, by decide +kernel⟩
theorem fn_P2 {x qual : Str} {params : Arguments} {body : List Stmt} {scope : Scope} {f : Addr} {fd : FuncData} {N ps : List Str} {k : Nat} {T : List D → (D → Prop) → Prop}
    (F : FunD K x qual params body scope [] [] f fd) (S : FnScope N ps scope) (hl : ∀ ds Qd, T ds Qd → ds.length = ps.length)
    (hb : ∀ (cdv : Value) (A : Around) (outer : List PySem.Env) (s : Shared) (H : Hp) (E : XK), Room k (A.deeper (envOfC qual scope s.heap.objs.size f cdv)) →
      ∃ t, PSs (cxOf CX0 P w K mg base N qual scope f cdv A outer s H E).nox body t ∧ ∀ ds Qd, T ds Qd → WS K t (envP N ds) { nx := fun _ => Qd .non, rt := fun d _ => Qd d }) :
    FnOk P w K mg base CX0 (k + 1) f fd ps (spP K T) := by
  refine F.ok S (fun vs H Q E h => ?_) (fun cdv A outer s H vs Q E hr h => ?_)
  · obtain ⟨_, _, ds, Qd, _, r, t, _⟩ := h
    rw [r.length]; exact hl ds Qd t
  · obtain ⟨F', G, ds, Qd, W, r, tt, post⟩ := h
    obtain ⟨t, hd, hw⟩ := hb cdv A outer s H E hr
    refine ⟨t, PSs.nox hd, ?_⟩
    have R : RE K F' G H (L2.start N vs) (envP N ds) := by
      unfold L2.start
      refine ⟨W, by rw [r.length]; exact slots_start _ r, by rw [own_start]; exact List.nodup_nil⟩
    refine hw ds Qd tt F' G H (L2.start N vs) _ R ⟨fun σ' ρ' G' H' e R' q => ?_, fun v d σ' ρ' G' H' e R' hv q => ?_, fun σ' ρ' G' H' e R' q => q.elim, fun σ' ρ' G' H' e R' q => q.elim, fun p d σ' ρ' G' H' e R' _ _ _ _ q => q.elim, fun C f v d dx G' H' _ _ _ _ _ _ q => q.elim⟩
    · exact post .non .non G' H' e R'.wd .non q
    · exact post v d G' H' e R'.wd hv q
def TLaw : List D → (D → Prop) → Prop := fun ds Q => ∃ ns : List Int, ds = [.scr ns] ∧ Q (.bl true)
def InvL (ns : List Int) (ρ : DL.Env) : Prop := ∃ s1 s2 s3 s4 s5 s6 s7 s8 s9 s10 s11 : Sl, ρ = [.sh (.scr ns), s1, s2, s3, s4, s5, s6, s7, s8, s9, s10, s11, .un, .un, .un]
def excsD (cs : List (Str × Str)) (d : D) : List D := cs.map fun c => .exc c.1 [(c.2, d)]
def prD (cs : List (Str × Str)) (d : D) : D := .lst (cs.map fun c => .tup [.exc c.1 [(c.2, d)], .exc c.1 [(c.2, d)]])
def pairsD (d : D) : D := .lst [prD cs1 d, prD cs2 d]
def everyL (d : D) : List D := excsD cs1 d ++ excsD cs2 d ++ [.exc "Nothing" []]
/-- what was picked and is no list -/
def XA (d : D) : Prop := Pl 3 d ∧ d.plain = true ∧ tyIs d.ty "list" = false
/-- .. a list -/
def XB (ds : List D) : Prop := ds.length ≤ 1 ∧ ∀ d ∈ ds, ∃ i, d = .int i
theorem every_at {d : D} {n : Nat} {y : D} (h : (enumD (everyL d))[n]? = some y) : ∃ C ps, y = .tup [.int (n : Nat), .exc C ps] ∧ excN[n]? = some C := by
  have hl : n < (everyL d).length := by
    have := (List.getElem?_eq_some_iff.mp h).1
    rw [enumD_len] at this; exact this
  have h1 := List.getElem?_eq_getElem hl
  have h2 := enumD_at h1
  rw [h] at h2
  cases h2
  let nameOf : D → Str := fun x => match x with | .exc C _ => C | _ => ""
  have en : (everyL d).map nameOf = excN := rfl
  have hx : ∀ x ∈ everyL d, ∃ C ps, x = .exc C ps := fun x hx => by
    unfold everyL excsD at hx
    rcases List.mem_append.mp hx with hx | hx
    · rcases List.mem_append.mp hx with hx | hx
      · obtain ⟨c, _, rfl⟩ := List.mem_map.mp hx; exact ⟨_, _, rfl⟩
      · obtain ⟨c, _, rfl⟩ := List.mem_map.mp hx; exact ⟨_, _, rfl⟩
    · rw [List.mem_singleton.mp hx]; exact ⟨_, _, rfl⟩
  obtain ⟨C, ps, e⟩ := hx _ (List.getElem_mem hl)
  refine ⟨C, ps, by rw [e], ?_⟩
  rw [← en, List.getElem?_map, h1, e]
  rfl
theorem names_nd : excN.Nodup := by decide +kernel
theorem names_eq {n : Nat} {C : Str} (h : excN[n]? = some C) : (nm1.map fun c => D.bl (decide (C = c))) ++ (nm2.map fun c => D.bl (decide (C = c))) = (List.range 45).map fun (k : Nat) => D.bl (decide ((0 + (k : Int)) = (n : Int))) := by
  have e1 : (nm1.map fun c => D.bl (decide (C = c))) ++ (nm2.map fun c => D.bl (decide (C = c))) = excN.map fun c => D.bl (decide (C = c)) := by
    unfold nm1 nm2
    rw [← List.map_append, List.take_append_drop]
  rw [e1]
  apply List.ext_getElem?
  intro k
  rw [List.getElem?_map, List.getElem?_map]
  have hlen : excN.length = 45 := by decide +kernel
  by_cases hk : k < 45
  · have hk1 : k < excN.length := by rw [hlen]; exact hk
    rw [List.getElem?_eq_getElem hk1, List.getElem?_range hk]
    obtain ⟨hn, en⟩ := List.getElem?_eq_some_iff.mp h
    rw [← en]
    show some (D.bl (decide (excN[n] = excN[k]))) = some (D.bl (decide (0 + (k : Int) = (n : Int))))
    refine congrArg (fun b => some (D.bl b)) (decide_eq_decide.mpr ?_)
    constructor
    · intro z
      have hp := List.pairwise_iff_getElem.mp names_nd
      rcases Nat.lt_trichotomy n k with y | y | y
      · exact absurd z (hp n k hn hk1 y)
      · omega
      · exact absurd z.symm (hp k n hk1 hn y)
    · intro z
      have : n = k := by omega
      subst this; rfl
  · rw [List.getElem?_eq_none (by rw [hlen]; omega), List.getElem?_eq_none (by rw [List.length_range]; omega)]
    rfl
theorem pyOk_bls {α : Type} (f : α → Bool) (xs : List α) : PyOk 1 (.lst (xs.map fun c => D.bl (f c))) := .lst fun x hx => by
  obtain ⟨c, _, rfl⟩ := List.mem_map.mp hx
  exact .bl _
theorem memc {P : D → Prop} {x : D} {xs : List D} (hx : P x) (hs : ∀ d ∈ xs, P d) : ∀ d ∈ x :: xs, P d := fun d hd => by
  rcases List.mem_cons.mp hd with rfl | z
  · exact hx
  · exact hs d z
theorem memn {P : D → Prop} : ∀ d ∈ ([] : List D), P d := fun d hd => (nomatch hd)
theorem pl_rep {n m : Nat} {d : D} (h : Pl n d) (hm : m ≤ 1000) : Pl (n + 1) (.lst (List.replicate m d)) := .lst (by rw [List.length_replicate]; exact hm) fun x hx => by rw [List.eq_of_mem_replicate hx]; exact h
theorem any_rep {d : D} : ((List.replicate 44 d).map D.isNon).any id = d.isNon := by
  cases h : d.isNon <;> simp [h]
theorem xb_pl {ds : List D} (h : XB ds) : Pl 3 (.lst (ds ++ [.str "more"])) := by
  refine .lst (by rw [List.length_append]; have := h.1; show _ + 1 ≤ 1000; omega) fun x hx => ?_
  rcases List.mem_append.mp hx with z | z
  · obtain ⟨i, rfl⟩ := h.2 x z; exact .int i
  · rw [List.mem_singleton.mp z]; exact .str _
theorem ok_law {f : Addr} {fd : FuncData} (F : FunD K "law" "law" (defArgs s_law) (defBody s_law) (defScope s_law) [] [] f fd) (T : TX P K mg) : FnOk P w K mg base CX0 9 f fd ["_law_script"] (spP K TLaw) := by
  have G__law_source := ok__law_source (P := P) (w := w) (base := base) T
  have G__law_pick := ok__law_pick (P := P) (w := w) (base := base) T
  have G__law_pairs_one := ok__law_pairs_one (P := P) (w := w) (base := base) T
  have G__law_pairs_two := ok__law_pairs_two (P := P) (w := w) (base := base) T
  have G__law_held_one := ok__law_held_one (P := P) (w := w) (base := base) T
  have G__law_held_two := ok__law_held_two (P := P) (w := w) (base := base) T
  have G__law_same := ok__law_same (P := P) (w := w) (base := base) T
  have G__law_is_these := ok__law_is_these (P := P) (w := w) (base := base) T
  have G__law_is_those := ok__law_is_those (P := P) (w := w) (base := base) T
  refine fn_P2 (k := 8) F S_law (fun ds Qd h => by obtain ⟨ns, rfl, _⟩ := h; rfl) fun cdv A outer s H E hr => ⟨_, (pss_cons (ps_for PassesOwn.never rfl (pi_range1 (by rfl) T.n_range (pa_cons (pe_op op_add pe_int (pe_callB (call_min2 rfl) (by rfl) T.n_min (by decide +kernel) (pa_cons (pe_callB (klen (K := K) rfl) (by rfl) T.n_len (by decide +kernel) (pa_cons (pv 0) pa_nil)) (pa_cons pe_int pa_nil)))) pa_nil)) (pg_name (i := 1) S_law.nd rfl (by first | exact .inl rfl | exact .inr rfl))
      (pss_cons (ps_set (i := 2) S_law.nd rfl (by first | exact .inl rfl | exact .inr rfl) (pe_callF G__law_source (hr.mono (by first | decide | omega)) (pa_cons (pv 0) (pa_cons (pv 1) pa_nil))))
      (pss_cons (ps_set (i := 3) S_law.nd rfl (by first | exact .inl rfl | exact .inr rfl) (pe_callF G__law_pick (hr.mono (by first | decide | omega)) (pa_cons (pv 2) (pa_cons (pe_lst (pa_cons pe_non (pa_cons pe_int (pa_cons (pe_un un_neg pe_int) (pa_cons pe_str (pa_cons (pe_lst (pa_cons (pv 1) pa_nil)) (pa_cons (pe_lst pa_nil) (pa_cons (pe_tup (pa_cons pe_int (pa_cons (pe_lst (pa_cons pe_int pa_nil)) pa_nil))) (pa_cons (pe_disp (pps_cons pe_str pe_int pps_nil) (by rfl) (by rfl) (fun z => by cases z) (by decide)) (pa_cons pe_bl (pa_cons (pe_op op_pow pe_int pe_int) pa_nil))))))))))) pa_nil))))
      (pss_cons (ps_set (i := 4) S_law.nd rfl (by first | exact .inl rfl | exact .inr rfl) (pe_lst (pa_cons (pe_callF G__law_pairs_one (hr.mono (by first | decide | omega)) (pa_cons (pv 3) pa_nil)) (pa_cons (pe_callF G__law_pairs_two (hr.mono (by first | decide | omega)) (pa_cons (pv 3) pa_nil)) pa_nil))))
      (pss_cons (ps_if (pt_val (pe_callB (kisi (K := K) rfl) (by rfl) T.n_isinstance (by decide +kernel) (pa_cons (pv 3) (pa_cons (pe_bltn (v := .ty "list") (by rfl) T.n_list (by decide +kernel) rfl) pa_nil)))) (pss_one (ps_expr (kbm (K := K) (id := "") rfl (pe_bm PySem.F.plainAttrs_list PySem.F.slot_list_append PySem.F.type_list_append mt_append (pv 3) (pa_cons pe_str pa_nil))))) pss_nil)
      (pss_one (ps_for PassesOwn.never rfl (pi_range1 (by rfl) T.n_range (pa_cons pe_int pa_nil)) (pg_name (i := 5) S_law.nd rfl (by first | exact .inl rfl | exact .inr rfl))
      (pss_cons (ps_par (i := 6) (j := 7) (by rfl) S_law.nd rfl rfl (by decide) (by rfl) (by rfl) (pa_cons (pe_lc (own := [("_law_pair", 12)]) rfl S_law.nd (kwU (K := K) rfl (pe_ix (kix (K := K) rfl) (pv 4) pe_int (fun _ _ => rfl))) (blkOk_by (own := [("_law_pair", 12)]) (N := N_law) (sc := defScope s_law) (by decide +kernel)) (fun _ _ _ _ _ => (pg_name (i := 12) S_law.nd rfl (by first | exact .inl rfl | exact .inr rfl))) (fun _ _ _ _ _ => pts_nil) (fun _ _ _ _ _ => (pe_ix (kix (K := K) rfl) (pv 12) (pv 5) (fun _ _ => rfl)))) (pa_cons (pe_lc (own := [("_law_pair", 12)]) rfl S_law.nd (kwU (K := K) rfl (pe_ix (kix (K := K) rfl) (pv 4) pe_int (fun _ _ => rfl))) (blkOk_by (own := [("_law_pair", 12)]) (N := N_law) (sc := defScope s_law) (by decide +kernel)) (fun _ _ _ _ _ => (pg_name (i := 12) S_law.nd rfl (by first | exact .inl rfl | exact .inr rfl))) (fun _ _ _ _ _ => pts_nil) (fun _ _ _ _ _ => (pe_ix (kix (K := K) rfl) (pv 12) (pv 5) (fun _ _ => rfl)))) pa_nil)) (by rfl))
      (pss_cons (ps_set (i := 8) S_law.nd rfl (by first | exact .inl rfl | exact .inr rfl) (pe_op op_cat (pe_callF G__law_held_one (hr.mono (by first | decide | omega)) (pa_cons (pv 6) pa_nil)) (pe_callF G__law_held_two (hr.mono (by first | decide | omega)) (pa_cons (pv 7) pa_nil))))
      (pss_cons (ps_if (PW.pt (pw_or (pt_not (pt_val (pe_callF G__law_same (hr.mono (by first | decide | omega)) (pa_cons (pv 8) (pa_cons (pe_op op_rep (pe_lst (pa_cons (pv 3) pa_nil)) (pe_callB (klen (K := K) rfl) (by rfl) T.n_len (by decide +kernel) (pa_cons (pv 8) pa_nil))) pa_nil))))) (pw_or1 (pt_cmpR op_ne (pe_callB (kany rfl (K := K) rfl) (by rfl) T.n_any (by decide +kernel) (pa_cons (pe_lc (own := [("_law_stay", 13)]) rfl S_law.nd (kwU (K := K) rfl (pv 8)) (blkOk_by (own := [("_law_stay", 13)]) (N := N_law) (sc := defScope s_law) (by decide +kernel)) (fun _ _ _ _ _ => (pg_name (i := 13) S_law.nd rfl (by first | exact .inl rfl | exact .inr rfl))) (fun _ _ _ _ _ => pts_nil) (fun _ _ _ _ _ => (pe_cmpR op_isN (pv 13) pe_non (nomark _)))) pa_nil)) (pe_cmpR op_isN (pv 3) pe_non (nomark _)) (nomark _))))) (pss_one (ps_ret pe_bl)) pss_nil)
      (pss_cons (ps_set (i := 9) S_law.nd rfl (by first | exact .inl rfl | exact .inr rfl) (pe_op op_cat (pe_op op_cat (pv 6) (pv 7)) (pe_lst (pa_cons (pe_ex0 (k := 0) T.S0_Nothing (hr.mono (by first | decide | omega)) (by rfl) T.g_Nothing T.n_super) pa_nil))))
      (pss_one (ps_for PassesOwn.never rfl (kenum (K := K) rfl (by rfl) T.n_enumerate (pa_cons (pv 9) pa_nil)) (kgt (K := K) (n := 2) rfl rfl (pgs_cons (pg_name (i := 10) S_law.nd rfl (by first | exact .inl rfl | exact .inr rfl)) (pgs_cons (pg_name (i := 11) S_law.nd rfl (by first | exact .inl rfl | exact .inr rfl)) pgs_nil)))
      (pss_cons (ps_if (PW.pt (pw_or (pt_not (pt_val (pe_callB (kisX (K := K) rfl) (by rfl) T.n_isinstance (by decide +kernel) (pa_cons (pv 11) (pa_cons (pe_glob (v := .ref (He.ga K "OfficeError")) (by rfl) T.g_OfficeError rfl) pa_nil))))) (pw_or1 (pt_not (pt_val (pe_callB (kisX (K := K) rfl) (by rfl) T.n_isinstance (by decide +kernel) (pa_cons (pv 11) (pa_cons (pe_bltn (v := .ty "ValueError") (by rfl) T.n_ValueError (by decide +kernel) rfl) pa_nil)))))))) (pss_one (ps_ret pe_bl)) pss_nil)
      (pss_one (ps_if (pt_cmpR (kneD (K := K) rfl hr.units) (pe_op op_cat (pe_callF G__law_is_these (hr.mono (by first | decide | omega)) (pa_cons (pv 11) pa_nil)) (pe_callF G__law_is_those (hr.mono (by first | decide | omega)) (pa_cons (pv 11) pa_nil))) (pe_lc (own := [("_law_k", 14)]) rfl S_law.nd (pi_range1 (by rfl) T.n_range (pa_cons (pe_callB (klen (K := K) rfl) (by rfl) T.n_len (by decide +kernel) (pa_cons (pv 9) pa_nil)) pa_nil)) (blkOk_by (own := [("_law_k", 14)]) (N := N_law) (sc := defScope s_law) (by decide +kernel)) (fun _ _ _ _ _ => (pg_name (i := 14) S_law.nd rfl (by first | exact .inl rfl | exact .inr rfl))) (fun _ _ _ _ _ => pts_nil) (fun _ _ _ _ _ => (pe_cmpR op_eq (pv 14) (pv 10) (nomark _)))) (nomark _)) (pss_one (ps_ret pe_bl)) pss_nil))))))))))))))))
      (pss_one (ps_ret (pe_not (pe_callB (kisB (K := K) rfl) (by rfl) T.n_isinstance (by decide +kernel) (pa_cons (pe_exb exb_ValueError (by rfl) T.n_ValueError boot_ValueError (pa_cons pe_str pa_nil)) (pa_cons (pe_glob (v := .ref (He.ga K "OfficeError")) (by rfl) T.g_OfficeError rfl) pa_nil))))))), fun ds Qd h => ?_⟩
  obtain ⟨ns, rfl, q⟩ := h
  have c9 : ∀ {n : Nat}, n ≤ 50 → n ≤ 100000 := fun h => by omega
  refine ws_seq <| ws_for <| ei_range1 <| ea_cons <| ew_op <| ew_int <| ew_cb <| ea_cons <| ew_cb <| ea_cons <| ew_var rfl <| ea_nil <| opa_len_scr <| ea_cons <| ew_int <| ea_nil <| opa_min <| op2_int <| ea_nil ⟨_, rfl, ?_, ?_, fun _ ρ => InvL ns ρ, ⟨_, _, _, _, _, _, _, _, _, _, _, rfl⟩, ?_, fun ρ' h => ?_⟩
  · split <;> omega
  · split <;> omega
  · rintro i d ρ' hd ⟨s1, s2, s3, s4, s5, s6, s7, s8, s9, s10, s11, rfl⟩
    obtain ⟨j, rfl⟩ : ∃ j : Nat, d = .int (j : Nat) := by
      rw [List.getElem?_map] at hd
      obtain ⟨j, hj, e⟩ := Option.map_eq_some_iff.mp hd
      exact ⟨j, by rw [← e, Int.zero_add]⟩
    refine gw_name <| ws_seq <| ws_asgD <| en_callN <| ea_cons <| ew_var rfl <| ea_cons <| ew_var rfl <| ea_nil ⟨ns, j, rfl, fun x y => ⟨x, y, 0, rfl, fun pd => ?_⟩⟩
    refine ws_mid (fun ρ' => (∃ d, XA d ∧ ρ' = [.sh (.scr ns), .sh (.int (j : Nat)), .drw pd, .sh d, s4, s5, s6, s7, s8, s9, s10, s11, .un, .un, .un]) ∨ ∃ p ds, XB ds ∧ ρ' = [.sh (.scr ns), .sh (.int (j : Nat)), .drw pd, .own p (.lst ds), s4, s5, s6, s7, s8, s9, s10, s11, .un, .un, .un]) ?_ ?_
    · refine ws_asgR <| er_iso rfl <| ew_callW (i := 2) (a := pd) rfl <| ea_cons <| ew_new <| en_lst <| ea_cons <| ew_non <| ea_cons <| ew_int <| ea_cons <| ew_un <| ew_int <| op1_neg <| ea_cons <| ew_str <| ea_cons <| ew_new <| en_lst <| ea_cons <| ew_var (i := 1) (d := .int (j : Nat)) rfl <| ea_nil ⟨c9 (by show 1 ≤ 50; decide), ?_⟩
      refine ea_cons <| ew_new <| en_lst <| ea_nil ⟨c9 (by show 0 ≤ 50; decide), ea_cons <| ew_tup <| ea_cons <| ew_int <| ea_cons <| ew_new <| en_lst <| ea_cons <| ew_int <| ea_nil ⟨c9 (by show 1 ≤ 50; decide), ea_nil ⟨c9 (by show 2 ≤ 50; decide), ?_⟩⟩⟩
      refine ea_cons <| ew_new <| en_disp1 <| ea_cons <| ew_bl <| ea_cons <| ew_op <| ew_int <| ew_int <| op2_intC ⟨by decide, by decide, by decide⟩ <| ea_nil ⟨c9 (by show 10 ≤ 50; decide), ea_nil ⟨rfl, _, _, rfl, rfl, by show 0 < 10; decide, by show 10 ≤ 100000; decide, ?_⟩⟩
      exact memc ⟨rfl, .inl ⟨_, ⟨.non, rfl, rfl⟩, rfl⟩⟩ <| memc ⟨rfl, .inl ⟨_, ⟨.int _, rfl, rfl⟩, rfl⟩⟩ <| memc ⟨rfl, .inl ⟨_, ⟨.int _, rfl, rfl⟩, rfl⟩⟩ <| memc ⟨rfl, .inl ⟨_, ⟨.str _, rfl, rfl⟩, rfl⟩⟩ <|
        memc ⟨rfl, fun p => .inr ⟨p, _, ⟨by show 1 ≤ 1; decide, memc ⟨_, rfl⟩ memn⟩, rfl⟩⟩ <| memc ⟨rfl, fun p => .inr ⟨p, _, ⟨by show 0 ≤ 1; decide, memn⟩, rfl⟩⟩ <|
        memc ⟨rfl, .inl ⟨_, ⟨.tup (by show 2 ≤ 1000; decide) (memc (.int _) (memc (.lst (by show 1 ≤ 1000; decide) (memc (.int _) memn)) memn)), rfl, rfl⟩, rfl⟩⟩ <| memc ⟨rfl, .inl ⟨_, ⟨.dk rfl, rfl, rfl⟩, rfl⟩⟩ <| memc ⟨rfl, .inl ⟨_, ⟨.bl _, rfl, rfl⟩, rfl⟩⟩ <| memc ⟨rfl, .inl ⟨_, ⟨.int _, rfl, rfl⟩, rfl⟩⟩ memn
    intro ρ' hC
    refine ws_mid3 (fun ρ' => ∃ v d, Pl 3 d ∧ ρ' = [.sh (.scr ns), .sh (.int (j : Nat)), .drw pd, .sh (.tag v d), .sh (pairsD (.raw v)), s5, s6, s7, s8, s9, s10, s11, .un, .un, .un]) ?_ ?_
    · rcases hC with ⟨d, ⟨hd1, hd2, hd3⟩, rfl⟩ | ⟨p, ds, hds, rfl⟩
      · refine ws_tag (i := 3) rfl fun v => ?_
        refine ws_asgN <| en_lst <| ea_cons <| ew_new <| en_callN <| ea_cons <| ew_rawT rfl <| ea_nil ⟨_, rfl, ea_cons <| ew_new <| en_callN <| ea_cons <| ew_rawT rfl <| ea_nil ⟨_, rfl, ea_nil ⟨c9 (by show 2 ≤ 50; decide), fun pp => ?_⟩⟩⟩
        refine ws_share (i := 4) rfl <| ws_if <| et_B <| ew_isi (by decide) <| ew_tagD rfl ⟨hd2, _, rfl, ?_⟩
        rw [hd3]
        exact iteF <| ws_next ⟨v, d, hd1, rfl⟩
      · refine ws_asgN <| en_lst <| ea_cons <| ew_new <| en_callN <| ea_cons <| ew_rawO rfl <| ea_nil ⟨_, rfl, ea_cons <| ew_new <| en_callN <| ea_cons <| ew_rawO rfl <| ea_nil ⟨_, rfl, ea_nil ⟨c9 (by show 2 ≤ 50; decide), fun pp => ?_⟩⟩⟩
        refine ws_share (i := 4) rfl <| ws_endT (i := 3) <| ws_if <| et_peek <| et_B <| ew_isi (by decide) <| ew_var rfl ⟨rfl, _, rfl, rfl, iteT ?_⟩
        exact ws_drop <| ew_append (a := p) rfl <| ew_str ⟨_, rfl, by have := hds.1; omega, _, _, rfl, _, _, xb_pl hds, rfl⟩
    rintro ρ' ⟨v, d, hpl, rfl⟩
    refine ws_for <| ei_range1 <| ea_cons <| ew_int <| ea_nil ⟨_, rfl, by decide, by decide, fun _ ρ => ∃ s5 s6 s7 s8 s9 s10 s11 : Sl, ρ = [.sh (.scr ns), .sh (.int (j : Nat)), .drw pd, .sh (.tag v d), .sh (pairsD (.raw v)), s5, s6, s7, s8, s9, s10, s11, .un, .un, .un], ⟨_, _, _, _, _, _, _, rfl⟩, ?_, fun ρ' h => ?_⟩
    · rintro i2 d2 ρ' hd2 ⟨s5, s6, s7, s8, s9, s10, s11, rfl⟩
      have hh : d2 = .int 0 ∨ d2 = .int 1 := by
        have h2 : i2 < 2 := by
          have := (List.getElem?_eq_some_iff.mp hd2).1
          simpa using this
        match i2, h2, hd2 with
        | 0, _, e => exact .inl (by cases e; rfl)
        | 1, _, e => exact .inr (by cases e; rfl)
      have hix : ∀ {x : D} {ρ : DL.Env} {Q : D → DL.Env → Prop}, Q x ρ → Op2 K (rIx K) (.tup [x, x]) d2 ρ Q := fun q => by
        rcases hh with rfl | rfl
        · exact op2_ixT rfl q
        · exact op2_ixT rfl q
      refine gw_name <| ws_seq <| ws_parNN (by decide) <| en_lcMt (fun c : Str × Str => D.tup [.exc c.1 [(c.2, .raw v)], .exc c.1 [(c.2, .raw v)]]) cs1 (fun c => D.exc c.1 [(c.2, .raw v)]) <| ei_seq (prD cs1 (.raw v)) rfl <| ew_op <| ew_var rfl <| ew_int <| op2_ixL rfl ⟨rfl, rfl, rfl, by show 22 ≤ 90000; decide, fun c hc => gv_name (by decide) <| ew_op <| ew_var rfl <| ew_var rfl <| hix ⟨rfl, rfl⟩, ?_⟩
      refine en_lcMt (fun c : Str × Str => D.tup [.exc c.1 [(c.2, .raw v)], .exc c.1 [(c.2, .raw v)]]) cs2 (fun c => D.exc c.1 [(c.2, .raw v)]) <| ei_seq (prD cs2 (.raw v)) rfl <| ew_op <| ew_var rfl <| ew_int <| op2_ixL rfl ⟨rfl, rfl, rfl, by show 22 ≤ 90000; decide, fun c hc => gv_name (by decide) <| ew_op <| ew_var rfl <| ew_var rfl <| hix ⟨rfl, rfl⟩, fun pl pr => ?_⟩
      refine ws_share (i := 6) rfl <| ws_share (i := 7) rfl <| ws_seq <| ws_asgN <| en_cat <| ew_new <| en_callN <| ea_cons <| ew_var rfl <| ea_nil ⟨_, rfl, ew_new <| en_callN <| ea_cons <| ew_var rfl <| ea_nil ⟨_, rfl, _, _, rfl, rfl, by show 22 + 22 ≤ 90000; decide, fun ph => ?_⟩⟩
      refine ws_share (i := 8) rfl <| ws_untag (i := 3) (j := 8) (v := v) (d := d) (n := 44) rfl rfl ?_
      refine ws_seq <| ws_ifn (C := True) (et_or <| et_not <| et_B <| ew_callP <| ea_cons <| ew_var rfl <| ea_cons <| ew_new <| en_rep <| ew_new <| en_lst <| ea_cons <| ew_tagD rfl <| ea_nil ⟨c9 (by show 1 ≤ 50; decide), ew_cb <| ea_cons <| ew_var rfl <| ea_nil <| opa_len rfl ⟨_, _, rfl, rfl, by show (0 : Int) ≤ 44; decide, by show (44 : Int) ≤ 1000; decide, by show 1 * 44 ≤ 90000; decide, ea_nil ⟨.lst (List.replicate 44 d), rfl, pl_rep hpl (by decide), _, rfl, iteF ?_⟩⟩⟩) fun _ => ?_
      · refine et_test <| ew_op <| ew_cb <| ea_cons <| ew_new <| en_lcB (f := D.isNon) <| ei_seq (.lst (List.replicate 44 d)) rfl <| ew_var rfl ⟨rfl, rfl, by show 44 ≤ 90000; decide, fun i y hy => gv_name (by decide) <| ew_op <| ew_var rfl <| ew_non <| op2_isN ⟨rfl, rfl⟩, ea_nil <| opa_any ?_⟩
        rw [any_rep]
        refine ew_op <| ew_tagD rfl <| ew_non <| op2_isN <| op2_ne_bl ⟨_, rfl, ?_⟩
        rw [decide_eq_true rfl]
        exact iteF ⟨rfl, trivial⟩
      refine ws_seq <| ws_asgN <| en_cat <| ew_new <| en_cat <| ew_var rfl <| ew_var rfl ⟨_, _, rfl, rfl, by show 22 + 22 ≤ 90000; decide, ew_new <| en_lst <| ea_cons <| ew_mkE0 <| ea_nil ⟨c9 (by show 1 ≤ 50; decide), _, _, rfl, rfl, by show 44 + 1 ≤ 90000; decide, fun pe => ?_⟩⟩
      refine ws_share (i := 9) (d := .lst (everyL (.raw v))) rfl <| ws_for <| ei_enum (.lst (everyL (.raw v))) rfl <| ea_cons <| ew_var rfl <| ea_nil ⟨rfl, fun _ ρ => ∃ s10 s11 : Sl, ρ = [.sh (.scr ns), .sh (.int (j : Nat)), .drw pd, .sh (.tag v d), .sh (pairsD (.raw v)), .sh d2, .sh (.lst (excsD cs1 (.raw v))), .sh (.lst (excsD cs2 (.raw v))), .sh (.lst (List.replicate 44 d)), .sh (.lst (everyL (.raw v))), s10, s11, .un, .un, .un], ⟨_, _, rfl⟩, ?_, fun ρ' h => ?_⟩
      · rintro n y ρ' hy ⟨s10, s11, rfl⟩
        obtain ⟨C, ps, rfl, hC⟩ := every_at hy
        have mC := List.mem_of_getElem? hC
        have he := T.ec C mC
        refine gw_tup rfl <| gws_cons <| gw_name <| gws_cons <| gw_name <| gws_nil ?_
        refine ws_seq <| ws_ifn (C := True) (et_or <| et_not <| et_B <| ew_isX (.own _) <| ew_var rfl ⟨C, ps, true, rfl, he, T.ko C mC, _, rfl, iteF <| et_not <| et_B <| ew_isX (.ty _) <| ew_var rfl ⟨C, ps, true, rfl, he, T.kv C mC, _, rfl, iteF ⟨rfl, trivial⟩⟩⟩) fun _ => ?_
        refine ws_ifn (C := True) (et_test <| ew_op <| ew_new <| en_cat <| ew_new <| en_callN <| ea_cons <| ew_var rfl <| ea_nil ⟨C, ps, rfl, mC, ew_new <| en_callN <| ea_cons <| ew_var rfl <| ea_nil ⟨C, ps, rfl, mC, _, _, rfl, rfl, by show 22 + 23 ≤ 90000; decide, ?_⟩⟩) fun _ => ⟨_, _, rfl⟩
        rw [names_eq hC]
        refine ew_new <| en_lcMt (fun k : Nat => D.int (0 + (k : Int))) (List.range 45) (fun k => D.bl (decide ((0 + (k : Int)) = (n : Int)))) <| ei_range1 <| ea_cons <| ew_cb <| ea_cons <| ew_var rfl <| ea_nil <| opa_len rfl <| ea_nil ⟨_, rfl, by show (-100000 : Int) ≤ 45; decide, by show (45 : Int) ≤ 100000; decide, rfl, rfl, by show 45 ≤ 90000; decide, fun k hk => gv_name (by decide) <| ew_op <| ew_var rfl <| ew_var rfl <| op2_eq_int ⟨rfl, rfl⟩, ?_⟩
        exact op2_neSelf (pyOk_bls _ _) (by decide) ⟨_, rfl, iteF ⟨rfl, trivial⟩⟩
      · obtain ⟨s10, s11, rfl⟩ := h
        exact ⟨_, _, _, _, _, _, _, rfl⟩
    · obtain ⟨s5, s6, s7, s8, s9, s10, s11, rfl⟩ := h
      exact ⟨_, _, _, _, _, _, _, _, _, _, _, rfl⟩
  · exact ws_ret <| ew_notV <| ew_isVE T.kb <| ea_cons <| ew_str <| ea_nil ⟨by show 1 ≤ 1000; decide, _, rfl, q⟩
end
end K87

set_option Elab.async false
set_option linter.all false
set_option maxRecDepth 100000
set_option maxHeartbeats 0
namespace K87
open PySem PySem.Spec PyProof.Rows L2 DL
theorem factsTX {w : World} {K : PySem.W.Frag} {h : Heap} {mg : Str → Option Value} (X : K.In h) (G : h.Ns mainGlobals mg) (c : He.SaysX HD.fa HD.fn [] HD.tf HD.ex w h K) : TX PySem.Challenge.pw_seatroads_k87_errors_made K mg := by
  have more := c.more
  simp only [HD.ex, HD.ex0, HD.ex1, HD.ex2, Bool.and_eq_true] at more
  exact {
    n_ValueError := He.free_ok X G (c.t.d.fact 57 (f := .free "ValueError") rfl)
    n_all := He.free_ok X G (c.t.d.fact 58 (f := .free "all") rfl)
    n_any := He.free_ok X G (c.t.d.fact 59 (f := .free "any") rfl)
    n_bool := He.free_ok X G (c.t.d.fact 60 (f := .free "bool") rfl)
    n_enumerate := He.free_ok X G (c.t.d.fact 61 (f := .free "enumerate") rfl)
    n_int := He.free_ok X G (c.t.d.fact 62 (f := .free "int") rfl)
    n_isinstance := He.free_ok X G (c.t.d.fact 63 (f := .free "isinstance") rfl)
    n_len := He.free_ok X G (c.t.d.fact 64 (f := .free "len") rfl)
    n_list := He.free_ok X G (c.t.d.fact 65 (f := .free "list") rfl)
    n_min := He.free_ok X G (c.t.d.fact 66 (f := .free "min") rfl)
    n_range := He.free_ok X G (c.t.d.fact 67 (f := .free "range") rfl)
    n_super := He.free_ok X G (c.t.d.fact 68 (f := .free "super") rfl)
    n_tuple := He.free_ok X G (c.t.d.fact 69 (f := .free "tuple") rfl)
    n_zip := He.free_ok X G (c.t.d.fact 70 (f := .free "zip") rfl)
    g__law_source := He.glo_ok X G (c.t.d.fact 0 (f := .glo "_law_source") rfl)
    g__law_draw := He.glo_ok X G (c.t.d.fact 1 (f := .glo "_law_draw") rfl)
    g__law_pick := He.glo_ok X G (c.t.d.fact 2 (f := .glo "_law_pick") rfl)
    g__law_same := He.glo_ok X G (c.t.d.fact 3 (f := .glo "_law_same") rfl)
    g__law_pairs_one := He.glo_ok X G (c.t.d.fact 4 (f := .glo "_law_pairs_one") rfl)
    g__law_pairs_two := He.glo_ok X G (c.t.d.fact 5 (f := .glo "_law_pairs_two") rfl)
    g__law_held_one := He.glo_ok X G (c.t.d.fact 6 (f := .glo "_law_held_one") rfl)
    g__law_held_two := He.glo_ok X G (c.t.d.fact 7 (f := .glo "_law_held_two") rfl)
    g__law_is_these := He.glo_ok X G (c.t.d.fact 8 (f := .glo "_law_is_these") rfl)
    g__law_is_those := He.glo_ok X G (c.t.d.fact 9 (f := .glo "_law_is_those") rfl)
    g_law := He.glo_ok X G (c.t.d.fact 10 (f := .glo "law") rfl)
    g_OfficeError := He.glo_ok X G (c.t.d.fact 11 (f := .glo "OfficeError") rfl)
    g_BadRank := He.glo_ok X G (c.t.d.fact 12 (f := .glo "BadRank") rfl)
    g_BadKind := He.glo_ok X G (c.t.d.fact 13 (f := .glo "BadKind") rfl)
    g_BadEvent := He.glo_ok X G (c.t.d.fact 14 (f := .glo "BadEvent") rfl)
    g_BadTime := He.glo_ok X G (c.t.d.fact 15 (f := .glo "BadTime") rfl)
    g_NoPerson := He.glo_ok X G (c.t.d.fact 16 (f := .glo "NoPerson") rfl)
    g_BadTruth := He.glo_ok X G (c.t.d.fact 17 (f := .glo "BadTruth") rfl)
    g_NoRoad := He.glo_ok X G (c.t.d.fact 18 (f := .glo "NoRoad") rfl)
    g_BadLetter := He.glo_ok X G (c.t.d.fact 19 (f := .glo "BadLetter") rfl)
    g_BadWishes := He.glo_ok X G (c.t.d.fact 20 (f := .glo "BadWishes") rfl)
    g_BadPerson := He.glo_ok X G (c.t.d.fact 21 (f := .glo "BadPerson") rfl)
    g_BadFree := He.glo_ok X G (c.t.d.fact 22 (f := .glo "BadFree") rfl)
    g_BadMatching := He.glo_ok X G (c.t.d.fact 23 (f := .glo "BadMatching") rfl)
    g_BadSide := He.glo_ok X G (c.t.d.fact 24 (f := .glo "BadSide") rfl)
    g_NotStable := He.glo_ok X G (c.t.d.fact 25 (f := .glo "NotStable") rfl)
    g_BadNumber := He.glo_ok X G (c.t.d.fact 26 (f := .glo "BadNumber") rfl)
    g_BadTurns := He.glo_ok X G (c.t.d.fact 27 (f := .glo "BadTurns") rfl)
    g_BadRow := He.glo_ok X G (c.t.d.fact 28 (f := .glo "BadRow") rfl)
    g_BadDeed := He.glo_ok X G (c.t.d.fact 29 (f := .glo "BadDeed") rfl)
    g_BadAccount := He.glo_ok X G (c.t.d.fact 30 (f := .glo "BadAccount") rfl)
    g_BadName := He.glo_ok X G (c.t.d.fact 31 (f := .glo "BadName") rfl)
    g_BadFloor := He.glo_ok X G (c.t.d.fact 32 (f := .glo "BadFloor") rfl)
    g_BadBooks := He.glo_ok X G (c.t.d.fact 33 (f := .glo "BadBooks") rfl)
    g_BadFee := He.glo_ok X G (c.t.d.fact 34 (f := .glo "BadFee") rfl)
    g_BadHearing := He.glo_ok X G (c.t.d.fact 35 (f := .glo "BadHearing") rfl)
    g_BadHoldings := He.glo_ok X G (c.t.d.fact 36 (f := .glo "BadHoldings") rfl)
    g_BadItem := He.glo_ok X G (c.t.d.fact 37 (f := .glo "BadItem") rfl)
    g_NotFeasible := He.glo_ok X G (c.t.d.fact 38 (f := .glo "NotFeasible") rfl)
    g_BadCoins := He.glo_ok X G (c.t.d.fact 39 (f := .glo "BadCoins") rfl)
    g_BadDebts := He.glo_ok X G (c.t.d.fact 40 (f := .glo "BadDebts") rfl)
    g_NoMember := He.glo_ok X G (c.t.d.fact 41 (f := .glo "NoMember") rfl)
    g_NotPayments := He.glo_ok X G (c.t.d.fact 42 (f := .glo "NotPayments") rfl)
    g_NotFailing := He.glo_ok X G (c.t.d.fact 43 (f := .glo "NotFailing") rfl)
    g_BadHolds := He.glo_ok X G (c.t.d.fact 44 (f := .glo "BadHolds") rfl)
    g_BadWay := He.glo_ok X G (c.t.d.fact 45 (f := .glo "BadWay") rfl)
    g_BadOutcome := He.glo_ok X G (c.t.d.fact 46 (f := .glo "BadOutcome") rfl)
    g_BadHall := He.glo_ok X G (c.t.d.fact 47 (f := .glo "BadHall") rfl)
    g_NotAsked := He.glo_ok X G (c.t.d.fact 48 (f := .glo "NotAsked") rfl)
    g_BadTable := He.glo_ok X G (c.t.d.fact 49 (f := .glo "BadTable") rfl)
    g_BadComer := He.glo_ok X G (c.t.d.fact 50 (f := .glo "BadComer") rfl)
    g_BadCounts := He.glo_ok X G (c.t.d.fact 51 (f := .glo "BadCounts") rfl)
    g_BadBook := He.glo_ok X G (c.t.d.fact 52 (f := .glo "BadBook") rfl)
    g_BadPeople := He.glo_ok X G (c.t.d.fact 53 (f := .glo "BadPeople") rfl)
    g_BadRule := He.glo_ok X G (c.t.d.fact 54 (f := .glo "BadRule") rfl)
    g_BadText := He.glo_ok X G (c.t.d.fact 55 (f := .glo "BadText") rfl)
    g_Nothing := He.glo_ok X G (c.t.d.fact 56 (f := .glo "Nothing") rfl)
    S_BadRank := EXS.supB_ok (fun _ _ _ _ _ _ _ _ _ _ _ _ _ _ _ _ => rfl) more.2.1.1
    xf_BadRank := xfB_ok more.2.1.2.1
    xn_BadRank := He.eqO_ok more.2.1.2.2.1
    S_BadKind := EXS.supB_ok (fun _ _ _ _ _ _ _ _ _ _ _ _ _ _ _ _ => rfl) more.2.1.2.2.2.1
    xf_BadKind := xfB_ok more.2.1.2.2.2.2.1
    xn_BadKind := He.eqO_ok more.2.1.2.2.2.2.2.1
    S_BadEvent := EXS.supB_ok (fun _ _ _ _ _ _ _ _ _ _ _ _ _ _ _ _ => rfl) more.2.1.2.2.2.2.2.2.1
    xf_BadEvent := xfB_ok more.2.1.2.2.2.2.2.2.2.1
    xn_BadEvent := He.eqO_ok more.2.1.2.2.2.2.2.2.2.2.1
    S_BadTime := EXS.supB_ok (fun _ _ _ _ _ _ _ _ _ _ _ _ _ _ _ _ => rfl) more.2.1.2.2.2.2.2.2.2.2.2.1
    xf_BadTime := xfB_ok more.2.1.2.2.2.2.2.2.2.2.2.2.1
    xn_BadTime := He.eqO_ok more.2.1.2.2.2.2.2.2.2.2.2.2.2.1
    S_NoPerson := EXS.supB_ok (fun _ _ _ _ _ _ _ _ _ _ _ _ _ _ _ _ => rfl) more.2.1.2.2.2.2.2.2.2.2.2.2.2.2.1
    xf_NoPerson := xfB_ok more.2.1.2.2.2.2.2.2.2.2.2.2.2.2.2.1
    xn_NoPerson := He.eqO_ok more.2.1.2.2.2.2.2.2.2.2.2.2.2.2.2.2.1
    S_BadTruth := EXS.supB_ok (fun _ _ _ _ _ _ _ _ _ _ _ _ _ _ _ _ => rfl) more.2.1.2.2.2.2.2.2.2.2.2.2.2.2.2.2.2.1
    xf_BadTruth := xfB_ok more.2.1.2.2.2.2.2.2.2.2.2.2.2.2.2.2.2.2.1
    xn_BadTruth := He.eqO_ok more.2.1.2.2.2.2.2.2.2.2.2.2.2.2.2.2.2.2.2.1
    S_NoRoad := EXS.supB_ok (fun _ _ _ _ _ _ _ _ _ _ _ _ _ _ _ _ => rfl) more.2.1.2.2.2.2.2.2.2.2.2.2.2.2.2.2.2.2.2.2.1
    xf_NoRoad := xfB_ok more.2.1.2.2.2.2.2.2.2.2.2.2.2.2.2.2.2.2.2.2.2.1
    xn_NoRoad := He.eqO_ok more.2.1.2.2.2.2.2.2.2.2.2.2.2.2.2.2.2.2.2.2.2.2.1
    S_BadLetter := EXS.supB_ok (fun _ _ _ _ _ _ _ _ _ _ _ _ _ _ _ _ => rfl) more.2.1.2.2.2.2.2.2.2.2.2.2.2.2.2.2.2.2.2.2.2.2.2.1
    xf_BadLetter := xfB_ok more.2.1.2.2.2.2.2.2.2.2.2.2.2.2.2.2.2.2.2.2.2.2.2.2.1
    xn_BadLetter := He.eqO_ok more.2.1.2.2.2.2.2.2.2.2.2.2.2.2.2.2.2.2.2.2.2.2.2.2.2.1
    S_BadWishes := EXS.supB_ok (fun _ _ _ _ _ _ _ _ _ _ _ _ _ _ _ _ => rfl) more.2.1.2.2.2.2.2.2.2.2.2.2.2.2.2.2.2.2.2.2.2.2.2.2.2.2.1
    xf_BadWishes := xfB_ok more.2.1.2.2.2.2.2.2.2.2.2.2.2.2.2.2.2.2.2.2.2.2.2.2.2.2.2.1
    xn_BadWishes := He.eqO_ok more.2.1.2.2.2.2.2.2.2.2.2.2.2.2.2.2.2.2.2.2.2.2.2.2.2.2.2.2.1
    S_BadPerson := EXS.supB_ok (fun _ _ _ _ _ _ _ _ _ _ _ _ _ _ _ _ => rfl) more.2.1.2.2.2.2.2.2.2.2.2.2.2.2.2.2.2.2.2.2.2.2.2.2.2.2.2.2.2.1
    xf_BadPerson := xfB_ok more.2.1.2.2.2.2.2.2.2.2.2.2.2.2.2.2.2.2.2.2.2.2.2.2.2.2.2.2.2.2.1
    xn_BadPerson := He.eqO_ok more.2.1.2.2.2.2.2.2.2.2.2.2.2.2.2.2.2.2.2.2.2.2.2.2.2.2.2.2.2.2.2.1
    S_BadFree := EXS.supB_ok (fun _ _ _ _ _ _ _ _ _ _ _ _ _ _ _ _ => rfl) more.2.1.2.2.2.2.2.2.2.2.2.2.2.2.2.2.2.2.2.2.2.2.2.2.2.2.2.2.2.2.2.2.1
    xf_BadFree := xfB_ok more.2.1.2.2.2.2.2.2.2.2.2.2.2.2.2.2.2.2.2.2.2.2.2.2.2.2.2.2.2.2.2.2.2.1
    xn_BadFree := He.eqO_ok more.2.1.2.2.2.2.2.2.2.2.2.2.2.2.2.2.2.2.2.2.2.2.2.2.2.2.2.2.2.2.2.2.2.2.1
    S_BadMatching := EXS.supB_ok (fun _ _ _ _ _ _ _ _ _ _ _ _ _ _ _ _ => rfl) more.2.1.2.2.2.2.2.2.2.2.2.2.2.2.2.2.2.2.2.2.2.2.2.2.2.2.2.2.2.2.2.2.2.2.2.1
    xf_BadMatching := xfB_ok more.2.1.2.2.2.2.2.2.2.2.2.2.2.2.2.2.2.2.2.2.2.2.2.2.2.2.2.2.2.2.2.2.2.2.2.2.1
    xn_BadMatching := He.eqO_ok more.2.1.2.2.2.2.2.2.2.2.2.2.2.2.2.2.2.2.2.2.2.2.2.2.2.2.2.2.2.2.2.2.2.2.2.2.2.1
    S_BadSide := EXS.supB_ok (fun _ _ _ _ _ _ _ _ _ _ _ _ _ _ _ _ => rfl) more.2.1.2.2.2.2.2.2.2.2.2.2.2.2.2.2.2.2.2.2.2.2.2.2.2.2.2.2.2.2.2.2.2.2.2.2.2.2.1
    xf_BadSide := xfB_ok more.2.1.2.2.2.2.2.2.2.2.2.2.2.2.2.2.2.2.2.2.2.2.2.2.2.2.2.2.2.2.2.2.2.2.2.2.2.2.2.1
    xn_BadSide := He.eqO_ok more.2.1.2.2.2.2.2.2.2.2.2.2.2.2.2.2.2.2.2.2.2.2.2.2.2.2.2.2.2.2.2.2.2.2.2.2.2.2.2.2.1
    S_NotStable := EXS.supB_ok (fun _ _ _ _ _ _ _ _ _ _ _ _ _ _ _ _ => rfl) more.2.1.2.2.2.2.2.2.2.2.2.2.2.2.2.2.2.2.2.2.2.2.2.2.2.2.2.2.2.2.2.2.2.2.2.2.2.2.2.2.2.1
    xf_NotStable := xfB_ok more.2.1.2.2.2.2.2.2.2.2.2.2.2.2.2.2.2.2.2.2.2.2.2.2.2.2.2.2.2.2.2.2.2.2.2.2.2.2.2.2.2.2.1
    xn_NotStable := He.eqO_ok more.2.1.2.2.2.2.2.2.2.2.2.2.2.2.2.2.2.2.2.2.2.2.2.2.2.2.2.2.2.2.2.2.2.2.2.2.2.2.2.2.2.2.2.1
    S_BadNumber := EXS.supB_ok (fun _ _ _ _ _ _ _ _ _ _ _ _ _ _ _ _ => rfl) more.2.1.2.2.2.2.2.2.2.2.2.2.2.2.2.2.2.2.2.2.2.2.2.2.2.2.2.2.2.2.2.2.2.2.2.2.2.2.2.2.2.2.2.2.1
    xf_BadNumber := xfB_ok more.2.1.2.2.2.2.2.2.2.2.2.2.2.2.2.2.2.2.2.2.2.2.2.2.2.2.2.2.2.2.2.2.2.2.2.2.2.2.2.2.2.2.2.2.2.1
    xn_BadNumber := He.eqO_ok more.2.1.2.2.2.2.2.2.2.2.2.2.2.2.2.2.2.2.2.2.2.2.2.2.2.2.2.2.2.2.2.2.2.2.2.2.2.2.2.2.2.2.2.2.2.2.1
    S_BadTurns := EXS.supB_ok (fun _ _ _ _ _ _ _ _ _ _ _ _ _ _ _ _ => rfl) more.2.1.2.2.2.2.2.2.2.2.2.2.2.2.2.2.2.2.2.2.2.2.2.2.2.2.2.2.2.2.2.2.2.2.2.2.2.2.2.2.2.2.2.2.2.2.2.1
    xf_BadTurns := xfB_ok more.2.1.2.2.2.2.2.2.2.2.2.2.2.2.2.2.2.2.2.2.2.2.2.2.2.2.2.2.2.2.2.2.2.2.2.2.2.2.2.2.2.2.2.2.2.2.2.2.1
    xn_BadTurns := He.eqO_ok more.2.1.2.2.2.2.2.2.2.2.2.2.2.2.2.2.2.2.2.2.2.2.2.2.2.2.2.2.2.2.2.2.2.2.2.2.2.2.2.2.2.2.2.2.2.2.2.2.2.1
    S_BadRow := EXS.supB_ok (fun _ _ _ _ _ _ _ _ _ _ _ _ _ _ _ _ => rfl) more.2.1.2.2.2.2.2.2.2.2.2.2.2.2.2.2.2.2.2.2.2.2.2.2.2.2.2.2.2.2.2.2.2.2.2.2.2.2.2.2.2.2.2.2.2.2.2.2.2.2.1
    xf_BadRow := xfB_ok more.2.1.2.2.2.2.2.2.2.2.2.2.2.2.2.2.2.2.2.2.2.2.2.2.2.2.2.2.2.2.2.2.2.2.2.2.2.2.2.2.2.2.2.2.2.2.2.2.2.2.2.1
    xn_BadRow := He.eqO_ok more.2.1.2.2.2.2.2.2.2.2.2.2.2.2.2.2.2.2.2.2.2.2.2.2.2.2.2.2.2.2.2.2.2.2.2.2.2.2.2.2.2.2.2.2.2.2.2.2.2.2.2.2.1
    S_BadDeed := EXS.supB_ok (fun _ _ _ _ _ _ _ _ _ _ _ _ _ _ _ _ => rfl) more.2.1.2.2.2.2.2.2.2.2.2.2.2.2.2.2.2.2.2.2.2.2.2.2.2.2.2.2.2.2.2.2.2.2.2.2.2.2.2.2.2.2.2.2.2.2.2.2.2.2.2.2.2.1
    xf_BadDeed := xfB_ok more.2.1.2.2.2.2.2.2.2.2.2.2.2.2.2.2.2.2.2.2.2.2.2.2.2.2.2.2.2.2.2.2.2.2.2.2.2.2.2.2.2.2.2.2.2.2.2.2.2.2.2.2.2.2.1
    xn_BadDeed := He.eqO_ok more.2.1.2.2.2.2.2.2.2.2.2.2.2.2.2.2.2.2.2.2.2.2.2.2.2.2.2.2.2.2.2.2.2.2.2.2.2.2.2.2.2.2.2.2.2.2.2.2.2.2.2.2.2.2.2.1
    S_BadAccount := EXS.supB_ok (fun _ _ _ _ _ _ _ _ _ _ _ _ _ _ _ _ => rfl) more.2.1.2.2.2.2.2.2.2.2.2.2.2.2.2.2.2.2.2.2.2.2.2.2.2.2.2.2.2.2.2.2.2.2.2.2.2.2.2.2.2.2.2.2.2.2.2.2.2.2.2.2.2.2.2.2.1
    xf_BadAccount := xfB_ok more.2.1.2.2.2.2.2.2.2.2.2.2.2.2.2.2.2.2.2.2.2.2.2.2.2.2.2.2.2.2.2.2.2.2.2.2.2.2.2.2.2.2.2.2.2.2.2.2.2.2.2.2.2.2.2.2.2.1
    xn_BadAccount := He.eqO_ok more.2.1.2.2.2.2.2.2.2.2.2.2.2.2.2.2.2.2.2.2.2.2.2.2.2.2.2.2.2.2.2.2.2.2.2.2.2.2.2.2.2.2.2.2.2.2.2.2.2.2.2.2.2.2.2.2.2.2.1
    S_BadName := EXS.supB_ok (fun _ _ _ _ _ _ _ _ _ _ _ _ _ _ _ _ => rfl) more.2.1.2.2.2.2.2.2.2.2.2.2.2.2.2.2.2.2.2.2.2.2.2.2.2.2.2.2.2.2.2.2.2.2.2.2.2.2.2.2.2.2.2.2.2.2.2.2.2.2.2.2.2.2.2.2.2.2.2.1
    xf_BadName := xfB_ok more.2.1.2.2.2.2.2.2.2.2.2.2.2.2.2.2.2.2.2.2.2.2.2.2.2.2.2.2.2.2.2.2.2.2.2.2.2.2.2.2.2.2.2.2.2.2.2.2.2.2.2.2.2.2.2.2.2.2.2.2.1
    xn_BadName := He.eqO_ok more.2.1.2.2.2.2.2.2.2.2.2.2.2.2.2.2.2.2.2.2.2.2.2.2.2.2.2.2.2.2.2.2.2.2.2.2.2.2.2.2.2.2.2.2.2.2.2.2.2.2.2.2.2.2.2.2.2.2.2.2.2.1
    S_BadFloor := EXS.supB_ok (fun _ _ _ _ _ _ _ _ _ _ _ _ _ _ _ _ => rfl) more.2.1.2.2.2.2.2.2.2.2.2.2.2.2.2.2.2.2.2.2.2.2.2.2.2.2.2.2.2.2.2.2.2.2.2.2.2.2.2.2.2.2.2.2.2.2.2.2.2.2.2.2.2.2.2.2.2.2.2.2.2.2.1
    xf_BadFloor := xfB_ok more.2.1.2.2.2.2.2.2.2.2.2.2.2.2.2.2.2.2.2.2.2.2.2.2.2.2.2.2.2.2.2.2.2.2.2.2.2.2.2.2.2.2.2.2.2.2.2.2.2.2.2.2.2.2.2.2.2.2.2.2.2.2.2.1
    xn_BadFloor := He.eqO_ok more.2.1.2.2.2.2.2.2.2.2.2.2.2.2.2.2.2.2.2.2.2.2.2.2.2.2.2.2.2.2.2.2.2.2.2.2.2.2.2.2.2.2.2.2.2.2.2.2.2.2.2.2.2.2.2.2.2.2.2.2.2.2.2.2.1
    S_BadBooks := EXS.supB_ok (fun _ _ _ _ _ _ _ _ _ _ _ _ _ _ _ _ => rfl) more.2.1.2.2.2.2.2.2.2.2.2.2.2.2.2.2.2.2.2.2.2.2.2.2.2.2.2.2.2.2.2.2.2.2.2.2.2.2.2.2.2.2.2.2.2.2.2.2.2.2.2.2.2.2.2.2.2.2.2.2.2.2.2.2.2.1
    xf_BadBooks := xfB_ok more.2.1.2.2.2.2.2.2.2.2.2.2.2.2.2.2.2.2.2.2.2.2.2.2.2.2.2.2.2.2.2.2.2.2.2.2.2.2.2.2.2.2.2.2.2.2.2.2.2.2.2.2.2.2.2.2.2.2.2.2.2.2.2.2.2.2.1
    xn_BadBooks := He.eqO_ok more.2.1.2.2.2.2.2.2.2.2.2.2.2.2.2.2.2.2.2.2.2.2.2.2.2.2.2.2.2.2.2.2.2.2.2.2.2.2.2.2.2.2.2.2.2.2.2.2.2.2.2.2.2.2.2.2.2.2.2.2.2.2.2.2.2.2.2.1
    S_BadFee := EXS.supB_ok (fun _ _ _ _ _ _ _ _ _ _ _ _ _ _ _ _ => rfl) more.2.1.2.2.2.2.2.2.2.2.2.2.2.2.2.2.2.2.2.2.2.2.2.2.2.2.2.2.2.2.2.2.2.2.2.2.2.2.2.2.2.2.2.2.2.2.2.2.2.2.2.2.2.2.2.2.2.2.2.2.2.2.2.2.2.2.2.2.1
    xf_BadFee := xfB_ok more.2.1.2.2.2.2.2.2.2.2.2.2.2.2.2.2.2.2.2.2.2.2.2.2.2.2.2.2.2.2.2.2.2.2.2.2.2.2.2.2.2.2.2.2.2.2.2.2.2.2.2.2.2.2.2.2.2.2.2.2.2.2.2.2.2.2.2.2.2.1
    xn_BadFee := He.eqO_ok more.2.1.2.2.2.2.2.2.2.2.2.2.2.2.2.2.2.2.2.2.2.2.2.2.2.2.2.2.2.2.2.2.2.2.2.2.2.2.2.2.2.2.2.2.2.2.2.2.2.2.2.2.2.2.2.2.2.2.2.2.2.2.2.2.2.2.2.2.2.2
    S_BadHearing := EXS.supB_ok (fun _ _ _ _ _ _ _ _ _ _ _ _ _ _ _ _ => rfl) more.2.2.1
    xf_BadHearing := xfB_ok more.2.2.2.1
    xn_BadHearing := He.eqO_ok more.2.2.2.2.1
    S_BadHoldings := EXS.supB_ok (fun _ _ _ _ _ _ _ _ _ _ _ _ _ _ _ _ => rfl) more.2.2.2.2.2.1
    xf_BadHoldings := xfB_ok more.2.2.2.2.2.2.1
    xn_BadHoldings := He.eqO_ok more.2.2.2.2.2.2.2.1
    S_BadItem := EXS.supB_ok (fun _ _ _ _ _ _ _ _ _ _ _ _ _ _ _ _ => rfl) more.2.2.2.2.2.2.2.2.1
    xf_BadItem := xfB_ok more.2.2.2.2.2.2.2.2.2.1
    xn_BadItem := He.eqO_ok more.2.2.2.2.2.2.2.2.2.2.1
    S_NotFeasible := EXS.supB_ok (fun _ _ _ _ _ _ _ _ _ _ _ _ _ _ _ _ => rfl) more.2.2.2.2.2.2.2.2.2.2.2.1
    xf_NotFeasible := xfB_ok more.2.2.2.2.2.2.2.2.2.2.2.2.1
    xn_NotFeasible := He.eqO_ok more.2.2.2.2.2.2.2.2.2.2.2.2.2.1
    S_BadCoins := EXS.supB_ok (fun _ _ _ _ _ _ _ _ _ _ _ _ _ _ _ _ => rfl) more.2.2.2.2.2.2.2.2.2.2.2.2.2.2.1
    xf_BadCoins := xfB_ok more.2.2.2.2.2.2.2.2.2.2.2.2.2.2.2.1
    xn_BadCoins := He.eqO_ok more.2.2.2.2.2.2.2.2.2.2.2.2.2.2.2.2.1
    S_BadDebts := EXS.supB_ok (fun _ _ _ _ _ _ _ _ _ _ _ _ _ _ _ _ => rfl) more.2.2.2.2.2.2.2.2.2.2.2.2.2.2.2.2.2.1
    xf_BadDebts := xfB_ok more.2.2.2.2.2.2.2.2.2.2.2.2.2.2.2.2.2.2.1
    xn_BadDebts := He.eqO_ok more.2.2.2.2.2.2.2.2.2.2.2.2.2.2.2.2.2.2.2.1
    S_NoMember := EXS.supB_ok (fun _ _ _ _ _ _ _ _ _ _ _ _ _ _ _ _ => rfl) more.2.2.2.2.2.2.2.2.2.2.2.2.2.2.2.2.2.2.2.2.1
    xf_NoMember := xfB_ok more.2.2.2.2.2.2.2.2.2.2.2.2.2.2.2.2.2.2.2.2.2.1
    xn_NoMember := He.eqO_ok more.2.2.2.2.2.2.2.2.2.2.2.2.2.2.2.2.2.2.2.2.2.2.1
    S_NotPayments := EXS.supB_ok (fun _ _ _ _ _ _ _ _ _ _ _ _ _ _ _ _ => rfl) more.2.2.2.2.2.2.2.2.2.2.2.2.2.2.2.2.2.2.2.2.2.2.2.1
    xf_NotPayments := xfB_ok more.2.2.2.2.2.2.2.2.2.2.2.2.2.2.2.2.2.2.2.2.2.2.2.2.1
    xn_NotPayments := He.eqO_ok more.2.2.2.2.2.2.2.2.2.2.2.2.2.2.2.2.2.2.2.2.2.2.2.2.2.1
    S_NotFailing := EXS.supB_ok (fun _ _ _ _ _ _ _ _ _ _ _ _ _ _ _ _ => rfl) more.2.2.2.2.2.2.2.2.2.2.2.2.2.2.2.2.2.2.2.2.2.2.2.2.2.2.1
    xf_NotFailing := xfB_ok more.2.2.2.2.2.2.2.2.2.2.2.2.2.2.2.2.2.2.2.2.2.2.2.2.2.2.2.1
    xn_NotFailing := He.eqO_ok more.2.2.2.2.2.2.2.2.2.2.2.2.2.2.2.2.2.2.2.2.2.2.2.2.2.2.2.2.1
    S_BadHolds := EXS.supB_ok (fun _ _ _ _ _ _ _ _ _ _ _ _ _ _ _ _ => rfl) more.2.2.2.2.2.2.2.2.2.2.2.2.2.2.2.2.2.2.2.2.2.2.2.2.2.2.2.2.2.1
    xf_BadHolds := xfB_ok more.2.2.2.2.2.2.2.2.2.2.2.2.2.2.2.2.2.2.2.2.2.2.2.2.2.2.2.2.2.2.1
    xn_BadHolds := He.eqO_ok more.2.2.2.2.2.2.2.2.2.2.2.2.2.2.2.2.2.2.2.2.2.2.2.2.2.2.2.2.2.2.2.1
    S_BadWay := EXS.supB_ok (fun _ _ _ _ _ _ _ _ _ _ _ _ _ _ _ _ => rfl) more.2.2.2.2.2.2.2.2.2.2.2.2.2.2.2.2.2.2.2.2.2.2.2.2.2.2.2.2.2.2.2.2.1
    xf_BadWay := xfB_ok more.2.2.2.2.2.2.2.2.2.2.2.2.2.2.2.2.2.2.2.2.2.2.2.2.2.2.2.2.2.2.2.2.2.1
    xn_BadWay := He.eqO_ok more.2.2.2.2.2.2.2.2.2.2.2.2.2.2.2.2.2.2.2.2.2.2.2.2.2.2.2.2.2.2.2.2.2.2.1
    S_BadOutcome := EXS.supB_ok (fun _ _ _ _ _ _ _ _ _ _ _ _ _ _ _ _ => rfl) more.2.2.2.2.2.2.2.2.2.2.2.2.2.2.2.2.2.2.2.2.2.2.2.2.2.2.2.2.2.2.2.2.2.2.2.1
    xf_BadOutcome := xfB_ok more.2.2.2.2.2.2.2.2.2.2.2.2.2.2.2.2.2.2.2.2.2.2.2.2.2.2.2.2.2.2.2.2.2.2.2.2.1
    xn_BadOutcome := He.eqO_ok more.2.2.2.2.2.2.2.2.2.2.2.2.2.2.2.2.2.2.2.2.2.2.2.2.2.2.2.2.2.2.2.2.2.2.2.2.2.1
    S_BadHall := EXS.supB_ok (fun _ _ _ _ _ _ _ _ _ _ _ _ _ _ _ _ => rfl) more.2.2.2.2.2.2.2.2.2.2.2.2.2.2.2.2.2.2.2.2.2.2.2.2.2.2.2.2.2.2.2.2.2.2.2.2.2.2.1
    xf_BadHall := xfB_ok more.2.2.2.2.2.2.2.2.2.2.2.2.2.2.2.2.2.2.2.2.2.2.2.2.2.2.2.2.2.2.2.2.2.2.2.2.2.2.2.1
    xn_BadHall := He.eqO_ok more.2.2.2.2.2.2.2.2.2.2.2.2.2.2.2.2.2.2.2.2.2.2.2.2.2.2.2.2.2.2.2.2.2.2.2.2.2.2.2.2.1
    S_NotAsked := EXS.supB_ok (fun _ _ _ _ _ _ _ _ _ _ _ _ _ _ _ _ => rfl) more.2.2.2.2.2.2.2.2.2.2.2.2.2.2.2.2.2.2.2.2.2.2.2.2.2.2.2.2.2.2.2.2.2.2.2.2.2.2.2.2.2.1
    xf_NotAsked := xfB_ok more.2.2.2.2.2.2.2.2.2.2.2.2.2.2.2.2.2.2.2.2.2.2.2.2.2.2.2.2.2.2.2.2.2.2.2.2.2.2.2.2.2.2.1
    xn_NotAsked := He.eqO_ok more.2.2.2.2.2.2.2.2.2.2.2.2.2.2.2.2.2.2.2.2.2.2.2.2.2.2.2.2.2.2.2.2.2.2.2.2.2.2.2.2.2.2.2.1
    S_BadTable := EXS.supB_ok (fun _ _ _ _ _ _ _ _ _ _ _ _ _ _ _ _ => rfl) more.2.2.2.2.2.2.2.2.2.2.2.2.2.2.2.2.2.2.2.2.2.2.2.2.2.2.2.2.2.2.2.2.2.2.2.2.2.2.2.2.2.2.2.2.1
    xf_BadTable := xfB_ok more.2.2.2.2.2.2.2.2.2.2.2.2.2.2.2.2.2.2.2.2.2.2.2.2.2.2.2.2.2.2.2.2.2.2.2.2.2.2.2.2.2.2.2.2.2.1
    xn_BadTable := He.eqO_ok more.2.2.2.2.2.2.2.2.2.2.2.2.2.2.2.2.2.2.2.2.2.2.2.2.2.2.2.2.2.2.2.2.2.2.2.2.2.2.2.2.2.2.2.2.2.2.1
    S_BadComer := EXS.supB_ok (fun _ _ _ _ _ _ _ _ _ _ _ _ _ _ _ _ => rfl) more.2.2.2.2.2.2.2.2.2.2.2.2.2.2.2.2.2.2.2.2.2.2.2.2.2.2.2.2.2.2.2.2.2.2.2.2.2.2.2.2.2.2.2.2.2.2.2.1
    xf_BadComer := xfB_ok more.2.2.2.2.2.2.2.2.2.2.2.2.2.2.2.2.2.2.2.2.2.2.2.2.2.2.2.2.2.2.2.2.2.2.2.2.2.2.2.2.2.2.2.2.2.2.2.2.1
    xn_BadComer := He.eqO_ok more.2.2.2.2.2.2.2.2.2.2.2.2.2.2.2.2.2.2.2.2.2.2.2.2.2.2.2.2.2.2.2.2.2.2.2.2.2.2.2.2.2.2.2.2.2.2.2.2.2.1
    S_BadCounts := EXS.supB_ok (fun _ _ _ _ _ _ _ _ _ _ _ _ _ _ _ _ => rfl) more.2.2.2.2.2.2.2.2.2.2.2.2.2.2.2.2.2.2.2.2.2.2.2.2.2.2.2.2.2.2.2.2.2.2.2.2.2.2.2.2.2.2.2.2.2.2.2.2.2.2.1
    xf_BadCounts := xfB_ok more.2.2.2.2.2.2.2.2.2.2.2.2.2.2.2.2.2.2.2.2.2.2.2.2.2.2.2.2.2.2.2.2.2.2.2.2.2.2.2.2.2.2.2.2.2.2.2.2.2.2.2.1
    xn_BadCounts := He.eqO_ok more.2.2.2.2.2.2.2.2.2.2.2.2.2.2.2.2.2.2.2.2.2.2.2.2.2.2.2.2.2.2.2.2.2.2.2.2.2.2.2.2.2.2.2.2.2.2.2.2.2.2.2.2.1
    S_BadBook := EXS.supB_ok (fun _ _ _ _ _ _ _ _ _ _ _ _ _ _ _ _ => rfl) more.2.2.2.2.2.2.2.2.2.2.2.2.2.2.2.2.2.2.2.2.2.2.2.2.2.2.2.2.2.2.2.2.2.2.2.2.2.2.2.2.2.2.2.2.2.2.2.2.2.2.2.2.2.1
    xf_BadBook := xfB_ok more.2.2.2.2.2.2.2.2.2.2.2.2.2.2.2.2.2.2.2.2.2.2.2.2.2.2.2.2.2.2.2.2.2.2.2.2.2.2.2.2.2.2.2.2.2.2.2.2.2.2.2.2.2.2.1
    xn_BadBook := He.eqO_ok more.2.2.2.2.2.2.2.2.2.2.2.2.2.2.2.2.2.2.2.2.2.2.2.2.2.2.2.2.2.2.2.2.2.2.2.2.2.2.2.2.2.2.2.2.2.2.2.2.2.2.2.2.2.2.2.1
    S_BadPeople := EXS.supB_ok (fun _ _ _ _ _ _ _ _ _ _ _ _ _ _ _ _ => rfl) more.2.2.2.2.2.2.2.2.2.2.2.2.2.2.2.2.2.2.2.2.2.2.2.2.2.2.2.2.2.2.2.2.2.2.2.2.2.2.2.2.2.2.2.2.2.2.2.2.2.2.2.2.2.2.2.2.1
    xf_BadPeople := xfB_ok more.2.2.2.2.2.2.2.2.2.2.2.2.2.2.2.2.2.2.2.2.2.2.2.2.2.2.2.2.2.2.2.2.2.2.2.2.2.2.2.2.2.2.2.2.2.2.2.2.2.2.2.2.2.2.2.2.2.1
    xn_BadPeople := He.eqO_ok more.2.2.2.2.2.2.2.2.2.2.2.2.2.2.2.2.2.2.2.2.2.2.2.2.2.2.2.2.2.2.2.2.2.2.2.2.2.2.2.2.2.2.2.2.2.2.2.2.2.2.2.2.2.2.2.2.2.2.1
    S_BadRule := EXS.supB_ok (fun _ _ _ _ _ _ _ _ _ _ _ _ _ _ _ _ => rfl) more.2.2.2.2.2.2.2.2.2.2.2.2.2.2.2.2.2.2.2.2.2.2.2.2.2.2.2.2.2.2.2.2.2.2.2.2.2.2.2.2.2.2.2.2.2.2.2.2.2.2.2.2.2.2.2.2.2.2.2.1
    xf_BadRule := xfB_ok more.2.2.2.2.2.2.2.2.2.2.2.2.2.2.2.2.2.2.2.2.2.2.2.2.2.2.2.2.2.2.2.2.2.2.2.2.2.2.2.2.2.2.2.2.2.2.2.2.2.2.2.2.2.2.2.2.2.2.2.2.1
    xn_BadRule := He.eqO_ok more.2.2.2.2.2.2.2.2.2.2.2.2.2.2.2.2.2.2.2.2.2.2.2.2.2.2.2.2.2.2.2.2.2.2.2.2.2.2.2.2.2.2.2.2.2.2.2.2.2.2.2.2.2.2.2.2.2.2.2.2.2.1
    S_BadText := EXS.supB_ok (fun _ _ _ _ _ _ _ _ _ _ _ _ _ _ _ _ => rfl) more.2.2.2.2.2.2.2.2.2.2.2.2.2.2.2.2.2.2.2.2.2.2.2.2.2.2.2.2.2.2.2.2.2.2.2.2.2.2.2.2.2.2.2.2.2.2.2.2.2.2.2.2.2.2.2.2.2.2.2.2.2.2.1
    xf_BadText := xfB_ok more.2.2.2.2.2.2.2.2.2.2.2.2.2.2.2.2.2.2.2.2.2.2.2.2.2.2.2.2.2.2.2.2.2.2.2.2.2.2.2.2.2.2.2.2.2.2.2.2.2.2.2.2.2.2.2.2.2.2.2.2.2.2.2.1
    xn_BadText := He.eqO_ok more.2.2.2.2.2.2.2.2.2.2.2.2.2.2.2.2.2.2.2.2.2.2.2.2.2.2.2.2.2.2.2.2.2.2.2.2.2.2.2.2.2.2.2.2.2.2.2.2.2.2.2.2.2.2.2.2.2.2.2.2.2.2.2.2.1
    S0_Nothing := EXS.supB0_ok more.2.2.2.2.2.2.2.2.2.2.2.2.2.2.2.2.2.2.2.2.2.2.2.2.2.2.2.2.2.2.2.2.2.2.2.2.2.2.2.2.2.2.2.2.2.2.2.2.2.2.2.2.2.2.2.2.2.2.2.2.2.2.2.2.2.1
    ec := fun C hC => EXS.ecB_ok (List.all_eq_true.mp more.2.2.2.2.2.2.2.2.2.2.2.2.2.2.2.2.2.2.2.2.2.2.2.2.2.2.2.2.2.2.2.2.2.2.2.2.2.2.2.2.2.2.2.2.2.2.2.2.2.2.2.2.2.2.2.2.2.2.2.2.2.2.2.2.2.2.1 C hC)
    km := EXS.kmB_ok more.2.2.2.2.2.2.2.2.2.2.2.2.2.2.2.2.2.2.2.2.2.2.2.2.2.2.2.2.2.2.2.2.2.2.2.2.2.2.2.2.2.2.2.2.2.2.2.2.2.2.2.2.2.2.2.2.2.2.2.2.2.2.2.2.2.2.2.1
    ko := fun C hC => of_decide_eq_true (List.all_eq_true.mp more.2.2.2.2.2.2.2.2.2.2.2.2.2.2.2.2.2.2.2.2.2.2.2.2.2.2.2.2.2.2.2.2.2.2.2.2.2.2.2.2.2.2.2.2.2.2.2.2.2.2.2.2.2.2.2.2.2.2.2.2.2.2.2.2.2.2.2.2.1 C hC)
    kv := fun C hC => of_decide_eq_true (List.all_eq_true.mp more.2.2.2.2.2.2.2.2.2.2.2.2.2.2.2.2.2.2.2.2.2.2.2.2.2.2.2.2.2.2.2.2.2.2.2.2.2.2.2.2.2.2.2.2.2.2.2.2.2.2.2.2.2.2.2.2.2.2.2.2.2.2.2.2.2.2.2.2.2.1 C hC)
    kb := of_decide_eq_true more.2.2.2.2.2.2.2.2.2.2.2.2.2.2.2.2.2.2.2.2.2.2.2.2.2.2.2.2.2.2.2.2.2.2.2.2.2.2.2.2.2.2.2.2.2.2.2.2.2.2.2.2.2.2.2.2.2.2.2.2.2.2.2.2.2.2.2.2.2.2
    F__law_source := c.t.d.def_ 0 (d := HD.d__law_source) rfl
    F__law_draw := c.t.d.def_ 1 (d := HD.d__law_draw) rfl
    F__law_pick := c.t.d.def_ 2 (d := HD.d__law_pick) rfl
    F__law_same := c.t.d.def_ 3 (d := HD.d__law_same) rfl
    F__law_pairs_one := c.t.d.def_ 4 (d := HD.d__law_pairs_one) rfl
    F__law_pairs_two := c.t.d.def_ 5 (d := HD.d__law_pairs_two) rfl
    F__law_held_one := c.t.d.def_ 6 (d := HD.d__law_held_one) rfl
    F__law_held_two := c.t.d.def_ 7 (d := HD.d__law_held_two) rfl
    F__law_is_these := c.t.d.def_ 8 (d := HD.d__law_is_these) rfl
    F__law_is_those := c.t.d.def_ 9 (d := HD.d__law_is_those) rfl
    F_law := c.t.d.def_ 10 (d := HD.d_law) rfl }
end K87
open PySem PySem.W PySem.Calls PyProof.Rows
theorem PySem.Challenge.cw_seatroads_k87_errors_made_holds : PySem.Challenge.rw_seatroads_k87_errors_made.Holds := by
  w_on; o_law
  refine HandSHeadRun.head_any (r := OpenLaw.row PySem.Challenge.rw_seatroads_k87_errors_made) (q := view (OpenLaw.row PySem.Challenge.rw_seatroads_k87_errors_made).prog [58]) (H := HD.hk) (ob := HD.ob) (M := 30000) (loose := HD.loose) (d := HandSHeadRun.topDef (OpenLaw.row PySem.Challenge.rw_seatroads_k87_errors_made).prog 58) (kwd := []) HD.ob_eq
    (by kernel_rfl) (fun s => by kernel_rfl) HD.run (by kernel_rfl) (by kernel_rfl) (by kernel_rfl) (by rfl) (by first | assumption | decide +kernel) (by decide +kernel) ⟨rfl, rfl, rfl, rfl, rfl, by decide +kernel⟩ ?hw ?hc
  case hw => w_witness2
  case hc =>
    refine L2.walk_ofE (l := PySem.Challenge.rw_seatroads_k87_errors_made) (n := 63) (k := 9) (x := "_law_script") (CX := L2.CX0) rfl (by decide) (by kernel_rfl) ⟨rfl, by decide, by decide⟩ ?F (fun _ _ _ _ z => z)
    intro w mg fa h Y G hmg0
    obtain ⟨K, KX, c⟩ := Y
    have hmg : mg ("law" : PySem.Str) = some (.ref fa) := by
      have e : (HandSHeadRun.topDef (OpenLaw.row PySem.Challenge.rw_seatroads_k87_errors_made).prog 58).name = ("law" : PySem.Str) := by kernel_rfl
      rw [← e]
      exact hmg0
    have T := K87.factsTX KX G c
    obtain ⟨fd, F⟩ := T.F_law
    have e := hmg.symm.trans T.g_law
    cases e
    have b := L2.FunD.bindsA (ps := ["_law_script"]) F fun _ _ _ _ _ _ us hl => match us, hl with | [_], _ => rfl
    exact ⟨K, fd, DL.spP K K87.TLaw, KX, fun s v => b s [v] rfl, fun H a ns hl _ hS => ⟨fun _ => none, H, [.scr ns], fun d => d = .bl true, ⟨fun _ _ z => (nomatch z), DL.Ex.refl H, fun _ _ z => (nomatch z), fun _ _ z => (nomatch z), fun _ z => (nomatch z)⟩, .cons (.scr hS) .nil, ⟨ns, rfl, rfl⟩, fun v d G' H' e W r q => by subst q; exact DL.rep_bl r⟩, fun base _ _ => K87.ok_law F T⟩

