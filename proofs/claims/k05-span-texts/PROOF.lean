import PyProof.Rows.All
import HandS.ExcInit
import KE.KExcSuper
import Wide.All
import OpenK.AllK
import Wide.FinOn
import HandS.ForMost
import HandS.Wide
import HandS.Exc
import HandS.ExcOwn
import HandS.TupAny
import HandS.IsInst
import HandS.Replace
import HandS.Zip
import KE.GoesMore
import HandS.Style
import KE.KOpsOwn
import HandS.OwnEq
import HandS.MakeKwOnly
import HandS.HeadHook2
import HandS.HeadEnd
import HandS.Codes
import HandS.Head2
import HandS.ExcField
import HandS.MakeKw
import KE.KStateDown
import HandS.FStr
import HandS.Dict
import HandS.RaiseMore
import PySem.Challenge.RW_looptimes_k05_span_texts
import KE.IntTextText
import HandS.Head0
import HandS.Head1
set_option Elab.async false
set_option linter.all false
set_option maxRecDepth 100000
set_option maxHeartbeats 4000000
/-! def __init__(self, n): super().__init__(n); self.n = n  of an own exception over ValueError -/
namespace Mi
open PySem PySem.W PySem.Calls PyProof.Rows PySem.Spec
section
variable {prog : Program} {w : World} {A : Around} {E : Value → Shared → Prop} {hp base : Heap} {g : Array GenState} {d : Drawn} {t : Nat} {os : OsState} {K : Frag} {mg : Str → Option Value}

/-- the wrapper of ValueError.__init__ called -/
theorem xi_call {u x C t0 : Addr} {rest : List Value} {Q : Value → Shared → Prop} (T : L2.OexC K C) (X : K.In hp) (hu : hp.get? u = some (kxs_mw "ValueError.__init__" x)) (hx : hp.get? x = some (excObj C t0 none .none)) (hz : rest.length ≤ sizeLine)
    (h : ∀ h' t1, (∀ b o, b ≠ x → hp.get? b = some o → h'.get? b = some o) → h'.get? x = some (excObj C t1 none .none) → Q .none ⟨h', g, d, t, os⟩) :
    wpAny (model prog w) A (call (.ref u) rest) Q E ⟨hp, g, d, t, os⟩ := by
  obtain ⟨nm, q, N, bs, bm, sn, sub, ab, col, dd, k0, k1, k2, k3, k5, hC, hbm⟩ := T.cls
  have FB := F.excBase_ValueError
  refine wpAny_call (codeAny_of_tree ?_)
  show wpAny _ A.in1 (callAny (.ref u) ⟨rest, []⟩) _ _ _
  simp only [callAny]
  refine wpAny_bind (wpAny_load hu ?_)
  simp only [kxs_mw, show (Value.type "method-wrapper" == Value.type "method" || Value.type "method-wrapper" == Value.type "builtin_function_or_method" || Value.type "method-wrapper" == Value.type "method-wrapper") = true by decide, if_true]
  refine KFB.if_so (by decide) ?_
  refine wpAny_bind (check_bound_init FB.toExcCallFacts (X _ _ hC) hx rfl ?_)
  refine wpAny_bind (wpAny_pure (wpAny_pure ?_))
  refine ⟨plainId_quiet FB.init.plain _, codeAny_builtin FB.initEntry ?_⟩
  exact exc_init_tree (cls := .ref C) (t0 := t0) (dv := none) (c2 := .none) (c3 := .none) (b4 := .bool false) hx hz fun h' k e _ => h h' _ k e

theorem xi_callWith1 {M : Model} {i : String} {u x : Addr} {s : Shared} {pos : Pos} {env : Env} {e : Expr} {rest : List Expr} {Q : Value → Shared → Prop}
    (h : wpAny M A (spliced (backTo pos (starEach (e :: rest) env))) (fun vs s₁ => KxsAt i u x s₁.heap ∧ wpAny M A (call (.ref u) vs) Q E s₁) E s)
    (he : starEach (e :: rest) env = (false, eval e env) :: starEach rest env := by rfl) (hplain : (backTo pos (starEach rest env)).any (·.1) = false := by rfl) :
    wpAny M A (callWith pos (.ref u) [] (backTo pos (starEach (e :: rest) env)) []) Q E s := by
  rw [he] at h ⊢
  refine kxs_callWith (i := i) (x := x) (by show (false || (backTo pos (starEach rest env)).any (·.1)) = false; rw [hplain]; rfl) ?_
  exact evalArgs_plain h

/-- the body, as it is written -/
def xiBody (n : Str) (p0 p1 p2 p3 p4 p5 p6 p7 p8 p9 : Pos) : List Stmt :=
  [.Expr (.Call (.Attribute (.Call (.Name "super" p0) [] [] p1) "__init__" p2) [.Name n p3] [] p4) p5, .Assign [.Attribute (.Name "self" p6) n p7] (.Name n p8) p9]

/-- what a kernel's reckoning says of the body's shape at its frame -/
structure XiEv (env : Env) (pl : Sem Bool) (n : Str) (p0 p1 p2 p3 p4 p5 p6 p7 p8 p9 : Pos) : Prop where
  ev : eval (.Call (.Attribute (.Call (.Name "super" p0) [] [] p1) "__init__" p2) [.Name n p3] [] p4) env = (do
      let ov ← attributeBase (.Call (.Name "super" p0) [] [] p1) "__init__" env (eval (.Call (.Name "super" p0) [] [] p1) env)
      standAt p2.atName
      let (f, first) ← holding [ov] (getMethod ov "__init__" pl)
      callWith p4 f first (backTo p4 (starEach [.Name n p3] env)) [])
  int : interactive env = false
  sw1 : swapsWith (.Call (.Attribute (.Call (.Name "super" p0) [] [] p1) "__init__" p2) [.Name n p3] [] p4) none p5.line env = pure false
  sw2 : swapsWith (.Name n p8) (some (.Attribute (.Name "self" p6) n p7)) p9.line env = pure false

theorem xi_run {R : Result → Shared → Prop} {f C cda cc a t0 : Addr} {n name qual : Str} {params : Arguments} {scope : Scope} {dV kV doc pm ct oc ccl cl u : Value} {an od cdd cld : Option Addr} {osl ccs csl : Array (Option Value)} {vs : Array Value} {file : Str} {tf : Tok} {ar : Arg} {args : Args} {p0 p1 p2 p3 p4 p5 p6 p7 p8 p9 : Pos}
    (T : L2.OexC K C) (X : K.In hp) (lim : hp.NoLimit) (md : L2.Mod K mg base) (bk : ∀ b o, base.get? b = some o → hp.get? b = some o) (hroom : A.depth < recursionLimit)
    (lk : K.lookup f = some ⟨oc, od, .func (fnX name qual params (xiBody n p0 p1 p2 p3 p4 p5 p6 p7 p8 p9) scope [("__class__", cc)] dV kV doc pm an (.ref cda) ct), osl⟩)
    (hcd : codeIn K (.ref cda) qual = true) (hpar : (params.posonlyargs ++ params.args).head? = some ar) (har : ar.arg = "self")
    (hcode : K.lookup cda = some ⟨ccl, cdd, .fields vs, ccs⟩) (hvs : vs[2]? = some (.str file tf)) (hfile : ((prog.main.file : Str) == file) = true)
    (hcell : K.lookup cc = some ⟨cl, cld, .cell (some (.ref C)), csl⟩) (hsub : mroIn K C (.ref C) = some true) (hsup : ks_superIn K C C "__init__" = some (some (.builtin "ValueError.__init__"))) (hB : subIn K (.ref C) (.type "ValueError") = some true)
    (hop : nsIn K cStatics "thirdparty.any" = some none) (hms : mg "super" = none)
    (hks : scope.names.lookup ("super" : Str) = some .globalImplicit) (hkc : scope.names.lookup ("__class__" : Str) = some .free) (hka : scope.names.lookup ("self" : Str) = some .local) (hkn : scope.names.lookup n = some .local)
    (hk : scope.kind = .function) (hnc : ∀ x ∈ scope.names, x.2 ≠ .cell) (hco : scope.isCoroutine = false) (hgen : scope.isGenerator = false)
    (htop : (prog.main.scope.names.lookup ("super" : Str)).isSome = false) (hboot : bootBuiltins "super" = some (.type "super"))
    (hns : n ≠ "self") (hnd : (n == ("__debug__" : Str)) = false) (hno : findIn K (.ref C) n = some none)
    (ha : hp.get? a = some (excObj C t0 none .none)) (hKa : K.lookup a = none)
    (hb : BindsTo ⟨hp, g, d, t, os⟩ (fnX name qual params (xiBody n p0 p1 p2 p3 p4 p5 p6 p7 p8 p9) scope [("__class__", cc)] dV kV doc pm an (.ref cda) ct) args [("self", .ref a), (n, u)])
    (hev : ∀ L : Addr, ∃ pl : Sem Bool, XiEv (callEnv (fnX name qual params (xiBody n p0 p1 p2 p3 p4 p5 p6 p7 p8 p9) scope [("__class__", cc)] dV kV doc pm an (.ref cda) ct) L f) pl n p0 p1 p2 p3 p4 p5 p6 p7 p8 p9)
    (hq : ∀ h' tk' dx t1, (∀ b o, b ≠ a → hp.get? b = some o → h'.get? b = some o) → hp.objs.size ≤ dx → dx ≠ a → h'.get? a = some { cls := .ref C, dict := some dx, data := .fields #[.ref t1, .none, .none, .none, .bool false, .none] } →
      h'.Ns1 dx (fun y => if y = n then some u else none) → R (.ok (.ret .none)) ⟨h', g, d, tk', os⟩) :
    codeAny (model prog w) A (.call (.ref f) args) R ⟨hp, g, d, t, os⟩ := by
  obtain ⟨nm, q, N, bs, bm, sn, sub, ab, col, dd, k0, k1, k2, k3, k5, hC, hbm⟩ := T.cls
  have hcl : clsIn K C = some { name := nm, bases := bs, mro := .ref C :: bm, ns := N, qualname := q, hasDict := true, slotNames := sn, subclasses := sub, abstract := ab, collection := col, hasDel := false } := by unfold clsIn; rw [hC] <;> rfl
  have hsup' : alongIn K "__init__" (((Value.ref C :: bm).dropWhile (· != .ref C)).drop 1) = some (some (.builtin "ValueError.__init__")) := by
    unfold ks_superIn at hsup
    rw [hcl] at hsup
    exact hsup
  have hal : a < hp.objs.size := Heap.lt_size ha
  refine ks_codeAny_call_defAt (body := xiBody n p0 p1 p2 p3 p4 p5 p6 p7 p8 p9) hroom (X _ _ lk) rfl lim (codeRec_of X hcd) rfl hb hnc (fun y hy => ?_) (fun h0 ns k0' => ?_) hco hgen hk
  · rcases List.mem_cons.mp hy with rfl | hy
    · exact hka
    · rcases List.mem_cons.mp hy with rfl | hy
      · exact hkn
      · cases hy
  have X0 : K.In h0 := X.keeps k0'
  have ha0 := k0' _ _ ha
  obtain ⟨mb, hb1, hb2⟩ := md.blt
  have hself : ∀ (m : Str → Option Value), m = (fun x => ([("self", Value.ref a), (n, u)] : List (Str × Value)).reverse.lookup x) → m "self" = some (.ref a) ∧ m n = some u := fun m e => by
    subst e
    have e1 : (("self" : Str) == n) = false := by simpa using Ne.symm hns
    constructor
    · show List.lookup ("self" : Str) [(n, u), ("self", Value.ref a)] = _
      simp [List.lookup, e1]
    · show List.lookup n [(n, u), ("self", Value.ref a)] = _
      simp [List.lookup]
  obtain ⟨ms, mn⟩ := hself _ rfl
  obtain ⟨pl, hev⟩ := hev hp.objs.size
  refine ks_wpAt_execs_cons (ks_wpAt_Expr_any (ks_wpAt_MethodCall (pl := pl) ?_ hev.ev) hev.int hev.sw1)
  refine ks_wpAt_super_base hks hkc (by decide) rfl (X0 _ _ lk) rfl hpar rfl (X0 _ _ hcode) rfl hvs hfile htop ?_
  refine ks_loadName_global hk hks (loadGlobal_builtin (md.glob.keeps fun b o e => k0' _ _ (bk b o e)) hms (hb1.keeps fun b o e => k0' _ _ (bk b o e)) ((hb2 _ (by decide +kernel)).trans hboot) ⟨rfl, ?_⟩)
  refine wpAny_loadName_free hk hkc rfl ⟨_, X0 _ _ hcell, rfl⟩ ?_
  rw [har]
  refine wpAny_loadName_local hk hka ns ms ?_
  refine ks_wpAny_isType_cls (X0 _ _ hC) rfl ⟨rfl, ?_⟩
  refine ks_wpAny_call_super (X0 _ _ hC) rfl ha0 rfl (fun c e => by cases e) (looks_mroIn X0 hsub) (fun h1 e1 k1 => ?_)
  have X1 : K.In h1 := X0.keeps k1
  have I1 : InstAt h1 a (excObj C t0 none .none) C none := ⟨k1 _ _ ha0, rfl, rfl, trivial⟩
  refine kxs_getMethod kxs_ValueError e1 (looks_opaque X1 hop) (l₀ := .ref C :: bm) ((looks_clsIn X1 hcl).andThen .now) rfl X1 hsup' (I1.type.andThen (looks_subIn X1 hB)) (ks_ne X1 I1 hcl) (by decide) ?_
  have k2' : ∀ b o, h1.get? b = some o → (h1.push (kxs_mw "ValueError.__init__" a)).get? b = some o := fun b o e => Heap.get?_push_of_some _ e
  have eu : (h1.push (kxs_mw "ValueError.__init__" a)).get? h1.objs.size = some (kxs_mw "ValueError.__init__" a) := Heap.get?_push_at rfl rfl
  refine xi_callWith1 (i := "ValueError.__init__") (x := a) (spliced_more ?_)
  have k12 : ∀ b o, h0.get? b = some o → (h1.push (kxs_mw "ValueError.__init__" a)).get? b = some o := fun b o e => k2' _ _ (k1 _ _ e)
  refine wpAny_Name (wpAny_loadName_local hk hkn (ns.keeps k12) mn (spliced_none ⟨eu, ?_⟩)) hnd
  refine xi_call T (X0.keeps k12) eu (k12 _ _ ha0) (by rw [sizeLine_eq]; show 1 ≤ _; omega) fun h3 t1 k3' e3 => ?_
  have k03 : ∀ b o, b ≠ a → h0.get? b = some o → h3.get? b = some o := fun b o nb e => k3' b o nb (k12 _ _ e)
  have X3 : K.In h3 := fun b o e => k03 b o (fun z => by
    rw [z] at e
    have e : K.lookup a = some o := e
    rw [hKa] at e
    cases e) (X0 _ _ e)
  have hLa : hp.objs.size ≠ a := Nat.ne_of_gt hal
  have ns3 : h3.Ns hp.objs.size (fun x => ([("self", Value.ref a), (n, u)] : List (Str × Value)).reverse.lookup x) := by
    obtain ⟨oL, es, ep, hL, r⟩ := ns
    exact ⟨oL, es, ep, k03 _ _ hLa hL, r⟩
  refine ks_wpAt_execs_cons (wpAt_of_wpAny (plainObj_wpAny_Assign_Attribute ?_ hev.sw2))
  refine wpAny_Name (wpAny_loadName_local hk hkn ns3 mn ?_) hnd
  refine wpAny_Name (wpAny_loadName_local hk hka ns3 ms ?_) (by decide)
  refine set_plain X3 (ox := excObj C t1 none .none) (od := none) ⟨e3, rfl, rfl, trivial⟩ T.sa ?_
  refine PySem.HandSPX.exc_osa X3 e3 hcl (show PySem.HandSPX.refsVE (.ref C :: bm) = true from hbm) rfl hno (fun h' tk' dx k dn dne hx hn => ?_)
  refine wpAt_of_wpAny (wpAny_execs_nil ?_)
  exact hq h' tk' dx t1 (fun b o nb e => k b o nb (k03 b o nb (k0' _ _ e))) (Nat.le_trans (Nat.le_of_lt (by
    obtain ⟨oL, es, ep, hL, r⟩ := ns3
    exact Heap.lt_size hL)) dn) dne hx hn
end
open L2 (FnOk Un HOk upd upd_ne upd_same exo exd exo_at exo_ok exd_ok exo_tup exo_frz exo_tbl exo_own at_ne ne_of_none relO_put V RelV Vals)
/-- what __init__ keeps -/
def xiSp (C : Addr) (n : Str) : L2.Sp := fun vs H Q _ => ∃ (a : Addr) (y : V), vs = [.ref a, y] ∧ H a = some (exo a C none) ∧ ∀ dx, H dx = none → dx ≠ a → Q .non (upd (upd H dx (exd dx [(n, y)])) a (exo a C (some dx)))
/-- the facts of the written part -/
structure XiK (prog : Program) (K : Frag) (mg : Str → Option Value) (f C : Addr) (n : Str) (fd : FuncData) : Prop where
  run : ∀ {w : World} {A : Around} {base hp : Heap} {g : Array GenState} {d : Drawn} {t : Nat} {os : OsState} {R : Result → Shared → Prop} {a t0 : Addr} {u : Value} {args : Args}, K.In hp → hp.NoLimit → L2.Mod K mg base → (∀ b o, base.get? b = some o → hp.get? b = some o) → A.depth < recursionLimit →
    hp.get? a = some (excObj C t0 none .none) → K.lookup a = none → BindsTo ⟨hp, g, d, t, os⟩ fd args [("self", .ref a), (n, u)] →
    (∀ h' tk' dx t1, (∀ b o, b ≠ a → hp.get? b = some o → h'.get? b = some o) → hp.objs.size ≤ dx → dx ≠ a → h'.get? a = some { cls := .ref C, dict := some dx, data := .fields #[.ref t1, .none, .none, .none, .bool false, .none] } →
      h'.Ns1 dx (fun y => if y = n then some u else none) → R (.ok (.ret .none)) ⟨h', g, d, tk', os⟩) →
    codeAny (model prog w) A (.call (.ref f) args) R ⟨hp, g, d, t, os⟩
theorem fn_xinit {CX : L2.CXT} {P : Program} {w : World} {K : Frag} {mg : Str → Option Value} {base : Heap} {k : Nat} {f C : Addr} {n : Str} {fd : FuncData} (xk : XiK P K mg f C n fd) : FnOk P w K mg base CX (k + 1) f fd ["self", n] (xiSp C n) := by
  refine ⟨fun vs H Q E z => ?_, fun A outer s H args us vs Q E hr e0 hb r hsp => ?_⟩
  · obtain ⟨a, y, rfl, _⟩ := z
    rfl
  obtain ⟨a, y, rfl, e, hq⟩ := hsp
  obtain ⟨u, rfl, ry⟩ : ∃ u, us = [.ref a, u] ∧ RelV y u := by
    cases r with
    | cons r1 r2 => cases r2 with
      | cons r3 r4 => cases r4; exact ⟨_, by rw [show _ = Value.ref a from r1], r3⟩
  have KX : K.In s.heap := e0.mod.kin.keeps fun b o e => (e0.bs b o e).1
  have lim : s.heap.NoLimit := e0.mod.nolimit.keeps fun b o e => (e0.bs b o e).1
  have nK : K.lookup a = none := by
    cases z : K.lookup a with
    | none => rfl
    | some o =>
      have y := (e0.bs _ _ (e0.mod.kin _ _ z)).2
      rw [e] at y
      cases y
  obtain ⟨t0, ho⟩ := exo_at e0.hok e
  obtain ⟨hp, g, d, t, os⟩ := s
  refine xk.run KX lim e0.mod (fun b o z => (e0.bs b o z).1) hr.depth ho nK hb fun h' tk' dx t1 k dn dne hx hn => ?_
  have hnd : H dx = none := e0.hok.fresh dn
  have nd : ∀ {b : Addr} {o : Obj}, hp.get? b = some o → b ≠ dx := fun {b o} q => Nat.ne_of_lt (Nat.lt_of_lt_of_le (Heap.lt_size q) dn)
  have na : ∀ {b : Addr}, H b = none → b ≠ a := fun {b} n z => by
    rw [z, e] at n
    cases n
  refine ⟨.non, _, rfl, e0.bare, ?_, ?_, rfl, hq dx hnd dne⟩
  · exact {
      keep := fun b o q n _ _ => k b o (na n) q
      slot := fun b o q n _ _ => ⟨o.slots, k b o (na n) q⟩
      free := fun b o q n _ => by rw [upd_ne (na n), upd_ne (nd q)]; exact n
      there := fun b o q _ => by
        by_cases hb : b = a
        · exact ⟨_, by rw [hb]; exact hx⟩
        · exact ⟨o, k b o hb q⟩
      tups := fun b xs q => by rw [upd_ne (at_ne e q exo_tup), upd_ne (ne_of_none q hnd)]; exact q
      frzs := fun b o v q => by rw [upd_ne (at_ne e q exo_frz), upd_ne (ne_of_none q hnd)]; exact q
      tbls := fun b ps q => ⟨#[], by rw [upd_ne (at_ne e q exo_tbl), upd_ne (ne_of_none q hnd), q]; simp⟩ }
  · intro b o q
    by_cases hb : b = a
    · subst hb
      rw [upd_same] at q
      cases q
      exact exo_ok hx
    · rw [upd_ne hb] at q
      by_cases hd : b = dx
      · subst hd
        rw [upd_same] at q
        cases q
        exact exd_ok hn (relO_put (fs := []) ry fun g => True.intro)
      · rw [upd_ne hd] at q
        exact (e0.hok b o q).stay (fun c v hc z => k c v (by
            rcases hc with hc | hc
            · rw [hc]
              exact hb
            · exact at_ne e hc exo_own) z)
          (fun c hc => by rw [upd_ne (at_ne e hc exo_own), upd_ne (ne_of_none hc hnd)]; exact hc) (fun c xs hc => by rw [upd_ne (at_ne e hc exo_tup), upd_ne (ne_of_none hc hnd)]; exact hc)
end Mi
set_option maxHeartbeats 4000000
/-! the facts of an exception's __init__, as a Bool of the written part -/
namespace Mi
open PySem PySem.W PySem.Calls PySem.Spec PyProof.Rows
theorem xiEv_of {env : Env} {n : Str} {p0 p1 p2 p3 p4 p5 p6 p7 p8 p9 : Pos} (hk : env.scope.kind = .function) (hl : (p2.endLine == p4.line) = true) : ∃ pl, XiEv env pl n p0 p1 p2 p3 p4 p5 p6 p7 p8 p9 := by
  refine ⟨(do return (← importBound (.Call (.Name "super" p0) [] [] p1) env).getD true), ?_, ?_, rfl, rfl⟩
  · rw [arm_eval_Call]
    have hf : methodCallForm 1 (backTo p4 (starEach [.Name n p3] env)) [] = true := rfl
    have hf' : methodCallForm ([Expr.Name n p3].length + ([] : List Keyword).length) (backTo p4 (starEach [.Name n p3] env)) (backToKw p4 (keywordEach [] env)) = true := rfl
    unfold methodCall methodCallPos calleeOf
    simp only [hf', hl, Bool.not_true, Bool.false_or, if_true, pure_bind]
    rfl
  · unfold interactive
    rw [hk]
    rfl
/-- an own class over ValueError -/
def oexB (K : Frag) (C : Addr) : Bool := (match K.lookup C with
  | some ⟨.type "type", _, .cls cd, sl⟩ => (match cd.mro, sl.toList with
    | .ref C' :: bm, [_, _, _, _, some (.builtin nw), _] => C' == C && (nw == "ValueError.__new__" && (!cd.hasDel && (cd.hasDict && PySem.HandSPX.refsVE bm)))
    | _, _ => false)
  | _ => false) && (findIn K (.ref C) "__setattr__" == some (some (.builtin "object.__setattr__")) && (subIn K (.ref C) (.type "BaseException") == some true && (typeIn K (.ref C) == some (.type "type") && keepIn K (.ref C))))
theorem oexB_ok {K : Frag} {C : Addr} (h : oexB K C = true) : L2.OexC K C := by
  unfold oexB at h
  rw [Bool.and_eq_true] at h
  obtain ⟨q, h⟩ := h
  simp only [Bool.and_eq_true, beq_iff_eq] at h
  obtain ⟨h1, h2, h3, h4⟩ := h
  refine ⟨?_, h1, h2, h3, h4⟩
  split at q
  · rename_i dd cd sl ho
    split at q
    · rename_i C' bm k0 k1 k2 k3 nw k5 hm hs
      simp only [Bool.and_eq_true, beq_iff_eq, Bool.not_eq_true'] at q
      obtain ⟨rfl, rfl, hdel, hdi, ht⟩ := q
      obtain ⟨nm, bs, mro, ns, qn, hd, sn, sub, ab, col, del⟩ := cd
      dsimp only at hm hdel hdi
      subst hm hdel hdi
      have hsl : sl = #[k0, k1, k2, k3, some (.builtin "ValueError.__new__"), k5] := by
        obtain ⟨l⟩ := sl
        simp only at hs
        rw [hs]
      subst hsl
      exact ⟨nm, qn, ns, bs, bm, sn, sub, ab, col, dd, k0, k1, k2, k3, k5, ho, ht⟩
    · cases q
  · cases q
/-- __init__ at f: super().__init__(n); self.n = n -/
def xiB (file : Str) (K : Frag) (f C : Addr) (n : Str) : Bool := match K.lookup f with
  | some ⟨_, _, .func fd, _⟩ => (match fd.body, fd.closure, fd.code with
    | .stmts [.Expr (.Call (.Attribute (.Call (.Name s1 _) [] [] _) i1 p2) [.Name n1 _] [] p4) _, .Assign [.Attribute (.Name s2 _) n2 _] (.Name n3 _) _], [(c1, cc)], .ref cda =>
      (s1 == "super" && (i1 == "__init__" && (n1 == n && (s2 == "self" && (n2 == n && (n3 == n && (c1 == "__class__" && (fd.globals == mainGlobals && (fd.builtins == builtinsNs && p2.endLine == p4.line))))))))) &&
      (codeIn K (.ref cda) fd.qualname && ((match (fd.params.posonlyargs ++ fd.params.args).head? with | some ar => ar.arg == "self" | none => false) &&
      ((match K.lookup cda with | some ⟨_, _, .fields vs, _⟩ => (match (vs[2]? : Option Value) with | some (.str fl _) => file == fl | _ => false) | _ => false) &&
      ((match K.lookup cc with | some ⟨_, _, .cell (some (.ref D)), _⟩ => D == C | _ => false) &&
      (decide (fd.scope.names.lookup ("super" : Str) = some .globalImplicit) && (decide (fd.scope.names.lookup ("__class__" : Str) = some .free) && (decide (fd.scope.names.lookup ("self" : Str) = some .local) && (decide (fd.scope.names.lookup n = some .local) &&
      (decide (fd.scope.kind = .function) && (fd.scope.names.all (fun x => decide (x.2 ≠ .cell)) && (!fd.scope.isCoroutine && !fd.scope.isGenerator)))))))))))
    | _, _, _ => false)
  | _ => false
theorem xiK_of {P : Program} {file : Str} {K : Frag} {mg : Str → Option Value} {f C : Addr} {n : Str} (T : L2.OexC K C) (q : xiB file K f C n = true) (hfi : ((P.main.file : Str) == file) = true)
    (hsub : mroIn K C (.ref C) = some true) (hsup : ks_superIn K C C "__init__" = some (some (.builtin "ValueError.__init__"))) (hB : subIn K (.ref C) (.type "ValueError") = some true)
    (hop : nsIn K cStatics "thirdparty.any" = some none) (hms : mg "super" = none) (htop : (P.main.scope.names.lookup ("super" : Str)).isSome = false) (hboot : bootBuiltins "super" = some (.type "super"))
    (hns : n ≠ "self") (hnd : (n == ("__debug__" : Str)) = false) (hno : findIn K (.ref C) n = some none) : ∃ fd oc od osl, K.lookup f = some ⟨oc, od, .func fd, osl⟩ ∧ XiK P K mg f C n fd := by
  unfold xiB at q
  split at q
  · rename_i oc od fd osl lk
    refine ⟨fd, oc, od, osl, lk, ?_⟩
    split at q
    · rename_i s1 p0 p1 i1 p2 n1 p3 p4 p5 s2 p6 n2 p7 n3 p8 p9 c1 cc cda hbo hcl hco
      obtain ⟨name, qual, params, body, scope, globals, closure, dV, kV, doc, pm, an, code, ct, blt⟩ := fd
      dsimp only at hbo hcl hco q
      subst hbo hcl hco
      simp only [Bool.and_eq_true, beq_iff_eq, decide_eq_true_eq, Bool.not_eq_true'] at q
      obtain ⟨⟨rfl, rfl, rfl, rfl, rfl, rfl, rfl, rfl, rfl, hl⟩, hcd, hpar, hcode, hcell, hks, hkc, hka, hkn, hk, hnc, hco, hgen⟩ := q
      split at hpar
      · rename_i ar har
        split at hcode
        · rename_i ccl cdd vs ccs lc
          split at hcode
          · rename_i fl tf hvs
            split at hcell
            · rename_i cl cld D csl le
              have hD := beq_iff_eq.mp hcell
              subst hD
              refine ⟨fun X lim md bk hroom ha hKa hb hq => ?_⟩
              exact xi_run T X lim md bk hroom lk hcd har (beq_iff_eq.mp hpar) lc hvs (by rw [← beq_iff_eq.mp hcode]; exact hfi) le hsub hsup hB hop hms hks hkc hka hkn hk (fun x hx => by simpa using List.all_eq_true.mp hnc x hx) hco hgen htop hboot hns hnd hno ha hKa hb (fun L => xiEv_of hk (by simpa using hl)) hq
            · cases hcell
          · cases hcode
        · cases hcode
      · cases hpar
    · cases q
  · cases q
theorem xiBinds {K : Frag} {fd : FuncData} {n : Str} {a1 a2 : Arg} (hd : fd.defaults = .none) (h1 : fd.params.posonlyargs = []) (h2 : fd.params.args = [a1, a2]) (ha1 : a1.arg = ("self" : Str)) (ha2 : a2.arg = n) (h3 : fd.params.kwonlyargs = []) (h4 : fd.params.vararg = none) (h5 : fd.params.kwarg = none) (hn : n ≠ "self") : L2.Binds K fd ["self", n] [] := by
  refine L2.Binds.all fun us hl => ?_
  match us, hl with
  | [u, v], _ =>
    have e1 : (n == ("self" : Str)) = false := by simpa using hn
    have e2 : ((("self" : Str)) == n) = false := by simpa using Ne.symm hn
    have e3 : seqItems? Value.none = pure none := by rfl
    unfold bindArgs
    simp [hd, h1, h2, ha1, ha2, h3, h4, h5, e1, e2, e3, List.lookup]
/-- all that the written part says of an own exception class with one field -/
structure Xc1 (P : Program) (K : Frag) (mg : Str → Option Value) (C : Addr) (n : Str) : Prop where
  T : L2.OexC K C
  ex : ∃ fI fd, findIn K (.ref C) "__init__" = some (some (.ref fI)) ∧ typeIn K (.ref fI) = some (.type "function") ∧ XiK P K mg fI C n fd ∧ L2.Binds K fd ["self", n] []
/-- (self, n), no defaults -/
def xpB (K : Frag) (f : Addr) (n : Str) : Bool := match K.lookup f with
  | some ⟨_, _, .func fd, _⟩ => (match fd.defaults, fd.params.posonlyargs, fd.params.args, fd.params.kwonlyargs, fd.params.vararg, fd.params.kwarg with
    | .none, [], [a1, a2], [], none, none => a1.arg == ("self" : Str) && a2.arg == n
    | _, _, _, _, _, _ => false)
  | _ => false
def xc1B (file : Str) (K : Frag) (C : Addr) (n : Str) : Bool := oexB K C && ((match findIn K (.ref C) "__init__" with
    | some (some (.ref fI)) => xiB file K fI C n && (typeIn K (.ref fI) == some (.type "function") && xpB K fI n)
    | _ => false) &&
  (mroIn K C (.ref C) == some true && (ks_superIn K C C "__init__" == some (some (.builtin "ValueError.__init__")) && (subIn K (.ref C) (.type "ValueError") == some true && (nsIn K cStatics "thirdparty.any" == some none &&
  (findIn K (.ref C) n == some none && (!(n == ("self" : Str)) && !(n == ("__debug__" : Str)))))))))
theorem xc1B_ok {P : Program} {file : Str} {K : Frag} {mg : Str → Option Value} {C : Addr} {n : Str} (h : xc1B file K C n = true) (hfi : ((P.main.file : Str) == file) = true) (hms : mg "super" = none) (htop : (P.main.scope.names.lookup ("super" : Str)).isSome = false) : Xc1 P K mg C n := by
  have hboot : bootBuiltins "super" = some (.type "super") := by decide +kernel
  unfold xc1B at h
  rw [Bool.and_eq_true, Bool.and_eq_true] at h
  obtain ⟨h0, h1, h⟩ := h
  simp only [Bool.and_eq_true, beq_iff_eq, Bool.not_eq_true'] at h
  obtain ⟨hsub, hsup, hB, hop, hno, hns, hnd⟩ := h
  have hns' : n ≠ "self" := by simpa using hns
  have T := oexB_ok h0
  refine ⟨T, ?_⟩
  split at h1
  · rename_i fI hi
    rw [Bool.and_eq_true, Bool.and_eq_true] at h1
    obtain ⟨hx, ht, hp⟩ := h1
    obtain ⟨fd, oc, od, osl, lk, xk⟩ := xiK_of (P := P) (mg := mg) T hx hfi hsub hsup hB hop hms htop hboot hns' hnd hno
    refine ⟨fI, fd, hi, beq_iff_eq.mp ht, xk, ?_⟩
    unfold xpB at hp
    rw [lk] at hp
    dsimp only at hp
    split at hp
    · rename_i a1 a2 e1 e2 e3 e4 e5 e6
      simp only [Bool.and_eq_true, beq_iff_eq] at hp
      exact xiBinds e1 e2 e3 hp.1 hp.2 e4 e5 e6 hns'
    · cases hp
  · cases h1
end Mi
/-! Mi: a small language over plain values (tuples are values), read as what must hold ahead of a piece of code. -/
namespace Mi
open PySem

/-- plain values; a ref is a thing that may change (a list, a dict, an instance) -/
inductive W where
  | non | bl (b : Bool) | int (i : Int) | str (s : Str) | tup (xs : List W) | ref (a : Addr)

/-- what stands at an address -/
inductive O where
  | lst (xs : List W) | fro (xs : List W) | dct (kvs : List (W × W)) | ins (c : Nat) (fs : List (Nat × W))

abbrev Hp := Addr → Option O
abbrev St := List (Option W)
abbrev K1 := W → Hp → Prop
abbrev XK := Nat → List (Nat × W) → Hp → Prop
def upd (h : Hp) (a : Addr) (o : O) : Hp := fun b => if b = a then some o else h b

def getF : List (Nat × W) → Nat → Option W
  | [], _ => none
  | (g, v) :: r, f => if g = f then some v else getF r f
def putF : List (Nat × W) → Nat → W → List (Nat × W)
  | [], f, v => [(f, v)]
  | (g, w) :: r, f, v => if g = f then (g, v) :: r else (g, w) :: putF r f v

inductive Bop where
  | add | sub | mul | fdiv | mod | pow
  deriving DecidableEq
inductive Cop where
  | eq | ne | lt | le | gt | ge | isin | notin | isnon | notnon | isfls
  deriving DecidableEq
inductive Bif where
  | len | abs | int | tuple | list | all | any | sum | min | str | repr | range1 | range2 | dict
inductive Bm where
  | append | extend | pop | popAt | index | remove | insert | get2 | get1 | join | split | sindex
/-- a class named in isinstance -/
inductive Cl where
  | int | bool | str | list | tuple | dict | own (c : Nat)

mutual
inductive E where
  | var (i : Nat)
  | cst (w : W)
  | bin (o : Bop) (a b : E)
  | neg (a : E)
  | cmp (o : Cop) (a b : E)
  | cmp2 (o p : Cop) (a b c : E)
  | and (a b : E)
  | or (a b : E)
  | not (a : E)
  | ite (c a b : E)
  | tup (es : Es)
  | lst (es : Es)
  | dct (ps : Es)
  | fmt (e : E)
  | js (es : Es)
  | idx (a i : E)
  | sl (a : E) (lo hi : Eo)
  | fld (a : E) (f : Nat)
  | call (f : Nat) (as : Es) (ds : List W)
  | callK (f : Nat) (as : Es) (g : List (Sum Nat W))
  | make (c f : Nat) (as : Es) (ds : List W)
  | makeK (c f : Nat) (as : Es) (g : List (Sum Nat W))
  | meth (o : E) (m : Nat) (as : Es)
  | bif (b : Bif) (as : Es)
  | bm (m : Bm) (o : E) (as : Es)
  | isi (a : E) (cs : List Cl)
  | lc (e : E) (tg : Tg) (it : I) (ifs : Es) (own : List Nat)
  | own (e : E)
inductive Es where
  | nil
  | cons (e : E) (r : Es)
inductive Eo where
  | no
  | so (e : E)
inductive I where
  | of (e : E)
  | rng1 (a : E)
  | rng2 (a b : E)
  | enm (a : E)
  | zip (a b : E)
  | chr (a : E)
inductive Tg where
  | nm (i : Nat)
  | fld (o : E) (f : Nat)
  | sub (o i : E)
  | tp (ts : Tgs)
inductive Tgs where
  | nil
  | cons (t : Tg) (r : Tgs)
end

/-- except C as e: x = (..): the class, e's slot, x's slot, the tuple: fields of e, constants -/
structure Hd where
  c : Nat
  i : Nat
  j : Nat
  tp : List (Sum Nat W)
mutual
inductive S where
  | asg (t : Tg) (e : E)
  | aug (i : Nat) (o : Bop) (e : E)
  | augS (a i : E) (o : Bop) (e : E)
  | augF (a : E) (f : Nat) (o : Bop) (e : E)
  | exp (e : E)
  | ret (e : E)
  | retN
  | ifs (c : E) (a b : Ss)
  | whl (c : E) (b : Ss)
  | fr (t : Tg) (it : I) (b : Ss)
  | pas
  | brk
  | cont
  | never
  | rais (c : Nat) (fs : List Nat) (as : Es)
  | tr (s : S) (r : Ss) (asg : List Nat) (hs : List Hd)
inductive Ss where
  | nil
  | cons (s : S) (r : Ss)
end

/-- what is wanted behind a statement -/
structure En where
  nx : St → Hp → Prop
  rt : W → Hp → Prop
  bk : St → Hp → Prop
  ct : St → Hp → Prop

/-- the text's tables: a class's method; which own class is under which -/
structure Tab where
  meth : Nat → Nat → Option Nat
  sub : Nat → Nat → Bool
  fldOk : Nat → Nat → Bool
  clsOk : Nat → Bool
  bop : Nat → Bop → Option Nat
  rbop : Nat → Bop → Option Nat
  neg : Nat → Option Nat
  abs : Nat → Option Nat
  cop : Nat → Cop → Option Nat
  exOk : Nat → Bool

abbrev Fn := Nat → List W → Hp → K1 → XK → Prop

/-! ### operations on values -/
def opt {α : Type} (o : Option α) (Q : α → Prop) : Prop := match o with
  | some a => Q a
  | none => False
def mapO {α β : Type} (f : α → Option β) : List α → Option (List β)
  | [] => some []
  | x :: xs => match f x, mapO f xs with
    | some y, some ys => some (y :: ys)
    | _, _ => none
/-- as data that == compares -/
def dat (h : Hp) : Nat → W → Option PyData
  | _, .non => some .none
  | _, .bl b => some (.bool b)
  | _, .int i => some (.int i)
  | _, .str s => some (.str s)
  | 0, .tup _ => none
  | n + 1, .tup xs => (mapO (dat h n) xs).map .tuple
  | 0, .ref _ => none
  | n + 1, .ref a => match h a with
    | some (.lst xs) => (mapO (dat h n) xs).map .list
    | _ => none
def atI {α : Type} (xs : List α) (i : Int) : Option α := L2.atI xs i
def cut {α : Type} (xs : List α) (lo hi : Option Int) : List α := (xs.drop (HT.sIx xs.length 0 lo)).take (HT.sIx xs.length xs.length hi - HT.sIx xs.length 0 lo)

/-- an operator of an own class -/
def own2 (T : Tab) (F : Fn) (o : Bop) (x y : W) (h : Hp) (Q : K1) (X : XK) : Prop := match x, y with
  | .ref a, .ref b => (match h a, h b with
    | some (.ins c _), some (.ins c' _) => c = c' ∧ opt (T.bop c o) fun f => F f [x, y] h Q X
    | _, _ => False)
  | .ref a, .int _ => (match h a with
    | some (.ins c _) => opt (T.bop c o) fun f => F f [x, y] h Q X
    | _ => False)
  | .int _, .ref b => (match h b with
    | some (.ins c _) => opt (T.rbop c o) fun f => F f [y, x] h Q X
    | _ => False)
  | _, _ => False
def wAdd (T : Tab) (F : Fn) (x y : W) (h : Hp) (Q : K1) (X : XK) : Prop := match x, y with
  | .int i, .int j => Q (.int (i + j)) h
  | .str a, .str b => a.length + b.length ≤ sizeLine ∧ Q (.str (a ++ b)) h
  | .tup xs, .tup ys => xs.length + ys.length ≤ sizeLine ∧ Q (.tup (xs ++ ys)) h
  | .ref a, .ref b => (match h a, h b with
    | some (.lst xs), some (.lst ys) => xs.length + ys.length ≤ sizeLine ∧ ∀ p, h p = none → Q (.ref p) (upd h p (.lst (xs ++ ys)))
    | _, _ => own2 T F .add x y h Q X)
  | _, _ => own2 T F .add x y h Q X
def wSub (T : Tab) (F : Fn) (x y : W) (h : Hp) (Q : K1) (X : XK) : Prop := match x, y with
  | .int i, .int j => Q (.int (i - j)) h
  | _, _ => own2 T F .sub x y h Q X
def wMul (T : Tab) (F : Fn) (x y : W) (h : Hp) (Q : K1) (X : XK) : Prop := match x, y with
  | .int i, .int j => IntMulOk i j ∧ Q (.int (i * j)) h
  | .ref a, .int k => (match h a with
    | some (.lst xs) => -(2 ^ 63) ≤ k ∧ k < 2 ^ 63 ∧ xs.length * k.toNat ≤ sizeLine ∧ ∀ p, h p = none → Q (.ref p) (upd h p (.lst (List.replicate k.toNat xs).flatten))
    | _ => own2 T F .mul x y h Q X)
  | _, _ => own2 T F .mul x y h Q X
def wFdiv (T : Tab) (F : Fn) (x y : W) (h : Hp) (Q : K1) (X : XK) : Prop := match x, y with
  | .int i, .int j => j ≠ 0 ∧ j.natAbs.log2 < 9000 ∧ Q (.int (i.fdiv j)) h
  | _, _ => own2 T F .fdiv x y h Q X
def wMod (T : Tab) (F : Fn) (x y : W) (h : Hp) (Q : K1) (X : XK) : Prop := match x, y with
  | .int i, .int j => j ≠ 0 ∧ Q (.int (i.fmod j)) h
  | _, _ => own2 T F .mod x y h Q X
def wPow (x y : W) (h : Hp) (Q : K1) : Prop := match x, y with
  | .int i, .int j => L2.CPow i j ∧ Q (.int (i ^ j.toNat)) h
  | _, _ => False
def wBin (T : Tab) (F : Fn) (o : Bop) (x y : W) (h : Hp) (Q : K1) (X : XK) : Prop := match o with
  | .add => wAdd T F x y h Q X
  | .sub => wSub T F x y h Q X
  | .mul => wMul T F x y h Q X
  | .fdiv => wFdiv T F x y h Q X
  | .mod => wMod T F x y h Q X
  | .pow => wPow x y h Q

/-- an own class's comparison; the other side an int, an instance of the same class, or data -/
def isIns (h : Hp) : W → Option Nat
  | .ref a => (match h a with
    | some (.ins c _) => some c
    | _ => none)
  | _ => none
def insOf (h : Hp) : W → Option (Nat × List (Nat × W))
  | .ref a => (match h a with
    | some (.ins c fs) => some (c, fs)
    | _ => none)
  | _ => none
/-- a value whose type is known (no instance) -/
def kn (h : Hp) : W → Bool
  | .ref a => (match h a with
    | some (.lst _) => true
    | some (.dct _) => true
    | _ => false)
  | _ => true
def isI : W → Bool
  | .int _ => true
  | _ => false
def wEq (T : Tab) (F : Fn) (neg : Bool) (x y : W) (h : Hp) (Q : K1) (X : XK) : Prop :=
  match isIns h x, isIns h y with
  | none, none => opt (dat h 64 x) fun d => opt (dat h 64 y) fun e => SeqAt.shaped d = true ∧ SeqAt.shaped e = true ∧ Q (.bl (if neg then !PyData.eqv d e else PyData.eqv d e)) h
  | some c, none => kn h y = true ∧ opt (T.cop c .eq) fun f => F f [x, y] h (fun r h' => ∃ b, r = .bl b ∧ Q (.bl (if neg then !b else b)) h') X
  | some c, some c' => c = c' ∧ opt (T.cop c .eq) fun f => F f [x, y] h (fun r h' => ∃ b, r = .bl b ∧ Q (.bl (if neg then !b else b)) h') X
  | none, some c => (kn h x = true ∧ (neg = true → isI x = true)) ∧ opt (T.cop c .eq) fun f => F f [y, x] h (fun r h' => ∃ b, r = .bl b ∧ Q (.bl (if neg then !b else b)) h') X
def swapC : Cop → Cop
  | .lt => .gt
  | .le => .ge
  | .gt => .lt
  | .ge => .le
  | o => o
def ordI (o : Cop) (i j : Int) : Bool := match o with
  | .lt => decide (i < j)
  | .le => decide (i ≤ j)
  | .gt => decide (j < i)
  | .ge => decide (j ≤ i)
  | _ => false
def wOrd (T : Tab) (F : Fn) (o : Cop) (x y : W) (h : Hp) (Q : K1) (X : XK) : Prop := match x, y with
  | .int i, .int j => Q (.bl (ordI o i j)) h
  | .ref a, .ref b => (match h a, h b with
    | some (.ins c _), some (.ins c' _) => c = c' ∧ opt (T.cop c o) fun f => F f [x, y] h Q X
    | _, _ => False)
  | .ref a, .int _ => (match h a with
    | some (.ins c _) => opt (T.cop c o) fun f => F f [x, y] h Q X
    | _ => False)
  | .int _, .ref b => (match h b with
    | some (.ins c _) => opt (T.cop c (swapC o)) fun f => F f [y, x] h Q X
    | _ => False)
  | _, _ => False
/-- a flat value as the kit has it -/
def fV : W → Option L2.V
  | .non => some .non
  | .bl b => some (.bl b)
  | .int i => some (.int i)
  | .str s => some (.str s)
  | _ => none
/-- the items in which something is looked for -/
def inL (h : Hp) : W → Option (List W)
  | .tup xs => some xs
  | .ref a => (match h a with
    | some (.lst xs) => some xs
    | _ => none)
  | _ => none
def wIn (neg : Bool) (x y : W) (h : Hp) (Q : K1) : Prop := match x, y with
  | .str a, .str z => Q (.bl (if neg then !(!(Builtin.Str.occurrences z a 0 z.length 1).isEmpty) else !(Builtin.Str.occurrences z a 0 z.length 1).isEmpty)) h
  | x, y => opt (inL h y) fun ys => opt (fV x) fun v => opt (mapO fV ys) fun vs => Q (.bl (if neg then !L2.inV v vs else L2.inV v vs)) h
def wCmp (T : Tab) (F : Fn) (o : Cop) (x y : W) (h : Hp) (Q : K1) (X : XK) : Prop := match o with
  | .eq => wEq T F false x y h Q X
  | .ne => wEq T F true x y h Q X
  | .isin => wIn false x y h Q
  | .notin => wIn true x y h Q
  | .isnon => (match x with
    | .non => Q (.bl true) h
    | _ => Q (.bl false) h)
  | .notnon => (match x with
    | .non => Q (.bl false) h
    | _ => Q (.bl true) h)
  | .isfls => (match x with
    | .bl b => Q (.bl (!b)) h
    | _ => False)
  | o => wOrd T F o x y h Q X
def wNeg (T : Tab) (F : Fn) (x : W) (h : Hp) (Q : K1) (X : XK) : Prop := match x with
  | .int i => Q (.int (-i)) h
  | .ref a => (match h a with
    | some (.ins c _) => opt (T.neg c) fun f => F f [x] h Q X
    | _ => False)
  | _ => False
def wIdx (x y : W) (h : Hp) (Q : K1) : Prop := match x, y with
  | .tup xs, .int i => opt (atI xs i) fun v => Q v h
  | .str s, .int i => s.length ≤ sizeLine ∧ opt (atI s.cps.toList i) fun c => Q (.str ⟨#[c]⟩) h
  | .ref a, .int i => (match h a with
    | some (.lst xs) => opt (atI xs i) fun v => Q v h
    | _ => False)
  | _, _ => False
def wSl (x : W) (lo hi : Option Int) (h : Hp) (Q : K1) : Prop := match x with
  | .tup xs => Q (.tup (cut xs lo hi)) h
  | .str z => z.length ≤ sizeLine ∧ Q (.str (L2.cutS z lo hi)) h
  | .ref a => (match h a with
    | some (.lst xs) => ∀ p, h p = none → Q (.ref p) (upd h p (.lst (cut xs lo hi)))
    | some (.fro xs) => ∀ p, h p = none → Q (.ref p) (upd h p (.lst (cut xs lo hi)))
    | _ => False)
  | _ => False
def wFld (T : Tab) (x : W) (f : Nat) (h : Hp) (Q : K1) : Prop := match x with
  | .ref a => (match h a with
    | some (.ins c fs) => T.fldOk c f = true ∧ opt (getF fs f) fun v => Q v h
    | _ => False)
  | _ => False
def prs : List W → Option (List (W × W))
  | [] => some []
  | k :: v :: r => (prs r).map fun l => (k, v) :: l
  | _ => none
/-- a dict's key: an int or a text -/
def keyW : W → Option (Sum Int Str)
  | .int i => some (.inl i)
  | .str x => some (.inr x)
  | _ => none
def keysOk (kvs : List (W × W)) : Bool := kvs.all (fun p => (keyW p.1).isSome) && decide (kvs.map (fun p => keyW p.1)).Nodup
def boolsW : List W → Option (List Bool) := mapO fun
  | .bl b => some b
  | _ => none
def intsW : List W → Option (List Int) := mapO fun
  | .int b => some b
  | _ => none
def chrs (z : Str) : List W := z.cps.toList.map fun c => .str ⟨#[c]⟩
def strsW : List W → Option (List Str) := mapO fun
  | .str b => some b
  | _ => none
def wBif (T : Tab) (F : Fn) (b : Bif) (vs : List W) (h : Hp) (Q : K1) (X : XK) : Prop := match b, vs with
  | .len, [.tup xs] => Q (.int xs.length) h
  | .len, [.str s] => s.length ≤ sizeLine ∧ Q (.int s.length) h
  | .len, [.ref a] => (match h a with
    | some (.lst xs) => Q (.int xs.length) h
    | _ => False)
  | .abs, [.int i] => Q (.int (if i < 0 then -i else i)) h
  | .abs, [.ref a] => (match h a with
    | some (.ins c _) => opt (T.abs c) fun f => F f [.ref a] h Q X
    | _ => False)
  | .int, [.int i] => Q (.int i) h
  | .int, [.str a] => a.length ≤ 640 ∧ opt (PySem.intText? a) fun n => Q (.int n) h
  | .tuple, [.tup xs] => Q (.tup xs) h
  | .tuple, [.ref a] => (match h a with
    | some (.lst xs) => Q (.tup xs) h
    | _ => False)
  | .list, [.tup xs] => ∀ p, h p = none → Q (.ref p) (upd h p (.lst xs))
  | .list, [.str z] => z.cps.size ≤ sizeLine ∧ ∀ p, h p = none → Q (.ref p) (upd h p (.lst (chrs z)))
  | .list, [.ref a] => (match h a with
    | some (.lst xs) => ∀ p, h p = none → Q (.ref p) (upd h p (.lst xs))
    | _ => False)
  | .str, [.int i] => i.natAbs.log2 < 1920 ∧ Q (.str (toString i)) h
  | .str, [.str s] => Q (.str s) h
  | .all, [.ref a] => (match h a with
    | some (.lst xs) => opt (boolsW xs) fun bs => Q (.bl (bs.all id)) h
    | _ => False)
  | .any, [.ref a] => (match h a with
    | some (.lst xs) => opt (boolsW xs) fun bs => Q (.bl (bs.any id)) h
    | _ => False)
  | _, _ => False
def wBm (m : Bm) (x : W) (vs : List W) (h : Hp) (Q : K1) : Prop := match m, x, vs with
  | .append, .ref a, [v] => (match h a with
    | some (.lst xs) => xs.length < sizeLine ∧ Q .non (upd h a (.lst (xs ++ [v])))
    | _ => False)
  | .split, .str a, [.str b] => (b.length == 0) = false ∧ a.length + 2 ≤ sizeLine ∧ ∀ p, h p = none → Q (.ref p) (upd h p (.lst ((Txt.split a b).map W.str)))
  | .sindex, .str a, [.str b] => (match Builtin.Str.occurrences a b 0 a.length 1 with
    | i :: _ => Q (.int (i : Nat)) h
    | [] => False)
  | .join, .str a, [.ref p] => (match h p with
    | some (.lst xs) => opt (strsW xs) fun ys => (ys.map (·.length)).sum + ys.length * a.length ≤ 16777216 ∧ Q (.str (Txt.join a ys)) h
    | _ => False)
  | _, _, _ => False
def isL (h : Hp) : W → Bool
  | .ref a => (match h a with
    | some (.lst _) => true
    | _ => false)
  | _ => false
def isD (h : Hp) : W → Bool
  | .ref a => (match h a with
    | some (.dct _) => true
    | _ => false)
  | _ => false
def isS : W → Bool
  | .str _ => true
  | _ => false
/-- the receiver is of the method's own type -/
def rcv (h : Hp) (x : W) : Bm → Bool
  | .get1 => isD h x
  | .get2 => isD h x
  | .join => isS x
  | .split => isS x
  | .sindex => isS x
  | _ => isL h x
def isOf (T : Tab) (h : Hp) (x : W) : Cl → Bool
  | .int => (match x with
    | .int _ => true
    | .bl _ => true
    | _ => false)
  | .bool => (match x with
    | .bl _ => true
    | _ => false)
  | .str => (match x with
    | .str _ => true
    | _ => false)
  | .tuple => (match x with
    | .tup _ => true
    | _ => false)
  | .list => (match x with
    | .ref a => (match h a with
      | some (.lst _) => true
      | _ => false)
    | _ => false)
  | .dict => (match x with
    | .ref a => (match h a with
      | some (.dct _) => true
      | _ => false)
    | _ => false)
  | .own c => (match isIns h x with
    | some c' => T.sub c' c
    | none => false)
/-- the value is one whose class is known -/
def known (T : Tab) (h : Hp) : W → Bool
  | .ref a => (match h a with
    | some (.lst _) => true
    | some (.ins c _) => T.clsOk c
    | some (.dct _) => true
    | _ => false)
  | _ => true
def args (vs : List W) : List (Sum Nat W) → Option (List W) := mapO fun
  | .inl i => vs[i]?
  | .inr w => some w
def wipe (σ : St) : List Nat → St
  | [] => σ
  | i :: r => (wipe σ r).set i none

/-- turn by turn -/
def forR (G : Hp → Prop) (step : W → St → Hp → (St → Hp → Prop) → Prop) : List W → St → Hp → (St → Hp → Prop) → Prop
  | [], σ, h, nx => G h ∧ nx σ h
  | x :: xs, σ, h, nx => G h ∧ step x σ h fun σ' h' => forR G step xs σ' h' nx
def lcR (G : Hp → Prop) (step : W → List W → Hp → (List W → Hp → Prop) → Prop) : List W → List W → Hp → (List W → Hp → Prop) → Prop
  | [], acc, h, Q => G h ∧ Q acc h
  | x :: xs, acc, h, Q => G h ∧ step x acc h fun acc' h' => lcR G step xs acc' h' Q
def enumW : Nat → List W → List W
  | _, [] => []
  | n, x :: xs => .tup [.int n, x] :: enumW (n + 1) xs
def zipW : List W → List W → List W
  | x :: xs, y :: ys => .tup [x, y] :: zipW xs ys
  | _, _ => []
def rngW (lo : Int) : Nat → List W
  | 0 => []
  | n + 1 => .int lo :: rngW (lo + 1) n
/-- what is walked: its items, and what must hold of the heap at each turn -/
def seqOf (h : Hp) (x : W) : Option (List W × (Hp → Prop)) := match x with
  | .tup xs => some (xs, fun _ => True)
  | .ref a => (match h a with
    | some (.lst xs) => some (xs, fun h' => h' a = some (.lst xs))
    | _ => none)
  | _ => none

def isTup : W → Bool
  | .tup _ => true
  | _ => false
def tgsLen : Tgs → Nat
  | .nil => 0
  | .cons _ r => tgsLen r + 1
section
variable (T : Tab) (F : Fn)
mutual
def wE : E → St → Hp → K1 → XK → Prop
  | .var i, σ, h, Q, _ => (match σ[i]? with
    | some (some v) => Q v h
    | _ => False)
  | .cst w, _, h, Q, _ => Q w h
  | .bin o a b, σ, h, Q, X => wE a σ h (fun x h1 => wE b σ h1 (fun y h2 => wBin T F o x y h2 Q X) X) X
  | .neg a, σ, h, Q, X => wE a σ h (fun x h1 => wNeg T F x h1 Q X) X
  | .cmp o a b, σ, h, Q, X => wE a σ h (fun x h1 => wE b σ h1 (fun y h2 => wCmp T F o x y h2 Q X) X) X
  | .cmp2 o p a b c, σ, h, Q, X => wE a σ h (fun x h1 => wE b σ h1 (fun y h2 => wCmp T F o x y h2 (fun r h3 => match r with
    | .bl true => wE c σ h3 (fun z h4 => wCmp T F p y z h4 Q X) X
    | .bl false => Q (.bl false) h3
    | _ => False) X) X) X
  | .and a b, σ, h, Q, X => wE a σ h (fun x h1 => match x with
    | .bl true => wE b σ h1 Q X
    | .bl false => Q (.bl false) h1
    | _ => False) X
  | .or a b, σ, h, Q, X => wE a σ h (fun x h1 => match x with
    | .bl true => Q (.bl true) h1
    | .bl false => wE b σ h1 Q X
    | _ => False) X
  | .not a, σ, h, Q, X => wE a σ h (fun x h1 => match x with
    | .bl b => Q (.bl (!b)) h1
    | _ => False) X
  | .ite c a b, σ, h, Q, X => wE c σ h (fun x h1 => match x with
    | .bl true => wE a σ h1 Q X
    | .bl false => wE b σ h1 Q X
    | _ => False) X
  | .tup es, σ, h, Q, X => wEs es σ h (fun vs h1 => Q (.tup vs) h1) X
  | .lst es, σ, h, Q, X => wEs es σ h (fun vs h1 => ∀ p, h1 p = none → Q (.ref p) (upd h1 p (.lst vs))) X
  | .dct ps, σ, h, Q, X => ∀ p, h p = none → wEs ps σ (upd h p (.dct [])) (fun vs h2 => h2 p = some (.dct []) ∧ opt (prs vs) fun kvs => keysOk kvs = true ∧ kvs.length ≤ 15 ∧ Q (.ref p) (upd h2 p (.dct kvs))) X
  | .fmt e, σ, h, Q, X => wE e σ h (fun x h1 => match x with
    | .str y => y.length ≤ sizeLine ∧ Q (.str y) h1
    | .int i => i.natAbs.log2 < 1920 ∧ Q (.str (toString i)) h1
    | _ => False) X
  | .js es, σ, h, Q, X => wJ es Str.empty σ h (fun out h1 => Q (.str out) h1) X
  | .idx a i, σ, h, Q, X => wE a σ h (fun x h1 => wE i σ h1 (fun y h2 => wIdx x y h2 Q) X) X
  | .sl a lo hi, σ, h, Q, X => wE a σ h (fun x h1 => wEo lo σ h1 (fun l h2 => wEo hi σ h2 (fun u h3 => wSl x l u h3 Q) X) X) X
  | .fld a f, σ, h, Q, X => wE a σ h (fun x h1 => wFld T x f h1 Q) X
  | .call f as ds, σ, h, Q, X => wEs as σ h (fun vs h1 => F f (vs ++ ds) h1 Q X) X
  | .callK f as g, σ, h, Q, X => wEs as σ h (fun vs h1 => opt (args vs g) fun us => F f us h1 Q X) X
  | .make c f as ds, σ, h, Q, X => wEs as σ h (fun vs h1 => ∀ p, h1 p = none → F f (.ref p :: (vs ++ ds)) (upd h1 p (.ins c [])) (fun w h2 => w = .non ∧ Q (.ref p) h2) X) X
  | .makeK c f as g, σ, h, Q, X => wEs as σ h (fun vs h1 => opt (args vs g) fun us => ∀ p, h1 p = none → F f (.ref p :: us) (upd h1 p (.ins c [])) (fun w h2 => w = .non ∧ Q (.ref p) h2) X) X
  | .meth o m as, σ, h, Q, X => wE o σ h (fun x h1 => opt (insOf h1 x) fun c => getF c.2 m = none ∧ opt (T.meth c.1 m) fun f => wEs as σ h1 (fun vs h2 => F f (x :: vs) h2 Q X) X) X
  | .bif b as, σ, h, Q, X => wEs as σ h (fun vs h1 => wBif T F b vs h1 Q X) X
  | .bm m o as, σ, h, Q, X => wE o σ h (fun x h1 => rcv h1 x m = true ∧ wEs as σ h1 (fun vs h2 => wBm m x vs h2 Q) X) X
  | .isi a cs, σ, h, Q, X => wE a σ h (fun x h1 => known T h1 x = true ∧ Q (.bl (cs.any (isOf T h1 x))) h1) X
  | .lc e tg it ifs own, σ, h, Q, X => wI it σ h (fun xs G h1 => lcR G (fun x acc h2 R => wTg tg x (wipe σ own) h2 (fun σ3 h3 => wAll ifs σ3 h3 (fun b h4 =>
      if b = true then wE e σ3 h4 (fun v h5 => acc.length < sizeLine ∧ R (acc ++ [v]) h5) (fun _ _ _ => False) else R acc h4) (fun _ _ _ => False)) (fun _ _ _ => False)) xs [] h1 fun acc h2 => ∀ p, h2 p = none → Q (.ref p) (upd h2 p (.lst acc))) X
  | .own e, σ, h, Q, X => wE e σ h Q X
def wEs : Es → St → Hp → (List W → Hp → Prop) → XK → Prop
  | .nil, _, h, Q, _ => Q [] h
  | .cons e r, σ, h, Q, X => wE e σ h (fun v h1 => wEs r σ h1 (fun vs h2 => Q (v :: vs) h2) X) X
/-- a text of parts -/
def wJ : Es → Str → St → Hp → (Str → Hp → Prop) → XK → Prop
  | .nil, acc, _, h, Q, _ => Q acc h
  | .cons e r, acc, σ, h, Q, X => wE e σ h (fun v h1 => match v with
    | .str y => (acc ++ y).length ≤ sizeLine ∧ wJ r (acc ++ y) σ h1 Q X
    | _ => False) X
/-- all tests hold, from the left -/
def wAll : Es → St → Hp → (Bool → Hp → Prop) → XK → Prop
  | .nil, _, h, Q, _ => Q true h
  | .cons e r, σ, h, Q, X => wE e σ h (fun v h1 => match v with
    | .bl true => wAll r σ h1 Q X
    | .bl false => Q false h1
    | _ => False) X
def wEo : Eo → St → Hp → (Option Int → Hp → Prop) → XK → Prop
  | .no, _, h, Q, _ => Q none h
  | .so e, σ, h, Q, X => wE e σ h (fun v h1 => match v with
    | .int i => Q (some i) h1
    | _ => False) X
def wI : I → St → Hp → (List W → (Hp → Prop) → Hp → Prop) → XK → Prop
  | .of e, σ, h, R, X => wE e σ h (fun v h1 => opt (seqOf h1 v) fun p => R p.1 p.2 h1) X
  | .rng1 a, σ, h, R, X => wE a σ h (fun v h1 => match v with
    | .int j => -(2 ^ 62) ≤ j ∧ j < 2 ^ 62 ∧ R (rngW 0 j.toNat) (fun _ => True) h1
    | _ => False) X
  | .rng2 a b, σ, h, R, X => wE a σ h (fun v h1 => wE b σ h1 (fun u h2 => match v, u with
    | .int i, .int j => (-(2 ^ 62) ≤ i ∧ i < 2 ^ 62 ∧ -(2 ^ 62) ≤ j ∧ j < 2 ^ 62) ∧ R (rngW i (j - i).toNat) (fun _ => True) h2
    | _, _ => False) X) X
  | .enm a, σ, h, R, X => wE a σ h (fun v h1 => opt (seqOf h1 v) fun p => R (enumW 0 p.1) p.2 h1) X
  | .chr a, σ, h, R, X => wE a σ h (fun v h1 => match v with
    | .str z => R (chrs z) (fun _ => True) h1
    | _ => False) X
  | .zip a b, σ, h, R, X => wE a σ h (fun v h1 => wE b σ h1 (fun u h2 => opt (seqOf h2 v) fun p => opt (seqOf h2 u) fun q => isTup v = isTup u ∧ R (zipW p.1 q.1) (fun h' => p.2 h' ∧ q.2 h') h2) X) X
def wTg : Tg → W → St → Hp → (St → Hp → Prop) → XK → Prop
  | .nm i, v, σ, h, Q, _ => Q (σ.set i (some v)) h
  | .fld o f, v, σ, h, Q, X => wE o σ h (fun x h1 => match x with
    | .ref a => (match h1 a with
      | some (.ins c fs) => T.fldOk c f = true ∧ fs.length < 900 ∧ Q σ (upd h1 a (.ins c (putF fs f v)))
      | _ => False)
    | _ => False) X
  | .sub o i, v, σ, h, Q, X => wE o σ h (fun x h1 => wE i σ h1 (fun k h2 => match x, k with
    | .ref a, .int i => (match h2 a with
      | some (.lst xs) => opt (L2.ixN xs.length i) fun j => Q σ (upd h2 a (.lst (xs.set j v)))
      | _ => False)
    | _, _ => False) X) X
  | .tp ts, v, σ, h, Q, X => (match v with
    | .tup xs => xs.length = tgsLen ts ∧ wTgs ts xs σ h Q X
    | _ => False)
def wTgs : Tgs → List W → St → Hp → (St → Hp → Prop) → XK → Prop
  | .nil, vs, σ, h, Q, _ => vs = [] ∧ Q σ h
  | .cons t r, vs, σ, h, Q, X => (match vs with
    | v :: vs => wTg t v σ h (fun σ1 h1 => wTgs r vs σ1 h1 Q X) X
    | [] => False)
end

/-- a tuple of an exception's fields and constants -/
def tplW (fs : List (Nat × W)) : List (Sum Nat W) → Option (List W) := mapO fun
  | .inl f => getF fs f
  | .inr w => some w
/-- op= is served for ints -/
def augOk : Bop → W → W → Bool
  | .add, .int _, .int _ => true
  | .sub, .int _, .int _ => true
  | _, _, _ => false
/-- a while, at most n turns -/
def whlR (c : St → Hp → (W → Hp → Prop) → Prop) (b : St → Hp → (St → Hp → Prop) → Prop) (nx : St → Hp → Prop) : Nat → St → Hp → Prop
  | 0, _, _ => False
  | n + 1, σ, h => c σ h fun x h1 => match x with
    | .bl true => b σ h1 fun σ2 h2 => whlR c b nx n σ2 h2
    | .bl false => nx σ h1
    | _ => False
mutual
def wS : S → En → XK → St → Hp → Prop
  | .asg t e, D, X, σ, h => wE T F e σ h (fun v h1 => wTg T F t v σ h1 D.nx X) X
  | .aug i o e, D, X, σ, h => (match σ[i]? with
    | some (some x) => wE T F e σ h (fun y h1 => augOk o x y = true ∧ wBin T F o x y h1 (fun z h2 => D.nx (σ.set i (some z)) h2) X) X
    | _ => False)
  | .augS a i o e, D, X, σ, h => wE T F a σ h (fun x h1 => wE T F i σ h1 (fun k h2 => isL h2 x = true ∧ wIdx x k h2 fun u h3 => wE T F e σ h3 (fun y h4 => augOk o u y = true ∧ wBin T F o u y h4 (fun z h5 => match x, k with
    | .ref a, .int i => (match h5 a with
      | some (.lst xs) => opt (L2.ixN xs.length i) fun j => D.nx σ (upd h5 a (.lst (xs.set j z)))
      | _ => False)
    | _, _ => False) X) X) X) X
  | .augF a f o e, D, X, σ, h => wE T F a σ h (fun x h1 => opt (isIns h1 x) fun c => wFld T x f h1 fun u h2 => wE T F e σ h2 (fun y h3 => augOk o u y = true ∧ wBin T F o u y h3 (fun z h4 => match x with
    | .ref a => (match h4 a with
      | some (.ins c' fs) => c' = c ∧ fs.length < 900 ∧ D.nx σ (upd h4 a (.ins c (putF fs f z)))
      | _ => False)
    | _ => False) X) X) X
  | .exp e, D, X, σ, h => wE T F e σ h (fun _ h1 => D.nx σ h1) X
  | .ret e, D, X, σ, h => wE T F e σ h D.rt X
  | .retN, D, _, _, h => D.rt .non h
  | .ifs c a b, D, X, σ, h => wE T F c σ h (fun x h1 => match x with
    | .bl true => wSs a D X σ h1
    | .bl false => wSs b D X σ h1
    | _ => False) X
  | .whl c b, D, X, σ, h => ∃ n, whlR (fun σ h Q => wE T F c σ h Q X) (fun σ h N => wSs b ⟨N, D.rt, D.nx, N⟩ X σ h) D.nx n σ h
  | .fr t it b, D, X, σ, h => wI T F it σ h (fun xs G h1 => forR G (fun x σ h N => wTg T F t x σ h (fun σ2 h2 => wSs b ⟨N, D.rt, D.nx, N⟩ X σ2 h2) X) xs σ h1 D.nx) X
  | .pas, D, _, σ, h => D.nx σ h
  | .brk, D, _, σ, h => D.bk σ h
  | .cont, D, _, σ, h => D.ct σ h
  | .never, _, _, _, _ => False
  | .rais c fs as, _, X, σ, h => wEs T F as σ h (fun vs h1 => vs.length = fs.length ∧ X c (fs.zip vs) h1) X
  | .tr s r asg hs, D, X, σ, h => wS s ⟨fun σ1 h1 => wSs r D (fun _ _ _ => False) σ1 h1, D.rt, D.bk, D.ct⟩ (fun c fs h' => T.exOk c = true ∧ match hs.find? (fun H => T.sub c H.c) with
    | some H => (c = H.c ∧ H.i < σ.length) ∧ opt (tplW fs H.tp) fun ws => D.nx ((List.replicate σ.length none).set H.j (some (.tup ws))) h'
    | none => X c fs h') σ h
def wSs : Ss → En → XK → St → Hp → Prop
  | .nil, D, _, σ, h => D.nx σ h
  | .cons s r, D, X, σ, h => wS s ⟨fun σ' h' => wSs r D X σ' h', D.rt, D.bk, D.ct⟩ X σ h
end
end
end Mi
set_option maxHeartbeats 4000000
namespace Mi
open PySem
/-- what follows may be weakened -/
def Mo (F : Fn) : Prop := ∀ f ws h (Q Q' : K1) (X X' : XK), (∀ w h, Q w h → Q' w h) → (∀ c fs h, X c fs h → X' c fs h) → F f ws h Q X → F f ws h Q' X'
theorem opt_mono {α : Type} {o : Option α} {Q Q' : α → Prop} (q : ∀ a, Q a → Q' a) (h : opt o Q) : opt o Q' := by
  cases o with
  | none => exact h
  | some a => exact q a h
theorem wIn_mono {h : Hp} {Q Q' : K1} (q : ∀ w h, Q w h → Q' w h) {n : Bool} {x y : W} (z : wIn n x y h Q) : wIn n x y h Q' := by
  unfold wIn at *
  split at z
  · exact q _ _ z
  · exact opt_mono (fun _ e => opt_mono (fun _ e => opt_mono (fun _ e => q _ _ e) e) e) z
section
variable {T : Tab} {F : Fn} (mF : Mo F) {h : Hp} {Q Q' : K1} {X X' : XK} (q : ∀ w h, Q w h → Q' w h) (qx : ∀ c fs h, X c fs h → X' c fs h)
include mF q qx
theorem own2_mono {o : Bop} {x y : W} (z : own2 T F o x y h Q X) : own2 T F o x y h Q' X' := by
  unfold own2 at *
  split at z
  · split at z
    · exact ⟨z.1, opt_mono (fun f e => mF _ _ _ _ _ _ _ q qx e) z.2⟩
    · exact z
  · split at z
    · exact opt_mono (fun f e => mF _ _ _ _ _ _ _ q qx e) z
    · exact z
  · split at z
    · exact opt_mono (fun f e => mF _ _ _ _ _ _ _ q qx e) z
    · exact z
  · exact z
theorem wAdd_mono {x y : W} (z : wAdd T F x y h Q X) : wAdd T F x y h Q' X' := by
  unfold wAdd at *
  split at z
  · exact q _ _ z
  · exact ⟨z.1, q _ _ z.2⟩
  · exact ⟨z.1, q _ _ z.2⟩
  · split at z
    · exact ⟨z.1, fun p hp => q _ _ (z.2 p hp)⟩
    · exact own2_mono mF q qx z
  · exact own2_mono mF q qx z
theorem wSub_mono {x y : W} (z : wSub T F x y h Q X) : wSub T F x y h Q' X' := by
  unfold wSub at *
  split at z
  · exact q _ _ z
  · exact own2_mono mF q qx z
theorem wMul_mono {x y : W} (z : wMul T F x y h Q X) : wMul T F x y h Q' X' := by
  unfold wMul at *
  split at z
  · exact ⟨z.1, q _ _ z.2⟩
  · split at z
    · exact ⟨z.1, z.2.1, z.2.2.1, fun p hp => q _ _ (z.2.2.2 p hp)⟩
    · exact own2_mono mF q qx z
  · exact own2_mono mF q qx z
theorem wFdiv_mono {x y : W} (z : wFdiv T F x y h Q X) : wFdiv T F x y h Q' X' := by
  unfold wFdiv at *
  split at z
  · exact ⟨z.1, z.2.1, q _ _ z.2.2⟩
  · exact own2_mono mF q qx z
theorem wMod_mono {x y : W} (z : wMod T F x y h Q X) : wMod T F x y h Q' X' := by
  unfold wMod at *
  split at z
  · exact ⟨z.1, q _ _ z.2⟩
  · exact own2_mono mF q qx z
theorem wBin_mono {o : Bop} {x y : W} (z : wBin T F o x y h Q X) : wBin T F o x y h Q' X' := by
  cases o with
  | add => exact wAdd_mono mF q qx z
  | sub => exact wSub_mono mF q qx z
  | mul => exact wMul_mono mF q qx z
  | fdiv => exact wFdiv_mono mF q qx z
  | mod => exact wMod_mono mF q qx z
  | pow =>
    unfold wBin wPow at *
    dsimp only at *
    split at z
    · exact ⟨z.1, q _ _ z.2⟩
    · exact z
theorem wEq_mono {n : Bool} {x y : W} (z : wEq T F n x y h Q X) : wEq T F n x y h Q' X' := by
  unfold wEq at *
  have q2 : ∀ w h, (∃ b, w = W.bl b ∧ Q (.bl (if n then !b else b)) h) → (∃ b, w = W.bl b ∧ Q' (.bl (if n then !b else b)) h) := fun w h ⟨b, e, k⟩ => ⟨b, e, q _ _ k⟩
  split at z
  · exact opt_mono (fun d e => opt_mono (fun d2 e2 => ⟨e2.1, e2.2.1, q _ _ e2.2.2⟩) e) z
  · exact ⟨z.1, opt_mono (fun f e => mF _ _ _ _ _ _ _ q2 qx e) z.2⟩
  · exact ⟨z.1, opt_mono (fun f e => mF _ _ _ _ _ _ _ q2 qx e) z.2⟩
  · exact ⟨z.1, opt_mono (fun f e => mF _ _ _ _ _ _ _ q2 qx e) z.2⟩
theorem wOrd_mono {o : Cop} {x y : W} (z : wOrd T F o x y h Q X) : wOrd T F o x y h Q' X' := by
  unfold wOrd at *
  split at z
  · exact q _ _ z
  · split at z
    · exact ⟨z.1, opt_mono (fun f e => mF _ _ _ _ _ _ _ q qx e) z.2⟩
    · exact z
  · split at z
    · exact opt_mono (fun f e => mF _ _ _ _ _ _ _ q qx e) z
    · exact z
  · split at z
    · exact opt_mono (fun f e => mF _ _ _ _ _ _ _ q qx e) z
    · exact z
  · exact z
theorem wCmp_mono {o : Cop} {x y : W} (z : wCmp T F o x y h Q X) : wCmp T F o x y h Q' X' := by
  cases o with
  | eq => exact wEq_mono mF q qx z
  | ne => exact wEq_mono mF q qx z
  | isin => exact wIn_mono q z
  | notin => exact wIn_mono q z
  | isfls =>
    unfold wCmp at *
    dsimp only at *
    split at z
    · exact q _ _ z
    · exact z
  | isnon =>
    unfold wCmp at *
    dsimp only at *
    split at z <;> exact q _ _ z
  | notnon =>
    unfold wCmp at *
    dsimp only at *
    split at z <;> exact q _ _ z
  | lt => exact wOrd_mono mF q qx z
  | le => exact wOrd_mono mF q qx z
  | gt => exact wOrd_mono mF q qx z
  | ge => exact wOrd_mono mF q qx z
theorem wNeg_mono {x : W} (z : wNeg T F x h Q X) : wNeg T F x h Q' X' := by
  unfold wNeg at *
  split at z
  · exact q _ _ z
  · split at z
    · exact opt_mono (fun f e => mF _ _ _ _ _ _ _ q qx e) z
    · exact z
  · exact z
theorem wBif_mono {b : Bif} {vs : List W} (z : wBif T F b vs h Q X) : wBif T F b vs h Q' X' := by
  unfold wBif at *
  split at z
  · exact q _ _ z
  · exact ⟨z.1, q _ _ z.2⟩
  · split at z
    · exact q _ _ z
    · exact z
  · exact q _ _ z
  · split at z
    · exact opt_mono (fun f e => mF _ _ _ _ _ _ _ q qx e) z
    · exact z
  · exact q _ _ z
  · exact ⟨z.1, opt_mono (fun _ e => q _ _ e) z.2⟩
  · exact q _ _ z
  · split at z
    · exact q _ _ z
    · exact z
  · exact fun p hp => q _ _ (z p hp)
  · exact ⟨z.1, fun p hp => q _ _ (z.2 p hp)⟩
  · split at z
    · exact fun p hp => q _ _ (z p hp)
    · exact z
  · exact ⟨z.1, q _ _ z.2⟩
  · exact q _ _ z
  · split at z
    · exact opt_mono (fun f e => q _ _ e) z
    · exact z
  · split at z
    · exact opt_mono (fun f e => q _ _ e) z
    · exact z
  · exact z
end
section
variable {h : Hp} {Q Q' : K1} (q : ∀ w h, Q w h → Q' w h)
include q
theorem wIdx_mono {x y : W} (z : wIdx x y h Q) : wIdx x y h Q' := by
  unfold wIdx at *
  split at z
  · exact opt_mono (fun _ e => q _ _ e) z
  · exact ⟨z.1, opt_mono (fun _ e => q _ _ e) z.2⟩
  · split at z
    · exact opt_mono (fun _ e => q _ _ e) z
    · exact z
  · exact z
theorem wSl_mono {x : W} {lo hi : Option Int} (z : wSl x lo hi h Q) : wSl x lo hi h Q' := by
  unfold wSl at *
  split at z
  · exact q _ _ z
  · exact ⟨z.1, q _ _ z.2⟩
  · split at z
    · exact fun p hp => q _ _ (z p hp)
    · exact fun p hp => q _ _ (z p hp)
    · exact z
  · exact z
theorem wFld_mono {T : Tab} {x : W} {f : Nat} (z : wFld T x f h Q) : wFld T x f h Q' := by
  unfold wFld at *
  split at z
  · split at z
    · exact ⟨z.1, opt_mono (fun _ e => q _ _ e) z.2⟩
    · exact z
  · exact z
theorem wBm_mono {m : Bm} {x : W} {vs : List W} (z : wBm m x vs h Q) : wBm m x vs h Q' := by
  unfold wBm at *
  split at z
  · split at z
    · exact ⟨z.1, q _ _ z.2⟩
    · exact z
  · exact ⟨z.1, z.2.1, fun p hp => q _ _ (z.2.2 p hp)⟩
  · split at z
    · exact q _ _ z
    · exact z
  · split at z
    · exact opt_mono (fun _ e => ⟨e.1, q _ _ e.2⟩) z
    · exact z
  · exact z
end
theorem forR_mono {G : Hp → Prop} {step step' : W → St → Hp → (St → Hp → Prop) → Prop} {nx nx' : St → Hp → Prop} (hs : ∀ x σ h N N', (∀ σ h, N σ h → N' σ h) → step x σ h N → step' x σ h N') (hn : ∀ σ h, nx σ h → nx' σ h) :
    ∀ (xs : List W) (σ : St) (h : Hp), forR G step xs σ h nx → forR G step' xs σ h nx'
  | [], σ, h, z => ⟨z.1, hn _ _ z.2⟩
  | x :: xs, σ, h, z => ⟨z.1, hs x σ h _ _ (fun σ' h' e => forR_mono hs hn xs σ' h' e) z.2⟩
theorem lcR_mono {G : Hp → Prop} {step step' : W → List W → Hp → (List W → Hp → Prop) → Prop} {nx nx' : List W → Hp → Prop} (hs : ∀ x acc h N N', (∀ acc h, N acc h → N' acc h) → step x acc h N → step' x acc h N') (hn : ∀ acc h, nx acc h → nx' acc h) :
    ∀ (xs acc : List W) (h : Hp), lcR G step xs acc h nx → lcR G step' xs acc h nx'
  | [], acc, h, z => ⟨z.1, hn _ _ z.2⟩
  | x :: xs, acc, h, z => ⟨z.1, hs x acc h _ _ (fun σ' h' e => lcR_mono hs hn xs σ' h' e) z.2⟩
section
variable {T : Tab} {F : Fn} (mF : Mo F)
include mF
mutual
theorem wE_mono : ∀ (m : E) (σ : St) (h : Hp) (Q Q' : K1) (X X' : XK), (∀ w h, Q w h → Q' w h) → (∀ c fs h, X c fs h → X' c fs h) → wE T F m σ h Q X → wE T F m σ h Q' X'
  | .var i, σ, h, Q, Q', X, X', q, qx, z => by
    unfold wE at *
    split at z
    · exact q _ _ z
    · exact z
  | .cst w, σ, h, Q, Q', X, X', q, qx, z => by unfold wE at *; exact q _ _ z
  | .bin o a b, σ, h, Q, Q', X, X', q, qx, z => by
    unfold wE at *
    exact wE_mono a _ _ _ _ _ _ (fun x h1 e => wE_mono b _ _ _ _ _ _ (fun y h2 e2 => wBin_mono mF q qx e2) qx e) qx z
  | .neg a, σ, h, Q, Q', X, X', q, qx, z => by
    unfold wE at *
    exact wE_mono a _ _ _ _ _ _ (fun x h1 e => wNeg_mono mF q qx e) qx z
  | .cmp o a b, σ, h, Q, Q', X, X', q, qx, z => by
    unfold wE at *
    exact wE_mono a _ _ _ _ _ _ (fun x h1 e => wE_mono b _ _ _ _ _ _ (fun y h2 e2 => wCmp_mono mF q qx e2) qx e) qx z
  | .cmp2 o p a b c, σ, h, Q, Q', X, X', q, qx, z => by
    unfold wE at *
    refine wE_mono a _ _ _ _ _ _ (fun x h1 e => wE_mono b _ _ _ _ _ _ (fun y h2 e2 => wCmp_mono mF (fun r h3 e3 => ?_) qx e2) qx e) qx z
    split at e3
    · exact wE_mono c _ _ _ _ _ _ (fun z h4 e4 => wCmp_mono mF q qx e4) qx e3
    · exact q _ _ e3
    · exact e3
  | .and a b, σ, h, Q, Q', X, X', q, qx, z => by
    unfold wE at *
    refine wE_mono a _ _ _ _ _ _ (fun x h1 e => ?_) qx z
    split at e
    · exact wE_mono b _ _ _ _ _ _ q qx e
    · exact q _ _ e
    · exact e
  | .or a b, σ, h, Q, Q', X, X', q, qx, z => by
    unfold wE at *
    refine wE_mono a _ _ _ _ _ _ (fun x h1 e => ?_) qx z
    split at e
    · exact q _ _ e
    · exact wE_mono b _ _ _ _ _ _ q qx e
    · exact e
  | .not a, σ, h, Q, Q', X, X', q, qx, z => by
    unfold wE at *
    refine wE_mono a _ _ _ _ _ _ (fun x h1 e => ?_) qx z
    split at e
    · exact q _ _ e
    · exact e
  | .ite c a b, σ, h, Q, Q', X, X', q, qx, z => by
    unfold wE at *
    refine wE_mono c _ _ _ _ _ _ (fun x h1 e => ?_) qx z
    split at e
    · exact wE_mono a _ _ _ _ _ _ q qx e
    · exact wE_mono b _ _ _ _ _ _ q qx e
    · exact e
  | .tup es, σ, h, Q, Q', X, X', q, qx, z => by
    unfold wE at *
    exact wEs_mono es _ _ _ _ _ _ (fun x h1 e => q _ _ e) qx z
  | .lst es, σ, h, Q, Q', X, X', q, qx, z => by
    unfold wE at *
    exact wEs_mono es _ _ _ _ _ _ (fun x h1 e p hp => q _ _ (e p hp)) qx z
  | .dct ps, σ, h, Q, Q', X, X', q, qx, z => by
    unfold wE at *
    exact fun p hp => wEs_mono ps _ _ _ _ _ _ (fun vs h2 e => ⟨e.1, opt_mono (fun kvs e2 => ⟨e2.1, e2.2.1, q _ _ e2.2.2⟩) e.2⟩) qx (z p hp)
  | .fmt e, σ, h, Q, Q', X, X', q, qx, z => by
    unfold wE at *
    refine wE_mono e _ _ _ _ _ _ (fun x h1 e => ?_) qx z
    split at e
    · exact ⟨e.1, q _ _ e.2⟩
    · exact ⟨e.1, q _ _ e.2⟩
    · exact e
  | .js es, σ, h, Q, Q', X, X', q, qx, z => by
    unfold wE at *
    exact wJ_mono es _ _ _ _ _ _ _ (fun x h1 e => q _ _ e) qx z
  | .idx a i, σ, h, Q, Q', X, X', q, qx, z => by
    unfold wE at *
    exact wE_mono a _ _ _ _ _ _ (fun x h1 e => wE_mono i _ _ _ _ _ _ (fun y h2 e2 => wIdx_mono q e2) qx e) qx z
  | .sl a lo hi, σ, h, Q, Q', X, X', q, qx, z => by
    unfold wE at *
    exact wE_mono a _ _ _ _ _ _ (fun x h1 e => wEo_mono lo _ _ _ _ _ _ (fun y h2 e2 => wEo_mono hi _ _ _ _ _ _ (fun u h3 e3 => wSl_mono q e3) qx e2) qx e) qx z
  | .fld a f, σ, h, Q, Q', X, X', q, qx, z => by
    unfold wE at *
    exact wE_mono a _ _ _ _ _ _ (fun x h1 e => wFld_mono q e) qx z
  | .call f as ds, σ, h, Q, Q', X, X', q, qx, z => by
    unfold wE at *
    exact wEs_mono as _ _ _ _ _ _ (fun x h1 e => mF _ _ _ _ _ _ _ q qx e) qx z
  | .callK f as g, σ, h, Q, Q', X, X', q, qx, z => by
    unfold wE at *
    exact wEs_mono as _ _ _ _ _ _ (fun x h1 e => opt_mono (fun _ e => mF _ _ _ _ _ _ _ q qx e) e) qx z
  | .make c f as ds, σ, h, Q, Q', X, X', q, qx, z => by
    unfold wE at *
    exact wEs_mono as _ _ _ _ _ _ (fun x h1 e p hp => mF _ _ _ _ _ _ _ (fun w h2 e2 => ⟨e2.1, q _ _ e2.2⟩) qx (e p hp)) qx z
  | .makeK c f as g, σ, h, Q, Q', X, X', q, qx, z => by
    unfold wE at *
    exact wEs_mono as _ _ _ _ _ _ (fun x h1 e => opt_mono (fun _ e p hp => mF _ _ _ _ _ _ _ (fun w h2 e2 => ⟨e2.1, q _ _ e2.2⟩) qx (e p hp)) e) qx z
  | .meth o m as, σ, h, Q, Q', X, X', q, qx, z => by
    unfold wE at *
    exact wE_mono o _ _ _ _ _ _ (fun x h1 e => opt_mono (fun c e => ⟨e.1, opt_mono (fun f e => wEs_mono as _ _ _ _ _ _ (fun vs h2 e2 => mF _ _ _ _ _ _ _ q qx e2) qx e) e.2⟩) e) qx z
  | .bif b as, σ, h, Q, Q', X, X', q, qx, z => by
    unfold wE at *
    exact wEs_mono as _ _ _ _ _ _ (fun x h1 e => wBif_mono mF q qx e) qx z
  | .bm m o as, σ, h, Q, Q', X, X', q, qx, z => by
    unfold wE at *
    exact wE_mono o _ _ _ _ _ _ (fun x h1 e => ⟨e.1, wEs_mono as _ _ _ _ _ _ (fun x h1 e => wBm_mono q e) qx e.2⟩) qx z
  | .isi a cs, σ, h, Q, Q', X, X', q, qx, z => by
    unfold wE at *
    exact wE_mono a _ _ _ _ _ _ (fun x h1 e => ⟨e.1, q _ _ e.2⟩) qx z
  | .lc e tg it ifs own, σ, h, Q, Q', X, X', q, qx, z => by
    unfold wE at *
    refine wI_mono it _ _ _ _ _ _ (fun xs G h1 e1 => lcR_mono (fun x acc h2 N N' hN e2 => wTg_mono tg _ _ _ _ _ _ _ (fun σ3 h3 e3 => wAll_mono ifs _ _ _ _ _ _ (fun b h4 e4 => ?_) (fun _ _ _ z => z) e3) (fun _ _ _ z => z) e2) (fun acc h2 e2 p hp => q _ _ (e2 p hp)) _ _ _ e1) qx z
    split at e4
    · rename_i hb
      rw [if_pos hb]
      exact wE_mono e _ _ _ _ _ _ (fun v h5 e5 => ⟨e5.1, hN _ _ e5.2⟩) (fun _ _ _ z => z) e4
    · rename_i hb
      rw [if_neg hb]
      exact hN _ _ e4
  | .own e, σ, h, Q, Q', X, X', q, qx, z => by
    unfold wE at *
    exact wE_mono e _ _ _ _ _ _ q qx z
theorem wEs_mono : ∀ (m : Es) (σ : St) (h : Hp) (Q Q' : List W → Hp → Prop) (X X' : XK), (∀ w h, Q w h → Q' w h) → (∀ c fs h, X c fs h → X' c fs h) → wEs T F m σ h Q X → wEs T F m σ h Q' X'
  | .nil, σ, h, Q, Q', X, X', q, qx, z => by unfold wEs at *; exact q _ _ z
  | .cons e r, σ, h, Q, Q', X, X', q, qx, z => by
    unfold wEs at *
    exact wE_mono e _ _ _ _ _ _ (fun x h1 e => wEs_mono r _ _ _ _ _ _ (fun vs h2 e2 => q _ _ e2) qx e) qx z
theorem wAll_mono : ∀ (m : Es) (σ : St) (h : Hp) (Q Q' : Bool → Hp → Prop) (X X' : XK), (∀ w h, Q w h → Q' w h) → (∀ c fs h, X c fs h → X' c fs h) → wAll T F m σ h Q X → wAll T F m σ h Q' X'
  | .nil, σ, h, Q, Q', X, X', q, qx, z => by unfold wAll at *; exact q _ _ z
  | .cons e r, σ, h, Q, Q', X, X', q, qx, z => by
    unfold wAll at *
    refine wE_mono e _ _ _ _ _ _ (fun x h1 e => ?_) qx z
    split at e
    · exact wAll_mono r _ _ _ _ _ _ q qx e
    · exact q _ _ e
    · exact e
theorem wJ_mono : ∀ (m : Es) (acc : Str) (σ : St) (h : Hp) (Q Q' : Str → Hp → Prop) (X X' : XK), (∀ w h, Q w h → Q' w h) → (∀ c fs h, X c fs h → X' c fs h) → wJ T F m acc σ h Q X → wJ T F m acc σ h Q' X'
  | .nil, acc, σ, h, Q, Q', X, X', q, qx, z => by unfold wJ at *; exact q _ _ z
  | .cons e r, acc, σ, h, Q, Q', X, X', q, qx, z => by
    unfold wJ at *
    refine wE_mono e _ _ _ _ _ _ (fun x h1 e => ?_) qx z
    split at e
    · exact ⟨e.1, wJ_mono r _ _ _ _ _ _ _ q qx e.2⟩
    · exact e
theorem wEo_mono : ∀ (m : Eo) (σ : St) (h : Hp) (Q Q' : Option Int → Hp → Prop) (X X' : XK), (∀ w h, Q w h → Q' w h) → (∀ c fs h, X c fs h → X' c fs h) → wEo T F m σ h Q X → wEo T F m σ h Q' X'
  | .no, σ, h, Q, Q', X, X', q, qx, z => by unfold wEo at *; exact q _ _ z
  | .so e, σ, h, Q, Q', X, X', q, qx, z => by
    unfold wEo at *
    refine wE_mono e _ _ _ _ _ _ (fun x h1 e => ?_) qx z
    split at e
    · exact q _ _ e
    · exact e
theorem wI_mono : ∀ (m : I) (σ : St) (h : Hp) (Q Q' : List W → (Hp → Prop) → Hp → Prop) (X X' : XK), (∀ w G h, Q w G h → Q' w G h) → (∀ c fs h, X c fs h → X' c fs h) → wI T F m σ h Q X → wI T F m σ h Q' X'
  | .of e, σ, h, Q, Q', X, X', q, qx, z => by
    unfold wI at *
    exact wE_mono e _ _ _ _ _ _ (fun x h1 e => opt_mono (fun p e => q _ _ _ e) e) qx z
  | .rng1 a, σ, h, Q, Q', X, X', q, qx, z => by
    unfold wI at *
    refine wE_mono a _ _ _ _ _ _ (fun x h1 e => ?_) qx z
    split at e
    · exact ⟨e.1, e.2.1, q _ _ _ e.2.2⟩
    · exact e
  | .rng2 a b, σ, h, Q, Q', X, X', q, qx, z => by
    unfold wI at *
    refine wE_mono a _ _ _ _ _ _ (fun x h1 e => wE_mono b _ _ _ _ _ _ (fun y h2 e2 => ?_) qx e) qx z
    split at e2
    · exact ⟨e2.1, q _ _ _ e2.2⟩
    · exact e2
  | .chr a, σ, h, Q, Q', X, X', q, qx, z => by
    unfold wI at *
    refine wE_mono a _ _ _ _ _ _ (fun x h1 e => ?_) qx z
    split at e
    · exact q _ _ _ e
    · exact e
  | .enm a, σ, h, Q, Q', X, X', q, qx, z => by
    unfold wI at *
    exact wE_mono a _ _ _ _ _ _ (fun x h1 e => opt_mono (fun p e => q _ _ _ e) e) qx z
  | .zip a b, σ, h, Q, Q', X, X', q, qx, z => by
    unfold wI at *
    exact wE_mono a _ _ _ _ _ _ (fun x h1 e => wE_mono b _ _ _ _ _ _ (fun y h2 e2 => opt_mono (fun p e => opt_mono (fun p e => ⟨e.1, q _ _ _ e.2⟩) e) e2) qx e) qx z
theorem wTg_mono : ∀ (m : Tg) (v : W) (σ : St) (h : Hp) (Q Q' : St → Hp → Prop) (X X' : XK), (∀ w h, Q w h → Q' w h) → (∀ c fs h, X c fs h → X' c fs h) → wTg T F m v σ h Q X → wTg T F m v σ h Q' X'
  | .nm i, v, σ, h, Q, Q', X, X', q, qx, z => by unfold wTg at *; exact q _ _ z
  | .fld o f, v, σ, h, Q, Q', X, X', q, qx, z => by
    unfold wTg at *
    refine wE_mono o _ _ _ _ _ _ (fun x h1 e => ?_) qx z
    split at e
    · split at e
      · exact ⟨e.1, e.2.1, q _ _ e.2.2⟩
      · exact e
    · exact e
  | .sub o i, v, σ, h, Q, Q', X, X', q, qx, z => by
    unfold wTg at *
    refine wE_mono o _ _ _ _ _ _ (fun x h1 e => wE_mono i _ _ _ _ _ _ (fun y h2 e2 => ?_) qx e) qx z
    split at e2
    · split at e2
      · exact opt_mono (fun _ e => q _ _ e) e2
      · exact e2
    · exact e2
  | .tp ts, v, σ, h, Q, Q', X, X', q, qx, z => by
    unfold wTg at *
    split at z
    · exact ⟨z.1, wTgs_mono ts _ _ _ _ _ _ _ q qx z.2⟩
    · exact z
theorem wTgs_mono : ∀ (m : Tgs) (v : List W) (σ : St) (h : Hp) (Q Q' : St → Hp → Prop) (X X' : XK), (∀ w h, Q w h → Q' w h) → (∀ c fs h, X c fs h → X' c fs h) → wTgs T F m v σ h Q X → wTgs T F m v σ h Q' X'
  | .nil, v, σ, h, Q, Q', X, X', q, qx, z => by unfold wTgs at *; exact ⟨z.1, q _ _ z.2⟩
  | .cons t r, v, σ, h, Q, Q', X, X', q, qx, z => by
    unfold wTgs at *
    split at z
    · exact wTg_mono t _ _ _ _ _ _ _ (fun σ1 h1 e => wTgs_mono r _ _ _ _ _ _ _ q qx e) qx z
    · exact z
end
end
theorem whlR_mono {c c' : St → Hp → (W → Hp → Prop) → Prop} {b b' : St → Hp → (St → Hp → Prop) → Prop} {nx nx' : St → Hp → Prop} (hc : ∀ σ h Q Q', (∀ w h, Q w h → Q' w h) → c σ h Q → c' σ h Q') (hb : ∀ σ h N N', (∀ σ h, N σ h → N' σ h) → b σ h N → b' σ h N') (hn : ∀ σ h, nx σ h → nx' σ h) :
    ∀ (n : Nat) (σ : St) (h : Hp), whlR c b nx n σ h → whlR c' b' nx' n σ h
  | 0, _, _, z => z
  | n + 1, σ, h, z => by
    unfold whlR at *
    refine hc _ _ _ _ (fun x h1 e => ?_) z
    split at e
    · exact hb _ _ _ _ (fun σ2 h2 e2 => whlR_mono hc hb hn n σ2 h2 e2) e
    · exact hn _ _ e
    · exact e
structure EnLe (D D' : En) : Prop where
  nx : ∀ σ h, D.nx σ h → D'.nx σ h
  rt : ∀ w h, D.rt w h → D'.rt w h
  bk : ∀ σ h, D.bk σ h → D'.bk σ h
  ct : ∀ σ h, D.ct σ h → D'.ct σ h
section
variable {T : Tab} {F : Fn} (mF : Mo F)
include mF
mutual
theorem wS_mono : ∀ (m : S) (D D' : En) (X X' : XK) (σ : St) (h : Hp), EnLe D D' → (∀ c fs h, X c fs h → X' c fs h) → wS T F m D X σ h → wS T F m D' X' σ h
  | .asg t e, D, D', X, X', σ, h, d, qx, z => by
    unfold wS at *
    exact wE_mono mF e _ _ _ _ _ _ (fun v h1 e => wTg_mono mF t _ _ _ _ _ _ _ d.nx qx e) qx z
  | .aug i o e, D, D', X, X', σ, h, d, qx, z => by
    unfold wS at *
    split at z
    · exact wE_mono mF e _ _ _ _ _ _ (fun v h1 e => ⟨e.1, wBin_mono mF (fun w h2 e => d.nx _ _ e) qx e.2⟩) qx z
    · exact z
  | .augS a i o e, D, D', X, X', σ, h, d, qx, z => by
    unfold wS at *
    refine wE_mono mF a _ _ _ _ _ _ (fun v h1 e1 => wE_mono mF i _ _ _ _ _ _ (fun v h1 e2 => ⟨e2.1, wIdx_mono (fun w h2 e3 => wE_mono mF e _ _ _ _ _ _ (fun v h1 e4 => ⟨e4.1, wBin_mono mF (fun w h2 e5 => ?_) qx e4.2⟩) qx e3) e2.2⟩) qx e1) qx z
    split at e5
    · split at e5
      · exact opt_mono (fun _ e => d.nx _ _ e) e5
      · exact e5
    · exact e5
  | .augF a f o e, D, D', X, X', σ, h, d, qx, z => by
    unfold wS at *
    refine wE_mono mF a _ _ _ _ _ _ (fun v h1 e1 => opt_mono (fun c e1 => wFld_mono (fun w h2 e3 => wE_mono mF e _ _ _ _ _ _ (fun v h1 e4 => ⟨e4.1, wBin_mono mF (fun w h2 e5 => ?_) qx e4.2⟩) qx e3) e1) e1) qx z
    split at e5
    · split at e5
      · exact ⟨e5.1, e5.2.1, d.nx _ _ e5.2.2⟩
      · exact e5
    · exact e5
  | .exp e, D, D', X, X', σ, h, d, qx, z => by
    unfold wS at *
    exact wE_mono mF e _ _ _ _ _ _ (fun v h1 e => d.nx _ _ e) qx z
  | .ret e, D, D', X, X', σ, h, d, qx, z => by
    unfold wS at *
    exact wE_mono mF e _ _ _ _ _ _ d.rt qx z
  | .retN, D, D', X, X', σ, h, d, qx, z => by unfold wS at *; exact d.rt _ _ z
  | .ifs c a b, D, D', X, X', σ, h, d, qx, z => by
    unfold wS at *
    refine wE_mono mF c _ _ _ _ _ _ (fun v h1 e => ?_) qx z
    split at e
    · exact wSs_mono a _ _ _ _ _ _ d qx e
    · exact wSs_mono b _ _ _ _ _ _ d qx e
    · exact e
  | .whl c b, D, D', X, X', σ, h, d, qx, z => by
    unfold wS at *
    obtain ⟨n, z⟩ := z
    exact ⟨n, whlR_mono (fun σ h Q Q' q e => wE_mono mF c σ h _ _ _ _ q qx e) (fun σ h N N' q e => wSs_mono b ⟨N, D.rt, D.nx, N⟩ ⟨N', D'.rt, D'.nx, N'⟩ _ _ σ h ⟨q, d.rt, d.nx, q⟩ qx e) d.nx n σ h z⟩
  | .fr t it b, D, D', X, X', σ, h, d, qx, z => by
    unfold wS at *
    exact wI_mono mF it _ _ _ _ _ _ (fun xs G h1 e => forR_mono (fun x σ h N N' q e => wTg_mono mF t _ _ _ _ _ _ _ (fun σ2 h2 e => wSs_mono b ⟨N, D.rt, D.nx, N⟩ ⟨N', D'.rt, D'.nx, N'⟩ _ _ _ _ ⟨q, d.rt, d.nx, q⟩ qx e) qx e) d.nx _ _ _ e) qx z
  | .pas, D, D', X, X', σ, h, d, qx, z => by unfold wS at *; exact d.nx _ _ z
  | .brk, D, D', X, X', σ, h, d, qx, z => by unfold wS at *; exact d.bk _ _ z
  | .cont, D, D', X, X', σ, h, d, qx, z => by unfold wS at *; exact d.ct _ _ z
  | .never, D, D', X, X', σ, h, d, qx, z => by unfold wS at *; exact z
  | .rais c fs as, D, D', X, X', σ, h, d, qx, z => by
    unfold wS at *
    exact wEs_mono mF as _ _ _ _ _ _ (fun vs h1 e => ⟨e.1, qx _ _ _ e.2⟩) qx z
  | .tr s r asg hs, D, D', X, X', σ, h, d, qx, z => by
    unfold wS at *
    refine wS_mono s ⟨fun σ1 h1 => wSs T F r D (fun _ _ _ => False) σ1 h1, D.rt, D.bk, D.ct⟩ ⟨fun σ1 h1 => wSs T F r D' (fun _ _ _ => False) σ1 h1, D'.rt, D'.bk, D'.ct⟩ _ _ _ _ ⟨fun σ1 h1 e => wSs_mono r _ _ _ _ _ _ d (fun _ _ _ z => z) e, d.rt, d.bk, d.ct⟩ (fun c fs h' e => ?_) z
    refine ⟨e.1, ?_⟩
    have e := e.2
    split at e
    · exact ⟨e.1, opt_mono (fun ws q => d.nx _ _ q) e.2⟩
    · exact qx _ _ _ e
theorem wSs_mono : ∀ (m : Ss) (D D' : En) (X X' : XK) (σ : St) (h : Hp), EnLe D D' → (∀ c fs h, X c fs h → X' c fs h) → wSs T F m D X σ h → wSs T F m D' X' σ h
  | .nil, D, D', X, X', σ, h, d, qx, z => by unfold wSs at *; exact d.nx _ _ z
  | .cons s r, D, D', X, X', σ, h, d, qx, z => by
    unfold wSs at *
    exact wS_mono s ⟨fun σ' h' => wSs T F r D X σ' h', D.rt, D.bk, D.ct⟩ ⟨fun σ' h' => wSs T F r D' X' σ' h', D'.rt, D'.bk, D'.ct⟩ _ _ _ _ ⟨fun σ' h' e => wSs_mono r _ _ _ _ _ _ d qx e, d.rt, d.bk, d.ct⟩ qx z
end
end
end Mi
set_option maxHeartbeats 4000000
namespace Mi
open PySem

/-- the text's names: a class's address, a field's or method's name -/
structure Tn where
  CA : Nat → Addr
  nm : Nat → Str
  n : Nat
  inj : ∀ f g, f < n → g < n → nm f = nm g → f = g

mutual
inductive VR (K : PySem.W.Frag) (H : L2.Hp) : W → L2.V → Prop
  | non : VR K H .non .non
  | bl (b : Bool) : VR K H (.bl b) (.bl b)
  | int (i : Int) : VR K H (.int i) (.int i)
  | str (s : Str) : VR K H (.str s) (.str s)
  | tup {p : Addr} {xs : List W} {ys : List L2.V} : L2.SqT K H p ys → VA K H xs ys → VR K H (.tup xs) (.ref p)
  | ref (a : Addr) : VR K H (.ref a) (.ref a)
inductive VA (K : PySem.W.Frag) (H : L2.Hp) : List W → List L2.V → Prop
  | nil : VA K H [] []
  | cons {x : W} {v : L2.V} {xs : List W} {vs : List L2.V} : VR K H x v → VA K H xs vs → VA K H (x :: xs) (v :: vs)
end
inductive FR (t : Tn) (K : PySem.W.Frag) (H : L2.Hp) : List (Nat × W) → List (Str × L2.V) → Prop
  | nil : FR t K H [] []
  | cons {f : Nat} {w : W} {v : L2.V} {fs : List (Nat × W)} {gs : List (Str × L2.V)} : f < t.n → VR K H w v → FR t K H fs gs → FR t K H ((f, w) :: fs) ((t.nm f, v) :: gs)
inductive DR (K : PySem.W.Frag) (H : L2.Hp) : List (W × W) → List (L2.Key × L2.V) → Prop
  | nil : DR K H [] []
  | str {x : Str} {w : W} {v : L2.V} {r : List (W × W)} {r' : List (L2.Key × L2.V)} : VR K H w v → DR K H r r' → DR K H ((.str x, w) :: r) ((.inr x, v) :: r')
  | int {x : Int} {w : W} {v : L2.V} {r : List (W × W)} {r' : List (L2.Key × L2.V)} : VR K H w v → DR K H r r' → DR K H ((.int x, w) :: r) ((.inl x, v) :: r')
inductive OR (t : Tn) (K : PySem.W.Frag) (H : L2.Hp) : O → L2.HO → Prop
  | lst {xs : List W} {ys : List L2.V} : VA K H xs ys → OR t K H (.lst xs) (.lst ys)
  | fro {xs : List W} {ys : List L2.V} {o : Obj} : VA K H xs ys → OR t K H (.fro xs) (.frz o (.lst ys))
  | dct {kvs : List (W × W)} {ks : List (L2.Key × L2.V)} : DR K H kvs ks → OR t K H (.dct kvs) (.dK ks)
  | ins {c : Nat} {dx : Addr} {fs : List (Nat × W)} {gs : List (Str × L2.V)} : FR t K H fs gs → OR t K H (.ins c fs) (.ins (t.CA c) dx gs)
def HR (t : Tn) (K : PySem.W.Frag) (h : Hp) (H : L2.Hp) : Prop := ∀ a o, h a = some o → ∃ o', H a = some o' ∧ OR t K H o o'
/-- what is tracked and not known here stays -/
def Keep (h : Hp) (H : L2.Hp) (h' : Hp) (H' : L2.Hp) : Prop := ∀ a o, H a = some o → h a = none → h' a = none ∧ H' a = some o
structure SR (K : PySem.W.Frag) (H : L2.Hp) (σ : St) (τ : L2.St) : Prop where
  len : σ.length = τ.length
  at_ : ∀ (i : Nat) (w : W), σ[i]? = some (some w) → ∃ v, τ[i]? = some (some v) ∧ VR K H w v

/-! ### these stay -/
def TK (K : PySem.W.Frag) (H H' : L2.Hp) : Prop := ∀ p ys, L2.SqT K H p ys → L2.SqT K H' p ys
mutual
theorem VR.mono {K : PySem.W.Frag} {H H' : L2.Hp} (k : TK K H H') : ∀ {x : W} {v : L2.V}, VR K H x v → VR K H' x v
  | _, _, .non => .non
  | _, _, .bl b => .bl b
  | _, _, .int i => .int i
  | _, _, .str s => .str s
  | _, _, .tup h a => .tup (k _ _ h) (VA.mono k a)
  | _, _, .ref a => .ref a
theorem VA.mono {K : PySem.W.Frag} {H H' : L2.Hp} (k : TK K H H') : ∀ {xs : List W} {vs : List L2.V}, VA K H xs vs → VA K H' xs vs
  | _, _, .nil => .nil
  | _, _, .cons h a => .cons (VR.mono k h) (VA.mono k a)
end
theorem FR.mono {t : Tn} {K : PySem.W.Frag} {H H' : L2.Hp} (k : TK K H H') {fs : List (Nat × W)} {gs : List (Str × L2.V)} (h : FR t K H fs gs) : FR t K H' fs gs := by
  induction h with
  | nil => exact .nil
  | cons hf hv _ ih => exact .cons hf (hv.mono k) ih
theorem DR.mono {K : PySem.W.Frag} {H H' : L2.Hp} (k : TK K H H') {a : List (W × W)} {b : List (L2.Key × L2.V)} (h : DR K H a b) : DR K H' a b := by
  induction h with
  | nil => exact .nil
  | str hv _ ih => exact .str (hv.mono k) ih
  | int hv _ ih => exact .int (hv.mono k) ih
theorem OR.mono {t : Tn} {K : PySem.W.Frag} {H H' : L2.Hp} (k : TK K H H') {o : O} {u : L2.HO} (h : OR t K H o u) : OR t K H' o u := by
  cases h with
  | lst a => exact .lst (a.mono k)
  | fro a => exact .fro (a.mono k)
  | dct a => exact .dct (a.mono k)
  | ins a => exact .ins (a.mono k)
theorem SR.mono {K : PySem.W.Frag} {H H' : L2.Hp} (k : TK K H H') {σ : St} {τ : L2.St} (h : SR K H σ τ) : SR K H' σ τ :=
  ⟨h.len, fun i w e => let ⟨v, e', r⟩ := h.at_ i w e; ⟨v, e', r.mono k⟩⟩
theorem Keep.refl {h : Hp} {H : L2.Hp} : Keep h H h H := fun _ _ e n => ⟨n, e⟩
theorem Keep.trans {h h1 h2 : Hp} {H H1 H2 : L2.Hp} (a : Keep h H h1 H1) (b : Keep h1 H1 h2 H2) : Keep h H h2 H2 := fun p o e n => b p o (a p o e n).2 (a p o e n).1
theorem HR.tupOff {t : Tn} {K : PySem.W.Frag} {h : Hp} {H : L2.Hp} (r : HR t K h H) {p : Addr} {u : L2.HO} (e : H p = some u) (hu : ∀ o, ¬ OR t K H o u) : h p = none := by
  cases q : h p with
  | none => rfl
  | some o =>
    obtain ⟨o', e', z⟩ := r p o q
    rw [e] at e'
    cases e'
    exact absurd z (hu o)
theorem Keep.tk {t : Tn} {K : PySem.W.Frag} {h h' : Hp} {H H' : L2.Hp} (r : HR t K h H) (k : Keep h H h' H') : TK K H H' := by
  intro p ys z
  rcases z with (z | ⟨o, z⟩) | z
  · exact .inl (.inl (k p _ z (r.tupOff z fun o q => by cases q)).2)
  · exact .inl (.inr ⟨o, (k p _ z (r.tupOff z fun o q => by cases q)).2⟩)
  · exact .inr z
/-- a new address, in H and here -/
theorem HR.free {t : Tn} {K : PySem.W.Frag} {h : Hp} {H : L2.Hp} (r : HR t K h H) {p : Addr} (n : H p = none) : h p = none := by
  cases q : h p with
  | none => rfl
  | some o =>
    obtain ⟨o', e', _⟩ := r p o q
    rw [n] at e'
    cases e'
theorem upd_same {h : Hp} {a : Addr} {o : O} : upd h a o a = some o := by unfold upd; rw [if_pos rfl]
theorem upd_ne {h : Hp} {a b : Addr} {o : O} (n : b ≠ a) : upd h a o b = h b := by unfold upd; rw [if_neg n]
theorem tk_new {K : PySem.W.Frag} {H : L2.Hp} {p : Addr} {u : L2.HO} (n : H p = none) : TK K H (L2.upd H p u) := by
  intro q ys z
  rcases z with (z | ⟨o, z⟩) | z
  · exact .inl (.inl (by rw [L2.upd_ne (L2.ne_of_none z n)]; exact z))
  · exact .inl (.inr ⟨o, by rw [L2.upd_ne (L2.ne_of_none z n)]; exact z⟩)
  · exact .inr z
/-- a new thing is laid, tracked and known -/
theorem go_new {t : Tn} {K : PySem.W.Frag} {h : Hp} {H : L2.Hp} (r : HR t K h H) {p : Addr} {o : O} {u : L2.HO} (n : H p = none) (z : OR t K H o u) : HR t K (upd h p o) (L2.upd H p u) ∧ Keep h H (upd h p o) (L2.upd H p u) := by
  refine ⟨fun a x e => ?_, fun a x e m => ?_⟩
  · by_cases q : a = p
    · subst q
      rw [upd_same] at e
      cases e
      exact ⟨u, L2.upd_same, z.mono (tk_new n)⟩
    · rw [upd_ne q] at e
      obtain ⟨o', e', y⟩ := r a x e
      exact ⟨o', by rw [L2.upd_ne q]; exact e', y.mono (tk_new n)⟩
  · have q : a ≠ p := L2.ne_of_none e n
    exact ⟨by rw [upd_ne q]; exact m, by rw [L2.upd_ne q]; exact e⟩
/-- a new thing is laid, tracked, not known here (a tuple) -/
theorem go_hid {t : Tn} {K : PySem.W.Frag} {h : Hp} {H : L2.Hp} (r : HR t K h H) {p : Addr} {u : L2.HO} (n : H p = none) : HR t K h (L2.upd H p u) ∧ Keep h H h (L2.upd H p u) := by
  refine ⟨fun a x e => ?_, fun a x e m => ?_⟩
  · obtain ⟨o', e', y⟩ := r a x e
    have q : a ≠ p := L2.ne_of_none e' n
    exact ⟨o', by rw [L2.upd_ne q]; exact e', y.mono (tk_new n)⟩
  · have q : a ≠ p := L2.ne_of_none e n
    exact ⟨m, by rw [L2.upd_ne q]; exact e⟩
theorem tk_set {t : Tn} {K : PySem.W.Frag} {h : Hp} {H : L2.Hp} (r : HR t K h H) {p : Addr} {o0 : O} {u : L2.HO} (e0 : h p = some o0) : TK K H (L2.upd H p u) := by
  obtain ⟨u0, e1, z0⟩ := r p o0 e0
  intro q ys z
  rcases z with (z | ⟨o, z⟩) | z
  · refine .inl (.inl ?_)
    rw [L2.upd_ne (fun y => by rw [y, e1] at z; cases z; cases z0)]
    exact z
  · refine .inl (.inr ⟨o, ?_⟩)
    rw [L2.upd_ne (fun y => by rw [y, e1] at z; cases z; cases z0)]
    exact z
  · exact .inr z
/-- a known thing is changed -/
theorem go_set {t : Tn} {K : PySem.W.Frag} {h : Hp} {H : L2.Hp} (r : HR t K h H) {p : Addr} {o0 o : O} {u : L2.HO} (e0 : h p = some o0) (z : OR t K H o u) : HR t K (upd h p o) (L2.upd H p u) ∧ Keep h H (upd h p o) (L2.upd H p u) := by
  refine ⟨fun a x e => ?_, fun a x e m => ?_⟩
  · by_cases q : a = p
    · subst q
      rw [upd_same] at e
      cases e
      exact ⟨u, L2.upd_same, z.mono (tk_set r e0)⟩
    · rw [upd_ne q] at e
      obtain ⟨o', e', y⟩ := r a x e
      exact ⟨o', by rw [L2.upd_ne q]; exact e', y.mono (tk_set r e0)⟩
  · have q : a ≠ p := fun y => by rw [y, e0] at m; cases m
    exact ⟨by rw [upd_ne q]; exact m, by rw [L2.upd_ne q]; exact e⟩

/-! ### lists -/
theorem VA.length {K : PySem.W.Frag} {H : L2.Hp} : ∀ {xs : List W} {vs : List L2.V}, VA K H xs vs → xs.length = vs.length
  | _, _, .nil => rfl
  | _, _, .cons _ a => by simp [a.length]
theorem VA.append {K : PySem.W.Frag} {H : L2.Hp} : ∀ {xs ys : List W} {vs us : List L2.V}, VA K H xs vs → VA K H ys us → VA K H (xs ++ ys) (vs ++ us)
  | _, _, _, _, .nil, b => b
  | _, _, _, _, .cons r a, b => .cons r (a.append b)
theorem VA.get {K : PySem.W.Frag} {H : L2.Hp} : ∀ {xs : List W} {vs : List L2.V} {i : Nat} {x : W}, VA K H xs vs → xs[i]? = some x → ∃ v, vs[i]? = some v ∧ VR K H x v
  | _, _, _, _, .nil, e => by simp at e
  | _, _, 0, _, .cons r _, e => by simp at e; subst e; exact ⟨_, rfl, r⟩
  | _, _, i + 1, _, .cons _ a, e => by simpa using a.get (i := i) (by simpa using e)
theorem VA.atI {K : PySem.W.Frag} {H : L2.Hp} {xs : List W} {vs : List L2.V} {i : Int} {x : W} (a : VA K H xs vs) (e : L2.atI xs i = some x) : ∃ v, L2.atI vs i = some v ∧ VR K H x v := by
  unfold L2.atI at *
  rw [a.length] at e
  cases q : L2.ixN vs.length i with
  | none => rw [q] at e; cases e
  | some j =>
    rw [q] at e
    exact a.get e
theorem VA.set {K : PySem.W.Frag} {H : L2.Hp} {x : W} {v : L2.V} (r : VR K H x v) : ∀ {xs : List W} {vs : List L2.V} (i : Nat), VA K H xs vs → VA K H (xs.set i x) (vs.set i v)
  | _, _, _, .nil => .nil
  | _, _, 0, .cons _ a => .cons r a
  | _, _, i + 1, .cons q a => .cons q (VA.set r i a)
theorem VA.take {K : PySem.W.Frag} {H : L2.Hp} : ∀ {xs : List W} {vs : List L2.V} (n : Nat), VA K H xs vs → VA K H (xs.take n) (vs.take n)
  | _, _, 0, _ => .nil
  | _, _, _ + 1, .nil => .nil
  | _, _, n + 1, .cons r a => .cons r (VA.take n a)
theorem VA.drop {K : PySem.W.Frag} {H : L2.Hp} : ∀ {xs : List W} {vs : List L2.V} (n : Nat), VA K H xs vs → VA K H (xs.drop n) (vs.drop n)
  | _, _, 0, a => a
  | _, _, _ + 1, .nil => .nil
  | _, _, n + 1, .cons _ a => VA.drop n a
theorem VA.cut {K : PySem.W.Frag} {H : L2.Hp} {xs : List W} {vs : List L2.V} {lo hi : Option Int} (a : VA K H xs vs) : VA K H (Mi.cut xs lo hi) (L2.cutV vs lo hi) := by
  unfold Mi.cut L2.cutV
  rw [a.length]
  exact (a.drop _).take _
theorem VA.rep {K : PySem.W.Frag} {H : L2.Hp} {xs : List W} {vs : List L2.V} (a : VA K H xs vs) : ∀ k : Nat, VA K H (List.replicate k xs).flatten (List.replicate k vs).flatten
  | 0 => .nil
  | k + 1 => by
    rw [List.replicate_succ, List.replicate_succ, List.flatten_cons, List.flatten_cons]
    exact a.append (VA.rep a k)
theorem VR.intW {K : PySem.W.Frag} {H : L2.Hp} {i : Int} {v : L2.V} (r : VR K H (.int i) v) : v = .int i := by cases r; rfl
theorem VR.blW {K : PySem.W.Frag} {H : L2.Hp} {b : Bool} {v : L2.V} (r : VR K H (.bl b) v) : v = .bl b := by cases r; rfl
theorem VR.strW {K : PySem.W.Frag} {H : L2.Hp} {b : Str} {v : L2.V} (r : VR K H (.str b) v) : v = .str b := by cases r; rfl
theorem VR.nonW {K : PySem.W.Frag} {H : L2.Hp} {v : L2.V} (r : VR K H .non v) : v = .non := by cases r; rfl
theorem VR.refW {K : PySem.W.Frag} {H : L2.Hp} {a : Addr} {v : L2.V} (r : VR K H (.ref a) v) : v = .ref a := by cases r; rfl
theorem VR.tupW {K : PySem.W.Frag} {H : L2.Hp} {xs : List W} {v : L2.V} (r : VR K H (.tup xs) v) : ∃ p ys, v = .ref p ∧ L2.SqT K H p ys ∧ VA K H xs ys := by
  cases r with
  | tup h a => exact ⟨_, _, rfl, h, a⟩
theorem FR.get {t : Tn} {K : PySem.W.Frag} {H : L2.Hp} {f : Nat} {w : W} (hf : f < t.n) : ∀ {fs : List (Nat × W)} {gs : List (Str × L2.V)}, FR t K H fs gs → getF fs f = some w → ∃ v, gs.lookup (t.nm f) = some v ∧ VR K H w v
  | _, _, .nil, e => by cases e
  | _, _, .cons (f := g) hg r a, e => by
    unfold getF at e
    by_cases q : g = f
    · rw [if_pos q] at e
      cases e
      subst q
      exact ⟨_, by simp [List.lookup], r⟩
    · rw [if_neg q] at e
      obtain ⟨v, e', r'⟩ := FR.get hf a e
      refine ⟨v, ?_, r'⟩
      have n : (t.nm f == t.nm g) = false := beq_eq_false_iff_ne.mpr fun z => q (t.inj f g hf hg z).symm
      simp only [List.lookup, n]
      exact e'
theorem FR.none {t : Tn} {K : PySem.W.Frag} {H : L2.Hp} {f : Nat} (hf : f < t.n) : ∀ {fs : List (Nat × W)} {gs : List (Str × L2.V)}, FR t K H fs gs → getF fs f = none → gs.lookup (t.nm f) = none
  | _, _, .nil, e => rfl
  | _, _, .cons (f := g) hg r a, e => by
    unfold getF at e
    by_cases q : g = f
    · rw [if_pos q] at e
      cases e
    · rw [if_neg q] at e
      have n : (t.nm f == t.nm g) = false := beq_eq_false_iff_ne.mpr fun z => q (t.inj f g hf hg z).symm
      simp only [List.lookup, n]
      exact FR.none hf a e
theorem FR.put {t : Tn} {K : PySem.W.Frag} {H : L2.Hp} {f : Nat} {w : W} {v : L2.V} (hf : f < t.n) (r : VR K H w v) : ∀ {fs : List (Nat × W)} {gs : List (Str × L2.V)}, FR t K H fs gs → FR t K H (putF fs f w) (L2.putF (t.nm f) v gs)
  | _, _, .nil => .cons hf r .nil
  | _, _, .cons (f := g) hg q a => by
    unfold putF L2.putF
    by_cases z : g = f
    · subst z
      rw [if_pos rfl, if_pos rfl]
      exact .cons hg r a
    · rw [if_neg z, if_neg fun y => z (t.inj g f hg hf y)]
      exact .cons hg q (FR.put hf r a)
theorem FR.length {t : Tn} {K : PySem.W.Frag} {H : L2.Hp} {fs : List (Nat × W)} {gs : List (Str × L2.V)} (h : FR t K H fs gs) : fs.length = gs.length := by
  induction h with
  | nil => rfl
  | cons _ _ _ ih => simp [ih]
theorem HR.lst {t : Tn} {K : PySem.W.Frag} {h : Hp} {H : L2.Hp} (r : HR t K h H) {a : Addr} {xs : List W} (e : h a = some (.lst xs)) : ∃ ys, H a = some (.lst ys) ∧ VA K H xs ys := by
  obtain ⟨o, e', z⟩ := r a _ e
  cases z with
  | lst z => exact ⟨_, e', z⟩
theorem HR.fro {t : Tn} {K : PySem.W.Frag} {h : Hp} {H : L2.Hp} (r : HR t K h H) {a : Addr} {xs : List W} (e : h a = some (.fro xs)) : ∃ ys o, H a = some (.frz o (.lst ys)) ∧ VA K H xs ys := by
  obtain ⟨o, e', z⟩ := r a _ e
  cases z with
  | fro z => exact ⟨_, _, e', z⟩
theorem HR.dct {t : Tn} {K : PySem.W.Frag} {h : Hp} {H : L2.Hp} (r : HR t K h H) {a : Addr} {kvs : List (W × W)} (e : h a = some (.dct kvs)) : ∃ ks, H a = some (.dK ks) ∧ DR K H kvs ks := by
  obtain ⟨o, e', z⟩ := r a _ e
  cases z with
  | dct z => exact ⟨_, e', z⟩
theorem HR.ins {t : Tn} {K : PySem.W.Frag} {h : Hp} {H : L2.Hp} (r : HR t K h H) {a : Addr} {c : Nat} {fs : List (Nat × W)} (e : h a = some (.ins c fs)) : ∃ dx gs, H a = some (.ins (t.CA c) dx gs) ∧ FR t K H fs gs := by
  obtain ⟨o, e', z⟩ := r a _ e
  cases z with
  | ins z => exact ⟨_, _, e', z⟩
theorem SR.set {K : PySem.W.Frag} {H : L2.Hp} {σ : St} {τ : L2.St} (h : SR K H σ τ) {i : Nat} {w : W} {v : L2.V} (r : VR K H w v) : SR K H (σ.set i (some w)) (τ.set i (some v)) := by
  refine ⟨by simp [h.len], fun j u e => ?_⟩
  by_cases q : i = j
  · subst q
    by_cases l : i < σ.length
    · rw [List.getElem?_set_self l] at e
      cases e
      exact ⟨v, by rw [List.getElem?_set_self (by rw [← h.len]; exact l)], r⟩
    · rw [List.getElem?_eq_none (by simpa using Nat.le_of_not_lt l)] at e
      cases e
  · rw [List.getElem?_set_ne q] at e
    obtain ⟨v', e', r'⟩ := h.at_ j u e
    exact ⟨v', by rw [List.getElem?_set_ne q]; exact e', r'⟩
/-- the names, and what is wanted of exceptions -/
structure Tx where
  tn : Tn
  W : L2.WX
instance : CoeOut Tx Tn := ⟨Tx.tn⟩
/-- nothing is let out -/
abbrev Tx.no (t : Tx) : Tx := ⟨t.tn, fun _ _ _ _ => False⟩
abbrev Tx.CA (t : Tx) : Nat → Addr := t.tn.CA
abbrev Tx.nm (t : Tx) : Nat → Str := t.tn.nm
abbrev Tx.n (t : Tx) : Nat := t.tn.n
theorem Tx.inj (t : Tx) : ∀ f g, f < t.n → g < t.n → t.nm f = t.nm g → f = g := t.tn.inj
end Mi
set_option maxHeartbeats 4000000
namespace Mi
open PySem PySem.Spec PyProof.Rows
open L2 (PE PT PW PA PS PSs PG PGs PI PC OpR UnR CallR IxR MtR SlR Inv RelV Vals TE TT TA TS TG TGs TI R2 VK Cx EP)
abbrev noX : XK := fun _ _ _ => False
/-- what is wanted behind, over the tracked heap -/
def PQ (t : Tx) (K : PySem.W.Frag) (h : Hp) (H : L2.Hp) (Q : VK) : K1 := fun w h' => ∀ v H', HR t K h' H' → VR K H' w v → Keep h H h' H' → Q v H'
theorem PQ.step {t : Tx} {K : PySem.W.Frag} {h h2 : Hp} {H H2 : L2.Hp} {Q : VK} (k : Keep h H h2 H2) {w : W} {h' : Hp} (z : PQ t K h H Q w h') : PQ t K h2 H2 Q w h' := fun v H' r x k' => z v H' r x (k.trans k')
/-- what is wanted of an exception -/
def XW (t : Tx) (K : PySem.W.Frag) (h : Hp) (H : L2.Hp) (τ : L2.St) : XK := fun c fs h' => ∀ dx gs H', HR t K h' H' → FR t K H' fs gs → H' dx = some (.xd gs) → Keep h H h' H' → t.W (.ref (t.CA c)) (some dx) τ H'
theorem XW.step {t : Tx} {K : PySem.W.Frag} {h h2 : Hp} {H H2 : L2.Hp} {τ : L2.St} (k : Keep h H h2 H2) : ∀ c fs h', XW t K h H τ c fs h' → XW t K h2 H2 τ c fs h' := fun _ _ _ z dx gs H' r f e k' => z dx gs H' r f e (k.trans k')
theorem XW.id {X : XK} : ∀ c fs h', X c fs h' → X c fs h' := fun _ _ _ z => z
/-- the same, whatever the slots -/
def XC (t : Tx) (K : PySem.W.Frag) (h : Hp) (H : L2.Hp) : XK := fun c fs h' => ∀ dx gs H', HR t K h' H' → FR t K H' fs gs → H' dx = some (.xd gs) → Keep h H h' H' → ∀ τ, t.W (.ref (t.CA c)) (some dx) τ H'
theorem XC.step {t : Tx} {K : PySem.W.Frag} {h h2 : Hp} {H H2 : L2.Hp} (k : Keep h H h2 H2) : ∀ c fs h', XC t K h H c fs h' → XC t K h2 H2 c fs h' := fun _ _ _ z dx gs H' r f e k' => z dx gs H' r f e (k.trans k')
/-- the wish does not look at the slots -/
def CW (t : Tx) : Prop := ∀ cls d τ τ' H, t.W cls d τ H → t.W cls d τ' H
theorem XW.go {t : Tx} {K : PySem.W.Frag} {h h2 : Hp} {H H2 : L2.Hp} {τ τ2 : L2.St} (cw : CW t) (k : Keep h H h2 H2) : ∀ c fs h', XW t K h H τ c fs h' → XW t K h2 H2 τ2 c fs h' := fun _ _ _ z dx gs H' r f e k' => cw _ _ _ _ _ (z dx gs H' r f e (k.trans k'))
theorem XC.of {t : Tx} {K : PySem.W.Frag} {h h2 : Hp} {H H2 : L2.Hp} {τ : L2.St} (cw : CW t) (k : Keep h H h2 H2) : ∀ c fs h', XW t K h H τ c fs h' → XC t K h2 H2 c fs h' := fun _ _ _ z dx gs H' r f e k' τ' => cw _ _ _ _ _ (z dx gs H' r f e (k.trans k'))
section
variable (T : Tab) (F : Fn) (t : Tx) (K : PySem.W.Frag)
/-- the readings of the small language -/
def tM (m : E) : TE := fun τ H Q => ∃ σ h, SR K H σ τ ∧ HR t K h H ∧ wE T F m σ h (PQ t K h H Q) (XW t K h H τ)
def tA (m : Es) : TA := fun τ H Q => ∃ σ h, SR K H σ τ ∧ HR t K h H ∧ wEs T F m σ h (fun ws h' => ∀ vs H', HR t K h' H' → VA K H' ws vs → Keep h H h' H' → Q vs H') (XW t K h H τ)
def tT (m : E) : TT := fun τ H Q => ∃ σ h, SR K H σ τ ∧ HR t K h H ∧ wE T F m σ h (fun w h' => ∃ b, w = .bl b ∧ ∀ H', HR t K h' H' → Keep h H h' H' → Q b H') (XW t K h H τ)
def rB (o : Bop) : R2 := fun v u H Q => ∃ x y h, HR t K h H ∧ VR K H x v ∧ VR K H y u ∧ wBin T F o x y h (PQ t K h H Q) (XC t K h H)
def rOwn (o : Bop) : R2 := fun v u H Q => ∃ x y h, HR t K h H ∧ VR K H x v ∧ VR K H y u ∧ own2 T F o x y h (PQ t K h H Q) (XC t K h H)
def rC (o : Cop) : R2 := fun v u H Q => ∃ x y h, HR t K h H ∧ VR K H x v ∧ VR K H y u ∧ wCmp T F o x y h (PQ t K h H Q) (XC t K h H)
end
def bopOf : Bop → Operator
  | .add => .Add
  | .sub => .Sub
  | .mul => .Mult
  | .fdiv => .FloorDiv
  | .mod => .Mod
  | .pow => .Pow
theorem PE.imp {X : Cx} {e : Expr} {t t' : TE} (h : PE X e t) (i : ∀ σ H Q, t' σ H Q → t σ H Q) : PE X e t' := ⟨fun pins s σ H Q I z => h.run pins s σ H Q I (i _ _ _ z)⟩
theorem PT.imp {X : Cx} {e : Expr} {t t' : TT} (h : PT X e t) (i : ∀ σ H Q, t' σ H Q → t σ H Q) : PT X e t' := ⟨fun pins s σ H Q I z => h.run pins s σ H Q I (i _ _ _ z)⟩
theorem PW.imp {X : Cx} {e : Expr} {t t' : TT} (h : PW X e t) (i : ∀ σ H Q, t' σ H Q → t σ H Q) : PW X e t' := ⟨fun wh pins s σ H Q I z => h.run wh pins s σ H Q I (i _ _ _ z)⟩
theorem PA.imp {X : Cx} {e : List Expr} {t t' : TA} (h : PA X e t) (i : ∀ σ H Q, t' σ H Q → t σ H Q) : PA X e t' := ⟨fun pos pins s σ H Q I z => h.run pos pins s σ H Q I (i _ _ _ z)⟩
theorem PS.imp {X : Cx} {e : Stmt} {t t' : TS} (h : PS X e t) (i : ∀ D σ H, t' D σ H → t D σ H) : PS X e t' := ⟨fun pins s σ H D I z => h.run pins s σ H D I (i _ _ _ z)⟩
theorem PSs.imp {X : Cx} {e : List Stmt} {t t' : TS} (h : PSs X e t) (i : ∀ D σ H, t' D σ H → t D σ H) : PSs X e t' := ⟨fun pins s σ H D I z => h.run pins s σ H D I (i _ _ _ z)⟩

section
variable {T : Tab} {F : Fn} {t : Tx} {X : Cx} (mF : Mo F)

/-! ### operators -/
theorem op_B (hown : ∀ o, OpR X (binaryOp (bopOf o)) (rOwn T F t X.K o)) : ∀ o, OpR X (binaryOp (bopOf o)) (rB T F t X.K o) := by
  intro o pins s τ H v u va ua Q I rx ry ⟨x, y, h, hr, vx, vy, z⟩
  have own : own2 T F o x y h (PQ t X.K h H Q) (XC t X.K h H) → wpAny (model X.prog X.w) X.A (binaryOp (bopOf o) va ua) (EP X pins τ Q) X.xe s := fun z =>
    hown o pins s τ H v u va ua Q I rx ry ⟨x, y, h, hr, vx, vy, z⟩
  cases o with
  | add =>
    unfold wBin wAdd at z
    dsimp only at z
    split at z
    · cases vx; cases vy
      obtain ⟨t1, rfl⟩ := rx
      obtain ⟨t2, rfl⟩ := ry
      exact add_int ⟨.int _, H, I.tok _, ⟨_, rfl⟩, z _ _ hr (.int _) Keep.refl⟩
    · cases vx; cases vy
      exact L2.op_add_str pins s τ H _ _ va ua Q I rx ry ⟨_, _, rfl, rfl, z.1, z.2 _ _ hr (.str _) Keep.refl⟩
    · rename_i xs ys
      obtain ⟨p, us, rfl, hp, ap⟩ := vx.tupW
      obtain ⟨q, ws, rfl, hq, aq⟩ := vy.tupW
      refine L2.op_catA pins s τ H _ _ va ua Q I rx ry ⟨p, q, us, ws, rfl, rfl, hp, hq, by rw [← ap.length, ← aq.length]; exact z.1, fun e => ?_, fun _ e2 => ?_, fun _ _ r hr2 => ?_⟩
      · subst e
        cases ap
        exact z.2 _ _ hr (.tup hq aq) Keep.refl
      · subst e2
        refine z.2 _ _ hr (.tup hp ?_) Keep.refl
        cases aq
        simpa using ap
      · obtain ⟨g1, g2⟩ := go_hid (t := t) (K := X.K) hr (u := .tup (us ++ ws)) hr2
        exact z.2 _ _ g1 (.tup (L2.SqT.of L2.upd_same) ((ap.append aq).mono (tk_new hr2))) g2
    · split at z
      · rename_i a b xs ys e1 e2
        obtain ⟨us, f1, a1⟩ := hr.lst e1
        obtain ⟨ws, f2, a2⟩ := hr.lst e2
        cases vx; cases vy
        refine L2.op_cat pins s τ H _ _ va ua Q I rx ry ⟨_, _, us, ws, rfl, rfl, f1, f2, by rw [← a1.length, ← a2.length]; exact z.1, fun p hp => ?_⟩
        obtain ⟨g1, g2⟩ := go_new hr hp (OR.lst (t := t) (a1.append a2))
        exact z.2 p (hr.free hp) _ _ g1 (.ref _) g2
      · exact own z
    · exact own z
  | sub =>
    unfold wBin wSub at z
    dsimp only at z
    split at z
    · cases vx; cases vy
      obtain ⟨t1, rfl⟩ := rx
      obtain ⟨t2, rfl⟩ := ry
      exact sub_int ⟨.int _, H, I.tok _, ⟨_, rfl⟩, z _ _ hr (.int _) Keep.refl⟩
    · exact own z
  | mul =>
    unfold wBin wMul at z
    dsimp only at z
    split at z
    · cases vx; cases vy
      obtain ⟨t1, rfl⟩ := rx
      obtain ⟨t2, rfl⟩ := ry
      exact mul_int ⟨.int _, H, I.tok _, ⟨_, rfl⟩, z.2 _ _ hr (.int _) Keep.refl⟩ z.1
    · split at z
      · rename_i xs e1
        obtain ⟨us, f1, a1⟩ := hr.lst e1
        cases vx; cases vy
        refine L2.op_rep pins s τ H _ _ va ua Q I rx ry ⟨_, _, us, rfl, rfl, f1, z.1, z.2.1, by rw [← a1.length]; exact z.2.2.1, fun p hp => ?_⟩
        obtain ⟨g1, g2⟩ := go_new hr hp (OR.lst (t := t) (a1.rep _))
        exact z.2.2.2 p (hr.free hp) _ _ g1 (.ref _) g2
      · exact own z
    · exact own z
  | fdiv =>
    unfold wBin wFdiv at z
    dsimp only at z
    split at z
    · cases vx; cases vy
      obtain ⟨t1, rfl⟩ := rx
      obtain ⟨t2, rfl⟩ := ry
      exact floordiv_int z.1 ⟨.int _, H, I.tok _, ⟨_, rfl⟩, z.2.2 _ _ hr (.int _) Keep.refl⟩ (.inl (PyProof.noPylong_of_log2 z.2.1))
    · exact own z
  | mod =>
    unfold wBin wMod at z
    dsimp only at z
    split at z
    · cases vx; cases vy
      obtain ⟨t1, rfl⟩ := rx
      obtain ⟨t2, rfl⟩ := ry
      exact mod_int' z.1 ⟨.int _, H, I.tok _, ⟨_, rfl⟩, z.2 _ _ hr (.int _) Keep.refl⟩
    · exact own z
  | pow =>
    unfold wBin wPow at z
    dsimp only at z
    split at z
    · cases vx; cases vy
      exact L2.op_pow pins s τ H _ _ va ua Q I rx ry ⟨_, _, rfl, rfl, z.1, z.2 _ _ hr (.int _) Keep.refl⟩
    · exact z.elim

/-! ### comparisons -/
theorem dat_dp {K : PySem.W.Frag} {h : Hp} {H : L2.Hp} (hr : HR t K h H) : ∀ (n : Nat) (x : W) (v : L2.V) (d : PyData), VR K H x v → dat h n x = some d → L2.Dp K H v d := by
  intro n
  induction n with
  | zero =>
    intro x v d r e
    cases r <;> (unfold dat at e; cases e) <;> constructor
  | succ n ih =>
    have all : ∀ (xs : List W) (vs : List L2.V) (ds : List PyData), VA K H xs vs → mapO (dat h n) xs = some ds → L2.DpAll K H vs ds := by
      intro xs
      induction xs with
      | nil =>
        intro vs ds a e
        cases a
        unfold mapO at e
        cases e
        exact .nil
      | cons x xs ihx =>
        intro vs ds a e
        cases a with
        | cons r a =>
          unfold mapO at e
          split at e
          · rename_i d ds' e1 e2
            cases e
            exact .cons (ih _ _ _ r e1) (ihx _ _ a e2)
          · cases e
    intro x v d r e
    cases r with
    | non => unfold dat at e; cases e; constructor
    | bl b => unfold dat at e; cases e; constructor
    | int b => unfold dat at e; cases e; constructor
    | str b => unfold dat at e; cases e; constructor
    | tup hp a =>
      unfold dat at e
      cases q : mapO (dat h n) _ with
      | none => rw [q] at e; cases e
      | some ds =>
        rw [q] at e
        cases e
        exact .tup hp (all _ _ _ a q)
    | ref a =>
      unfold dat at e
      split at e
      · rename_i xs ea
        obtain ⟨ys, e2, a2⟩ := hr.lst ea
        cases q : mapO (dat h n) xs with
        | none => rw [q] at e; cases e
        | some ds =>
          rw [q] at e
          cases e
          exact .lst (L2.SqL.of e2) (all _ _ _ a2 q)
      · cases e
def copOf : Cop → CmpOp
  | .eq => .Eq
  | .ne => .NotEq
  | .lt => .Lt
  | .le => .LtE
  | .gt => .Gt
  | .ge => .GtE
  | .isin => .In
  | .notin => .NotIn
  | .isnon => .Is
  | .notnon => .IsNot
  | .isfls => .Is
theorem fV_rel {K : PySem.W.Frag} {H : L2.Hp} {x : W} {v u : L2.V} (e : fV x = some u) (r : VR K H x v) : v = u ∧ L2.flatV v = true := by
  unfold fV at e
  split at e
  all_goals (first | (cases e; cases r; exact ⟨rfl, rfl⟩) | cases e)
theorem fVs_rel {K : PySem.W.Frag} {H : L2.Hp} : ∀ {xs : List W} {vs us : List L2.V}, mapO fV xs = some us → VA K H xs vs → vs = us ∧ vs.all L2.flatV = true
  | [], vs, us, e, r => by
    unfold mapO at e
    cases e; cases r; exact ⟨rfl, rfl⟩
  | x :: xs, vs, us, e, r => by
    unfold mapO at e
    cases r with
    | cons r rs =>
      split at e
      · rename_i e1 e2
        cases e
        obtain ⟨q1, q2⟩ := fV_rel e1 r
        obtain ⟨q3, q4⟩ := fVs_rel e2 rs
        refine ⟨by rw [q1, q3], ?_⟩
        rw [List.all_cons, q2, q4]
        rfl
      · cases e
theorem inL_rel {t : Tx} {K : PySem.W.Frag} {h : Hp} {H : L2.Hp} (hr : HR t K h H) {y : W} {u : L2.V} {ys : List W} (e : inL h y = some ys) (r : VR K H y u) : ∃ p vs, u = .ref p ∧ (L2.SqL K H p vs ∨ L2.SqT K H p vs) ∧ VA K H ys vs := by
  unfold inL at e
  split at e
  · cases e
    obtain ⟨p, us, rfl, hp, ap⟩ := r.tupW
    exact ⟨p, us, rfl, .inr hp, ap⟩
  · split at e
    · rename_i e1
      cases e
      obtain ⟨us, f1, a1⟩ := hr.lst e1
      cases r
      exact ⟨_, us, rfl, .inl (L2.SqL.of f1), a1⟩
    · cases e
  · cases e
/-- own comparisons -/
def rOwnEq (T : Tab) (F : Fn) (t : Tx) (K : PySem.W.Frag) (neg : Bool) : R2 := fun v u H Q => ∃ x y h, HR t K h H ∧ VR K H x v ∧ VR K H y u ∧ ((isIns h x).isSome = true ∨ (isIns h y).isSome = true) ∧ wEq T F neg x y h (PQ t K h H Q) (XC t K h H)
def rOwnOrd (T : Tab) (F : Fn) (t : Tx) (K : PySem.W.Frag) (o : Cop) : R2 := fun v u H Q => ∃ x y h, HR t K h H ∧ VR K H x v ∧ VR K H y u ∧ ((isIns h x).isSome = true ∨ (isIns h y).isSome = true) ∧ wOrd T F o x y h (PQ t K h H Q) (XC t K h H)
/-- what is asked of the text where it has own operators -/
structure Own (T : Tab) (F : Fn) (t : Tx) (X : Cx) : Prop where
  cw : CW t
  bin : ∀ o, OpR X (binaryOp (bopOf o)) (rOwn T F t X.K o)
  eq : OpR X (compareOp .Eq) (rOwnEq T F t X.K false)
  ne : OpR X (compareOp .NotEq) (rOwnEq T F t X.K true)
  ord : ∀ o, o = .lt ∨ o = .le ∨ o = .gt ∨ o = .ge → OpR X (compareOp (copOf o)) (rOwnOrd T F t X.K o)
  neg : UnR X (unaryOp .USub) (fun v H Q => ∃ x h, HR t X.K h H ∧ VR X.K H x v ∧ (isIns h x).isSome = true ∧ wNeg T F x h (PQ t X.K h H Q) (XC t X.K h H))
  abs : CallR X (.builtin "abs") (fun vs H Q => ∃ x v h, vs = [v] ∧ HR t X.K h H ∧ VR X.K H x v ∧ (isIns h x).isSome = true ∧ wBif T F .abs [x] h (PQ t X.K h H Q) (XC t X.K h H))
theorem op_C (hO : Own T F t X) (hu : X.A.units + 64 < cLine) : ∀ o, OpR X (compareOp (copOf o)) (fun v u H Q => ((o = .isnon ∨ o = .notnon) → u = .non) ∧ (o = .isfls → u = .bl false) ∧ rC T F t X.K o v u H Q) := by
  intro o pins s τ H v u va ua Q I rx ry ⟨hn, hf, x, y, h, hr, vx, vy, z⟩
  have ins : ∀ neg : Bool, wIn neg x y h (PQ t X.K h H Q) → wpAny (model X.prog X.w) X.A (compareOp (if neg then .NotIn else .In) va ua) (EP X pins τ Q) X.xe s := by
    intro neg z
    unfold wIn at z
    split at z
    · cases vx; cases vy
      cases neg with
      | false => exact L2.op_in_str pins s τ H _ _ va ua Q I rx ry ⟨_, _, rfl, rfl, z _ _ hr (.bl _) Keep.refl⟩
      | true => exact L2.op_notin_str pins s τ H _ _ va ua Q I rx ry ⟨_, _, rfl, rfl, z _ _ hr (.bl _) Keep.refl⟩
    · cases e1 : inL h y with
      | none => rw [e1] at z; exact z.elim
      | some ys =>
        rw [e1] at z
        cases e2 : fV x with
        | none => rw [e2] at z; exact z.elim
        | some w =>
          rw [e2] at z
          have z : opt (mapO fV ys) fun vs => PQ t X.K h H Q (W.bl (if neg = true then !L2.inV w vs else L2.inV w vs)) h := z
          cases e3 : mapO fV ys with
          | none => rw [e3] at z; exact z.elim
          | some ws =>
            rw [e3] at z
            obtain ⟨p, us, rfl, hq, ap⟩ := inL_rel hr e1 vy
            obtain ⟨rfl, f1⟩ := fV_rel e2 vx
            obtain ⟨rfl, f2⟩ := fVs_rel e3 ap
            cases neg with
            | false => exact L2.op_in_seq pins s τ H _ _ va ua Q I rx ry ⟨p, us, rfl, hq, f1, f2, z _ _ hr (.bl _) Keep.refl⟩
            | true => exact L2.op_notIn_seq pins s τ H _ _ va ua Q I rx ry ⟨p, us, rfl, hq, f1, f2, z _ _ hr (.bl _) Keep.refl⟩
  have eqs : ∀ neg : Bool, wEq T F neg x y h (PQ t X.K h H Q) (XC t X.K h H) → wpAny (model X.prog X.w) X.A (compareOp (if neg then .NotEq else .Eq) va ua) (EP X pins τ Q) X.xe s := by
    intro neg z
    by_cases i1 : (isIns h x).isSome = true
    · cases neg with
      | false => exact hO.eq pins s τ H v u va ua Q I rx ry ⟨x, y, h, hr, vx, vy, .inl i1, z⟩
      | true => exact hO.ne pins s τ H v u va ua Q I rx ry ⟨x, y, h, hr, vx, vy, .inl i1, z⟩
    · by_cases i2 : (isIns h y).isSome = true
      · cases neg with
        | false => exact hO.eq pins s τ H v u va ua Q I rx ry ⟨x, y, h, hr, vx, vy, .inr i2, z⟩
        | true => exact hO.ne pins s τ H v u va ua Q I rx ry ⟨x, y, h, hr, vx, vy, .inr i2, z⟩
      · have n1 : isIns h x = none := by simpa using i1
        have n2 : isIns h y = none := by simpa using i2
        unfold wEq at z
        rw [n1, n2] at z
        dsimp only at z
        cases d1 : dat h 64 x with
        | none => rw [d1] at z; exact z.elim
        | some d =>
          rw [d1] at z
          cases d2 : dat h 64 y with
          | none => rw [d2] at z; exact z.elim
          | some e =>
            rw [d2] at z
            obtain ⟨s1, s2, z⟩ := z
            cases neg with
            | false => exact L2.op_eqD hu pins s τ H v u va ua Q I rx ry ⟨d, e, dat_dp hr _ _ _ _ vx d1, dat_dp hr _ _ _ _ vy d2, s1, s2, z _ _ hr (.bl _) Keep.refl⟩
            | true => exact L2.op_neD hu pins s τ H v u va ua Q I rx ry ⟨d, e, dat_dp hr _ _ _ _ vx d1, dat_dp hr _ _ _ _ vy d2, s1, s2, z _ _ hr (.bl _) Keep.refl⟩
  have ords : ∀ c, c = .lt ∨ c = .le ∨ c = .gt ∨ c = .ge → wOrd T F c x y h (PQ t X.K h H Q) (XC t X.K h H) → wpAny (model X.prog X.w) X.A (compareOp (copOf c) va ua) (EP X pins τ Q) X.xe s := by
    intro c hc z
    by_cases i1 : (isIns h x).isSome = true
    · exact hO.ord c hc pins s τ H v u va ua Q I rx ry ⟨x, y, h, hr, vx, vy, .inl i1, z⟩
    · by_cases i2 : (isIns h y).isSome = true
      · exact hO.ord c hc pins s τ H v u va ua Q I rx ry ⟨x, y, h, hr, vx, vy, .inr i2, z⟩
      · have n1 : isIns h x = none := by simpa using i1
        have n2 : isIns h y = none := by simpa using i2
        unfold wOrd at z
        split at z
        · cases vx; cases vy
          obtain ⟨t1, rfl⟩ := rx
          obtain ⟨t2, rfl⟩ := ry
          rcases hc with rfl | rfl | rfl | rfl
          · exact lt_int ⟨.bl _, H, I, rfl, z _ _ hr (.bl _) Keep.refl⟩
          · exact le_int ⟨.bl _, H, I, rfl, z _ _ hr (.bl _) Keep.refl⟩
          · exact gt_int ⟨.bl _, H, I, rfl, z _ _ hr (.bl _) Keep.refl⟩
          · exact ge_int ⟨.bl _, H, I, rfl, z _ _ hr (.bl _) Keep.refl⟩
        · split at z
          · rename_i e1 _
            simp [isIns, e1] at n1
          · exact z.elim
        · split at z
          · rename_i e1
            simp [isIns, e1] at n1
          · exact z.elim
        · split at z
          · rename_i e1
            simp [isIns, e1] at n2
          · exact z.elim
        · exact z.elim
  cases o with
  | eq => exact eqs false z
  | ne => exact eqs true z
  | lt => exact ords .lt (.inl rfl) z
  | le => exact ords .le (.inr (.inl rfl)) z
  | gt => exact ords .gt (.inr (.inr (.inl rfl))) z
  | ge => exact ords .ge (.inr (.inr (.inr rfl))) z
  | isin => exact ins false z
  | notin => exact ins true z
  | isfls =>
    unfold wCmp at z
    dsimp only at z
    split at z
    · rename_i b
      cases vx
      have e := hf rfl
      subst e
      cases rx; cases ry
      refine wpAny_is_plain rfl ?_
      cases b
      · exact ⟨.bl true, H, I, rfl, z _ _ hr (.bl _) Keep.refl⟩
      · exact ⟨.bl false, H, I, rfl, z _ _ hr (.bl _) Keep.refl⟩
    · exact z.elim
  | isnon =>
    have e := hn (.inl rfl)
    subst e
    refine L2.op_isN pins s τ H _ _ va ua Q I rx ry ⟨rfl, ?_⟩
    unfold wCmp at z
    dsimp only at z
    split at z
    · cases vx
      exact z _ _ hr (.bl _) Keep.refl
    · rename_i hx
      have ne : decide (v = L2.V.non) = false := decide_eq_false fun e => by
        subst e
        cases vx
        exact hx rfl
      rw [ne]
      exact z _ _ hr (.bl _) Keep.refl
  | notnon =>
    have e := hn (.inr rfl)
    subst e
    refine L2.op_notN pins s τ H _ _ va ua Q I rx ry ⟨rfl, ?_⟩
    unfold wCmp at z
    dsimp only at z
    split at z
    · cases vx
      exact z _ _ hr (.bl _) Keep.refl
    · rename_i hx
      have ne : decide (v = L2.V.non) = false := decide_eq_false fun e => by
        subst e
        cases vx
        exact hx rfl
      rw [ne]
      exact z _ _ hr (.bl _) Keep.refl
end
end Mi
set_option maxHeartbeats 4000000
namespace Mi
open PySem PySem.Spec PyProof.Rows
open L2 (PE PT PW PA PS PSs PG PGs PI PC PO OpR UnR CallR IxR MtR SlR Inv RelV Vals TE TT TA TS TG TGs TI TO R2 VK Cx EP Room FnOk CX0 E0 pass0 Gl Cls NoAttr Meth Mk Binds)
theorem noXle : ∀ c fs h, noX c fs h → noX c fs h := fun _ _ _ z => z
/-- what is known of the text's classes -/
structure Kc (T : Tab) (t : Tx) (K : PySem.W.Frag) : Prop where
  fld : ∀ c f, T.fldOk c f = true → f < t.n ∧ Cls K (t.CA c) ∧ NoAttr K (t.CA c) (t.nm f)
section
variable {T : Tab} {F : Fn} {t : Tx} {X : Cx} (mF : Mo F)
include mF
theorem tM.bind {K : PySem.W.Frag} {m : E} {σ : St} {τ : L2.St} {h : Hp} {H : L2.Hp} {P : K1} {R : VK} (hs : SR K H σ τ) (hr : HR t K h H) {X0 : XK} (z : wE T F m σ h P X0)
    (k : ∀ w h' v H', HR t K h' H' → VR K H' w v → Keep h H h' H' → P w h' → R v H') (hX : ∀ c fs h', X0 c fs h' → XW t K h H τ c fs h' := by first | exact fun _ _ _ z => z | exact XW.step (by assumption) | exact XW.step (Keep.trans (by assumption) (by assumption))) : tM T F t K m τ H R :=
  ⟨σ, h, hs, hr, wE_mono mF m _ _ _ _ _ _ (fun w h' e v H' r x kp => k w h' v H' r x kp e) hX z⟩
theorem tA.bind {K : PySem.W.Frag} {m : Es} {σ : St} {τ : L2.St} {h : Hp} {H : L2.Hp} {P : List W → Hp → Prop} {R : List L2.V → L2.Hp → Prop} (hs : SR K H σ τ) (hr : HR t K h H) {X0 : XK} (z : wEs T F m σ h P X0)
    (k : ∀ ws h' vs H', HR t K h' H' → VA K H' ws vs → Keep h H h' H' → P ws h' → R vs H') (hX : ∀ c fs h', X0 c fs h' → XW t K h H τ c fs h' := by first | exact fun _ _ _ z => z | exact XW.step (by assumption) | exact XW.step (Keep.trans (by assumption) (by assumption))) : tA T F t K m τ H R :=
  ⟨σ, h, hs, hr, wEs_mono mF m _ _ _ _ _ _ (fun w h' e v H' r x kp => k w h' v H' r x kp e) hX z⟩
theorem tT.bind {K : PySem.W.Frag} {m : E} {σ : St} {τ : L2.St} {h : Hp} {H : L2.Hp} {P : K1} {R : Bool → L2.Hp → Prop} (hs : SR K H σ τ) (hr : HR t K h H) {X0 : XK} (z : wE T F m σ h P X0)
    (k : ∀ w h' H', HR t K h' H' → Keep h H h' H' → P w h' → ∃ b, w = .bl b ∧ R b H') (kb : ∀ w h', P w h' → ∃ b, w = .bl b) (hX : ∀ c fs h', X0 c fs h' → XW t K h H τ c fs h' := by first | exact fun _ _ _ z => z | exact XW.step (by assumption) | exact XW.step (Keep.trans (by assumption) (by assumption))) : tT T F t K m τ H R :=
  ⟨σ, h, hs, hr, wE_mono mF m _ _ _ _ _ _ (fun w h' e => by
    obtain ⟨b, rfl⟩ := kb w h' e
    refine ⟨b, rfl, fun H' r kp => ?_⟩
    obtain ⟨b', e', q⟩ := k _ h' H' r kp e
    cases e'
    exact q) hX z⟩

/-! ### names, constants -/
omit mF in
theorem me_var {i : Nat} {x : Str} {pos : Pos} (hN : X.N[i]? = some x := by rfl) (hv : L2.Vis X.env.scope x := by first | exact Or.inl rfl | exact Or.inr (Or.inl rfl) | exact Or.inr (Or.inr rfl)) (hd : (x == ("__debug__" : Str)) = false := by decide)
    (hcd : (x == ("__classdict__" : Str)) = false := by decide) : PE X (.Name x pos) (tM T F t X.K (.var i)) := by
  refine PE.imp (L2.pe_var hN hv hd hcd) fun τ H Q ⟨σ, h, hs, hr, z⟩ => ?_
  unfold wE at z
  split at z
  · rename_i v e
    obtain ⟨u, e', r⟩ := hs.at_ i v e
    exact ⟨u, e', z u H hr r Keep.refl⟩
  · exact z.elim
omit mF in
theorem me_c {e : Expr} {w : W} {v : L2.V} (h : PE X e (L2.tC v)) (r : ∀ H, VR X.K H w v) : PE X e (tM T F t X.K (.cst w)) := by
  refine PE.imp h fun τ H Q ⟨σ, h, hs, hr, z⟩ => ?_
  unfold wE at z
  exact z v H hr (r H) Keep.refl
omit mF in
theorem me_int {i : Int} {j pos} : PE X (.Constant (.int i) j pos) (tM T F t X.K (.cst (.int i))) := me_c L2.pe_int fun _ => .int i
omit mF in
theorem me_bl {b : Bool} {j pos} : PE X (.Constant (.bool b) j pos) (tM T F t X.K (.cst (.bl b))) := me_c L2.pe_bl fun _ => .bl b
omit mF in
theorem me_non {j pos} : PE X (.Constant .none j pos) (tM T F t X.K (.cst .non)) := me_c L2.pe_non fun _ => .non
omit mF in
theorem me_str {x : Str} {j pos} : PE X (.Constant (.str x) j pos) (tM T F t X.K (.cst (.str x))) := me_c L2.pe_str fun _ => .str x

/-! ### operators -/
variable {a b c : Expr} {ma mb mc : E} {pos : Pos}
theorem tM.two {R : R2} {P : W → W → Hp → Prop} {Q : VK} {τ : L2.St} {H : L2.Hp} {σ : St} {h : Hp} (hs : SR X.K H σ τ) (hr : HR t X.K h H)
    (z : wE T F ma σ h (fun x h1 => wE T F mb σ h1 (fun y h2 => P x y h2) (XW t X.K h H τ)) (XW t X.K h H τ)) (k : ∀ x y h2 v u H2, HR t X.K h2 H2 → VR X.K H2 x v → VR X.K H2 y u → Keep h H h2 H2 → P x y h2 → R v u H2 Q) :
    L2.tOp R (tM T F t X.K ma) (tM T F t X.K mb) τ H Q :=
  tM.bind mF hs hr z fun x h1 v H1 r1 v1 k1 z1 => tM.bind mF (hs.mono (k1.tk hr)) r1 z1 fun y h2 u H2 r2 v2 k2 z2 => k x y h2 v u H2 r2 (v1.mono (k2.tk r1)) v2 (k1.trans k2) z2
theorem me_bin (o : Bop) (hO : Own T F t X) (ha : PE X a (tM T F t X.K ma)) (hb : PE X b (tM T F t X.K mb)) : PE X (.BinOp a (bopOf o) b pos) (tM T F t X.K (.bin o ma mb)) := by
  refine PE.imp (L2.pe_op (op_B hO.bin o) ha hb) fun τ H Q ⟨σ, h, hs, hr, z⟩ => ?_
  unfold wE at z
  exact tM.two mF hs hr z fun x y h2 v u H2 r2 vx vy k z => ⟨x, y, h2, r2, vx, vy, wBin_mono mF (fun w h' e => e.step k) (by first | exact XW.id | exact XW.step k | exact XW.step k1 | exact XW.step (k1.trans k2) | exact XW.step k2 | exact XW.step ((k1.trans k2).trans k3) | exact XC.of hO.cw k | exact XC.of hO.cw k1 | exact XC.of hO.cw (k1.trans k2) | exact XC.of hO.cw k2 | exact XC.step k1 | exact XC.of cw k1 | exact XC.of cw (k1.trans k2) | exact XC.of cw k2) z⟩
theorem me_neg (hO : Own T F t X) (ha : PE X a (tM T F t X.K ma)) : PE X (.UnaryOp .USub a pos) (tM T F t X.K (.neg ma)) := by
  have un : UnR X (unaryOp .USub) (fun v H Q => ∃ x h, HR t X.K h H ∧ VR X.K H x v ∧ wNeg T F x h (PQ t X.K h H Q) (XC t X.K h H)) := by
    intro pins s τ H v va Q I rx ⟨x, h, hr, vx, z⟩
    by_cases i1 : (isIns h x).isSome = true
    · exact hO.neg pins s τ H v va Q I rx ⟨x, h, hr, vx, i1, z⟩
    · unfold wNeg at z
      split at z
      · cases vx
        exact L2.un_neg pins s τ H _ va Q I rx ⟨_, rfl, z _ _ hr (.int _) Keep.refl⟩
      · split at z
        · rename_i e1
          simp [isIns, e1] at i1
        · exact z.elim
      · exact z.elim
  refine PE.imp (L2.pe_un un ha) fun τ H Q ⟨σ, h, hs, hr, z⟩ => ?_
  unfold wE at z
  exact tM.bind mF hs hr z fun x h1 v H1 r1 v1 k1 z1 => ⟨x, h1, r1, v1, wNeg_mono mF (fun w h' e => e.step k1) (by first | exact XW.id | exact XW.step k | exact XW.step k1 | exact XW.step (k1.trans k2) | exact XW.step k2 | exact XW.step ((k1.trans k2).trans k3) | exact XC.of hO.cw k | exact XC.of hO.cw k1 | exact XC.of hO.cw (k1.trans k2) | exact XC.of hO.cw k2 | exact XC.step k1 | exact XC.of cw k1 | exact XC.of cw (k1.trans k2) | exact XC.of cw k2) z1⟩
theorem me_cmp (o : Cop) (hO : Own T F t X) (hu : X.A.units + 64 < cLine) (ha : PE X a (tM T F t X.K ma)) (hb : PE X b (tM T F t X.K mb)) (hn : ¬ (o = .isnon ∨ o = .notnon) := by simp) (hf : ¬ o = .isfls := by simp) (hm : behindInMarks (copOf o) b = false := by rfl) :
    PE X (.Compare a [copOf o] [b] pos) (tM T F t X.K (.cmp o ma mb)) := by
  refine PE.imp (L2.pe_cmpR (op_C hO hu o) ha hb hm) fun τ H Q ⟨σ, h, hs, hr, z⟩ => ?_
  unfold wE at z
  exact tM.two mF hs hr z fun x y h2 v u H2 r2 vx vy k z => ⟨fun q => absurd q hn, fun q => absurd q hf, x, y, h2, r2, vx, vy, wCmp_mono mF (fun w h' e => e.step k) (by first | exact XW.id | exact XW.step k | exact XW.step k1 | exact XW.step (k1.trans k2) | exact XW.step k2 | exact XW.step ((k1.trans k2).trans k3) | exact XC.of hO.cw k | exact XC.of hO.cw k1 | exact XC.of hO.cw (k1.trans k2) | exact XC.of hO.cw k2 | exact XC.step k1 | exact XC.of cw k1 | exact XC.of cw (k1.trans k2) | exact XC.of cw k2) z⟩
theorem me_isN {j : Nat} {pos' : Pos} (o : Cop) (hO : Own T F t X) (hu : X.A.units + 64 < cLine) (ha : PE X a (tM T F t X.K ma)) (ho : o = .isnon ∨ o = .notnon := by simp) (hm : behindInMarks (copOf o) (.Constant .none j pos') = false := by rfl) :
    PE X (.Compare a [copOf o] [.Constant .none j pos'] pos) (tM T F t X.K (.cmp o ma (.cst .non))) := by
  refine PE.imp (L2.pe_cmpR (op_C hO hu o) ha (me_non (T := T) (F := F) (t := t)) hm) fun τ H Q ⟨σ, h, hs, hr, z⟩ => ?_
  unfold wE at z
  refine tM.bind mF hs hr z fun x h1 v H1 r1 v1 k1 z1 => ?_
  unfold wE at z1
  refine ⟨σ, h1, hs.mono (k1.tk hr), r1, ?_⟩
  unfold wE
  exact fun u H2 r2 v2 k2 => ⟨fun _ => v2.nonW, fun q => by subst q; simp at ho, x, .non, h1, r2, v1.mono (k2.tk r1), v2, wCmp_mono mF (fun w h' e => e.step (k1.trans k2)) (by first | exact XW.id | exact XW.step k | exact XW.step k1 | exact XW.step (k1.trans k2) | exact XW.step k2 | exact XW.step ((k1.trans k2).trans k3) | exact XC.of hO.cw k | exact XC.of hO.cw k1 | exact XC.of hO.cw (k1.trans k2) | exact XC.of hO.cw k2 | exact XC.step k1 | exact XC.of cw k1 | exact XC.of cw (k1.trans k2) | exact XC.of cw k2) z1⟩
theorem me_isF {j : Nat} {pos' : Pos} (o : Cop) (hO : Own T F t X) (hu : X.A.units + 64 < cLine) (ha : PE X a (tM T F t X.K ma)) (ho : o = .isfls := by simp) (hm : behindInMarks (copOf o) (.Constant (.bool false) j pos') = false := by rfl) :
    PE X (.Compare a [copOf o] [.Constant (.bool false) j pos'] pos) (tM T F t X.K (.cmp o ma (.cst (.bl false)))) := by
  refine PE.imp (L2.pe_cmpR (op_C hO hu o) ha (me_bl (T := T) (F := F) (t := t)) hm) fun τ H Q ⟨σ, h, hs, hr, z⟩ => ?_
  unfold wE at z
  refine tM.bind mF hs hr z fun x h1 v H1 r1 v1 k1 z1 => ?_
  unfold wE at z1
  refine ⟨σ, h1, hs.mono (k1.tk hr), r1, ?_⟩
  unfold wE
  exact fun u H2 r2 v2 k2 => ⟨fun q => by subst ho; simp at q, fun _ => v2.blW, x, .bl false, h1, r2, v1.mono (k2.tk r1), v2, wCmp_mono mF (fun w h' e => e.step (k1.trans k2)) (by first | exact XW.id | exact XW.step k | exact XW.step k1 | exact XW.step (k1.trans k2) | exact XW.step k2 | exact XW.step ((k1.trans k2).trans k3) | exact XC.of hO.cw k | exact XC.of hO.cw k1 | exact XC.of hO.cw (k1.trans k2) | exact XC.of hO.cw k2 | exact XC.step k1 | exact XC.of cw k1 | exact XC.of cw (k1.trans k2) | exact XC.of cw k2) z1⟩
/-! ### tests -/
theorem mt_val (ha : PE X a (tM T F t X.K ma)) (he : ∀ whole, isTrue a X.env whole = (do let v ← whole; standAt a.pos; holding [v] (truthy v)) := by intro _; rfl) : PT X a (tT T F t X.K ma) := by
  refine PT.imp (L2.pt_val ha he) fun τ H Q ⟨σ, h, hs, hr, z⟩ => ?_
  exact tM.bind mF hs hr z fun w h1 v H1 r1 v1 k1 ⟨b, e, q⟩ => by
    subst e
    cases v1
    exact ⟨b, rfl, q H1 r1 k1⟩
theorem tT.ofM {τ : L2.St} {H : L2.Hp} {Q : Bool → L2.Hp → Prop} {m : E} (z : tT T F t X.K m τ H Q) : tM T F t X.K m τ H fun x H' => ∃ k, x = .bl k ∧ Q k H' := by
  obtain ⟨σ, h, hs, hr, z⟩ := z
  exact tM.bind mF hs hr z fun w h1 v H1 r1 v1 k1 ⟨b, e, q⟩ => by
    subst e
    cases v1
    exact ⟨b, rfl, q H1 r1 k1⟩
theorem mt_cmp (o : Cop) (hO : Own T F t X) (hu : X.A.units + 64 < cLine) (ha : PE X a (tM T F t X.K ma)) (hb : PE X b (tM T F t X.K mb)) (hn : ¬ (o = .isnon ∨ o = .notnon) := by simp) (hf : ¬ o = .isfls := by simp) (hm : behindInMarks (copOf o) b = false := by rfl) :
    PT X (.Compare a [copOf o] [b] pos) (tT T F t X.K (.cmp o ma mb)) := by
  refine PT.imp (L2.pt_cmpR (op_C hO hu o) ha hb hm) fun τ H Q ⟨σ, h, hs, hr, z⟩ => ?_
  unfold wE at z
  exact tM.two mF hs hr z fun x y h2 v u H2 r2 vx vy k z => ⟨fun q => absurd q hn, fun q => absurd q hf, x, y, h2, r2, vx, vy, wCmp_mono mF (fun w h' ⟨b, e, q⟩ v' H' r' v1 k' => by
    subst e
    cases v1
    exact ⟨b, rfl, q H' r' (k.trans k')⟩) (by first | exact XW.id | exact XW.step k | exact XW.step k1 | exact XW.step (k1.trans k2) | exact XW.step k2 | exact XW.step ((k1.trans k2).trans k3) | exact XC.of hO.cw k | exact XC.of hO.cw k1 | exact XC.of hO.cw (k1.trans k2) | exact XC.of hO.cw k2 | exact XC.step k1 | exact XC.of cw k1 | exact XC.of cw (k1.trans k2) | exact XC.of cw k2) z⟩
theorem mt_isN {j : Nat} {pos' : Pos} (o : Cop) (hO : Own T F t X) (hu : X.A.units + 64 < cLine) (ha : PE X a (tM T F t X.K ma)) (ho : o = .isnon ∨ o = .notnon := by simp) (hm : behindInMarks (copOf o) (.Constant .none j pos') = false := by rfl) :
    PT X (.Compare a [copOf o] [.Constant .none j pos'] pos) (tT T F t X.K (.cmp o ma (.cst .non))) := by
  refine PT.imp (L2.pt_cmpR (op_C hO hu o) ha (me_non (T := T) (F := F) (t := t)) hm) fun τ H Q ⟨σ, h, hs, hr, z⟩ => ?_
  unfold wE at z
  refine tM.bind mF hs hr z fun x h1 v H1 r1 v1 k1 z1 => ?_
  unfold wE at z1
  refine ⟨σ, h1, hs.mono (k1.tk hr), r1, ?_⟩
  unfold wE
  exact fun u H2 r2 v2 k2 => ⟨fun _ => v2.nonW, fun q => by subst q; simp at ho, x, .non, h1, r2, v1.mono (k2.tk r1), v2, wCmp_mono mF (fun w h' ⟨b, e, q⟩ v' H' r' v1 k' => by
    subst e
    cases v1
    exact ⟨b, rfl, q H' r' ((k1.trans k2).trans k')⟩) (by first | exact XW.id | exact XW.step k | exact XW.step k1 | exact XW.step (k1.trans k2) | exact XW.step k2 | exact XW.step ((k1.trans k2).trans k3) | exact XC.of hO.cw k | exact XC.of hO.cw k1 | exact XC.of hO.cw (k1.trans k2) | exact XC.of hO.cw k2 | exact XC.step k1 | exact XC.of cw k1 | exact XC.of cw (k1.trans k2) | exact XC.of cw k2) z1⟩
theorem mt_isF {j : Nat} {pos' : Pos} (o : Cop) (hO : Own T F t X) (hu : X.A.units + 64 < cLine) (ha : PE X a (tM T F t X.K ma)) (ho : o = .isfls := by simp) (hm : behindInMarks (copOf o) (.Constant (.bool false) j pos') = false := by rfl) :
    PT X (.Compare a [copOf o] [.Constant (.bool false) j pos'] pos) (tT T F t X.K (.cmp o ma (.cst (.bl false)))) := by
  refine PT.imp (L2.pt_cmpR (op_C hO hu o) ha (me_bl (T := T) (F := F) (t := t)) hm) fun τ H Q ⟨σ, h, hs, hr, z⟩ => ?_
  unfold wE at z
  refine tM.bind mF hs hr z fun x h1 v H1 r1 v1 k1 z1 => ?_
  unfold wE at z1
  refine ⟨σ, h1, hs.mono (k1.tk hr), r1, ?_⟩
  unfold wE
  exact fun u H2 r2 v2 k2 => ⟨fun q => by subst ho; simp at q, fun _ => v2.blW, x, .bl false, h1, r2, v1.mono (k2.tk r1), v2, wCmp_mono mF (fun w h' ⟨b, e, q⟩ v' H' r' v1 k' => by
    subst e
    cases v1
    exact ⟨b, rfl, q H' r' ((k1.trans k2).trans k')⟩) (by first | exact XW.id | exact XW.step k | exact XW.step k1 | exact XW.step (k1.trans k2) | exact XW.step k2 | exact XW.step ((k1.trans k2).trans k3) | exact XC.of hO.cw k | exact XC.of hO.cw k1 | exact XC.of hO.cw (k1.trans k2) | exact XC.of hO.cw k2 | exact XC.step k1 | exact XC.of cw k1 | exact XC.of cw (k1.trans k2) | exact XC.of cw k2) z1⟩
theorem tT.andT {ta : TT} {τ : L2.St} {H : L2.Hp} {Q : Bool → L2.Hp → Prop} (z : tT T F t X.K (.and ma mb) τ H Q) : L2.tAnd (tT T F t X.K ma) (tT T F t X.K mb) τ H Q := by
  obtain ⟨σ, h, hs, hr, z⟩ := z
  unfold wE at z
  refine ⟨σ, h, hs, hr, wE_mono mF ma _ _ _ _ _ _ (fun w h1 e => ?_) (by first | exact XW.id | exact XW.step k | exact XW.step k1 | exact XW.step (k1.trans k2) | exact XW.step k2 | exact XW.step ((k1.trans k2).trans k3) | exact XC.of hO.cw k | exact XC.of hO.cw k1 | exact XC.of hO.cw (k1.trans k2) | exact XC.of hO.cw k2 | exact XC.step k1 | exact XC.of cw k1 | exact XC.of cw (k1.trans k2) | exact XC.of cw k2) z⟩
  split at e
  · refine ⟨true, rfl, fun H1 r1 k1 => ?_⟩
    refine L2.iteT ?_
    exact ⟨σ, h1, hs.mono (k1.tk hr), r1, wE_mono mF mb _ _ _ _ _ _ (fun w h2 ⟨b, e, q⟩ => ⟨b, e, fun H2 r2 k2 => q H2 r2 (k1.trans k2)⟩) (by first | exact XW.id | exact XW.step k | exact XW.step k1 | exact XW.step (k1.trans k2) | exact XW.step k2 | exact XW.step ((k1.trans k2).trans k3) | exact XC.of hO.cw k | exact XC.of hO.cw k1 | exact XC.of hO.cw (k1.trans k2) | exact XC.of hO.cw k2 | exact XC.step k1 | exact XC.of cw k1 | exact XC.of cw (k1.trans k2) | exact XC.of cw k2) e⟩
  · obtain ⟨b, e, q⟩ := e
    cases e
    refine ⟨false, rfl, fun H1 r1 k1 => ?_⟩
    refine L2.iteF ?_
    exact q H1 r1 k1
  · exact e.elim
theorem tT.orT {ta : TT} {τ : L2.St} {H : L2.Hp} {Q : Bool → L2.Hp → Prop} (z : tT T F t X.K (.or ma mb) τ H Q) : L2.tOr (tT T F t X.K ma) (tT T F t X.K mb) τ H Q := by
  obtain ⟨σ, h, hs, hr, z⟩ := z
  unfold wE at z
  refine ⟨σ, h, hs, hr, wE_mono mF ma _ _ _ _ _ _ (fun w h1 e => ?_) (by first | exact XW.id | exact XW.step k | exact XW.step k1 | exact XW.step (k1.trans k2) | exact XW.step k2 | exact XW.step ((k1.trans k2).trans k3) | exact XC.of hO.cw k | exact XC.of hO.cw k1 | exact XC.of hO.cw (k1.trans k2) | exact XC.of hO.cw k2 | exact XC.step k1 | exact XC.of cw k1 | exact XC.of cw (k1.trans k2) | exact XC.of cw k2) z⟩
  split at e
  · obtain ⟨b, e, q⟩ := e
    cases e
    refine ⟨true, rfl, fun H1 r1 k1 => ?_⟩
    refine L2.iteT ?_
    exact q H1 r1 k1
  · refine ⟨false, rfl, fun H1 r1 k1 => ?_⟩
    refine L2.iteF ?_
    exact ⟨σ, h1, hs.mono (k1.tk hr), r1, wE_mono mF mb _ _ _ _ _ _ (fun w h2 ⟨b, e, q⟩ => ⟨b, e, fun H2 r2 k2 => q H2 r2 (k1.trans k2)⟩) (by first | exact XW.id | exact XW.step k | exact XW.step k1 | exact XW.step (k1.trans k2) | exact XW.step k2 | exact XW.step ((k1.trans k2).trans k3) | exact XC.of hO.cw k | exact XC.of hO.cw k1 | exact XC.of hO.cw (k1.trans k2) | exact XC.of hO.cw k2 | exact XC.step k1 | exact XC.of cw k1 | exact XC.of cw (k1.trans k2) | exact XC.of cw k2) e⟩
  · exact e.elim
variable {rest : List Expr}
omit mF in
theorem mw_and1 (ha : PT X a (tT T F t X.K ma)) : PW X (.BoolOp .And [a] pos) (tT T F t X.K ma) := L2.pw_and1 ha
omit mF in
theorem mw_or1 (ha : PT X a (tT T F t X.K ma)) : PW X (.BoolOp .Or [a] pos) (tT T F t X.K ma) := L2.pw_or1 ha
theorem mw_and (ha : PT X a (tT T F t X.K ma)) (hb : PW X (.BoolOp .And (b :: rest) pos) (tT T F t X.K mb)) : PW X (.BoolOp .And (a :: b :: rest) pos) (tT T F t X.K (.and ma mb)) :=
  PW.imp (L2.pw_and ha hb) fun τ H Q z => tT.andT (ta := tT T F t X.K ma) mF z
theorem mw_or (ha : PT X a (tT T F t X.K ma)) (hb : PW X (.BoolOp .Or (b :: rest) pos) (tT T F t X.K mb)) : PW X (.BoolOp .Or (a :: b :: rest) pos) (tT T F t X.K (.or ma mb)) :=
  PW.imp (L2.pw_or ha hb) fun τ H Q z => tT.orT (ta := tT T F t X.K ma) mF z
theorem mt_not (ha : PT X a (tT T F t X.K ma)) : PT X (.UnaryOp .Not a pos) (tT T F t X.K (.not ma)) := by
  refine PT.imp (L2.pt_not ha) fun τ H Q ⟨σ, h, hs, hr, z⟩ => ?_
  unfold wE at z
  refine ⟨σ, h, hs, hr, wE_mono mF ma _ _ _ _ _ _ (fun w h1 e => ?_) (by first | exact XW.id | exact XW.step k | exact XW.step k1 | exact XW.step (k1.trans k2) | exact XW.step k2 | exact XW.step ((k1.trans k2).trans k3) | exact XC.of hO.cw k | exact XC.of hO.cw k1 | exact XC.of hO.cw (k1.trans k2) | exact XC.of hO.cw k2 | exact XC.step k1 | exact XC.of cw k1 | exact XC.of cw (k1.trans k2) | exact XC.of cw k2) z⟩
  split at e
  · obtain ⟨b, e, q⟩ := e
    cases e
    exact ⟨_, rfl, q⟩
  · exact e.elim
/-! ### and, or, not, if as values -/
omit mF in
theorem me_one {op : BoolOp} (ha : PE X a (tM T F t X.K ma)) : PE X (.BoolOp op [a] pos) (tM T F t X.K ma) := L2.pe_one ha
theorem me_and (ha : PE X a (tM T F t X.K ma)) (hb : PE X (.BoolOp .And (b :: rest) pos) (tM T F t X.K mb)) : PE X (.BoolOp .And (a :: b :: rest) pos) (tM T F t X.K (.and ma mb)) := by
  refine PE.imp (L2.pe_and ha hb) fun τ H Q ⟨σ, h, hs, hr, z⟩ => ?_
  unfold wE at z
  refine tM.bind mF hs hr z fun x h1 v H1 r1 v1 k1 z1 => ?_
  split at z1
  · cases v1
    exact ⟨true, rfl, by rw [if_pos rfl]; exact ⟨σ, h1, hs.mono (k1.tk hr), r1, wE_mono mF mb _ _ _ _ _ _ (fun w h2 e => e.step k1) (by first | exact XW.id | exact XW.step k | exact XW.step k1 | exact XW.step (k1.trans k2) | exact XW.step k2 | exact XW.step ((k1.trans k2).trans k3) | exact XC.of hO.cw k | exact XC.of hO.cw k1 | exact XC.of hO.cw (k1.trans k2) | exact XC.of hO.cw k2 | exact XC.step k1 | exact XC.of cw k1 | exact XC.of cw (k1.trans k2) | exact XC.of cw k2) z1⟩⟩
  · cases v1
    exact ⟨false, rfl, by rw [if_neg Bool.false_ne_true]; exact z1 _ _ r1 (.bl _) k1⟩
  · exact z1.elim
theorem me_or (ha : PE X a (tM T F t X.K ma)) (hb : PE X (.BoolOp .Or (b :: rest) pos) (tM T F t X.K mb)) : PE X (.BoolOp .Or (a :: b :: rest) pos) (tM T F t X.K (.or ma mb)) := by
  refine PE.imp (L2.pe_or ha hb) fun τ H Q ⟨σ, h, hs, hr, z⟩ => ?_
  unfold wE at z
  refine tM.bind mF hs hr z fun x h1 v H1 r1 v1 k1 z1 => ?_
  split at z1
  · cases v1
    exact ⟨true, rfl, by rw [if_pos rfl]; exact z1 _ _ r1 (.bl _) k1⟩
  · cases v1
    exact ⟨false, rfl, by rw [if_neg Bool.false_ne_true]; exact ⟨σ, h1, hs.mono (k1.tk hr), r1, wE_mono mF mb _ _ _ _ _ _ (fun w h2 e => e.step k1) (by first | exact XW.id | exact XW.step k | exact XW.step k1 | exact XW.step (k1.trans k2) | exact XW.step k2 | exact XW.step ((k1.trans k2).trans k3) | exact XC.of hO.cw k | exact XC.of hO.cw k1 | exact XC.of hO.cw (k1.trans k2) | exact XC.of hO.cw k2 | exact XC.step k1 | exact XC.of cw k1 | exact XC.of cw (k1.trans k2) | exact XC.of cw k2) z1⟩⟩
  · exact z1.elim
theorem me_not (ha : PE X a (tM T F t X.K ma)) : PE X (.UnaryOp .Not a pos) (tM T F t X.K (.not ma)) := by
  refine PE.imp (L2.pe_not ha) fun τ H Q ⟨σ, h, hs, hr, z⟩ => ?_
  unfold wE at z
  refine tM.bind mF hs hr z fun x h1 v H1 r1 v1 k1 z1 => ?_
  split at z1
  · cases v1
    exact ⟨_, rfl, z1 _ _ r1 (.bl _) k1⟩
  · exact z1.elim
theorem me_ite (hc : PT X c (tT T F t X.K mc)) (ha : PE X a (tM T F t X.K ma)) (hb : PE X b (tM T F t X.K mb)) : PE X (.IfExp c a b pos) (tM T F t X.K (.ite mc ma mb)) := by
  refine PE.imp (L2.pe_ifExp hc ha hb) fun τ H Q ⟨σ, h, hs, hr, z⟩ => ?_
  unfold wE at z
  refine ⟨σ, h, hs, hr, wE_mono mF mc _ _ _ _ _ _ (fun w h1 e => ?_) (by first | exact XW.id | exact XW.step k | exact XW.step k1 | exact XW.step (k1.trans k2) | exact XW.step k2 | exact XW.step ((k1.trans k2).trans k3) | exact XC.of hO.cw k | exact XC.of hO.cw k1 | exact XC.of hO.cw (k1.trans k2) | exact XC.of hO.cw k2 | exact XC.step k1 | exact XC.of cw k1 | exact XC.of cw (k1.trans k2) | exact XC.of cw k2) z⟩
  split at e
  · exact ⟨true, rfl, fun H1 r1 k1 => by refine L2.iteT ?_; exact ⟨σ, h1, hs.mono (k1.tk hr), r1, wE_mono mF ma _ _ _ _ _ _ (fun w h2 e => e.step k1) (by first | exact XW.id | exact XW.step k | exact XW.step k1 | exact XW.step (k1.trans k2) | exact XW.step k2 | exact XW.step ((k1.trans k2).trans k3) | exact XC.of hO.cw k | exact XC.of hO.cw k1 | exact XC.of hO.cw (k1.trans k2) | exact XC.of hO.cw k2 | exact XC.step k1 | exact XC.of cw k1 | exact XC.of cw (k1.trans k2) | exact XC.of cw k2) e⟩⟩
  · exact ⟨false, rfl, fun H1 r1 k1 => by refine L2.iteF ?_; exact ⟨σ, h1, hs.mono (k1.tk hr), r1, wE_mono mF mb _ _ _ _ _ _ (fun w h2 e => e.step k1) (by first | exact XW.id | exact XW.step k | exact XW.step k1 | exact XW.step (k1.trans k2) | exact XW.step k2 | exact XW.step ((k1.trans k2).trans k3) | exact XC.of hO.cw k | exact XC.of hO.cw k1 | exact XC.of hO.cw (k1.trans k2) | exact XC.of hO.cw k2 | exact XC.step k1 | exact XC.of cw k1 | exact XC.of cw (k1.trans k2) | exact XC.of cw k2) e⟩⟩
  · exact e.elim
/-! ### arguments, displays -/
variable {e : Expr} {es : List Expr} {me : E} {mes : Es}
omit mF in
theorem ma_nil : PA X [] (tA T F t X.K .nil) := by
  refine PA.imp L2.pa_nil fun τ H Q ⟨σ, h, hs, hr, z⟩ => ?_
  unfold wEs at z
  exact z [] H hr .nil Keep.refl
theorem ma_cons (ha : PE X e (tM T F t X.K me)) (hr' : PA X es (tA T F t X.K mes)) (hs : starEach (e :: es) X.env = (false, eval e X.env) :: starEach es X.env := by rfl) : PA X (e :: es) (tA T F t X.K (.cons me mes)) := by
  refine PA.imp (L2.pa_cons ha hr' hs) fun τ H Q ⟨σ, h, hs, hr, z⟩ => ?_
  unfold wEs at z
  exact tM.bind mF hs hr z fun x h1 v H1 r1 v1 k1 z1 => tA.bind mF (hs.mono (k1.tk hr)) r1 z1 fun xs h2 vs H2 r2 v2 k2 z2 => z2 _ _ r2 (.cons (v1.mono (k2.tk r1)) v2) (k1.trans k2)
def esLen : Es → Nat
  | .nil => 0
  | .cons _ r => esLen r + 1
theorem wEs_len : ∀ (m : Es) (σ : St) (h : Hp) (Q : List W → Hp → Prop) (X : XK), wEs T F m σ h Q X → wEs T F m σ h (fun ws h' => ws.length = esLen m ∧ Q ws h') X
  | .nil, σ, h, Q, X, z => by unfold wEs at *; exact ⟨rfl, z⟩
  | .cons e r, σ, h, Q, X, z => by
    unfold wEs at *
    exact wE_mono mF e _ _ _ _ _ _ (fun v h1 z1 => wEs_mono mF r _ _ _ _ _ _ (fun vs h2 z2 => ⟨by rw [List.length_cons, z2.1] <;> rfl, z2.2⟩) (fun _ _ _ z => z) (wEs_len r _ _ _ _ z1)) (fun _ _ _ z => z) z
theorem me_tup {x1} (h : PA X es (tA T F t X.K mes)) (hl : esLen mes ≤ sizeLine := by decide) : PE X (.Tuple es x1 pos) (tM T F t X.K (.tup mes)) := by
  refine PE.imp (L2.pe_tup h) fun τ H Q ⟨σ, h, hs, hr, z⟩ => ?_
  unfold wE at z
  refine tA.bind mF hs hr (wEs_len mF _ _ _ _ _ z) fun xs h1 vs H1 r1 v1 k1 z1 => ⟨by rw [← v1.length, z1.1]; exact hl, fun p hp => ?_⟩
  obtain ⟨g1, g2⟩ := go_hid (t := t) (K := X.K) r1 (u := .tup vs) hp
  exact z1.2 _ _ g1 (.tup (L2.SqT.of L2.upd_same) (v1.mono (tk_new hp))) (k1.trans g2)
theorem me_lst (h : PA X es (tA T F t X.K mes)) (hl : esLen mes ≤ sizeLine := by decide) : PE X (.List es pos) (tM T F t X.K (.lst mes)) := by
  refine PE.imp (L2.pe_lst h) fun τ H Q ⟨σ, h, hs, hr, z⟩ => ?_
  unfold wE at z
  refine tA.bind mF hs hr (wEs_len mF _ _ _ _ _ z) fun xs h1 vs H1 r1 v1 k1 z1 => ⟨by rw [← v1.length, z1.1]; exact hl, fun p hp => ?_⟩
  obtain ⟨g1, g2⟩ := go_new r1 hp (OR.lst (t := t) v1)
  exact z1.2 p (r1.free hp) _ _ g1 (.ref _) (k1.trans g2)
/-! ### subscripts, fields -/
omit mF in
theorem ix_M : IxR X (fun v u H Q => ∃ x y h, HR t X.K h H ∧ VR X.K H x v ∧ VR X.K H y u ∧ wIdx x y h (PQ t X.K h H Q)) := by
  intro value slice pins s τ H v u va ua Q I rx ry ⟨x, y, h, hr, vx, vy, z⟩ hsub
  refine L2.ix_seq value slice pins s τ H v u va ua Q I rx ry ?_ hsub
  unfold wIdx at z
  split at z
  · obtain ⟨p, ys, rfl, hp, ap⟩ := vx.tupW
    cases vy
    rename_i xs i
    cases q : Mi.atI xs i with
    | none => rw [q] at z; exact z.elim
    | some w =>
      rw [q] at z
      obtain ⟨v', e', r'⟩ := ap.atI q
      exact .inr (.inl ⟨p, ys, i, v', rfl, rfl, hp, e', z _ _ hr r' Keep.refl⟩)
  · cases vx; cases vy
    rename_i w i
    obtain ⟨z1, z⟩ := z
    cases q : Mi.atI w.cps.toList i with
    | none => rw [q] at z; exact z.elim
    | some c =>
      rw [q] at z
      exact .inr (.inr ⟨w, i, c, rfl, rfl, z1, q, z _ _ hr (.str _) Keep.refl⟩)
  · rename_i a i
    split at z
    · rename_i xs e1
      obtain ⟨ys, f1, a1⟩ := hr.lst e1
      cases vx; cases vy
      cases q : Mi.atI xs i with
      | none => rw [q] at z; exact z.elim
      | some w =>
        rw [q] at z
        obtain ⟨v', e', r'⟩ := a1.atI q
        exact .inl ⟨a, ys, i, v', rfl, rfl, L2.SqL.of f1, e', z _ _ hr r' Keep.refl⟩
    · exact z.elim
  · exact z.elim
theorem me_idx (ha : PE X a (tM T F t X.K ma)) (hb : PE X b (tM T F t X.K mb)) (hs : L2.PlainIx b := by exact fun _ _ => rfl) : PE X (.Subscript a b pos) (tM T F t X.K (.idx ma mb)) := by
  refine PE.imp (L2.pe_ix (ix_M (t := t)) ha hb hs) fun τ H Q ⟨σ, h, hs, hr, z⟩ => ?_
  unfold wE at z
  exact tM.two mF hs hr z fun x y h2 v u H2 r2 vx vy k z => ⟨x, y, h2, r2, vx, vy, wIdx_mono (fun w h' e => e.step k) z⟩
omit mF in
theorem sl_M : SlR X (fun v lo hi H Q => ∃ x h, HR t X.K h H ∧ VR X.K H x v ∧ wSl x lo hi h (PQ t X.K h H Q)) := by
  intro pins s τ H v va vl vu lo hi sl Q I rx hs pl pu ⟨x, h, hr, vx, z⟩
  unfold wSl at z
  split at z
  · obtain ⟨p, ys, rfl, hp, ap⟩ := vx.tupW
    refine L2.sl_tupA pins s τ H _ va vl vu lo hi sl Q I rx hs pl pu ⟨p, ys, rfl, hp, fun hw => ?_, fun _ q hq => ?_⟩
    · refine z _ _ hr (.tup hp ?_) Keep.refl
      have e : L2.cutV ys lo hi = ys := by
        unfold L2.cutV
        rw [hw.1, hw.2]
        simp
      have a2 := ap.cut (lo := lo) (hi := hi)
      rw [e] at a2
      exact a2
    · obtain ⟨g1, g2⟩ := go_hid (t := t) (K := X.K) hr (u := .tup (L2.cutV ys lo hi)) hq
      exact z _ _ g1 (.tup (L2.SqT.of L2.upd_same) (ap.cut.mono (tk_new hq))) g2
  · cases vx
    exact L2.sl_str pins s τ H _ va vl vu lo hi sl Q I rx hs pl pu ⟨_, rfl, z.1, z.2 _ _ hr (.str _) Keep.refl⟩
  · split at z
    · rename_i xs e1
      obtain ⟨ys, f1, a1⟩ := hr.lst e1
      cases vx
      refine L2.sl_list pins s τ H _ va vl vu lo hi sl Q I rx hs pl pu ⟨_, ys, rfl, L2.SqL.of f1, fun p hp => ?_⟩
      obtain ⟨g1, g2⟩ := go_new hr hp (OR.lst (t := t) a1.cut)
      exact z p (hr.free hp) _ _ g1 (.ref _) g2
    · rename_i xs e1
      obtain ⟨ys, o, f1, a1⟩ := hr.fro e1
      cases vx
      refine L2.sl_list pins s τ H _ va vl vu lo hi sl Q I rx hs pl pu ⟨_, ys, rfl, .inl (.inr ⟨o, f1⟩), fun p hp => ?_⟩
      obtain ⟨g1, g2⟩ := go_new hr hp (OR.lst (t := t) a1.cut)
      exact z p (hr.free hp) _ _ g1 (.ref _) g2
    · exact z.elim
  · exact z.elim
def tO (T : Tab) (F : Fn) (t : Tx) (K : PySem.W.Frag) (m : Eo) : TO := fun τ H Q => ∃ σ h, SR K H σ τ ∧ HR t K h H ∧ wEo T F m σ h (fun o h' => ∀ H', HR t K h' H' → Keep h H h' H' → Q o H') (XW t K h H τ)
omit mF in
theorem PO.imp {e : Option Expr} {t t' : TO} (h : PO X e t) (i : ∀ σ H Q, t' σ H Q → t σ H Q) : PO X e t' := ⟨fun pins s σ H Q I z => h.run pins s σ H Q I (i _ _ _ z)⟩
omit mF in
theorem mo_no : PO X none (tO T F t X.K .no) := by
  refine PO.imp L2.po_none fun τ H Q ⟨σ, h, hs, hr, z⟩ => ?_
  unfold wEo at z
  exact z H hr Keep.refl
theorem mo_so (ha : PE X a (tM T F t X.K ma)) : PO X (some a) (tO T F t X.K (.so ma)) := by
  refine PO.imp (L2.po_some ha) fun τ H Q ⟨σ, h, hs, hr, z⟩ => ?_
  unfold wEo at z
  refine tM.bind mF hs hr z fun x h1 v H1 r1 v1 k1 z1 => ?_
  split at z1
  · cases v1
    exact ⟨_, rfl, z1 H1 r1 k1⟩
  · exact z1.elim
theorem me_sl {lo hi : Option Expr} {mlo mhi : Eo} {p2 : Pos} (ha : PE X a (tM T F t X.K ma)) (hl : PO X lo (tO T F t X.K mlo)) (hu : PO X hi (tO T F t X.K mhi)) : PE X (.Subscript a (.Slice lo hi none p2) pos) (tM T F t X.K (.sl ma mlo mhi)) := by
  refine PE.imp (L2.pe_slice (sl_M (t := t)) ha hl hu) fun τ H Q ⟨σ, h, hs, hr, z⟩ => ?_
  unfold wE at z
  refine tM.bind mF hs hr z fun x h1 v H1 r1 v1 k1 z1 => ?_
  refine ⟨σ, h1, hs.mono (k1.tk hr), r1, wEo_mono mF mlo _ _ _ _ _ _ (fun l h2 z2 H2 r2 k2 => ?_) (by first | exact XW.id | exact XW.step k | exact XW.step k1 | exact XW.step (k1.trans k2) | exact XW.step k2 | exact XW.step ((k1.trans k2).trans k3) | exact XC.of hO.cw k | exact XC.of hO.cw k1 | exact XC.of hO.cw (k1.trans k2) | exact XC.of hO.cw k2 | exact XC.step k1 | exact XC.of cw k1 | exact XC.of cw (k1.trans k2) | exact XC.of cw k2) z1⟩
  refine ⟨σ, h2, hs.mono ((k1.trans k2).tk hr), r2, wEo_mono mF mhi _ _ _ _ _ _ (fun u h3 z3 H3 r3 k3 => ?_) (by first | exact XW.id | exact XW.step k | exact XW.step k1 | exact XW.step (k1.trans k2) | exact XW.step k2 | exact XW.step ((k1.trans k2).trans k3) | exact XC.of hO.cw k | exact XC.of hO.cw k1 | exact XC.of hO.cw (k1.trans k2) | exact XC.of hO.cw k2 | exact XC.step k1 | exact XC.of cw k1 | exact XC.of cw (k1.trans k2) | exact XC.of cw k2) z2⟩
  exact ⟨x, h3, r3, v1.mono ((k2.trans k3).tk r1), wSl_mono (fun w h' e => e.step ((k1.trans k2).trans k3)) z3⟩
theorem me_fld (kc : Kc T t X.K) (f : Nat) (ha : PE X a (tM T F t X.K ma)) (hb : attributeBase a (t.nm f) X.env (eval a X.env) = eval a X.env := by rfl) : PE X (.Attribute a (t.nm f) pos) (tM T F t X.K (.fld ma f)) := by
  refine PE.imp (L2.pe_fld ha hb) fun τ H Q ⟨σ, h, hs, hr, z⟩ => ?_
  unfold wE at z
  refine tM.bind mF hs hr z fun x h1 v H1 r1 v1 k1 z1 => ?_
  unfold wFld at z1
  split at z1
  · split at z1
    · rename_i a c fs e1
      obtain ⟨dx, gs, f1, a1⟩ := r1.ins e1
      obtain ⟨q1, z1⟩ := z1
      obtain ⟨c1, c2, c3⟩ := kc.fld c f q1
      cases v1
      cases q : getF fs f with
      | none => rw [q] at z1; exact z1.elim
      | some w =>
        rw [q] at z1
        obtain ⟨u, e', r'⟩ := a1.get c1 q
        exact ⟨_, _, dx, gs, u, rfl, f1, c2, c3, e', z1 _ _ r1 r' k1⟩
    · exact z1.elim
  · exact z1.elim
end
end Mi
set_option maxHeartbeats 4000000
namespace Mi
open PySem PySem.Spec PyProof.Rows
open L2 (PE PT PW PA PS PSs PG PGs PI PC PO OpR UnR CallR IxR MtR SlR Inv RelV Vals TE TT TA TS TG TGs TI TO R2 VK Cx EP Room FnOk CX0 E0 Gl Cls NoAttr Meth Mk Binds)
/-- the promise of the function f: what the small language says of it -/
def spF (F : Fn) (t : Tx) (K : PySem.W.Frag) (f : Nat) : L2.Sp := fun vs H Q E => ∃ ws h, HR t K h H ∧ VA K H ws vs ∧ F f ws h (PQ t K h H Q) (XC ⟨t.tn, fun cls d _ H => E cls d H⟩ K h H)
/-- the wish, whatever the slots -/
def Ei (t : Tx) : L2.XK := fun cls d H => ∀ τ, t.W cls d τ H
/-- what a call lets out is taken -/
structure Pa (X : Cx) (t : Tx) : Prop where
  cw : CW t
  tk : L2.Takes X t.W
theorem Pa.pass {X : Cx} {t : Tx} (pa : Pa X t) : L2.Passes (L2.CX X.prog X.w) X (Ei t) := L2.passes_call pa.tk fun _ _ σ _ h => h σ
theorem XC.ei {t : Tx} {K : PySem.W.Frag} {h h2 : Hp} {H H2 : L2.Hp} {τ : L2.St} (cw : CW t) (k : Keep h H h2 H2) : ∀ c fs h', XW t K h H τ c fs h' → XC ⟨t.tn, fun cls d _ H => Ei t cls d H⟩ K h2 H2 c fs h' := fun _ _ _ z dx gs H' r f e k' _ τ' => cw _ _ _ _ _ (z dx gs H' r f e (k.trans k'))
/-- what is known of a function of the text, for a caller -/
structure Fo (P : Program) (w : World) (K : PySem.W.Frag) (mg : Str → Option Value) (base : Heap) (F : Fn) (t : Tx) (k : Nat) (f : Nat) (fa : Addr) (fd : FuncData) (ps : List Str) : Prop where
  ok : FnOk P w K mg base (L2.CX P w) k fa fd ps (spF F t K f)
  kp : PySem.W.keepIn K (.ref fa) = true
/-- the defaults that fill up -/
structure Df (K : PySem.W.Frag) (fd : FuncData) (ps : List Str) (dw : List W) : Prop where
  ex : ∃ ds dvs, Binds K fd ps ds ∧ Vals dvs ds ∧ ∀ H, VA K H dw dvs
section
variable {T : Tab} {F : Fn} {t : Tx} {X : Cx} (mF : Mo F)
include mF
variable {e o : Expr} {es : List Expr} {mo : E} {mes : Es} {p pos apos : Pos} {x : Str} {k f : Nat} {fa : Addr} {fd : FuncData} {ps : List Str} {dw : List W}
theorem me_call (pa : Pa X t) (G : Fo X.prog X.w X.K X.mg X.base F t k f fa fd ps) (hr : Room k X.A) (hm : X.mg x = some (.ref fa)) (D : Df X.K fd ps dw) (ha : PA X (e :: es) (tA T F t X.K mes)) (hg : Gl X x := by rfl)
    (hdb : (x == ("__debug__" : Str)) = false := by decide) (he : starEach (e :: es) X.env = (false, eval e X.env) :: starEach es X.env := by rfl) (hpl : (backTo pos (starEach es X.env)).any (·.1) = false := by rfl) :
    PE X (.Call (.Name x p) (e :: es) [] pos) (tM T F t X.K (.call f mes dw)) := by
  obtain ⟨ds, dvs, hb, hd, hw⟩ := D.ex
  refine PE.imp (L2.pe_call G.ok hr hg hm G.kp hb hd pa.pass ha hdb he hpl) fun τ H Q ⟨σ, h, hs, hr, z⟩ => ?_
  unfold wE at z
  exact tA.bind mF hs hr z fun ws h1 vs H1 r1 v1 k1 z1 => ⟨ws ++ dw, h1, r1, v1.append (hw H1), mF _ _ _ _ _ _ _ (fun w h' e => e.step k1) (by first | exact XC.ei pa.cw k1 | exact XC.ei pa.cw (k1.trans g2) | exact XC.ei pa.cw g2 | exact XC.ei pa.cw (k1.trans k2) | exact XC.ei pa.cw k2 | exact XC.ei pa.cw ((k1.trans k2).trans g2) | exact XC.ei pa.cw (k2.trans g2) | exact XC.of cw k1 | exact XW.id) z1⟩
theorem me_call0 (pa : Pa X t) (G : Fo X.prog X.w X.K X.mg X.base F t k f fa fd ps) (hr : Room k X.A) (hm : X.mg x = some (.ref fa)) (D : Df X.K fd ps dw) (hg : Gl X x := by rfl) (hdb : (x == ("__debug__" : Str)) = false := by decide) :
    PE X (.Call (.Name x p) [] [] pos) (tM T F t X.K (.call f .nil dw)) := by
  obtain ⟨ds, dvs, hb, hd, hw⟩ := D.ex
  refine PE.imp (L2.pe_call0 G.ok hr hg hm G.kp hb hd pa.pass hdb) fun τ H Q ⟨σ, h, hs, hr, z⟩ => ?_
  unfold wE wEs at z
  exact ⟨dw, h, hr, hw H, mF _ _ _ _ _ _ _ (fun _ _ e => e) (XC.ei pa.cw Keep.refl) z⟩
/-- an own class made: Mk and its __init__ -/
theorem made_go {c : Nat} {h1 : Hp} {H1 : L2.Hp} (r1 : HR t X.K h1 H1) {x dx : Addr} (nx : H1 x = none) (nd : H1 dx = none) (ne : dx ≠ x) :
    HR t X.K (upd h1 x (.ins c [])) (L2.upd (L2.upd H1 dx (.own x)) x (.ins (t.CA c) dx [])) ∧ Keep h1 H1 (upd h1 x (.ins c [])) (L2.upd (L2.upd H1 dx (.own x)) x (.ins (t.CA c) dx [])) := by
  obtain ⟨g1, g2⟩ := go_hid (t := t) (K := X.K) r1 (u := .own x) nd
  obtain ⟨g3, g4⟩ := go_new g1 (p := x) (by rw [L2.upd_ne (Ne.symm ne)]; exact nx) (OR.ins (t := t) (c := c) (dx := dx) FR.nil)
  exact ⟨g3, g2.trans g4⟩
theorem me_make {c : Nat} (pa : Pa X t) (M : Mk X.K (t.CA c) fa) (G : Fo X.prog X.w X.K X.mg X.base F t k f fa fd ps) (hr : Room (k + 1) X.A) (hm : X.mg x = some (.ref (t.CA c))) (D : Df X.K fd ps dw) (ha : PA X (e :: es) (tA T F t X.K mes)) (hg : Gl X x := by rfl)
    (hdb : (x == ("__debug__" : Str)) = false := by decide) (he : starEach (e :: es) X.env = (false, eval e X.env) :: starEach es X.env := by rfl) (hpl : (backTo pos (starEach es X.env)).any (·.1) = false := by rfl) :
    PE X (.Call (.Name x p) (e :: es) [] pos) (tM T F t X.K (.make c f mes dw)) := by
  obtain ⟨ds, dvs, hb, hd, hw⟩ := D.ex
  refine PE.imp (L2.pe_make M G.ok hr hg hm hb hd pa.pass ha hdb he hpl) fun τ H Q ⟨σ, h, hs, hr, z⟩ => ?_
  unfold wE at z
  refine tA.bind mF hs hr z fun ws h1 vs H1 r1 v1 k1 z1 x dx nx nd ne => ?_
  obtain ⟨g1, g2⟩ := made_go (F := F) mF (c := c) r1 nx nd ne
  refine ⟨.ref x :: (ws ++ dw), _, g1, .cons (.ref x) ((v1.mono (g2.tk r1)).append (hw _)), mF _ _ _ _ _ _ _ (fun w h' e v H' r' v' k' => ?_) (by first | exact XC.ei pa.cw k1 | exact XC.ei pa.cw (k1.trans g2) | exact XC.ei pa.cw g2 | exact XC.ei pa.cw (k1.trans k2) | exact XC.ei pa.cw k2 | exact XC.ei pa.cw ((k1.trans k2).trans g2) | exact XC.ei pa.cw (k2.trans g2) | exact XC.of cw k1 | exact XW.id) (z1 x (r1.free nx))⟩
  obtain ⟨e1, e2⟩ := e
  subst e1
  cases v'
  exact ⟨rfl, e2 _ _ r' (.ref x) ((k1.trans g2).trans k')⟩
theorem me_make0 {c : Nat} (pa : Pa X t) (M : Mk X.K (t.CA c) fa) (G : Fo X.prog X.w X.K X.mg X.base F t k f fa fd ps) (hr : Room (k + 1) X.A) (hm : X.mg x = some (.ref (t.CA c))) (D : Df X.K fd ps dw) (hg : Gl X x := by rfl)
    (hdb : (x == ("__debug__" : Str)) = false := by decide) : PE X (.Call (.Name x p) [] [] pos) (tM T F t X.K (.make c f .nil dw)) := by
  obtain ⟨ds, dvs, hb, hd, hw⟩ := D.ex
  refine PE.imp (L2.pe_make0 M G.ok hr hg hm hb hd pa.pass hdb) fun τ H Q ⟨σ, h, hs, hr, z⟩ => ?_
  unfold wE wEs at z
  intro x dx nx nd ne
  obtain ⟨g1, g2⟩ := made_go (F := F) mF (c := c) hr nx nd ne
  refine ⟨.ref x :: ([] ++ dw), _, g1, .cons (.ref x) (hw _), mF _ _ _ _ _ _ _ (fun w h' e v H' r' v' k' => ?_) (by first | exact XC.ei pa.cw k1 | exact XC.ei pa.cw (k1.trans g2) | exact XC.ei pa.cw g2 | exact XC.ei pa.cw (k1.trans k2) | exact XC.ei pa.cw k2 | exact XC.ei pa.cw ((k1.trans k2).trans g2) | exact XC.ei pa.cw (k2.trans g2) | exact XC.of cw k1 | exact XW.id) (z x (hr.free nx))⟩
  obtain ⟨e1, e2⟩ := e
  subst e1
  cases v'
  exact ⟨rfl, e2 _ _ r' (.ref x) (g2.trans k')⟩
/-- methods: what is known of each class's -/
structure Mo2 (P : Program) (w : World) (K : PySem.W.Frag) (mg : Str → Option Value) (base : Heap) (T : Tab) (F : Fn) (t : Tx) (k : Nat) : Prop where
  at_ : ∀ c m f, T.meth c m = some f → m < t.n ∧ Cls K (t.CA c) ∧ ∃ fa fd ps, Meth K (t.CA c) (t.nm m) fa ∧ FnOk P w K mg base (L2.CX P w) k fa fd ps (spF F t K f) ∧ Binds K fd ps []
theorem me_meth {pl : Sem Bool} (pa : Pa X t) (m : Nat) (M : Mo2 X.prog X.w X.K X.mg X.base T F t k) (hr : Room k X.A) (ho : PE X o (tM T F t X.K mo)) (ha : PA X (e :: es) (tA T F t X.K mes))
    (hst : starEach (e :: es) X.env = (false, eval e X.env) :: starEach es X.env := by rfl) (hpl : (backTo pos (starEach es X.env)).any (·.1) = false := by rfl)
    (ht : eval (.Call (.Attribute o (t.nm m) apos) (e :: es) [] pos) X.env = (do
      let ov ← eval o X.env
      standAt apos.atName
      let (f, first) ← holding [ov] (getMethod ov (t.nm m) pl)
      callWith pos f first (backTo pos (starEach (e :: es) X.env)) (backToKw pos (keywordEach [] X.env))) := by rfl) :
    PE X (.Call (.Attribute o (t.nm m) apos) (e :: es) [] pos) (tM T F t X.K (.meth mo m mes)) := by
  refine ⟨fun pins s τ H Q I ⟨σ, h, hs, hr0, z⟩ => ?_⟩
  unfold wE at z
  have q := tM.bind (τ := τ) mF hs hr0 z (R := fun v H1 => ∃ a dx gs c f, v = .ref a ∧ H1 a = some (.ins (t.CA c) dx gs) ∧ T.meth c m = some f ∧ gs.lookup (t.nm m) = none ∧ ∃ h1, HR t X.K h1 H1 ∧ Keep h H h1 H1 ∧ wEs T F mes σ h1 (fun vs h2 => F f (.ref a :: vs) h2 (PQ t X.K h H Q) (XW t X.K h H τ)) (XW t X.K h H τ)) fun w h1 v H1 r1 v1 k1 z1 => by
    unfold insOf at z1
    split at z1
    · split at z1
      · rename_i a c fs e1
        obtain ⟨dx, gs, f1, a1⟩ := r1.ins e1
        cases v1
        obtain ⟨n1, z1⟩ := (show getF fs m = none ∧ _ from z1)
        cases q : T.meth c m with
        | none => rw [q] at z1; exact z1.elim
        | some f =>
          rw [q] at z1
          obtain ⟨m1, _⟩ := M.at_ c m f q
          exact ⟨_, dx, gs, c, f, rfl, f1, q, a1.none m1 n1, h1, r1, k1, z1⟩
      · exact z1.elim
    · exact z1.elim
  refine PySem.W.methodCall_KW (pl := pl) (L2.thn (ho.run pins s τ H _ I q) fun u s1 ⟨x, H1, I1, rx, a, dx, gs, c, f, ex, ea, tm, l, h1, r1, k1, z1⟩ => ?_) ht
  subst ex
  obtain rfl : u = Value.ref a := rx
  obtain ⟨_, cl, fa, fd, ps, hm, G, hb⟩ := M.at_ c m f tm
  refine L2.getmeth_ok I1 ea cl hm l ?_
  have q2 : tA T F t X.K mes τ H1 fun vs H2 => spF F t X.K f (.ref a :: (vs ++ [])) H2 Q (Ei t) := tA.bind mF (hs.mono (k1.tk hr0)) r1 z1 fun ws h2 vs H2 r2 v2 k2 z2 =>
    ⟨.ref a :: ws, h2, r2, by rw [List.append_nil]; exact .cons (.ref a) v2, mF _ _ _ _ _ _ _ (fun w h' e => e.step (k1.trans k2)) (by first | exact XC.ei pa.cw k1 | exact XC.ei pa.cw (k1.trans g2) | exact XC.ei pa.cw g2 | exact XC.ei pa.cw (k1.trans k2) | exact XC.ei pa.cw k2 | exact XC.ei pa.cw ((k1.trans k2).trans g2) | exact XC.ei pa.cw (k2.trans g2) | exact XC.of cw k1 | exact XW.id) z2⟩
  refine PySem.W.callWith_K (first := [.ref a]) (h₀ := X.base) I.ok.mod.kin hm.kp (L2.thn (ha.run pos pins s1 τ H1 _ I1 q2) fun us s2 ⟨vs, H2, I2, r, q2⟩ => ⟨I2.kIn, ?_⟩) hst hpl
  exact L2.run_fn (us := .ref a :: us) (vs := .ref a :: vs) (dvs := []) (ds := []) G hr hb .nil pa.pass I2 (.cons rfl r) q2
theorem me_meth0 {pl : Sem Bool} (pa : Pa X t) (m : Nat) (M : Mo2 X.prog X.w X.K X.mg X.base T F t k) (hr : Room k X.A) (ho : PE X o (tM T F t X.K mo))
    (ht : eval (.Call (.Attribute o (t.nm m) apos) [] [] pos) X.env = (do
      let ov ← eval o X.env
      standAt apos.atName
      let (f, first) ← holding [ov] (getMethod ov (t.nm m) pl)
      callWith pos f first (backTo pos (starEach [] X.env)) (backToKw pos (keywordEach [] X.env))) := by rfl) :
    PE X (.Call (.Attribute o (t.nm m) apos) [] [] pos) (tM T F t X.K (.meth mo m .nil)) := by
  refine ⟨fun pins s τ H Q I ⟨σ, h, hs, hr0, z⟩ => ?_⟩
  unfold wE at z
  have q := tM.bind (τ := τ) mF hs hr0 z (R := fun v H1 => ∃ a dx gs c f, v = .ref a ∧ H1 a = some (.ins (t.CA c) dx gs) ∧ T.meth c m = some f ∧ gs.lookup (t.nm m) = none ∧ spF F t X.K f [.ref a] H1 Q (Ei t)) fun w h1 v H1 r1 v1 k1 z1 => by
    unfold insOf at z1
    split at z1
    · split at z1
      · rename_i a c fs e1
        obtain ⟨dx, gs, f1, a1⟩ := r1.ins e1
        cases v1
        obtain ⟨n1, z1⟩ := (show getF fs m = none ∧ _ from z1)
        cases q : T.meth c m with
        | none => rw [q] at z1; exact z1.elim
        | some f =>
          rw [q] at z1
          obtain ⟨m1, _⟩ := M.at_ c m f q
          unfold opt wEs at z1
          exact ⟨_, dx, gs, c, f, rfl, f1, q, a1.none m1 n1, [.ref _], h1, r1, .cons (.ref _) .nil, mF _ _ _ _ _ _ _ (fun w h' e => e.step k1) (by first | exact XC.ei pa.cw k1 | exact XC.ei pa.cw (k1.trans g2) | exact XC.ei pa.cw g2 | exact XC.ei pa.cw (k1.trans k2) | exact XC.ei pa.cw k2 | exact XC.ei pa.cw ((k1.trans k2).trans g2) | exact XC.ei pa.cw (k2.trans g2) | exact XC.of cw k1 | exact XW.id) z1⟩
      · exact z1.elim
    · exact z1.elim
  refine PySem.W.methodCall_KW (pl := pl) (L2.thn (ho.run pins s τ H _ I q) fun u s1 ⟨x, H1, I1, rx, a, dx, gs, c, f, ex, ea, tm, l, q2⟩ => ?_) ht
  subst ex
  obtain rfl : u = Value.ref a := rx
  obtain ⟨_, cl, fa, fd, ps, hm, G, hb⟩ := M.at_ c m f tm
  refine L2.getmeth_ok I1 ea cl hm l ?_
  exact PySem.W.callWith_K0 (first := [.ref a]) I1.kIn hm.kp (L2.run_fn (us := [.ref a]) (vs := [.ref a]) (dvs := []) (ds := []) G hr hb .nil pa.pass I1 (.cons rfl .nil) q2)

/-! ### built-ins -/
omit mF in
theorem VA.one {K : PySem.W.Frag} {H : L2.Hp} {x : W} {vs : List L2.V} (a : VA K H [x] vs) : ∃ v, vs = [v] ∧ VR K H x v := by
  cases a with
  | cons r a => cases a; exact ⟨_, rfl, r⟩
def rBif (T : Tab) (F : Fn) (t : Tx) (K : PySem.W.Frag) (b : Bif) : List L2.V → L2.Hp → VK → Prop := fun vs H Q => ∃ ws h, HR t K h H ∧ VA K H ws vs ∧ wBif T F b ws h (PQ t K h H Q) (XC t K h H)
theorem me_bif {b : Bif} {id : String} (cw : CW t) (hc : CallR X (.builtin id) (rBif T F t X.K b)) (hm : X.mg x = none) (hv : bootBuiltins x = some (.builtin id)) (ha : PA X (e :: es) (tA T F t X.K mes)) (hg : Gl X x := by rfl)
    (hn : x ≠ "__name__" := by decide) (hd : (x == ("__debug__" : Str)) = false := by decide) (hs : starEach (e :: es) X.env = (false, eval e X.env) :: starEach es X.env := by rfl) (hpl : (backTo pos (starEach es X.env)).any (·.1) = false := by rfl) :
    PE X (.Call (.Name x p) (e :: es) [] pos) (tM T F t X.K (.bif b mes)) := by
  refine PE.imp (L2.pe_callB hc hg hm hv ha hn hd hs hpl) fun τ H Q ⟨σ, h, hs, hr, z⟩ => ?_
  unfold wE at z
  exact tA.bind mF hs hr z fun ws h1 vs H1 r1 v1 k1 z1 => ⟨ws, h1, r1, v1, wBif_mono mF (fun w h' e => e.step k1) (by first | exact XC.ei pa.cw k1 | exact XC.ei pa.cw (k1.trans g2) | exact XC.ei pa.cw g2 | exact XC.ei pa.cw (k1.trans k2) | exact XC.ei pa.cw k2 | exact XC.ei pa.cw ((k1.trans k2).trans g2) | exact XC.ei pa.cw (k2.trans g2) | exact XC.of cw k1 | exact XW.id) z1⟩
theorem me_bifT {b : Bif} {id : String} (cw : CW t) (hc : CallR X (.type id) (rBif T F t X.K b)) (hm : X.mg x = none) (hv : bootBuiltins x = some (.type id)) (ha : PA X (e :: es) (tA T F t X.K mes)) (hg : Gl X x := by rfl)
    (hn : x ≠ "__name__" := by decide) (hd : (x == ("__debug__" : Str)) = false := by decide) (hs : starEach (e :: es) X.env = (false, eval e X.env) :: starEach es X.env := by rfl) (hpl : (backTo pos (starEach es X.env)).any (·.1) = false := by rfl) :
    PE X (.Call (.Name x p) (e :: es) [] pos) (tM T F t X.K (.bif b mes)) := by
  refine PE.imp (L2.pe_callTy hc hg hm hv ha hn hd hs hpl) fun τ H Q ⟨σ, h, hs, hr, z⟩ => ?_
  unfold wE at z
  exact tA.bind mF hs hr z fun ws h1 vs H1 r1 v1 k1 z1 => ⟨ws, h1, r1, v1, wBif_mono mF (fun w h' e => e.step k1) (by first | exact XC.ei pa.cw k1 | exact XC.ei pa.cw (k1.trans g2) | exact XC.ei pa.cw g2 | exact XC.ei pa.cw (k1.trans k2) | exact XC.ei pa.cw k2 | exact XC.ei pa.cw ((k1.trans k2).trans g2) | exact XC.ei pa.cw (k2.trans g2) | exact XC.of cw k1 | exact XW.id) z1⟩

omit mF in
theorem cb_len : CallR X (.builtin "len") (rBif T F t X.K .len) := by
  intro pins s τ H vs us Q I rs ⟨ws, h, hr, va, z⟩
  unfold wBif at z
  split at z
  any_goals (first | exact z.elim | contradiction | skip)
  · obtain ⟨v, rfl, r⟩ := va.one
    obtain ⟨p, ys, rfl, hp, ap⟩ := r.tupW
    exact L2.call_len_seq pins s τ H _ us Q I rs ⟨p, ys, rfl, .inr hp, by rw [← ap.length]; exact z _ _ hr (.int _) Keep.refl⟩
  · obtain ⟨v, rfl, r⟩ := va.one
    cases r
    exact L2.call_len_str pins s τ H _ us Q I rs ⟨_, rfl, z.1, z.2 _ _ hr (.int _) Keep.refl⟩
  · obtain ⟨v, rfl, r⟩ := va.one
    cases r
    split at z
    · rename_i e1
      obtain ⟨ys, f1, a1⟩ := hr.lst e1
      exact L2.call_len_seq pins s τ H _ us Q I rs ⟨_, ys, rfl, .inl (L2.SqL.of f1), by rw [← a1.length]; exact z _ _ hr (.int _) Keep.refl⟩
    · exact z.elim
omit mF in
theorem cb_abs (hO : Own T F t X) : CallR X (.builtin "abs") (rBif T F t X.K .abs) := by
  intro pins s τ H vs us Q I rs ⟨ws, h, hr, va, z⟩
  have z' := z
  unfold wBif at z
  split at z
  any_goals (first | exact z.elim | contradiction | skip)
  · obtain ⟨v, rfl, r⟩ := va.one
    cases r
    exact L2.call_abs pins s τ H _ us Q I rs ⟨_, rfl, z _ _ hr (.int _) Keep.refl⟩
  · obtain ⟨v, rfl, r⟩ := va.one
    split at z
    · rename_i e1
      exact hO.abs pins s τ H _ us Q I rs ⟨_, _, h, rfl, hr, r, by simp [isIns, e1], z'⟩
    · exact z.elim
omit mF in
theorem cb_int : CallR X (.type "int") (rBif T F t X.K .int) := by
  intro pins s τ H vs us Q I rs ⟨ws, h, hr, va, z⟩
  unfold wBif at z
  split at z
  any_goals (first | exact z.elim | contradiction | skip)
  · obtain ⟨v, rfl, r⟩ := va.one
    cases r
    exact L2.call_int1 pins s τ H _ us Q I rs (.inl ⟨_, rfl, z _ _ hr (.int _) Keep.refl⟩)
  · rename_i a _
    obtain ⟨v, rfl, r⟩ := va.one
    cases r
    obtain ⟨z0, z⟩ := z
    cases q : PySem.intText? a with
    | none => rw [q] at z; exact z.elim
    | some n =>
      rw [q] at z
      exact L2.call_int_str pins s τ H _ us Q I rs ⟨a, n, rfl, q, z0, z _ _ hr (.int _) Keep.refl⟩
omit mF in
theorem cb_tuple : CallR X (.type "tuple") (rBif T F t X.K .tuple) := by
  intro pins s τ H vs us Q I rs ⟨ws, h, hr, va, z⟩
  unfold wBif at z
  split at z
  any_goals (first | exact z.elim | contradiction | skip)
  · obtain ⟨v, rfl, r⟩ := va.one
    obtain ⟨p, ys, rfl, hp, ap⟩ := r.tupW
    exact L2.call_tuple_of pins s τ H _ us Q I rs ⟨p, ys, rfl, .inr ⟨hp, z _ _ hr (.tup hp ap) Keep.refl⟩⟩
  · obtain ⟨v, rfl, r⟩ := va.one
    cases r
    split at z
    · rename_i e1
      obtain ⟨ys, f1, a1⟩ := hr.lst e1
      refine L2.call_tuple_of pins s τ H _ us Q I rs ⟨_, ys, rfl, .inl ⟨L2.SqL.of f1, fun p hp => ?_⟩⟩
      obtain ⟨g1, g2⟩ := go_hid (t := t) (K := X.K) hr (u := .tup ys) hp
      exact z _ _ g1 (.tup (L2.SqT.of L2.upd_same) (a1.mono (tk_new hp))) g2
    · exact z.elim
omit mF in
theorem va_chr {K : PySem.W.Frag} {H : L2.Hp} : ∀ l : List Nat, VA K H (l.map fun c => W.str ⟨#[c]⟩) (l.map fun c => L2.V.str ⟨#[c]⟩)
  | [] => .nil
  | x :: l => .cons (.str _) (va_chr l)
omit mF in
theorem vals_get : ∀ (ns : List Nat) (vs : List Value), vs.length = ns.length → (∀ (j : Nat) (v : Value), vs[j]? = some v → ∃ c u, ns[j]? = some c ∧ v = Value.str ⟨#[c]⟩ u) → Vals (ns.map fun c => L2.V.str ⟨#[c]⟩) vs
  | [], [], _, _ => .nil
  | [], _ :: _, l, _ => by simp at l
  | _ :: _, [], l, _ => by simp at l
  | n :: ns, v :: vs, l, h => by
    obtain ⟨c, u, e1, e2⟩ := h 0 v rfl
    simp at e1
    subst e1
    exact .cons ⟨u, e2⟩ (vals_get ns vs (by simpa using l) fun j w q => by simpa using h (j + 1) w (by simpa using q))
omit mF in
theorem vals_chr (z : Str) (acc : Array Value) (hn : acc.size = z.cps.size) (hi : ∀ j v, acc[j]? = some v → PySem.SignAt z j v) : Vals (z.cps.toList.map fun c => L2.V.str ⟨#[c]⟩) acc.toList :=
  vals_get _ _ (by simpa using hn) fun j v q => by
    obtain ⟨c, u, e1, e2⟩ := hi j v (by simpa using q)
    exact ⟨c, u, by simpa using e1, e2⟩
omit mF in
theorem call_listS (hc : X.calm = true) : CallR X (.type "list") (fun xs H Q => ∃ z : Str, xs = [.str z] ∧ z.cps.size ≤ sizeLine ∧ ∀ l, H l = none → Q (.ref l) (L2.upd H l (.lst (z.cps.toList.map fun c => L2.V.str ⟨#[c]⟩)))) := by
  intro pins s σ H xs us Q I r h
  obtain ⟨z, rfl, hz, q⟩ := h
  obtain ⟨u, rfl, rx⟩ := L2.vals1 r
  obtain ⟨t, rfl⟩ := rx
  refine PySem.call_list_str (I.ok.hd hc) z t (hn := hz) fun h' tk acc' c' kp e hi => ?_
  refine ⟨.ref s.heap.objs.size, _, I.laid (t' := tk) kp (Nat.le_refl _) (show L2.ObjOk X.prog X.w _ h' _ (.lst (z.cps.toList.map fun c => L2.V.str ⟨#[c]⟩)) from ⟨by simpa using hz, acc'.toList, c', ?_, by simpa using e⟩), rfl, q _ (I.hok.fresh (Nat.le_refl _))⟩
  obtain ⟨hn, hi⟩ := hi
  exact vals_chr z acc' hn hi
omit mF in
theorem cb_list (hc : X.calm = true) : CallR X (.type "list") (rBif T F t X.K .list) := by
  intro pins s τ H vs us Q I rs ⟨ws, h, hr, va, z⟩
  unfold wBif at z
  split at z
  any_goals (first | exact z.elim | contradiction | skip)
  · obtain ⟨v, rfl, r⟩ := va.one
    obtain ⟨p, ys, rfl, hp, ap⟩ := r.tupW
    refine L2.call_list_of pins s τ H _ us Q I rs ⟨p, ys, rfl, .inr hp, fun l hl => ?_⟩
    obtain ⟨g1, g2⟩ := go_new hr hl (OR.lst (t := t) ap)
    exact z l (hr.free hl) _ _ g1 (.ref _) g2
  · rename_i a _
    obtain ⟨v, rfl, r⟩ := va.one
    cases r
    refine call_listS hc pins s τ H _ us Q I rs ⟨a, rfl, z.1, fun l hl => ?_⟩
    obtain ⟨g1, g2⟩ := go_new hr hl (OR.lst (t := t) (va_chr a.cps.toList))
    exact z.2 l (hr.free hl) _ _ g1 (.ref _) g2
  · obtain ⟨v, rfl, r⟩ := va.one
    cases r
    split at z
    · rename_i e1
      obtain ⟨ys, f1, a1⟩ := hr.lst e1
      refine L2.call_list_of pins s τ H _ us Q I rs ⟨_, ys, rfl, .inl (L2.SqL.of f1), fun l hl => ?_⟩
      obtain ⟨g1, g2⟩ := go_new hr hl (OR.lst (t := t) a1)
      exact z l (hr.free hl) _ _ g1 (.ref _) g2
    · exact z.elim
omit mF in
theorem bools_V {K : PySem.W.Frag} {H : L2.Hp} : ∀ {xs : List W} {ys : List L2.V} {bs : List Bool}, VA K H xs ys → boolsW xs = some bs → ys = bs.map L2.V.bl := by
  intro xs
  induction xs with
  | nil =>
    intro ys bs a e
    cases a
    unfold boolsW mapO at e
    cases e
    rfl
  | cons x xs ih =>
    intro ys bs a e
    cases a with
    | cons r a =>
      unfold boolsW mapO at e
      split at e
      · rename_i b bs' e1 e2
        cases e
        split at e1
        · cases e1
          cases r
          rw [List.map_cons, ih a e2]
        · cases e1
      · cases e
omit mF in
theorem cb_all (hc : X.calm = true) : CallR X (.builtin "all") (rBif T F t X.K .all) := by
  intro pins s τ H vs us Q I rs ⟨ws, h, hr, va, z⟩
  unfold wBif at z
  split at z
  any_goals (first | exact z.elim | contradiction | skip)
  obtain ⟨v, rfl, r⟩ := va.one
  cases r
  split at z
  · rename_i xs e1
    obtain ⟨ys, f1, a1⟩ := hr.lst e1
    cases q : boolsW xs with
    | none => rw [q] at z; exact z.elim
    | some bs =>
      rw [q] at z
      exact L2.cr_all hc pins s τ H _ us Q I rs ⟨_, bs, rfl, by rw [← bools_V a1 q]; exact L2.SqL.of f1, z _ _ hr (.bl _) Keep.refl⟩
  · exact z.elim
omit mF in
theorem cb_any (hc : X.calm = true) : CallR X (.builtin "any") (rBif T F t X.K .any) := by
  intro pins s τ H vs us Q I rs ⟨ws, h, hr, va, z⟩
  unfold wBif at z
  split at z
  any_goals (first | exact z.elim | contradiction | skip)
  obtain ⟨v, rfl, r⟩ := va.one
  cases r
  split at z
  · rename_i xs e1
    obtain ⟨ys, f1, a1⟩ := hr.lst e1
    cases q : boolsW xs with
    | none => rw [q] at z; exact z.elim
    | some bs =>
      rw [q] at z
      exact L2.cr_any hc pins s τ H _ us Q I rs ⟨_, bs, rfl, by rw [← bools_V a1 q]; exact L2.SqL.of f1, z _ _ hr (.bl _) Keep.refl⟩
  · exact z.elim
/-! ### xs.append(e) -/
omit mF in
theorem isL_at {h : Hp} {x : W} (z : isL h x = true) : ∃ a xs, x = .ref a ∧ h a = some (.lst xs) := by
  unfold isL at z
  split at z
  · split at z
    · rename_i e
      exact ⟨_, _, rfl, e⟩
    · cases z
  · cases z
omit mF in
theorem isS_at {x : W} (z : isS x = true) : ∃ a, x = .str a := by
  unfold isS at z
  split at z
  · exact ⟨_, rfl⟩
  · cases z
omit mF in
theorem va_strs {K : PySem.W.Frag} {H : L2.Hp} : ∀ l : List Str, VA K H (l.map W.str) (l.map L2.V.str)
  | [] => .nil
  | x :: l => .cons (.str x) (va_strs l)
omit mF in
theorem strs_V {K : PySem.W.Frag} {H : L2.Hp} : ∀ {xs : List W} {vs : List L2.V} {ys : List Str}, VA K H xs vs → strsW xs = some ys → vs = ys.map L2.V.str
  | [], vs, ys, a, e => by
    unfold strsW mapO at e
    cases e; cases a; rfl
  | x :: xs, vs, ys, a, e => by
    cases a with
    | cons r a =>
      unfold strsW mapO at e
      split at e
      · rename_i b bs' e1 e2
        cases e
        split at e1
        · cases e1
          cases r
          rw [List.map_cons, strs_V a e2]
        · cases e1
      · cases e
theorem me_split (ho : PE X o (tM T F t X.K mo)) (he : PE X e (tM T F t X.K me)) (hs : starEach [e] X.env = [(false, eval e X.env)] := by rfl) (hbase : attributeBase o "split" X.env (eval o X.env) = eval o X.env := by rfl) (hline : (apos.endLine == pos.line) = true := by rfl) :
    PE X (.Call (.Attribute o "split" apos) [e] [] pos) (tM T F t X.K (.bm .split mo (.cons me .nil))) := by
  refine PE.imp (L2.pe_split ho he hs hbase hline) fun τ H Q ⟨σ, h, hs, hr, z⟩ => ?_
  unfold wE at z
  refine tM.bind mF hs hr z fun x h1 v H1 r1 v1 k1 ⟨z0, z1⟩ => ?_
  obtain ⟨a, rfl⟩ := isS_at z0
  cases v1
  refine ⟨⟨a, rfl⟩, ?_⟩
  unfold wEs at z1
  refine tM.bind mF (hs.mono (k1.tk hr)) r1 z1 fun y h2 u H2 r2 v2 k2 z2 => ?_
  unfold wEs wBm at z2
  dsimp only at z2
  split at z2
  any_goals (first | exact z2.elim | contradiction | skip)
  · rename_i e2 e3
    cases e2; cases e3
    cases v2
    refine ⟨_, _, rfl, rfl, z2.1, z2.2.1, fun p hp => ?_⟩
    obtain ⟨g1, g2⟩ := go_new r2 hp (OR.lst (t := t) (va_strs (K := X.K) (Txt.split _ _)))
    exact z2.2.2 p (r2.free hp) _ _ g1 (.ref _) ((k1.trans k2).trans g2)
theorem me_sindex (ho : PE X o (tM T F t X.K mo)) (he : PE X e (tM T F t X.K me)) (hs : starEach [e] X.env = [(false, eval e X.env)] := by rfl) (hbase : attributeBase o "index" X.env (eval o X.env) = eval o X.env := by rfl) (hline : (apos.endLine == pos.line) = true := by rfl) :
    PE X (.Call (.Attribute o "index" apos) [e] [] pos) (tM T F t X.K (.bm .sindex mo (.cons me .nil))) := by
  refine PE.imp (L2.pe_m1 PySem.F.slot_str_index PySem.F.type_str_index L2.mt_sindex ho he hs hbase hline) fun τ H Q ⟨σ, h, hs, hr, z⟩ => ?_
  unfold wE at z
  refine tM.bind mF hs hr z fun x h1 v H1 r1 v1 k1 ⟨z0, z1⟩ => ?_
  obtain ⟨a, rfl⟩ := isS_at z0
  cases v1
  refine ⟨⟨a, rfl⟩, ?_⟩
  unfold wEs at z1
  refine tM.bind mF (hs.mono (k1.tk hr)) r1 z1 fun y h2 u H2 r2 v2 k2 z2 => ?_
  unfold wEs wBm at z2
  dsimp only at z2
  split at z2
  any_goals (first | exact z2.elim | contradiction | skip)
  · rename_i e2 e3
    cases e2; cases e3
    cases v2
    split at z2
    · rename_i e4
      exact ⟨_, _, _, _, rfl, rfl, e4, z2 _ _ r2 (.int _) (k1.trans k2)⟩
    · exact z2.elim
theorem me_join (ho : PE X o (tM T F t X.K mo)) (he : PE X e (tM T F t X.K me)) (hs : starEach [e] X.env = [(false, eval e X.env)] := by rfl) (hbase : attributeBase o "join" X.env (eval o X.env) = eval o X.env := by rfl) (hline : (apos.endLine == pos.line) = true := by rfl) :
    PE X (.Call (.Attribute o "join" apos) [e] [] pos) (tM T F t X.K (.bm .join mo (.cons me .nil))) := by
  refine PE.imp (L2.pe_join ho he hs hbase hline) fun τ H Q ⟨σ, h, hs, hr, z⟩ => ?_
  unfold wE at z
  refine tM.bind mF hs hr z fun x h1 v H1 r1 v1 k1 ⟨z0, z1⟩ => ?_
  obtain ⟨a, rfl⟩ := isS_at z0
  cases v1
  refine ⟨⟨a, rfl⟩, ?_⟩
  unfold wEs at z1
  refine tM.bind mF (hs.mono (k1.tk hr)) r1 z1 fun y h2 u H2 r2 v2 k2 z2 => ?_
  unfold wEs wBm at z2
  dsimp only at z2
  split at z2
  any_goals (first | exact z2.elim | contradiction | skip)
  · rename_i e2 e3
    cases e2; cases e3
    cases v2
    split at z2
    · rename_i xs e4
      obtain ⟨us, f1, a1⟩ := r2.lst e4
      cases q : strsW xs with
      | none => rw [q] at z2; exact z2.elim
      | some ys =>
        rw [q] at z2
        exact ⟨_, _, ys, rfl, rfl, .inl (by rw [← strs_V a1 q]; exact L2.SqL.of f1), z2.1, z2.2 _ _ r2 (.str _) (k1.trans k2)⟩
    · exact z2.elim
theorem me_append (ho : PE X o (tM T F t X.K mo)) (ha : PA X [e] (tA T F t X.K mes))
    (hbase : attributeBase o "append" X.env (eval o X.env) = eval o X.env := by rfl)
    (hfew : ((backTo pos (starEach [e] X.env)).all (fun x => !x.1) && (backToKw pos (keywordEach [] X.env)).all (fun x => x.1.isSome)
      && decide (([e] : List Expr).length + ([] : List Keyword).length + (if ([] : List Keyword).isEmpty then 0 else 1) < 30)) = true := by rfl)
    (hline : (apos.endLine == pos.line) = true := by rfl) (hs : starEach [e] X.env = (false, eval e X.env) :: starEach [] X.env := by rfl) (hplain : (backTo pos (starEach [] X.env)).any (·.1) = false := by rfl) :
    PE X (.Call (.Attribute o "append" apos) [e] [] pos) (tM T F t X.K (.bm .append mo mes)) := by
  refine PE.imp (L2.pe_bm PySem.F.plainAttrs_list PySem.F.slot_list_append PySem.F.type_list_append L2.mt_append ho ha hbase hfew hline hs hplain) fun τ H Q ⟨σ, h, hs, hr, z⟩ => ?_
  unfold wE at z
  refine tM.bind mF hs hr z fun x h1 v H1 r1 v1 k1 ⟨z0, z1⟩ => ?_
  obtain ⟨a, xs, rfl, e1⟩ := isL_at z0
  obtain ⟨ys, f1, a1⟩ := r1.lst e1
  cases v1
  refine ⟨.inl ⟨rfl, ys, L2.SqL.of f1⟩, tA.bind mF (hs.mono (k1.tk hr)) r1 z1 fun ws h2 vs H2 r2 v2 k2 z2 => ?_⟩
  unfold wBm at z2
  split at z2
  · rename_i heq
    cases heq
    split at z2
    · rename_i e2
      obtain ⟨us, f2, a2⟩ := r2.lst e2
      obtain ⟨u, rfl, ru⟩ := v2.one
      obtain ⟨g1, g2⟩ := go_set r2 e2 (OR.lst (t := t) (a2.append (.cons ru .nil)))
      exact ⟨a, us, u, rfl, rfl, f2, by rw [← a2.length]; exact z2.1, z2.2 _ _ g1 .non ((k1.trans k2).trans g2)⟩
    · exact z2.elim
  all_goals (first | exact z2.elim | contradiction)
end
end Mi
set_option maxHeartbeats 4000000
namespace Mi
open PySem PySem.Spec PyProof.Rows
open L2 (PE PT PW PA PS PSs PG PGs PI PC PO PTs OpR UnR CallR IxR MtR SlR Inv RelV Vals TE TT TA TS TG TGs TI TO R2 VK Cx EP Room FnOk CX0 E0 pass0 Gl Cls NoAttr Meth Mk Binds It)

/-! ### isinstance -/
/-- the class of a value -/
def tyVal (t : Tx) (h : Hp) : W → Option Value
  | .non => some (.type "NoneType")
  | .bl _ => some (.type "bool")
  | .int _ => some (.type "int")
  | .str _ => some (.type "str")
  | .tup _ => some (.type "tuple")
  | .ref a => (match h a with
    | some (.lst _) => some (.type "list")
    | some (.dct _) => some (.type "dict")
    | some (.ins c _) => some (.ref (t.CA c))
    | _ => none)
/-- what is known of a class for isinstance -/
structure Ki (T : Tab) (t : Tx) (K : PySem.W.Frag) : Prop where
  cls : ∀ c, T.clsOk c = true → Cls K (t.CA c) ∧ PySem.W.findIn K (.ref (t.CA c)) "__class__" = some (some (.builtin "object.__class__")) ∧
    PySem.W.specialIn K (.builtin "object.__class__") "__get__" = some (some (.builtin "getset_descriptor.__get__")) ∧ PySem.W.takesIn K (.builtin "object.__class__") = some true ∧ PySem.W.mroIn K (t.CA c) (.type "object") = some true
/-- the class named in the text is cl -/
def IsK (T : Tab) (t : Tx) (K : PySem.W.Frag) (cl : Cl) (u : Value) : Prop := ∀ h x ty, known T h x = true → tyVal t h x = some ty → PySem.W.kitOne K ty u = some (isOf T h x cl)
theorem tyx {T : Tab} {t : Tx} {K : PySem.W.Frag} (ki : Ki T t K) {h : Hp} {H : L2.Hp} {x : W} {v : L2.V} (hr : HR t K h H) (vx : VR K H x v) (kn : known T h x = true) : ∃ ty, tyVal t h x = some ty ∧ L2.TyX K H v ty := by
  cases vx with
  | non => exact ⟨_, rfl, .base .non⟩
  | bl b => exact ⟨_, rfl, .base (.bl b)⟩
  | int b => exact ⟨_, rfl, .base (.int b)⟩
  | str b => exact ⟨_, rfl, .base (.str b)⟩
  | tup hp _ =>
    refine ⟨_, rfl, ?_⟩
    rcases hp with (hp | ⟨o, hp⟩) | ⟨o, its, n, hk, hc, _⟩
    · exact .base (.tup hp)
    · exact .fTuple hp
    · exact .kTuple hk hc
  | ref a =>
    cases e : h a with
    | none => simp [known, e] at kn
    | some o =>
      cases o with
      | lst xs =>
        obtain ⟨ys, f1, _⟩ := hr.lst e
        exact ⟨_, by simp only [tyVal, e], .base (.lst f1)⟩
      | ins c fs =>
        obtain ⟨dx, gs, f1, _⟩ := hr.ins e
        obtain ⟨c1, c2, c3, c4, c5⟩ := ki.cls c (by simpa [known, e] using kn)
        exact ⟨_, by simp only [tyVal, e], .base (.ins f1 c1 c2 c3 c4 c5)⟩
      | dct kvs =>
        obtain ⟨ks, f1, _⟩ := hr.dct e
        exact ⟨_, by simp only [tyVal, e], .base (.dK f1)⟩
      | fro xs => simp [known, e] at kn
section
variable {T : Tab} {F : Fn} {t : Tx} {X : Cx} (mF : Mo F)
include mF
variable {a c : Expr} {ma : E} {p pos : Pos} {es : List Expr}
theorem me_isi {cv : L2.V} {u : Value} {cl : Cl} (ki : Ki T t X.K) (hm : X.mg "isinstance" = none) (ha : PE X a (tM T F t X.K ma)) (hc : PE X c (L2.tC cv)) (hk : L2.ClsV cv u) (hi : IsK T t X.K cl u) (hg : Gl X "isinstance" := by rfl)
    (he : starEach [a, c] X.env = (false, eval a X.env) :: starEach [c] X.env := by rfl) (he2 : starEach [c] X.env = (false, eval c X.env) :: starEach [] X.env := by rfl) (hpl : (backTo pos (starEach [c] X.env)).any (·.1) = false := by rfl) :
    PE X (.Call (.Name "isinstance" p) [a, c] [] pos) (tM T F t X.K (.isi ma [cl])) := by
  refine PE.imp (L2.pe_callB L2.call_isi hg hm (by decide +kernel) (L2.pa_cons ha (L2.pa_cons hc L2.pa_nil he2) he) (by decide) (by decide) he hpl) fun τ H Q ⟨σ, h, hs, hr, z⟩ => ?_
  unfold wE at z
  refine tM.bind mF hs hr z fun x h1 v H1 r1 v1 k1 ⟨kn, z1⟩ => ?_
  obtain ⟨ty, e1, e2⟩ := tyx ki r1 v1 kn
  refine ⟨v, cv, ty, u, _, rfl, hk, e2, hi h1 x ty kn e1, ?_⟩
  have e : [cl].any (isOf T h1 x) = isOf T h1 x cl := by simp
  rw [e] at z1
  exact z1 _ _ r1 (.bl _) k1
omit mF in
theorem kitAny_of {K : PySem.W.Frag} {h : Hp} {x : W} {ty : Value} (kn : known T h x = true) (e : tyVal t h x = some ty) : ∀ {cls : List Cl} {us : List Value}, PySem.Paired (fun c u => IsK T t K c u) cls us → PySem.W.kitAny K ty us = some (cls.any (isOf T h x))
  | _, _, .nil => rfl
  | _, _, .cons r a => by
    unfold PySem.W.kitAny
    rw [r h x ty kn e, List.any_cons]
    cases q : isOf T h x _ with
    | true => rfl
    | false => exact kitAny_of kn e a
theorem me_isiT {cs : List L2.V} {us : List Value} {cls : List Cl} {kt : Nat} {tp : Pos} (ki : Ki T t X.K) (hm : X.mg "isinstance" = none) (ha : PE X a (tM T F t X.K ma)) (hc : PA X es (fun _ H Q => Q cs H)) (hk : PySem.Paired L2.ClsV cs us) (hi : PySem.Paired (fun c u => IsK T t X.K c u) cls us) (hl : cs.length ≤ sizeLine := by decide)
    (hg : Gl X "isinstance" := by rfl) (he : starEach [a, .Tuple es kt tp] X.env = (false, eval a X.env) :: starEach [.Tuple es kt tp] X.env := by rfl)
    (he2 : starEach [.Tuple es kt tp] X.env = (false, eval (.Tuple es kt tp) X.env) :: starEach [] X.env := by rfl) (hpl : (backTo pos (starEach [.Tuple es kt tp] X.env)).any (·.1) = false := by rfl) :
    PE X (.Call (.Name "isinstance" p) [a, .Tuple es kt tp] [] pos) (tM T F t X.K (.isi ma cls)) := by
  refine PE.imp (L2.pe_callB L2.call_isiT hg hm (by decide +kernel) (L2.pa_cons ha (L2.pa_cons (L2.pe_tup hc) L2.pa_nil he2) he) (by decide) (by decide) he hpl) fun τ H Q ⟨σ, h, hs, hr, z⟩ => ?_
  unfold wE at z
  refine tM.bind mF hs hr z fun x h1 v H1 r1 v1 k1 ⟨kn, z1⟩ => ⟨hl, fun q hq => ?_⟩
  obtain ⟨g1, g2⟩ := go_hid (t := t) (K := X.K) r1 (u := .tup cs) hq
  obtain ⟨ty, e1, e2⟩ := tyx ki g1 (v1.mono (g2.tk r1)) kn
  exact ⟨v, q, cs, ty, us, _, rfl, L2.upd_same, hk, e2, kitAny_of kn e1 hi, z1 _ _ g1 (.bl _) (k1.trans g2)⟩
end

/-! ### targets -/
mutual
def tgSl : Tg → List Nat
  | .nm i => [i]
  | .fld _ _ => []
  | .sub _ _ => []
  | .tp ts => tgsSl ts
def tgsSl : Tgs → List Nat
  | .nil => []
  | .cons t r => tgSl t ++ tgsSl r
end
def Off (ss : List Nat) (τ τ' : L2.St) : Prop := τ'.length = τ.length ∧ ∀ j, j ∉ ss → τ'[j]? = τ[j]?
section
variable (T : Tab) (F : Fn) (t : Tx) (K : PySem.W.Frag)
def tG (m : Tg) : TG := fun v τ H Q => ∃ σ h x, SR K H σ τ ∧ HR t K h H ∧ VR K H x v ∧ wTg T F m x σ h (fun σ' h' => ∀ τ' H', SR K H' σ' τ' → HR t K h' H' → Keep h H h' H' → Off (tgSl m) τ τ' → Q τ' H') (XW t K h H τ)
def tGs (m : Tgs) : TGs := fun vs τ H Q => ∃ σ h xs, SR K H σ τ ∧ HR t K h H ∧ VA K H xs vs ∧ wTgs T F m xs σ h (fun σ' h' => ∀ τ' H', SR K H' σ' τ' → HR t K h' H' → Keep h H h' H' → Off (tgsSl m) τ τ' → Q τ' H') (XW t K h H τ)
end
theorem PG.imp {X : Cx} {e : Expr} {t t' : TG} (h : PG X e t) (i : ∀ v σ H Q, t' v σ H Q → t v σ H Q) : PG X e t' := ⟨fun pins s σ H v u Q I r z => h.run pins s σ H v u Q I r (i _ _ _ _ z)⟩
theorem PGs.imp {X : Cx} {e : List Expr} {t t' : TGs} (h : PGs X e t) (i : ∀ v σ H Q, t' v σ H Q → t v σ H Q) : PGs X e t' := ⟨fun pins s σ H v u Q I r z => h.run pins s σ H v u Q I r (i _ _ _ _ z)⟩
section
variable {T : Tab} {F : Fn} {t : Tx} {X : Cx} (mF : Mo F) (cw : CW t)
theorem mg_name {i : Nat} {x : Str} {pos : Pos} (hN : X.N.Nodup) (hi : X.N[i]? = some x := by rfl) (hx : L2.Loc X.env.scope x := by first | exact Or.inl rfl | exact Or.inr rfl) (hf : X.fn x = true ∨ X.env.scope.names.lookup x = some .local := by first | exact .inl rfl | exact .inr rfl) :
    PG X (.Name x pos) (tG T F t X.K (.nm i)) := by
  refine PG.imp (L2.pg_name hN hi hx hf) fun v τ H Q ⟨σ, h, x, hs, hr, vx, z⟩ => ?_
  unfold wTg at z
  refine z _ H (hs.set vx) hr Keep.refl ⟨by simp, fun j hj => ?_⟩
  unfold tgSl at hj
  rw [List.getElem?_set_ne (fun e => hj (by simp [e]))]
theorem mgs_nil : PGs X [] (tGs T F t X.K .nil) := by
  refine PGs.imp L2.pgs_nil fun v τ H Q ⟨σ, h, xs, hs, hr, va, z⟩ => ?_
  unfold wTgs at z
  obtain ⟨e, z⟩ := z
  subst e
  cases va
  exact ⟨rfl, z _ H hs hr Keep.refl ⟨rfl, fun _ _ => rfl⟩⟩
include mF cw in
theorem mgs_cons {e : Expr} {es : List Expr} {m : Tg} {ms : Tgs} (h1 : PG X e (tG T F t X.K m)) (h2 : PGs X es (tGs T F t X.K ms))
    (hst : (assignEach (e :: es) X.env).map (·.2) = assign e X.env :: (assignEach es X.env).map (·.2) := by rfl) : PGs X (e :: es) (tGs T F t X.K (.cons m ms)) := by
  refine PGs.imp (L2.pgs_cons h1 h2 hst) fun v τ H Q ⟨σ, h, xs, hs, hr, va, z⟩ => ?_
  unfold wTgs at z
  split at z
  · cases va with
    | cons r va =>
      refine ⟨_, _, rfl, σ, h, _, hs, hr, r, wTg_mono mF m _ _ _ _ _ _ _ (fun σ1 h1 z1 τ1 H1 s1 r1 k1 o1 => ?_) (by first | exact XW.id | exact XW.go cw k | exact XW.go cw k1 | exact XW.go cw (k1.trans k2) | exact XW.go cw k2 | exact XW.go cw (k1.trans k04) | exact XW.go cw ((k1.trans k2).trans k3) | exact XW.go cw k3 | exact XW.go cw k4 | exact XW.go cw (k1.trans k3) | exact XW.go cw (k1.trans (k2.trans k3)) | exact XW.go cw ((k1.trans k23).trans k4) | exact XW.step k | exact XW.step k1 | exact XW.step (k1.trans k2) | exact XW.step k2 | exact XW.step ((k1.trans k2).trans k3) | exact XW.step (k1.trans k04) | exact XW.step k3 | exact XW.step k4 | exact XW.step (k1.trans (k2.trans k3))) z⟩
      refine ⟨σ1, h1, _, s1, r1, va.mono (k1.tk hr), wTgs_mono mF ms _ _ _ _ _ _ _ (fun σ2 h2 z2 τ2 H2 s2 r2 k2 o2 => ?_) (by first | exact XW.id | exact XW.go cw k | exact XW.go cw k1 | exact XW.go cw (k1.trans k2) | exact XW.go cw k2 | exact XW.go cw (k1.trans k04) | exact XW.go cw ((k1.trans k2).trans k3) | exact XW.go cw k3 | exact XW.go cw k4 | exact XW.go cw (k1.trans k3) | exact XW.go cw (k1.trans (k2.trans k3)) | exact XW.go cw ((k1.trans k23).trans k4) | exact XW.step k | exact XW.step k1 | exact XW.step (k1.trans k2) | exact XW.step k2 | exact XW.step ((k1.trans k2).trans k3) | exact XW.step (k1.trans k04) | exact XW.step k3 | exact XW.step k4 | exact XW.step (k1.trans (k2.trans k3))) z1⟩
      refine z2 τ2 H2 s2 r2 (k1.trans k2) ⟨o2.1.trans o1.1, fun j hj => ?_⟩
      unfold tgsSl at hj
      rw [List.mem_append, not_or] at hj
      rw [o2.2 j hj.2, o1.2 j hj.1]
  · exact z.elim
theorem mg_tup {es : List Expr} {k : Nat} {pos : Pos} {ms : Tgs} (hc : X.calm = true) (h : PGs X es (tGs T F t X.K ms))
    (hn : (assignEach es X.env).length = tgsLen ms := by rfl) (hst : (assignEach es X.env).findIdx? (·.1) = none := by rfl) : PG X (.Tuple es k pos) (tG T F t X.K (.tp ms)) := by
  refine PG.imp (L2.pg_tup hc h hn hst) fun v τ H Q ⟨σ, h, x, hs, hr, vx, z⟩ => ?_
  unfold wTg at z
  split at z
  · obtain ⟨p, ys, rfl, hp, ap⟩ := vx.tupW
    refine ⟨p, ys, rfl, hp, by rw [← ap.length]; exact z.1, σ, h, _, hs, hr, ap, ?_⟩
    have z2 := z.2
    unfold tgSl at z2
    exact z2
  · exact z.elim
include mF cw in
theorem mg_fld {o : Expr} {mo : E} {pos : Pos} (kc : Kc T t X.K) (f : Nat) (ho : PE X o (tM T F t X.K mo)) : PG X (.Attribute o (t.nm f) pos) (tG T F t X.K (.fld mo f)) := by
  refine ⟨fun pins s τ H v u Q I r ⟨σ, h, x, hs, hr, vx, z⟩ => ?_⟩
  unfold wTg at z
  have q : tM T F t X.K mo τ H fun y H1 => ∃ a c dx gs, y = .ref a ∧ H1 a = some (.ins (t.CA c) dx gs) ∧ Cls X.K (t.CA c) ∧ NoAttr X.K (t.CA c) (t.nm f) ∧ gs.length < 1000 ∧ Q τ (L2.upd H1 a (.ins (t.CA c) dx (L2.putF (t.nm f) v gs))) :=
    tM.bind mF hs hr z fun y h1 yv H1 r1 v1 k1 z1 => by
      split at z1
      · split at z1
        · rename_i e1
          obtain ⟨dx, gs, f1, a1⟩ := r1.ins e1
          obtain ⟨q1, q2, z1⟩ := z1
          obtain ⟨c1, c2, c3⟩ := kc.fld _ f q1
          cases v1
          obtain ⟨g1, g2⟩ := go_set r1 e1 (OR.ins (t := t) (dx := dx) (a1.put c1 (vx.mono (k1.tk hr))))
          exact ⟨_, _, dx, gs, rfl, f1, c2, c3, by rw [← a1.length]; omega, z1 τ _ (hs.mono ((k1.trans g2).tk hr)) g1 (k1.trans g2) ⟨rfl, fun _ _ => rfl⟩⟩
        · exact z1.elim
      · exact z1.elim
  rw [assign_Attribute]
  refine wpAny_bind (wpAny_holding (L2.thn (ho.run pins s τ H _ I q) fun ov s1 ⟨y, H1, I1, r1, a, c, dx, gs, e1, e2, e3, e4, e5, e6⟩ => ?_))
  subst e1
  obtain rfl : ov = Value.ref a := r1
  refine wpAny_bind (wpAny_standAt ?_)
  refine wpAny_bind (wpAny_holding ?_)
  exact L2.setattr_ok I1 e2 e3 e4 e5 r fun s2 I2 => wpAny_release ⟨τ, _, I2, e6⟩
include mF cw in
theorem mg_sub {o i : Expr} {mo mi : E} {pos : Pos} (ho : PE X o (tM T F t X.K mo)) (hi : PE X i (tM T F t X.K mi))
    (ha : ∀ v, assign (.Subscript o i pos) X.env v = (do
      let ov ← holding [v] (eval o X.env)
      let iv ← holding [v, ov] (eval i X.env)
      standAt pos
      holding [v, ov, iv] (setItem ov iv v)
      release [v, ov, iv] []) := by intro _; rfl) : PG X (.Subscript o i pos) (tG T F t X.K (.sub mo mi)) := by
  refine PG.imp (L2.pg_sub ho hi L2.set_list ha) fun v τ H Q ⟨σ, h, x, hs, hr, vx, z⟩ => ?_
  unfold wTg at z
  refine tM.bind mF hs hr z fun y h1 yv H1 r1 v1 k1 z1 => tM.bind mF (hs.mono (k1.tk hr)) r1 z1 fun k h2 kv H2 r2 v2 k2 z2 => ?_
  split at z2
  · split at z2
    · rename_i e1
      obtain ⟨us, f1, a1⟩ := r2.lst e1
      cases v1; cases v2
      cases q : L2.ixN _ _ with
      | none => rw [q] at z2; exact z2.elim
      | some j =>
        rw [q] at z2
        have tk := (k1.trans k2).tk hr
        obtain ⟨g1, g2⟩ := go_set r2 e1 (OR.lst (t := t) (VA.set (vx.mono tk) j a1))
        exact ⟨_, us, _, j, rfl, rfl, f1, by rw [← a1.length]; exact q, z2 τ _ (hs.mono ((k1.trans k2).trans g2 |>.tk hr)) g1 ((k1.trans k2).trans g2) ⟨rfl, fun _ _ => rfl⟩⟩
    · exact z2.elim
  · exact z2.elim
end
end Mi
set_option maxHeartbeats 4000000
namespace Mi
open PySem PySem.Spec PyProof.Rows
open L2 (PE PT PW PA PS PSs PG PGs PI PC PO PTs OpR UnR CallR IxR MtR SlR Inv RelV Vals TE TT TA TS TG TGs TI TO R2 VK Cx EP Room FnOk CX0 E0 pass0 Gl Cls NoAttr Meth Mk Binds It)
/-- an iterator that gives out the items xs while G stands -/
structure ItW (t : Tx) (K : PySem.W.Frag) (h1 : Hp) (H1 : L2.Hp) (J : It) (xs : List W) (G : Hp → Prop) : Prop where
  go : ∀ i h H, i < xs.length → HR t K h H → Keep h1 H1 h H → G h → J.go i H
  stop : ∀ h H, HR t K h H → Keep h1 H1 h H → G h → J.stop xs.length H
  yld : ∀ i h H v H', i < xs.length → HR t K h H → Keep h1 H1 h H → G h → J.yld i H v H' → ∃ x, xs[i]? = some x ∧ HR t K h H' ∧ Keep h H h H' ∧ VR K H' x v
section
variable (T : Tab) (F : Fn) (t : Tx) (K : PySem.W.Frag)
def tI (m : I) : TI := fun τ H R => ∃ σ h, SR K H σ τ ∧ HR t K h H ∧ wI T F m σ h (fun xs G h1 => ∀ J H1, HR t K h1 H1 → Keep h H h1 H1 → ItW t K h1 H1 J xs G → R J H1) (XW t K h H τ)
end
theorem PI.imp {X : Cx} {tg e : Expr} {t t' : TI} (h : PI X tg e t) (i : ∀ σ H R, t' σ H R → t σ H R) : PI X tg e t' := ⟨fun pins s σ H R I z => h.run pins s σ H R I (i _ _ _ z)⟩
section
variable {t : Tx} {K : PySem.W.Frag} {h1 : Hp} {H1 : L2.Hp}
theorem itw_list {a : Addr} {xs : List W} : ItW t K h1 H1 (L2.Itl K a) xs (fun h => h a = some (.lst xs)) where
  go := fun i h H hi hr _ e => by
    obtain ⟨ys, f, av⟩ := hr.lst e
    obtain ⟨v, e2, _⟩ := av.get (i := i) (x := xs[i]) (by simp [hi])
    exact ⟨ys, v, L2.SqL.of f, e2⟩
  stop := fun h H hr _ e => by
    obtain ⟨ys, f, av⟩ := hr.lst e
    exact ⟨ys, L2.SqL.of f, by rw [av.length]; exact Nat.le_refl _⟩
  yld := fun i h H v H' hi hr _ e y => by
    obtain ⟨rfl, y⟩ := y
    obtain ⟨ys, f, av⟩ := hr.lst e
    obtain ⟨u, e2, r⟩ := av.get (i := i) (x := xs[i]) (by simp [hi])
    have e3 := y ys (L2.SqL.of f)
    rw [e2] at e3
    cases e3
    exact ⟨xs[i], by simp [hi], hr, Keep.refl, r⟩
theorem sqT_keep {p : Addr} {ys : List L2.V} (r1 : HR t K h1 H1) (hp : L2.SqT K H1 p ys) {h : Hp} {H : L2.Hp} (k : Keep h1 H1 h H) : L2.SqT K H p ys := k.tk r1 p ys hp
theorem itw_tup {p : Addr} {xs : List W} {ys : List L2.V} (r1 : HR t K h1 H1) (hp : L2.SqT K H1 p ys) (ap : VA K H1 xs ys) (inj : ∀ H zs, L2.SqT K H p ys → L2.SqT K H p zs → True) : ItW t K h1 H1 (L2.Itt K p) xs (fun _ => True) where
  go := fun i h H hi hr k _ => by
    obtain ⟨v, e2, _⟩ := ap.get (i := i) (x := xs[i]) (by simp [hi])
    exact ⟨ys, v, sqT_keep r1 hp k, e2⟩
  stop := fun h H hr k _ => ⟨ys, sqT_keep r1 hp k, by rw [ap.length]; exact Nat.le_refl _⟩
  yld := fun i h H v H' hi hr k _ y => by
    obtain ⟨rfl, y⟩ := y
    obtain ⟨u, e2, r⟩ := ap.get (i := i) (x := xs[i]) (by simp [hi])
    have e3 := y ys (sqT_keep r1 hp k)
    rw [e2] at e3
    cases e3
    exact ⟨xs[i], by simp [hi], hr, Keep.refl, r.mono (k.tk r1)⟩
theorem rngW_get : ∀ (n : Nat) (lo : Int) (i : Nat), i < n → (rngW lo n)[i]? = some (.int (lo + i))
  | 0, _, _, h => by omega
  | n + 1, lo, 0, _ => by simp [rngW]
  | n + 1, lo, i + 1, h => by
    rw [rngW, List.getElem?_cons_succ, rngW_get n (lo + 1) i (by omega)]
    congr 2
    omega
theorem rngW_len : ∀ (n : Nat) (lo : Int), (rngW lo n).length = n
  | 0, _ => rfl
  | n + 1, lo => by rw [rngW, List.length_cons, rngW_len n]
theorem itw_rng {lo : Int} {n : Nat} : ItW t K h1 H1 (L2.Itr lo n) (rngW lo n) (fun _ => True) where
  go := fun i h H hi _ _ _ => by rw [rngW_len] at hi; exact hi
  stop := fun h H _ _ _ => by rw [rngW_len]; exact Nat.le_refl _
  yld := fun i h H v H' hi hr _ _ y => by
    obtain ⟨rfl, rfl⟩ := y
    rw [rngW_len] at hi
    exact ⟨_, rngW_get n lo i hi, hr, Keep.refl, .int _⟩
theorem enumW_get : ∀ (xs : List W) (k i : Nat) (x : W), xs[i]? = some x → (enumW k xs)[i]? = some (.tup [.int ((k + i : Nat) : Int), x])
  | [], _, _, _, h => by simp at h
  | y :: xs, k, 0, x, h => by
    simp at h
    subst h
    simp [enumW]
  | y :: xs, k, i + 1, x, h => by
    rw [enumW, List.getElem?_cons_succ, enumW_get xs (k + 1) i x (by simpa using h)]
    congr 4
    omega
theorem enumW_len : ∀ (xs : List W) (k : Nat), (enumW k xs).length = xs.length
  | [], _ => rfl
  | _ :: xs, k => by rw [enumW, List.length_cons, enumW_len xs, List.length_cons]
/-- a pair just laid -/
theorem pair_new {h : Hp} {H : L2.Hp} (hr : HR t K h H) {q : Addr} {x y : W} {v u : L2.V} (hq : H q = none) (r1 : VR K H x v) (r2 : VR K H y u) :
    HR t K h (L2.upd H q (.tup [v, u])) ∧ Keep h H h (L2.upd H q (.tup [v, u])) ∧ VR K (L2.upd H q (.tup [v, u])) (.tup [x, y]) (.ref q) := by
  obtain ⟨g1, g2⟩ := go_hid (t := t) (K := K) hr (u := .tup [v, u]) hq
  exact ⟨g1, g2, .tup (L2.SqT.of L2.upd_same) (.cons (r1.mono (tk_new hq)) (.cons (r2.mono (tk_new hq)) .nil))⟩
theorem itw_enum {a : Addr} {xs : List W} : ItW t K h1 H1 (L2.Ite K a) (enumW 0 xs) (fun h => h a = some (.lst xs)) where
  go := fun i h H hi hr _ e => by
    rw [enumW_len] at hi
    obtain ⟨ys, f, av⟩ := hr.lst e
    obtain ⟨v, e2, _⟩ := av.get (i := i) (x := xs[i]) (by simp [hi])
    exact ⟨ys, v, L2.SqL.of f, e2⟩
  stop := fun h H hr _ e => by
    obtain ⟨ys, f, av⟩ := hr.lst e
    exact ⟨ys, L2.SqL.of f, by rw [enumW_len, av.length]; exact Nat.le_refl _⟩
  yld := fun i h H v H' hi hr _ e y => by
    rw [enumW_len] at hi
    obtain ⟨q, z, rfl, hq, rfl, y⟩ := y
    obtain ⟨ys, f, av⟩ := hr.lst e
    obtain ⟨u, e2, r⟩ := av.get (i := i) (x := xs[i]) (by simp [hi])
    have e3 := y ys (L2.SqL.of f)
    rw [e2] at e3
    cases e3
    obtain ⟨g1, g2, g3⟩ := pair_new hr hq (.int (i : Nat)) r
    exact ⟨_, by rw [enumW_get xs 0 i xs[i] (by simp [hi])], g1, g2, by simpa using g3⟩
theorem zipW_get : ∀ (xs ys : List W) (i : Nat) (x y : W), xs[i]? = some x → ys[i]? = some y → (zipW xs ys)[i]? = some (.tup [x, y])
  | [], _, _, _, _, h, _ => by simp at h
  | _ :: _, [], _, _, _, _, h => by simp at h
  | a :: xs, b :: ys, 0, x, y, h1, h2 => by
    simp at h1 h2
    subst h1 h2
    rfl
  | a :: xs, b :: ys, i + 1, x, y, h1, h2 => by
    rw [zipW, List.getElem?_cons_succ]
    exact zipW_get xs ys i x y (by simpa using h1) (by simpa using h2)
theorem zipW_len : ∀ (xs ys : List W), (zipW xs ys).length = min xs.length ys.length
  | [], _ => by simp [zipW]
  | _ :: _, [] => by simp [zipW]
  | _ :: xs, _ :: ys => by
    rw [zipW, List.length_cons, zipW_len xs ys, List.length_cons, List.length_cons]
    omega
theorem itw_zip {a b : Addr} {xs ys : List W} : ItW t K h1 H1 (L2.Itz K a b) (zipW xs ys) (fun h => h a = some (.lst xs) ∧ h b = some (.lst ys)) where
  go := fun i h H hi hr _ e => by
    rw [zipW_len] at hi
    obtain ⟨us, f, av⟩ := hr.lst e.1
    obtain ⟨ws, f', av'⟩ := hr.lst e.2
    obtain ⟨v, e2, _⟩ := av.get (i := i) (x := xs[i]'(by omega)) (by simp [show i < xs.length by omega])
    obtain ⟨v', e2', _⟩ := av'.get (i := i) (x := ys[i]'(by omega)) (by simp [show i < ys.length by omega])
    exact ⟨us, ws, v, v', L2.SqL.of f, L2.SqL.of f', e2, e2'⟩
  stop := fun h H hr _ e => by
    obtain ⟨us, f, av⟩ := hr.lst e.1
    obtain ⟨ws, f', av'⟩ := hr.lst e.2
    exact ⟨us, ws, L2.SqL.of f, L2.SqL.of f', by rw [zipW_len, av.length, av'.length]; omega⟩
  yld := fun i h H v H' hi hr _ e y => by
    rw [zipW_len] at hi
    obtain ⟨q, z, z', rfl, hq, rfl, y, y'⟩ := y
    obtain ⟨us, f, av⟩ := hr.lst e.1
    obtain ⟨ws, f', av'⟩ := hr.lst e.2
    obtain ⟨v, e2, r⟩ := av.get (i := i) (x := xs[i]'(by omega)) (by simp [show i < xs.length by omega])
    obtain ⟨v', e2', r'⟩ := av'.get (i := i) (x := ys[i]'(by omega)) (by simp [show i < ys.length by omega])
    have e3 := y us (L2.SqL.of f)
    have e3' := y' ws (L2.SqL.of f')
    rw [e2] at e3
    rw [e2'] at e3'
    cases e3
    cases e3'
    obtain ⟨g1, g2, g3⟩ := pair_new hr hq r r'
    exact ⟨_, zipW_get xs ys i _ _ (by simp [show i < xs.length by omega]) (by simp [show i < ys.length by omega]), g1, g2, g3⟩
theorem itw_zipT {p q : Addr} {xs ys : List W} {us ws : List L2.V} (r1 : HR t K h1 H1) (hp : L2.SqT K H1 p us) (ap : VA K H1 xs us) (hq : L2.SqT K H1 q ws) (aq : VA K H1 ys ws) : ItW t K h1 H1 (RZ.ItzT K p q) (zipW xs ys) (fun _ => True ∧ True) where
  go := fun i h H hi hr k _ => by
    rw [zipW_len] at hi
    obtain ⟨v, e2, _⟩ := ap.get (i := i) (x := xs[i]'(by omega)) (by simp [show i < xs.length by omega])
    obtain ⟨v', e2', _⟩ := aq.get (i := i) (x := ys[i]'(by omega)) (by simp [show i < ys.length by omega])
    exact ⟨us, ws, v, v', sqT_keep r1 hp k, sqT_keep r1 hq k, e2, e2'⟩
  stop := fun h H hr k _ => ⟨us, ws, sqT_keep r1 hp k, sqT_keep r1 hq k, by rw [zipW_len, ap.length, aq.length]; omega⟩
  yld := fun i h H v H' hi hr k _ y => by
    rw [zipW_len] at hi
    obtain ⟨c, z, z', rfl, hc, rfl, y, y'⟩ := y
    obtain ⟨v, e2, r⟩ := ap.get (i := i) (x := xs[i]'(by omega)) (by simp [show i < xs.length by omega])
    obtain ⟨v', e2', r'⟩ := aq.get (i := i) (x := ys[i]'(by omega)) (by simp [show i < ys.length by omega])
    have e3 := y us (sqT_keep r1 hp k)
    have e3' := y' ws (sqT_keep r1 hq k)
    rw [e2] at e3
    rw [e2'] at e3'
    cases e3
    cases e3'
    obtain ⟨g1, g2, g3⟩ := pair_new hr hc (r.mono (k.tk r1)) (r'.mono (k.tk r1))
    exact ⟨_, zipW_get xs ys i _ _ (by simp [show i < xs.length by omega]) (by simp [show i < ys.length by omega]), g1, g2, g3⟩
end
end Mi
set_option maxHeartbeats 4000000
namespace PySem
open AutoSeq1 (wpAny_loadPart')
theorem meets_enumerate_newT (l : Addr) (items : Array Value) (n : Nat) (dct : Option Addr) (sl : Array (Option Value)) :
    Meets (Builtin.«enumerate.__new__» ⟨[.type "enumerate", .ref l], []⟩) (fun _ R s => s.heap.get? l = some { cls := .type "tuple", dict := dct, data := .seq items n, slots := sl } ∧
      R (.ok (.ret (.ref (s.heap.push { cls := .type "tuple_iterator", data := .fields #[.ref l, .int 0 0] }).objs.size)))
        { s with heap := (s.heap.push { cls := .type "tuple_iterator", data := .fields #[.ref l, .int 0 0] }).push { cls := .type "enumerate", data := .fields #[.none, .bool false, .ref s.heap.objs.size, rawInt 0, .none, .none] } }) :=
  .of_wp fun prog w A R s h => by
    obtain ⟨hp, g, d, tk, os⟩ := s; obtain ⟨hl, h⟩ := h
    have hsub := sub_enumerate
    have hL : Heap.IsTuple (Shared.heap ⟨hp, g, d, tk, os⟩) l items := ⟨_, hl, rfl, n, rfl⟩
    wp_walk using wpAny_loadPart' hl
    refine wpAny_stack_any fun st => wpAny_pure ?_
    split
    · rename_i c _ _ _ _ _
      cases (c == Value.type "enumerate")
      · wp_walk using wpAny_loadPart' hl, wpAny_pyIter_tuple hL
        exact ⟨_, rfl, h⟩
      · wp_walk using wpAny_loadPart' hl, wpAny_pyIter_tuple hL
        exact ⟨_, rfl, h⟩
    · wp_walk using wpAny_loadPart' hl, wpAny_pyIter_tuple hL
      exact ⟨_, rfl, h⟩
theorem call_enumerate_tuple {prog : Program} {w : World} {A : Around} {E : Value → Shared → Prop} {s : Shared} {l : Addr} {items : Array Value} {Q : Value → Shared → Prop} (hL : s.heap.IsTuple l items)
    (h : ∀ h', IsEnum h' (s.heap.objs.size + 1) s.heap.objs.size 0 .none → h'.IsTupleIter s.heap.objs.size l 0 → h'.objs.size = s.heap.objs.size + 2 →
      (∀ b o, s.heap.get? b = some o → h'.get? b = some o) → Q (.ref (s.heap.objs.size + 1)) { s with heap := h' }) :
    wpAny (model prog w) A (call (.type "enumerate") [.ref l]) Q E s := by
  obtain ⟨⟨c, dct, dt, sl⟩, hl, hc, n, hd⟩ := hL
  replace hc : c = .type "tuple" := hc
  replace hd : dt = .seq items n := hd
  subst hc hd
  refine callType_new F.called_enumerate (by decide) (F.typeCall_enumerate_1 _) (F.newCall_enumerate_1 _) (fun obj => F.args_object_init_2 obj _) F.entry_enumerate_new
    (meets_enumerate_newT l items n dct sl) ⟨hl, ?_⟩
  have hz : (s.heap.push { cls := .type "tuple_iterator", data := .fields #[.ref l, .int 0 0] }).objs.size = s.heap.objs.size + 1 := Heap.size_push ..
  show _ ∧ _
  rw [hz]
  have he : IsEnum ((s.heap.push { cls := .type "tuple_iterator", data := .fields #[.ref l, .int 0 0] }).push
      { cls := .type "enumerate", data := .fields #[.none, .bool false, .ref s.heap.objs.size, rawInt 0, .none, .none] }) (s.heap.objs.size + 1) s.heap.objs.size 0 .none := by
    have := Heap.get?_push_size (s.heap.push { cls := .type "tuple_iterator", data := .fields #[.ref l, .int 0 0] })
      (o := { cls := .type "enumerate", data := .fields #[.none, .bool false, .ref s.heap.objs.size, rawInt 0, .none, .none] }) rfl
    rw [hz] at this; exact this
  refine ⟨⟨_, he, rfl⟩, h _ he ⟨_, Heap.get?_push_of_some _ (Heap.get?_push_size _ rfl), rfl, rfl⟩ (by rw [Heap.size_push, hz]) fun b o x => Heap.get?_push_of_some _ (Heap.get?_push_of_some _ x)⟩
end PySem
namespace Mi
open PySem PySem.Spec PyProof.Rows L2
def IteT (K : PySem.W.Frag) (a : Addr) : It :=
  ⟨fun i H => ∃ (xs : List V) (x : V), SqT K H a xs ∧ xs[i]? = some x, fun i H v H' => ∃ T x, v = .ref T ∧ H T = none ∧ H' = L2.upd H T (.tup [.int (i : Nat), x]) ∧ ∀ xs, SqT K H a xs → xs[i]? = some x, fun i H => ∃ xs : List V, SqT K H a xs ∧ xs.length ≤ i⟩
theorem turn_enumT {P : Program} {w : World} {K : PySem.W.Frag} {elts : List Expr} {kk : Nat} {tpos : Pos} (a e it : Addr) :
    Turn P w K (.Tuple elts kk tpos) (IteT K a) [e, it] e (fun i h => (∃ old, IsEnum h e it ((i : Nat) : Int) old) ∧ h.IsTupleIter it a i ∧ e ≠ it) where
  mem := by simp
  obj := fun i h st b hb => by
    obtain ⟨⟨old, he⟩, ⟨o, ho, hc, hd⟩, _⟩ := st
    have e' : b = e ∨ b = it := by simpa using hb
    rcases e' with z | z
    · rw [z]; exact ⟨_, he, fun v q => nomatch q⟩
    · rw [z]; exact ⟨o, ho, fun v q => by rw [hd] at q; cases q⟩
  keep := fun i h h' st k => let ⟨⟨old, he⟩, hi, hne⟩ := st; ⟨⟨old, k e (by simp) _ he⟩, hi.at fun o q => k it (by simp) o q, hne⟩
  item := by
    intro X hP hw hK hc i pins s σ H E I hf st hg
    subst hP hw hK
    obtain ⟨⟨old, he⟩, hit, hne⟩ := st
    obtain ⟨xs, x, hq, hx⟩ := hg
    obtain ⟨its, rv, p, hz⟩ := I.tuple hq
    obtain ⟨u, hu, ru⟩ := rv.get hx
    have hel : e < s.heap.objs.size := Heap.lt_size he
    have hil : it < s.heap.objs.size := by obtain ⟨_, q, _⟩ := hit; exact Heap.lt_size q
    have nai : a ≠ it := fun z => by
      obtain ⟨o1, q1, c1, _⟩ := p
      obtain ⟨o2, q2, c2, _⟩ := hit
      rw [z, q2] at q1
      cases q1
      rw [c1] at c2
      exact absurd c2 (by decide)
    have nae : e ≠ a := fun z => by
      obtain ⟨o1, q1, c1, _⟩ := p
      have q2 : s.heap.get? e = some _ := he
      rw [z, q1] at q2
      cases q2
      exact absurd (show Value.type "enumerate" = Value.type "tuple" from c1) (by decide)
    have hi : i < its.toArray.size := by
      have := (List.getElem?_eq_some_iff.mp hu).1
      simpa using this
    refine wpAny_pyNext_enum_itemD (D := Draws.tuple (A := X.A.in1) (I.ok.hd hc) it a nai its.toArray) he ⟨hit, p⟩ hi hne (by simp [hne, nae]) fun y h' tk hy ho hst hT hsz hk => ?_
    have ey : y = u := by
      have e1 : its.toArray[i]? = some u := by simpa using hu
      rw [e1] at hy
      cases hy
      rfl
    subst ey
    refine ⟨_, rfl, wpAny_letOwnedTupleGo_enum (s := { s with heap := h', toks := tk + 1 }) ho fun h'' he' sb => ?_⟩
    have hT2 : h''.get? s.heap.objs.size = some { cls := .type "tuple", data := .seq #[.int i tk, y] } := (sb.2 _ (Nat.ne_of_gt hel)).trans hT
    have new : ObjOk X.prog X.w (L2.upd H s.heap.objs.size (.tup [.int (i : Nat), x])) h'' s.heap.objs.size (.tup [.int (i : Nat), x]) :=
      ⟨by show 2 ≤ sizeLine; decide, [.int i tk, y], .cons ⟨_, rfl⟩ (.cons ru .nil), ⟨_, hT2, rfl, _, rfl⟩⟩
    have I1 : Inv X pins σ (L2.upd H s.heap.objs.size (.tup [.int (i : Nat), x])) { s with heap := h'', toks := tk + 1 } :=
      I.turnedNew (ch := [e, it]) (fun b ob hb q => (sb.2 b (fun z => hb (by simp [z]))).trans (hk b ob (fun z => hb (by simp [z])) (fun z => hb (by simp [z])) q)) hf (Nat.le_refl _) new
    refine ⟨.ref s.heap.objs.size, _, I1, rfl, ⟨_, x, rfl, I.hok.fresh (Nat.le_refl _), rfl, fun ys hy => by rw [I.tuple_inj hy hq]; exact hx⟩, ⟨⟨y, ?_⟩, hst.1.at fun o q => (sb.2 it (Ne.symm hne)).trans q, hne⟩, fun b hb => ?_⟩
    · have e1 : ((i + 1 : Nat) : Int) = (i : Int) + 1 := by omega
      rw [e1]; exact he'
    · have hb' : b < s.heap.objs.size := by
        have e' : b = e ∨ b = it := by simpa using hb
        rcases e' with z | z
        · rw [z]; exact hel
        · rw [z]; exact hil
      rw [L2.upd_ne (Nat.ne_of_lt hb')]
      exact (hf b hb).1
  done := by
    intro X hP hw hK hc i pins s σ H E I hf st hg
    subst hP hw hK
    obtain ⟨⟨old, he⟩, hit, hne⟩ := st
    obtain ⟨xs, hq, hx⟩ := hg
    obtain ⟨its, rv, p, hz⟩ := I.tuple hq
    obtain ⟨f0, f1, f2, f3, f4, f5⟩ := hf it (by simp)
    have hl := rv.length
    have nai : a ≠ it := fun z => by
      obtain ⟨o1, q1, c1, _⟩ := p
      obtain ⟨o2, q2, c2, _⟩ := hit
      rw [z, q2] at q1
      cases q1
      rw [c1] at c2
      exact absurd c2 (by decide)
    have D : Draws X.prog X.w X.A.in1 it [it, a] i (fun _ _ => True) (fun j h => j = i ∧ h.IsTupleIter it a i ∧ h.IsTuple a its.toArray) :=
      ⟨fun j h st => let ⟨o, ho, _⟩ := st.2.1; ⟨o, ho⟩, fun j h h' st hk => ⟨st.1, st.2.1.at fun o e => hk it (by simp) o e, st.2.2.at fun o e => hk a (by simp) o e⟩,
       fun j s Q E hj st _ => absurd hj (by rw [st.1]; exact Nat.lt_irrefl _), fun s Q E st hE => wpAny_nextOf_tuple_end (A := X.A.in1) (I.ok.hd hc) st.2.1 st.2.2 (by simp; omega) hE⟩
    exact wpAny_pyNext_enum_endD D he ⟨rfl, hit, p⟩ fun h' eb => ⟨rfl, I.turned (t' := s.toks) (fun b o hb q => eb b o hb q) f0 f1 f3 f4 f5⟩
  self := fun A i s Q E st h => let ⟨⟨_, he⟩, _⟩ := st; wpAny_pyIter_enum he h
/-- enumerate of a list or a tuple -/
def iEnumA (K : PySem.W.Frag) (ta : TA) : TI := fun σ H R => ta σ H fun vs H1 => ∃ a xs, vs = [.ref a] ∧ ((SqL K H1 a xs ∧ R (Ite K a) H1) ∨ (SqT K H1 a xs ∧ R (IteT K a) H1))
theorem pi_enumA {X : Cx} {e : Expr} {ta : TA} {p pos tpos : Pos} {elts : List Expr} {kk : Nat} (hg : Gl X "enumerate") (hm : X.mg "enumerate" = none) (ha : PA X [e] ta) (hs : starEach [e] X.env = [(false, eval e X.env)] := by rfl) :
    PI X (.Tuple elts kk tpos) (.Call (.Name "enumerate" p) [e] [] pos) (iEnumA X.K ta) := by
  refine ⟨fun pins s σ H R I h => ?_⟩
  refine Call_ (ld_blt I hg hm boot_enumerate (PyProof.Rows.callWith_type1 (thn (ha.run pos pins s σ H _ I h) fun us s1 ⟨vs, H1, I1, r1, q1⟩ => ?_) hs rfl))
  obtain ⟨a, xs, ex, hq⟩ := q1
  subst ex
  cases r1 with
  | cons r rr =>
    cases rr
    cases r
    have fin : ∀ b, b ∈ [s1.heap.objs.size + 1, s1.heap.objs.size] → FpOk X pins H1 b := fun b hb => by
      have e' : b = s1.heap.objs.size + 1 ∨ b = s1.heap.objs.size := by simpa using hb
      have hle : s1.heap.objs.size ≤ b := by
        rcases e' with z | z
        · rw [z]; exact Nat.le_add_right _ _
        · rw [z]; exact Nat.le_refl _
      exact I1.fpOk hle (I1.hok.fresh hle)
    rcases hq with ⟨hq, q⟩ | ⟨hq, q⟩
    · obtain ⟨its, rv, p', hz⟩ := I1.list hq
      refine call_enumerate_list p'.isList fun h' he hit hsz hk => wpAny_pyIter_enum he ?_
      have I2 : Inv X pins σ H1 { s1 with heap := h' } := I1.kept (t' := s1.toks) hk
      exact ⟨s1.heap.objs.size + 1, [s1.heap.objs.size + 1, s1.heap.objs.size], _, _, H1, rfl, I2, turn_enum a (s1.heap.objs.size + 1) s1.heap.objs.size, ⟨⟨.none, he⟩, hit, Nat.succ_ne_self _⟩, fin, q⟩
    · obtain ⟨its, rv, p', hz⟩ := I1.tuple hq
      refine call_enumerate_tuple (show s1.heap.IsTuple a its.toArray from p') fun h' he hit hsz hk => wpAny_pyIter_enum he ?_
      have I2 : Inv X pins σ H1 { s1 with heap := h' } := I1.kept (t' := s1.toks) hk
      exact ⟨s1.heap.objs.size + 1, [s1.heap.objs.size + 1, s1.heap.objs.size], _, _, H1, rfl, I2, turn_enumT a (s1.heap.objs.size + 1) s1.heap.objs.size, ⟨⟨.none, he⟩, hit, Nat.succ_ne_self _⟩, fin, q⟩
/-- what is walked: a list or a tuple -/
def iSeq (K : PySem.W.Frag) (tl : TE) : TI := fun σ H R => tl σ H fun x H1 => ∃ a, x = .ref a ∧ ((∃ xs, SqL K H1 a xs ∧ R (Itl K a) H1) ∨ ∃ xs, SqT K H1 a xs ∧ R (Itt K a) H1)
theorem pi_seq {X : Cx} {tg l : Expr} {tl : TE} (hl : PE X l tl) : PI X tg l (iSeq X.K tl) := by
  refine ⟨fun pins s σ H R I h => ?_⟩
  refine thn (hl.run pins s σ H _ I h) fun v s1 ⟨x, H1, I1, r1, q1⟩ => ?_
  obtain ⟨a, e, q1⟩ := q1
  subst e
  cases r1
  have fin : ∀ b, b ∈ [s1.heap.objs.size] → FpOk X pins H1 b := fun b hb => by
    have e : b = s1.heap.objs.size := by simpa using hb
    subst e
    exact I1.fpOk (Nat.le_refl _) (I1.hok.fresh (Nat.le_refl _))
  rcases q1 with ⟨xs, hq, q⟩ | ⟨xs, hq, q⟩
  · obtain ⟨its, rv, p, hz⟩ := I1.list hq
    refine wpAny_pyIter_list p.isList ?_
    exact ⟨s1.heap.objs.size, [s1.heap.objs.size], _, _, H1, rfl, I1.kept (t' := s1.toks) fun b o e => Heap.get?_push_of_some _ e, turn_list a _, ⟨_, Heap.get?_push_size _ rfl, rfl, rfl⟩, fin, q⟩
  · obtain ⟨its, rv, p, hz⟩ := I1.tuple hq
    refine wpAny_pyIter_tuple (show s1.heap.IsTuple a its.toArray from p) ?_
    exact ⟨s1.heap.objs.size, [s1.heap.objs.size], _, _, H1, rfl, I1.kept (t' := s1.toks) fun b o e => Heap.get?_push_of_some _ e, turn_tuple a _, ⟨_, Heap.get?_push_size _ rfl, rfl, rfl⟩, fin, q⟩
end Mi
set_option maxHeartbeats 4000000
namespace Mi
open PySem PySem.Spec PyProof.Rows
open L2 (PE PT PW PA PS PSs PG PGs PI PC PO PTs OpR UnR CallR IxR MtR SlR Inv RelV Vals TE TT TA TS TG TGs TI TO R2 VK Cx EP Room FnOk CX0 E0 pass0 Gl Cls NoAttr Meth Mk Binds It)
section
variable {t : Tx} {K : PySem.W.Frag} {h1 : Hp} {H1 : L2.Hp}
theorem itw_enumT {p : Addr} {xs : List W} {ys : List L2.V} (r1 : HR t K h1 H1) (hp : L2.SqT K H1 p ys) (ap : VA K H1 xs ys) : ItW t K h1 H1 (IteT K p) (enumW 0 xs) (fun _ => True) where
  go := fun i h H hi hr k _ => by
    rw [enumW_len] at hi
    obtain ⟨v, e2, _⟩ := ap.get (i := i) (x := xs[i]) (by simp [hi])
    exact ⟨ys, v, sqT_keep r1 hp k, e2⟩
  stop := fun h H hr k _ => ⟨ys, sqT_keep r1 hp k, by rw [enumW_len, ap.length]; exact Nat.le_refl _⟩
  yld := fun i h H v H' hi hr k _ y => by
    rw [enumW_len] at hi
    obtain ⟨q, z, rfl, hq, rfl, y⟩ := y
    obtain ⟨u, e2, r⟩ := ap.get (i := i) (x := xs[i]) (by simp [hi])
    have e3 := y ys (sqT_keep r1 hp k)
    rw [e2] at e3
    cases e3
    obtain ⟨g1, g2, g3⟩ := pair_new hr hq (.int (i : Nat)) (r.mono (k.tk r1))
    exact ⟨_, by rw [enumW_get xs 0 i xs[i] (by simp [hi])], g1, g2, by simpa using g3⟩
theorem seqOf_at {h : Hp} {x : W} {q : List W × (Hp → Prop)} (e : seqOf h x = some q) : (∃ xs, x = .tup xs ∧ q = (xs, fun _ => True)) ∨ ∃ a xs, x = .ref a ∧ h a = some (.lst xs) ∧ q = (xs, fun h' => h' a = some (.lst xs)) := by
  unfold seqOf at e
  split at e
  · cases e
    exact .inl ⟨_, rfl, rfl⟩
  · split at e
    · rename_i e1
      cases e
      exact .inr ⟨_, _, rfl, e1, rfl⟩
    · cases e
  · cases e
end
section
variable {T : Tab} {F : Fn} {t : Tx} {X : Cx} (mF : Mo F)
include mF
variable {tg a b : Expr} {ma mb : E} {p pos : Pos}
theorem mi_of (ha : PE X a (tM T F t X.K ma)) : PI X tg a (tI T F t X.K (.of ma)) := by
  refine PI.imp (pi_seq ha) fun τ H R ⟨σ, h, hs, hr, z⟩ => ?_
  unfold wI at z
  refine tM.bind mF hs hr z fun x h1 v H1 r1 v1 k1 z1 => ?_
  cases q : seqOf h1 x with
  | none => rw [q] at z1; exact z1.elim
  | some w =>
    rw [q] at z1
    rcases seqOf_at q with ⟨xs, rfl, rfl⟩ | ⟨a, xs, rfl, e1, rfl⟩
    · obtain ⟨p, ys, rfl, hp, ap⟩ := v1.tupW
      exact ⟨p, rfl, .inr ⟨ys, hp, z1 _ _ r1 k1 (itw_tup r1 hp ap fun _ _ _ _ => trivial)⟩⟩
    · obtain ⟨ys, f1, a1⟩ := r1.lst e1
      cases v1
      exact ⟨a, rfl, .inl ⟨ys, L2.SqL.of f1, z1 _ _ r1 k1 itw_list⟩⟩
omit mF in
theorem itw_chr {z : Str} {h1 : Hp} {H1 : L2.Hp} : ItW t X.K h1 H1 (L2.Its z) (chrs z) (fun _ => True) where
  go := fun i h H hi hr k _ => by
    have : i < z.cps.size := by simpa [chrs] using hi
    exact this
  stop := fun h H hr k _ => by
    show z.cps.size ≤ (chrs z).length
    simp [chrs]
  yld := fun i h H v H' hi hr k _ y => by
    obtain ⟨rfl, c, e1, rfl⟩ := y
    exact ⟨.str ⟨#[c]⟩, by unfold chrs; rw [List.getElem?_map]; simp [e1], hr, Keep.refl, .str _⟩
theorem mi_chr (ha : PE X a (tM T F t X.K ma)) : PI X tg a (tI T F t X.K (.chr ma)) := by
  refine PI.imp (L2.pi_str ha) fun τ H R ⟨σ, h, hs, hr, z⟩ => ?_
  unfold wI at z
  refine tM.bind mF hs hr z fun x h1 v H1 r1 v1 k1 z1 => ?_
  split at z1
  · cases v1
    exact ⟨_, rfl, z1 _ _ r1 k1 itw_chr⟩
  · exact z1.elim
theorem mi_rng1 (hm : X.mg "range" = none) (ha : PE X a (tM T F t X.K ma)) (hg : Gl X "range" := by rfl) (hs : starEach [a] X.env = [(false, eval a X.env)] := by rfl) : PI X tg (.Call (.Name "range" p) [a] [] pos) (tI T F t X.K (.rng1 ma)) := by
  refine PI.imp (L2.pi_range1 hg hm (L2.pa_cons ha L2.pa_nil (by rw [hs] <;> rfl)) hs) fun τ H R ⟨σ, h, hs, hr, z⟩ => ?_
  unfold wI at z
  refine tM.bind mF hs hr z fun x h1 v H1 r1 v1 k1 z1 => ?_
  split at z1
  · cases v1
    exact ⟨_, rfl, z1.1, z1.2.1, z1.2.2 _ _ r1 k1 itw_rng⟩
  · exact z1.elim
theorem mi_rng2 (hm : X.mg "range" = none) (ha : PE X a (tM T F t X.K ma)) (hb : PE X b (tM T F t X.K mb)) (hg : Gl X "range" := by rfl) (hs : starEach [a, b] X.env = [(false, eval a X.env), (false, eval b X.env)] := by rfl) (hs2 : starEach [b] X.env = [(false, eval b X.env)] := by rfl) :
    PI X tg (.Call (.Name "range" p) [a, b] [] pos) (tI T F t X.K (.rng2 ma mb)) := by
  refine PI.imp (L2.pi_range2 hg hm (L2.pa_cons ha (L2.pa_cons hb L2.pa_nil (by rw [hs2] <;> rfl)) (by rw [hs, hs2])) hs hs2) fun τ H R ⟨σ, h, hs, hr, z⟩ => ?_
  unfold wI at z
  refine tM.bind mF hs hr z fun x h1 v H1 r1 v1 k1 z1 => tM.bind mF (hs.mono (k1.tk hr)) r1 z1 fun y h2 u H2 r2 v2 k2 z2 => ?_
  split at z2
  · cases v1; cases v2
    exact ⟨_, _, rfl, z2.1, z2.2 _ _ r2 (k1.trans k2) itw_rng⟩
  · exact z2.elim
variable {elts : List Expr} {kk : Nat} {tpos : Pos}
theorem mi_enm (hm : X.mg "enumerate" = none) (ha : PE X a (tM T F t X.K ma)) (hg : Gl X "enumerate" := by rfl) (hs : starEach [a] X.env = [(false, eval a X.env)] := by rfl) : PI X (.Tuple elts kk tpos) (.Call (.Name "enumerate" p) [a] [] pos) (tI T F t X.K (.enm ma)) := by
  refine PI.imp (pi_enumA hg hm (L2.pa_cons ha L2.pa_nil (by rw [hs] <;> rfl)) hs) fun τ H R ⟨σ, h, hs, hr, z⟩ => ?_
  unfold wI at z
  refine tM.bind mF hs hr z fun x h1 v H1 r1 v1 k1 z1 => ?_
  cases q : seqOf h1 x with
  | none => rw [q] at z1; exact z1.elim
  | some w =>
    rw [q] at z1
    rcases seqOf_at q with ⟨xs, rfl, rfl⟩ | ⟨a, xs, rfl, e1, rfl⟩
    · obtain ⟨p, ys, rfl, hp, ap⟩ := v1.tupW
      exact ⟨p, ys, rfl, .inr ⟨hp, z1 _ _ r1 k1 (itw_enumT r1 hp ap)⟩⟩
    · obtain ⟨ys, f1, a1⟩ := r1.lst e1
      cases v1
      exact ⟨a, ys, rfl, .inl ⟨L2.SqL.of f1, z1 _ _ r1 k1 itw_enum⟩⟩
/-- zip of two lists, or of two tuples -/
theorem mi_zip (hm : X.mg "zip" = none) (ha : PE X a (tM T F t X.K ma)) (hb : PE X b (tM T F t X.K mb)) (hg : Gl X "zip" := by rfl)
    (hs : starEach [a, b] X.env = (false, eval a X.env) :: starEach [b] X.env := by rfl) (hs2 : starEach [b] X.env = (false, eval b X.env) :: starEach [] X.env := by rfl) (hpl : (backTo pos (starEach [b] X.env)).any (·.1) = false := by rfl) :
    PI X (.Tuple elts kk tpos) (.Call (.Name "zip" p) [a, b] [] pos) (tI T F t X.K (.zip ma mb)) := by
  refine PI.imp (RZ.pi_zipA hg hm (L2.pa_cons ha (L2.pa_cons hb L2.pa_nil hs2) hs) hs hpl) fun τ H R ⟨σ, h, hs, hr, z⟩ => ?_
  unfold wI at z
  refine tM.bind mF hs hr z fun x h1 v H1 r1 v1 k1 z1 => tM.bind mF (hs.mono (k1.tk hr)) r1 z1 fun y h2 u H2 r2 v2 k2 z2 => ?_
  cases q : seqOf h2 x with
  | none => rw [q] at z2; exact z2.elim
  | some w =>
    rw [q] at z2
    cases q' : seqOf h2 y with
    | none => rw [q'] at z2; exact z2.elim
    | some w' =>
      rw [q'] at z2
      obtain ⟨zk, z2⟩ := z2
      rcases seqOf_at q with ⟨xs, rfl, rfl⟩ | ⟨a, xs, rfl, e1, rfl⟩
      · rcases seqOf_at q' with ⟨ys, rfl, rfl⟩ | ⟨b, ys, rfl, e2, rfl⟩
        · obtain ⟨p, us, rfl, hp, ap⟩ := (v1.mono (k2.tk r1)).tupW
          obtain ⟨p', us', rfl, hp', ap'⟩ := v2.tupW
          exact ⟨p, p', us, us', rfl, .inr ⟨hp, hp', z2 _ _ r2 (k1.trans k2) (itw_zipT r2 hp ap hp' ap')⟩⟩
        · cases zk
      · rcases seqOf_at q' with ⟨ys, rfl, rfl⟩ | ⟨b, ys, rfl, e2, rfl⟩
        · cases zk
        · obtain ⟨us, f1, a1⟩ := r2.lst e1
          obtain ⟨us', f1', a1'⟩ := r2.lst e2
          cases v1; cases v2
          exact ⟨a, b, us, us', rfl, .inl ⟨L2.SqL.of f1, L2.SqL.of f1', z2 _ _ r2 (k1.trans k2) itw_zip⟩⟩
end
/-! ### comprehensions -/
section
variable {T : Tab} {F : Fn} {t : Tx} {X : Cx} (mF : Mo F) (cw : CW t)
def tAl (T : Tab) (F : Fn) (t : Tx) (K : PySem.W.Frag) (m : Es) : TT := fun τ H Q => ∃ σ h, SR K H σ τ ∧ HR t K h H ∧ wAll T F m σ h (fun b h' => ∀ H', HR t K h' H' → Keep h H h' H' → Q b H') (XW t K h H τ)
theorem PTs.imp {e : List Expr} {t t' : TT} (h : PTs X e t) (i : ∀ σ H Q, t' σ H Q → t σ H Q) : PTs X e t' := ⟨fun pins s σ H Q I z => h.run pins s σ H Q I (i _ _ _ z)⟩
theorem mts_nil : PTs X [] (tAl T F t X.K .nil) := by
  refine PTs.imp L2.pts_nil fun τ H Q ⟨σ, h, hs, hr, z⟩ => ?_
  unfold wAll at z
  exact z H hr Keep.refl
include mF cw in
theorem mts_one {c : Expr} {mc : E} (h : PT X c (tT T F t X.K mc)) : PTs X [c] (tAl T F t X.K (.cons mc .nil)) := by
  refine PTs.imp (L2.pts_one h) fun τ H Q ⟨σ, h, hs, hr, z⟩ => ?_
  unfold wAll at z
  refine ⟨σ, h, hs, hr, wE_mono mF mc _ _ _ _ _ _ (fun w h1 e => ?_) (by first | exact XW.id | exact XW.go cw k | exact XW.go cw k1 | exact XW.go cw (k1.trans k2) | exact XW.go cw k2 | exact XW.go cw (k1.trans k04) | exact XW.go cw ((k1.trans k2).trans k3) | exact XW.go cw k3 | exact XW.go cw k4 | exact XW.go cw (k1.trans k3) | exact XW.go cw (k1.trans (k2.trans k3)) | exact XW.go cw ((k1.trans k23).trans k4) | exact XW.step k | exact XW.step k1 | exact XW.step (k1.trans k2) | exact XW.step k2 | exact XW.step ((k1.trans k2).trans k3) | exact XW.step (k1.trans k04) | exact XW.step k3 | exact XW.step k4 | exact XW.step (k1.trans (k2.trans k3))) z⟩
  split at e
  · unfold wAll at e
    exact ⟨true, rfl, e⟩
  · exact ⟨false, rfl, e⟩
  · exact e.elim
theorem wipe_SR {K : PySem.W.Frag} {H : L2.Hp} {σ : St} {τ : L2.St} (hs : SR K H σ τ) : ∀ own : List Nat, SR K H (wipe σ own) (L2.wipe τ own)
  | [] => hs
  | i :: r => by
    have ih := wipe_SR hs r
    unfold wipe L2.wipe
    refine ⟨by simp [ih.len], fun j w e => ?_⟩
    by_cases q : i = j
    · subst q
      by_cases l : i < (wipe σ r).length
      · rw [List.getElem?_set_self l] at e
        cases e
      · rw [List.getElem?_eq_none (by simpa using Nat.le_of_not_lt l)] at e
        cases e
    · rw [List.getElem?_set_ne q] at e
      obtain ⟨v, e', r'⟩ := ih.at_ j w e
      exact ⟨v, by rw [List.getElem?_set_ne q]; exact e', r'⟩
theorem wipe_get {τ : L2.St} : ∀ (own : List Nat) (j : Nat), (L2.wipe τ own)[j]? = if j ∈ own then (τ[j]?.map fun _ => none) else τ[j]?
  | [], j => by simp [L2.wipe]
  | i :: r, j => by
    unfold L2.wipe
    by_cases q : i = j
    · subst q
      rw [if_pos (by simp)]
      by_cases l : i < τ.length
      · rw [List.getElem?_set_self (by rw [L2.wipe_length]; exact l), List.getElem?_eq_getElem l]
        rfl
      · rw [List.getElem?_eq_none (by simp [L2.wipe_length]; omega), List.getElem?_eq_none (by omega)]
        rfl
    · rw [List.getElem?_set_ne q, wipe_get r j]
      by_cases m : j ∈ r
      · rw [if_pos m, if_pos (by simp [m])]
      · rw [if_neg m, if_neg (by simp [m, Ne.symm q])]
theorem wipe_off {τ τ' : L2.St} {own ss : List Nat} (o : Off ss (L2.wipe τ own) τ') (hss : ∀ j ∈ ss, j ∈ own) : L2.wipe τ' own = L2.wipe τ own := by
  apply List.ext_getElem?
  intro j
  rw [wipe_get, wipe_get]
  have hl : τ'.length = τ.length := by rw [o.1, L2.wipe_length]
  by_cases m : j ∈ own
  · rw [if_pos m, if_pos m]
    by_cases l : j < τ.length
    · rw [List.getElem?_eq_getElem l, List.getElem?_eq_getElem (by omega)]
      rfl
    · rw [List.getElem?_eq_none (by omega), List.getElem?_eq_none (by omega)]
  · rw [if_neg m, if_neg m, o.2 j (fun z => m (hss j z)), wipe_get, if_neg m]
theorem hid_set {K : PySem.W.Frag} {h : Hp} {H : L2.Hp} {D : Addr} {ys : List L2.V} {u : L2.HO} (r : HR t K h H) (n : h D = none) (e : H D = some (.lst ys)) : HR t K h (L2.upd H D u) ∧ TK K H (L2.upd H D u) := by
  have tk : TK K H (L2.upd H D u) := by
    intro q ys z
    rcases z with (z | ⟨o, z⟩) | z
    · refine .inl (.inl ?_)
      rw [L2.upd_ne (fun y => by rw [y, e] at z; cases z)]
      exact z
    · refine .inl (.inr ⟨o, ?_⟩)
      rw [L2.upd_ne (fun y => by rw [y, e] at z; cases z)]
      exact z
    · exact .inr z
  refine ⟨fun a o ea => ?_, tk⟩
  obtain ⟨o', e', y⟩ := r a o ea
  have q : a ≠ D := fun z => by rw [z, n] at ea; cases ea
  exact ⟨o', by rw [L2.upd_ne q]; exact e', y.mono tk⟩
/-- what a comprehension asks: its own names' slots are what the target writes -/
theorem lc_rd {me : E} {mtg : Tg} {mit : I} {mifs : Es} {own : List Nat} {τ : L2.St} {H : L2.Hp} {Q : VK} (mF : Mo F) (cw : CW t) (hown : ∀ j ∈ tgSl mtg, j ∈ own) (z : tM T F t X.K (.lc me mtg mit mifs own) τ H Q) :
    L2.tLc (tI T F t X.K mit) (tG T F t.no X.K mtg) (tAl T F t.no X.K mifs) (tM T F t.no X.K me) own τ H Q := by
  obtain ⟨σ, h, hs, hr, z⟩ := z
  unfold wE at z
  refine ⟨σ, h, hs, hr, wI_mono mF mit _ _ _ _ _ _ (fun xs G h1 z1 J H1 r1 k1 w => ?_) (by first | exact XW.id | exact XW.go cw k | exact XW.go cw k1 | exact XW.go cw (k1.trans k2) | exact XW.go cw k2 | exact XW.go cw (k1.trans k04) | exact XW.go cw ((k1.trans k2).trans k3) | exact XW.go cw k3 | exact XW.go cw k4 | exact XW.go cw (k1.trans k3) | exact XW.go cw (k1.trans (k2.trans k3)) | exact XW.go cw ((k1.trans k23).trans k4) | exact XW.step k | exact XW.step k1 | exact XW.step (k1.trans k2) | exact XW.step k2 | exact XW.step ((k1.trans k2).trans k3) | exact XW.step (k1.trans k04) | exact XW.step k3 | exact XW.step k4 | exact XW.step (k1.trans (k2.trans k3))) z⟩
  intro D hD
  refine ⟨fun i m H2 => m = xs.length - i ∧ i ≤ xs.length ∧ ∃ acc accV h2, H2 D = some (.lst accV) ∧ h2 D = none ∧ VA X.K H2 acc accV ∧ HR t X.K h2 H2 ∧ Keep h1 H1 h2 H2 ∧
      lcR G (fun x acc h2 R => wTg T F mtg x (wipe σ own) h2 (fun σ3 h3 => wAll T F mifs σ3 h3 (fun b h4 => if b = true then wE T F me σ3 h4 (fun v h5 => acc.length < sizeLine ∧ R (acc ++ [v]) h5) (fun _ _ _ => False) else R acc h4) (fun _ _ _ => False)) (fun _ _ _ => False)) (xs.drop i) acc h2 (fun acc h2 => ∀ p, h2 p = none → PQ t X.K h H Q (.ref p) (upd h2 p (.lst acc))), ⟨xs.length, ?_⟩, ?_⟩
  · obtain ⟨g1, g2⟩ := go_hid (t := t) (K := X.K) r1 (u := .lst []) hD
    exact ⟨by simp, Nat.zero_le _, [], [], h1, L2.upd_same, r1.free hD, .nil, g1, g2, by simpa using z1⟩
  · rintro i m H2 ⟨rfl, hi, acc, accV, h2, e2, n2, va, r2, k2, z2⟩
    by_cases hlt : i < xs.length
    · right
      rw [List.drop_eq_getElem_cons hlt] at z2
      obtain ⟨gz, z2⟩ := z2
      refine ⟨w.go i h2 H2 hlt r2 k2 gz, fun H' => ∃ acc accV h2, H' D = some (.lst accV) ∧ h2 D = none ∧ VA X.K H' acc accV ∧ HR t X.K h2 H' ∧ Keep h1 H1 h2 H' ∧
        lcR G _ (xs.drop (i + 1)) acc h2 (fun acc h2 => ∀ p, h2 p = none → PQ t X.K h H Q (.ref p) (upd h2 p (.lst acc))), fun H' n' => ⟨xs.length - (i + 1), by omega, rfl, hlt, n'⟩, fun v H3 y => ?_⟩
      obtain ⟨x, ex, r3, k3, vx⟩ := w.yld i h2 H2 v H3 hlt r2 k2 gz y
      have ex2 : xs[i] = x := by
        rw [List.getElem?_eq_getElem hlt] at ex
        exact Option.some.inj ex
      subst ex2
      have tk3 : TK X.K H H3 := ((k1.trans k2).trans k3).tk hr
      refine ⟨wipe σ own, h2, _, (wipe_SR hs own).mono tk3, r3, vx, wTg_mono mF mtg _ _ _ _ _ _ _ (fun σ4 h4 z4 τ4 H4 s4 r4 k4 o4 => ⟨wipe_off o4 hown, ?_⟩) (fun _ _ _ z => z.elim) z2⟩
      have d3 := k3 D _ e2 n2
      have d4 := k4 D _ d3.2 d3.1
      refine ⟨σ4, h4, s4, r4, wAll_mono mF mifs _ _ _ _ _ _ (fun b h5 z5 H5 r5 k5 => ?_) (fun _ _ _ z => z.elim) z4⟩
      have d5 := k5 D _ d4.2 d4.1
      cases b with
      | false =>
        refine L2.iteF ?_
        rw [if_neg Bool.false_ne_true] at z5
        exact ⟨acc, accV, h5, d5.2, d5.1, va.mono (((k3.trans k4).trans k5).tk r2), r5, k2.trans ((k3.trans k4).trans k5), z5⟩
      | true =>
        refine L2.iteT ?_
        rw [if_pos rfl] at z5
        refine tM.bind (t := t.no) mF (s4.mono (k5.tk r4)) r5 z5 (hX := fun _ _ _ z => z.elim) fun y h6 yv H6 r6 v6 k6 z6 => ?_
        have d6 := k6 D _ d5.2 d5.1
        have va6 := va.mono ((((k3.trans k4).trans k5).trans k6).tk r2)
        obtain ⟨g1, g2⟩ := hid_set (u := .lst (accV ++ [yv])) r6 d6.1 d6.2
        refine ⟨accV, d6.2, by rw [← va.length]; exact z6.1, acc ++ [y], accV ++ [yv], h6, L2.upd_same, d6.1, (va6.append (.cons v6 .nil)).mono g2, g1, fun a o ea na => ?_, z6.2⟩
        have ka := (k2.trans (((k3.trans k4).trans k5).trans k6)) a o ea na
        have nd : a ≠ D := L2.ne_of_none ea hD
        exact ⟨ka.1, by rw [L2.upd_ne nd]; exact ka.2⟩
    · left
      have e : i = xs.length := by omega
      subst e
      rw [List.drop_length] at z2
      obtain ⟨gz, z2⟩ := z2
      refine ⟨w.stop h2 H2 r2 k2 gz, z2 D n2 _ _ (fun a o ea => ?_) (.ref D) fun a o ea na => ?_⟩
      · by_cases q : a = D
        · subst q
          rw [upd_same] at ea
          cases ea
          exact ⟨_, e2, .lst va⟩
        · rw [upd_ne q] at ea
          exact r2 a o ea
      · have ka := (k1.trans k2) a o ea na
        have nd : a ≠ D := fun q => by
          have k0 := (k1 a o ea na).2
          rw [q, hD] at k0
          cases k0
        exact ⟨by rw [upd_ne nd]; exact ka.1, ka.2⟩
variable {elt tg iter : Expr} {ifs : List Expr} {scope : Scope} {own : List (Str × Nat)} {pos spos : Pos} {me : E} {mtg : Tg} {mit : I} {mifs : Es}
include mF cw in
theorem me_lc (hc : X.calm = true) (hN : X.N.Nodup) (hi : PI X tg iter (tI T F t X.K mit)) (ok : L2.blkC X.N X.env.scope scope own = true)
    (hg : ∀ (s : Shared) (H : L2.Hp) (C : Addr) (cl : List (Str × Addr)) (fp : List Addr), PG (X.blk s H scope (compEnvC scope cl C X.env) fp) tg (tG T F t.no X.K mtg)) (ht : ∀ (s : Shared) (H : L2.Hp) (C : Addr) (cl : List (Str × Addr)) (fp : List Addr), PTs (X.blk s H scope (compEnvC scope cl C X.env) fp) ifs (tAl T F t.no X.K mifs))
    (he : ∀ (s : Shared) (H : L2.Hp) (C : Addr) (cl : List (Str × Addr)) (fp : List Addr), PE (X.blk s H scope (compEnvC scope cl C X.env) fp) elt (tM T F t.no X.K me)) (hown : ∀ j ∈ tgSl mtg, j ∈ own.map (·.2) := by decide) (hs : ∀ x, foldedSetIterable iter X.env x = pure x := by intro _; rfl) :
    PE X (.ListComp elt [⟨tg, iter, ifs, 0⟩] scope pos) (tM T F t X.K (.lc me mtg mit mifs (own.map (·.2)))) :=
  PE.imp (L2.pe_lc hc hN hi (L2.blkOk_by ok) hg ht he hs) fun τ H Q z => lc_rd mF cw hown z
end
end Mi
set_option maxHeartbeats 4000000
namespace Mi
open PySem PySem.Spec PyProof.Rows
open L2 (PE PT PW PA PS PSs PG PGs PI PC PO PTs OpR UnR CallR IxR MtR SlR Inv RelV Vals TE TT TA TS TG TGs TI TO R2 VK Cx EP Room FnOk CX0 E0 pass0 Gl Cls NoAttr Meth Mk Binds It Ends)
section
variable (T : Tab) (F : Fn) (t : Tx) (K : PySem.W.Frag)
def eN (h : Hp) (H : L2.Hp) (R : L2.St → L2.Hp → Prop) : St → Hp → Prop := fun σ' h' => ∀ τ' H', SR K H' σ' τ' → HR t K h' H' → Keep h H h' H' → R τ' H'
def eD (h : Hp) (H : L2.Hp) (D : Ends) : En := ⟨eN t K h H D.nx, PQ t K h H D.rt, eN t K h H D.bk, eN t K h H D.ct⟩
def tS (m : S) : TS := fun D τ H => ∃ σ h, SR K H σ τ ∧ HR t K h H ∧ wS T F m (eD t K h H D) (XW t K h H τ) σ h
def tSs (m : Ss) : TS := fun D τ H => ∃ σ h, SR K H σ τ ∧ HR t K h H ∧ wSs T F m (eD t K h H D) (XW t K h H τ) σ h
end
theorem eN.step {t : Tx} {K : PySem.W.Frag} {h h2 : Hp} {H H2 : L2.Hp} {R : L2.St → L2.Hp → Prop} (k : Keep h H h2 H2) {σ : St} {h' : Hp} (z : eN t K h H R σ h') : eN t K h2 H2 R σ h' := fun τ' H' s r k' => z τ' H' s r (k.trans k')
theorem eD.step {t : Tx} {K : PySem.W.Frag} {h h2 : Hp} {H H2 : L2.Hp} {D : Ends} (k : Keep h H h2 H2) : EnLe (eD t K h H D) (eD t K h2 H2 D) :=
  ⟨fun _ _ z => eN.step k z, fun _ _ z => PQ.step k z, fun _ _ z => eN.step k z, fun _ _ z => eN.step k z⟩
section
variable {T : Tab} {F : Fn} {t : Tx} {X : Cx} (mF : Mo F) (cw : CW t)
variable {st : Stmt} {rest : List Stmt} {ms : S} {mr : Ss} {e : Expr} {me : E} {pos pos' : Pos}
theorem mss_nil : PSs X [] (tSs T F t X.K .nil) := by
  refine PSs.imp L2.pss_nil fun D τ H ⟨σ, h, hs, hr, z⟩ => ?_
  unfold wSs at z
  exact z τ H hs hr Keep.refl
include mF cw in
theorem mss_cons (h1 : PS X st (tS T F t X.K ms)) (h2 : PSs X rest (tSs T F t X.K mr)) : PSs X (st :: rest) (tSs T F t X.K (.cons ms mr)) := by
  refine PSs.imp (L2.pss_cons h1 h2) fun D τ H ⟨σ, h, hs, hr, z⟩ => ?_
  unfold wSs at z
  refine ⟨σ, h, hs, hr, wS_mono mF ms ⟨fun σ' h' => wSs T F mr (eD t X.K h H D) (XW t X.K h H τ) σ' h', (eD t X.K h H D).rt, (eD t X.K h H D).bk, (eD t X.K h H D).ct⟩ _ _ _ _ _ ⟨fun σ' h' z1 τ' H' s1 r1 k1 => ?_, fun _ _ z => z, fun _ _ z => z, fun _ _ z => z⟩ (by first | exact XW.id | exact XC.of cw k1 | exact XC.of cw ((k1.trans k2).trans k3) | exact XC.of cw (k1.trans k2) | exact XC.of cw k2 | exact XC.of cw k | exact XC.of cw Keep.refl | exact XW.go cw k | exact XW.go cw k1 | exact XW.go cw (k1.trans k2) | exact XW.go cw k2 | exact XW.go cw (k1.trans k04) | exact XW.go cw ((k1.trans k2).trans k3) | exact XW.go cw k3 | exact XW.go cw k4 | exact XW.go cw (k1.trans k3) | exact XW.go cw (k1.trans (k2.trans k3)) | exact XW.go cw ((k1.trans k23).trans k4) | exact XW.step k | exact XW.step k1 | exact XW.step (k1.trans k2) | exact XW.step k2 | exact XW.step ((k1.trans k2).trans k3) | exact XW.step (k1.trans k04) | exact XW.step k3 | exact XW.step k4 | exact XW.step (k1.trans (k2.trans k3))) z⟩
  exact ⟨σ', h', s1, r1, wSs_mono mF mr _ _ _ _ _ _ (eD.step k1) (by first | exact XW.id | exact XC.of cw k1 | exact XC.of cw ((k1.trans k2).trans k3) | exact XC.of cw (k1.trans k2) | exact XC.of cw k2 | exact XC.of cw k | exact XC.of cw Keep.refl | exact XW.go cw k | exact XW.go cw k1 | exact XW.go cw (k1.trans k2) | exact XW.go cw k2 | exact XW.go cw (k1.trans k04) | exact XW.go cw ((k1.trans k2).trans k3) | exact XW.go cw k3 | exact XW.go cw k4 | exact XW.go cw (k1.trans k3) | exact XW.go cw (k1.trans (k2.trans k3)) | exact XW.go cw ((k1.trans k23).trans k4) | exact XW.step k | exact XW.step k1 | exact XW.step (k1.trans k2) | exact XW.step k2 | exact XW.step ((k1.trans k2).trans k3) | exact XW.step (k1.trans k04) | exact XW.step k3 | exact XW.step k4 | exact XW.step (k1.trans (k2.trans k3))) z1⟩
/-! ### small statements -/
theorem ms_pass : PS X (.Pass pos) (tS T F t X.K .pas) := by
  refine PS.imp L2.ps_pass fun D τ H ⟨σ, h, hs, hr, z⟩ => ?_
  unfold wS at z
  exact z τ H hs hr Keep.refl
theorem ms_break : PS X (.Break pos) (tS T F t X.K .brk) := by
  refine PS.imp L2.ps_break fun D τ H ⟨σ, h, hs, hr, z⟩ => ?_
  unfold wS at z
  exact z τ H hs hr Keep.refl
theorem ms_cont : PS X (.Continue pos) (tS T F t X.K .cont) := by
  refine PS.imp L2.ps_continue fun D τ H ⟨σ, h, hs, hr, z⟩ => ?_
  unfold wS at z
  exact z τ H hs hr Keep.refl
theorem ms_never : PS X st (tS T F t X.K .never) := by
  refine PS.imp L2.ps_never fun D τ H ⟨σ, h, hs, hr, z⟩ => ?_
  unfold wS at z
  exact z
include mF cw in
theorem ms_exp (he : PE X e (tM T F t X.K me)) (hs : swapsWith e none pos.line X.env = pure false := by rfl) : PS X (.Expr e pos) (tS T F t X.K (.exp me)) := by
  refine PS.imp (L2.ps_expr he hs) fun D τ H ⟨σ, h, hs, hr, z⟩ => ?_
  unfold wS at z
  exact tM.bind mF hs hr z fun w h1 v H1 r1 v1 k1 z1 => z1 τ H1 (hs.mono (k1.tk hr)) r1 k1
theorem ms_ret (he : PE X e (tM T F t X.K me)) : PS X (.Return (some e) pos) (tS T F t X.K (.ret me)) := by
  refine PS.imp (L2.ps_ret he) fun D τ H ⟨σ, h, hs, hr, z⟩ => ?_
  unfold wS at z
  exact ⟨σ, h, hs, hr, z⟩
theorem ms_retN : PS X (.Return none pos) (tS T F t X.K .retN) := by
  refine PS.imp L2.ps_retN fun D τ H ⟨σ, h, hs, hr, z⟩ => ?_
  unfold wS at z
  exact z _ H hr .non Keep.refl
include mF cw in
theorem ms_if {c : Expr} {a b : List Stmt} {mc : E} {ma mb : Ss} (hc : PT X c (tT T F t X.K mc)) (ha : PSs X a (tSs T F t X.K ma)) (hb : PSs X b (tSs T F t X.K mb)) : PS X (.If c a b pos) (tS T F t X.K (.ifs mc ma mb)) := by
  refine PS.imp (L2.ps_if hc ha hb) fun D τ H ⟨σ, h, hs, hr, z⟩ => ?_
  unfold wS at z
  refine ⟨σ, h, hs, hr, wE_mono mF mc _ _ _ _ _ _ (fun w h1 e => ?_) (by first | exact XW.id | exact XC.of cw k1 | exact XC.of cw ((k1.trans k2).trans k3) | exact XC.of cw (k1.trans k2) | exact XC.of cw k2 | exact XC.of cw k | exact XC.of cw Keep.refl | exact XW.go cw k | exact XW.go cw k1 | exact XW.go cw (k1.trans k2) | exact XW.go cw k2 | exact XW.go cw (k1.trans k04) | exact XW.go cw ((k1.trans k2).trans k3) | exact XW.go cw k3 | exact XW.go cw k4 | exact XW.go cw (k1.trans k3) | exact XW.go cw (k1.trans (k2.trans k3)) | exact XW.go cw ((k1.trans k23).trans k4) | exact XW.step k | exact XW.step k1 | exact XW.step (k1.trans k2) | exact XW.step k2 | exact XW.step ((k1.trans k2).trans k3) | exact XW.step (k1.trans k04) | exact XW.step k3 | exact XW.step k4 | exact XW.step (k1.trans (k2.trans k3))) z⟩
  split at e
  · exact ⟨true, rfl, fun H1 r1 k1 => L2.iteT ⟨σ, h1, hs.mono (k1.tk hr), r1, wSs_mono mF ma _ _ _ _ _ _ (eD.step k1) (by first | exact XW.id | exact XC.of cw k1 | exact XC.of cw ((k1.trans k2).trans k3) | exact XC.of cw (k1.trans k2) | exact XC.of cw k2 | exact XC.of cw k | exact XC.of cw Keep.refl | exact XW.go cw k | exact XW.go cw k1 | exact XW.go cw (k1.trans k2) | exact XW.go cw k2 | exact XW.go cw (k1.trans k04) | exact XW.go cw ((k1.trans k2).trans k3) | exact XW.go cw k3 | exact XW.go cw k4 | exact XW.go cw (k1.trans k3) | exact XW.go cw (k1.trans (k2.trans k3)) | exact XW.go cw ((k1.trans k23).trans k4) | exact XW.step k | exact XW.step k1 | exact XW.step (k1.trans k2) | exact XW.step k2 | exact XW.step ((k1.trans k2).trans k3) | exact XW.step (k1.trans k04) | exact XW.step k3 | exact XW.step k4 | exact XW.step (k1.trans (k2.trans k3))) e⟩⟩
  · exact ⟨false, rfl, fun H1 r1 k1 => L2.iteF ⟨σ, h1, hs.mono (k1.tk hr), r1, wSs_mono mF mb _ _ _ _ _ _ (eD.step k1) (by first | exact XW.id | exact XC.of cw k1 | exact XC.of cw ((k1.trans k2).trans k3) | exact XC.of cw (k1.trans k2) | exact XC.of cw k2 | exact XC.of cw k | exact XC.of cw Keep.refl | exact XW.go cw k | exact XW.go cw k1 | exact XW.go cw (k1.trans k2) | exact XW.go cw k2 | exact XW.go cw (k1.trans k04) | exact XW.go cw ((k1.trans k2).trans k3) | exact XW.go cw k3 | exact XW.go cw k4 | exact XW.go cw (k1.trans k3) | exact XW.go cw (k1.trans (k2.trans k3)) | exact XW.go cw ((k1.trans k23).trans k4) | exact XW.step k | exact XW.step k1 | exact XW.step (k1.trans k2) | exact XW.step k2 | exact XW.step ((k1.trans k2).trans k3) | exact XW.step (k1.trans k04) | exact XW.step k3 | exact XW.step k4 | exact XW.step (k1.trans (k2.trans k3))) e⟩⟩
  · exact e.elim
/-! ### assignments -/
include mF cw in
theorem asg_rd {m : Tg} {D : Ends} {τ : L2.St} {H : L2.Hp} (z : tS T F t X.K (.asg m me) D τ H) : L2.tAsg (tM T F t X.K me) (tG T F t X.K m) D τ H := by
  obtain ⟨σ, h, hs, hr, z⟩ := z
  unfold wS at z
  refine tM.bind mF hs hr z fun w h1 v H1 r1 v1 k1 z1 => ?_
  exact ⟨σ, h1, w, hs.mono (k1.tk hr), r1, v1, wTg_mono mF m _ _ _ _ _ _ _ (fun σ2 h2 z2 τ2 H2 s2 r2 k2 _ => z2 τ2 H2 s2 r2 (k1.trans k2)) (by first | exact XW.id | exact XC.of cw k1 | exact XC.of cw ((k1.trans k2).trans k3) | exact XC.of cw (k1.trans k2) | exact XC.of cw k2 | exact XC.of cw k | exact XC.of cw Keep.refl | exact XW.go cw k | exact XW.go cw k1 | exact XW.go cw (k1.trans k2) | exact XW.go cw k2 | exact XW.go cw (k1.trans k04) | exact XW.go cw ((k1.trans k2).trans k3) | exact XW.go cw k3 | exact XW.go cw k4 | exact XW.go cw (k1.trans k3) | exact XW.go cw (k1.trans (k2.trans k3)) | exact XW.go cw ((k1.trans k23).trans k4) | exact XW.step k | exact XW.step k1 | exact XW.step (k1.trans k2) | exact XW.step k2 | exact XW.step ((k1.trans k2).trans k3) | exact XW.step (k1.trans k04) | exact XW.step k3 | exact XW.step k4 | exact XW.step (k1.trans (k2.trans k3))) z1⟩
include mF cw in
theorem ms_asg {tg : Expr} {m : Tg} (he : PE X e (tM T F t X.K me)) (hg : PG X tg (tG T F t X.K m)) (hs : swapsWithSole [tg] e pos.line X.env = pure false := by rfl) (hw : swappedStores [tg] e X.env = pure none := by rfl)
    (h1 : (assignEach [tg] X.env).map (·.2) = [assign tg X.env] := by rfl) : PS X (.Assign [tg] e pos) (tS T F t X.K (.asg m me)) :=
  PS.imp (L2.ps_asg he hg hs hw h1) fun D τ H z => asg_rd mF cw z
include mF cw in
theorem nm_rd {i : Nat} {D : Ends} {τ : L2.St} {H : L2.Hp} (z : tS T F t X.K (.asg (.nm i) me) D τ H) : L2.tAsg (tM T F t X.K me) (L2.gName i) D τ H := by
  obtain ⟨σ, h, hs, hr, z⟩ := z
  unfold wS at z
  refine tM.bind mF hs hr z fun w h1 v H1 r1 v1 k1 z1 => ?_
  unfold wTg at z1
  exact z1 _ H1 ((hs.mono (k1.tk hr)).set v1) r1 k1
include mF cw in
/-- name = e -/
theorem ms_set {i : Nat} {x : Str} (hN : X.N.Nodup) (he : PE X e (tM T F t X.K me)) (hi : X.N[i]? = some x := by rfl) (hx : L2.Loc X.env.scope x := by first | exact Or.inl rfl | exact Or.inr rfl)
    (hs : swapsWith e (some (.Name x pos')) pos.line X.env = pure false := by rfl) (hf : X.fn x = true ∨ X.env.scope.names.lookup x = some .local := by first | exact .inl rfl | exact .inr rfl) :
    PS X (.Assign [.Name x pos'] e pos) (tS T F t X.K (.asg (.nm i) me)) :=
  PS.imp (L2.ps_set hN hi hx he hs hf) fun D τ H z => nm_rd mF cw z
include mF cw in
/-- name = [..] -/
theorem ms_setLc {i : Nat} {y : Str} {py : Pos} {elt tg iter : Expr} {ifs : List Expr} {scope : Scope} {own : List (Str × Nat)} {spos : Pos} {mtg : Tg} {mit : I} {mifs : Es} (hc : X.calm = true) (hN : X.N.Nodup)
    (hi : PI X tg iter (tI T F t X.K mit)) (ok : L2.blkC X.N X.env.scope scope own = true)
    (hg : ∀ (s : Shared) (H : L2.Hp) (C : Addr) (cl : List (Str × Addr)) (fp : List Addr), PG (X.blk s H scope (compEnvC scope cl C X.env) fp) tg (tG T F t.no X.K mtg)) (ht : ∀ (s : Shared) (H : L2.Hp) (C : Addr) (cl : List (Str × Addr)) (fp : List Addr), PTs (X.blk s H scope (compEnvC scope cl C X.env) fp) ifs (tAl T F t.no X.K mifs))
    (he : ∀ (s : Shared) (H : L2.Hp) (C : Addr) (cl : List (Str × Addr)) (fp : List Addr), PE (X.blk s H scope (compEnvC scope cl C X.env) fp) elt (tM T F t.no X.K me)) (hown : ∀ j ∈ tgSl mtg, j ∈ own.map (·.2) := by decide)
    (hsw : swapsWith (.ListComp elt [⟨tg, iter, ifs, 0⟩] scope pos) (some (.Name y py)) spos.line X.env = pure true := by exact L2.sw_true rfl rfl rfl (by decide +kernel)) (hy : X.N[i]? = some y := by rfl) (hyl : X.env.scope.names.lookup y = some .local := by rfl) (hs : ∀ x, foldedSetIterable iter X.env x = pure x := by intro _; rfl) :
    PS X (.Assign [.Name y py] (.ListComp elt [⟨tg, iter, ifs, 0⟩] scope pos) spos) (tS T F t X.K (.asg (.nm i) (.lc me mtg mit mifs (own.map (·.2))))) := by
  refine PS.imp (L2.ps_setLc hc hN hy hyl hsw hi (L2.blkOk_by ok) hg ht he hs) fun D τ H z => ?_
  exact lc_rd mF cw hown (nm_rd mF cw z)
include mF cw in
/-- a, b = x, y -/
theorem ms_par {i j : Nat} {x y : Str} {a b : Expr} {ma mb : E} {px py pt pt2 : Pos} {kt k2 : Nat} (hc : X.calm = true) (hN : X.N.Nodup) (ha : PA X [a, b] (tA T F t X.K (.cons ma (.cons mb .nil)))) (hw : swappedStores [.Tuple [.Name x px, .Name y py] kt pt] (.Tuple [a, b] k2 pt2) X.env = pure (some [x, y]) := by rfl)
    (hi : X.N[i]? = some x := by rfl) (hj : X.N[j]? = some y := by rfl) (hij : i ≠ j := by decide) (hx : X.env.scope.names.lookup x = some .local := by rfl) (hy : X.env.scope.names.lookup y = some .local := by rfl)
    (hs : swapsWithSole [.Tuple [.Name x px, .Name y py] kt pt] (.Tuple [a, b] k2 pt2) pos.line X.env = pure false := by rfl) :
    PS X (.Assign [.Tuple [.Name x px, .Name y py] kt pt] (.Tuple [a, b] k2 pt2) pos) (tS T F t X.K (.asg (.tp (.cons (.nm i) (.cons (.nm j) .nil))) (.tup (.cons ma (.cons mb .nil))))) := by
  refine PS.imp (L2.ps_par hc hN hi hj hij hx hy ha hw hs) fun D τ H ⟨σ, h, hs, hr, z⟩ => ?_
  unfold wS wE at z
  refine tA.bind mF hs hr z fun ws h1 vs H1 r1 v1 k1 z1 => ?_
  unfold wTg at z1
  obtain ⟨z1, z2⟩ := z1
  cases v1 with
  | nil => cases z1
  | cons p1 v1 =>
    cases v1 with
    | nil => cases z1
    | cons p2 v1 =>
      cases v1 with
      | cons _ _ => cases z1
      | nil =>
        refine ⟨_, _, rfl, ?_⟩
        unfold wTgs wTg wTgs wTg wTgs at z2
        exact z2.2 _ H1 (((hs.mono (k1.tk hr)).set p1).set p2) r1 k1
include mF cw in
/-- a, b, c = x, y, z -/
theorem ms_par3 {i j l : Nat} {x y z' : Str} {a b c : Expr} {ma mb mc : E} {px py pz pt pt2 : Pos} {kt k2 : Nat} (hc : X.calm = true) (hN : X.N.Nodup) (ha : PA X [a, b, c] (tA T F t X.K (.cons ma (.cons mb (.cons mc .nil))))) (hw : swappedStores [.Tuple [.Name x px, .Name y py, .Name z' pz] kt pt] (.Tuple [a, b, c] k2 pt2) X.env = pure (some [x, y, z']) := by rfl)
    (hi : X.N[i]? = some x := by rfl) (hj : X.N[j]? = some y := by rfl) (hl : X.N[l]? = some z' := by rfl) (hij : i ≠ j := by decide) (hil : i ≠ l := by decide) (hjl : j ≠ l := by decide)
    (hx : X.env.scope.names.lookup x = some .local := by rfl) (hy : X.env.scope.names.lookup y = some .local := by rfl) (hz : X.env.scope.names.lookup z' = some .local := by rfl)
    (hs : swapsWithSole [.Tuple [.Name x px, .Name y py, .Name z' pz] kt pt] (.Tuple [a, b, c] k2 pt2) pos.line X.env = pure false := by rfl) :
    PS X (.Assign [.Tuple [.Name x px, .Name y py, .Name z' pz] kt pt] (.Tuple [a, b, c] k2 pt2) pos) (tS T F t X.K (.asg (.tp (.cons (.nm i) (.cons (.nm j) (.cons (.nm l) .nil)))) (.tup (.cons ma (.cons mb (.cons mc .nil)))))) := by
  refine PS.imp (L2.ps_par3 hc hN hi hj hl hij hil hjl hx hy hz ha hw hs) fun D τ H ⟨σ, h, hs, hr, z⟩ => ?_
  unfold wS wE at z
  refine tA.bind mF hs hr z fun ws h1 vs H1 r1 v1 k1 z1 => ?_
  unfold wTg at z1
  obtain ⟨z1, z2⟩ := z1
  cases v1 with
  | nil => cases z1
  | cons p1 v1 =>
    cases v1 with
    | nil => cases z1
    | cons p2 v1 =>
      cases v1 with
      | nil => cases z1
      | cons p3 v1 =>
        cases v1 with
        | cons _ _ => cases z1
        | nil =>
          refine ⟨_, _, _, rfl, ?_⟩
          unfold wTgs wTg wTgs wTg wTgs wTg wTgs at z2
          exact z2.2 _ H1 ((((hs.mono (k1.tk hr)).set p1).set p2).set p3) r1 k1
include mF cw in
/-- o.f = e -/
theorem ms_fld {o : Expr} {mo : E} (kc : Kc T t X.K) (f : Nat) (ho : PE X o (tM T F t X.K mo)) (he : PE X e (tM T F t X.K me)) (hs : swapsWith e (some (.Attribute o (t.nm f) pos')) pos.line X.env = pure false := by rfl) :
    PS X (.Assign [.Attribute o (t.nm f) pos'] e pos) (tS T F t X.K (.asg (.fld mo f) me)) := by
  refine PS.imp (L2.ps_fld ho he hs) fun D τ H ⟨σ, h, hs, hr, z⟩ => ?_
  unfold wS at z
  refine tM.bind mF hs hr z fun w h1 v H1 r1 v1 k1 z1 => ?_
  unfold wTg at z1
  refine tM.bind mF (hs.mono (k1.tk hr)) r1 z1 fun x h2 u H2 r2 v2 k2 z2 => ?_
  split at z2
  · split at z2
    · rename_i e1
      obtain ⟨dx, gs, f1, a1⟩ := r2.ins e1
      obtain ⟨q1, q2, z2⟩ := z2
      obtain ⟨c1, c2, c3⟩ := kc.fld _ f q1
      cases v2
      obtain ⟨g1, g2⟩ := go_set r2 e1 (OR.ins (t := t) (dx := dx) (a1.put c1 (v1.mono (k2.tk r1))))
      exact ⟨_, _, dx, gs, rfl, f1, c2, c3, by rw [← a1.length]; omega, z2 τ _ (hs.mono (((k1.trans k2).trans g2).tk hr)) g1 ((k1.trans k2).trans g2)⟩
    · exact z2.elim
  · exact z2.elim
/-! ### name op= e -/
theorem ip_of {op : Operator} {r : R2} (h : OpR X (inplaceOp op) r) : L2.PIp X op r := fun pins s τ H x y v u Q I rx ry q => h pins s τ H x y v u Q I rx ry q
theorem ip_M (o : Bop) (ho : o = .add ∨ o = .sub) : L2.PIp X (bopOf o) (fun v u H Q => ∃ x y h, HR t X.K h H ∧ VR X.K H x v ∧ VR X.K H y u ∧ augOk o x y = true ∧ wBin T F o x y h (PQ t X.K h H Q) (XC t X.K h H)) := by
  intro pins s τ H v u va ua Q I rx ry ⟨x, y, h, hr, vx, vy, ok, z⟩
  unfold augOk at ok
  split at ok
  · cases vx; cases vy
    exact L2.iop_add pins s τ H _ _ va ua Q I rx ry ⟨_, _, rfl, rfl, z _ _ hr (.int _) Keep.refl⟩
  · cases vx; cases vy
    exact L2.iop_sub pins s τ H _ _ va ua Q I rx ry ⟨_, _, rfl, rfl, z _ _ hr (.int _) Keep.refl⟩
  · cases ok
include mF cw in
theorem ms_aug {i : Nat} {x : Str} (o : Bop) (hN : X.N.Nodup) (he : PE X e (tM T F t X.K me)) (ho : o = .add ∨ o = .sub := by simp) (hi : X.N[i]? = some x := by rfl) (hx : L2.Loc X.env.scope x := by first | exact Or.inl rfl | exact Or.inr rfl) (hf : X.fn x = true ∨ X.env.scope.names.lookup x = some .local := by first | exact .inl rfl | exact .inr rfl) :
    PS X (.AugAssign (.Name x pos') (bopOf o) e pos) (tS T F t X.K (.aug i o me)) := by
  refine PS.imp (L2.ps_aug hN hi hx he (ip_M (T := T) (F := F) (t := t) o ho) hf) fun D τ H ⟨σ, h, hs, hr, z⟩ => ?_
  unfold wS at z
  split at z
  · rename_i x e1
    obtain ⟨v, e2, rv⟩ := hs.at_ i x e1
    refine ⟨v, e2, tM.bind mF hs hr z fun y h1 u H1 r1 v1 k1 z1 => ⟨x, y, h1, r1, rv.mono (k1.tk hr), v1, z1.1, wBin_mono mF (fun w h2 z2 v2 H2 r2 v3 k2 => ?_) (by first | exact XW.id | exact XC.of cw k1 | exact XC.of cw ((k1.trans k2).trans k3) | exact XC.of cw (k1.trans k2) | exact XC.of cw k2 | exact XC.of cw k | exact XC.of cw Keep.refl | exact XW.go cw k | exact XW.go cw k1 | exact XW.go cw (k1.trans k2) | exact XW.go cw k2 | exact XW.go cw (k1.trans k04) | exact XW.go cw ((k1.trans k2).trans k3) | exact XW.go cw k3 | exact XW.go cw k4 | exact XW.go cw (k1.trans k3) | exact XW.go cw (k1.trans (k2.trans k3)) | exact XW.go cw ((k1.trans k23).trans k4) | exact XW.step k | exact XW.step k1 | exact XW.step (k1.trans k2) | exact XW.step k2 | exact XW.step ((k1.trans k2).trans k3) | exact XW.step (k1.trans k04) | exact XW.step k3 | exact XW.step k4 | exact XW.step (k1.trans (k2.trans k3))) z1.2⟩⟩
    exact z2 _ H2 ((hs.mono ((k1.trans k2).tk hr)).set v3) r2 (k1.trans k2)
  · exact z.elim
include mF cw in
theorem ms_augS {a i : Expr} {ma mi : E} {tpos : Pos} (o : Bop) (ha : PE X a (tM T F t X.K ma)) (hi : PE X i (tM T F t X.K mi)) (he : PE X e (tM T F t X.K me)) (ho : o = .add ∨ o = .sub := by simp)
    (has : ∀ ov iv new, augStore i ov iv new = (do holding [new, ov, iv] (setItem ov iv new); release [new, ov, iv] []; pure .next) := by intros; rfl) :
    PS X (.AugAssign (.Subscript a i tpos) (bopOf o) e pos) (tS T F t X.K (.augS ma mi o me)) := by
  have pg : L2.PGet X (L2.rIxL X.K) := by
    intro pins s σ H x y v u Q I rx ry ⟨p, xs, i, w, ex, ey, hp, hat, q⟩
    subst ex ey
    cases rx
    obtain ⟨t', rfl⟩ := ry
    obtain ⟨its, r, pl, hz⟩ := I.list hp
    obtain ⟨j, h1, h2, h3, h4, h5⟩ := L2.atI_get hat
    obtain ⟨u, hu, ru⟩ := r.get h2
    have hl := r.length
    have hn := L2.line63
    have fin : EP X pins σ Q u s := ⟨w, H, I, ru, q⟩
    by_cases h0 : 0 ≤ i
    · have hj : i.toNat = j := by
        rw [seqIndex_of h0 h5] at h1
        exact Option.some.inj h1
      exact wpAny_getItem_list pl.isList h0 (by omega) (by rw [hj]; simpa using hu) fin
    · have hj : (i + (its.toArray.size : Int)).toNat = j := by
        rw [PySem.seqIndex_neg (by omega) h4] at h1
        rw [List.size_toArray, ← hl]
        exact Option.some.inj h1
      exact wpAny_getItem_list_neg pl.isList (by omega) (by rw [List.size_toArray] <;> omega) (by omega) (by rw [hj]; simpa using hu) fin
  refine PS.imp (L2.ps_augS ha hi pg he (ip_M (T := T) (F := F) (t := t) o ho) L2.set_list has) fun D τ H ⟨σ, h, hs, hr, z⟩ => ?_
  unfold wS at z
  refine tM.bind mF hs hr z fun x h1 v H1 r1 v1 k1 z1 => tM.bind mF (hs.mono (k1.tk hr)) r1 z1 fun y h2 u H2 r2 v2 k2 z2 => ?_
  obtain ⟨l2, z2⟩ := z2
  obtain ⟨a, xs, rfl, e1⟩ := isL_at l2
  unfold wIdx at z2
  split at z2
  · rename_i heq
    cases heq
  · rename_i heq
    cases heq
  · rename_i a' i heq
    cases heq
    rw [e1] at z2
    · replace z2 := (show opt (Mi.atI xs i) _ from z2)
      obtain ⟨ys, f1, a1⟩ := r2.lst e1
      cases v1; cases v2
      cases q : Mi.atI xs i with
      | none => rw [q] at z2; exact z2.elim
      | some w =>
        rw [q] at z2
        obtain ⟨w', e', r'⟩ := a1.atI q
        refine ⟨_, ys, _, w', rfl, rfl, L2.SqL.of f1, e', tM.bind mF (hs.mono ((k1.trans k2).tk hr)) r2 z2 fun b h3 bv H3 r3 v3 k3 z3 => ⟨w, b, h3, r3, r'.mono (k3.tk r2), v3, z3.1, wBin_mono mF (fun c h4 z4 cv H4 r4 v4 k4 => ?_) (by first | exact XW.id | exact XC.of cw k1 | exact XC.of cw ((k1.trans k2).trans k3) | exact XC.of cw (k1.trans k2) | exact XC.of cw k2 | exact XC.of cw k | exact XC.of cw Keep.refl | exact XW.go cw k | exact XW.go cw k1 | exact XW.go cw (k1.trans k2) | exact XW.go cw k2 | exact XW.go cw (k1.trans k04) | exact XW.go cw ((k1.trans k2).trans k3) | exact XW.go cw k3 | exact XW.go cw k4 | exact XW.go cw (k1.trans k3) | exact XW.go cw (k1.trans (k2.trans k3)) | exact XW.go cw ((k1.trans k23).trans k4) | exact XW.step k | exact XW.step k1 | exact XW.step (k1.trans k2) | exact XW.step k2 | exact XW.step ((k1.trans k2).trans k3) | exact XW.step (k1.trans k04) | exact XW.step k3 | exact XW.step k4 | exact XW.step (k1.trans (k2.trans k3))) z3.2⟩⟩
        dsimp only at z4
        split at z4
        · rename_i xs4 e4
          obtain ⟨ys4, f4, a4⟩ := r4.lst e4
          cases q4 : L2.ixN xs4.length i with
          | none => rw [q4] at z4; exact z4.elim
          | some j =>
            rw [q4] at z4
            obtain ⟨g1, g2⟩ := go_set r4 e4 (OR.lst (t := t) (VA.set v4 j a4))
            have kk := (((k1.trans k2).trans k3).trans k4).trans g2
            exact ⟨_, ys4, _, j, rfl, rfl, f4, by rw [← a4.length]; exact q4, z4 τ _ (hs.mono (kk.tk hr)) g1 kk⟩
        · exact z4.elim
  · exact z2.elim
include mF cw in
theorem ms_augF {a : Expr} {ma : E} {tpos : Pos} (kc : Kc T t X.K) (f : Nat) (o : Bop) (ha : PE X a (tM T F t X.K ma)) (he : PE X e (tM T F t X.K me)) (ho : o = .add ∨ o = .sub := by simp) :
    PS X (.AugAssign (.Attribute a (t.nm f) tpos) (bopOf o) e pos) (tS T F t X.K (.augF ma f o me)) := by
  refine PS.imp (L2.ps_fldaug ha he (fun pins s τ H x y u v Q I rx ry q => ip_M (T := T) (F := F) (t := t) o ho pins s τ H x y u v Q I rx ry q)) fun D τ H ⟨σ, h, hs, hr, z⟩ => ?_
  unfold wS at z
  refine tM.bind mF hs hr z fun x h1 v H1 r1 v1 k1 z1 => ?_
  cases x with
  | ref a =>
    cases e1 : h1 a with
    | none => simp [isIns, e1, opt] at z1
    | some ob =>
      cases ob with
      | ins c fs =>
        have q : isIns h1 (.ref a) = some c := by simp [isIns, e1]
        rw [q] at z1
        unfold opt wFld at z1
        dsimp only at z1
        rw [e1] at z1
        obtain ⟨q1, z1⟩ := z1
        replace z1 := (show opt (getF fs f) _ from z1)
        obtain ⟨dx, gs, f1, a1⟩ := r1.ins e1
        obtain ⟨c1, c2, c3⟩ := kc.fld c f q1
        cases v1
        cases q : getF fs f with
        | none => rw [q] at z1; exact z1.elim
        | some w =>
          rw [q] at z1
          obtain ⟨u, e', r'⟩ := a1.get c1 q
          refine ⟨_, _, dx, gs, u, rfl, f1, c2, c3, e', tM.bind mF (hs.mono (k1.tk hr)) r1 z1 fun y h2 yv H2 r2 v2 k2 z2 => ⟨w, y, h2, r2, r'.mono (k2.tk r1), v2, z2.1, wBin_mono mF (fun b h3 z3 v3 H3 r3 vr3 k3 => ?_) (by first | exact XW.id | exact XC.of cw k1 | exact XC.of cw ((k1.trans k2).trans k3) | exact XC.of cw (k1.trans k2) | exact XC.of cw k2 | exact XC.of cw k | exact XC.of cw Keep.refl | exact XW.go cw k | exact XW.go cw k1 | exact XW.go cw (k1.trans k2) | exact XW.go cw k2 | exact XW.go cw (k1.trans k04) | exact XW.go cw ((k1.trans k2).trans k3) | exact XW.go cw k3 | exact XW.go cw k4 | exact XW.go cw (k1.trans k3) | exact XW.go cw (k1.trans (k2.trans k3)) | exact XW.go cw ((k1.trans k23).trans k4) | exact XW.step k | exact XW.step k1 | exact XW.step (k1.trans k2) | exact XW.step k2 | exact XW.step ((k1.trans k2).trans k3) | exact XW.step (k1.trans k04) | exact XW.step k3 | exact XW.step k4 | exact XW.step (k1.trans (k2.trans k3))) z2.2⟩⟩
          split at z3
          · rename_i c' fs' e3
            obtain ⟨rfl, p2, z3⟩ := z3
            obtain ⟨dx', gs', f3, a3⟩ := r3.ins e3
            obtain ⟨g1, g2⟩ := go_set r3 e3 (OR.ins (t := t) (dx := dx') (a3.put c1 vr3))
            exact ⟨dx', gs', f3, by rw [← a3.length]; omega, z3 τ _ (hs.mono ((((k1.trans k2).trans k3).trans g2).tk hr)) g1 (((k1.trans k2).trans k3).trans g2)⟩
          · exact z3.elim
      | _ => simp [isIns, e1, opt] at z1
  | _ => simp [isIns, opt] at z1
/-! ### loops -/
include mF cw in
theorem ms_while {c : Expr} {body : List Stmt} {mc : E} {mb : Ss} (hp : PassesOwn (model X.prog X.w) X.A X.env X.xe) (hc : PT X c (tT T F t X.K mc)) (hb : PSs X body (tSs T F t X.K mb)) : PS X (.While c body [] pos) (tS T F t X.K (.whl mc mb)) := by
  refine PS.imp (L2.ps_while hp hc hb) fun D τ H ⟨σ, h, hs, hr, z⟩ => ?_
  unfold wS at z
  obtain ⟨n, z⟩ := z
  refine ⟨fun m τ1 H1 => ∃ σ1 h1, SR X.K H1 σ1 τ1 ∧ HR t X.K h1 H1 ∧ Keep h H h1 H1 ∧ whlR (fun σ h' Q => wE T F mc σ h' Q (XW t X.K h H τ)) (fun σ2 h2 N => wSs T F mb ⟨N, (eD t X.K h H D).rt, (eD t X.K h H D).nx, N⟩ (XW t X.K h H τ) σ2 h2) (eD t X.K h H D).nx m σ1 h1, ⟨n, σ, h, hs, hr, Keep.refl, z⟩, ?_⟩
  rintro m τ1 H1 ⟨σ1, h1, s1, r1, k1, z1⟩
  cases m with
  | zero => exact z1.elim
  | succ m =>
    unfold whlR at z1
    refine ⟨σ1, h1, s1, r1, wE_mono mF mc _ _ _ _ _ _ (fun w h2 z2 => ?_) (by first | exact XW.id | exact XC.of cw k1 | exact XC.of cw ((k1.trans k2).trans k3) | exact XC.of cw (k1.trans k2) | exact XC.of cw k2 | exact XC.of cw k | exact XC.of cw Keep.refl | exact XW.go cw k | exact XW.go cw k1 | exact XW.go cw (k1.trans k2) | exact XW.go cw k2 | exact XW.go cw (k1.trans k04) | exact XW.go cw ((k1.trans k2).trans k3) | exact XW.go cw k3 | exact XW.go cw k4 | exact XW.go cw (k1.trans k3) | exact XW.go cw (k1.trans (k2.trans k3)) | exact XW.go cw ((k1.trans k23).trans k4) | exact XW.step k | exact XW.step k1 | exact XW.step (k1.trans k2) | exact XW.step k2 | exact XW.step ((k1.trans k2).trans k3) | exact XW.step (k1.trans k04) | exact XW.step k3 | exact XW.step k4 | exact XW.step (k1.trans (k2.trans k3))) z1⟩
    split at z2
    · refine ⟨true, rfl, fun H2 r2 k2 => L2.iteT ?_⟩
      refine ⟨fun τ3 H3 => ∃ σ3 h3, SR X.K H3 σ3 τ3 ∧ HR t X.K h3 H3 ∧ Keep h H h3 H3 ∧ whlR (fun σ h' Q => wE T F mc σ h' Q (XW t X.K h H τ)) (fun σ2 h2 N => wSs T F mb ⟨N, (eD t X.K h H D).rt, (eD t X.K h H D).nx, N⟩ (XW t X.K h H τ) σ2 h2) (eD t X.K h H D).nx m σ3 h3,
        fun τ3 H3 n3 => ⟨m, Nat.lt_succ_self m, n3⟩, σ1, h2, s1.mono (k2.tk r1), r2, wSs_mono mF mb _ _ _ _ _ _ ⟨fun σ4 h4 z4 τ4 H4 s4 r4 k4 => ⟨σ4, h4, s4, r4, (k1.trans k2).trans k4, z4⟩, fun w h' z => PQ.step (k1.trans k2) z, fun σ' h' z => eN.step (k1.trans k2) z, fun σ4 h4 z4 τ4 H4 s4 r4 k4 => ⟨σ4, h4, s4, r4, (k1.trans k2).trans k4, z4⟩⟩ (by first | exact XW.id | exact XC.of cw k1 | exact XC.of cw ((k1.trans k2).trans k3) | exact XC.of cw (k1.trans k2) | exact XC.of cw k2 | exact XC.of cw k | exact XC.of cw Keep.refl | exact XW.go cw k | exact XW.go cw k1 | exact XW.go cw (k1.trans k2) | exact XW.go cw k2 | exact XW.go cw (k1.trans k04) | exact XW.go cw ((k1.trans k2).trans k3) | exact XW.go cw k3 | exact XW.go cw k4 | exact XW.go cw (k1.trans k3) | exact XW.go cw (k1.trans (k2.trans k3)) | exact XW.go cw ((k1.trans k23).trans k4) | exact XW.step k | exact XW.step k1 | exact XW.step (k1.trans k2) | exact XW.step k2 | exact XW.step ((k1.trans k2).trans k3) | exact XW.step (k1.trans k04) | exact XW.step k3 | exact XW.step k4 | exact XW.step (k1.trans (k2.trans k3))) z2⟩
    · exact ⟨false, rfl, fun H2 r2 k2 => L2.iteF (z2 τ1 H2 (s1.mono (k2.tk r1)) r2 (k1.trans k2))⟩
    · exact z2.elim
include mF cw in
theorem ms_for {tg iter : Expr} {body : List Stmt} {mtg : Tg} {mit : I} {mb : Ss} (hp : PassesOwn (model X.prog X.w) X.A X.env X.xe) (hc : X.calm = true) (hi : PI X tg iter (tI T F t X.K mit)) (hg : PG X tg (tG T F t X.K mtg)) (hb : PSs X body (tSs T F t X.K mb))
    (hs : ∀ x, foldedSetIterable iter X.env x = pure x := by intro _; rfl) : PS X (.For tg iter body [] pos) (tS T F t X.K (.fr mtg mit mb)) := by
  refine PS.imp (L2.ps_for hp hc hi hg hb hs) fun D τ H ⟨σ, h, hs, hr, z⟩ => ?_
  unfold wS at z
  refine ⟨σ, h, hs, hr, wI_mono mF mit _ _ _ _ _ _ (fun xs G h1 z1 J H1 r1 k1 w => ?_) (by first | exact XW.id | exact XC.of cw k1 | exact XC.of cw ((k1.trans k2).trans k3) | exact XC.of cw (k1.trans k2) | exact XC.of cw k2 | exact XC.of cw k | exact XC.of cw Keep.refl | exact XW.go cw k | exact XW.go cw k1 | exact XW.go cw (k1.trans k2) | exact XW.go cw k2 | exact XW.go cw (k1.trans k04) | exact XW.go cw ((k1.trans k2).trans k3) | exact XW.go cw k3 | exact XW.go cw k4 | exact XW.go cw (k1.trans k3) | exact XW.go cw (k1.trans (k2.trans k3)) | exact XW.go cw ((k1.trans k23).trans k4) | exact XW.step k | exact XW.step k1 | exact XW.step (k1.trans k2) | exact XW.step k2 | exact XW.step ((k1.trans k2).trans k3) | exact XW.step (k1.trans k04) | exact XW.step k3 | exact XW.step k4 | exact XW.step (k1.trans (k2.trans k3))) z⟩
  refine ⟨fun i m τ2 H2 => m = xs.length - i ∧ i ≤ xs.length ∧ ∃ σ2 h2, SR X.K H2 σ2 τ2 ∧ HR t X.K h2 H2 ∧ Keep h1 H1 h2 H2 ∧
    forR G (fun x σ h' N => wTg T F mtg x σ h' (fun σ2 h2 => wSs T F mb ⟨N, (eD t X.K h H D).rt, (eD t X.K h H D).nx, N⟩ (XW t X.K h H τ) σ2 h2) (XW t X.K h H τ)) (xs.drop i) σ2 h2 (eD t X.K h H D).nx, ⟨xs.length, ?_⟩, ?_⟩
  · exact ⟨by simp, Nat.zero_le _, σ, h1, hs.mono (k1.tk hr), r1, Keep.refl, by simpa using z1⟩
  · rintro i m τ2 H2 ⟨rfl, hi, σ2, h2, s2, r2, k2, z2⟩
    by_cases hlt : i < xs.length
    · right
      rw [List.drop_eq_getElem_cons hlt] at z2
      obtain ⟨gz, z2⟩ := z2
      refine ⟨w.go i h2 H2 hlt r2 k2 gz, fun τ' H' => ∃ σ3 h3, SR X.K H' σ3 τ' ∧ HR t X.K h3 H' ∧ Keep h1 H1 h3 H' ∧
        forR G (fun x σ h' N => wTg T F mtg x σ h' (fun σ2 h2 => wSs T F mb ⟨N, (eD t X.K h H D).rt, (eD t X.K h H D).nx, N⟩ (XW t X.K h H τ) σ2 h2) (XW t X.K h H τ)) (xs.drop (i + 1)) σ3 h3 (eD t X.K h H D).nx, fun τ' H' n' => ⟨xs.length - (i + 1), by omega, rfl, hlt, n'⟩, fun v H3 y => ?_⟩
      obtain ⟨x, ex, r3, k3, vx⟩ := w.yld i h2 H2 v H3 hlt r2 k2 gz y
      have ex2 : xs[i] = x := by
        rw [List.getElem?_eq_getElem hlt] at ex
        exact Option.some.inj ex
      subst ex2
      refine ⟨σ2, h2, _, s2.mono (k3.tk r2), r3, vx, wTg_mono mF mtg _ _ _ _ _ _ _ (fun σ4 h4 z4 τ4 H4 s4 r4 k4 _ => ?_) (by first | exact XW.id | exact XC.of cw k1 | exact XC.of cw ((k1.trans k2).trans k3) | exact XC.of cw (k1.trans k2) | exact XC.of cw k2 | exact XC.of cw k | exact XC.of cw Keep.refl | exact XW.go cw k | exact XW.go cw k1 | exact XW.go cw (k1.trans k2) | exact XW.go cw k2 | exact XW.go cw (k1.trans k04) | exact XW.go cw ((k1.trans k2).trans k3) | exact XW.go cw k3 | exact XW.go cw k4 | exact XW.go cw (k1.trans k3) | exact XW.go cw (k1.trans (k2.trans k3)) | exact XW.go cw ((k1.trans k23).trans k4) | exact XW.step k | exact XW.step k1 | exact XW.step (k1.trans k2) | exact XW.step k2 | exact XW.step ((k1.trans k2).trans k3) | exact XW.step (k1.trans k04) | exact XW.step k3 | exact XW.step k4 | exact XW.step (k1.trans (k2.trans k3))) z2⟩
      have k04 := k2.trans (k3.trans k4)
      refine ⟨σ4, h4, s4, r4, wSs_mono mF mb _ _ _ _ _ _ ⟨fun σ5 h5 z5 τ5 H5 s5 r5 k5 => ⟨σ5, h5, s5, r5, k04.trans k5, z5⟩, fun w h' z => PQ.step (k1.trans k04) z, fun σ' h' z => eN.step (k1.trans k04) z, fun σ5 h5 z5 τ5 H5 s5 r5 k5 => ⟨σ5, h5, s5, r5, k04.trans k5, z5⟩⟩ (by first | exact XW.id | exact XC.of cw k1 | exact XC.of cw ((k1.trans k2).trans k3) | exact XC.of cw (k1.trans k2) | exact XC.of cw k2 | exact XC.of cw k | exact XC.of cw Keep.refl | exact XW.go cw k | exact XW.go cw k1 | exact XW.go cw (k1.trans k2) | exact XW.go cw k2 | exact XW.go cw (k1.trans k04) | exact XW.go cw ((k1.trans k2).trans k3) | exact XW.go cw k3 | exact XW.go cw k4 | exact XW.go cw (k1.trans k3) | exact XW.go cw (k1.trans (k2.trans k3)) | exact XW.go cw ((k1.trans k23).trans k4) | exact XW.step k | exact XW.step k1 | exact XW.step (k1.trans k2) | exact XW.step k2 | exact XW.step ((k1.trans k2).trans k3) | exact XW.step (k1.trans k04) | exact XW.step k3 | exact XW.step k4 | exact XW.step (k1.trans (k2.trans k3))) z4⟩
    · left
      have e : i = xs.length := by omega
      subst e
      rw [List.drop_length] at z2
      obtain ⟨gz, z2⟩ := z2
      exact ⟨w.stop h2 H2 r2 k2 gz, z2 τ2 H2 s2 r2 (k1.trans k2)⟩
end
end Mi
set_option maxHeartbeats 4000000
/-! own operators -/
namespace Mi
open PySem PySem.Spec PyProof.Rows
open L2 (PE PT PW PA PS PSs OpR UnR CallR Inv RelV Vals VK Cx EP Room FnOk CX0 E0 pass0 Gl Cls Binds Sub)
open PySem.W (findIn isFn subIn selfFirst InstAt Frag Looks looks_findIn looks_subIn fills_K ksp_fillsT ksp_first special_fn ksp_try)
/-- int's own operator says NotImplemented to an instance -/
def IntNo (nm : String) : Prop := ∃ id, Slot "int" (dunder nm) id ∧ fillsNumberSlot (.type "int") nm = pure true ∧
  ∀ {prog : Program} {w : World} {A : Around} {E : Value → Shared → Prop} {s : Shared} (i : Int) (t : Tok) (a C dx : Addr) (Q : Value → Shared → Prop), s.heap.get? a = some (PySem.W.instObj C dx) → Q .notImplemented s →
    wpAny (model prog w) A (call (.builtin id) [.int i t, .ref a]) Q E s
section
variable {prog : Program} {w : World} {A : Around} {E : Value → Shared → Prop} {s : Shared} {i : Int} {t : Tok} {a C dx : Addr} {Q : Value → Shared → Prop}
theorem no_add (h : s.heap.get? a = some (PySem.W.instObj C dx)) (q : Q .notImplemented s) : wpAny (model prog w) A (Builtin.«int.__add__» ⟨[.int i t, .ref a], []⟩) (fun fin s' => ∃ v, fin = .done (.ret v) ∧ Q v s') E s := by
  obtain ⟨hp, g, d, tk, os⟩ := s
  wp_walk using AutoSeq1.wpAny_loadPart' h
  exact ⟨_, rfl, q⟩
theorem no_sub (h : s.heap.get? a = some (PySem.W.instObj C dx)) (q : Q .notImplemented s) : wpAny (model prog w) A (Builtin.«int.__sub__» ⟨[.int i t, .ref a], []⟩) (fun fin s' => ∃ v, fin = .done (.ret v) ∧ Q v s') E s := by
  obtain ⟨hp, g, d, tk, os⟩ := s
  wp_walk using AutoSeq1.wpAny_loadPart' h
  exact ⟨_, rfl, q⟩
theorem no_mul (h : s.heap.get? a = some (PySem.W.instObj C dx)) (q : Q .notImplemented s) : wpAny (model prog w) A (Builtin.«int.__mul__» ⟨[.int i t, .ref a], []⟩) (fun fin s' => ∃ v, fin = .done (.ret v) ∧ Q v s') E s := by
  obtain ⟨hp, g, d, tk, os⟩ := s
  wp_walk using AutoSeq1.wpAny_loadPart' h
  exact ⟨_, rfl, q⟩
theorem no_floordiv (h : s.heap.get? a = some (PySem.W.instObj C dx)) (q : Q .notImplemented s) : wpAny (model prog w) A (Builtin.«int.__floordiv__» ⟨[.int i t, .ref a], []⟩) (fun fin s' => ∃ v, fin = .done (.ret v) ∧ Q v s') E s := by
  obtain ⟨hp, g, d, tk, os⟩ := s
  wp_walk using AutoSeq1.wpAny_loadPart' h
  exact ⟨_, rfl, q⟩
theorem no_mod (h : s.heap.get? a = some (PySem.W.instObj C dx)) (q : Q .notImplemented s) : wpAny (model prog w) A (Builtin.«int.__mod__» ⟨[.int i t, .ref a], []⟩) (fun fin s' => ∃ v, fin = .done (.ret v) ∧ Q v s') E s := by
  obtain ⟨hp, g, d, tk, os⟩ := s
  wp_walk using AutoSeq1.wpAny_loadPart' h
  exact ⟨_, rfl, q⟩
end
theorem intNo_add : IntNo "add" := ⟨_, F.slot_int_add, F.fills_int_add, fun i t a C dx Q h q => wpAny_call_entry F.slot_int_add (typeIs_int _ i t) F.entry_int_add (no_add h q) (F.args_int_add_2 _ _)⟩
theorem intNo_sub : IntNo "sub" := ⟨_, F.slot_int_sub, F.fills_int_sub, fun i t a C dx Q h q => wpAny_call_entry F.slot_int_sub (typeIs_int _ i t) F.entry_int_sub (no_sub h q) (F.args_int_sub_2 _ _)⟩
theorem intNo_mul : IntNo "mul" := ⟨_, F.slot_int_mul, F.fills_int_mul, fun i t a C dx Q h q => wpAny_call_entry F.slot_int_mul (typeIs_int _ i t) F.entry_int_mul (no_mul h q) (F.args_int_mul_2 _ _)⟩
theorem intNo_floordiv : IntNo "floordiv" := ⟨_, F.slot_int_floordiv, F.fills_int_floordiv, fun i t a C dx Q h q => wpAny_call_entry F.slot_int_floordiv (typeIs_int _ i t) F.entry_int_floordiv (no_floordiv h q) (F.args_int_floordiv_2 _ _)⟩
theorem intNo_mod : IntNo "mod" := ⟨_, F.slot_int_mod, F.fills_int_mod, fun i t a C dx Q h q => wpAny_call_entry F.slot_int_mod (typeIs_int _ i t) F.entry_int_mod (no_mod h q) (F.args_int_mod_2 _ _)⟩
end Mi
set_option maxHeartbeats 4000000
/-! own comparisons -/
namespace Mi
open PySem PySem.Spec PyProof.Rows
open L2 (OpR UnR CallR Inv Vals VK Cx EP Room FnOk CX0 E0 pass0 Binds)
open PySem.W (findIn isFn subIn InstAt Frag Looks looks_findIn looks_subIn ifBound_K)
section
variable {prog : Program} {w : World} {A : Around} {E : Value → Shared → Prop} {s : Shared} {K : Frag} {x C f : Addr} {od : Option Obj} {ox : Obj} {b : Value}
/-- object.__ne__ of an instance with its own __eq__ -/
theorem objNe_K {Q : Fin → Shared → Prop} (X : K.In s.heap) (I : InstAt s.heap x ox C od) (hs : findIn K (.ref C) "__eq__" = some (some (.ref f))) (hf : isFn K (.ref f) = true) (hu : A.units < cLine)
    (hcall : wpAny (model prog w) A (call (.ref f) [.ref x, b]) (fun v s' => ∃ r, v = .bool r ∧ Q (.done (.ret (.bool (!r)))) s') E s) :
    wpAny (model prog w) A (Builtin.«object.__ne__» ⟨[.ref x, b], []⟩) Q E s := by
  unfold Builtin.«object.__ne__»
  repeat (first
    | with_reducible refine wpAny_cRoomFor hu ?_
    | (refine wpAny_bind (m := callSpecialIfBound? (.ref x) (Str.ofString "__eq__") [b])
        (ifBound_K X I hs hf (wpAny_mono hcall (fun r s' hr => by
          obtain ⟨b, rfl, hq⟩ := hr
          repeat (first | exact hq | exact wpAny_pure hq | exact wpAny_truthy_bool hq | (refine wpAny_bind (m := truthy (.bool _)) (wpAny_truthy_bool ?_)) | wp_step)) fun _ _ e => e)))
    | wp_step)
theorem ifBound_B {M : Model} {name : Str} {id : String} {args : List Value} {Q : Option Value → Shared → Prop} (X : K.In s.heap) (I : InstAt s.heap x ox C od) (hs : findIn K (.ref C) name = some (some (.builtin id))) (hb : ∀ self, bindSpecial (.builtin id) self = pure (.builtin id, [self]))
    (h : wpAny M A (call (.builtin id) (.ref x :: args)) (fun v => Q (some v)) E s) : wpAny M A (callSpecialIfBound? (.ref x) name args) Q E s := by
  simp only [callSpecialIfBound?, bindSpecialIfBound?]
  refine wpAny_holding (wpAny_bind (wpAny_bind (wpAny_bind (I.type.here ((looks_findIn X hs).here ?_)))))
  simp only [hb]
  refine wpAny_bind (wpAny_askSetting (wpAny_ite ?_))
  have fin : wpAny M A (call (.builtin id) ([.ref x] ++ args) >>= fun v => pure (some v)) Q E s := wpAny_bind (wpAny_mono h (fun v s' h' => wpAny_pure h') fun _ _ h' => h')
  split
  · exact wpAny_bind (wpAny_pure (wpAny_pure fin))
  · exact wpAny_tryCatch (wpAny_bind (wpAny_pure (wpAny_pure fin)))
theorem check_K {M : Model} {id owner n : String} {rest : List Value} {Q : Unit → Shared → Prop} (hk : builtinKind id = some .slot) (hs : splitId id = some (owner, n)) (ha : argsOk id ⟨.ref x :: rest, []⟩) (X : K.In s.heap) (I : InstAt s.heap x ox C od) (ho : subIn K (.ref C) (.type owner) = some true) (hq : Q () s) :
    wpAny M A (checkBuiltinCall id ⟨.ref x :: rest, []⟩) Q E s := by
  simp only [checkBuiltinCall, hk, hs]
  refine wpAny_bind ?_
  unfold isInstance
  refine wpAny_bind (I.type.here ((looks_subIn X ho).here ?_))
  simp only [Bool.not_true, Bool.false_eq_true, if_false]
  cases hsig : Manifest.signature? id with
  | none => exact wpAny_pure hq
  | some sig =>
    simp only [argsOk, hsig] at ha
    have h2 : Bind.checkArgs id sig ⟨.ref x :: rest, []⟩ = pure () := ha
    show wpAny M A (Bind.checkArgs id sig ⟨.ref x :: rest, []⟩) Q E _
    rw [h2]; exact wpAny_pure hq
theorem tryNe_K {Q : Option Value → Shared → Prop} (X : K.In s.heap) (I : InstAt s.heap x ox C od) (hn : findIn K (.ref C) "__ne__" = some (some (.builtin "object.__ne__"))) (ho : subIn K (.ref C) (.type "object") = some true)
    (hs : findIn K (.ref C) "__eq__" = some (some (.ref f))) (hf : isFn K (.ref f) = true) (hu : A.units + 1 < cLine)
    (hcall : wpAny (model prog w) A.in1 (call (.ref f) [.ref x, b]) (fun v s' => ∃ r, v = .bool r ∧ Q (some (.bool (!r))) s') E s) :
    wpAny (model prog w) A (tryCompare (.ref x) "__ne__" b) Q E s := by
  simp only [tryCompare]
  refine wpAny_bind (ifBound_B X I hn F.slot_object_ne.bind (wpAny_call (codeAny_call_builtin F.slot_object_ne.plain F.cmpEntry_ne
    (check_K F.cmpKind_ne F.cmpSplit_ne (F.cmpArgs_ne _ _) X I ho (objNe_K (A := A.in1) X I hs hf hu (wpAny_mono hcall (fun v s' hv => ?_) fun _ _ e => e))))))
  obtain ⟨b, rfl, hq⟩ := hv
  first | exact ⟨b, rfl, wpAny_pure hq⟩ | exact ⟨b, rfl, wpAny_pure (wpAny_pure hq)⟩ | exact ⟨b, rfl, hq⟩
/-! ### built-ins decline -/
theorem dcl {T : String} {name : Str} {id : String} {B : Builtin} {v : Value} {Q : Option Value → Shared → Prop} (hT : s.TypeIs v T) (sl : Slot T name id) (en : entryFor table id = some B) (ar : argsOk id ⟨[v, .ref x], []⟩)
    (h : ∀ Q' : Value → Shared → Prop, Q' .notImplemented s → wpAny (model prog w) A.in1 (B ⟨[v, .ref x], []⟩) (fun fin s' => ∃ u, fin = .done (.ret u) ∧ Q' u s') E s) (q : Q none s) : wpAny (model prog w) A (tryCompare v name (.ref x)) Q E s := by
  simp only [tryCompare]
  refine wpAny_bind (wpAny_callSpecialIfBound?_slot hT sl (wpAny_call_entry sl hT en (h _ ?_) ar))
  exact wpAny_pure q
/-- v op x: v's own comparison declines, the instance's answers -/
theorem rcmp_K {op : CmpOp} {v : Value} {T : String} {Q : Value → Shared → Prop} (X : K.In s.heap) (I : InstAt s.heap x ox C od) (hu : A.units < cLine) (h1 : oneThing? op v (.ref x) = none) (hT : s.TypeIs v T) (hs : subIn K (.ref C) (.type T) = some false)
    (hd : ∀ Q' : Option Value → Shared → Prop, Q' none s → wpAny (model prog w) A (tryCompare v (cmpInfo op).2.1 (.ref x)) Q' E s)
    (ho : wpAny (model prog w) A (tryCompare (.ref x) (cmpInfo op).2.2 v) (fun r s' => ∃ u, r = some u ∧ Q u s') E s) : wpAny (model prog w) A (richCompare op v (.ref x)) Q E s := by
  unfold richCompare
  refine wpAny_holding (wpAny_bind (wpAny_cRoomFor hu ?_))
  simp only [h1]
  rcases hi : cmpInfo op with ⟨sym, f, r⟩
  rw [hi] at hd ho
  dsimp only at hd ho ⊢
  have hne : (Value.type T != Value.ref C) = true := by simp
  refine wpAny_bind (wpAny_typeOf hT (wpAny_bind (I.type.here ?_)))
  simp only [hne, if_true]
  refine wpAny_bind ((looks_subIn X hs).here ?_)
  simp only [Bool.false_eq_true, if_false, Bool.not_false, if_true]
  refine wpAny_bind (hd _ ?_)
  dsimp only
  refine wpAny_bind (wpAny_mono ho (fun r s' z => ?_) fun _ _ e => e)
  obtain ⟨u, rfl, q⟩ := z
  exact wpAny_pure q
theorem eq_int {i : Int} {t : Tok} {Q : Value → Shared → Prop} {dx : Addr} (h : s.heap.get? x = some (PySem.W.instObj C dx)) (q : Q .notImplemented s) : wpAny (model prog w) A (Builtin.«int.__eq__» ⟨[.int i t, .ref x], []⟩) (fun fin s' => ∃ v, fin = .done (.ret v) ∧ Q v s') E s := by
  obtain ⟨hp, g, d, tk, os⟩ := s
  wp_walk using AutoSeq1.wpAny_loadPart' h
  exact ⟨_, rfl, q⟩
theorem eq_bool {bb : Bool} {Q : Value → Shared → Prop} {dx : Addr} (h : s.heap.get? x = some (PySem.W.instObj C dx)) (q : Q .notImplemented s) : wpAny (model prog w) A (Builtin.«int.__eq__» ⟨[.bool bb, .ref x], []⟩) (fun fin s' => ∃ v, fin = .done (.ret v) ∧ Q v s') E s := by
  obtain ⟨hp, g, d, tk, os⟩ := s
  wp_walk using AutoSeq1.wpAny_loadPart' h
  exact ⟨_, rfl, q⟩
theorem ne_int {i : Int} {t : Tok} {Q : Value → Shared → Prop} {dx : Addr} (h : s.heap.get? x = some (PySem.W.instObj C dx)) (q : Q .notImplemented s) : wpAny (model prog w) A (Builtin.«int.__ne__» ⟨[.int i t, .ref x], []⟩) (fun fin s' => ∃ v, fin = .done (.ret v) ∧ Q v s') E s := by
  obtain ⟨hp, g, d, tk, os⟩ := s
  wp_walk using AutoSeq1.wpAny_loadPart' h
  exact ⟨_, rfl, q⟩
theorem lt_int' {i : Int} {t : Tok} {Q : Value → Shared → Prop} {dx : Addr} (h : s.heap.get? x = some (PySem.W.instObj C dx)) (q : Q .notImplemented s) : wpAny (model prog w) A (Builtin.«int.__lt__» ⟨[.int i t, .ref x], []⟩) (fun fin s' => ∃ v, fin = .done (.ret v) ∧ Q v s') E s := by
  obtain ⟨hp, g, d, tk, os⟩ := s
  wp_walk using AutoSeq1.wpAny_loadPart' h
  exact ⟨_, rfl, q⟩
theorem le_int' {i : Int} {t : Tok} {Q : Value → Shared → Prop} {dx : Addr} (h : s.heap.get? x = some (PySem.W.instObj C dx)) (q : Q .notImplemented s) : wpAny (model prog w) A (Builtin.«int.__le__» ⟨[.int i t, .ref x], []⟩) (fun fin s' => ∃ v, fin = .done (.ret v) ∧ Q v s') E s := by
  obtain ⟨hp, g, d, tk, os⟩ := s
  wp_walk using AutoSeq1.wpAny_loadPart' h
  exact ⟨_, rfl, q⟩
theorem gt_int' {i : Int} {t : Tok} {Q : Value → Shared → Prop} {dx : Addr} (h : s.heap.get? x = some (PySem.W.instObj C dx)) (q : Q .notImplemented s) : wpAny (model prog w) A (Builtin.«int.__gt__» ⟨[.int i t, .ref x], []⟩) (fun fin s' => ∃ v, fin = .done (.ret v) ∧ Q v s') E s := by
  obtain ⟨hp, g, d, tk, os⟩ := s
  wp_walk using AutoSeq1.wpAny_loadPart' h
  exact ⟨_, rfl, q⟩
theorem ge_int' {i : Int} {t : Tok} {Q : Value → Shared → Prop} {dx : Addr} (h : s.heap.get? x = some (PySem.W.instObj C dx)) (q : Q .notImplemented s) : wpAny (model prog w) A (Builtin.«int.__ge__» ⟨[.int i t, .ref x], []⟩) (fun fin s' => ∃ v, fin = .done (.ret v) ∧ Q v s') E s := by
  obtain ⟨hp, g, d, tk, os⟩ := s
  wp_walk using AutoSeq1.wpAny_loadPart' h
  exact ⟨_, rfl, q⟩
theorem eq_str {z : Str} {t : Tok} {Q : Value → Shared → Prop} {dx : Addr} (h : s.heap.get? x = some (PySem.W.instObj C dx)) (q : Q .notImplemented s) : wpAny (model prog w) A (Builtin.«str.__eq__» ⟨[.str z t, .ref x], []⟩) (fun fin s' => ∃ v, fin = .done (.ret v) ∧ Q v s') E s := by
  obtain ⟨hp, g, d, tk, os⟩ := s
  wp_walk using AutoSeq1.wpAny_loadPart' h
  exact ⟨_, rfl, q⟩
theorem eq_none {Q : Value → Shared → Prop} {dx : Addr} (h : s.heap.get? x = some (PySem.W.instObj C dx)) (q : Q .notImplemented s) : wpAny (model prog w) A (Builtin.«NoneType.__eq__» ⟨[.none, .ref x], []⟩) (fun fin s' => ∃ v, fin = .done (.ret v) ∧ Q v s') E s := by
  obtain ⟨hp, g, d, tk, os⟩ := s
  wp_walk using AutoSeq1.wpAny_loadPart' h
  exact ⟨_, rfl, q⟩
theorem eq_tuple {l dx : Addr} {Q : Value → Shared → Prop} (X : K.In s.heap) (I : InstAt s.heap x (PySem.W.instObj C dx) C od) (hs : subIn K (.ref C) (.type "tuple") = some false) (q : Q .notImplemented s) : wpAny (model prog w) A (Builtin.«tuple.__eq__» ⟨[.ref l, .ref x], []⟩) (fun fin s' => ∃ v, fin = .done (.ret v) ∧ Q v s') E s := by
  have h := I.at_
  have L : Looks (model prog w) s.heap (isSubtype (.ref C) (.type "tuple")) false := looks_subIn X hs
  obtain ⟨hp, g, d, tk, os⟩ := s
  wp_walk using AutoSeq1.wpAny_loadPart' h, L.at
  exact ⟨_, rfl, q⟩
theorem eq_list {l dx : Addr} {Q : Value → Shared → Prop} (X : K.In s.heap) (I : InstAt s.heap x (PySem.W.instObj C dx) C od) (hs : subIn K (.ref C) (.type "list") = some false) (q : Q .notImplemented s) : wpAny (model prog w) A (Builtin.«list.__eq__» ⟨[.ref l, .ref x], []⟩) (fun fin s' => ∃ v, fin = .done (.ret v) ∧ Q v s') E s := by
  have h := I.at_
  have L : Looks (model prog w) s.heap (isSubtype (.ref C) (.type "list")) false := looks_subIn X hs
  obtain ⟨hp, g, d, tk, os⟩ := s
  wp_walk using AutoSeq1.wpAny_loadPart' h, L.at
  exact ⟨_, rfl, q⟩
theorem eq_dict {l dx : Addr} {Q : Value → Shared → Prop} (X : K.In s.heap) (I : InstAt s.heap x (PySem.W.instObj C dx) C od) (hs : subIn K (.ref C) (.type "dict") = some false) (q : Q .notImplemented s) : wpAny (model prog w) A (Builtin.«dict.__eq__» ⟨[.ref l, .ref x], []⟩) (fun fin s' => ∃ v, fin = .done (.ret v) ∧ Q v s') E s := by
  have h := I.at_
  have L : Looks (model prog w) s.heap (isSubtype (.ref C) (.type "dict")) false := looks_subIn X hs
  obtain ⟨hp, g, d, tk, os⟩ := s
  wp_walk using AutoSeq1.wpAny_loadPart' h, L.at
  exact ⟨_, rfl, q⟩
/-- a value of a built-in type -/
inductive BT (s : Shared) : Value → String → Prop
  | non : BT s .none "NoneType"
  | bl (b : Bool) : BT s (.bool b) "bool"
  | int (i : Int) (t : Tok) : BT s (.int i t) "int"
  | str (z : Str) (t : Tok) : BT s (.str z t) "str"
  | tup {l : Addr} : s.TypeIs (.ref l) "tuple" → BT s (.ref l) "tuple"
  | lst {l : Addr} : s.TypeIs (.ref l) "list" → BT s (.ref l) "list"
  | dct {l : Addr} : s.TypeIs (.ref l) "dict" → BT s (.ref l) "dict"
theorem BT.ty {v : Value} {n : String} (b : BT s v n) : s.TypeIs v n := by
  cases b with
  | non => rfl
  | bl b => rfl
  | int i t => rfl
  | str z t => rfl
  | tup h => exact h
  | lst h => exact h
  | dct h => exact h
theorem typeIs_looks {M : Model} {v : Value} {n : String} (h : s.TypeIs v n) : Looks M s.heap (typeOf v) (.type n) := by
  intro A Q E s' k q
  refine wpAny_typeOf ?_ q
  cases v with
  | ref a =>
    obtain ⟨o, e, c⟩ := (show ∃ o, s.heap.get? a = some o ∧ o.cls = .type n from h)
    exact ⟨o, k _ _ e, c⟩
  | _ => exact h
theorem BT.decl {v : Value} {n : String} {dx : Addr} (b : BT s v n) (X : K.In s.heap) (I : InstAt s.heap x (PySem.W.instObj C dx) C od) (hs : subIn K (.ref C) (.type n) = some false) :
    ∀ Q' : Option Value → Shared → Prop, Q' none s → wpAny (model prog w) A (tryCompare v "__eq__" (.ref x)) Q' E s := by
  intro Q' q
  cases b with
  | non => exact dcl (T := "NoneType") rfl F.slot_NoneType_eq F.entry_NoneType_eq (F.args_NoneType_eq_2 _ _) (fun Q' q => eq_none I.at_ q) q
  | bl b => exact dcl (T := "bool") rfl F.slot_bool_eq F.entry_int_eq (F.args_int_eq_2 _ _) (fun Q' q => eq_bool I.at_ q) q
  | int i t => exact dcl (T := "int") rfl F.slot_int_eq F.entry_int_eq (F.args_int_eq_2 _ _) (fun Q' q => eq_int I.at_ q) q
  | str z t => exact dcl (T := "str") rfl F.slot_str_eq F.entry_str_eq (F.args_str_eq_2 _ _) (fun Q' q => eq_str I.at_ q) q
  | tup h => exact dcl h F.slot_tuple_eq F.entry_tuple_eq (F.args_tuple_eq_2 _ _) (fun Q' q => eq_tuple X I hs q) q
  | lst h => exact dcl h F.slot_list_eq F.entry_list_eq (F.args_list_eq_2 _ _) (fun Q' q => eq_list X I hs q) q
  | dct h => exact dcl h F.slot_dict_eq F.entry_dict_eq (F.args_dict_eq_2 _ _) (fun Q' q => eq_dict X I hs q) q
end
end Mi
set_option maxHeartbeats 4000000
/-! own operators: the rules -/
namespace Mi
open PySem PySem.Spec PyProof.Rows
open L2 (PE PT PW PA PS PSs OpR UnR CallR Inv RelV Vals VK Cx EP Room FnOk CX0 E0 pass0 Gl Cls Binds Sub)
open PySem.W (findIn isFn subIn selfFirst InstAt Frag Looks looks_findIn looks_subIn fills_K ksp_fillsT ksp_first special_fn ksp_try ifBound_K)
section
variable {prog : Program} {w : World} {A : Around} {E : Value → Shared → Prop} {s : Shared} {K : Frag} {a C dx f g : Addr} {i : Int} {t : Tok}
/-- int op instance: by the instance's own reflected method -/
theorem rbin_K {op : Operator} {od : Option Obj} {Q : Value → Shared → Prop} (X : K.In s.heap) (I : InstAt s.heap a (PySem.W.instObj C dx) C od) (hi : IntNo op.info.2) (hc : selfFirst K C = true)
    (hf : findIn K (.ref C) (PySem.dunder op.info.2) = some (some (.ref g))) (hs : findIn K (.ref C) (dunderR op.info.2) = some (some (.ref f))) (hfn : isFn K (.ref f) = true) (hsub : subIn K (.ref C) (.type "int") = some false)
    (h : wpAny (model prog w) A (call (.ref f) [.ref a, .int i t]) (PySem.W.CmpBack Q) E s) : wpAny (model prog w) A (binaryOp op (.int i t) (.ref a)) Q E s := by
  obtain ⟨cd, rest, hcd, hm⟩ := ksp_first hc
  rcases hi' : op.info with ⟨sym, nm⟩
  rw [hi'] at hi hf hs
  dsimp only at hi hf hs
  obtain ⟨id, sl, fl, no⟩ := hi
  have two := ksp_try (b := .int i t) X I hs hfn h
  have L1 : Looks (model prog w) s.heap (typeOf (.ref a)) (.ref C) := I.type
  have L3 : Looks (model prog w) s.heap (fillsNumberSlot (.ref C) nm) true := fills_K X hcd hm hf
  have L5 : Looks (model prog w) s.heap (isSubtype (.ref C) (.type "int")) false := looks_subIn X hsub
  have L7 : numberSlotInPython (.type "int") nm = pure false := rfl
  have hne : (Value.type "int" == Value.ref C) = false := Bool.eq_false_iff.mpr fun q => by cases beq_iff_eq.mp q
  simp only [binaryOp, hi']
  refine wpAny_holding (wpAny_bind ?_)
  unfold binaryOp1
  refine wpAny_bind (wpAny_typeOf (typeIs_int s i t) (wpAny_bind (L1.here (wpAny_bind (wpAny_of_eq fl ?_)))))
  simp only [hne, Bool.false_eq_true, if_false]
  refine wpAny_bind (L3.here ?_)
  simp only [Bool.and_self, if_true]
  refine wpAny_bind (L5.here ?_)
  simp only [Bool.false_eq_true, if_false, pure_bind, Bool.not_false, Bool.and_self, if_true, L7]
  refine wpAny_bind (wpAny_tryMethod_declines (typeIs_int s i t) sl (no i t a C dx _ I.at_ ⟨rfl, ?_⟩))
  dsimp only
  refine wpAny_bind (wpAny_mono two (fun r s' hr => ?_) fun _ _ e => e)
  obtain ⟨v, rfl, hq⟩ := hr
  exact wpAny_bind (wpAny_rule (wpAny_pure (wpAny_pure hq)))
end
def dun (o : Bop) : Str := PySem.dunder (bopOf o).info.2
def dunR (o : Bop) : Str := dunderR (bopOf o).info.2
theorem intNo_of : ∀ o : Bop, o ≠ .pow → IntNo (bopOf o).info.2
  | .add, _ => intNo_add
  | .sub, _ => intNo_sub
  | .mul, _ => intNo_mul
  | .fdiv, _ => intNo_floordiv
  | .mod, _ => intNo_mod
  | .pow, h => absurd rfl h
def btys : List String := ["NoneType", "bool", "int", "str", "tuple", "list", "dict"]
/-- what is asked of a class with own operators; fn: what is known of a method -/
structure OpFn (P : Program) (w : World) (K : Frag) (mg : Str → Option Value) (base : Heap) (F : Fn) (t : Tx) (k : Nat) (c : Nat) (name : Str) (f : Nat) : Prop where
  ex : ∃ fa fd ps, findIn K (.ref (t.CA c)) name = some (some (.ref fa)) ∧ isFn K (.ref fa) = true ∧ FnOk P w K mg base (L2.CX P w) k fa fd ps (spF F t K f) ∧ Binds K fd ps []
structure OwnB (P : Program) (w : World) (K : Frag) (mg : Str → Option Value) (base : Heap) (T : Tab) (F : Fn) (t : Tx) (k : Nat) : Prop where
  bin : ∀ c o f, T.bop c o = some f → o ≠ .pow ∧ selfFirst K (t.CA c) = true ∧ subIn K (.type "int") (.ref (t.CA c)) = some false ∧ OpFn P w K mg base F t k c (dun o) f ∧ (∃ ga : Addr, findIn K (.ref (t.CA c)) (dunR o) = some (some (.ref ga))) ∧
    ∃ fo ro, findIn K (.type "int") (dun o) = some fo ∧ findIn K (.type "int") (dunR o) = some ro
  rbin : ∀ c o f, T.rbop c o = some f → o ≠ .pow ∧ selfFirst K (t.CA c) = true ∧ subIn K (.ref (t.CA c)) (.type "int") = some false ∧ OpFn P w K mg base F t k c (dunR o) f ∧ (∃ ga : Addr, findIn K (.ref (t.CA c)) (dun o) = some (some (.ref ga)))
  neg : ∀ c f, T.neg c = some f → OpFn P w K mg base F t k c "__neg__" f
  abs : ∀ c f, T.abs c = some f → OpFn P w K mg base F t k c "__abs__" f
  ceq : ∀ c f, T.cop c .eq = some f → OpFn P w K mg base F t k c "__eq__" f ∧ findIn K (.ref (t.CA c)) "__ne__" = some (some (.builtin "object.__ne__")) ∧ subIn K (.ref (t.CA c)) (.type "object") = some true ∧
    ∀ n ∈ btys, subIn K (.type n) (.ref (t.CA c)) = some false ∧ subIn K (.ref (t.CA c)) (.type n) = some false
  cord : ∀ c o f, (o = .lt ∨ o = .le ∨ o = .gt ∨ o = .ge) → T.cop c o = some f → OpFn P w K mg base F t k c (cmpInfo (copOf o)).2.1 f ∧ subIn K (.type "int") (.ref (t.CA c)) = some false ∧ subIn K (.ref (t.CA c)) (.type "int") = some false
section
variable {T : Tab} {F : Fn} {t : Tx} {X : Cx} {k : Nat}
theorem env_in {A : Around} (hA : A.frames = X.A.frames) {pins : List (Addr × Obj)} {σ : L2.St} {H : L2.Hp} {s : Shared} (I : Inv X pins σ H s) : L2.Env0 X.prog X.w X.K X.mg X.base A X.stack s H := by
  have e := I.env0
  exact ⟨by rw [hA]; exact e.frames, e.mod, e.bs, e.bsz, e.funs, e.frf, e.hok, e.bare⟩
/-- a function's reading, for a caller -/
def spX (F : Fn) (t : Tx) (K : PySem.W.Frag) (f : Nat) (vs : List L2.V) (H : L2.Hp) (Q : VK) : Prop := ∃ ws h, HR t K h H ∧ VA K H ws vs ∧ F f ws h (PQ t K h H Q) (XC t K h H)
/-- a text's function is run, under X or inside a builtin there -/
theorem run_in (mF : Mo F) (pa : Pa X t) {A : Around} {f : Nat} {fa : Addr} {fd : FuncData} {ps : List Str} {pins : List (Addr × Obj)} {σ : L2.St} {H : L2.Hp} {s : Shared} {Q : VK} {us : List Value} {vs : List L2.V} (G : FnOk X.prog X.w X.K X.mg X.base (L2.CX X.prog X.w) k fa fd ps (spF F t X.K f)) (hr : Room k A) (hA : A.frames = X.A.frames)
    (hb : Binds X.K fd ps []) (I : Inv X pins σ H s) (r : Vals vs us) (h : spX F t X.K f vs H Q) : wpAny (model X.prog X.w) A (call (.ref fa) us) (EP X pins σ Q) X.xe s := by
  have h : spF F t X.K f vs H Q (Ei t) := let ⟨ws, h0, h1, h2, z⟩ := h; ⟨ws, h0, h1, h2, mF _ _ _ _ _ _ _ (fun _ _ e => e) (fun _ _ _ e dx gs H' r f q k _ => e dx gs H' r f q k) z⟩
  have hl : us.length = ps.length := by rw [← r.length]; exact G.len _ _ _ _ h
  refine wpAny_call (codeAny_mono (G.run A X.stack s H ⟨us, []⟩ us vs Q (Ei t) hr (env_in hA I) (by simpa using hb s us I.kIn (by simpa using hl)) r h) fun r s' hq => ?_)
  cases r with
  | error e => exact pa.pass pins σ H s e s' I hq
  | ok fl =>
    cases fl with
    | ret u => exact I.after hq
    | next => exact False.elim hq
    | brk => exact False.elim hq
    | cont => exact False.elim hq
theorem back_of {pins : List (Addr × Obj)} {σ : L2.St} {Q : VK} {v : Value} {s' : Shared} (h : EP X pins σ Q v s') : PySem.W.CmpBack (EP X pins σ Q) v s' := by
  have h' := h
  obtain ⟨z, H', I', r, q⟩ := h'
  cases v <;> first | exact h | (exfalso; cases z <;> simp [L2.RelV] at r)
theorem isIns_at {h : Hp} {x : W} {c : Nat} (e : isIns h x = some c) : ∃ a fs, x = .ref a ∧ h a = some (.ins c fs) := by
  unfold isIns at e
  split at e
  · split at e
    · rename_i q
      cases e
      exact ⟨_, _, rfl, q⟩
    · cases e
  · cases e
theorem bt_of {pins : List (Addr × Obj)} {τ : L2.St} {H : L2.Hp} {s : Shared} {h : Hp} {y : W} {u : L2.V} {ua : Value} (I : Inv X pins τ H s) (hh : HR t X.K h H) (vy : VR X.K H y u) (ry : L2.RelV u ua) (k : kn h y = true) : ∃ n, n ∈ btys ∧ BT s ua n := by
  cases vy with
  | non => cases ry; exact ⟨_, by decide, .non⟩
  | bl b => cases ry; exact ⟨_, by decide, .bl b⟩
  | int i => obtain ⟨tk, rfl⟩ := ry; exact ⟨_, by decide, .int i tk⟩
  | str i => obtain ⟨tk, rfl⟩ := ry; exact ⟨_, by decide, .str i tk⟩
  | tup hp _ =>
    cases ry
    obtain ⟨its, r, e, _⟩ := I.tuple hp
    obtain ⟨o, e1, e2, _⟩ := e
    exact ⟨_, by decide, .tup ⟨o, e1, e2⟩⟩
  | ref a =>
    cases ry
    unfold kn at k
    dsimp only at k
    split at k
    · rename_i xs e
      obtain ⟨ys, f1, _⟩ := hh.lst e
      obtain ⟨_, its, n, _, e1⟩ := (show L2.ObjOk X.prog X.w H s.heap a (.lst ys) from I.hok a _ f1)
      exact ⟨_, by decide, .lst ⟨_, e1, rfl⟩⟩
    · rename_i xs e
      obtain ⟨ks, f1, _⟩ := hh.dct e
      obtain ⟨_, _, vs, _, ob, es, ep, e1, c1, _⟩ := (show L2.ObjOk X.prog X.w H s.heap a (.dK ks) from I.hok a _ f1)
      exact ⟨_, by decide, .dct ⟨_, e1, c1.1⟩⟩
    · cases k
theorem oneT {s : Shared} {v : Value} {n : String} {op : CmpOp} {x : Addr} (b : BT s v n) : oneThing? op v (.ref x) = none := by
  cases b <;> first | rfl | exact oneThing_ref ..
/-- the wish behind an own == -/
theorem bl_wish {K : Frag} {h : Hp} {H : L2.Hp} {Q : VK} {neg : Bool} {w : W} {h' : Hp} (e : ∃ b, w = .bl b ∧ PQ t K h H Q (.bl (if neg then !b else b)) h') : PQ t K h H (fun v H' => ∃ b, v = .bl b ∧ Q (.bl (if neg then !b else b)) H') w h' := by
  obtain ⟨b, rfl, e⟩ := e
  intro v H' r q k
  cases q
  exact ⟨b, rfl, e _ _ r (.bl _) k⟩
theorem lcmp_K {prog : Program} {w : World} {A : Around} {E : Value → Shared → Prop} {s : Shared} {K : Frag} {x C : Addr} {ox : Obj} {od : Option Obj} {op : CmpOp} {b tb : Value} {Q : Value → Shared → Prop} (hu : A.units < cLine) (Xk : K.In s.heap) (I : InstAt s.heap x ox C od) (hb : Looks (model prog w) s.heap (typeOf b) tb) (hn : PySem.W.notFirst K C tb = true)
    (one : wpAny (model prog w) A (tryCompare (.ref x) (cmpInfo op).2.1 b) (fun r s' => ∃ v, r = some v ∧ Q v s') E s) : wpAny (model prog w) A (richCompare op (.ref x) b) Q E s := by
  unfold richCompare
  simp only [oneThing_ref]
  refine wpAny_holding (wpAny_bind (wpAny_cRoomFor hu ?_))
  refine wpAny_bind (I.type.here (wpAny_bind (hb.here ?_)))
  split
  · rename_i q
    have e : subIn K tb (.ref C) = some false := by
      rcases Bool.or_eq_true_iff.mp hn with e | e
      · rw [beq_iff_eq.mp e] at q; simp at q
      · exact beq_iff_eq.mp e
    refine wpAny_bind ((looks_subIn Xk e).here ?_)
    simp only [Bool.false_eq_true, if_false]
    refine wpAny_bind (wpAny_mono one (fun r s' z => ?_) fun _ _ e => e)
    obtain ⟨v, rfl, hq⟩ := z
    exact wpAny_pure hq
  · refine wpAny_bind (wpAny_pure ?_)
    simp only [Bool.false_eq_true, if_false]
    refine wpAny_bind (wpAny_mono one (fun r s' z => ?_) fun _ _ e => e)
    obtain ⟨v, rfl, hq⟩ := z
    exact wpAny_pure hq
/-- the instance's own == (or !=) is asked -/
theorem OwnB.ask (O : OwnB X.prog X.w X.K X.mg X.base T F t k) (pa : Pa X t) (hr : Room (k + 1) X.A) (neg : Bool) {pins : List (Addr × Obj)} {τ : L2.St} {H : L2.Hp} {s : Shared} {h : Hp} {Q : VK} {a : Addr} {c f : Nat} {fs : List (Nat × W)} {y : W} {u : L2.V} {ua : Value} (I : Inv X pins τ H s) (hh : HR t X.K h H) (ea : h a = some (.ins c fs)) (hc : T.cop c .eq = some f)
    (vy : VR X.K H y u) (ry : L2.RelV u ua) (z : F f [.ref a, y] h (fun r h' => ∃ b, r = .bl b ∧ PQ t X.K h H Q (.bl (if neg then !b else b)) h') (XC t X.K h H)) (mF : Mo F) :
    wpAny (model X.prog X.w) X.A (tryCompare (.ref a) (if neg then "__ne__" else "__eq__") ua) (fun r s' => ∃ v, r = some v ∧ EP X pins τ Q v s') X.xe s := by
  obtain ⟨⟨fa, fd, ps, hs, hf, G, hb⟩, hne, hob, _⟩ := O.ceq c f hc
  obtain ⟨dx, gs, f1, _⟩ := hh.ins ea
  obtain ⟨mA, J, _⟩ := L2.ins_get I.hok f1
  obtain ⟨od, J, _⟩ := J.look
  have z' : spX F t X.K f [.ref a, u] H (fun v H' => ∃ b, v = .bl b ∧ Q (.bl (if neg then !b else b)) H') := ⟨_, h, hh, .cons (.ref a) (.cons vy .nil), mF _ _ _ _ _ _ _ (fun w h' e => bl_wish e) XW.id z⟩
  cases neg with
  | false =>
    show wpAny _ _ (tryCompare (.ref a) "__eq__" ua) _ _ _
    unfold tryCompare
    refine wpAny_bind (ifBound_K I.kIn J hs hf (L2.thn (run_in mF pa (vs := [.ref a, u]) G (hr.mono (Nat.le_succ k)) rfl hb I (.cons rfl (.cons ry .nil)) z') fun v s' q => ?_))
    obtain ⟨v', H', I', rv, b, rfl, q⟩ := q
    cases rv
    exact wpAny_pure ⟨_, rfl, .bl b, H', I', rfl, q⟩
  | true =>
    show wpAny _ _ (tryCompare (.ref a) "__ne__" ua) _ _ _
    refine tryNe_K I.kIn J hne hob hs hf (L2.hu_of hr) (L2.thn (run_in mF pa (A := X.A.in1) (vs := [.ref a, u]) G hr.in1 rfl hb I (.cons rfl (.cons ry .nil)) z') fun v s' q => ?_)
    obtain ⟨v', H', I', rv, b, rfl, q⟩ := q
    cases rv
    exact ⟨b, rfl, _, rfl, .bl (!b), H', I', rfl, q⟩
theorem OwnB.eqs (O : OwnB X.prog X.w X.K X.mg X.base T F t k) (mF : Mo F) (pa : Pa X t) (hr : Room (k + 1) X.A) (neg : Bool) {pins : List (Addr × Obj)} {τ : L2.St} {H : L2.Hp} {s : Shared} {h : Hp} {Q : VK} {x y : W} {v u : L2.V} {va ua : Value} (I : Inv X pins τ H s) (rx : L2.RelV v va) (ry : L2.RelV u ua) (hh : HR t X.K h H) (vx : VR X.K H x v) (vy : VR X.K H y u)
    (hx : (isIns h x).isSome = true ∨ (isIns h y).isSome = true) (z : wEq T F neg x y h (PQ t X.K h H Q) (XC t X.K h H)) : wpAny (model X.prog X.w) X.A (richCompare (if neg then .NotEq else .Eq) va ua) (EP X pins τ Q) X.xe s := by
  have n1 : (cmpInfo (if neg then .NotEq else .Eq)).2.1 = (if neg then "__ne__" else "__eq__" : Str) := by cases neg <;> rfl
  have n2 : (cmpInfo (if neg then .NotEq else .Eq)).2.2 = (if neg then "__ne__" else "__eq__" : Str) := by cases neg <;> rfl
  unfold wEq at z
  split at z
  · rename_i e1 e2
    rw [e1, e2] at hx
    simp at hx
  · rename_i c e1 e2
    obtain ⟨a, fs, rfl, ea⟩ := isIns_at e1
    obtain ⟨kk, z⟩ := z
    cases q : T.cop c .eq with
    | none => rw [q] at z; exact z.elim
    | some f =>
      rw [q] at z
      obtain ⟨dx, gs, f1, _⟩ := hh.ins ea
      cases vx
      cases rx
      obtain ⟨mA, J, _⟩ := L2.ins_get I.hok f1
      obtain ⟨od, J, _⟩ := J.look
      obtain ⟨n, hn, bt⟩ := bt_of I hh vy ry kk
      obtain ⟨_, _, _, subs⟩ := O.ceq c f q
      refine lcmp_K hr.units0 I.kIn J (typeIs_looks bt.ty) (by unfold PySem.W.notFirst; rw [(subs n hn).1]; simp) ?_
      rw [n1]
      exact O.ask pa hr neg I hh ea q vy ry z mF
  · rename_i c c' e1 e2
    obtain ⟨a, fs, rfl, ea⟩ := isIns_at e1
    obtain ⟨b, fs', rfl, eb⟩ := isIns_at e2
    obtain ⟨rfl, z⟩ := z
    cases q : T.cop c .eq with
    | none => rw [q] at z; exact z.elim
    | some f =>
      rw [q] at z
      obtain ⟨dx, gs, f1, _⟩ := hh.ins ea
      obtain ⟨dy, gs', f2, _⟩ := hh.ins eb
      cases vx
      cases rx
      have vy' := vy
      have ry' := ry
      cases vy
      cases ry
      obtain ⟨mA, J, _⟩ := L2.ins_get I.hok f1
      obtain ⟨od, J, _⟩ := J.look
      obtain ⟨mB, J', _⟩ := L2.ins_get I.hok f2
      obtain ⟨od', J', _⟩ := J'.look
      refine lcmp_K hr.units0 I.kIn J J'.type (by simp [PySem.W.notFirst]) ?_
      rw [n1]
      exact O.ask pa hr neg I hh ea q vy' ry' z mF
  · rename_i c e1 e2
    obtain ⟨b, fs, rfl, eb⟩ := isIns_at e2
    obtain ⟨⟨kk, hi⟩, z⟩ := z
    cases q : T.cop c .eq with
    | none => rw [q] at z; exact z.elim
    | some f =>
      rw [q] at z
      obtain ⟨dx, gs, f1, _⟩ := hh.ins eb
      cases vy
      cases ry
      obtain ⟨mA, J, _⟩ := L2.ins_get I.hok f1
      obtain ⟨od, J, _⟩ := J.look
      obtain ⟨n, hn, bt⟩ := bt_of I hh vx rx kk
      obtain ⟨_, _, _, subs⟩ := O.ceq c f q
      refine rcmp_K I.kIn J hr.units0 (oneT bt) bt.ty (subs n hn).2 ?_ (by rw [n2]; exact O.ask pa hr neg I hh eb q vx rx z mF)
      rw [n1]
      cases neg with
      | false => exact bt.decl I.kIn J (subs n hn).2
      | true =>
        intro Q' q'
        cases x with
        | int i =>
          cases vx
          obtain ⟨tk, rfl⟩ := rx
          exact dcl (T := "int") rfl PySem.F.slot_int_ne PySem.F.entry_int_ne (PySem.F.args_int_ne_2 _ _) (fun Q' q => ne_int J.at_ q) q'
        | _ => exact absurd (hi rfl) (by simp [isI])
theorem dec_ord {prog : Program} {w : World} {A : Around} {E : Value → Shared → Prop} {s : Shared} {x C dx : Addr} {i : Int} {tk : Tok} {o : Cop} (ho : o = .lt ∨ o = .le ∨ o = .gt ∨ o = .ge) (h : s.heap.get? x = some (PySem.W.instObj C dx)) :
    ∀ Q' : Option Value → Shared → Prop, Q' none s → wpAny (model prog w) A (tryCompare (.int i tk) (cmpInfo (copOf o)).2.1 (.ref x)) Q' E s := by
  intro Q' q
  rcases ho with rfl | rfl | rfl | rfl
  · exact dcl (T := "int") rfl PySem.F.slot_int_lt PySem.F.entry_int_lt (PySem.F.args_int_lt_2 _ _) (fun Q' q => lt_int' h q) q
  · exact dcl (T := "int") rfl PySem.F.slot_int_le PySem.F.entry_int_le (PySem.F.args_int_le_2 _ _) (fun Q' q => le_int' h q) q
  · exact dcl (T := "int") rfl PySem.F.slot_int_gt PySem.F.entry_int_gt (PySem.F.args_int_gt_2 _ _) (fun Q' q => gt_int' h q) q
  · exact dcl (T := "int") rfl PySem.F.slot_int_ge PySem.F.entry_int_ge (PySem.F.args_int_ge_2 _ _) (fun Q' q => ge_int' h q) q
theorem OwnB.askO (O : OwnB X.prog X.w X.K X.mg X.base T F t k) (mF : Mo F) (pa : Pa X t) (hr : Room (k + 1) X.A) {o : Cop} (ho : o = .lt ∨ o = .le ∨ o = .gt ∨ o = .ge) {pins : List (Addr × Obj)} {τ : L2.St} {H : L2.Hp} {s : Shared} {h : Hp} {Q : VK} {a : Addr} {c f : Nat} {fs : List (Nat × W)} {y : W} {u : L2.V} {ua : Value} (I : Inv X pins τ H s) (hh : HR t X.K h H) (ea : h a = some (.ins c fs)) (hc : T.cop c o = some f)
    (vy : VR X.K H y u) (ry : L2.RelV u ua) (z : F f [.ref a, y] h (PQ t X.K h H Q) (XC t X.K h H)) :
    wpAny (model X.prog X.w) X.A (tryCompare (.ref a) (cmpInfo (copOf o)).2.1 ua) (fun r s' => ∃ v, r = some v ∧ EP X pins τ Q v s') X.xe s := by
  obtain ⟨⟨fa, fd, ps, hs, hf, G, hb⟩, _⟩ := O.cord c o f ho hc
  obtain ⟨dx, gs, f1, _⟩ := hh.ins ea
  obtain ⟨mA, J, _⟩ := L2.ins_get I.hok f1
  obtain ⟨od, J, _⟩ := J.look
  have z' : spX F t X.K f [.ref a, u] H Q := ⟨_, h, hh, .cons (.ref a) (.cons vy .nil), z⟩
  unfold tryCompare
  refine wpAny_bind (ifBound_K I.kIn J hs hf (L2.thn (run_in mF pa (vs := [.ref a, u]) G (hr.mono (Nat.le_succ k)) rfl hb I (.cons rfl (.cons ry .nil)) z') fun v s' q => ?_))
  have q' := q
  obtain ⟨v', H', I', rv, q⟩ := q
  cases v <;> first | exact wpAny_pure ⟨_, rfl, q'⟩ | (exfalso; cases v' <;> simp [L2.RelV] at rv)
theorem OwnB.ords (O : OwnB X.prog X.w X.K X.mg X.base T F t k) (mF : Mo F) (pa : Pa X t) (hr : Room (k + 1) X.A) {o : Cop} (ho : o = .lt ∨ o = .le ∨ o = .gt ∨ o = .ge) {pins : List (Addr × Obj)} {τ : L2.St} {H : L2.Hp} {s : Shared} {h : Hp} {Q : VK} {x y : W} {v u : L2.V} {va ua : Value} (I : Inv X pins τ H s) (rx : L2.RelV v va) (ry : L2.RelV u ua) (hh : HR t X.K h H) (vx : VR X.K H x v) (vy : VR X.K H y u)
    (hx : (isIns h x).isSome = true ∨ (isIns h y).isSome = true) (z : wOrd T F o x y h (PQ t X.K h H Q) (XC t X.K h H)) : wpAny (model X.prog X.w) X.A (richCompare (copOf o) va ua) (EP X pins τ Q) X.xe s := by
  unfold wOrd at z
  split at z
  · simp [isIns] at hx
  · rename_i a b
    split at z
    · rename_i c fs c' fs' ea eb
      obtain ⟨rfl, z⟩ := z
      cases q : T.cop c o with
      | none => rw [q] at z; exact z.elim
      | some f =>
        rw [q] at z
        obtain ⟨dx, gs, f1, _⟩ := hh.ins ea
        obtain ⟨dy, gs', f2, _⟩ := hh.ins eb
        cases vx
        cases rx
        have vy' := vy
        have ry' := ry
        cases vy
        cases ry
        obtain ⟨mA, J, _⟩ := L2.ins_get I.hok f1
        obtain ⟨od, J, _⟩ := J.look
        obtain ⟨mB, J', _⟩ := L2.ins_get I.hok f2
        obtain ⟨od', J', _⟩ := J'.look
        exact lcmp_K hr.units0 I.kIn J J'.type (by simp [PySem.W.notFirst]) (O.askO mF pa hr ho I hh ea q vy' ry' z)
    · exact z.elim
  · rename_i a j
    split at z
    · rename_i c fs ea
      cases q : T.cop c o with
      | none => rw [q] at z; exact z.elim
      | some f =>
        rw [q] at z
        obtain ⟨dx, gs, f1, _⟩ := hh.ins ea
        cases vx
        cases rx
        have vy' := vy
        have ry' := ry
        cases vy
        obtain ⟨tk, rfl⟩ := ry
        obtain ⟨mA, J, _⟩ := L2.ins_get I.hok f1
        obtain ⟨od, J, _⟩ := J.look
        obtain ⟨_, sb, _⟩ := O.cord c o f ho q
        exact lcmp_K hr.units0 I.kIn J (typeIs_looks (s := s) (n := "int") rfl) (by unfold PySem.W.notFirst; rw [sb]; simp) (O.askO mF pa hr ho I hh ea q vy' ry' z)
    · exact z.elim
  · rename_i j b
    split at z
    · rename_i c fs eb
      have ho' : swapC o = .lt ∨ swapC o = .le ∨ swapC o = .gt ∨ swapC o = .ge := by rcases ho with rfl | rfl | rfl | rfl <;> simp [swapC]
      have hsw : (cmpInfo (copOf o)).2.2 = (cmpInfo (copOf (swapC o))).2.1 := by rcases ho with rfl | rfl | rfl | rfl <;> rfl
      cases q : T.cop c (swapC o) with
      | none => rw [q] at z; exact z.elim
      | some f =>
        rw [q] at z
        obtain ⟨dx, gs, f1, _⟩ := hh.ins eb
        cases vy
        cases ry
        have vx' := vx
        have rx' := rx
        cases vx
        obtain ⟨tk, rfl⟩ := rx
        obtain ⟨mA, J, _⟩ := L2.ins_get I.hok f1
        obtain ⟨od, J, _⟩ := J.look
        obtain ⟨_, _, sb⟩ := O.cord c _ f ho' q
        refine rcmp_K (T := "int") I.kIn J hr.units0 (by rcases ho with rfl | rfl | rfl | rfl <;> rfl) rfl sb (dec_ord ho J.at_) ?_
        rw [hsw]
        exact O.askO mF pa hr ho' I hh eb q vx' rx' z
    · exact z.elim
  · exact z.elim
theorem OwnB.own (O : OwnB X.prog X.w X.K X.mg X.base T F t k) (mF : Mo F) (pa : Pa X t) (hr : Room (k + 1) X.A) : Own T F t X := by
  have hr0 : Room k X.A := hr.mono (Nat.le_succ k)
  refine ⟨pa.cw, fun o pins s τ H v u va ua Q I rx ry z => ?_, ?_, ?_, ?_, ?_, ?_⟩
  · obtain ⟨x, y, h, hh, vx, vy, z⟩ := z
    unfold own2 at z
    split at z
    · rename_i a b
      split at z
      · rename_i c fs c' fs' e1 e2
        obtain ⟨rfl, z⟩ := z
        cases q : T.bop c o with
        | none => rw [q] at z; exact z.elim
        | some f =>
          rw [q] at z
          obtain ⟨dx, gs, f1, a1⟩ := hh.ins e1
          obtain ⟨dy, gs', f2, a2⟩ := hh.ins e2
          cases vx; cases vy
          cases rx; cases ry
          obtain ⟨_, sf, _, ⟨fa, fd, ps, hs, hf, G, hb⟩, _⟩ := O.bin c o f q
          obtain ⟨mA, J, _⟩ := L2.ins_get I.hok f1
          obtain ⟨mB, J', _⟩ := L2.ins_get I.hok f2
          obtain ⟨od, J, _⟩ := J.look
          obtain ⟨od', J', _⟩ := J'.look
          obtain ⟨m, hF⟩ := I.fr
          refine PySem.W.binop_K hF I.ok.mod.kin J J'.type sf hs hf (L2.thn (run_in mF pa (vs := [.ref a, .ref b]) G hr0 rfl hb I (.cons rfl (.cons rfl .nil)) ?_) fun v s' h => back_of h)
          exact ⟨_, h, hh, .cons (.ref a) (.cons (.ref b) .nil), z⟩
      · exact z.elim
    · rename_i a j
      split at z
      · rename_i c fs e1
        cases q : T.bop c o with
        | none => rw [q] at z; exact z.elim
        | some f =>
          rw [q] at z
          obtain ⟨dx, gs, f1, a1⟩ := hh.ins e1
          cases vx; cases vy
          cases rx
          obtain ⟨tk, rfl⟩ := ry
          obtain ⟨_, sf, sb, ⟨fa, fd, ps, hs, hf, G, hb⟩, ⟨ga, hg⟩, fo, ro, h1, h2⟩ := O.bin c o f q
          obtain ⟨mA, J, _⟩ := L2.ins_get I.hok f1
          obtain ⟨od, J, _⟩ := J.look
          obtain ⟨m, hF⟩ := I.fr
          refine PySem.W.ksp_binT hF I.ok.mod.kin J rfl sf hs hf hg (.inr ⟨_, rfl⟩) h1 h2 sb (L2.thn (run_in mF pa (vs := [.ref a, .int j]) G hr0 rfl hb I (.cons rfl (.cons ⟨_, rfl⟩ .nil)) ?_) fun v s' h => back_of h)
          exact ⟨_, h, hh, .cons (.ref a) (.cons (.int j) .nil), z⟩
      · exact z.elim
    · rename_i j b
      split at z
      · rename_i c fs e1
        cases q : T.rbop c o with
        | none => rw [q] at z; exact z.elim
        | some f =>
          rw [q] at z
          obtain ⟨dx, gs, f1, a1⟩ := hh.ins e1
          cases vx; cases vy
          cases ry
          obtain ⟨tk, rfl⟩ := rx
          obtain ⟨np, sf, sb, ⟨fa, fd, ps, hs, hf, G, hb⟩, ⟨ga, hg⟩⟩ := O.rbin c o f q
          obtain ⟨mA, J, _⟩ := L2.ins_get I.hok f1
          obtain ⟨od, J, _⟩ := J.look
          refine rbin_K I.kIn J (intNo_of o np) sf hg hs hf sb (L2.thn (run_in mF pa (vs := [.ref b, .int j]) G hr0 rfl hb I (.cons rfl (.cons ⟨_, rfl⟩ .nil)) ?_) fun v s' h => back_of h)
          exact ⟨_, h, hh, .cons (.ref b) (.cons (.int j) .nil), z⟩
      · exact z.elim
    · exact z.elim
  · intro pins s τ H v u va ua Q I rx ry ⟨x, y, h, hh, vx, vy, hx, z⟩
    exact O.eqs mF pa hr false I rx ry hh vx vy hx z
  · intro pins s τ H v u va ua Q I rx ry ⟨x, y, h, hh, vx, vy, hx, z⟩
    exact O.eqs mF pa hr true I rx ry hh vx vy hx z
  · intro o ho pins s τ H v u va ua Q I rx ry ⟨x, y, h, hh, vx, vy, hx, z⟩
    have e : compareOp (copOf o) = richCompare (copOf o) := by rcases ho with rfl | rfl | rfl | rfl <;> rfl
    rw [e]
    exact O.ords mF pa hr ho I rx ry hh vx vy hx z
  · intro pins s τ H v va Q I rx ⟨x, h, hh, vx, hx, z⟩
    unfold wNeg at z
    split at z
    · simp [isIns] at hx
    · rename_i a
      split at z
      · rename_i c fs e1
        cases q : T.neg c with
        | none => rw [q] at z; exact z.elim
        | some f =>
          rw [q] at z
          obtain ⟨dx, gs, f1, a1⟩ := hh.ins e1
          cases vx
          cases rx
          obtain ⟨fa, fd, ps, hs, hf, G, hb⟩ := O.neg c f q
          obtain ⟨mA, J, _⟩ := L2.ins_get I.hok f1
          obtain ⟨od, J, _⟩ := J.look
          obtain ⟨m, hF⟩ := I.fr
          refine PySem.W.ksp_neg hF I.ok.mod.kin J hs hf (run_in mF pa (vs := [.ref a]) G hr0 rfl hb I (.cons rfl .nil) ?_)
          exact ⟨_, h, hh, .cons (.ref a) .nil, z⟩
      · exact z.elim
    · exact z.elim
  · intro pins s τ H vs us Q I rs ⟨x, v, h, e, hh, vx, hx, z⟩
    subst e
    cases x with
    | ref a => ?_
    | _ => simp [isIns] at hx
    simp only [wBif] at z
    split at z
    · rename_i c fs e1
      cases q : T.abs c with
      | none => rw [q] at z; exact z.elim
      | some f =>
        rw [q] at z
        obtain ⟨dx, gs, f1, a1⟩ := hh.ins e1
        cases vx
        obtain ⟨fa, fd, ps, hs, hf, G, hb⟩ := O.abs c f q
        obtain ⟨mA, J, _⟩ := L2.ins_get I.hok f1
        obtain ⟨od, J, _⟩ := J.look
        obtain ⟨u, rfl, rfl⟩ := L2.vals1 rs
        refine Calls.call_function_entry kind_abs plain_abs entry_abs (args_abs _) ?_
        unfold Builtin.«abs»
        refine wpAny_bind (m := oneArg "abs" _) (wpAny_pure ?_)
        refine wpAny_bind (m := callSpecial? (.ref a) (Str.ofString "__abs__")) (special_fn I.kIn J hs (beq_iff_eq.mp hf) (L2.thn (run_in mF pa (vs := [.ref a]) (Q := Q) G hr.in1 rfl hb I (.cons rfl .nil) ?_) fun v s' h => ?_))
        · exact ⟨_, h, hh, .cons (.ref a) .nil, z⟩
        · exact wpAny_pure ⟨_, rfl, h⟩
    · exact z.elim
end
end Mi
set_option maxHeartbeats 4000000
/-! calls with keywords; a text's functions run -/
namespace Mi
open PySem PySem.Spec PyProof.Rows
open L2 (PE PT PW PA PS PSs PK OpR UnR CallR Inv RelV Vals VK Cx EP Room FnOk CX0 E0 pass0 Gl Cls Binds Sub Mk KBn FunD FnScope)
def esApp : Es → Es → Es
  | .nil, b => b
  | .cons e r, b => .cons e (esApp r b)
section
variable {T : Tab} {F : Fn}
theorem wEs_app : ∀ (a b : Es) (σ : St) (h : Hp) (Q : List W → Hp → Prop) (X : XK), wEs T F (esApp a b) σ h Q X = wEs T F a σ h (fun vs h1 => wEs T F b σ h1 (fun us h2 => Q (vs ++ us) h2) X) X
  | .nil, b, σ, h, Q, X => by simp only [esApp, wEs, List.nil_append]
  | .cons e r, b, σ, h, Q, X => by
    simp only [esApp, wEs, List.cons_append]
    congr 1
    funext v h1
    rw [wEs_app r b]
end
/-- how a call with keywords binds -/
structure Dk (K : PySem.W.Frag) (fd : FuncData) (ps : List Str) (n : Nat) (ks : List Str) (g : List (Sum Nat W)) : Prop where
  ex : ∃ gR gV, KBn K fd ps n ks gR gV ∧ ∀ H vs zs ws1 ws2, VA K H ws1 vs → VA K H ws2 zs → ws1.length = n → ws2.length = ks.length → ∃ us, args (ws1 ++ ws2) g = some us ∧ VA K H us (gV vs zs)
section
variable {T : Tab} {F : Fn} {t : Tx} {X : Cx} (mF : Mo F)
include mF
variable {e o : Expr} {es : List Expr} {kws : List Keyword} {me : E} {mes mks : Es} {p pos kpos : Pos} {x : Str} {nm : Option Str} {k f n : Nat} {fa : Addr} {fd : FuncData} {ps ks : List Str} {g : List (Sum Nat W)}
omit mF in
theorem mk_nil : PK X [] (tA T F t X.K .nil) := by
  refine ⟨fun pos pins s τ H Q I ⟨σ, h, hs, hr, z⟩ => L2.pk_nil.run pos pins s τ H Q I ?_⟩
  unfold wEs at z
  exact z [] H hr .nil Keep.refl
theorem mk_cons (ha : PE X e (tM T F t X.K me)) (hr' : PK X kws (tA T F t X.K mes)) : PK X (⟨nm, e, kpos⟩ :: kws) (tA T F t X.K (.cons me mes)) := by
  refine ⟨fun pos pins s τ H Q I ⟨σ, h, hs, hr, z⟩ => (L2.pk_cons ha hr').run pos pins s τ H Q I ?_⟩
  unfold wEs at z
  exact tM.bind mF hs hr z fun x h1 v H1 r1 v1 k1 z1 => tA.bind mF (hs.mono (k1.tk hr)) r1 z1 fun xs h2 vs H2 r2 v2 k2 z2 => z2 _ _ r2 (.cons (v1.mono (k2.tk r1)) v2) (k1.trans k2)
/-- f(e, .., k = v, ..) -/
theorem me_callK (pa : Pa X t) (G : Fo X.prog X.w X.K X.mg X.base F t k f fa fd ps) (hr : Room k X.A) (hm : X.mg x = some (.ref fa)) (D : Dk X.K fd ps n ks g) (ha : PA X (e :: es) (tA T F t X.K mes)) (hkw : PK X kws (tA T F t X.K mks)) (ln : esLen mes = n := by rfl) (lk : esLen mks = ks.length := by rfl)
    (hall : (backToKw pos (keywordEach kws X.env)).all (·.1.isSome) = true := by rfl) (hks : (backToKw pos (keywordEach kws X.env)).filterMap (·.1) = ks := by rfl) (hg : Gl X x := by rfl)
    (hdb : (x == ("__debug__" : Str)) = false := by decide) (he : starEach (e :: es) X.env = (false, eval e X.env) :: starEach es X.env := by rfl)
    (hpl : ((backTo pos (starEach (e :: es) X.env)).any (·.1) || (backToKw pos (keywordEach kws X.env)).any (·.1.isNone)) = false := by rfl) :
    PE X (.Call (.Name x p) (e :: es) kws pos) (tM T F t X.K (.callK f (esApp mes mks) g)) := by
  obtain ⟨gR, gV, hb, hv⟩ := D.ex
  refine PE.imp (L2.pe_callN G.ok hr hg hm G.kp hb pa.pass ha hkw hall hks hdb he hpl) fun τ H Q ⟨σ, h, hs, hr, z⟩ => ?_
  unfold wE at z
  rw [wEs_app] at z
  refine tA.bind mF hs hr (wEs_len mF mes _ _ _ _ z) fun ws h1 vs H1 r1 v1 k1 ⟨l1, z1⟩ => tA.bind mF (hs.mono (k1.tk hr)) r1 (wEs_len mF mks _ _ _ _ z1) fun us h2 zs H2 r2 v2 k2 ⟨l2, z2⟩ => ?_
  obtain ⟨qs, e1, e2⟩ := hv H2 vs zs ws us (v1.mono (k2.tk r1)) v2 (l1.trans ln) (l2.trans lk)
  rw [e1] at z2
  exact ⟨by rw [← v1.length, l1, ln], by rw [← v2.length, l2, lk], qs, h2, r2, e2, mF _ _ _ _ _ _ _ (fun w h' e => e.step (k1.trans k2)) (by first | exact XC.ei pa.cw k1 | exact XC.ei pa.cw (k1.trans g2) | exact XC.ei pa.cw g2 | exact XC.ei pa.cw (k1.trans k2) | exact XC.ei pa.cw k2 | exact XC.ei pa.cw ((k1.trans k2).trans g2) | exact XC.ei pa.cw (k2.trans g2) | exact XC.of cw k1 | exact XW.id) z2⟩
/-- C.m(e, ..): a staticmethod of the class C -/
structure Stat (K : PySem.W.Frag) (C : Addr) (m : Str) (p g : Addr) : Prop where
  rd : PySem.W.readsIn K C (.type "type") = true
  ga : PySem.W.specialIn K (.ref C) "__getattribute__" = some (some (.builtin "type.__getattribute__"))
  at_ : PySem.W.findCls K (.ref C) (.type "type") m = some (.get (.builtin "staticmethod.__get__") (.ref p) .none (.ref C))
  rc : ∃ rest, PySem.W.recIn K p "staticmethod" = some (.ref g :: rest)
omit mF in
theorem pe_stat {CX : L2.CXT} {E : L2.XK} {sp : L2.Sp} {dvs : List L2.V} {ds : List Value} {ta : L2.TA} {C pp : Addr} {m : Str} {apos : Pos} {pl : Sem Bool} (S : Stat X.K C m pp fa) (G : FnOk X.prog X.w X.K X.mg X.base CX k fa fd ps sp) (hr : Room k X.A) (hg : Gl X x) (hm : X.mg x = some (.ref C)) (hk : PySem.W.keepIn X.K (.ref fa) = true) (hb : Binds X.K fd ps ds) (hd : Vals dvs ds) (hx : L2.Passes CX X E)
    (ha : PA X (e :: es) ta) (hdb : (x == ("__debug__" : Str)) = false := by decide) (he : starEach (e :: es) X.env = (false, eval e X.env) :: starEach es X.env := by rfl) (hpl : (backTo pos (starEach es X.env)).any (·.1) = false := by rfl)
    (ht : eval (.Call (.Attribute (.Name x p) m apos) (e :: es) [] pos) X.env = (do
      let ov ← eval (.Name x p) X.env
      standAt apos.atName
      let (f, first) ← holding [ov] (getMethod ov m pl)
      callWith pos f first (backTo pos (starEach (e :: es) X.env)) (backToKw pos (keywordEach [] X.env))) := by rfl) :
    PE X (.Call (.Attribute (.Name x p) m apos) (e :: es) [] pos) (L2.tCall sp dvs E ta) := by
  refine ⟨fun pins s σ H Q I h => ?_⟩
  refine PySem.W.methodCall_KW (pl := pl) (L2.thn ((L2.pe_glob (v := .ref C) (pos := p) hg hm rfl hdb).run pins s σ H (fun v H1 => v = .ref C ∧ H1 = H) I ⟨rfl, rfl⟩) fun u s1 ⟨v, H1, I1, rv, ev, eH⟩ => ?_) ht
  subst ev eH
  obtain rfl : u = Value.ref C := rv
  obtain ⟨rest, hp⟩ := S.rc
  refine PySem.W.method_cls I1.kIn S.ga (PySem.W.cls_bind I1.kIn S.rd S.at_ (wpAny_call (PySem.W.sm_get (s := { s1 with toks := s1.toks + 1 }) I1.kIn hp (PySem.W.handed_on rfl ?_))))
  have I2 := I1.tok (s1.toks + 1)
  refine PySem.W.callWith_K (h₀ := X.base) I2.ok.mod.kin hk (L2.thn (ha.run pos pins _ σ H1 _ I2 h) fun us s3 ⟨vs, H2, I3, r, q⟩ => ⟨I3.kIn, ?_⟩) he hpl
  exact L2.run_fn G hr hb hd hx I3 r q
theorem me_stat {C pp : Addr} {m : Str} {apos : Pos} {pl : Sem Bool} (pa : Pa X t) (S : Stat X.K C m pp fa) (G : Fo X.prog X.w X.K X.mg X.base F t k f fa fd ps) (hr : Room k X.A) (hm : X.mg x = some (.ref C)) (D : Df X.K fd ps dw) (ha : PA X (e :: es) (tA T F t X.K mes)) (hg : Gl X x := by rfl)
    (hdb : (x == ("__debug__" : Str)) = false := by decide) (he : starEach (e :: es) X.env = (false, eval e X.env) :: starEach es X.env := by rfl) (hpl : (backTo pos (starEach es X.env)).any (·.1) = false := by rfl)
    (ht : eval (.Call (.Attribute (.Name x p) m apos) (e :: es) [] pos) X.env = (do
      let ov ← eval (.Name x p) X.env
      standAt apos.atName
      let (f, first) ← holding [ov] (getMethod ov m pl)
      callWith pos f first (backTo pos (starEach (e :: es) X.env)) (backToKw pos (keywordEach [] X.env))) := by rfl) :
    PE X (.Call (.Attribute (.Name x p) m apos) (e :: es) [] pos) (tM T F t X.K (.call f mes dw)) := by
  obtain ⟨ds, dvs, hb, hd, hw⟩ := D.ex
  refine PE.imp (pe_stat S G.ok hr hg hm G.kp hb hd pa.pass ha hdb he hpl ht) fun τ H Q ⟨σ, h, hs, hr, z⟩ => ?_
  unfold wE at z
  exact tA.bind mF hs hr z fun ws h1 vs H1 r1 v1 k1 z1 => ⟨ws ++ dw, h1, r1, v1.append (hw H1), mF _ _ _ _ _ _ _ (fun w h' e => e.step k1) (XC.ei pa.cw k1) z1⟩
/-- f(k = v, ..) -/
theorem me_callK0 (pa : Pa X t) (G : Fo X.prog X.w X.K X.mg X.base F t k f fa fd ps) (hr : Room k X.A) (hm : X.mg x = some (.ref fa)) (D : Dk X.K fd ps 0 ks g) (hkw : PK X kws (tA T F t X.K mks)) (lk : esLen mks = ks.length := by rfl)
    (hall : (backToKw pos (keywordEach kws X.env)).all (·.1.isSome) = true := by rfl) (hks : (backToKw pos (keywordEach kws X.env)).filterMap (·.1) = ks := by rfl) (hg : Gl X x := by rfl)
    (hdb : (x == ("__debug__" : Str)) = false := by decide)
    (hpl : ((backTo pos (starEach [] X.env)).any (·.1) || (backToKw pos (keywordEach kws X.env)).any (·.1.isNone)) = false := by rfl) :
    PE X (.Call (.Name x p) [] kws pos) (tM T F t X.K (.callK f mks g)) := by
  obtain ⟨gR, gV, hb, hv⟩ := D.ex
  refine ⟨fun pins s τ H Q I ⟨σ, h, hs, hr0, z⟩ => ?_⟩
  unfold wE at z
  refine wpAny_Call_Name_kw (L2.ld_glob I hg hm ?_ hdb)
  refine PySem.W.callWith_KW0 (h₀ := X.base) I.ok.mod.kin G.kp hall ?_ hpl
  have q : tA T F t X.K mks τ H fun zs H2 => zs.length = ks.length ∧ spF F t X.K f (gV [] zs) H2 Q (Ei t) := tA.bind mF hs hr0 (wEs_len mF mks _ _ _ _ z) fun us h2 zs H2 r2 v2 k2 ⟨l2, z2⟩ => by
    obtain ⟨qs, e1, e2⟩ := hv H2 [] zs [] us .nil v2 rfl (l2.trans lk)
    rw [List.nil_append] at e1
    rw [e1] at z2
    exact ⟨by rw [← v2.length, l2, lk], qs, h2, r2, e2, mF _ _ _ _ _ _ _ (fun w h' e => e.step k2) (by first | exact XC.ei pa.cw k1 | exact XC.ei pa.cw (k1.trans g2) | exact XC.ei pa.cw g2 | exact XC.ei pa.cw (k1.trans k2) | exact XC.ei pa.cw k2 | exact XC.ei pa.cw ((k1.trans k2).trans g2) | exact XC.ei pa.cw (k2.trans g2) | exact XC.of cw k1 | exact XW.id) z2⟩
  refine L2.thn (hkw.run pos pins s τ H _ I q) fun ws s2 ⟨zs, H2, I2, rz, l2, q2⟩ => ⟨I2.kIn, ?_⟩
  rw [hks]
  exact L2.run_fnN (us := []) (vs := []) G.ok hr hb pa.pass I2 .nil rz rfl l2 q2
theorem me_makeK0 {c : Nat} (pa : Pa X t) (M : Mk X.K (t.CA c) fa) (G : Fo X.prog X.w X.K X.mg X.base F t k f fa fd ps) (hr : Room (k + 1) X.A) (hm : X.mg x = some (.ref (t.CA c))) (D : Dk X.K fd ps 1 ks (.inl 0 :: g)) (hkw : PK X kws (tA T F t X.K mks)) (g' : List (Sum Nat W)) (hg' : ∀ x ws, (args (x :: ws) (.inl 0 :: g)) = (args ws g').map (x :: ·)) (lk : esLen mks = ks.length := by rfl)
    (hall : (backToKw pos (keywordEach kws X.env)).all (·.1.isSome) = true := by rfl) (hks : (backToKw pos (keywordEach kws X.env)).filterMap (·.1) = ks := by rfl) (hg : Gl X x := by rfl)
    (hdb : (x == ("__debug__" : Str)) = false := by decide)
    (hpl : ((backTo pos (starEach [] X.env)).any (·.1) || (backToKw pos (keywordEach kws X.env)).any (·.1.isNone)) = false := by rfl) :
    PE X (.Call (.Name x p) [] kws pos) (tM T F t X.K (.makeK c f mks g')) := by
  obtain ⟨gR, gV, hb, hv⟩ := D.ex
  refine PE.imp (L2.pe_makeK0 M G.ok hr hg hm hb pa.pass hkw hall hks hdb hpl) fun τ H Q ⟨σ, h, hs, hr, z⟩ => ?_
  unfold wE at z
  refine tA.bind mF hs hr (wEs_len mF mks _ _ _ _ z) fun us h2 zs H2 r2 v2 k2 ⟨l2, z2⟩ => ⟨rfl, by rw [← v2.length, l2, lk], fun x dx nx nd ne => ?_⟩
  obtain ⟨g1, g2⟩ := made_go (F := F) mF (c := c) r2 nx nd ne
  obtain ⟨qs, e1, e2⟩ := hv _ [.ref x] zs [.ref x] us (.cons (.ref x) .nil) (v2.mono (g2.tk r2)) rfl (l2.trans lk)
  rw [List.singleton_append, hg'] at e1
  cases e3 : args us g' with
  | none => rw [e3] at e1; cases e1
  | some ys =>
    rw [e3] at e1 z2
    have e4 : W.ref x :: ys = qs := Option.some.inj e1
    subst e4
    refine ⟨_, _, g1, e2, mF _ _ _ _ _ _ _ (fun w h' e v H' r' v' k' => ?_) (by first | exact XC.ei pa.cw k1 | exact XC.ei pa.cw (k1.trans g2) | exact XC.ei pa.cw g2 | exact XC.ei pa.cw (k1.trans k2) | exact XC.ei pa.cw k2 | exact XC.ei pa.cw ((k1.trans k2).trans g2) | exact XC.ei pa.cw (k2.trans g2) | exact XC.of cw k1 | exact XW.id) (z2 x (r2.free nx))⟩
    obtain ⟨e1, e2⟩ := e
    subst e1
    cases v'
    exact ⟨rfl, e2 _ _ r' (.ref x) ((k2.trans g2).trans k')⟩
theorem me_makeK {c : Nat} (pa : Pa X t) (M : Mk X.K (t.CA c) fa) (G : Fo X.prog X.w X.K X.mg X.base F t k f fa fd ps) (hr : Room (k + 1) X.A) (hm : X.mg x = some (.ref (t.CA c))) (D : Dk X.K fd ps (n + 1) ks (.inl 0 :: g)) (ha : PA X (e :: es) (tA T F t X.K mes)) (hkw : PK X kws (tA T F t X.K mks)) (g' : List (Sum Nat W)) (hg' : ∀ x ws, (args (x :: ws) (.inl 0 :: g)) = (args ws g').map (x :: ·)) (ln : esLen mes = n := by rfl) (lk : esLen mks = ks.length := by rfl)
    (hall : (backToKw pos (keywordEach kws X.env)).all (·.1.isSome) = true := by rfl) (hks : (backToKw pos (keywordEach kws X.env)).filterMap (·.1) = ks := by rfl) (hg : Gl X x := by rfl)
    (hdb : (x == ("__debug__" : Str)) = false := by decide) (he : starEach (e :: es) X.env = (false, eval e X.env) :: starEach es X.env := by rfl)
    (hpl : ((backTo pos (starEach (e :: es) X.env)).any (·.1) || (backToKw pos (keywordEach kws X.env)).any (·.1.isNone)) = false := by rfl) :
    PE X (.Call (.Name x p) (e :: es) kws pos) (tM T F t X.K (.makeK c f (esApp mes mks) g')) := by
  obtain ⟨gR, gV, hb, hv⟩ := D.ex
  refine PE.imp (L2.pe_makeK M G.ok hr hg hm hb pa.pass ha hkw hall hks hdb he hpl) fun τ H Q ⟨σ, h, hs, hr, z⟩ => ?_
  unfold wE at z
  rw [wEs_app] at z
  refine tA.bind mF hs hr (wEs_len mF mes _ _ _ _ z) fun ws h1 vs H1 r1 v1 k1 ⟨l1, z1⟩ => tA.bind mF (hs.mono (k1.tk hr)) r1 (wEs_len mF mks _ _ _ _ z1) fun us h2 zs H2 r2 v2 k2 ⟨l2, z2⟩ => ⟨by rw [← v1.length, l1, ln], by rw [← v2.length, l2, lk], fun x dx nx nd ne => ?_⟩
  obtain ⟨g1, g2⟩ := made_go (F := F) mF (c := c) r2 nx nd ne
  obtain ⟨qs, e1, e2⟩ := hv _ (.ref x :: vs) zs (.ref x :: ws) us (.cons (.ref x) (v1.mono ((k2.trans g2).tk r1))) (v2.mono (g2.tk r2)) (by rw [List.length_cons, l1, ln]) (l2.trans lk)
  rw [List.cons_append, hg'] at e1
  cases e3 : args (ws ++ us) g' with
  | none => rw [e3] at e1; cases e1
  | some ys =>
    rw [e3] at e1 z2
    have e4 : W.ref x :: ys = qs := Option.some.inj e1
    subst e4
    refine ⟨_, _, g1, e2, mF _ _ _ _ _ _ _ (fun w h' e v H' r' v' k' => ?_) (by first | exact XC.ei pa.cw k1 | exact XC.ei pa.cw (k1.trans g2) | exact XC.ei pa.cw g2 | exact XC.ei pa.cw (k1.trans k2) | exact XC.ei pa.cw k2 | exact XC.ei pa.cw ((k1.trans k2).trans g2) | exact XC.ei pa.cw (k2.trans g2) | exact XC.of cw k1 | exact XW.id) (z2 x (r2.free nx))⟩
    obtain ⟨e1, e2⟩ := e
    subst e1
    cases v'
    exact ⟨rfl, e2 _ _ r' (.ref x) (((k1.trans k2).trans g2).trans k')⟩
end
/-! ### a text's functions -/
structure Def where
  ar : Nat
  sl : Nat
  body : Ss
def startW (n : Nat) (ws : List W) : St := ws.map some ++ List.replicate (n - ws.length) none
def no2 : St → Hp → Prop := fun _ _ => False
def run (T : Tab) (B : Nat → Option Def) : Nat → Fn
  | 0 => fun _ _ _ _ _ => False
  | d + 1 => fun f ws h Q X => match B f with
    | some D => ws.length = D.ar ∧ wSs T (run T B d) D.body ⟨fun _ h' => Q .non h', Q, no2, no2⟩ X (startW D.sl ws) h
    | none => False
theorem run_mo {T : Tab} {B : Nat → Option Def} : ∀ d, Mo (run T B d)
  | 0 => fun f ws h Q Q' X X' _ _ z => z.elim
  | d + 1 => fun f ws h Q Q' X X' hq hx z => by
    unfold run at z ⊢
    split at z
    · exact ⟨z.1, wSs_mono (run_mo d) _ ⟨fun _ h' => Q .non h', Q, no2, no2⟩ _ _ _ _ _ ⟨fun _ _ y => hq _ _ y, fun _ _ y => hq _ _ y, fun _ _ y => y, fun _ _ y => y⟩ hx z.2⟩
    · exact z
theorem SR_start {K : PySem.W.Frag} {H : L2.Hp} {ws : List W} {vs : List L2.V} (N : List Str) (a : VA K H ws vs) : SR K H (startW N.length ws) (L2.start N vs) := by
  refine ⟨by simp [startW, L2.start, a.length], fun i w e => ?_⟩
  unfold startW at e
  unfold L2.start
  by_cases l : i < ws.length
  · rw [List.getElem?_append_left (by simpa using l), List.getElem?_map] at e
    rw [List.getElem?_append_left (by rw [List.length_map, ← a.length]; exact l), List.getElem?_map]
    cases q : ws[i]? with
    | none => rw [q] at e; cases e
    | some x =>
      rw [q] at e
      cases e
      obtain ⟨v, e1, r⟩ := a.get q
      exact ⟨v, by rw [e1]; rfl, r⟩
  · rw [List.getElem?_append_right (by simpa using l), List.getElem?_replicate] at e
    split at e <;> cases e
theorem fn_ok {P : Program} {w : World} {K : PySem.W.Frag} {mg : Str → Option Value} {base : Heap} {T : Tab} {t : Tx} {B : Nat → Option Def} {x qual : Str} {params : Arguments} {body : List Stmt} {scope : Scope} {dvs : List L2.V} {kws : List (Str × L2.V)} {f : Addr} {fd : FuncData} {N ps : List Str} {k d fid : Nat} {m : Ss}
    (Fd : FunD K x qual params body scope dvs kws f fd) (S : FnScope N ps scope) (hB : B fid = some ⟨ps.length, N.length, m⟩)
    (hbody : ∀ (cdv : Value) (A : Around) (outer : List Env) (s : Shared) (H : L2.Hp) (E : L2.XK), Room k (A.deeper (envOfC qual scope s.heap.objs.size f cdv)) →
      PSs (L2.cxOf (L2.CX P w) P w K mg base N qual scope f cdv A outer s H E) body (tSs T (run T B d) ⟨t.tn, fun cls d _ H => E cls d H⟩ K m)) :
    FnOk P w K mg base (L2.CX P w) (k + 1) f fd ps (spF (run T B (d + 1)) t K fid) := by
  refine Fd.ok S (fun vs H Q E ⟨ws, h, hr, va, z⟩ => ?_) fun cdv A outer s H vs Q E hr ⟨ws, h, hh, va, z⟩ => ⟨_, hbody cdv A outer s H E hr, ?_⟩
  · unfold run at z
    rw [hB] at z
    rw [← va.length]
    exact z.1
  · unfold run at z
    rw [hB] at z
    refine ⟨_, h, SR_start N va, hh, wSs_mono (run_mo d) _ ⟨fun _ h' => PQ t K h H Q .non h', PQ t K h H Q, no2, no2⟩ _ _ _ _ _ ⟨fun σ' h' y τ' H' _ r' k' => y _ _ r' .non k', fun _ _ y => y, fun _ _ y => y.elim, fun _ _ y => y.elim⟩ (fun _ _ _ e dx gs H' r f q k => e dx gs H' r f q k []) z.2⟩
theorem fn_ok0 {P : Program} {w : World} {K : PySem.W.Frag} {mg : Str → Option Value} {base : Heap} {T : Tab} {t : Tx} {B : Nat → Option Def} {f : Addr} {fd : FuncData} {ps : List Str} {k fid : Nat} :
    FnOk P w K mg base (L2.CX P w) k f fd ps (spF (run T B 0) t K fid) :=
  ⟨fun vs H Q E ⟨_, _, _, _, z⟩ => z.elim, fun A outer s H args us vs Q E _ _ _ _ ⟨_, _, _, _, z⟩ => z.elim⟩
end Mi
set_option maxHeartbeats 4000000
/-! a text as data: its functions, classes, names; what the head must tell of it; its functions do what their readings say -/
namespace Mi
open PySem PySem.Spec PyProof.Rows
open L2 (PE PT PW PA PS PSs PK OpR UnR CallR Inv Vals VK Cx EP Room FnOk CX0 E0 pass0 Gl Cls NoAttr Meth Binds Sub Mk KBn FunD FnScope)
open He (ga ma fAd eqO Fa)
structure Fd where
  df : He.DefD
  N : List Str
  ps : List Str
  mb : Ss
  st : Bool := false
structure Txd where
  fs : List Fd
  cn : List Str
  nm : List Str
  xn : List Str := []
  xfl : List (Nat × Nat) := []
  file : Str := Str.empty
  meths : List (Nat × Nat × Nat) := []
  flds : List (Nat × Nat) := []
  bops : List (Nat × Bop × Nat) := []
  rbops : List (Nat × Bop × Nat) := []
  negs : List (Nat × Nat) := []
  abss : List (Nat × Nat) := []
  cops : List (Nat × Cop × Nat) := []
  subs : List (Nat × Nat) := []
  mks : List (Nat × Nat) := []
  gl : List Str := []
  fr : List Str := []
  sts : List (Nat × Nat × Nat) := []
def look2 {β : Type} [DecidableEq β] (l : List (Nat × β × Nat)) (c : Nat) (m : β) : Option Nat := (l.find? fun e => decide (e.1 = c) && decide (e.2.1 = m)).map (·.2.2)
def look1 (l : List (Nat × Nat)) (c : Nat) : Option Nat := (l.find? fun e => decide (e.1 = c)).map (·.2)
theorem look2_mem {β : Type} [DecidableEq β] {l : List (Nat × β × Nat)} {c : Nat} {m : β} {f : Nat} (h : look2 l c m = some f) : (c, m, f) ∈ l := by
  unfold look2 at h
  cases q : l.find? (fun e => decide (e.1 = c) && decide (e.2.1 = m)) with
  | none => rw [q] at h; cases h
  | some e =>
    rw [q] at h
    have e1 := List.mem_of_find?_eq_some q
    have e2 := List.find?_some q
    simp only [Bool.and_eq_true, decide_eq_true_eq] at e2
    obtain ⟨a, b, f'⟩ := e
    obtain ⟨rfl, rfl⟩ := e2
    cases h
    exact e1
theorem look1_mem {l : List (Nat × Nat)} {c f : Nat} (h : look1 l c = some f) : (c, f) ∈ l := by
  unfold look1 at h
  cases q : l.find? (fun e => decide (e.1 = c)) with
  | none => rw [q] at h; cases h
  | some e =>
    rw [q] at h
    have e1 := List.mem_of_find?_eq_some q
    have e2 := List.find?_some q
    simp only [decide_eq_true_eq] at e2
    obtain ⟨a, f'⟩ := e
    obtain rfl := e2
    cases h
    exact e1
def tab (D : Txd) : Tab where
  meth := look2 D.meths
  sub := fun a b => D.subs.contains (a, b)
  fldOk := fun c f => D.flds.contains (c, f)
  clsOk := fun c => decide (c < D.cn.length)
  bop := look2 D.bops
  rbop := look2 D.rbops
  neg := look1 D.negs
  abs := look1 D.abss
  cop := look2 D.cops
  exOk := fun c => decide (D.cn.length ≤ c) && decide (c < D.cn.length + D.xn.length)
def cna (D : Txd) (c : Nat) : Str := (D.cn ++ D.xn).getD c Str.empty
def nma (D : Txd) (f : Nat) : Str := D.nm.getD f Str.empty
theorem nm_inj {l : List Str} (nd : l.Nodup) (f g : Nat) (hf : f < l.length) (hg : g < l.length) (e : l.getD f Str.empty = l.getD g Str.empty) : f = g := by
  have e1 : l.getD f Str.empty = l[f] := by simp [List.getD, hf]
  have e2 : l.getD g Str.empty = l[g] := by simp [List.getD, hg]
  rw [e1, e2] at e
  have p := List.pairwise_iff_getElem.mp nd
  rcases Nat.lt_trichotomy f g with h | h | h
  · exact absurd e (p f g hf hg h)
  · exact h
  · exact absurd e.symm (p g f hg hf h)
abbrev tx (D : Txd) (nd : D.nm.Nodup) (K : PySem.W.Frag) (W : L2.WX) : Tx := ⟨⟨fun c => ga K (cna D c), nma D, D.nm.length, nm_inj nd⟩, W⟩
def Bo (D : Txd) (i : Nat) : Option Def := (D.fs[i]?).map fun f => ⟨f.ps.length, f.N.length, f.mb⟩
/-- where a function lies; a staticmethod's def lies behind its record -/
def fa (K : PySem.W.Frag) (f : Fd) : Addr := match f.st with
  | false => fAd K f.df.at_
  | true => (match PySem.W.recIn K (fAd K f.df.at_) "staticmethod" with
    | some (.ref g :: _) => g
    | _ => 0)
def aD (D : Txd) (K : PySem.W.Frag) (i : Nat) : Addr := match D.fs[i]? with
  | some f => fa K f
  | none => 0
def dataF (o : Obj) : Option FuncData := match o.data with
  | .func fd => some fd
  | _ => none
/-- a function as it lies, of this kind -/
def wrF (K : PySem.W.Frag) (f : Fd) : He.FnW := ((K.lookup (fa K f)).bind dataF).map fun fd => (fd.name, fd.qualname, fd.params, fd.body, fd.scope, fd.globals, fd.closure, fd.builtins)
def okF (K : PySem.W.Frag) (f : Fd) : Bool := PySem.W.keepIn K (.ref (fa K f)) && match (K.lookup (fa K f)).bind dataF with
  | some fd => PySem.W.codeIn K fd.code f.df.qual && (He.dflB K fd.defaults (f.df.dvs K) && He.kwdB K fd.kwdefaults (f.df.kws K))
  | none => false
theorem funF {K : PySem.W.Frag} {f : Fd} (e : wrF K f = f.df.val) (c : okF K f = true) : ∃ fd, FunD K f.df.name f.df.qual f.df.params f.df.body f.df.scope (f.df.dvs K) (f.df.kws K) (fa K f) fd := by
  obtain ⟨kp, c2⟩ := He.ba c
  cases q : K.lookup (fa K f) with
  | none => rw [q] at c2; cases c2
  | some o =>
    unfold wrF at e
    rw [q] at c2 e
    obtain ⟨oc, od, dt, osl⟩ := o
    cases dt with
    | func g =>
      obtain ⟨g1, g2, g3, g4, g5, g6, g7, g8, g9, g10, g11, g12, g13, g14, g15⟩ := g
      have e2 : (some (g1, g2, g3, g4, g5, g6, g7, g15) : He.FnW) = some (f.df.name, f.df.qual, f.df.params, .stmts f.df.body, f.df.scope, mainGlobals, [], builtinsNs) := e
      simp only [Option.some.injEq, Prod.mk.injEq] at e2
      obtain ⟨a1, a2, a3, a4, a5, a6, a7, a8⟩ := e2
      subst a1 a2 a3 a4 a5 a6 a7 a8
      obtain ⟨b1, b2⟩ := He.ba (show (PySem.W.codeIn K g13 f.df.qual && (He.dflB K g8 (f.df.dvs K) && He.kwdB K g9 (f.df.kws K))) = true from c2)
      obtain ⟨b3, b4⟩ := He.ba b2
      exact ⟨_, ⟨oc, od, g8, g9, g10, g11, g12, g13, g14, osl, rfl, q, b1, He.dflB_ok b3, He.kwdB_ok b4⟩, kp⟩
    | _ => cases c2
/-- C.m is a staticmethod: its def is the function f -/
def statB (D : Txd) (K : PySem.W.Frag) (c m f : Nat) : Bool := PySem.W.readsIn K (ga K (cna D c)) (.type "type") && (eqO (PySem.W.specialIn K (.ref (ga K (cna D c))) "__getattribute__") (some (some (.builtin "type.__getattribute__"))) &&
  ((match PySem.W.findCls K (.ref (ga K (cna D c))) (.type "type") (nma D m) with
    | some (.get (.builtin g) (.ref p) .none (.ref C)) => decide (g = "staticmethod.__get__") && (decide (p = ma K (ga K (cna D c)) (nma D m)) && decide (C = ga K (cna D c)))
    | _ => false) && ((match PySem.W.recIn K (ma K (ga K (cna D c)) (nma D m)) "staticmethod" with
    | some (.ref g :: _) => decide (g = aD D K f)
    | _ => false) && decide (f < D.fs.length))))
theorem statB_ok {D : Txd} {K : PySem.W.Frag} {c m f : Nat} (h : statB D K c m f = true) : Stat K (ga K (cna D c)) (nma D m) (ma K (ga K (cna D c)) (nma D m)) (aD D K f) ∧ f < D.fs.length := by
  obtain ⟨h1, h⟩ := He.ba h
  obtain ⟨h2, h⟩ := He.ba h
  obtain ⟨h3, h⟩ := He.ba h
  obtain ⟨h4, h5⟩ := He.ba h
  refine ⟨⟨h1, He.eqO_ok h2, ?_, ?_⟩, of_decide_eq_true h5⟩
  · split at h3
    · rename_i e
      obtain ⟨k1, k⟩ := He.ba h3
      obtain ⟨k2, k3⟩ := He.ba k
      rw [e, of_decide_eq_true k1, of_decide_eq_true k2, of_decide_eq_true k3]
    · cases h3
  · split at h4
    · rename_i e
      exact ⟨_, by rw [e, of_decide_eq_true h4]⟩
    · cases h4
/-! ### what the head must tell -/
def isRef : Option (Option Value) → Bool
  | some (some (.ref _)) => true
  | _ => false
/-- isinstance of the own class c -/
def isiOwn (D : Txd) (K : PySem.W.Frag) (c : Nat) : Bool := (btys.all fun n => decide (PySem.W.kitOne K (.type n) (.ref (ga K (cna D c))) = some false)) &&
  (List.range D.cn.length).all fun c' => decide (PySem.W.kitOne K (.ref (ga K (cna D c'))) (.ref (ga K (cna D c))) = some (D.subs.contains (c', c)))
/-- isinstance of a built-in type -/
def isiTy (D : Txd) (K : PySem.W.Frag) (n : String) (yes : List String) : Bool := (btys.all fun m => decide (PySem.W.kitOne K (.type m) (.type n) = some (yes.contains m))) &&
  (List.range D.cn.length).all fun c' => decide (PySem.W.kitOne K (.ref (ga K (cna D c'))) (.type n) = some false)
def opB (D : Txd) (K : PySem.W.Frag) (c : Nat) (name : Str) (f : Nat) : Bool := eqO (PySem.W.findIn K (.ref (ga K (cna D c))) name) (some (some (.ref (aD D K f)))) && (PySem.W.isFn K (.ref (aD D K f)) && decide (f < D.fs.length))
def exB (D : Txd) (K : PySem.W.Frag) : List Bool := [
  D.gl.all fun x => (Fa.glo x).ok K,
  D.fr.all fun x => (Fa.free x).ok K,
  D.flds.all fun e => decide (e.2 < D.nm.length) && ((Fa.cls (cna D e.1)).ok K && (Fa.noat (cna D e.1) (nma D e.2)).ok K),
  D.meths.all fun e => decide (e.2.1 < D.nm.length) && ((Fa.cls (cna D e.1)).ok K && ((Fa.meth (cna D e.1) (nma D e.2.1)).ok K && (decide (aD D K e.2.2 = ma K (ga K (cna D e.1)) (nma D e.2.1)) && decide (e.2.2 < D.fs.length)))),
  (List.range D.cn.length).all fun c => (Fa.cls (cna D c)).ok K && (eqO (PySem.W.findIn K (.ref (ga K (cna D c))) "__class__") (some (some (.builtin "object.__class__"))) && (eqO (PySem.W.specialIn K (.builtin "object.__class__") "__get__") (some (some (.builtin "getset_descriptor.__get__"))) &&
    (decide (PySem.W.takesIn K (.builtin "object.__class__") = some true) && decide (PySem.W.mroIn K (ga K (cna D c)) (.type "object") = some true)))),
  (List.range D.cn.length).all (isiOwn D K),
  isiTy D K "int" ["bool", "int"] && (isiTy D K "bool" ["bool"] && (isiTy D K "str" ["str"] && (isiTy D K "list" ["list"] && (isiTy D K "tuple" ["tuple"] && isiTy D K "dict" ["dict"])))),
  D.bops.all fun e => decide (e.2.1 ≠ .pow) && (PySem.W.selfFirst K (ga K (cna D e.1)) && (decide (PySem.W.subIn K (.type "int") (.ref (ga K (cna D e.1))) = some false) && (opB D K e.1 (dun e.2.1) e.2.2 && (isRef (PySem.W.findIn K (.ref (ga K (cna D e.1))) (dunR e.2.1)) &&
    ((PySem.W.findIn K (.type "int") (dun e.2.1)).isSome && (PySem.W.findIn K (.type "int") (dunR e.2.1)).isSome))))),
  D.rbops.all fun e => decide (e.2.1 ≠ .pow) && (PySem.W.selfFirst K (ga K (cna D e.1)) && (decide (PySem.W.subIn K (.ref (ga K (cna D e.1))) (.type "int") = some false) && (opB D K e.1 (dunR e.2.1) e.2.2 && isRef (PySem.W.findIn K (.ref (ga K (cna D e.1))) (dun e.2.1))))),
  D.negs.all fun e => opB D K e.1 "__neg__" e.2,
  D.abss.all fun e => opB D K e.1 "__abs__" e.2,
  D.mks.all fun e => (Fa.mkr (cna D e.1)).ok K && decide (aD D K e.2 = ma K (ga K (cna D e.1)) ("__init__" : Str)),
  K.all fun p => !decide (p.2.cls = .type "list"),
  D.cops.all fun e => if e.2.1 = .eq then opB D K e.1 "__eq__" e.2.2 && (eqO (PySem.W.findIn K (.ref (ga K (cna D e.1))) "__ne__") (some (some (.builtin "object.__ne__"))) && (decide (PySem.W.subIn K (.ref (ga K (cna D e.1))) (.type "object") = some true) &&
      btys.all fun n => decide (PySem.W.subIn K (.type n) (.ref (ga K (cna D e.1))) = some false) && decide (PySem.W.subIn K (.ref (ga K (cna D e.1))) (.type n) = some false)))
    else opB D K e.1 (cmpInfo (copOf e.2.1)).2.1 e.2.2 && (decide (PySem.W.subIn K (.type "int") (.ref (ga K (cna D e.1))) = some false) && decide (PySem.W.subIn K (.ref (ga K (cna D e.1))) (.type "int") = some false)),
  D.xfl.all fun e => decide (e.2 < D.nm.length) && (xc1B D.file K (ga K (cna D e.1)) (nma D e.2) && (L2.xfB K (ga K (cna D e.1)) && decide (PySem.W.findIn K (.ref (ga K (cna D e.1))) (nma D e.2) = some none))),
  (List.range D.xn.length).all fun i => (List.range D.xn.length).all fun j => decide (PySem.W.exmOne K (.ref (ga K (cna D (D.cn.length + i)))) (.ref (ga K (cna D (D.cn.length + j)))) = some (D.subs.contains (D.cn.length + i, D.cn.length + j))),
  D.sts.all fun e => statB D K e.1 e.2.1 e.2.2]
abbrev AlF : Type := Bool × List He.FnW
def obsF (D : Txd) (K : PySem.W.Frag) : AlF := (D.fs.all (okF K), D.fs.map (wrF K))
def valF (D : Txd) : AlF := (true, D.fs.map fun f => f.df.val)
structure Says (D : Txd) (K : PySem.W.Frag) : Prop where
  ex : exB D K = List.replicate 17 true
  d : obsF D K = valF D
abbrev AlM : Type := List Bool × AlF
/-- lists are left out -/
def keepA (g : Addr → Option Obj) (as : List Addr) : List Addr := as.filter fun a => match g a with
  | some o => !decide (o.cls = .type "list")
  | none => true
def obsM (n : Nat) (D : Txd) (g : Addr → Option Obj) : AlM := let K := He.frG g (keepA g (cStatics :: He.asD g n)); (exB D K, obsF D K)
def hookM (n : Nat) (D : Txd) : PySem.W.Hook where
  α := AlM
  obs := fun s => obsM n D s.heap.get?
  val := fun _ => (List.replicate 17 true, valF D)
  says := fun _ h => ∃ K : PySem.W.Frag, K.In h ∧ Says D K
  of := fun _ _ e => ⟨_, He.frG_in, congrArg (fun z : AlM => z.1) e, congrArg (fun z : AlM => z.2) e⟩
  keeps := fun _ _ _ ⟨K, hK, c⟩ k => ⟨K, PySem.W.Frag.In.keeps hK k, c⟩
theorem obsM_eq {n : Nat} {D : Txd} {g : Addr → Option Obj} {s : Shared} (h : ∀ a, g a = s.heap.get? a) : obsM n D g = (hookM n D).obs s := by
  have e : g = s.heap.get? := funext h
  rw [e] <;> rfl
/-! ### what follows -/
section
variable {D : Txd} {nd : D.nm.Nodup} {K : PySem.W.Frag} {Wx : L2.WX}
theorem Says.at_ (c : Says D K) (i : Nat) {b : Bool} (h : (exB D K)[i]? = some b) : b = true := by
  rw [c.ex] at h
  have e := List.mem_of_getElem? h
  exact List.eq_of_mem_replicate e
theorem Says.def_ (c : Says D K) {i : Nat} {f : Fd} (h : D.fs[i]? = some f) : ∃ fd, FunD K f.df.name f.df.qual f.df.params f.df.body f.df.scope (f.df.dvs K) (f.df.kws K) (fa K f) fd := by
  have c2 : D.fs.all (okF K) = true := congrArg (fun z : AlF => z.1) c.d
  have e : D.fs.map (wrF K) = D.fs.map fun f => f.df.val := congrArg (fun z : AlF => z.2) c.d
  have e2 : (D.fs.map (wrF K))[i]? = (D.fs.map fun f => f.df.val)[i]? := by rw [e]
  rw [List.getElem?_map, List.getElem?_map, h] at e2
  exact funF (Option.some.inj e2) (List.all_eq_true.mp c2 f (List.mem_of_getElem? h))
theorem Says.stat (c : Says D K) {a m f : Nat} (h : (a, m, f) ∈ D.sts) : Stat K (ga K (cna D a)) (nma D m) (ma K (ga K (cna D a)) (nma D m)) (aD D K f) ∧ f < D.fs.length := by
  have e := List.all_eq_true.mp (c.at_ 16 rfl) _ h
  exact statB_ok e
theorem Says.xc1 (c : Says D K) {a f : Nat} (h : (a, f) ∈ D.xfl) {P : Program} {mg : Str → Option Value} (hfi : ((P.main.file : Str) == D.file) = true) (hms : mg "super" = none) (htop : (P.main.scope.names.lookup ("super" : Str)).isSome = false) :
    f < D.nm.length ∧ Xc1 P K mg (ga K (cna D a)) (nma D f) := by
  have e := List.all_eq_true.mp (c.at_ 14 rfl) _ h
  simp only [Bool.and_eq_true, decide_eq_true_eq] at e
  exact ⟨e.1, xc1B_ok e.2.1 hfi hms htop⟩
theorem Says.xf (c : Says D K) {a f : Nat} (h : (a, f) ∈ D.xfl) : f < D.nm.length ∧ L2.XfC K (ga K (cna D a)) ∧ PySem.W.findIn K (.ref (ga K (cna D a))) (nma D f) = some none := by
  have e := List.all_eq_true.mp (c.at_ 14 rfl) _ h
  simp only [Bool.and_eq_true, decide_eq_true_eq] at e
  exact ⟨e.1, L2.xfB_ok e.2.2.1, e.2.2.2⟩
theorem Says.exm (c : Says D K) {a b : Nat} (ha : (tab D).exOk a = true) (hb : (tab D).exOk b = true) : PySem.W.exmOne K (.ref (ga K (cna D a))) (.ref (ga K (cna D b))) = some ((tab D).sub a b) := by
  simp only [tab, Bool.and_eq_true, decide_eq_true_eq] at ha hb
  have e := List.all_eq_true.mp (List.all_eq_true.mp (c.at_ 15 rfl) (a - D.cn.length) (List.mem_range.mpr (by omega))) (b - D.cn.length) (List.mem_range.mpr (by omega))
  have e1 : D.cn.length + (a - D.cn.length) = a := by omega
  have e2 : D.cn.length + (b - D.cn.length) = b := by omega
  rw [e1, e2] at e
  exact of_decide_eq_true e
theorem Says.glo (c : Says D K) {x : Str} (hx : x ∈ D.gl) : (Fa.glo x).ok K = true := List.all_eq_true.mp (c.at_ 0 rfl) x hx
theorem Says.free (c : Says D K) {x : Str} (hx : x ∈ D.fr) : (Fa.free x).ok K = true := List.all_eq_true.mp (c.at_ 1 rfl) x hx
theorem Says.kc (c : Says D K) : Kc (tab D) (tx D nd K Wx) K := ⟨fun a f h => by
  have h' : (a, f) ∈ D.flds := by simpa [tab] using h
  have e := List.all_eq_true.mp (c.at_ 2 rfl) _ h'
  simp only [Bool.and_eq_true, decide_eq_true_eq] at e
  exact ⟨e.1, He.cls_ok e.2.1, He.noat_ok e.2.2⟩⟩
theorem Says.ki (c : Says D K) : Ki (tab D) (tx D nd K Wx) K := ⟨fun a h => by
  have h' : a < D.cn.length := by simpa [tab] using h
  have e := List.all_eq_true.mp (c.at_ 4 rfl) a (List.mem_range.mpr h')
  simp only [Bool.and_eq_true, decide_eq_true_eq] at e
  exact ⟨He.cls_ok e.1, He.eqO_ok e.2.1, He.eqO_ok e.2.2.1, e.2.2.2.1, e.2.2.2.2⟩⟩
theorem Says.mak (c : Says D K) {a f : Nat} (h : (a, f) ∈ D.mks) : Mk K ((tx D nd K Wx).CA a) (aD D K f) := by
  have e := List.all_eq_true.mp (c.at_ 11 rfl) _ h
  simp only [Bool.and_eq_true, decide_eq_true_eq] at e
  rw [e.2]
  exact He.mkr_ok e.1
theorem isiTy_ok {n : String} {yes : List String} {cl : Cl} (h : isiTy D K n yes = true) (hb : ∀ x, (∀ a, x ≠ W.ref a) → ∀ h ty, tyVal (tx D nd K Wx) h x = some ty → ∃ m, ty = .type m ∧ m ∈ btys ∧ isOf (tab D) h x cl = yes.contains m)
    (hl : ∀ h a xs, h a = some (.lst xs) → isOf (tab D) h (.ref a) cl = yes.contains "list") (hdc : ∀ h a xs, h a = some (.dct xs) → isOf (tab D) h (.ref a) cl = yes.contains "dict") (hi : ∀ h a c fs, h a = some (.ins c fs) → isOf (tab D) h (.ref a) cl = false) : IsK (tab D) (tx D nd K Wx) K cl (.type n) := by
  obtain ⟨h1, h2⟩ := He.ba h
  intro hh x ty kn et
  by_cases hx : ∃ a, x = .ref a
  · obtain ⟨a, rfl⟩ := hx
    unfold tyVal at et
    dsimp only at et
    split at et
    · rename_i xs e
      cases et
      rw [hl _ _ _ e]
      exact of_decide_eq_true (List.all_eq_true.mp h1 "list" (by decide))
    · rename_i xs e
      cases et
      rw [hdc _ _ _ e]
      exact of_decide_eq_true (List.all_eq_true.mp h1 "dict" (by decide))
    · rename_i c fs e
      cases et
      rw [hi _ _ _ _ e]
      have q : c < D.cn.length := by simpa [known, e, tab] using kn
      exact of_decide_eq_true (List.all_eq_true.mp h2 c (List.mem_range.mpr q))
    · cases et
  · obtain ⟨m, rfl, hm, e⟩ := hb x (fun a e => hx ⟨a, e⟩) hh ty et
    rw [e]
    exact of_decide_eq_true (List.all_eq_true.mp h1 m hm)
theorem Says.tys (c : Says D K) : isiTy D K "int" ["bool", "int"] = true ∧ isiTy D K "bool" ["bool"] = true ∧ isiTy D K "str" ["str"] = true ∧ isiTy D K "list" ["list"] = true ∧ isiTy D K "tuple" ["tuple"] = true ∧ isiTy D K "dict" ["dict"] = true := by
  have e := c.at_ 6 rfl
  simp only [Bool.and_eq_true] at e
  exact e
theorem Says.isInt (c : Says D K) : IsK (tab D) (tx D nd K Wx) K .int (.type "int") := isiTy_ok c.tys.1 (fun x hx h ty e => by
  cases x <;> (first | (cases e; exact ⟨_, rfl, by decide, rfl⟩) | exact absurd rfl (hx _))) (fun h a xs e => by simp [isOf]) (fun h a xs e => by simp [isOf]) fun h a c fs e => by simp [isOf]
theorem Says.isBool (c : Says D K) : IsK (tab D) (tx D nd K Wx) K .bool (.type "bool") := isiTy_ok c.tys.2.1 (fun x hx h ty e => by
  cases x <;> (first | (cases e; exact ⟨_, rfl, by decide, rfl⟩) | exact absurd rfl (hx _))) (fun h a xs e => by simp [isOf]) (fun h a xs e => by simp [isOf]) fun h a c fs e => by simp [isOf]
theorem Says.isStr (c : Says D K) : IsK (tab D) (tx D nd K Wx) K .str (.type "str") := isiTy_ok c.tys.2.2.1 (fun x hx h ty e => by
  cases x <;> (first | (cases e; exact ⟨_, rfl, by decide, rfl⟩) | exact absurd rfl (hx _))) (fun h a xs e => by simp [isOf]) (fun h a xs e => by simp [isOf]) fun h a c fs e => by simp [isOf]
theorem Says.isList (c : Says D K) : IsK (tab D) (tx D nd K Wx) K .list (.type "list") := isiTy_ok c.tys.2.2.2.1 (fun x hx h ty e => by
  cases x <;> (first | (cases e; exact ⟨_, rfl, by decide, rfl⟩) | exact absurd rfl (hx _))) (fun h a xs e => by simp [isOf, e]) (fun h a xs e => by simp [isOf, e]) fun h a c fs e => by simp [isOf, e]
theorem Says.isTuple (c : Says D K) : IsK (tab D) (tx D nd K Wx) K .tuple (.type "tuple") := isiTy_ok c.tys.2.2.2.2.1 (fun x hx h ty e => by
  cases x <;> (first | (cases e; exact ⟨_, rfl, by decide, rfl⟩) | exact absurd rfl (hx _))) (fun h a xs e => by simp [isOf]) (fun h a xs e => by simp [isOf]) fun h a c fs e => by simp [isOf]
theorem Says.isDict (c : Says D K) : IsK (tab D) (tx D nd K Wx) K .dict (.type "dict") := isiTy_ok c.tys.2.2.2.2.2 (fun x hx h ty e => by
  cases x <;> (first | (cases e; exact ⟨_, rfl, by decide, rfl⟩) | exact absurd rfl (hx _))) (fun h a xs e => by simp [isOf, e]) (fun h a xs e => by simp [isOf, e]) fun h a c fs e => by simp [isOf, e]
theorem Says.isOwn (c : Says D K) {a : Nat} (ha : a < D.cn.length) : IsK (tab D) (tx D nd K Wx) K (.own a) (.ref ((tx D nd K Wx).CA a)) := by
  obtain ⟨h1, h2⟩ := He.ba (List.all_eq_true.mp (c.at_ 5 rfl) a (List.mem_range.mpr ha))
  intro hh x ty kn et
  have flat : ∀ m, m ∈ btys → PySem.W.kitOne K (.type m) (.ref ((tx D nd K Wx).CA a)) = some false := fun m hm => of_decide_eq_true (List.all_eq_true.mp h1 m hm)
  cases x with
  | ref b =>
    unfold tyVal at et
    dsimp only at et
    split at et
    · rename_i xs e
      cases et
      simp only [isOf, isIns, e]
      exact flat "list" (by decide)
    · rename_i xs e
      cases et
      simp only [isOf, isIns, e]
      exact flat "dict" (by decide)
    · rename_i c' fs e
      cases et
      simp only [isOf, isIns, e]
      have q : c' < D.cn.length := by simpa [known, e, tab] using kn
      exact of_decide_eq_true (List.all_eq_true.mp h2 c' (List.mem_range.mpr q))
    · cases et
  | non => cases et; exact flat _ (by decide)
  | bl b => cases et; exact flat _ (by decide)
  | int b => cases et; exact flat _ (by decide)
  | str b => cases et; exact flat _ (by decide)
  | tup b => cases et; exact flat _ (by decide)
theorem Says.noL (c : Says D K) {a : Addr} {o : Obj} (h : K.lookup a = some o) : o.cls ≠ .type "list" := by
  have e := List.all_eq_true.mp (c.at_ 12 rfl) (a, o) (by
    have := List.lookup_eq_some_iff.mp h
    obtain ⟨l1, l2, e, _⟩ := this
    rw [e]
    simp)
  simpa using e
end
end Mi
set_option maxHeartbeats 4000000
/-! the world of a text; short forms for the generator -/
namespace Mi
open PySem PySem.Spec PyProof.Rows
open L2 (PE PT PW PA PS PSs PI PG PK OpR UnR CallR Inv Vals VK Cx EP Room FnOk CX0 E0 pass0 Gl Cls NoAttr Meth Binds Sub Mk KBn FunD FnScope)
open He (ga ma fAd eqO Fa)
abbrev FunOf (K : PySem.W.Frag) (f : Fd) (fd : FuncData) : Prop := FunD K f.df.name f.df.qual f.df.params f.df.body f.df.scope (f.df.dvs K) (f.df.kws K) (fa K f) fd
/-- the arguments bind, these defaults fill up -/
def DfOk (f : Fd) (dw : List W) : Prop := ∀ K fd, FunOf K f fd → Df K fd f.ps dw
def DkOk (f : Fd) (n : Nat) (ks : List Str) (g : List (Sum Nat W)) : Prop := ∀ K fd, FunOf K f fd → Dk K fd f.ps n ks g
def AllOk (D : Txd) : Prop := ∀ f ∈ D.fs, ∀ K fd, FunOf K f fd → Binds K fd f.ps []
/-- a text, well told -/
structure Txt where
  D : Txd
  nd : D.nm.Nodup
  all : AllOk D
abbrev Txt.T (Y : Txt) : Tab := tab Y.D
abbrev Txt.F (Y : Txt) (d : Nat) : Fn := run (tab Y.D) (Bo Y.D) d
abbrev Txt.t (Y : Txt) (K : PySem.W.Frag) (Wx : L2.WX) : Tx := tx Y.D Y.nd K Wx
abbrev no4 : L2.WX := fun _ _ _ _ => False
structure Zz (Y : Txt) (P : Program) (w : World) (K : PySem.W.Frag) (mg : Str → Option Value) (base : Heap) (d : Nat) : Prop where
  says : Says Y.D K
  mgG : ∀ x ∈ Y.D.gl, mg x = some (.ref (ga K x))
  mgF : ∀ x ∈ Y.D.fr, mg x = none
  xcl : ∀ a f, (a, f) ∈ Y.D.xfl → f < Y.D.nm.length ∧ Xc1 P K mg (ga K (cna Y.D a)) (nma Y.D f)
  fo : ∀ i f, Y.D.fs[i]? = some f → ∃ fd, FunOf K f fd ∧ FnOk P w K mg base (L2.CX P w) (2 * d + 2) (fa K f) fd f.ps (spF (Y.F d) (Y.t K no4) K i)
def BodyOk (Y : Txt) (f : Fd) : Prop := ∀ (P : Program) (w : World) (K : PySem.W.Frag) (mg : Str → Option Value) (base : Heap) (d : Nat), Zz Y P w K mg base d → ∀ (cdv : Value) (A : Around) (outer : List Env) (s : Shared) (H : L2.Hp) (E : L2.XK),
  Room (2 * d + 3) (A.deeper (envOfC f.df.qual f.df.scope s.heap.objs.size (fa K f) cdv)) → PSs (L2.cxOf (L2.CX P w) P w K mg base f.N f.df.qual f.df.scope (fa K f) cdv A outer s H E) f.df.body (tSs Y.T (Y.F d) (Y.t K fun cls d _ H => E cls d H) K f.mb)
section
variable {Y : Txt} {P : Program} {w : World} {K : PySem.W.Frag} {mg : Str → Option Value} {base : Heap} {d : Nat} {Wx : L2.WX}
theorem Zz.mF (Z : Zz Y P w K mg base d) : Mo (Y.F d) := run_mo d
theorem Zz.kc (Z : Zz Y P w K mg base d) : Kc Y.T (Y.t K Wx) K := Z.says.kc
theorem Zz.ki (Z : Zz Y P w K mg base d) : Ki Y.T (Y.t K Wx) K := Z.says.ki
theorem Zz.g (Z : Zz Y P w K mg base d) (i : Nat) {x : Str} (h : Y.D.gl[i]? = some x := by rfl) : mg x = some (.ref (ga K x)) := Z.mgG x (List.mem_of_getElem? h)
theorem Zz.b (Z : Zz Y P w K mg base d) (i : Nat) {x : Str} (h : Y.D.fr[i]? = some x := by rfl) : mg x = none := Z.mgF x (List.mem_of_getElem? h)
theorem aD_of {D : Txd} {i : Nat} {f : Fd} (h : D.fs[i]? = some f) : aD D K i = fa K f := by
  unfold aD
  rw [h]
theorem Zz.get (Z : Zz Y P w K mg base d) {i : Nat} (h : i < Y.D.fs.length) : ∃ f fd, Y.D.fs[i]? = some f ∧ FnOk P w K mg base (L2.CX P w) (2 * d + 2) (aD Y.D K i) fd f.ps (spF (Y.F d) (Y.t K no4) K i) ∧ Binds K fd f.ps [] := by
  have e : Y.D.fs[i]? = some Y.D.fs[i] := List.getElem?_eq_getElem h
  obtain ⟨fd, F1, F2⟩ := Z.fo i _ e
  exact ⟨_, fd, e, by rw [aD_of e]; exact F2, Y.all _ (List.mem_of_getElem? e) K fd F1⟩
theorem Zz.mo2 (Z : Zz Y P w K mg base d) : Mo2 P w K mg base Y.T (Y.F d) (Y.t K Wx) (2 * d + 2) := ⟨fun c m f h => by
  have h' := look2_mem (show look2 Y.D.meths c m = some f from h)
  have e := List.all_eq_true.mp (Z.says.at_ 3 rfl) _ h'
  simp only [Bool.and_eq_true, decide_eq_true_eq] at e
  obtain ⟨e1, e2, e3, e4, e5⟩ := e
  obtain ⟨f', fd, _, G, hb⟩ := Z.get e5
  rw [e4] at G
  exact ⟨e1, He.cls_ok e2, _, fd, f'.ps, He.meth_ok e3, G, hb⟩⟩
theorem Zz.op (Z : Zz Y P w K mg base d) {c f : Nat} {name : Str} (h : opB Y.D K c name f = true) : OpFn P w K mg base (Y.F d) (Y.t K Wx) (2 * d + 2) c name f := by
  unfold opB at h
  simp only [Bool.and_eq_true, decide_eq_true_eq] at h
  obtain ⟨e1, e2, e3⟩ := h
  obtain ⟨f', fd, _, G, hb⟩ := Z.get e3
  exact ⟨_, fd, f'.ps, He.eqO_ok e1, e2, G, hb⟩
theorem isRef_ok {o : Option (Option Value)} (h : isRef o = true) : ∃ a : Addr, o = some (some (.ref a)) := by
  unfold isRef at h
  split at h
  · exact ⟨_, rfl⟩
  · cases h
theorem Zz.ownB (Z : Zz Y P w K mg base d) : OwnB P w K mg base Y.T (Y.F d) (Y.t K Wx) (2 * d + 2) where
  bin := fun c o f h => by
    have e := List.all_eq_true.mp (Z.says.at_ 7 rfl) _ (look2_mem (show look2 Y.D.bops c o = some f from h))
    simp only [Bool.and_eq_true, decide_eq_true_eq] at e
    obtain ⟨e1, e2, e3, e4, e5, e6, e7⟩ := e
    obtain ⟨ga, e5⟩ := isRef_ok e5
    obtain ⟨fo, e6⟩ := Option.isSome_iff_exists.mp e6
    obtain ⟨ro, e7⟩ := Option.isSome_iff_exists.mp e7
    exact ⟨e1, e2, e3, Z.op e4, ⟨ga, e5⟩, fo, ro, e6, e7⟩
  rbin := fun c o f h => by
    have e := List.all_eq_true.mp (Z.says.at_ 8 rfl) _ (look2_mem (show look2 Y.D.rbops c o = some f from h))
    simp only [Bool.and_eq_true, decide_eq_true_eq] at e
    obtain ⟨e1, e2, e3, e4, e5⟩ := e
    exact ⟨e1, e2, e3, Z.op e4, isRef_ok e5⟩
  neg := fun c f h => Z.op (List.all_eq_true.mp (Z.says.at_ 9 rfl) _ (look1_mem (show look1 Y.D.negs c = some f from h)))
  abs := fun c f h => Z.op (List.all_eq_true.mp (Z.says.at_ 10 rfl) _ (look1_mem (show look1 Y.D.abss c = some f from h)))
  ceq := fun c f h => by
    have e := List.all_eq_true.mp (Z.says.at_ 13 rfl) _ (look2_mem (show look2 Y.D.cops c .eq = some f from h))
    simp only [if_pos, Bool.and_eq_true, decide_eq_true_eq, List.all_eq_true] at e
    obtain ⟨e1, e2, e3, e4⟩ := e
    exact ⟨Z.op e1, He.eqO_ok e2, e3, e4⟩
  cord := fun c o f ho h => by
    have e := List.all_eq_true.mp (Z.says.at_ 13 rfl) _ (look2_mem (show look2 Y.D.cops c o = some f from h))
    have ne : ¬ o = .eq := by rcases ho with rfl | rfl | rfl | rfl <;> decide
    simp only [if_neg ne, Bool.and_eq_true, decide_eq_true_eq] at e
    obtain ⟨e1, e2, e3⟩ := e
    exact ⟨Z.op e1, e2, e3⟩
theorem world (Y : Txt) (c : Says Y.D K) (hG : ∀ x ∈ Y.D.gl, mg x = some (.ref (ga K x))) (hF : ∀ x ∈ Y.D.fr, mg x = none) (hX : ∀ a f, (a, f) ∈ Y.D.xfl → f < Y.D.nm.length ∧ Xc1 P K mg (ga K (cna Y.D a)) (nma Y.D f)) (bod : ∀ f ∈ Y.D.fs, BodyOk Y f) (sc : ∀ f ∈ Y.D.fs, FnScope f.N f.ps f.df.scope) : ∀ d, Zz Y P w K mg base d := by
  have fds : ∀ i f, Y.D.fs[i]? = some f → ∃ fd, FunOf K f fd := fun i f h => c.def_ h
  intro d
  induction d with
  | zero => exact ⟨c, hG, hF, hX, fun i f h => let ⟨fd, q⟩ := fds i f h; ⟨fd, q, fn_ok0⟩⟩
  | succ d ih =>
    refine ⟨c, hG, hF, hX, fun i f h => ?_⟩
    obtain ⟨fd, q⟩ := fds i f h
    have m := List.mem_of_getElem? h
    refine ⟨fd, q, ?_⟩
    have := fn_ok (P := P) (w := w) (mg := mg) (base := base) (T := Y.T) (t := Y.t K no4) (B := Bo Y.D) (d := d) (fid := i) (k := 2 * d + 3) q (sc f m) (m := f.mb) (by unfold Bo; rw [h]; rfl) fun cdv A outer s H E hr => bod f m P w K mg base d ih cdv A outer s H E hr
    exact this
/-- the script as it comes -/
def hp0 (a : Addr) (xs : List W) : Hp := fun b => if b = a then some (.fro xs) else none
theorem start_ok (c : Says Y.D K) {H : L2.Hp} {a : Addr} {ns : List Int} (hO : L2.Only H) (hS : L2.SqL K H a (ns.map L2.V.int)) {i : Nat}
    (law : Y.F d i [.ref a] (hp0 a (ns.map W.int)) (fun v _ => v = .bl true) noX) : spF (Y.F d) (Y.t K no4) K i [.ref a] H (fun v _ => v = .bl true) fun _ _ _ => False := by
  have va : ∀ ns : List Int, VA K H (ns.map W.int) (ns.map L2.V.int) := fun ns => by
    induction ns with
    | nil => exact .nil
    | cons n ns ih => exact .cons (.int n) ih
  have hfro : ∃ o, H a = some (.frz o (.lst (ns.map L2.V.int))) := by
    rcases hS with (h | h) | ⟨o, its, n, hk, hc, _⟩
    · rcases hO a with e | ⟨o, xs, e⟩
      · rw [h] at e; cases e
      · rw [h] at e; cases e
    · exact h
    · exact absurd hc (c.noL hk)
  obtain ⟨o, hfro⟩ := hfro
  refine ⟨[.ref a], hp0 a (ns.map W.int), fun b u e => ?_, .cons (.ref a) .nil, run_mo d _ _ _ _ _ _ _ (fun w h' e v H' r' v' _ => ?_) (fun _ _ _ z => z.elim) law⟩
  · unfold hp0 at e
    split at e
    · rename_i q
      cases e
      subst q
      exact ⟨_, hfro, .fro (va ns)⟩
    · cases e
  · subst e
    cases v'
    rfl
end
/-! ### short forms -/
section
variable {Y : Txt} {X : Cx} {d : Nat} {Wx : L2.WX}
abbrev Zx (Y : Txt) (X : Cx) (d : Nat) : Prop := Zz Y X.prog X.w X.K X.mg X.base d
theorem Zz.own {X : Cx} (Z : Zz Y X.prog X.w X.K X.mg X.base d) (pa : Pa X (Y.t X.K Wx)) (hr : Room (2 * d + 3) X.A) : Own Y.T (Y.F d) (Y.t X.K Wx) X := Z.ownB.own Z.mF pa hr
variable {e : Expr} {es : List Expr} {kws : List Keyword} {p pos : Pos} {x : Str} {mes mks : Es} {f : Fd} {dw : List W} {ks : List Str} {g : List (Sum Nat W)}
theorem z_call (Z : Zx Y X d) (pa : Pa X (Y.t X.K Wx)) (hr : Room (2 * d + 3) X.A) (i j : Nat) (b : DfOk f dw) (ha : PA X (e :: es) (tA Y.T (Y.F d) (Y.t X.K Wx) X.K mes)) (hf : Y.D.fs[i]? = some f := by rfl) (hx : Y.D.gl[j]? = some x := by rfl) (hat : f.df.at_ = (x, none) := by rfl) (hst : f.st = false := by rfl)
    (hg : Gl X x := by rfl) (hdb : (x == ("__debug__" : Str)) = false := by decide) (he : starEach (e :: es) X.env = (false, eval e X.env) :: starEach es X.env := by rfl) (hpl : (backTo pos (starEach es X.env)).any (·.1) = false := by rfl) :
    PE X (.Call (.Name x p) (e :: es) [] pos) (tM Y.T (Y.F d) (Y.t X.K Wx) X.K (.call i mes dw)) := by
  obtain ⟨fd, F1, F2⟩ := Z.fo i f hf
  have ea : fa X.K f = ga X.K x := by unfold fa; rw [hst, hat]; rfl
  rw [ea] at F2
  exact me_call Z.mF pa ⟨F2, by rw [← ea]; exact F1.kp⟩ (hr.mono (Nat.le_succ _)) (Z.g j hx) (b _ _ F1) ha hg hdb he hpl
theorem z_call0 (Z : Zx Y X d) (pa : Pa X (Y.t X.K Wx)) (hr : Room (2 * d + 3) X.A) (i j : Nat) (b : DfOk f dw) (hf : Y.D.fs[i]? = some f := by rfl) (hx : Y.D.gl[j]? = some x := by rfl) (hat : f.df.at_ = (x, none) := by rfl) (hst : f.st = false := by rfl)
    (hg : Gl X x := by rfl) (hdb : (x == ("__debug__" : Str)) = false := by decide) :
    PE X (.Call (.Name x p) [] [] pos) (tM Y.T (Y.F d) (Y.t X.K Wx) X.K (.call i .nil dw)) := by
  obtain ⟨fd, F1, F2⟩ := Z.fo i f hf
  have ea : fa X.K f = ga X.K x := by unfold fa; rw [hst, hat]; rfl
  rw [ea] at F2
  exact me_call0 Z.mF pa ⟨F2, by rw [← ea]; exact F1.kp⟩ (hr.mono (Nat.le_succ _)) (Z.g j hx) (b _ _ F1) hg hdb
theorem z_callK0 (Z : Zx Y X d) (pa : Pa X (Y.t X.K Wx)) (hr : Room (2 * d + 3) X.A) (i j : Nat) (b : DkOk f 0 ks g) (hkw : PK X kws (tA Y.T (Y.F d) (Y.t X.K Wx) X.K mks)) (hf : Y.D.fs[i]? = some f := by rfl) (hx : Y.D.gl[j]? = some x := by rfl) (hat : f.df.at_ = (x, none) := by rfl) (hst : f.st = false := by rfl) (lk : esLen mks = ks.length := by rfl)
    (hall : (backToKw pos (keywordEach kws X.env)).all (·.1.isSome) = true := by rfl) (hks : (backToKw pos (keywordEach kws X.env)).filterMap (·.1) = ks := by rfl) (hg : Gl X x := by rfl)
    (hdb : (x == ("__debug__" : Str)) = false := by decide)
    (hpl : ((backTo pos (starEach [] X.env)).any (·.1) || (backToKw pos (keywordEach kws X.env)).any (·.1.isNone)) = false := by rfl) :
    PE X (.Call (.Name x p) [] kws pos) (tM Y.T (Y.F d) (Y.t X.K Wx) X.K (.callK i mks g)) := by
  obtain ⟨fd, F1, F2⟩ := Z.fo i f hf
  have ea : fa X.K f = ga X.K x := by unfold fa; rw [hst, hat]; rfl
  rw [ea] at F2
  exact me_callK0 Z.mF pa ⟨F2, by rw [← ea]; exact F1.kp⟩ (hr.mono (Nat.le_succ _)) (Z.g j hx) (b _ _ F1) hkw lk hall hks hg hdb hpl
theorem z_make (Z : Zx Y X d) (pa : Pa X (Y.t X.K Wx)) (hr : Room (2 * d + 3) X.A) (c i j k : Nat) (b : DfOk f dw) (ha : PA X (e :: es) (tA Y.T (Y.F d) (Y.t X.K Wx) X.K mes)) (hf : Y.D.fs[i]? = some f := by rfl) (hm : Y.D.mks[k]? = some (c, i) := by rfl) (hx : Y.D.gl[j]? = some x := by rfl) (hc : cna Y.D c = x := by rfl)
    (hg : Gl X x := by rfl) (hdb : (x == ("__debug__" : Str)) = false := by decide) (he : starEach (e :: es) X.env = (false, eval e X.env) :: starEach es X.env := by rfl) (hpl : (backTo pos (starEach es X.env)).any (·.1) = false := by rfl) :
    PE X (.Call (.Name x p) (e :: es) [] pos) (tM Y.T (Y.F d) (Y.t X.K Wx) X.K (.make c i mes dw)) := by
  obtain ⟨fd, F1, F2⟩ := Z.fo i f hf
  have M := Z.says.mak (nd := Y.nd) (Wx := Wx) (List.mem_of_getElem? hm)
  rw [aD_of hf] at M
  exact me_make Z.mF pa M ⟨F2, F1.kp⟩ hr (by have := Z.g j hx; rw [← hc] at this ⊢; exact this) (b _ _ F1) ha hg hdb he hpl
theorem z_make0 (Z : Zx Y X d) (pa : Pa X (Y.t X.K Wx)) (hr : Room (2 * d + 3) X.A) (c i j k : Nat) (b : DfOk f dw) (hf : Y.D.fs[i]? = some f := by rfl) (hm : Y.D.mks[k]? = some (c, i) := by rfl) (hx : Y.D.gl[j]? = some x := by rfl) (hc : cna Y.D c = x := by rfl)
    (hg : Gl X x := by rfl) (hdb : (x == ("__debug__" : Str)) = false := by decide) :
    PE X (.Call (.Name x p) [] [] pos) (tM Y.T (Y.F d) (Y.t X.K Wx) X.K (.make c i .nil dw)) := by
  obtain ⟨fd, F1, F2⟩ := Z.fo i f hf
  have M := Z.says.mak (nd := Y.nd) (Wx := Wx) (List.mem_of_getElem? hm)
  rw [aD_of hf] at M
  exact me_make0 Z.mF pa M ⟨F2, F1.kp⟩ hr (by have := Z.g j hx; rw [← hc] at this ⊢; exact this) (b _ _ F1) hg hdb
theorem z_makeK0 (Z : Zx Y X d) (pa : Pa X (Y.t X.K Wx)) (hr : Room (2 * d + 3) X.A) (c i j k : Nat) (b : DkOk f 1 ks (.inl 0 :: g)) (hkw : PK X kws (tA Y.T (Y.F d) (Y.t X.K Wx) X.K mks)) (g' : List (Sum Nat W)) (hg' : ∀ x ws, (args (x :: ws) (.inl 0 :: g)) = (args ws g').map (x :: ·)) (hf : Y.D.fs[i]? = some f := by rfl) (hm : Y.D.mks[k]? = some (c, i) := by rfl) (hx : Y.D.gl[j]? = some x := by rfl) (hc : cna Y.D c = x := by rfl)
    (lk : esLen mks = ks.length := by rfl) (hall : (backToKw pos (keywordEach kws X.env)).all (·.1.isSome) = true := by rfl) (hks : (backToKw pos (keywordEach kws X.env)).filterMap (·.1) = ks := by rfl) (hg : Gl X x := by rfl)
    (hdb : (x == ("__debug__" : Str)) = false := by decide)
    (hpl : ((backTo pos (starEach [] X.env)).any (·.1) || (backToKw pos (keywordEach kws X.env)).any (·.1.isNone)) = false := by rfl) :
    PE X (.Call (.Name x p) [] kws pos) (tM Y.T (Y.F d) (Y.t X.K Wx) X.K (.makeK c i mks g')) := by
  obtain ⟨fd, F1, F2⟩ := Z.fo i f hf
  have M := Z.says.mak (nd := Y.nd) (Wx := Wx) (List.mem_of_getElem? hm)
  rw [aD_of hf] at M
  exact me_makeK0 Z.mF pa M ⟨F2, F1.kp⟩ hr (by have := Z.g j hx; rw [← hc] at this ⊢; exact this) (b _ _ F1) hkw g' hg' lk hall hks hg hdb hpl
theorem z_stat {m : Str} {apos : Pos} {pl : Sem Bool} (Z : Zx Y X d) (pa : Pa X (Y.t X.K Wx)) (hr : Room (2 * d + 3) X.A) (c i j k s : Nat) (b : DfOk f dw) (ha : PA X (e :: es) (tA Y.T (Y.F d) (Y.t X.K Wx) X.K mes)) (hf : Y.D.fs[i]? = some f := by rfl) (hs : Y.D.sts[s]? = some (c, k, i) := by rfl) (hx : Y.D.gl[j]? = some x := by rfl) (hc : cna Y.D c = x := by rfl) (hm : nma Y.D k = m := by rfl)
    (hg : Gl X x := by rfl) (hdb : (x == ("__debug__" : Str)) = false := by decide) (he : starEach (e :: es) X.env = (false, eval e X.env) :: starEach es X.env := by rfl) (hpl : (backTo pos (starEach es X.env)).any (·.1) = false := by rfl)
    (ht : eval (.Call (.Attribute (.Name x p) m apos) (e :: es) [] pos) X.env = (do
      let ov ← eval (.Name x p) X.env
      standAt apos.atName
      let (f, first) ← holding [ov] (getMethod ov m pl)
      callWith pos f first (backTo pos (starEach (e :: es) X.env)) (backToKw pos (keywordEach [] X.env))) := by rfl) :
    PE X (.Call (.Attribute (.Name x p) m apos) (e :: es) [] pos) (tM Y.T (Y.F d) (Y.t X.K Wx) X.K (.call i mes dw)) := by
  obtain ⟨fd, F1, F2⟩ := Z.fo i f hf
  have S := (Z.says.stat (List.mem_of_getElem? hs)).1
  rw [aD_of hf, hc, hm] at S
  exact me_stat Z.mF pa S ⟨F2, F1.kp⟩ (hr.mono (Nat.le_succ _)) (Z.g j hx) (b _ _ F1) ha hg hdb he hpl ht
/-- an own class by name -/
theorem z_cls {c : Nat} (Z : Zx Y X d) (j : Nat) (hx : Y.D.gl[j]? = some x := by rfl) (hc : cna Y.D c = x := by rfl) (hg : Gl X x := by rfl) (hdb : (x == ("__debug__" : Str)) = false := by decide) :
    PE X (.Name x pos) (L2.tC (.ref ((Y.t X.K Wx).CA c))) := L2.pe_glob hg (Z.g j hx) (by show Value.ref (ga X.K x) = Value.ref (ga X.K (cna Y.D c)); rw [hc]) hdb
theorem z_ty {n : String} (Z : Zx Y X d) (j : Nat) (hv : bootBuiltins x = some (.type n) := by rfl) (hx : Y.D.fr[j]? = some x := by rfl) (hg : Gl X x := by rfl) (hn : x ≠ "__name__" := by decide) (hdb : (x == ("__debug__" : Str)) = false := by decide) :
    PE X (.Name x pos) (L2.tC (.ty n)) := L2.pe_bltn hg (Z.b j hx) hv rfl hn hdb
end
end Mi
set_option maxHeartbeats 4000000
/-! how arguments bind, for the generator -/
namespace Mi
open PySem PySem.Spec PyProof.Rows
open L2 (Vals FunD Binds KBn)
theorem bt_int : bootBuiltins "int" = some (.type "int") := by decide +kernel
theorem bt_bool : bootBuiltins "bool" = some (.type "bool") := by decide +kernel
theorem bt_str : bootBuiltins "str" = some (.type "str") := by decide +kernel
theorem bt_list : bootBuiltins "list" = some (.type "list") := by decide +kernel
theorem bt_tuple : bootBuiltins "tuple" = some (.type "tuple") := by decide +kernel
theorem bt_dict : bootBuiltins "dict" = some (.type "dict") := by decide +kernel
theorem all_nil {α : Type} {P : α → Prop} : ∀ x ∈ ([] : List α), P x := fun _ h => by cases h
theorem all_cons {α : Type} {P : α → Prop} {a : α} {l : List α} (h : P a) (r : ∀ x ∈ l, P x) : ∀ x ∈ a :: l, P x := fun x hx => by
  cases hx with
  | head => exact h
  | tail _ hx => exact r x hx
section
variable {K : PySem.W.Frag} {f : Fd} {fd : FuncData}
abbrev fnF (f : Fd) (dV kV doc pm : Value) (an : Option Addr) (cdv ct : Value) : FuncData := PySem.W.fnOf f.df.name f.df.qual f.df.params f.df.body f.df.scope dV kV doc pm an cdv ct
theorem binds_all (h0 : ∀ K, f.df.dvs K = []) (h : ∀ (kV doc pm : Value) (an : Option Addr) (cdv ct : Value) (us : List Value), us.length = f.ps.length → bindArgs (fnF f .none kV doc pm an cdv ct) ⟨us, []⟩ = pure (f.ps.zip us)) (F : FunOf K f fd) : Binds K fd f.ps [] := by
  obtain ⟨oc, od, dV, kV, doc, pm, an, cdv, ct, osl, rfl, lk, hcd, hD, hK⟩ := F.ex
  rcases hD with ⟨_, rfl⟩ | ⟨e, _⟩
  · exact .all (h kV doc pm an cdv ct)
  · exact absurd (h0 K) e
/-- a def with defaults, all of its parameters given -/
theorem binds_all2 (m : Nat) (h0 : ∀ K, (f.df.dvs K).length = m) (hm : m ≠ 0) (h : ∀ (T : Addr) (kV doc pm : Value) (an : Option Addr) (cdv ct : Value) (us its : List Value), us.length = f.ps.length → its.length = m →
      ∃ k, bindArgs (fnF f (.ref T) kV doc pm an cdv ct) ⟨us, []⟩ = seqItems? (.ref T) >>= k ∧ k (some its.toArray) = pure (f.ps.zip us)) (F : FunOf K f fd) : Binds K fd f.ps [] := by
  obtain ⟨oc, od, dV, kV, doc, pm, an, cdv, ct, osl, rfl, lk, hcd, hD, hK⟩ := F.ex
  rcases hD with ⟨e, _⟩ | ⟨_, T, o, its, k, rfl, lT, oT, rT⟩
  · exact absurd (by have := h0 K; rw [e] at this; exact this.symm) hm
  · intro s us X hl
    rw [List.append_nil] at hl ⊢
    obtain ⟨k, e1, e2⟩ := h T kV doc pm an cdv ct us its hl (rT.length.symm.trans (h0 K))
    refine L2.BindsTo.of_looks fun M => ?_
    rw [e1]
    exact L2.looks_items X lT oT (.of_pure e2)
theorem df_all {ps : List Str} (b : Binds K fd ps []) : Df K fd ps [] := ⟨[], [], b, .nil, fun _ => .nil⟩
theorem df_some {ps : List Str} {dvs : List L2.V} {dw : List W} (h : ∃ ds, Vals dvs ds ∧ Binds K fd ps ds) (r : ∀ H, VA K H dw dvs) : Df K fd ps dw := by
  obtain ⟨ds, v, b⟩ := h
  exact ⟨ds, dvs, b, v, r⟩
def pick {α : Type} (l : List α) (idx : List Nat) : List α := idx.filterMap fun i => l[i]?
theorem pick_vals {vs : List L2.V} {us : List Value} (h : Vals vs us) : ∀ idx : List Nat, Vals (pick vs idx) (pick us idx)
  | [] => .nil
  | i :: r => by
    unfold pick
    have ih := pick_vals h r
    cases q : vs[i]? with
    | none =>
      have q2 : us[i]? = none := by
        rw [List.getElem?_eq_none_iff] at q ⊢
        rw [← h.length]
        exact q
      rw [List.filterMap_cons_none q, List.filterMap_cons_none q2]
      exact ih
    | some v =>
      obtain ⟨u, q2, ru⟩ := h.get q
      rw [List.filterMap_cons_some q, List.filterMap_cons_some q2]
      exact .cons ru ih
theorem pick_va {H : L2.Hp} {ws : List W} {vs : List L2.V} (h : VA K H ws vs) : ∀ idx : List Nat, VA K H (pick ws idx) (pick vs idx)
  | [] => .nil
  | i :: r => by
    unfold pick
    have ih := pick_va h r
    cases q : ws[i]? with
    | none =>
      have q2 : vs[i]? = none := by
        rw [List.getElem?_eq_none_iff] at q ⊢
        rw [← h.length]
        exact q
      rw [List.filterMap_cons_none q, List.filterMap_cons_none q2]
      exact ih
    | some v =>
      obtain ⟨u, q2, ru⟩ := h.get q
      rw [List.filterMap_cons_some q, List.filterMap_cons_some q2]
      exact .cons ru ih
theorem mapO_cons {α β : Type} {f : α → Option β} {x : α} {xs : List α} {y : β} (h : f x = some y) : mapO f (x :: xs) = (mapO f xs).map (y :: ·) := by
  have e : mapO f (x :: xs) = (match f x, mapO f xs with
    | some y, some ys => some (y :: ys)
    | _, _ => none) := rfl
  rw [e, h]
  cases mapO f xs <;> rfl
/-- every parameter is given -/
theorem dk_plain {n : Nat} {ks : List Str} {g : List (Sum Nat W)} (idx : List Nat) (h0 : ∀ K, f.df.dvs K = [])
    (hb : ∀ (kV doc pm : Value) (an : Option Addr) (cdv ct : Value) (us ws : List Value), us.length = n → ws.length = ks.length → bindArgs (fnF f .none kV doc pm an cdv ct) ⟨us, ks.zip ws⟩ = pure (f.ps.zip (pick (us ++ ws) idx)))
    (ha : ∀ ws1 ws2 : List W, ws1.length = n → ws2.length = ks.length → args (ws1 ++ ws2) g = some (pick (ws1 ++ ws2) idx)) : DkOk f n ks g := fun K fd F => by
  obtain ⟨oc, od, dV, kV, doc, pm, an, cdv, ct, osl, rfl, lk, hcd, hD, hK⟩ := F.ex
  rcases hD with ⟨_, rfl⟩ | ⟨e, _⟩
  · exact ⟨fun us ws => pick (us ++ ws) idx, fun vs zs => pick (vs ++ zs) idx, ⟨fun s us ws X l1 l2 => .of_eq (hb kV doc pm an cdv ct us ws l1 l2), fun r1 r2 => pick_vals (r1.append r2) idx⟩,
      fun H vs zs ws1 ws2 a1 a2 l1 l2 => ⟨_, ha ws1 ws2 l1 l2, pick_va (a1.append a2) idx⟩⟩
  · exact absurd (h0 K) e
/-- defaults fill up -/
theorem dk_dfl {n : Nat} {ks : List Str} {g : List (Sum Nat W)} {dw : List W} (idx : List Nat) (hd : ∀ K, f.df.dvs K ≠ []) (hw : ∀ K H, VA K H dw (f.df.dvs K))
    (hb : ∀ (T : Addr) (kV doc pm : Value) (an : Option Addr) (cdv ct : Value) (us its ws : List Value), us.length = n → its.length = f.df.dfl.length → ws.length = ks.length →
      ∃ k, bindArgs (fnF f (.ref T) kV doc pm an cdv ct) ⟨us, ks.zip ws⟩ = seqItems? (.ref T) >>= k ∧ k (some its.toArray) = pure (f.ps.zip (pick (us ++ (its ++ ws)) idx)))
    (ha : ∀ ws1 ws2 : List W, ws1.length = n → ws2.length = ks.length → args (ws1 ++ ws2) g = some (pick (ws1 ++ (dw ++ ws2)) idx)) : DkOk f n ks g := fun K fd F => by
  obtain ⟨its, k⟩ := F.kbindsD n ks (fun us its ws => pick (us ++ (its ++ ws)) idx) (hd K) (fun r1 r2 r3 => pick_vals (r1.append (r2.append r3)) idx) fun T kV doc pm an cdv ct us its ws l1 l2 l3 => hb T kV doc pm an cdv ct us its ws l1 (by rw [l2]; unfold He.DefD.dvs; simp) l3
  exact ⟨_, _, k, fun H vs zs ws1 ws2 a1 a2 l1 l2 => ⟨_, ha ws1 ws2 l1 l2, pick_va (a1.append ((hw K H).append a2)) idx⟩⟩
end
theorem Zz.ow {Y : Txt} {P : Program} {w : World} {K : PySem.W.Frag} {mg : Str → Option Value} {base : Heap} {d : Nat} (Z : Zz Y P w K mg base d) {X : L2.Cx} {Wx : L2.WX} (pa : Pa X (Y.t X.K Wx)) (hr : L2.Room (2 * d + 3) X.A) (e1 : X.prog = P := by rfl) (e2 : X.w = w := by rfl) (e3 : X.K = K := by rfl) (e4 : X.mg = mg := by rfl) (e5 : X.base = base := by rfl) :
    Own Y.T (Y.F d) (Y.t K Wx) X := by
  subst e1 e2 e3 e4 e5
  exact Z.own pa hr
section
open L2 (PT PE Cx)
variable {T : Tab} {F : Fn} {t : Tx} {X : Cx} (mF : Mo F)
include mF
theorem me_fldX {a : Expr} {ma : E} {pos : Pos} {x : Str} (kc : Kc T t X.K) (f : Nat) (ha : PE X a (tM T F t X.K ma)) (hx : t.nm f = x := by rfl) (hb : attributeBase a x X.env (eval a X.env) = eval a X.env := by rfl) : PE X (.Attribute a x pos) (tM T F t X.K (.fld ma f)) := by
  subst hx
  exact me_fld mF kc f ha hb
theorem mg_fldX {o : Expr} {mo : E} {pos : Pos} {x : Str} (cw : CW t) (kc : Kc T t X.K) (f : Nat) (ho : PE X o (tM T F t X.K mo)) (hx : t.nm f = x := by rfl) : L2.PG X (.Attribute o x pos) (tG T F t X.K (.fld mo f)) := by
  subst hx
  exact mg_fld mF cw kc f ho
theorem ms_fldX {e o : Expr} {me mo : E} {pos pos' : Pos} {x : Str} (cw : CW t) (kc : Kc T t X.K) (f : Nat) (ho : PE X o (tM T F t X.K mo)) (he : PE X e (tM T F t X.K me)) (hx : t.nm f = x := by rfl) (hs : swapsWith e (some (.Attribute o x pos')) pos.line X.env = pure false := by rfl) :
    L2.PS X (.Assign [.Attribute o x pos'] e pos) (tS T F t X.K (.asg (.fld mo f) me)) := by
  subst hx
  exact ms_fld mF cw kc f ho he hs
theorem ms_augFX {a e : Expr} {ma me : E} {pos tpos : Pos} {x : Str} (cw : CW t) (kc : Kc T t X.K) (f : Nat) (o : Bop) (ha : PE X a (tM T F t X.K ma)) (he : PE X e (tM T F t X.K me)) (ho : o = .add ∨ o = .sub := by simp) (hx : t.nm f = x := by rfl) :
    L2.PS X (.AugAssign (.Attribute a x tpos) (bopOf o) e pos) (tS T F t X.K (.augF ma f o me)) := by
  subst hx
  exact ms_augF mF cw kc f o ha he ho
theorem me_methX {o e : Expr} {es : List Expr} {mo : E} {mes : Es} {pos apos : Pos} {k : Nat} {pl : Sem Bool} {x : Str} (pa : Pa X t) (m : Nat) (M : Mo2 X.prog X.w X.K X.mg X.base T F t k) (hr : L2.Room k X.A) (ho : PE X o (tM T F t X.K mo)) (ha : L2.PA X (e :: es) (tA T F t X.K mes)) (hx : t.nm m = x := by rfl)
    (hst : starEach (e :: es) X.env = (false, eval e X.env) :: starEach es X.env := by rfl) (hpl : (backTo pos (starEach es X.env)).any (·.1) = false := by rfl)
    (ht : eval (.Call (.Attribute o x apos) (e :: es) [] pos) X.env = (do
      let ov ← eval o X.env
      standAt apos.atName
      let (f, first) ← holding [ov] (getMethod ov x pl)
      callWith pos f first (backTo pos (starEach (e :: es) X.env)) (backToKw pos (keywordEach [] X.env))) := by rfl) :
    PE X (.Call (.Attribute o x apos) (e :: es) [] pos) (tM T F t X.K (.meth mo m mes)) := by
  subst hx
  exact me_meth mF pa m M hr ho ha hst hpl ht
theorem me_methX0 {o : Expr} {mo : E} {pos apos : Pos} {k : Nat} {pl : Sem Bool} {x : Str} (pa : Pa X t) (m : Nat) (M : Mo2 X.prog X.w X.K X.mg X.base T F t k) (hr : L2.Room k X.A) (ho : PE X o (tM T F t X.K mo)) (hx : t.nm m = x := by rfl)
    (ht : eval (.Call (.Attribute o x apos) [] [] pos) X.env = (do
      let ov ← eval o X.env
      standAt apos.atName
      let (f, first) ← holding [ov] (getMethod ov x pl)
      callWith pos f first (backTo pos (starEach [] X.env)) (backToKw pos (keywordEach [] X.env))) := by rfl) :
    PE X (.Call (.Attribute o x apos) [] [] pos) (tM T F t X.K (.meth mo m .nil)) := by
  subst hx
  exact me_meth0 mF pa m M hr ho ht
theorem mt_ite {a b c : Expr} {ma mb mc : E} {pos : Pos} (hc : PT X c (tT T F t X.K mc)) (ha : PT X a (tT T F t X.K ma)) (hb : PT X b (tT T F t X.K mb)) : PT X (.IfExp c a b pos) (tT T F t X.K (.ite mc ma mb)) := by
  refine ⟨fun pins s τ H Q I ⟨σ, h, hs, hr, z⟩ => ?_⟩
  unfold wE at z
  have q : tT T F t X.K mc τ H fun d H1 => if d = true then tT T F t X.K ma τ H1 Q else tT T F t X.K mb τ H1 Q := by
    refine ⟨σ, h, hs, hr, wE_mono mF mc _ _ _ _ _ _ (fun w h1 e => ?_) XW.id z⟩
    split at e
    · exact ⟨true, rfl, fun H1 r1 k1 => L2.iteT ⟨σ, h1, hs.mono (k1.tk hr), r1, wE_mono mF ma _ _ _ _ _ _ (fun w h2 ⟨b, e1, e2⟩ => ⟨b, e1, fun H2 r2 k2 => e2 H2 r2 (k1.trans k2)⟩) (XW.step k1) e⟩⟩
    · exact ⟨false, rfl, fun H1 r1 k1 => L2.iteF ⟨σ, h1, hs.mono (k1.tk hr), r1, wE_mono mF mb _ _ _ _ _ _ (fun w h2 ⟨b, e1, e2⟩ => ⟨b, e1, fun H2 r2 k2 => e2 H2 r2 (k1.trans k2)⟩) (XW.step k1) e⟩⟩
    · exact e.elim
  show wpAny _ _ (isTrue c X.env (eval c X.env) >>= fun r => if r = true then isTrue a X.env (eval a X.env) else isTrue b X.env (eval b X.env)) _ _ _
  refine wpAny_bind (L2.thn (hc.run pins s τ H _ I q) fun d s1 ⟨H1, I1, q1⟩ => ?_)
  cases d with
  | true => exact ha.run pins s1 τ H1 Q I1 q1
  | false => exact hb.run pins s1 τ H1 Q I1 q1
end
theorem CW.no {tn : Tn} : CW ⟨tn, fun _ _ _ _ => False⟩ := fun _ _ _ _ _ z => z
theorem Pa.none {X : L2.Cx} {tn : Tn} : Pa X ⟨tn, fun _ _ _ _ => False⟩ := ⟨fun _ _ _ _ _ z => z, fun u s' x => by
  obtain ⟨a, B, H', σ, cls, d, pins, z⟩ := x
  simp at z⟩
theorem pa_of {Y : Txt} {P : Program} {w : World} {K : PySem.W.Frag} {mg : Str → Option Value} {base : Heap} {N : List Str} {qual : Str} {scope : Scope} {f : Addr} {cd : Value} {A : Around} {outer : List Env} {s : Shared} {H : L2.Hp} {E : L2.XK} :
    Pa (L2.cxOf (L2.CX P w) P w K mg base N qual scope f cd A outer s H E) (Y.t K fun cls d _ H => E cls d H) := ⟨fun _ _ _ _ _ z => z, L2.takes_of rfl rfl rfl rfl⟩
end Mi
set_option maxHeartbeats 4000000
/-! the end: from a law's reading to the law -/
namespace Mi
open PySem PySem.Spec PyProof.Rows
open L2 (FnOk CX0 FunD FnScope)
/-- what may leave, in some world -/
def CXw (P : Program) : L2.CXT := fun outer H s E u s' => ∃ w, L2.CX P w outer H s E u s'
theorem fnok_w {P : Program} {w : World} {K : PySem.W.Frag} {mg : Str → Option Value} {base : Heap} {k : Nat} {f : Addr} {fd : FuncData} {ps : List Str} {sp : L2.Sp} (F : FnOk P w K mg base (L2.CX P w) k f fd ps sp) : FnOk P w K mg base (CXw P) k f fd ps sp :=
  ⟨F.len, fun A outer s H args us vs Q E hr he hb hv hs => codeAny_mono (F.run A outer s H args us vs Q E hr he hb hv hs) fun r s' hq => by
    cases r with
    | error e => exact ⟨w, hq⟩
    | ok fl => cases fl <;> exact hq⟩
theorem noCX {P : Program} (H : L2.Hp) (s : Shared) (e : Value) (s' : Shared) (h : CXw P [] H s (fun _ _ _ => False) e s') : False := by
  obtain ⟨w, a, B, H', cls, d, _, _, _, _, _, _, _, z⟩ := h
  exact z
theorem facts {Y : Txt} {P : Program} {w : World} {K : PySem.W.Frag} {h : Heap} {mg : Str → Option Value} {f : Addr} {d : Nat} {x : Str} {fl : Fd} (X : K.In h) (G : h.Ns mainGlobals mg) (hfa : mg ("law" : Str) = some (.ref f)) (c : Says Y.D K)
    (bod : ∀ f ∈ Y.D.fs, BodyOk Y f) (sc : ∀ f ∈ Y.D.fs, FnScope f.N f.ps f.df.scope) (hfs : Y.D.fs[0]? = some fl) (hat : fl.df.at_ = (("law" : Str), none)) (hst : fl.st = false) (hX : Y.D.xfl = [] ∨ (((P.main.file : Str) == Y.D.file) = true ∧ ("super" : Str) ∈ Y.D.fr ∧ (P.main.scope.names.lookup ("super" : Str)).isSome = false)) (hps : fl.ps = [x]) (hgl : ("law" : Str) ∈ Y.D.gl) (h0 : ∀ K, fl.df.dvs K = [])
    (hb : ∀ (kV doc pm : Value) (an : Option Addr) (cdv ct : Value) (us : List Value), us.length = 1 → bindArgs (fnF fl .none kV doc pm an cdv ct) ⟨us, []⟩ = pure ([x].zip us))
    (law : ∀ (a : Addr) (ns : List Int), ns.length ≤ 63 → Y.F d 0 [.ref a] (hp0 a (ns.map W.int)) (fun v _ => v = .bl true) noX) :
    ∃ (K : PySem.W.Frag) (fd : FuncData) (sp : L2.Sp), K.In h ∧ (∀ (s : Shared) (u : Value), BindsTo s fd ⟨[u], []⟩ [(x, u)]) ∧
        (∀ (H : L2.Hp) (a : Addr) (ns : List Int), ns.length ≤ 63 → L2.Only H → L2.SqL K H a (ns.map L2.V.int) → sp [.ref a] H (fun v _ => v = .bl true) fun _ _ _ => False) ∧
        ∀ base : Heap, K.In base → base.Ns mainGlobals mg → FnOk P w K mg base (CXw P) (2 * d + 2) f fd [x] sp := by
  have hG : ∀ x ∈ Y.D.gl, mg x = some (.ref (He.ga K x)) := fun x hx => He.glo_ok X G (c.glo hx)
  have hF : ∀ x ∈ Y.D.fr, mg x = none := fun x hx => He.free_ok X G (c.free hx)
  have hX : ∀ a f, (a, f) ∈ Y.D.xfl → f < Y.D.nm.length ∧ Xc1 P K mg (He.ga K (cna Y.D a)) (nma Y.D f) := fun a f m => by
    rcases hX with e | ⟨h1, h2, h3⟩
    · rw [e] at m; cases m
    · exact c.xc1 m h1 (hF _ h2) h3
  obtain ⟨fd, F0⟩ : ∃ fd, FunOf K fl fd := c.def_ hfs
  have F0' := F0
  obtain ⟨oc, od, dV, kV, doc, pm, an, cdv, ct, osl, rfl, lk, hcd, hD, hK⟩ := F0.ex
  rcases hD with ⟨_, rfl⟩ | ⟨e, _⟩
  · refine ⟨K, _, spF (Y.F d) (Y.t K no4) K 0, X, fun s u => .of_eq (hb kV doc pm an cdv ct [u] rfl), fun H a ns hl hO hS => start_ok c hO hS (law a ns hl), fun base _ _ => ?_⟩
    obtain ⟨fd', F1, F2⟩ := (world (P := P) (w := w) (base := base) Y c hG hF hX bod sc d).fo 0 fl hfs
    have e : f = fa K fl := by
      unfold fa
      rw [hst, hat]
      have := hfa.symm.trans (hG _ hgl)
      cases this
      rfl
    rw [e]
    rw [hps] at F2
    have e2 : fd' = fnF fl .none kV doc pm an cdv ct := by
      obtain ⟨oc', od', dV', kV', doc', pm', an', cdv', ct', osl', h1, h2, _⟩ := F1.ex
      rw [lk] at h2
      have h3 := congrArg Obj.data (Option.some.inj h2)
      injection h3 with h4
      exact h4.symm
    rw [← e2]
    exact fnok_w F2
  · exact absurd (h0 K) e
end Mi
set_option maxHeartbeats 4000000
/-! the laws' common functions: draws, sameness -/
namespace Mi
open PySem
def takeM : Ss := (.cons (.asg (.nm 2) (.cst (.int 0))) (.cons (.whl (.and (.cmp .lt (.var 2) (.cst (.int 64))) (.or (.cmp .eq (.idx (.var 0) (.cst (.int 2))) (.cst (.int 0))) (.and (.idx (.var 0) (.cst (.int 3))) (.cmp .lt (.idx (.var 0) (.cst (.int 2))) (.bin .mul (.var 1) (.cst (.int 4096))))))) (.cons (.exp (.call 2 (.cons (.var 0) .nil) [])) (.cons (.aug 2 .add (.cst (.int 1))) (.cons (.ifs (.and (.idx (.var 0) (.cst (.int 3))) (.cmp .lt (.idx (.var 0) (.cst (.int 2))) (.bin .mul (.var 1) (.cst (.int 4096))))) (.cons (.asg (.sub (.var 0) (.cst (.int 2))) (.bin .add (.idx (.var 0) (.cst (.int 2))) (.bin .mul (.bin .mul (.var 1) (.cst (.int 4096))) (.bin .add (.cst (.int 1)) (.bin .mod (.bif .int (.cons (.idx (.var 0) (.cst (.int 2))) .nil)) (.cst (.int 4093))))))) .nil) .nil) .nil)))) (.cons (.asg (.nm 3) (.bin .mod (.bif .int (.cons (.idx (.var 0) (.cst (.int 2))) .nil)) (.var 1))) (.cons (.asg (.sub (.var 0) (.cst (.int 2))) (.bin .fdiv (.idx (.var 0) (.cst (.int 2))) (.var 1))) (.cons (.ret (.var 3)) .nil)))))
def fillM : Ss := (.cons (.asg (.tp (.cons (.nm 1) (.cons (.nm 2) .nil))) (.tup (.cons (.idx (.var 0) (.cst (.int 0))) (.cons (.idx (.var 0) (.cst (.int 1))) .nil)))) (.cons (.asg (.nm 3) (.bin .add (.bin .mul (.cst (.int 31)) (.var 2)) (.cst (.int 7)))) (.cons (.ifs (.cmp .gt (.bif .len (.cons (.var 1) .nil)) (.cst (.int 0))) (.cons (.asg (.nm 3) (.bin .add (.bin .mul (.cst (.int 104729)) (.bin .fdiv (.var 2) (.bif .len (.cons (.var 1) .nil)))) (.idx (.var 1) (.bin .mod (.bif .int (.cons (.var 2) .nil)) (.bif .len (.cons (.var 1) .nil)))))) .nil) .nil) (.cons (.asg (.sub (.var 0) (.cst (.int 1))) (.bin .add (.var 2) (.cst (.int 1)))) (.cons (.asg (.sub (.var 0) (.cst (.int 3))) (.or (.cmp .ge (.var 2) (.bif .len (.cons (.var 1) .nil))) (.cmp .lt (.var 3) (.bin .pow (.cst (.int 10)) (.cst (.int 18)))))) (.cons (.asg (.sub (.var 0) (.cst (.int 2))) (.bin .sub (.var 3) (.bin .pow (.cst (.int 10)) (.cst (.int 18))))) (.cons (.ifs (.idx (.var 0) (.cst (.int 3))) (.cons (.asg (.sub (.var 0) (.cst (.int 2))) (.cst (.int 0))) (.cons (.fr (.tp (.cons (.nm 4) (.cons (.nm 5) .nil))) (.enm (.tup (.cons (.cst (.int 2147483647)) (.cons (.cst (.int 2147483629)) (.cons (.cst (.int 2147483587)) (.cons (.cst (.int 2147483579)) (.cons (.cst (.int 2147483563)) .nil))))))) (.cons (.asg (.nm 6) (.bin .mod (.bif .int (.cons (.bin .mul (.bin .add (.bin .add (.var 3) (.bin .mul (.bin .mul (.cst (.int 10007)) (.var 4)) (.var 4))) (.bin .mul (.cst (.int 101)) (.var 4))) (.bin .add (.cst (.int 48271)) (.bin .mul (.cst (.int 2)) (.var 4)))) .nil)) (.var 5))) (.cons (.asg (.sub (.var 0) (.cst (.int 2))) (.bin .add (.bin .mul (.idx (.var 0) (.cst (.int 2))) (.var 5)) (.bin .mod (.bif .int (.cons (.bin .pow (.var 6) (.cst (.int 5))) .nil)) (.var 5)))) .nil))) .nil)) .nil) .nil)))))))
def freshM : Ss := (.cons (.ret (.lst (.cons (.sl (.var 0) .no (.so (.cst (.int 63)))) (.cons (.cst (.int 0)) (.cons (.cst (.int 0)) (.cons (.cst (.bl false)) .nil)))))) .nil)
def oneM : Ss := (.cons (.ret (.idx (.var 1) (.call 1 (.cons (.var 0) (.cons (.bif .len (.cons (.var 1) .nil)) .nil)) []))) .nil)

theorem upd_upd {h : Hp} {a : Addr} {o u : O} : upd (upd h a o) a u = upd h a u := by
  funext b
  unfold upd
  split <;> rfl
def stL (cp : Addr) (nth left : Int) (mx : Bool) : List W := [.ref cp, .int nth, .int left, .bl mx]
theorem run_at {T : Tab} {B : Nat → Option Def} {d i : Nat} {ws : List W} {h : Hp} {Q : K1} {X : XK} {D : Def} (hB : B i = some D) (hl : ws.length = D.ar) (z : wSs T (run T B d) D.body ⟨fun _ h' => Q .non h', Q, no2, no2⟩ X (startW D.sl ws) h) : run T B (d + 1) i ws h Q X := by
  unfold run
  rw [hB]
  exact ⟨hl, z⟩
theorem mulOk {i j : Int} (h : L2.CMul i j) : IntMulOk i j := h.ok
theorem mulL {i j : Int} (h1 : -(2 ^ 64) < i) (h2 : i < 2 ^ 64) : IntMulOk i j := L2.CMul.ok (.inl ⟨h1, h2⟩)
theorem mulR {i j : Int} (h1 : -(2 ^ 64) < j) (h2 : j < 2 ^ 64) : IntMulOk i j := L2.CMul.ok (.inr ⟨h1, h2⟩)
/-! ### the readings, step by step -/
def br : W → Prop → Prop → Prop
  | .bl true, A, _ => A
  | .bl false, _, B => B
  | _, _, _ => False
@[simp] theorem br_bl {b : Bool} {A B : Prop} : br (.bl b) A B = ((b = true → A) ∧ (b = false → B)) := by
  cases b <;> simp [br]
section
variable {T : Tab} {F : Fn} {σ : St} {h : Hp} {Q : K1} {X : XK} {a b c : E} {R : List W → Hp → Prop} {N : St → Hp → Prop} {D : En}
@[simp] theorem wE_var {i : Nat} : wE T F (.var i) σ h Q X = (match σ[i]? with | some (some v) => Q v h | _ => False) := by rw [wE] <;> rfl
@[simp] theorem wE_cst {w : W} : wE T F (.cst w) σ h Q X = Q w h := by rw [wE]
@[simp] theorem wE_bin {o : Bop} : wE T F (.bin o a b) σ h Q X = wE T F a σ h (fun x h1 => wE T F b σ h1 (fun y h2 => wBin T F o x y h2 Q X) X) X := by rw [wE]
@[simp] theorem wE_neg : wE T F (.neg a) σ h Q X = wE T F a σ h (fun x h1 => wNeg T F x h1 Q X) X := by rw [wE]
@[simp] theorem wE_cmp {o : Cop} : wE T F (.cmp o a b) σ h Q X = wE T F a σ h (fun x h1 => wE T F b σ h1 (fun y h2 => wCmp T F o x y h2 Q X) X) X := by rw [wE]
@[simp] theorem wE_and : wE T F (.and a b) σ h Q X = wE T F a σ h (fun x h1 => br x (wE T F b σ h1 Q X) (Q (.bl false) h1)) X := by
  rw [wE]
  congr 1
  funext x h1
  cases x <;> first | rfl | (rename_i z; cases z <;> rfl)
@[simp] theorem wE_or : wE T F (.or a b) σ h Q X = wE T F a σ h (fun x h1 => br x (Q (.bl true) h1) (wE T F b σ h1 Q X)) X := by
  rw [wE]
  congr 1
  funext x h1
  cases x <;> first | rfl | (rename_i z; cases z <;> rfl)
@[simp] theorem wE_not : wE T F (.not a) σ h Q X = wE T F a σ h (fun x h1 => match x with | .bl b => Q (.bl (!b)) h1 | _ => False) X := by rw [wE] <;> rfl
@[simp] theorem wE_ite : wE T F (.ite c a b) σ h Q X = wE T F c σ h (fun x h1 => br x (wE T F a σ h1 Q X) (wE T F b σ h1 Q X)) X := by
  rw [wE]
  congr 1
  funext x h1
  cases x <;> first | rfl | (rename_i z; cases z <;> rfl)
@[simp] theorem wE_tup {es : Es} : wE T F (.tup es) σ h Q X = wEs T F es σ h (fun vs h1 => Q (.tup vs) h1) X := by rw [wE]
@[simp] theorem wE_lst {es : Es} : wE T F (.lst es) σ h Q X = wEs T F es σ h (fun vs h1 => ∀ p, h1 p = none → Q (.ref p) (upd h1 p (.lst vs))) X := by rw [wE]
@[simp] theorem wE_idx : wE T F (.idx a b) σ h Q X = wE T F a σ h (fun x h1 => wE T F b σ h1 (fun y h2 => wIdx x y h2 Q) X) X := by rw [wE]
@[simp] theorem wE_sl {lo hi : Eo} : wE T F (.sl a lo hi) σ h Q X = wE T F a σ h (fun x h1 => wEo T F lo σ h1 (fun l h2 => wEo T F hi σ h2 (fun u h3 => wSl x l u h3 Q) X) X) X := by rw [wE]
@[simp] theorem wE_fld {f : Nat} : wE T F (.fld a f) σ h Q X = wE T F a σ h (fun x h1 => wFld T x f h1 Q) X := by rw [wE]
@[simp] theorem wE_call {f : Nat} {as : Es} {ds : List W} : wE T F (.call f as ds) σ h Q X = wEs T F as σ h (fun vs h1 => F f (vs ++ ds) h1 Q X) X := by rw [wE]
@[simp] theorem wE_callK {f : Nat} {as : Es} {g : List (Sum Nat W)} : wE T F (.callK f as g) σ h Q X = wEs T F as σ h (fun vs h1 => opt (args vs g) fun us => F f us h1 Q X) X := by rw [wE]
@[simp] theorem wE_make {c f : Nat} {as : Es} {ds : List W} : wE T F (.make c f as ds) σ h Q X = wEs T F as σ h (fun vs h1 => ∀ p, h1 p = none → F f (.ref p :: (vs ++ ds)) (upd h1 p (.ins c [])) (fun w h2 => w = .non ∧ Q (.ref p) h2) X) X := by rw [wE]
@[simp] theorem wE_makeK {c f : Nat} {as : Es} {g : List (Sum Nat W)} : wE T F (.makeK c f as g) σ h Q X = wEs T F as σ h (fun vs h1 => opt (args vs g) fun us => ∀ p, h1 p = none → F f (.ref p :: us) (upd h1 p (.ins c [])) (fun w h2 => w = .non ∧ Q (.ref p) h2) X) X := by rw [wE]
@[simp] theorem wE_meth {m : Nat} {as : Es} : wE T F (.meth a m as) σ h Q X = wE T F a σ h (fun x h1 => opt (insOf h1 x) fun c => getF c.2 m = none ∧ opt (T.meth c.1 m) fun f => wEs T F as σ h1 (fun vs h2 => F f (x :: vs) h2 Q X) X) X := by rw [wE]
@[simp] theorem wE_bif {o : Bif} {as : Es} : wE T F (.bif o as) σ h Q X = wEs T F as σ h (fun vs h1 => wBif T F o vs h1 Q X) X := by rw [wE]
@[simp] theorem wE_bm {m : Bm} {as : Es} : wE T F (.bm m a as) σ h Q X = wE T F a σ h (fun x h1 => rcv h1 x m = true ∧ wEs T F as σ h1 (fun vs h2 => wBm m x vs h2 Q) X) X := by rw [wE]
@[simp] theorem wE_isi {cs : List Cl} : wE T F (.isi a cs) σ h Q X = wE T F a σ h (fun x h1 => known T h1 x = true ∧ Q (.bl (cs.any (isOf T h1 x))) h1) X := by rw [wE]
@[simp] theorem wE_own {e : E} : wE T F (.own e) σ h Q X = wE T F e σ h Q X := by rw [wE]
@[simp] theorem wEs_nil : wEs T F .nil σ h R X = R [] h := by rw [wEs]
@[simp] theorem wEs_cons {e : E} {r : Es} : wEs T F (.cons e r) σ h R X = wE T F e σ h (fun v h1 => wEs T F r σ h1 (fun vs h2 => R (v :: vs) h2) X) X := by rw [wEs]
@[simp] theorem wAll_nil {R : Bool → Hp → Prop} : wAll T F .nil σ h R X = R true h := by rw [wAll]
@[simp] theorem wAll_cons {e : E} {r : Es} {R : Bool → Hp → Prop} : wAll T F (.cons e r) σ h R X = wE T F e σ h (fun v h1 => br v (wAll T F r σ h1 R X) (R false h1)) X := by
  rw [wAll]
  congr 1
  funext x h1
  cases x <;> first | rfl | (rename_i z; cases z <;> rfl)
@[simp] theorem wEo_no {R : Option Int → Hp → Prop} : wEo T F .no σ h R X = R none h := by rw [wEo]
@[simp] theorem wEo_so {e : E} {R : Option Int → Hp → Prop} : wEo T F (.so e) σ h R X = wE T F e σ h (fun v h1 => match v with | .int i => R (some i) h1 | _ => False) X := by rw [wEo] <;> rfl
@[simp] theorem wI_of {e : E} {R : List W → (Hp → Prop) → Hp → Prop} : wI T F (.of e) σ h R X = wE T F e σ h (fun v h1 => opt (seqOf h1 v) fun p => R p.1 p.2 h1) X := by rw [wI]
@[simp] theorem wI_enm {e : E} {R : List W → (Hp → Prop) → Hp → Prop} : wI T F (.enm e) σ h R X = wE T F e σ h (fun v h1 => opt (seqOf h1 v) fun p => R (enumW 0 p.1) p.2 h1) X := by rw [wI]
@[simp] theorem wI_rng1 {e : E} {R : List W → (Hp → Prop) → Hp → Prop} : wI T F (.rng1 e) σ h R X = wE T F e σ h (fun v h1 => match v with
    | .int j => -(2 ^ 62) ≤ j ∧ j < 2 ^ 62 ∧ R (rngW 0 j.toNat) (fun _ => True) h1
    | _ => False) X := by rw [wI] <;> rfl
@[simp] theorem wI_zip {R : List W → (Hp → Prop) → Hp → Prop} : wI T F (.zip a b) σ h R X = wE T F a σ h (fun v h1 => wE T F b σ h1 (fun u h2 => opt (seqOf h2 v) fun p => opt (seqOf h2 u) fun q => isTup v = isTup u ∧ R (zipW p.1 q.1) (fun h' => p.2 h' ∧ q.2 h') h2) X) X := by rw [wI]
@[simp] theorem wTg_nm {i : Nat} {v : W} : wTg T F (.nm i) v σ h N X = N (σ.set i (some v)) h := by rw [wTg]
@[simp] theorem wTg_tp {ts : Tgs} {xs : List W} : wTg T F (.tp ts) (.tup xs) σ h N X = (xs.length = tgsLen ts ∧ wTgs T F ts xs σ h N X) := by rw [wTg]
theorem wTg_sub {v : W} : wTg T F (.sub a b) v σ h N X = wE T F a σ h (fun x h1 => wE T F b σ h1 (fun k h2 => match x, k with
    | .ref a, .int i => (match h2 a with
      | some (.lst xs) => opt (L2.ixN xs.length i) fun j => N σ (upd h2 a (.lst (xs.set j v)))
      | _ => False)
    | _, _ => False) X) X := by rw [wTg] <;> rfl
@[simp] theorem wTgs_nil {vs : List W} : wTgs T F .nil vs σ h N X = (vs = [] ∧ N σ h) := by rw [wTgs]
@[simp] theorem wTgs_cons {t : Tg} {r : Tgs} {v : W} {vs : List W} : wTgs T F (.cons t r) (v :: vs) σ h N X = wTg T F t v σ h (fun σ1 h1 => wTgs T F r vs σ1 h1 N X) X := by rw [wTgs]
@[simp] theorem tgsLen_nil : tgsLen .nil = 0 := rfl
@[simp] theorem tgsLen_cons {t : Tg} {r : Tgs} : tgsLen (.cons t r) = tgsLen r + 1 := rfl
@[simp] theorem opt_some {α : Type} {x : α} {P : α → Prop} : opt (some x) P = P x := rfl
@[simp] theorem wS_asg {t : Tg} {e : E} : wS T F (.asg t e) D X σ h = wE T F e σ h (fun v h1 => wTg T F t v σ h1 D.nx X) X := by rw [wS]
@[simp] theorem wS_exp {e : E} : wS T F (.exp e) D X σ h = wE T F e σ h (fun _ h1 => D.nx σ h1) X := by rw [wS]
@[simp] theorem wS_ret {e : E} : wS T F (.ret e) D X σ h = wE T F e σ h D.rt X := by rw [wS]
@[simp] theorem wS_ifs {a b : Ss} : wS T F (.ifs c a b) D X σ h = wE T F c σ h (fun x h1 => br x (wSs T F a D X σ h1) (wSs T F b D X σ h1)) X := by
  rw [wS]
  congr 1
  funext x h1
  cases x <;> first | rfl | (rename_i z; cases z <;> rfl)
@[simp] theorem wS_fr {t : Tg} {it : I} {b : Ss} : wS T F (.fr t it b) D X σ h = wI T F it σ h (fun xs G h1 => forR G (fun x σ h N => wTg T F t x σ h (fun σ2 h2 => wSs T F b ⟨N, D.rt, D.nx, N⟩ X σ2 h2) X) xs σ h1 D.nx) X := by rw [wS]
theorem wS_aug {i : Nat} {o : Bop} {e : E} : wS T F (.aug i o e) D X σ h = (match σ[i]? with
    | some (some x) => wE T F e σ h (fun y h1 => augOk o x y = true ∧ wBin T F o x y h1 (fun z h2 => D.nx (σ.set i (some z)) h2) X) X
    | _ => False) := by rw [wS] <;> rfl
@[simp] theorem wSs_nil : wSs T F .nil D X σ h = D.nx σ h := by rw [wSs]
theorem ss_cons {s : S} {r : Ss} (z : wS T F s ⟨fun σ' h' => wSs T F r D X σ' h', D.rt, D.bk, D.ct⟩ X σ h) : wSs T F (.cons s r) D X σ h := by rw [wSs]; exact z
theorem wSs_cons {s : S} {r : Ss} : wSs T F (.cons s r) D X σ h = wS T F s ⟨fun σ' h' => wSs T F r D X σ' h', D.rt, D.bk, D.ct⟩ X σ h := by rw [wSs]
@[simp] theorem wBin_int_add {i j : Int} : wBin T F .add (.int i) (.int j) h Q X = Q (.int (i + j)) h := rfl
@[simp] theorem wBin_int_sub {i j : Int} : wBin T F .sub (.int i) (.int j) h Q X = Q (.int (i - j)) h := rfl
@[simp] theorem wBin_int_mul {i j : Int} : wBin T F .mul (.int i) (.int j) h Q X = (IntMulOk i j ∧ Q (.int (i * j)) h) := rfl
@[simp] theorem wBin_int_fdiv {i j : Int} : wBin T F .fdiv (.int i) (.int j) h Q X = (j ≠ 0 ∧ j.natAbs.log2 < 9000 ∧ Q (.int (i.fdiv j)) h) := rfl
@[simp] theorem wBin_int_mod {i j : Int} : wBin T F .mod (.int i) (.int j) h Q X = (j ≠ 0 ∧ Q (.int (i.fmod j)) h) := rfl
@[simp] theorem wBin_int_pow {i j : Int} : wBin T F .pow (.int i) (.int j) h Q X = (L2.CPow i j ∧ Q (.int (i ^ j.toNat)) h) := rfl
@[simp] theorem wCmp_lt {i j : Int} : wCmp T F .lt (.int i) (.int j) h Q X = Q (.bl (decide (i < j))) h := rfl
@[simp] theorem wCmp_le {i j : Int} : wCmp T F .le (.int i) (.int j) h Q X = Q (.bl (decide (i ≤ j))) h := rfl
@[simp] theorem wCmp_gt {i j : Int} : wCmp T F .gt (.int i) (.int j) h Q X = Q (.bl (decide (j < i))) h := rfl
@[simp] theorem wCmp_ge {i j : Int} : wCmp T F .ge (.int i) (.int j) h Q X = Q (.bl (decide (j ≤ i))) h := rfl
@[simp] theorem wCmp_eq_int {i j : Int} : wCmp T F .eq (.int i) (.int j) h Q X = Q (.bl (decide (i = j))) h := by
  have s1 : ∀ i, SeqAt.shaped (.int i) = true := fun i => rfl
  have e : (i == j) = decide (i = j) := by by_cases q : i = j <;> simp [q]
  simp [wCmp, wEq, isIns, dat, opt, s1, PyData.eqv, e]
@[simp] theorem wCmp_ne_int {i j : Int} : wCmp T F .ne (.int i) (.int j) h Q X = Q (.bl (!decide (i = j))) h := by
  have s1 : ∀ i, SeqAt.shaped (.int i) = true := fun i => rfl
  have e : (i == j) = decide (i = j) := by by_cases q : i = j <;> simp [q]
  simp [wCmp, wEq, isIns, dat, opt, s1, PyData.eqv, e]
@[simp] theorem wCmp_eq_bl {i j : Bool} : wCmp T F .eq (.bl i) (.bl j) h Q X = Q (.bl (decide (i = j))) h := by
  have s1 : ∀ i, SeqAt.shaped (.bool i) = true := fun i => rfl
  cases i <;> cases j <;> simp [wCmp, wEq, isIns, dat, opt, s1, PyData.eqv]
@[simp] theorem wCmp_ne_bl {i j : Bool} : wCmp T F .ne (.bl i) (.bl j) h Q X = Q (.bl (!decide (i = j))) h := by
  have s1 : ∀ i, SeqAt.shaped (.bool i) = true := fun i => rfl
  cases i <;> cases j <;> simp [wCmp, wEq, isIns, dat, opt, s1, PyData.eqv]
@[simp] theorem wIdx_tup {xs : List W} {i : Int} : wIdx (.tup xs) (.int i) h Q = opt (L2.atI xs i) fun v => Q v h := rfl
theorem wIdx_lst {p : Addr} {xs : List W} {i : Int} (e : h p = some (.lst xs)) : wIdx (.ref p) (.int i) h Q = opt (L2.atI xs i) fun v => Q v h := by simp only [wIdx, e]; rfl
theorem wLen_lst {p : Addr} {xs : List W} (e : h p = some (.lst xs)) : wBif T F .len [.ref p] h Q X = Q (.int xs.length) h := by simp only [wBif, e]
@[simp] theorem wBif_int {i : Int} : wBif T F .int [.int i] h Q X = Q (.int i) h := rfl
@[simp] theorem wBif_abs {i : Int} : wBif T F .abs [.int i] h Q X = Q (.int (if i < 0 then -i else i)) h := rfl
@[simp] theorem wNeg_int {i : Int} : wNeg T F (.int i) h Q X = Q (.int (-i)) h := rfl
theorem set_lst {p : Addr} {xs : List W} {i : Int} {j : Nat} {v : W} {ea eb : E} (e1 : ∀ Q, wE T F ea σ h Q X = Q (.ref p) h) (e2 : ∀ Q, wE T F eb σ h Q X = Q (.int i) h) (e : h p = some (.lst xs)) (hj : L2.ixN xs.length i = some j) : wTg T F (.sub ea eb) v σ h N X = N σ (upd h p (.lst (xs.set j v))) := by
  rw [wTg_sub, e1, e2]
  simp only [e, hj]
  rfl
end
section
variable {T : Tab} {F : Fn} {X : XK}
/-- reading and writing the state -/
theorem idx_st {p cp : Addr} {nth left : Int} {mx : Bool} {h : Hp} {Q : K1} (e : h p = some (.lst (stL cp nth left mx))) :
    wIdx (.ref p) (.int 0) h Q = Q (.ref cp) h ∧ wIdx (.ref p) (.int 1) h Q = Q (.int nth) h ∧ wIdx (.ref p) (.int 2) h Q = Q (.int left) h ∧ wIdx (.ref p) (.int 3) h Q = Q (.bl mx) h := by
  refine ⟨?_, ?_, ?_, ?_⟩ <;> (rw [wIdx_lst e]; rfl)
theorem set_st {p cp : Addr} {nth left : Int} {mx : Bool} {σ : St} {h : Hp} {N : St → Hp → Prop} (e0 : σ[0]? = some (some (.ref p))) :
    (∀ v, wTg T F (.sub (.var 0) (.cst (.int 1))) (.int v) σ (upd h p (.lst (stL cp nth left mx))) N X = N σ (upd h p (.lst (stL cp v left mx)))) ∧
    (∀ v, wTg T F (.sub (.var 0) (.cst (.int 2))) (.int v) σ (upd h p (.lst (stL cp nth left mx))) N X = N σ (upd h p (.lst (stL cp nth v mx)))) ∧
    (∀ v, wTg T F (.sub (.var 0) (.cst (.int 3))) (.bl v) σ (upd h p (.lst (stL cp nth left mx))) N X = N σ (upd h p (.lst (stL cp nth left v)))) := by
  refine ⟨fun v => ?_, fun v => ?_, fun v => ?_⟩
  · rw [set_lst (p := p) (xs := stL cp nth left mx) (i := 1) (j := 1) (fun Q => by simp [e0]) (fun Q => by simp) upd_same rfl, upd_upd]; rfl
  · rw [set_lst (p := p) (xs := stL cp nth left mx) (i := 2) (j := 2) (fun Q => by simp [e0]) (fun Q => by simp) upd_same rfl, upd_upd]; rfl
  · rw [set_lst (p := p) (xs := stL cp nth left mx) (i := 3) (j := 3) (fun Q => by simp [e0]) (fun Q => by simp) upd_same rfl, upd_upd]; rfl
theorem upd_self {h : Hp} {p : Addr} {o : O} (e : h p = some o) : upd h p o = h := by
  funext b
  unfold upd
  split
  · rename_i q; rw [q, e]
  · rfl
/-! ### draws -/
def fillTurn : Ss := (.cons (.asg (.nm 6) (.bin .mod (.bif .int (.cons (.bin .mul (.bin .add (.bin .add (.var 3) (.bin .mul (.bin .mul (.cst (.int 10007)) (.var 4)) (.var 4))) (.bin .mul (.cst (.int 101)) (.var 4))) (.bin .add (.cst (.int 48271)) (.bin .mul (.cst (.int 2)) (.var 4)))) .nil)) (.var 5))) (.cons (.asg (.sub (.var 0) (.cst (.int 2))) (.bin .add (.bin .mul (.idx (.var 0) (.cst (.int 2))) (.var 5)) (.bin .mod (.bif .int (.cons (.bin .pow (.var 6) (.cst (.int 5))) .nil)) (.var 5)))) .nil))
theorem fill_turn {p cp : Addr} {nth left seed k pr : Int} {mx : Bool} {s1 s2 o6 : Option W} {h : Hp} {D : En} (k0 : 0 ≤ k) (k1 : k < 10) (p0 : 0 < pr) (p1 : pr < 2 ^ 32)
    (q : ∀ left' far, D.nx [some (.ref p), s1, s2, some (.int seed), some (.int k), some (.int pr), some far] (upd h p (.lst (stL cp nth left' mx)))) :
    wSs T F fillTurn D X [some (.ref p), s1, s2, some (.int seed), some (.int k), some (.int pr), o6] (upd h p (.lst (stL cp nth left mx))) := by
  have f0 : (0 : Int) ≤ ((seed + 10007 * k * k + 101 * k) * (48271 + 2 * k)).fmod pr := Int.fmod_nonneg_of_pos _ p0
  have f1 : ((seed + 10007 * k * k + 101 * k) * (48271 + 2 * k)).fmod pr < pr := Int.fmod_lt_of_pos _ p0
  have e1 : IntMulOk 10007 k := mulL (by decide) (by decide)
  have e2 : IntMulOk (10007 * k) k := mulR (by omega) (by omega)
  have e3 : IntMulOk 101 k := mulL (by decide) (by decide)
  have e4 : IntMulOk 2 k := mulL (by decide) (by decide)
  have e5 : IntMulOk (seed + 10007 * k * k + 101 * k) (48271 + 2 * k) := mulR (by omega) (by omega)
  have e6 : IntMulOk left pr := mulR (by omega) (by omega)
  have e7 : L2.CPow (((seed + 10007 * k * k + 101 * k) * (48271 + 2 * k)).fmod pr) 5 := ⟨by decide, by decide, by omega⟩
  have pn : pr ≠ 0 := by omega
  refine ss_cons ?_
  simp [e1, e2, e3, e4, e5, pn]
  refine ss_cons ?_
  simp only [wS_asg, wE_bin, wE_idx, wE_var, wE_cst, wE_bif, wEs_cons, wEs_nil, List.getElem?_cons_zero, List.getElem?_cons_succ]
  rw [(idx_st upd_same).2.2.1]
  simp [e6, e7, pn]
  rw [(set_st rfl).2.1]
  exact q _ _
def fillFor : Ss := (.cons (.asg (.sub (.var 0) (.cst (.int 2))) (.cst (.int 0))) (.cons (.fr (.tp (.cons (.nm 4) (.cons (.nm 5) .nil))) (.enm (.tup (.cons (.cst (.int 2147483647)) (.cons (.cst (.int 2147483629)) (.cons (.cst (.int 2147483587)) (.cons (.cst (.int 2147483579)) (.cons (.cst (.int 2147483563)) .nil))))))) fillTurn) .nil))
theorem fill_for {p cp : Addr} {nth left seed : Int} {mx : Bool} {s1 s2 o4 o5 o6 : Option W} {h : Hp} {D : En} (q : ∀ left' τ, D.nx τ (upd h p (.lst (stL cp nth left' mx)))) :
    wSs T F fillFor D X [some (.ref p), s1, s2, some (.int seed), o4, o5, o6] (upd h p (.lst (stL cp nth left mx))) := by
  refine ss_cons ?_
  simp only [wS_asg, wE_cst]
  rw [(set_st rfl).2.1]
  refine ss_cons ?_
  simp [seqOf, enumW, forR]
  refine fill_turn (by omega) (by omega) (by omega) (by omega) fun l1 f1 => ?_
  simp
  refine fill_turn (by omega) (by omega) (by omega) (by omega) fun l2 f2 => ?_
  simp
  refine fill_turn (by omega) (by omega) (by omega) (by omega) fun l3 f3 => ?_
  simp
  refine fill_turn (by omega) (by omega) (by omega) (by omega) fun l4 f4 => ?_
  simp
  refine fill_turn (by omega) (by omega) (by omega) (by omega) fun l5 f5 => ?_
  exact q _ _
theorem fill_ok {B : Nat → Option Def} {d : Nat} (hB : B 2 = some ⟨1, 7, fillM⟩) {p cp : Addr} {cs : List Int} {nth left : Int} {mx : Bool} {h : Hp} {Q : K1} (hp : h p = some (.lst (stL cp nth left mx))) (hc : h cp = some (.lst (cs.map W.int))) (ne : cp ≠ p) (n0 : 0 ≤ nth) (cl : cs.length ≤ 63)
    (q : ∀ left' mx', Q .non (upd h p (.lst (stL cp (nth + 1) left' mx')))) : run T B (d + 1) 2 [.ref p] h Q X := by
  refine run_at hB rfl ?_
  show wSs T (run T B d) fillM _ X [some (.ref p), none, none, none, none, none, none] h
  unfold fillM
  have hc' : ∀ o, upd h p o cp = some (.lst (cs.map W.int)) := fun o => by rw [upd_ne ne]; exact hc
  have c1 : L2.CPow 10 18 := by unfold L2.CPow; decide
  have l0 : (cs.length : Int).natAbs.log2 < 9000 := by
    have h1 : (cs.length : Int).natAbs.log2 ≤ (cs.length : Int).natAbs := Nat.log2_le_self _
    omega
  have e1 : IntMulOk 31 nth := mulL (by decide) (by decide)
  have e2 : ∀ z, IntMulOk 104729 z := fun z => mulL (by decide) (by decide)
  refine ss_cons ?_
  simp only [wS_asg, wE_tup, wEs_cons, wEs_nil, wE_idx, wE_var, wE_cst, List.getElem?_cons_zero, List.getElem?_cons_succ]
  rw [(idx_st hp).1, (idx_st hp).2.1]
  simp
  refine ss_cons ?_
  simp [e1]
  have body : ∀ seed : Int, wSs T (run T B d) (.cons (.asg (.sub (.var 0) (.cst (.int 1))) (.bin .add (.var 2) (.cst (.int 1)))) (.cons (.asg (.sub (.var 0) (.cst (.int 3))) (.or (.cmp .ge (.var 2) (.bif .len (.cons (.var 1) .nil))) (.cmp .lt (.var 3) (.bin .pow (.cst (.int 10)) (.cst (.int 18)))))) (.cons (.asg (.sub (.var 0) (.cst (.int 2))) (.bin .sub (.var 3) (.bin .pow (.cst (.int 10)) (.cst (.int 18))))) (.cons (.ifs (.idx (.var 0) (.cst (.int 3))) fillFor .nil) .nil))))
      ⟨fun _ h' => Q .non h', Q, no2, no2⟩ X [some (.ref p), some (.ref cp), some (.int nth), some (.int seed), none, none, none] h := by
    intro seed
    rw [show h = upd h p (.lst (stL cp nth left mx)) from (upd_self hp).symm]
    refine ss_cons ?_
    simp
    rw [(set_st rfl).1]
    refine ss_cons ?_
    simp only [wS_asg, wE_or, wE_cmp, wE_var, wE_bif, wEs_cons, wEs_nil, List.getElem?_cons_zero, List.getElem?_cons_succ]
    rw [wLen_lst (hc' _)]
    have fin : ∀ mx' : Bool, wSs T (run T B d) (.cons (.asg (.sub (.var 0) (.cst (.int 2))) (.bin .sub (.var 3) (.bin .pow (.cst (.int 10)) (.cst (.int 18))))) (.cons (.ifs (.idx (.var 0) (.cst (.int 3))) fillFor .nil) .nil)) ⟨fun _ h' => Q .non h', Q, no2, no2⟩ X [some (.ref p), some (.ref cp), some (.int nth), some (.int seed), none, none, none] (upd h p (.lst (stL cp (nth + 1) left mx'))) := by
      intro mx'
      refine ss_cons ?_
      simp [c1]
      rw [(set_st rfl).2.1]
      refine ss_cons ?_
      simp only [wS_ifs, wE_idx, wE_var, wE_cst, List.getElem?_cons_zero]
      rw [(idx_st upd_same).2.2.2]
      simp
      refine ⟨fun _ => fill_for fun l τ => q _ _, fun _ => q _ _⟩
    simp [c1]
    refine ⟨fun _ => ?_, fun _ => ?_⟩
    · rw [(set_st rfl).2.2]
      exact fin _
    · rw [(set_st rfl).2.2]
      exact fin _
  refine ss_cons ?_
  simp only [wS_ifs, wE_cmp, wE_bif, wEs_cons, wEs_nil, wE_var, wE_cst, List.getElem?_cons_zero, List.getElem?_cons_succ]
  rw [wLen_lst hc]
  simp
  refine ⟨fun g => ?_, fun g => body _⟩
  have m0 : 0 ≤ nth.fmod cs.length := Int.fmod_nonneg_of_pos _ (by omega)
  have m1 : nth.fmod cs.length < cs.length := Int.fmod_lt_of_pos _ (by omega)
  obtain ⟨j, ej⟩ : ∃ j : Nat, nth.fmod cs.length = j := ⟨(nth.fmod cs.length).toNat, by omega⟩
  have jl : j < cs.length := by omega
  have ne0 : ¬ (cs.length : Int) = 0 := by omega
  have at1 : L2.atI (cs.map W.int) (j : Int) = some (.int cs[j]) := by
    unfold L2.atI L2.ixN
    simp [jl]
  refine ss_cons ?_
  simp only [wS_asg, wE_bin, wE_idx, wE_bif, wEs_cons, wEs_nil, wE_var, wE_cst, List.getElem?_cons_zero, List.getElem?_cons_succ]
  rw [wLen_lst hc]
  simp only [wBin_int_fdiv, wBin_int_mul, wBif_int, List.length_map]
  refine ⟨ne0, l0, e2 _, ?_⟩
  rw [wLen_lst hc]
  simp only [wBin_int_mod, List.length_map]
  refine ⟨ne0, ?_⟩
  rw [ej, wIdx_lst hc, at1]
  simp
  exact body _
end
end Mi
set_option maxHeartbeats 4000000
namespace Mi
open PySem
section
variable {T : Tab} {F : Fn} {X : XK}
theorem wS_whl {c : E} {b : Ss} {D : En} {σ : St} {h : Hp} (z : ∃ n, whlR (fun σ h Q => wE T F c σ h Q X) (fun σ h N => wSs T F b ⟨N, D.rt, D.nx, N⟩ X σ h) D.nx n σ h) : wS T F (.whl c b) D X σ h := by rw [wS]; exact z
theorem whlR_succ {c : St → Hp → (W → Hp → Prop) → Prop} {b : St → Hp → (St → Hp → Prop) → Prop} {nx : St → Hp → Prop} {n : Nat} {σ : St} {h : Hp} : whlR c b nx (n + 1) σ h = c σ h fun x h1 => br x (b σ h1 fun σ2 h2 => whlR c b nx n σ2 h2) (nx σ h1) := by
  rw [whlR]
  congr 1
  funext x h1
  cases x <;> first | rfl | (rename_i z; cases z <;> rfl)
def takeC : E := (.and (.cmp .lt (.var 2) (.cst (.int 64))) (.or (.cmp .eq (.idx (.var 0) (.cst (.int 2))) (.cst (.int 0))) (.and (.idx (.var 0) (.cst (.int 3))) (.cmp .lt (.idx (.var 0) (.cst (.int 2))) (.bin .mul (.var 1) (.cst (.int 4096)))))))
def takeB : Ss := (.cons (.exp (.call 2 (.cons (.var 0) .nil) [])) (.cons (.aug 2 .add (.cst (.int 1))) (.cons (.ifs (.and (.idx (.var 0) (.cst (.int 3))) (.cmp .lt (.idx (.var 0) (.cst (.int 2))) (.bin .mul (.var 1) (.cst (.int 4096))))) (.cons (.asg (.sub (.var 0) (.cst (.int 2))) (.bin .add (.idx (.var 0) (.cst (.int 2))) (.bin .mul (.bin .mul (.var 1) (.cst (.int 4096))) (.bin .add (.cst (.int 1)) (.bin .mod (.bif .int (.cons (.idx (.var 0) (.cst (.int 2))) .nil)) (.cst (.int 4093))))))) .nil) .nil) .nil)))
theorem takeC_ok {p cp : Addr} {nth left many laps : Int} {mx : Bool} {o3 : Option W} {h : Hp} {P N : Hp → Prop} (hp : laps < 64 → P (upd h p (.lst (stL cp nth left mx)))) (hn : N (upd h p (.lst (stL cp nth left mx)))) :
    wE T F takeC [some (.ref p), some (.int many), some (.int laps), o3] (upd h p (.lst (stL cp nth left mx))) (fun x h1 => br x (P h1) (N h1)) X := by
  have e1 : IntMulOk many 4096 := mulR (by decide) (by decide)
  unfold takeC
  simp only [wE_and, wE_cmp, wE_or, wE_idx, wE_var, wE_cst, List.getElem?_cons_zero, List.getElem?_cons_succ, wCmp_lt, br_bl]
  refine ⟨fun hl => ?_, fun _ => ⟨fun h => (by cases h), fun _ => hn⟩⟩
  have hl := of_decide_eq_true hl
  rw [(idx_st upd_same).2.2.1]
  simp only [wCmp_eq_int, br_bl]
  refine ⟨fun _ => ⟨fun _ => hp hl, fun h => (by cases h)⟩, fun _ => ?_⟩
  rw [(idx_st upd_same).2.2.2]
  simp only [br_bl]
  refine ⟨fun _ => ?_, fun _ => ⟨fun h => (by cases h), fun _ => hn⟩⟩
  rw [(idx_st upd_same).2.2.1]
  simp only [wE_bin, wE_var, wE_cst, List.getElem?_cons_zero, List.getElem?_cons_succ, wBin_int_mul, wCmp_lt, br_bl]
  exact ⟨e1, fun _ => hp hl, fun _ => hn⟩
theorem take_loop {B : Nat → Option Def} {d : Nat} (hB : B 2 = some ⟨1, 7, fillM⟩) {p cp : Addr} {cs : List Int} {many : Int} {h : Hp} {D : En} (hc : h cp = some (.lst (cs.map W.int))) (ne : cp ≠ p) (cl : cs.length ≤ 63)
    (q : ∀ nth' left' mx' laps', 0 ≤ nth' → D.nx [some (.ref p), some (.int many), some (.int laps'), none] (upd h p (.lst (stL cp nth' left' mx')))) :
    ∀ (m : Nat) (laps nth left : Int) (mx : Bool), 0 ≤ nth → laps + m = 65 → 0 ≤ laps → laps ≤ 64 →
      whlR (fun σ h Q => wE T (run T B (d + 1)) takeC σ h Q X) (fun σ h N => wSs T (run T B (d + 1)) takeB ⟨N, D.rt, D.nx, N⟩ X σ h) D.nx m [some (.ref p), some (.int many), some (.int laps), none] (upd h p (.lst (stL cp nth left mx))) := by
  have hc' : ∀ o, upd h p o cp = some (.lst (cs.map W.int)) := fun o => by rw [upd_ne ne]; exact hc
  have e1 : IntMulOk many 4096 := mulR (by decide) (by decide)
  intro m
  induction m with
  | zero => intro laps nth left mx _ h1 h2 h3; omega
  | succ m ih =>
    intro laps nth left mx n0 h1 h2 h3
    rw [whlR_succ]
    have go : laps < 64 → wSs T (run T B (d + 1)) takeB ⟨fun σ2 h2 => whlR (fun σ h Q => wE T (run T B (d + 1)) takeC σ h Q X) (fun σ h N => wSs T (run T B (d + 1)) takeB ⟨N, D.rt, D.nx, N⟩ X σ h) D.nx m σ2 h2, D.rt, D.nx, fun σ2 h2 => whlR (fun σ h Q => wE T (run T B (d + 1)) takeC σ h Q X) (fun σ h N => wSs T (run T B (d + 1)) takeB ⟨N, D.rt, D.nx, N⟩ X σ h) D.nx m σ2 h2⟩ X [some (.ref p), some (.int many), some (.int laps), none] (upd h p (.lst (stL cp nth left mx))) := by
      intro hl
      unfold takeB
      refine ss_cons ?_
      simp only [wS_exp, wE_call, wEs_cons, wEs_nil, wE_var, List.getElem?_cons_zero, List.append_nil]
      refine fill_ok hB upd_same (hc' _) ne n0 cl fun l1 m1 => ?_
      rw [upd_upd]
      refine ss_cons ?_
      rw [wS_aug]
      simp [augOk]
      refine ss_cons ?_
      simp only [wS_ifs, wE_and, wE_idx, wE_var, wE_cst, List.getElem?_cons_zero]
      rw [(idx_st upd_same).2.2.2]
      have nxt : ∀ l, whlR (fun σ h Q => wE T (run T B (d + 1)) takeC σ h Q X) (fun σ h N => wSs T (run T B (d + 1)) takeB ⟨N, D.rt, D.nx, N⟩ X σ h) D.nx m [some (.ref p), some (.int many), some (.int (laps + 1)), none] (upd h p (.lst (stL cp (nth + 1) l m1))) := fun l => ih (laps + 1) (nth + 1) l m1 (by omega) (by omega) (by omega) (by omega)
      simp
      refine ⟨fun _ => ?_, fun _ => nxt _⟩
      rw [(idx_st upd_same).2.2.1]
      simp [e1]
      refine ⟨fun _ => ?_, fun _ => nxt _⟩
      refine ss_cons ?_
      simp only [wS_asg, wE_bin, wE_idx, wE_var, wE_cst, wE_bif, wEs_cons, wEs_nil, List.getElem?_cons_zero, List.getElem?_cons_succ]
      rw [(idx_st upd_same).2.2.1]
      have f0 : (0 : Int) ≤ l1.fmod 4093 := Int.fmod_nonneg_of_pos _ (by decide)
      have f1 : l1.fmod 4093 < 4093 := Int.fmod_lt_of_pos _ (by decide)
      have e2 : IntMulOk (many * 4096) (1 + l1.fmod 4093) := mulR (by omega) (by omega)
      simp only [wBin_int_mul]
      refine ⟨e1, ?_⟩
      rw [(idx_st upd_same).2.2.1]
      simp [e2]
      rw [(set_st rfl).2.1]
      exact nxt _
    exact takeC_ok go (q _ _ _ _ n0)
theorem take_ok {B : Nat → Option Def} {d : Nat} (hB1 : B 1 = some ⟨2, 4, takeM⟩) (hB : B 2 = some ⟨1, 7, fillM⟩) {p cp : Addr} {cs : List Int} {nth left many : Int} {mx : Bool} {h : Hp} {Q : K1} (hp : h p = some (.lst (stL cp nth left mx))) (hc : h cp = some (.lst (cs.map W.int))) (ne : cp ≠ p) (n0 : 0 ≤ nth) (cl : cs.length ≤ 63)
    (m0 : 0 < many) (m1 : many.natAbs.log2 < 9000) (q : ∀ v nth' left' mx', 0 ≤ v → v < many → 0 ≤ nth' → Q (.int v) (upd h p (.lst (stL cp nth' left' mx')))) : run T B (d + 2) 1 [.ref p, .int many] h Q X := by
  refine run_at hB1 rfl ?_
  show wSs T (run T B (d + 1)) takeM _ X [some (.ref p), some (.int many), none, none] h
  unfold takeM
  refine ss_cons ?_
  simp
  refine ss_cons (wS_whl ⟨65, ?_⟩)
  have z := take_loop (T := T) (X := X) (d := d) hB (many := many) (h := h)
    (D := ⟨fun σ' h' => wSs T (run T B (d + 1)) (.cons (.asg (.nm 3) (.bin .mod (.bif .int (.cons (.idx (.var 0) (.cst (.int 2))) .nil)) (.var 1))) (.cons (.asg (.sub (.var 0) (.cst (.int 2))) (.bin .fdiv (.idx (.var 0) (.cst (.int 2))) (.var 1))) (.cons (.ret (.var 3)) .nil))) ⟨fun _ h' => Q .non h', Q, no2, no2⟩ X σ' h', Q, no2, no2⟩) hc ne cl ?_ 65 0 nth left mx n0 (by decide) (by decide) (by decide)
  · rw [upd_self hp] at z
    exact z
  · intro nth' left' mx' laps' n0'
    have pn : many ≠ 0 := by omega
    refine ss_cons ?_
    simp only [wS_asg, wE_bin, wE_bif, wEs_cons, wEs_nil, wE_idx, wE_var, wE_cst, List.getElem?_cons_zero, List.getElem?_cons_succ]
    rw [(idx_st upd_same).2.2.1]
    simp [pn]
    refine ss_cons ?_
    simp only [wS_asg, wE_bin, wE_idx, wE_var, wE_cst, List.getElem?_cons_zero, List.getElem?_cons_succ]
    rw [(idx_st upd_same).2.2.1]
    simp [pn, m1]
    rw [(set_st rfl).2.1]
    refine ss_cons ?_
    simp
    exact q _ _ _ _ (Int.fmod_nonneg_of_pos _ m0) (Int.fmod_lt_of_pos _ m0) n0'
end
/-- the state stands -/
structure Sta (p cp : Addr) (cs : List Int) (h : Hp) : Prop where
  st : ∃ nth left mx, h p = some (.lst (stL cp nth left mx)) ∧ 0 ≤ nth
  c : h cp = some (.lst (cs.map W.int))
  ne : cp ≠ p
  cl : cs.length ≤ 63
/-- all that stands stays, but for the state -/
def Le (p : Addr) (h h' : Hp) : Prop := ∀ a o, a ≠ p → h a = some o → h' a = some o
theorem Le.refl {p : Addr} {h : Hp} : Le p h h := fun _ _ _ e => e
theorem Le.trans {p : Addr} {h h1 h2 : Hp} (a : Le p h h1) (b : Le p h1 h2) : Le p h h2 := fun x o n e => b x o n (a x o n e)
theorem Le.new {p q : Addr} {h : Hp} {o : O} (n : h q = none) : Le p h (upd h q o) := fun a u _ e => by
  rw [upd_ne (fun z => by rw [z, n] at e; cases e)]
  exact e
theorem Sta.new {p cp q : Addr} {cs : List Int} {h : Hp} {o : O} (s : Sta p cp cs h) (n : h q = none) : Sta p cp cs (upd h q o) := by
  obtain ⟨⟨nth, left, mx, e, z⟩, c, ne, cl⟩ := s
  exact ⟨⟨nth, left, mx, by rw [upd_ne (fun z => by rw [z, n] at e; cases e)]; exact e, z⟩, by rw [upd_ne (fun z => by rw [z, n] at c; cases c)]; exact c, ne, cl⟩
structure Dr (B : Nat → Option Def) : Prop where
  take : B 1 = some ⟨2, 4, takeM⟩
  fill : B 2 = some ⟨1, 7, fillM⟩
  fresh : B 3 = some ⟨1, 1, freshM⟩
section
variable {T : Tab} {X : XK} {B : Nat → Option Def}
theorem take_s (hD : Dr B) {d : Nat} {p cp : Addr} {cs : List Int} {many : Int} {h : Hp} {Q : K1} (s : Sta p cp cs h) (m0 : 0 < many) (m1 : many.natAbs.log2 < 9000)
    (q : ∀ v h', 0 ≤ v → v < many → Sta p cp cs h' → Le p h h' → Q (.int v) h') : run T B (d + 2) 1 [.ref p, .int many] h Q X := by
  obtain ⟨⟨nth, left, mx, e, z⟩, c, ne, cl⟩ := s
  refine take_ok hD.take hD.fill e c ne z cl m0 m1 fun v nth' left' mx' v0 v1 n0 => q v _ v0 v1 ⟨⟨nth', left', mx', upd_same, n0⟩, by rw [upd_ne ne]; exact c, ne, cl⟩ fun a o n e => ?_
  rw [upd_ne n]
  exact e
theorem fresh_s (hD : Dr B) {d : Nat} {a : Addr} {ns : List Int} {h : Hp} {Q : K1} (hs : h a = some (.fro (ns.map W.int))) (hl : ns.length ≤ 63)
    (q : ∀ p cp h', Sta p cp ns h' → h p = none → Le p h h' → Q (.ref p) h') : run T B (d + 1) 3 [.ref a] h Q X := by
  refine run_at hD.fresh rfl ?_
  show wSs T (run T B d) freshM _ X [some (.ref a)] h
  unfold freshM
  refine ss_cons ?_
  simp [wSl, hs]
  intro cp ncp p np
  have ne : cp ≠ p := fun z => by rw [z, upd_same] at np; cases np
  have npp : h p = none := by rw [upd_ne ne.symm] at np; exact np
  have ec : cut (ns.map W.int) none (some 63) = ns.map W.int := by
    unfold cut
    have e1 : HT.sIx (ns.map W.int).length 0 none = 0 := rfl
    have e2 : (ns.map W.int).length ≤ HT.sIx (ns.map W.int).length (ns.map W.int).length (some 63) := by
      unfold HT.sIx
      simp
      omega
    rw [e1, List.drop_zero, Nat.sub_zero, List.take_of_length_le e2]
  refine q p cp _ ⟨⟨0, 0, false, upd_same, by decide⟩, ?_, ne, hl⟩ npp ?_
  · rw [upd_ne ne, upd_same, ec]
  · exact Le.trans (Le.new ncp) (Le.new np)
end
end Mi
set_option maxHeartbeats 4000000
/-! plain arithmetic: bounds, lowest terms -/
namespace Mi
open PySem
def Bd (n : Nat) (x : Int) : Prop := x.natAbs < 2 ^ n
theorem Bd.mono {n m : Nat} {x : Int} (h : Bd n x) (l : n ≤ m) : Bd m x := Nat.lt_of_lt_of_le h (Nat.pow_le_pow_right (by decide) l)
theorem Bd.mul {n m : Nat} {x y : Int} (h : Bd n x) (g : Bd m y) : Bd (n + m) (x * y) := by
  unfold Bd at *
  rw [Int.natAbs_mul, Nat.pow_add]
  exact Nat.mul_lt_mul'' h g
theorem Bd.add {n : Nat} {x y : Int} (h : Bd n x) (g : Bd n y) : Bd (n + 1) (x + y) := by
  unfold Bd at *
  have := Int.natAbs_add_le x y
  rw [Nat.pow_succ]
  omega
theorem Bd.neg {n : Nat} {x : Int} (h : Bd n x) : Bd n (-x) := by
  unfold Bd at *
  rw [Int.natAbs_neg]
  exact h
theorem Bd.sub {n : Nat} {x y : Int} (h : Bd n x) (g : Bd n y) : Bd (n + 1) (x - y) := by
  rw [Int.sub_eq_add_neg]
  exact h.add g.neg
theorem Bd.fdiv {n : Nat} {x y : Int} (h : Bd n x) : Bd n (x.fdiv y) := Nat.lt_of_le_of_lt (Int.natAbs_fdiv_le_natAbs x y) h
theorem Bd.log2 {n : Nat} {x : Int} (h : Bd n x) (l : n ≤ 9000) : x.natAbs.log2 < 9000 := by
  by_cases z : x.natAbs = 0
  · rw [z]; decide
  · exact (Nat.log2_lt z).mpr (h.mono l)
theorem Bd.bits {n : Nat} {x : Int} (h : Bd n x) : Builtin.Int.intBits x ≤ n := by
  unfold Builtin.Int.intBits
  split
  · exact Nat.zero_le _
  · rename_i z
    have z' : x.natAbs ≠ 0 := by simpa using z
    exact (Nat.log2_lt z').mpr h
theorem Bd.mulOk {n m : Nat} {x y : Int} (h : Bd n x) (g : Bd m y) (l : n + m ≤ 100000) : IntMulOk x y := by
  unfold IntMulOk
  have h1 := h.bits
  have g1 := g.bits
  have : Builtin.Int.intTooBig ((Builtin.Int.intBits x : Int) + (Builtin.Int.intBits y : Int)) = false := by
    unfold Builtin.Int.intTooBig bitsLine
    simp
    omega
  intro z
  rw [this] at z
  simp at z
theorem bd_small {x : Int} {n : Nat} (h1 : -(2 ^ 64) < x) (h2 : x < 2 ^ 64) (l : 64 ≤ n) : Bd n x := by
  refine Bd.mono (n := 64) ?_ l
  unfold Bd
  omega
/-- lowest terms, the lower part above 0 -/
def lo (x y : Int) : Int × Int := if 0 < y then (x.fdiv (Int.gcd x y), y.fdiv (Int.gcd x y)) else ((-x).fdiv (Int.gcd x y), (-y).fdiv (Int.gcd x y))
def Lw (x : Int × Int) : Prop := Int.gcd x.1 x.2 = 1 ∧ 0 < x.2
theorem gcd_pos {x y : Int} (h : y ≠ 0) : 0 < Int.gcd x y := Int.gcd_pos_of_ne_zero_right x h
theorem lo_lw {x y : Int} (h : y ≠ 0) : Lw (lo x y) := by
  have g := gcd_pos (x := x) h
  have gi : (0 : Int) ≤ (Int.gcd x y : Int) := by omega
  unfold lo
  split
  · rename_i q
    refine ⟨?_, ?_⟩
    · show Int.gcd (x.fdiv _) (y.fdiv _) = 1
      rw [Int.fdiv_eq_ediv_of_nonneg _ gi, Int.fdiv_eq_ediv_of_nonneg _ gi]
      exact Int.gcd_ediv_gcd_ediv_gcd g
    · show 0 < y.fdiv _
      rw [Int.fdiv_eq_ediv_of_nonneg _ gi]
      exact Int.ediv_pos_of_pos_of_dvd q gi (Int.gcd_dvd_right x y)
  · rename_i q
    refine ⟨?_, ?_⟩
    · show Int.gcd ((-x).fdiv _) ((-y).fdiv _) = 1
      rw [Int.fdiv_eq_ediv_of_nonneg _ gi, Int.fdiv_eq_ediv_of_nonneg _ gi]
      have e : Int.gcd x y = Int.gcd (-x) (-y) := by simp
      rw [e] at g ⊢
      exact Int.gcd_ediv_gcd_ediv_gcd g
    · show 0 < (-y).fdiv _
      rw [Int.fdiv_eq_ediv_of_nonneg _ gi]
      refine Int.ediv_pos_of_pos_of_dvd (by omega) gi ?_
      exact Int.dvd_neg.mpr (Int.gcd_dvd_right x y)
theorem lo_bd {n m : Nat} {x y : Int} (h : Bd n x) (g : Bd m y) : Bd n (lo x y).1 ∧ Bd m (lo x y).2 := by
  unfold lo
  split
  · exact ⟨h.fdiv, g.fdiv⟩
  · exact ⟨h.neg.fdiv, g.neg.fdiv⟩
theorem lo_scale {x : Int × Int} {k : Int} (h : Lw x) (hk : 0 < k) : lo (x.1 * k) (x.2 * k) = x := by
  have g : Int.gcd (x.1 * k) (x.2 * k) = k.natAbs := by rw [Int.gcd_mul_right, h.1, Nat.one_mul]
  have kk : (k.natAbs : Int) = k := Int.natAbs_of_nonneg (Int.le_of_lt hk)
  unfold lo
  rw [if_pos (Int.mul_pos h.2 hk), g, kk, Int.fdiv_eq_ediv_of_nonneg _ (Int.le_of_lt hk), Int.fdiv_eq_ediv_of_nonneg _ (Int.le_of_lt hk), Int.mul_ediv_cancel _ (by omega), Int.mul_ediv_cancel _ (by omega)]
theorem lo_self {x : Int × Int} (h : Lw x) : lo x.1 x.2 = x := by
  have := lo_scale h (k := 1) (by decide)
  simpa using this
theorem lo_neg {x : Int × Int} (h : Lw x) : lo (-x.1) (-x.2) = x := by
  have p := h.2
  unfold lo
  rw [if_neg (by omega)]
  simp [h.1, Int.fdiv_one]
theorem Lw.neg {x : Int × Int} (h : Lw x) : Lw (-x.1, x.2) := ⟨by simp [h.1], h.2⟩
def absI (i : Int) : Int := if i < 0 then -i else i
theorem Lw.abs {x : Int × Int} (h : Lw x) : Lw (absI x.1, x.2) := by
  unfold absI
  split
  · exact h.neg
  · exact h
theorem absI_natAbs (i : Int) : absI i = (i.natAbs : Int) := by
  unfold absI
  split <;> omega
end Mi
set_option maxHeartbeats 4000000
/-! texts and dicts: rules -/
namespace Mi
open PySem PySem.Spec PyProof.Rows
open L2 (PE PA CallR Inv Vals VK Cx EP)
section
variable {T : Tab} {F : Fn} {t : Tx} {X : Cx} (mF : Mo F)
include mF
variable {e : Expr} {me : E} {pos : Pos}
omit mF in
theorem cb_str : CallR X (.type "str") (rBif T F t X.K .str) := by
  intro pins s τ H vs us Q I rs ⟨ws, h, hr, va, z⟩
  unfold wBif at z
  split at z
  any_goals (first | exact z.elim | contradiction | skip)
  · obtain ⟨v, rfl, r⟩ := va.one
    cases r
    exact L2.call_str_int pins s τ H _ us Q I rs ⟨_, rfl, z.1, z.2 _ _ hr (.str _) Keep.refl⟩
  · obtain ⟨v, rfl, r⟩ := va.one
    cases r
    exact SkE.call_str_str pins s τ H _ us Q I rs ⟨_, rfl, z _ _ hr (.str _) Keep.refl⟩
theorem me_fmt (he : PE X e (tM T F t X.K me)) : PE X (.FormattedValue e (-1) none pos) (tM T F t X.K (.fmt me)) := by
  refine PE.imp (L2.pe_fmt he) fun τ H Q ⟨σ, h, hs, hr, z⟩ => ?_
  unfold wE at z
  refine tM.bind mF hs hr z fun w h1 v H1 r1 v1 k1 z1 => ?_
  split at z1
  · cases v1
    exact .inl ⟨_, rfl, z1.1, z1.2 _ _ r1 (.str _) k1⟩
  · cases v1
    exact .inr ⟨_, rfl, z1.1, z1.2 _ _ r1 (.str _) k1⟩
  · exact z1.elim
omit mF in
theorem me_dct0 : PE X (.Dict [] [] pos) (tM T F t X.K (.dct .nil)) := by
  refine PE.imp L2.pe_dnewK fun τ H Q ⟨σ, h, hs, hr, z⟩ => ?_
  unfold wE at z
  intro p hp
  have z1 := z p (hr.free hp)
  unfold wEs at z1
  obtain ⟨_, _, _, z2⟩ := (show _ ∧ _ ∧ _ ∧ _ from z1)
  obtain ⟨g1, g2⟩ := go_new hr hp (OR.dct (t := t) DR.nil)
  have e : upd (upd h p (.dct [])) p (.dct []) = upd h p (.dct []) := upd_upd
  rw [e] at z2
  exact z2 _ _ g1 (.ref p) g2
/-- the parts of a formatted text -/
inductive PJm (T : Tab) (F : Fn) (t : Tx) (X : Cx) : List Expr → Es → Prop
  | nil : PJm T F t X [] .nil
  | cons {e : Expr} {es : List Expr} {me : E} {mes : Es} (h : PE X e (tM T F t X.K me)) (r : PJm T F t X es mes) : PJm T F t X (e :: es) (.cons me mes)
theorem PJm.go {es : List Expr} {mes : Es} (h : PJm T F t X es mes) : ∃ ts, L2.PJ X es ts ∧ ∀ (acc : Str) (σ : St) (τ : L2.St) (h : Hp) (H : L2.Hp) (Q : Str → L2.Hp → Prop), SR X.K H σ τ → HR t X.K h H → wJ T F mes acc σ h (fun out h1 => ∀ H1, HR t X.K h1 H1 → Keep h H h1 H1 → Q out H1) (XW t X.K h H τ) → L2.tJs ts acc τ H Q := by
  induction h with
  | nil => exact ⟨[], .nil, fun acc σ τ h H Q hs hr z => by unfold wJ at z; exact z H hr Keep.refl⟩
  | cons he _ ih =>
    obtain ⟨ts, p, k⟩ := ih
    refine ⟨_ :: ts, .cons he p, fun acc σ τ h H Q hs hr z => ?_⟩
    unfold wJ at z
    refine tM.bind mF hs hr z fun w h1 v H1 r1 v1 k1 z1 => ?_
    split at z1
    · cases v1
      refine ⟨_, rfl, z1.1, k _ σ τ h1 H1 Q (hs.mono (k1.tk hr)) r1 (wJ_mono mF _ _ _ _ _ _ _ _ (fun out h2 e H2 r2 k2 => e H2 r2 (k1.trans k2)) (XW.step k1) z1.2)⟩
    · exact z1.elim
theorem me_js {v1 v2 : Expr} {rest : List Expr} {mes : Es} (h : PJm T F t X (v1 :: v2 :: rest) mes) : PE X (.JoinedStr (v1 :: v2 :: rest) pos) (tM T F t X.K (.js mes)) := by
  obtain ⟨ts, p, k⟩ := h.go mF
  refine PE.imp (L2.pe_joined p) fun τ H Q ⟨σ, h, hs, hr, z⟩ => ?_
  unfold wE at z
  exact k _ σ τ h H _ hs hr (wJ_mono mF _ _ _ _ _ _ _ _ (fun out h1 e H1 r1 k1 => e _ _ r1 (.str _) k1) XW.id z)
omit mF in
theorem me_own {e : Expr} {m : E} (h : PE X e (tM T F t X.K m)) : PE X e (tM T F t X.K (.own m)) := by
  have e1 : tM T F t X.K (.own m) = tM T F t X.K m := by
    unfold tM
    funext τ H Q
    simp only [wE]
  rw [e1]
  exact h
end
end Mi
set_option maxHeartbeats 4000000
/-! try .. except C as e: x = (.., e.f, ..) -/
namespace Mi
open PySem PySem.Spec PyProof.Rows
open L2 (PE PT PA PS PSs Cx TA TS WX Zc)
theorem wipe_at {σ : St} : ∀ {l : List Nat} {k : Nat} {w : W}, (wipe σ l)[k]? = some (some w) → σ[k]? = some (some w) ∧ k ∉ l
  | [], k, w, e => ⟨e, by simp⟩
  | i :: l, k, w, e => by
    unfold wipe at e
    by_cases q : i = k
    · subst q
      by_cases lt : i < (wipe σ l).length
      · rw [List.getElem?_set_self lt] at e; cases e
      · rw [List.getElem?_eq_none (by simpa using Nat.le_of_not_lt lt)] at e; cases e
    · rw [List.getElem?_set_ne q] at e
      obtain ⟨h1, h2⟩ := wipe_at e
      exact ⟨h1, by simp [Ne.symm q, h2]⟩
theorem wipe_len {σ : St} : ∀ {l : List Nat}, (wipe σ l).length = σ.length
  | [] => rfl
  | i :: l => by unfold wipe; rw [List.length_set, wipe_len]
theorem tplW_len {fs : List (Nat × W)} : ∀ {tp : List (Sum Nat W)} {ws : List W}, tplW fs tp = some ws → ws.length = tp.length
  | [], ws, e => by cases e; rfl
  | x :: tp, ws, e => by
    unfold tplW mapO at e
    cases e2 : tplW fs tp with
    | none =>
      unfold tplW at e2
      rw [e2] at e
      split at e
      · rename_i h1 h2; cases h2
      · cases e
    | some ys =>
      have l := tplW_len e2
      unfold tplW at e2
      rw [e2] at e
      split at e
      · rename_i h1 h2
        cases h2
        cases e
        simp [l]
      · cases e
/-- a wish that holds whatever the slots are -/
def blind (n : Nat) (W : WX) : WX := fun cls d _ H => ∀ τ : L2.St, τ.length = n → W cls d τ H
theorem blind_takes {X : Cx} {pn : List (Addr × Obj)} {xe : Value → Shared → Prop} {W : WX} (tk : L2.Takes (X.tr pn xe) W) : L2.Takes (X.tr pn xe) (blind X.N.length W) := fun u s' ⟨a, B, sI, pins, σ, H, cls, d, e, I, nb, up, sky, na, os, ag, w⟩ =>
  tk u s' ⟨a, B, sI, pins, σ, H, cls, d, e, I, nb, up, sky, na, os, ag, w σ I.len⟩
section
variable {T : Tab} {F : Fn} {t : Tx} {X : Cx} (mF : Mo F)
include mF
theorem ms_try {st : Stmt} {r0 : List Stmt} {es : List Expr} {x n y : Str} {np yp pos pos' ap tp0 : Pos} {kk : _} {ms : S} {mr : Ss} {asg : List Nat} {c i j : Nat} {tp : List (Sum Nat W)} {ta : Addr → Value → Option Addr → TA}
    (pa : Pa X t) (hs : X.stack = X.env :: X.outer) (hf : X.env.frame = some X.env.locals) (nd : X.N.Nodup) (hi : X.N[i]? = some n) (hln : X.env.kindOf n = some .local) (hc : L2.Names X x (.ref (t.CA c))) (hij : j ≠ i) (hl : tp.length ≤ 100)
    (hx : ∀ c', T.exOk c' = true → PySem.W.exmOne X.K (.ref (t.CA c')) (.ref (t.CA c)) = some (T.sub c' c))
    (hb : ∀ (W : WX) (pn : List (Addr × Obj)) (xe : Value → Shared → Prop), Pa (X.tr pn xe) ⟨t.tn, W⟩ → PS (X.tr pn xe) st (tS T F ⟨t.tn, W⟩ X.K ms))
    (hr : ∀ (pn : List (Addr × Obj)) (xe : Value → Shared → Prop), PSs (X.tr pn xe) r0 (tSs T F t.no X.K mr))
    (hsu : ∀ (a : Addr) (oe : Obj) (cls : Value) (d : Option Addr) (pn : List (Addr × Obj)), Zc cls d oe → (∃ vs, oe.data = .fields vs) → PS (X.suite a ((a, oe) :: pn)) (.Assign [.Name y yp] (.Tuple es kk tp0) ap) (L2.tAsg (L2.tTup (ta a cls d)) (L2.gName j)))
    (hta : ∀ a dd gs fs ws τ H Q, τ[i]? = some (some (.ref a)) → H dd = some (.xd gs) → FR t X.K H fs gs → tplW fs tp = some ws → (∀ vs, VA X.K H ws vs → Q vs H) → ta a (.ref (t.CA c)) (some dd) τ H Q) :
    PS X (.Try (st :: r0) [.ExceptHandler (some (.Name x np)) (some n) [.Assign [.Name y yp] (.Tuple es kk tp0) ap] pos'] [] [] pos) (tS T F t X.K (.tr ms mr asg [⟨c, i, j, tp⟩])) := by
  refine ⟨fun pins s τ H D I ⟨σ, h, sr, hh, z⟩ => (L2.ps_try_as (tb := fun W => L2.tSeq (tS T F ⟨t.tn, blind X.N.length W⟩ X.K ms) (tSs T F t.no X.K mr)) (ts := fun a cls d => L2.tSeq (L2.tAsg (L2.tTup (ta a cls d)) (L2.gName j)) L2.tNext) hs hf nd hi hln hc pa.tk (fun W pn xe tk po => L2.pss_cons (hb (blind X.N.length W) pn xe ⟨fun _ _ _ _ _ z => z, blind_takes tk⟩) (hr pn xe)) (fun a oe cls d pn hz hf => L2.pss_cons (hsu a oe cls d pn hz hf) L2.pss_nil)).run pins s τ H D I ?_⟩
  have iN : i < X.N.length := (List.getElem?_eq_some_iff.mp hi).1
  have eN : σ.length = X.N.length := sr.len.trans I.len
  have hr := hh
  unfold wS at z
  refine ⟨σ, h, sr, hr, wS_mono mF ms ⟨fun σ1 h1 => wSs T F mr (eD t X.K h H D) (fun _ _ _ => False) σ1 h1, (eD t X.K h H D).rt, (eD t X.K h H D).bk, (eD t X.K h H D).ct⟩ _ _ _ _ _ ⟨fun σ1 h1 z1 τ1 H1 s1 r1 k1 => ⟨σ1, h1, s1, r1, wSs_mono mF mr _ _ _ _ _ _ (eD.step k1) (fun _ _ _ z => z.elim) z1⟩, fun _ _ z => z, fun _ _ z => z, fun _ _ z => z⟩ (fun c' fs h' e dx gs H' r' f' ed k' τ' hl' => ?_) z⟩
  obtain ⟨ok, e⟩ := e
  refine ⟨T.sub c' c, hx c' ok, fun b a na => ?_, fun b => ?_⟩
  · have fd : List.find? (fun H => T.sub c' H.c) [(⟨c, i, j, tp⟩ : Hd)] = some ⟨c, i, j, tp⟩ := by simp [b]
    rw [fd] at e
    obtain ⟨⟨ec, li0⟩, e⟩ := (show (c' = c ∧ i < σ.length) ∧ _ from e)
    subst ec
    cases ew : tplW fs tp with
    | none => rw [ew] at e; exact e.elim
    | some ws =>
      rw [ew] at e
      have e : (eD t X.K h H D).nx ((List.replicate σ.length none).set j (some (.tup ws))) h' := e
      have li : i < τ'.length := by rw [hl']; exact iN
      refine hta a dx gs fs ws _ H' _ (by rw [List.getElem?_set_self li]) ed f' ew fun vs va => ⟨?_, fun p np => ?_⟩
      · rw [← va.length, tplW_len ew]; unfold sizeLine; omega
      · obtain ⟨g1, g2⟩ := go_hid (t := t) (K := X.K) r' (u := .tup vs) np
        refine e _ _ ⟨?_, fun l w q => ?_⟩ g1 (k'.trans g2)
        · simp [hl', eN]
        · by_cases lj : j = l
          · subst lj
            have lt : j < σ.length := by
              have := (List.getElem?_eq_some_iff.mp q).1
              simpa using this
            rw [List.getElem?_set_self (by simpa using lt)] at q
            cases q
            refine ⟨.ref p, ?_, .tup (L2.SqT.of L2.upd_same) (va.mono (g2.tk r'))⟩
            rw [List.getElem?_set_ne (Ne.symm hij), List.getElem?_set_self]
            simpa [hl', ← eN] using lt
          · rw [List.getElem?_set_ne lj] at q
            obtain ⟨l', q'⟩ := List.getElem?_eq_some_iff.mp q
            simp at q'
  · have fd : List.find? (fun H => T.sub c' H.c) [(⟨c, i, j, tp⟩ : Hd)] = none := by simp [b]
    rw [fd] at e
    exact pa.cw _ _ _ _ _ (e dx gs H' r' f' ed k')
end
end Mi
set_option maxHeartbeats 4000000
/-! raise C(e): an own exception with one field -/
namespace Mi
open PySem PySem.Spec PyProof.Rows
open L2 (PE PT PA PS PSs Cx TA TS WX Zc exo exd)
theorem del_upd {H1 : L2.Hp} {a dx : Addr} {o1 o2 o3 o4 : L2.HO} (na : H1 a = none) (ne : dx ≠ a) : L2.upd (L2.del (L2.upd (L2.upd (L2.upd H1 a o1) dx o2) a o3) a) dx o4 = L2.upd H1 dx o4 := by
  funext b
  by_cases hd : b = dx
  · subst hd; rw [L2.upd_same, L2.upd_same]
  · rw [L2.upd_ne hd, L2.upd_ne hd]
    by_cases hb : b = a
    · subst hb; rw [L2.del_same, na]
    · rw [L2.del_ne hb, L2.upd_ne hb, L2.upd_ne hd, L2.upd_ne hb]
section
variable {T : Tab} {F : Fn} {t : Tx} {X : Cx} (mF : Mo F)
include mF
theorem ms_rais {ec : Expr} {pos : Pos} {c f : Nat} {as : Es} (hc : X.calm = true) (pa : L2.Takes X t.W) (hf : f < t.tn.n) (hm : L2.PMk X ec (L2.tMkO (t.CA c) (xiSp (t.CA c) (t.tn.nm f)) [] (tA T F t X.K as))) :
    PS X (.Raise (some ec) none pos) (tS T F t X.K (.rais c [f] as)) := by
  refine PS.imp (L2.ps_raise hc pa hm) fun D τ H ⟨σ, h, hs, hr, z⟩ => ?_
  unfold wS at z
  refine ⟨σ, h, hs, hr, wEs_mono mF as _ _ _ _ _ _ (fun ws h1 e => ?_) XW.id z⟩
  intro vs H1 r1 va k1
  obtain ⟨el, ex⟩ := e
  match ws, el, va, ex with
  | [w], _, .cons rv .nil, ex =>
    rename_i v
    refine ⟨by show 1 ≤ 1000; omega, fun a na => ⟨a, v, rfl, L2.upd_same, fun dx nd ne => ⟨rfl, dx, [(t.tn.nm f, v)], L2.upd_same, by rw [L2.upd_ne ne, L2.upd_same], by rw [L2.upd_ne ne] at nd; exact nd, ?_⟩⟩⟩
    rw [L2.upd_ne ne] at nd
    rw [del_upd na ne]
    obtain ⟨g1, g2⟩ := go_hid (t := t) (K := X.K) r1 (u := .xd [(t.tn.nm f, v)]) nd
    exact ex dx _ _ g1 (.cons hf (rv.mono (g2.tk r1)) .nil) L2.upd_same (k1.trans g2)
end
open PySem.W PySem.Calls
section
variable {T : Tab} {F : Fn} {t : Tx} {X : L2.Cx} (mF : Mo F)
include mF
theorem ms_raisX {x : Str} {e : Expr} {p pos pos' : Pos} {c f k : Nat} {as : Es} (hc : X.calm = true) (pa : L2.Takes X t.W) (hf : f < t.tn.n) (xc : Xc1 X.prog X.K X.mg (t.CA c) (t.tn.nm f)) (hr : L2.Room (k + 2) X.A) (hg : L2.Gl X x) (hm : X.mg x = some (.ref (t.CA c))) (ha : L2.PA X [e] (tA T F t X.K as))
    (hdb : (x == ("__debug__" : Str)) = false := by decide) (he : starEach [e] X.env = (false, eval e X.env) :: starEach [] X.env := by rfl) (hpl : (backTo pos (starEach [] X.env)).any (·.1) = false := by rfl) :
    L2.PS X (.Raise (some (.Call (.Name x p) [e] [] pos)) none pos') (tS T F t X.K (.rais c [f] as)) := by
  obtain ⟨fI, fd, iC, tI, xk, hb⟩ := xc.ex
  exact ms_rais mF hc pa hf (L2.pmk_oex (CX := L2.CX0) xc.T iC tI (fn_xinit (k := k) xk) hr hb .nil L2.pass0 hg hm ha hdb he hpl)
end
/-! ### the items of a tuple in an except suite: texts, fields of the caught exception -/
inductive XT (t : Tx) (X : L2.Cx) (c i : Nat) (n : Str) : List Expr → List (Sum Nat W) → Prop
  | nil : XT t X c i n [] []
  | str {s : Str} {j : _} {pos : Pos} {es : List Expr} {tp : List (Sum Nat W)} (r : XT t X c i n es tp) (hs : starEach (.Constant (.str s) j pos :: es) X.env = (false, eval (.Constant (.str s) j pos) X.env) :: starEach es X.env := by rfl) : XT t X c i n (.Constant (.str s) j pos :: es) (.inr (.str s) :: tp)
  | fld {f : Nat} {y : Str} {p pos : Pos} {es : List Expr} {tp : List (Sum Nat W)} (hf : f < t.n ∧ L2.XfC X.K (t.CA c) ∧ PySem.W.findIn X.K (.ref (t.CA c)) (t.nm f) = some none) (r : XT t X c i n es tp) (hy : t.nm f = y := by rfl) (hb : attributeBase (.Name n p) y X.env (eval (.Name n p) X.env) = eval (.Name n p) X.env := by rfl) (hs : starEach (.Attribute (.Name n p) y pos :: es) X.env = (false, eval (.Attribute (.Name n p) y pos) X.env) :: starEach es X.env := by rfl) : XT t X c i n (.Attribute (.Name n p) y pos :: es) (.inl f :: tp)
theorem XT.go {t : Tx} {X : L2.Cx} {c i : Nat} {n : Str} {es : List Expr} {tp : List (Sum Nat W)} (hi : X.N[i]? = some n) (hv : L2.Vis X.env.scope n) (hd : (n == ("__debug__" : Str)) = false) (hcd : (n == ("__classdict__" : Str)) = false) (h : XT t X c i n es tp) : ∃ ta : Addr → Value → Option Addr → TA,
    (∀ (a : Addr) (oe : Obj) (cls : Value) (d : Option Addr) (pn : List (Addr × Obj)), Zc cls d oe → (∃ vs, oe.data = .fields vs) → L2.PA (X.suite a ((a, oe) :: pn)) es (ta a cls d)) ∧
    ∀ a dd gs fs ws τ H Q, τ[i]? = some (some (.ref a)) → H dd = some (.xd gs) → FR t X.K H fs gs → tplW fs tp = some ws → (∀ vs, VA X.K H ws vs → Q vs H) → ta a (.ref (t.CA c)) (some dd) τ H Q := by
  induction h with
  | nil =>
    refine ⟨fun _ _ _ => L2.tNil, fun _ _ _ _ _ _ _ => L2.pa_nil, fun a dd gs fs ws τ H Q e1 e2 r e q => ?_⟩
    cases e
    exact q [] .nil
  | str r hs ih =>
    rename_i s j pos es tp
    obtain ⟨ta, h1, h2⟩ := ih
    refine ⟨fun a cls d => L2.tCons (L2.tC (.str s)) (ta a cls d), fun a oe cls d pn hz hf => L2.pa_cons L2.pe_str (h1 a oe cls d pn hz hf) hs, fun a dd gs fs ws τ H Q e1 e2 r e q => ?_⟩
    unfold tplW mapO at e
    cases e3 : tplW fs tp with
    | none => unfold tplW at e3; rw [e3] at e; cases e
    | some us =>
      have e4 := e3
      unfold tplW at e3
      rw [e3] at e
      cases e
      exact h2 a dd gs fs us τ H _ e1 e2 r e4 fun vs va => q _ (.cons (.str s) va)
  | fld hf r hy hb hs ih =>
    rename_i f y p pos es tp
    subst hy
    obtain ⟨ta, h1, h2⟩ := ih
    refine ⟨fun a cls d => L2.tCons (L2.tXf a cls d (t.CA c) (t.nm f) (L2.tVar i)) (ta a cls d), fun a oe cls d pn hz hfs => L2.pa_cons (L2.pe_xf hf.2.1 hf.2.2 hz hfs (L2.pe_var hi hv hd hcd) hb) (h1 a oe cls d pn hz hfs) hs, fun a dd gs fs ws τ H Q e1 e2 r e q => ?_⟩
    unfold tplW mapO at e
    cases e0 : getF fs f with
    | none => simp only [e0] at e; cases e
    | some w =>
      simp only [e0] at e
      cases e3 : tplW fs tp with
      | none => unfold tplW at e3; rw [e3] at e; cases e
      | some us =>
        have e4 := e3
        unfold tplW at e3
        rw [e3] at e
        cases e
        obtain ⟨v, l, rv⟩ := r.get hf.1 e0
        exact ⟨_, e1, rfl, rfl, dd, gs, v, rfl, e2, l, h2 a dd gs fs us τ H _ e1 e2 r e4 fun vs va => q _ (.cons rv va)⟩
section
variable {Y : Txt} {X : L2.Cx} {d : Nat} {Wx : L2.WX}
theorem z_rais {x : Str} {e : Expr} {p pos pos' : Pos} {as : Es} (Z : Zx Y X d) (pa : Pa X (Y.t X.K Wx)) (hr : L2.Room (2 * d + 3) X.A) (c f k j : Nat) (ha : L2.PA X [e] (tA Y.T (Y.F d) (Y.t X.K Wx) X.K as)) (hk : Y.D.xfl[k]? = some (c, f) := by rfl) (hx : Y.D.gl[j]? = some x := by rfl) (hc : cna Y.D c = x := by rfl) (hcalm : X.calm = true := by rfl) (hg : L2.Gl X x := by rfl)
    (hdb : (x == ("__debug__" : Str)) = false := by decide) (he : starEach [e] X.env = (false, eval e X.env) :: starEach [] X.env := by rfl) (hpl : (backTo pos (starEach [] X.env)).any (·.1) = false := by rfl) :
    L2.PS X (.Raise (some (.Call (.Name x p) [e] [] pos)) none pos') (tS Y.T (Y.F d) (Y.t X.K Wx) X.K (.rais c [f] as)) := by
  obtain ⟨h1, h2⟩ := Z.xcl c f (List.mem_of_getElem? hk)
  exact ms_raisX (k := 0) Z.mF hcalm pa.tk h1 h2 (hr.mono (by omega)) hg (by have := Z.g j hx; rw [this, ← hc]) ha hdb he hpl
theorem z_try {st : Stmt} {r0 : List Stmt} {es : List Expr} {x n y : Str} {np yp pos pos' ap tp0 : Pos} {kk : _} {ms : S} {mr : Ss} {asg : List Nat} {tp : List (Sum Nat W)} (Z : Zx Y X d) (pa : Pa X (Y.t X.K Wx)) (nd : X.N.Nodup) (c i j g : Nat)
    (hb : ∀ (W : WX) (pn : List (Addr × Obj)) (xe : Value → Shared → Prop), Pa (X.tr pn xe) (Y.t X.K W) → PS (X.tr pn xe) st (tS Y.T (Y.F d) (Y.t X.K W) X.K ms))
    (hr : ∀ (pn : List (Addr × Obj)) (xe : Value → Shared → Prop), PSs (X.tr pn xe) r0 (tSs Y.T (Y.F d) (Y.t X.K Wx).no X.K mr))
    (xt : XT (Y.t X.K Wx) X c i n es tp) (hx : Y.D.gl[g]? = some x := by rfl) (hc : cna Y.D c = x := by rfl) (hex : Y.T.exOk c = true := by rfl) (hi : X.N[i]? = some n := by rfl) (hj : X.N[j]? = some y := by rfl) (hij : j ≠ i := by decide) (hl : tp.length ≤ 100 := by decide)
    (hg : L2.Gl X x := by rfl) (hdb : (x == ("__debug__" : Str)) = false := by decide) (hs : X.stack = X.env :: X.outer := by rfl) (hf : X.env.frame = some X.env.locals := by rfl) (hln : X.env.kindOf n = some .local := by rfl)
    (hv : L2.Vis X.env.scope n := by first | exact Or.inl rfl | exact Or.inr (Or.inl rfl) | exact Or.inr (Or.inr rfl)) (hd : (n == ("__debug__" : Str)) = false := by decide) (hcd : (n == ("__classdict__" : Str)) = false := by decide) (hly : L2.Loc X.env.scope y := by exact Or.inl rfl)
    (hsw : swapsWith (.Tuple es kk tp0) (some (.Name y yp)) ap.line X.env = pure false := by rfl) (hfn : X.fn y = true ∨ X.env.scope.names.lookup y = some .local := by first | exact .inl rfl | exact .inr rfl) :
    PS X (.Try (st :: r0) [.ExceptHandler (some (.Name x np)) (some n) [.Assign [.Name y yp] (.Tuple es kk tp0) ap] pos'] [] [] pos) (tS Y.T (Y.F d) (Y.t X.K Wx) X.K (.tr ms mr asg [⟨c, i, j, tp⟩])) := by
  obtain ⟨ta, h1, h2⟩ := xt.go hi hv hd hcd
  refine ms_try Z.mF pa hs hf nd hi hln ⟨hg, hdb, .inl (by have := Z.g g hx; rw [this, ← hc])⟩ hij hl (fun c' ok => Z.says.exm ok hex) hb hr (fun a oe cls d pn hz hfs => L2.ps_set nd hj hly (L2.pe_tup (h1 a oe cls d pn hz hfs)) hsw hfn) h2
end
theorem ms_ownS {T : Tab} {F : Fn} {t : Tx} {X : L2.Cx} {st : Stmt} {g : Tg} {m : E} (h : L2.PS X st (tS T F t X.K (.asg g m))) : L2.PS X st (tS T F t X.K (.asg g (.own m))) := PS.imp h fun D τ H ⟨σ, h, hs, hr, z⟩ => by
  refine ⟨σ, h, hs, hr, ?_⟩
  unfold wS at z ⊢
  rw [wE] at z
  exact z
end Mi
set_option maxHeartbeats 4000000
/-! Pv: the same small language, read as a function over plain values: lists, dicts and instances that change no more are values; those that may change lie in a store of their own; draws are asked. -/
namespace Pv
open PySem Mi
inductive Nd where
  | tup | lst | dct | ins (c : Nat) (fs : List Nat)
  deriving DecidableEq
inductive D where
  | non | bl (b : Bool) | int (i : Int) | str (s : Str) | nd (k : Nd) (xs : List D) | ref (n : Nat) | drw
abbrev Ob := Nd × List D
abbrev Sto := List Ob
abbrev Env := List (Option D)
abbrev D.tup (xs : List D) : D := .nd .tup xs
abbrev D.lst (xs : List D) : D := .nd .lst xs
/-- how a piece of code ends -/
inductive Tr (α : Type) where
  | ok (a : α) (s : Sto)
  | exc (c : Nat) (fs : List (Nat × D)) (s : Sto)
  | bad
  | ask (n : Int) (k : Int → Tr α)
def Tr.bind {α β : Type} : Tr α → (α → Sto → Tr β) → Tr β
  | .ok a s, f => f a s
  | .exc c fs s, _ => .exc c fs s
  | .bad, _ => .bad
  | .ask n k, f => .ask n fun i => (k i).bind f
/-- what is let out is no more -/
def Tr.noE {α : Type} : Tr α → Tr α
  | .ok a s => .ok a s
  | .exc _ _ _ => .bad
  | .bad => .bad
  | .ask n k => .ask n fun i => (k i).noE
def Tr.catch_ {α β : Type} : Tr α → (α → Sto → Tr β) → (Nat → List (Nat × D) → Sto → Tr β) → Tr β
  | .ok a s, f, _ => f a s
  | .exc c fs s, _, g => g c fs s
  | .bad, _, _ => .bad
  | .ask n k, f, g => .ask n fun i => (k i).catch_ f g
def Tr.opt {α β : Type} : Option α → (α → Tr β) → Tr β
  | some a, f => f a
  | none, _ => .bad
def AllT {α : Type} : Tr α → (α → Sto → Prop) → (Nat → List (Nat × D) → Sto → Prop) → Prop
  | .ok a s, P, _ => P a s
  | .exc c fs s, _, E => E c fs s
  | .bad, _, _ => False
  | .ask n k, P, E => ∀ i, 0 ≤ i → i < n → AllT (k i) P E
mutual
def ofW : W → Option D
  | .non => some .non
  | .bl b => some (.bl b)
  | .int i => some (.int i)
  | .str s => some (.str s)
  | .tup xs => (ofWs xs).map (.nd .tup)
  | .ref _ => none
def ofWs : List W → Option (List D)
  | [] => some []
  | x :: xs => match ofW x, ofWs xs with
    | some y, some ys => some (y :: ys)
    | _, _ => none
end
mutual
/-- nothing in it lies in the store -/
def clean : D → Bool
  | .nd _ xs => cleans xs
  | .ref _ => false
  | .non => true
  | .bl _ => true
  | .int _ => true
  | .str _ => true
  | .drw => true
def cleans : List D → Bool
  | [] => true
  | x :: xs => clean x && cleans xs
end
mutual
def eqb : D → D → Bool
  | .non, .non => true
  | .bl a, .bl b => a == b
  | .int a, .int b => decide (a = b)
  | .str a, .str b => decide (a = b)
  | .nd k xs, .nd l ys => decide (k = l) && eqbs xs ys
  | .ref a, .ref b => decide (a = b)
  | .drw, .drw => true
  | _, _ => false
def eqbs : List D → List D → Bool
  | [], [] => true
  | x :: xs, y :: ys => eqb x y && eqbs xs ys
  | _, _ => false
end
mutual
/-- no thing in it that changes no more but has a place -/
def flat : D → Bool
  | .nd .tup xs => flats xs
  | .nd _ _ => false
  | .ref _ => true
  | .non => true
  | .bl _ => true
  | .int _ => true
  | .str _ => true
  | .drw => true
def flats : List D → Bool
  | [] => true
  | x :: xs => flat x && flats xs
end
def look (s : Sto) : D → Option Ob
  | .nd k xs => some (k, xs)
  | .ref n => s[n]?
  | _ => none
def insC (s : Sto) (x : D) : Option Nat := match look s x with
  | some (.ins c _, _) => some c
  | _ => none
def fzD : Nat → Sto → D → Option D
  | 0, _, .nd _ _ => none
  | 0, _, .ref _ => none
  | n + 1, s, .nd k xs => (mapO (fzD n s) xs).map (.nd k)
  | n + 1, s, .ref m => match s[m]? with
    | some (k, xs) => (mapO (fzD n s) xs).map (.nd k)
    | none => none
  | _, _, d => some d
/-- what may change is taken as it stands -/
def fz (s : Sto) (d : D) : Option D := if clean d = true then some d else fzD 64 s d
def fzFs (s : Sto) : List (Nat × D) → Option (List (Nat × D)) := mapO fun p => (fz s p.2).map fun d => (p.1, d)
def bg (i : Int) : Bool := decide (i.natAbs < 2 ^ 4096)
def mk (lv : Bool) (k : Nd) (xs : List D) (s : Sto) : Tr D := match lv with
  | true => .ok (.ref s.length) (s ++ [(k, xs)])
  | false => .ok (.nd k xs) s
def dt : Nat → Sto → D → Option PyData
  | _, _, .non => some .none
  | _, _, .bl b => some (.bool b)
  | _, _, .int i => some (.int i)
  | _, _, .str x => some (.str x)
  | n + 1, s, .nd .tup xs => (mapO (dt n s) xs).map .tuple
  | n + 1, s, .nd .lst xs => (mapO (dt n s) xs).map .list
  | n + 1, s, .ref m => match s[m]? with
    | some (.lst, xs) => (mapO (dt n s) xs).map .list
    | _ => none
  | _, _, _ => none
abbrev Fv := Nat → List D → Sto → Tr D
section
variable (T : Tab) (F : Fv)
def own2 (o : Bop) (x y : D) (s : Sto) : Tr D := match insC s x, insC s y with
  | some c, some c' => if c = c' then Tr.opt (T.bop c o) fun f => F f [x, y] s else .bad
  | some c, none => (match y with
    | .int _ => Tr.opt (T.bop c o) fun f => F f [x, y] s
    | _ => .bad)
  | none, some c => (match x with
    | .int _ => Tr.opt (T.rbop c o) fun f => F f [y, x] s
    | _ => .bad)
  | none, none => .bad
def vAdd (lv : Bool) (x y : D) (s : Sto) : Tr D := match x, y with
  | .int i, .int j => .ok (.int (i + j)) s
  | .str a, .str b => if a.length + b.length ≤ sizeLine then .ok (.str (a ++ b)) s else .bad
  | x, y => (match look s x, look s y with
    | some (.tup, xs), some (.tup, ys) => if xs.length + ys.length ≤ sizeLine then .ok (.nd .tup (xs ++ ys)) s else .bad
    | some (.lst, xs), some (.lst, ys) => if xs.length + ys.length ≤ sizeLine then mk lv .lst (xs ++ ys) s else .bad
    | _, _ => own2 T F .add x y s)
def vMul (lv : Bool) (x y : D) (s : Sto) : Tr D := match x, y with
  | .int i, .int j => if bg i = true ∧ bg j = true then .ok (.int (i * j)) s else .bad
  | x, .int k => (match look s x with
    | some (.lst, xs) => if -(2 ^ 63) ≤ k ∧ k < 2 ^ 63 ∧ xs.length * k.toNat ≤ sizeLine then mk lv .lst (List.replicate k.toNat xs).flatten s else .bad
    | _ => own2 T F .mul x (.int k) s)
  | x, y => own2 T F .mul x y s
def vBin (lv : Bool) (o : Bop) (x y : D) (s : Sto) : Tr D := match o with
  | .add => vAdd T F lv x y s
  | .sub => (match x, y with
    | .int i, .int j => .ok (.int (i - j)) s
    | x, y => own2 T F .sub x y s)
  | .mul => vMul T F lv x y s
  | .fdiv => (match x, y with
    | .int i, .int j => if j ≠ 0 ∧ bg j = true then .ok (.int (i.fdiv j)) s else .bad
    | x, y => own2 T F .fdiv x y s)
  | .mod => (match x, y with
    | .int i, .int j => if j ≠ 0 then .ok (.int (i.fmod j)) s else .bad
    | x, y => own2 T F .mod x y s)
  | .pow => (match x, y with
    | .int i, .int j => if 0 ≤ j ∧ j ≤ 1000000 ∧ i.natAbs < 2 ^ 64 then .ok (.int (i ^ j.toNat)) s else .bad
    | _, _ => .bad)
/-- a truth, or its contrary -/
def ngB (neg : Bool) (t : Tr D) : Tr D := t.bind fun d s => match d with
  | .bl b => .ok (.bl (if neg then !b else b)) s
  | _ => .bad
def kn (s : Sto) : D → Bool
  | .drw => false
  | x => (match look s x with
    | some (.ins _ _, _) => false
    | some _ => true
    | none => (match x with
      | .ref _ => false
      | _ => true))
def isInt : D → Bool
  | .int _ => true
  | _ => false
def vEq (neg : Bool) (x y : D) (s : Sto) : Tr D := match insC s x, insC s y with
  | none, none => Tr.opt (dt 64 s x) fun d => Tr.opt (dt 64 s y) fun e => if SeqAt.shaped d = true ∧ SeqAt.shaped e = true then .ok (.bl (if neg then !PyData.eqv d e else PyData.eqv d e)) s else .bad
  | some c, none => if kn s y = true then Tr.opt (T.cop c .eq) fun f => ngB neg (F f [x, y] s) else .bad
  | some c, some c' => if c = c' then Tr.opt (T.cop c .eq) fun f => ngB neg (F f [x, y] s) else .bad
  | none, some c => if kn s x = true ∧ (neg = true → isInt x = true) then Tr.opt (T.cop c .eq) fun f => ngB neg (F f [y, x] s) else .bad
def vOrd (o : Cop) (x y : D) (s : Sto) : Tr D := match x, y with
  | .int i, .int j => .ok (.bl (ordI o i j)) s
  | x, y => (match insC s x, insC s y with
    | some c, some c' => if c = c' then Tr.opt (T.cop c o) fun f => F f [x, y] s else .bad
    | some c, none => if isInt y = true then Tr.opt (T.cop c o) fun f => F f [x, y] s else .bad
    | none, some c => if isInt x = true then Tr.opt (T.cop c (swapC o)) fun f => F f [y, x] s else .bad
    | none, none => .bad)
def fVd : D → Option L2.V
  | .non => some .non
  | .bl b => some (.bl b)
  | .int i => some (.int i)
  | .str s => some (.str s)
  | _ => none
def inLD (s : Sto) (y : D) : Option (List D) := match look s y with
  | some (.tup, xs) => some xs
  | some (.lst, xs) => some xs
  | _ => none
def vIn (neg : Bool) (x y : D) (s : Sto) : Tr D := match x, y with
  | .str a, .str z => .ok (.bl (if neg then !(!(Builtin.Str.occurrences z a 0 z.length 1).isEmpty) else !(Builtin.Str.occurrences z a 0 z.length 1).isEmpty)) s
  | x, y => Tr.opt (inLD s y) fun ys => Tr.opt (fVd x) fun v => Tr.opt (mapO fVd ys) fun vs => .ok (.bl (if neg then !L2.inV v vs else L2.inV v vs)) s
def isNon : D → Bool
  | .non => true
  | _ => false
def vCmp (o : Cop) (x y : D) (s : Sto) : Tr D := match o with
  | .eq => vEq T F false x y s
  | .ne => vEq T F true x y s
  | .isin => vIn false x y s
  | .notin => vIn true x y s
  | .isfls => (match x with
    | .bl b => .ok (.bl (!b)) s
    | _ => .bad)
  | .isnon => .ok (.bl (isNon x)) s
  | .notnon => .ok (.bl (!isNon x)) s
  | .lt => vOrd T F .lt x y s
  | .le => vOrd T F .le x y s
  | .gt => vOrd T F .gt x y s
  | .ge => vOrd T F .ge x y s
def vNeg (x : D) (s : Sto) : Tr D := match x with
  | .int i => .ok (.int (-i)) s
  | x => Tr.opt (insC s x) fun c => Tr.opt (T.neg c) fun f => F f [x] s
def vIdx (x y : D) (s : Sto) : Tr D := match x, y with
  | .str a, .int i => if a.length ≤ sizeLine then Tr.opt (L2.atI a.cps.toList i) fun c => .ok (.str ⟨#[c]⟩) s else .bad
  | x, .int i => (match look s x with
    | some (.tup, xs) => Tr.opt (L2.atI xs i) fun v => .ok v s
    | some (.lst, xs) => Tr.opt (L2.atI xs i) fun v => .ok v s
    | _ => .bad)
  | _, _ => .bad
def vSl (lv : Bool) (x : D) (lo hi : Option Int) (s : Sto) : Tr D := match x with
  | .str z => if z.length ≤ sizeLine then .ok (.str (L2.cutS z lo hi)) s else .bad
  | x => (match look s x with
    | some (.tup, xs) => .ok (.nd .tup (cut xs lo hi)) s
    | some (.lst, xs) => mk lv .lst (cut xs lo hi) s
    | _ => .bad)
def getN : List Nat → List D → Nat → Option D
  | g :: gs, x :: xs, f => if g = f then some x else getN gs xs f
  | _, _, _ => none
def putN : List Nat → List D → Nat → D → List Nat × List D
  | g :: gs, x :: xs, f, v => if g = f then (g :: gs, v :: xs) else let r := putN gs xs f v; (g :: r.1, x :: r.2)
  | _, _, f, v => ([f], [v])
def vFld (x : D) (f : Nat) (s : Sto) : Tr D := match look s x with
  | some (.ins c fs, xs) => if T.fldOk c f = true then Tr.opt (getN fs xs f) fun v => .ok v s else .bad
  | _ => .bad
def boolsD : List D → Option (List Bool) := mapO fun
  | .bl b => some b
  | _ => none
def chrD (z : Str) : List D := z.cps.toList.map fun c => .str ⟨#[c]⟩
def strsD : List D → Option (List Str) := mapO fun
  | .str b => some b
  | _ => none
def vBif (lv : Bool) (b : Bif) (vs : List D) (s : Sto) : Tr D := match b, vs with
  | .len, [.str x] => if x.length ≤ sizeLine then .ok (.int x.length) s else .bad
  | .len, [x] => (match look s x with
    | some (.tup, xs) => .ok (.int xs.length) s
    | some (.lst, xs) => .ok (.int xs.length) s
    | _ => .bad)
  | .abs, [.int i] => .ok (.int (if i < 0 then -i else i)) s
  | .abs, [x] => Tr.opt (insC s x) fun c => Tr.opt (T.abs c) fun f => F f [x] s
  | .int, [.int i] => .ok (.int i) s
  | .int, [.str a] => if a.length ≤ 640 then Tr.opt (PySem.intText? a) fun n => .ok (.int n) s else .bad
  | .tuple, [x] => (match look s x with
    | some (.tup, xs) => .ok (.nd .tup xs) s
    | some (.lst, xs) => .ok (.nd .tup xs) s
    | _ => .bad)
  | .list, [.str z] => if z.cps.size ≤ sizeLine then mk lv .lst (chrD z) s else .bad
  | .list, [x] => (match look s x with
    | some (.tup, xs) => mk lv .lst xs s
    | some (.lst, xs) => mk lv .lst xs s
    | _ => .bad)
  | .str, [.int i] => if i.natAbs.log2 < 1920 then .ok (.str (toString i)) s else .bad
  | .str, [.str x] => .ok (.str x) s
  | .all, [x] => (match look s x with
    | some (.lst, xs) => Tr.opt (boolsD xs) fun bs => .ok (.bl (bs.all id)) s
    | _ => .bad)
  | .any, [x] => (match look s x with
    | some (.lst, xs) => Tr.opt (boolsD xs) fun bs => .ok (.bl (bs.any id)) s
    | _ => .bad)
  | _, _ => .bad
def vBm (lv : Bool) (m : Bm) (x : D) (vs : List D) (s : Sto) : Tr D := match m, x, vs with
  | .append, .ref n, [v] => (match s[n]? with
    | some (.lst, xs) => if xs.length < sizeLine then .ok .non (s.set n (.lst, xs ++ [v])) else .bad
    | _ => .bad)
  | .split, .str a, [.str b] => if (b.length == 0) = false ∧ a.length + 2 ≤ sizeLine then mk lv .lst ((Txt.split a b).map D.str) s else .bad
  | .sindex, .str a, [.str b] => (match Builtin.Str.occurrences a b 0 a.length 1 with
    | i :: _ => .ok (.int (i : Nat)) s
    | [] => .bad)
  | .join, .str a, [x] => (match look s x with
    | some (.lst, xs) => Tr.opt (strsD xs) fun ys => if (ys.map (·.length)).sum + ys.length * a.length ≤ 16777216 then .ok (.str (Txt.join a ys)) s else .bad
    | _ => .bad)
  | _, _, _ => .bad
def rcvD (s : Sto) (x : D) : Bm → Bool
  | .append => (match x with
    | .ref n => (match s[n]? with
      | some (.lst, _) => true
      | _ => false)
    | _ => false)
  | .split => (match x with
    | .str _ => true
    | _ => false)
  | .sindex => (match x with
    | .str _ => true
    | _ => false)
  | .join => (match x with
    | .str _ => true
    | _ => false)
  | _ => false
def isOfD (s : Sto) (x : D) : Cl → Bool
  | .int => (match x with
    | .int _ => true
    | .bl _ => true
    | _ => false)
  | .bool => (match x with
    | .bl _ => true
    | _ => false)
  | .str => (match x with
    | .str _ => true
    | _ => false)
  | .tuple => (match look s x with
    | some (.tup, _) => true
    | _ => false)
  | .list => (match look s x with
    | some (.lst, _) => true
    | _ => false)
  | .dict => (match look s x with
    | some (.dct, _) => true
    | _ => false)
  | .own c => (match insC s x with
    | some c' => T.sub c' c
    | none => false)
def knownD (s : Sto) : D → Bool
  | .drw => false
  | x => (match look s x with
    | some (.ins c _, _) => T.clsOk c
    | some _ => true
    | none => (match x with
      | .ref _ => false
      | _ => true))
/-- what is walked: its items; what must not change meanwhile -/
structure Src where
  xs : List D
  g : List (Nat × Ob)
  tp : Bool
def seqD (s : Sto) (x : D) : Option Src := match x with
  | .nd .tup xs => some ⟨xs, [], true⟩
  | .nd .lst xs => some ⟨xs, [], false⟩
  | .ref n => (match s[n]? with
    | some (.lst, xs) => if flats xs = true then some ⟨xs, [(n, (.lst, xs))], false⟩ else none
    | _ => none)
  | _ => none
def grd (g : List (Nat × Ob)) (s : Sto) : Bool := g.all fun p => match s[p.1]? with
  | some o => decide (o.1 = p.2.1) && eqbs o.2 p.2.2
  | none => false
def enumD : Nat → List D → List D
  | _, [] => []
  | n, x :: xs => .nd .tup [.int n, x] :: enumD (n + 1) xs
def zipD : List D → List D → List D
  | x :: xs, y :: ys => .nd .tup [x, y] :: zipD xs ys
  | _, _ => []
def rngD (lo : Int) : Nat → List D
  | 0 => []
  | n + 1 => .int lo :: rngD (lo + 1) n
def lcT (g : List (Nat × Ob)) (step : D → Sto → Tr (Option D)) : List D → List D → Sto → Tr (List D)
  | [], acc, s => if grd g s = true then .ok acc s else .bad
  | x :: xs, acc, s => if grd g s = true then (step x s).bind fun r s1 => match r with
    | some v => if acc.length < sizeLine then lcT g step xs (acc ++ [v]) s1 else .bad
    | none => lcT g step xs acc s1
    else .bad
def wipeD (σ : Env) : List Nat → Env
  | [] => σ
  | i :: r => (wipeD σ r).set i none
def argsD (vs : List D) : List (Sum Nat W) → Option (List D) := mapO fun
  | .inl i => vs[i]?
  | .inr w => ofW w
/-- a text, as said to the readings: classes that change no more once made, functions that change nothing -/
structure Cfg where
  fzc : Nat → Bool
  pu : Nat → Bool
variable (C : Cfg)
/-- behind a call that has its own store -/
def clo (s : Sto) : Tr D → Tr D
  | .ok d s' => (match fz s' d with
    | some d' => .ok d' s
    | none => .bad)
  | .exc c fs s' => (match fzFs s' fs with
    | some fs' => .exc c fs' s
    | none => .bad)
  | .bad => .bad
  | .ask n k => .ask n fun i => clo s (k i)
def vMake (c f : Nat) (vs : List D) (s : Sto) : Tr D :=
  if C.fzc c = true then
    if cleans vs = true then clo s ((F f (.ref 0 :: vs) [(.ins c [], [])]).bind fun r s' => if isNon r = true then .ok (.ref 0) s' else .bad)
    else .bad
  else (F f (.ref s.length :: vs) (s ++ [(.ins c [], [])])).bind fun r s' => if isNon r = true then .ok (.ref s.length) s' else .bad
def brT {α : Type} (x : D) (a b : Tr α) : Tr α := match x with
  | .bl true => a
  | .bl false => b
  | _ => .bad
mutual
def vE (lv : Bool) : E → Env → Sto → Tr D
  | .var i, σ, s => (match σ[i]? with
    | some (some d) => .ok d s
    | _ => .bad)
  | .cst w, _, s => Tr.opt (ofW w) fun d => .ok d s
  | .bin o a b, σ, s => (vE false a σ s).bind fun x s1 => (vE false b σ s1).bind fun y s2 => vBin T F lv o x y s2
  | .neg a, σ, s => (vE false a σ s).bind fun x s1 => vNeg T F x s1
  | .cmp o a b, σ, s => (vE false a σ s).bind fun x s1 => (vE false b σ s1).bind fun y s2 => vCmp T F o x y s2
  | .cmp2 o p a b c, σ, s => (vE false a σ s).bind fun x s1 => (vE false b σ s1).bind fun y s2 => (vCmp T F o x y s2).bind fun r s3 => brT r ((vE false c σ s3).bind fun z s4 => vCmp T F p y z s4) (.ok (.bl false) s3)
  | .and a b, σ, s => (vE false a σ s).bind fun x s1 => brT x (vE false b σ s1) (.ok (.bl false) s1)
  | .or a b, σ, s => (vE false a σ s).bind fun x s1 => brT x (.ok (.bl true) s1) (vE false b σ s1)
  | .not a, σ, s => (vE false a σ s).bind fun x s1 => brT x (.ok (.bl false) s1) (.ok (.bl true) s1)
  | .ite c a b, σ, s => (vE false c σ s).bind fun x s1 => brT x (vE lv a σ s1) (vE lv b σ s1)
  | .tup es, σ, s => (vEs es σ s).bind fun vs s1 => .ok (.nd .tup vs) s1
  | .lst es, σ, s => (vEs es σ s).bind fun vs s1 => mk lv .lst vs s1
  | .dct ps, σ, s => (match ps with
    | .nil => mk lv .dct [] s
    | .cons _ _ => .bad)
  | .fmt e, σ, s => (vE false e σ s).bind fun x s1 => (match x with
    | .str y => if y.length ≤ sizeLine then .ok (.str y) s1 else .bad
    | .int i => if i.natAbs.log2 < 1920 then .ok (.str (toString i)) s1 else .bad
    | _ => .bad)
  | .js es, σ, s => (vJ es Str.empty σ s).bind fun x s1 => .ok (.str x) s1
  | .idx a i, σ, s => (vE false a σ s).bind fun x s1 => (vE false i σ s1).bind fun y s2 => vIdx x y s2
  | .sl a lo hi, σ, s => (vE false a σ s).bind fun x s1 => (vEo lo σ s1).bind fun l s2 => (vEo hi σ s2).bind fun u s3 => vSl lv x l u s3
  | .fld a f, σ, s => (vE false a σ s).bind fun x s1 => vFld T x f s1
  | .call f as ds, σ, s => (vEs as σ s).bind fun vs s1 => Tr.opt (ofWs ds) fun us => F f (vs ++ us) s1
  | .callK f as g, σ, s => (vEs as σ s).bind fun vs s1 => Tr.opt (argsD vs g) fun us => F f us s1
  | .make c f as ds, σ, s => (vEs as σ s).bind fun vs s1 => Tr.opt (ofWs ds) fun us => vMake F C c f (vs ++ us) s1
  | .makeK c f as g, σ, s => (vEs as σ s).bind fun vs s1 => Tr.opt (argsD vs g) fun us => vMake F C c f us s1
  | .meth o m as, σ, s => (vE false o σ s).bind fun x s1 => (match look s1 x with
    | some (.ins c fs, _) => if fs.contains m = false then Tr.opt (T.meth c m) fun f => (vEs as σ s1).bind fun vs s2 => F f (x :: vs) s2 else .bad
    | _ => .bad)
  | .bif b as, σ, s => (vEs as σ s).bind fun vs s1 => vBif T F lv b vs s1
  | .bm m o as, σ, s => (vE false o σ s).bind fun x s1 => if rcvD s1 x m = true then (vEs as σ s1).bind fun vs s2 => vBm lv m x vs s2 else .bad
  | .isi a cs, σ, s => (vE false a σ s).bind fun x s1 => if knownD T s1 x = true then .ok (.bl (cs.any (isOfD T s1 x))) s1 else .bad
  | .lc e tg it ifs own, σ, s => (vI it σ s).bind fun r s1 => ((lcT r.g (fun x s2 => (vTg tg x (wipeD σ own) s2).bind fun σ3 s3 => (vAll ifs σ3 s3).bind fun b s4 => match b with
      | true => (vE false e σ3 s4).bind fun v s5 => .ok (some v) s5
      | false => .ok none s4) r.xs [] s1).noE).bind fun acc s2 => mk lv .lst acc s2
  | .own e, σ, s => vE true e σ s
def vEs : Es → Env → Sto → Tr (List D)
  | .nil, _, s => .ok [] s
  | .cons e r, σ, s => (vE false e σ s).bind fun v s1 => (vEs r σ s1).bind fun vs s2 => .ok (v :: vs) s2
def vJ : Es → Str → Env → Sto → Tr Str
  | .nil, acc, _, s => .ok acc s
  | .cons e r, acc, σ, s => (vE false e σ s).bind fun v s1 => (match v with
    | .str y => if (acc ++ y).length ≤ sizeLine then vJ r (acc ++ y) σ s1 else .bad
    | _ => .bad)
def vAll : Es → Env → Sto → Tr Bool
  | .nil, _, s => .ok true s
  | .cons e r, σ, s => (vE false e σ s).bind fun v s1 => brT v (vAll r σ s1) (.ok false s1)
def vEo : Eo → Env → Sto → Tr (Option Int)
  | .no, _, s => .ok none s
  | .so e, σ, s => (vE false e σ s).bind fun v s1 => (match v with
    | .int i => .ok (some i) s1
    | _ => .bad)
def vI : I → Env → Sto → Tr Src
  | .of e, σ, s => (vE false e σ s).bind fun v s1 => Tr.opt (seqD s1 v) fun r => .ok r s1
  | .rng1 a, σ, s => (vE false a σ s).bind fun v s1 => (match v with
    | .int j => if -(2 ^ 62) ≤ j ∧ j < 2 ^ 62 then .ok ⟨rngD 0 j.toNat, [], true⟩ s1 else .bad
    | _ => .bad)
  | .rng2 a b, σ, s => (vE false a σ s).bind fun v s1 => (vE false b σ s1).bind fun u s2 => (match v, u with
    | .int i, .int j => if -(2 ^ 62) ≤ i ∧ i < 2 ^ 62 ∧ -(2 ^ 62) ≤ j ∧ j < 2 ^ 62 then .ok ⟨rngD i (j - i).toNat, [], true⟩ s2 else .bad
    | _, _ => .bad)
  | .enm a, σ, s => (vE false a σ s).bind fun v s1 => Tr.opt (seqD s1 v) fun r => .ok ⟨enumD 0 r.xs, r.g, true⟩ s1
  | .chr a, σ, s => (vE false a σ s).bind fun v s1 => (match v with
    | .str z => .ok ⟨chrD z, [], true⟩ s1
    | _ => .bad)
  | .zip a b, σ, s => (vE false a σ s).bind fun v s1 => (vE false b σ s1).bind fun u s2 => Tr.opt (seqD s2 v) fun r => Tr.opt (seqD s2 u) fun q => if r.tp = q.tp then .ok ⟨zipD r.xs q.xs, r.g ++ q.g, true⟩ s2 else .bad
def vTg : Tg → D → Env → Sto → Tr Env
  | .nm i, v, σ, s => .ok (σ.set i (some v)) s
  | .fld o f, v, σ, s => (vE false o σ s).bind fun x s1 => (match x with
    | .ref n => (match s1[n]? with
      | some (.ins c fs, xs) => if T.fldOk c f = true ∧ fs.length < 900 then let r := putN fs xs f v; .ok σ (s1.set n (.ins c r.1, r.2)) else .bad
      | _ => .bad)
    | _ => .bad)
  | .sub o i, v, σ, s => (vE false o σ s).bind fun x s1 => (vE false i σ s1).bind fun k s2 => (match x, k with
    | .ref n, .int i => (match s2[n]? with
      | some (.lst, xs) => Tr.opt (L2.ixN xs.length i) fun j => .ok σ (s2.set n (.lst, xs.set j v))
      | _ => .bad)
    | _, _ => .bad)
  | .tp ts, v, σ, s => (match v with
    | .nd .tup xs => if xs.length = tgsLen ts then vTgs ts xs σ s else .bad
    | _ => .bad)
def vTgs : Tgs → List D → Env → Sto → Tr Env
  | .nil, vs, σ, s => (match vs with
    | [] => .ok σ s
    | _ => .bad)
  | .cons t r, vs, σ, s => (match vs with
    | v :: vs => (vTg t v σ s).bind fun σ1 s1 => vTgs r vs σ1 s1
    | [] => .bad)
end
/-- how a statement ends -/
inductive Fl where
  | nx (σ : Env) | rt (d : D) | bk (σ : Env) | ct (σ : Env)
def forT (g : List (Nat × Ob)) (step : D → Env → Sto → Tr Fl) : List D → Env → Sto → Tr Fl
  | [], σ, s => if grd g s = true then .ok (.nx σ) s else .bad
  | x :: xs, σ, s => if grd g s = true then (step x σ s).bind fun r s1 => match r with
    | .nx σ1 => forT g step xs σ1 s1
    | .ct σ1 => forT g step xs σ1 s1
    | .bk σ1 => .ok (.nx σ1) s1
    | .rt d => .ok (.rt d) s1
    else .bad
def whlT (c : Env → Sto → Tr D) (b : Env → Sto → Tr Fl) : Nat → Env → Sto → Tr Fl
  | 0, _, _ => .bad
  | n + 1, σ, s => (c σ s).bind fun x s1 => brT x ((b σ s1).bind fun r s2 => match r with
    | .nx σ2 => whlT c b n σ2 s2
    | .ct σ2 => whlT c b n σ2 s2
    | .bk σ2 => .ok (.nx σ2) s2
    | .rt d => .ok (.rt d) s2) (.ok (.nx σ) s1)
def augI (o : Bop) (x y : D) : Option D := match o, x, y with
  | .add, .int i, .int j => some (.int (i + j))
  | .sub, .int i, .int j => some (.int (i - j))
  | _, _, _ => none
def getP : List (Nat × D) → Nat → Option D
  | [], _ => none
  | (g, v) :: r, f => if g = f then some v else getP r f
def tplD (fs : List (Nat × D)) : List (Sum Nat W) → Option (List D) := mapO fun
  | .inl f => getP fs f
  | .inr w => ofW w
variable (wf : Nat)
mutual
def vS : S → Env → Sto → Tr Fl
  | .asg t e, σ, s => (vE T F C false e σ s).bind fun v s1 => (vTg T F C t v σ s1).bind fun σ2 s2 => .ok (.nx σ2) s2
  | .aug i o e, σ, s => (match σ[i]? with
    | some (some x) => (vE T F C false e σ s).bind fun y s1 => Tr.opt (augI o x y) fun z => .ok (.nx (σ.set i (some z))) s1
    | _ => .bad)
  | .augS a i o e, σ, s => (vE T F C false a σ s).bind fun x s1 => (vE T F C false i σ s1).bind fun k s2 => (match x, k with
    | .ref n, .int i => (match s2[n]? with
      | some (.lst, xs) => Tr.opt (L2.atI xs i) fun u => (vE T F C false e σ s2).bind fun y s3 => Tr.opt (augI o u y) fun z => (match s3[n]? with
        | some (.lst, ys) => Tr.opt (L2.ixN ys.length i) fun j => .ok (.nx σ) (s3.set n (.lst, ys.set j z))
        | _ => .bad)
      | _ => .bad)
    | _, _ => .bad)
  | .augF a f o e, σ, s => (vE T F C false a σ s).bind fun x s1 => (match x with
    | .ref n => (match s1[n]? with
      | some (.ins c fs, xs) => if T.fldOk c f = true then Tr.opt (getN fs xs f) fun u => (vE T F C false e σ s1).bind fun y s2 => Tr.opt (augI o u y) fun z => (match s2[n]? with
        | some (.ins c' gs, ys) => if c' = c ∧ gs.length < 900 then let r := putN gs ys f z; .ok (.nx σ) (s2.set n (.ins c r.1, r.2)) else .bad
        | _ => .bad) else .bad
      | _ => .bad)
    | _ => .bad)
  | .exp e, σ, s => (vE T F C false e σ s).bind fun _ s1 => .ok (.nx σ) s1
  | .ret e, σ, s => (vE T F C false e σ s).bind fun v s1 => .ok (.rt v) s1
  | .retN, _, s => .ok (.rt .non) s
  | .ifs c a b, σ, s => (vE T F C false c σ s).bind fun x s1 => brT x (vSs a σ s1) (vSs b σ s1)
  | .whl c b, σ, s => whlT (vE T F C false c) (vSs b) wf σ s
  | .fr t it b, σ, s => (vI T F C it σ s).bind fun r s1 => forT r.g (fun x σ s => (vTg T F C t x σ s).bind fun σ2 s2 => vSs b σ2 s2) r.xs σ s1
  | .pas, σ, s => .ok (.nx σ) s
  | .brk, σ, s => .ok (.bk σ) s
  | .cont, σ, s => .ok (.ct σ) s
  | .never, _, _ => .bad
  | .rais c fs as, σ, s => (vEs T F C as σ s).bind fun vs s1 => if vs.length = fs.length then .exc c (fs.zip vs) s1 else .bad
  | .tr a r asg hs, σ, s => (vS a σ s).catch_ (fun x s1 => match x with
    | .nx σ1 => (vSs r σ1 s1).noE
    | .rt d => .ok (.rt d) s1
    | .bk σ1 => .ok (.bk σ1) s1
    | .ct σ1 => .ok (.ct σ1) s1) fun c fs s1 => if T.exOk c = true then (match hs.find? (fun H => T.sub c H.c) with
    | some H => if c = H.c ∧ H.i < σ.length then Tr.opt (tplD fs H.tp) fun ds => .ok (.nx ((List.replicate σ.length none).set H.j (some (.nd .tup ds)))) s1 else .bad
    | none => .exc c fs s1) else .bad
def vSs : Ss → Env → Sto → Tr Fl
  | .nil, σ, s => .ok (.nx σ) s
  | .cons a r, σ, s => (vS a σ s).bind fun x s1 => match x with
    | .nx σ1 => vSs r σ1 s1
    | .rt d => .ok (.rt d) s1
    | .bk σ1 => .ok (.bk σ1) s1
    | .ct σ1 => .ok (.ct σ1) s1
end
end
def startD (n : Nat) (ds : List D) : Env := ds.map some ++ List.replicate (n - ds.length) none
def fnR (t : Tr Fl) : Tr D := t.bind fun r s => match r with
  | .nx _ => .ok .non s
  | .rt d => .ok d s
  | _ => .bad
def take (ds : List D) (s : Sto) : Tr D := match ds with
  | [.drw, .int n] => if 0 < n ∧ n < 2 ^ 200 then .ask n fun i => .ok (.int i) s else .bad
  | _ => .bad
def ev (T : Tab) (B : Nat → Option Def) (C : Cfg) (wf : Nat) : Nat → Fv
  | 0 => fun _ _ _ => .bad
  | d + 1 => fun f ds s => if f = 1 then take ds s else match B f with
    | some Df => if ds.length = Df.ar then
        if C.pu f = true then
          if cleans ds = true then clo s (fnR (vSs T (ev T B C wf d) C wf Df.body (startD Df.sl ds) [])) else .bad
        else fnR (vSs T (ev T B C wf d) C wf Df.body (startD Df.sl ds) s)
      else .bad
    | none => .bad
end Pv
set_option maxHeartbeats 4000000
/-! the plain readings and the small language's heap -/
namespace Pv
open PySem Mi
/-- a world: where the store's things lie; what changes no more -/
structure Wd where
  ρ : List Addr
  fz : Hp
structure Wd.Le (a b : Wd) : Prop where
  ρ : ∃ l, b.ρ = a.ρ ++ l
  fz : ∀ x o, a.fz x = some o → b.fz x = some o
theorem Wd.Le.refl {a : Wd} : a.Le a := ⟨⟨[], by simp⟩, fun _ _ e => e⟩
theorem Wd.Le.trans {a b c : Wd} (h : a.Le b) (g : b.Le c) : a.Le c := by
  obtain ⟨⟨l, e⟩, f⟩ := h
  obtain ⟨⟨m, e'⟩, f'⟩ := g
  exact ⟨⟨l ++ m, by rw [e', e, List.append_assoc]⟩, fun x o q => f' x o (f x o q)⟩
theorem Wd.Le.at_ {a b : Wd} (h : a.Le b) {n : Nat} {x : Addr} (e : a.ρ[n]? = some x) : b.ρ[n]? = some x := by
  obtain ⟨⟨l, q⟩, _⟩ := h
  have lt : n < a.ρ.length := (List.getElem?_eq_some_iff.mp e).1
  rw [q, List.getElem?_append_left lt]
  exact e
variable {pd cp : Addr} {cs : List Int}
mutual
inductive VRel (pd : Addr) (ω : Wd) : D → W → Prop
  | non : VRel pd ω .non .non
  | bl (b : Bool) : VRel pd ω (.bl b) (.bl b)
  | int (i : Int) : VRel pd ω (.int i) (.int i)
  | str (s : Str) : VRel pd ω (.str s) (.str s)
  | tup {xs : List D} {ws : List W} : VRels pd ω xs ws → VRel pd ω (.nd .tup xs) (.tup ws)
  | lst {a : Addr} {xs : List D} {ws : List W} : ω.fz a = some (.lst ws) → VRels pd ω xs ws → VRel pd ω (.nd .lst xs) (.ref a)
  | dct {a : Addr} {xs : List D} {kvs : List (W × W)} : ω.fz a = some (.dct kvs) → VRels pd ω xs (kvs.map fun p => W.tup [p.1, p.2]) → VRel pd ω (.nd .dct xs) (.ref a)
  | ins {a : Addr} {c : Nat} {xs : List D} {gs : List (Nat × W)} : ω.fz a = some (.ins c gs) → VRels pd ω xs (gs.map (·.2)) → VRel pd ω (.nd (.ins c (gs.map (·.1))) xs) (.ref a)
  | ref {n : Nat} {a : Addr} : ω.ρ[n]? = some a → VRel pd ω (.ref n) (.ref a)
  | drw : VRel pd ω .drw (.ref pd)
inductive VRels (pd : Addr) (ω : Wd) : List D → List W → Prop
  | nil : VRels pd ω [] []
  | cons {x : D} {w : W} {xs : List D} {ws : List W} : VRel pd ω x w → VRels pd ω xs ws → VRels pd ω (x :: xs) (w :: ws)
end
mutual
theorem VRel.mono {a b : Wd} (h : a.Le b) : ∀ {x : D} {w : W}, VRel pd a x w → VRel pd b x w
  | _, _, .non => .non
  | _, _, .bl b => .bl b
  | _, _, .int i => .int i
  | _, _, .str s => .str s
  | _, _, .tup r => .tup (VRels.mono h r)
  | _, _, .lst e r => .lst (h.fz _ _ e) (VRels.mono h r)
  | _, _, .dct e r => .dct (h.fz _ _ e) (VRels.mono h r)
  | _, _, .ins e r => .ins (h.fz _ _ e) (VRels.mono h r)
  | _, _, .ref e => .ref (h.at_ e)
  | _, _, .drw => .drw
theorem VRels.mono {a b : Wd} (h : a.Le b) : ∀ {x : List D} {w : List W}, VRels pd a x w → VRels pd b x w
  | _, _, .nil => .nil
  | _, _, .cons r q => .cons (VRel.mono h r) (VRels.mono h q)
end
inductive ORel (pd : Addr) (ω : Wd) : Ob → O → Prop
  | lst {xs : List D} {ws : List W} : VRels pd ω xs ws → ORel pd ω (.lst, xs) (.lst ws)
  | dct {xs : List D} {kvs : List (W × W)} : VRels pd ω xs (kvs.map fun p => W.tup [p.1, p.2]) → ORel pd ω (.dct, xs) (.dct kvs)
  | ins {c : Nat} {xs : List D} {gs : List (Nat × W)} : VRels pd ω xs (gs.map (·.2)) → ORel pd ω (.ins c (gs.map (·.1)), xs) (.ins c gs)
theorem ORel.mono {a b : Wd} (h : a.Le b) {x : Ob} {o : O} (r : ORel pd a x o) : ORel pd b x o := by
  cases r with
  | lst r => exact .lst (r.mono h)
  | dct r => exact .dct (r.mono h)
  | ins r => exact .ins (r.mono h)
/-- frozen -/
theorem ORel.val {ω : Wd} {x : Ob} {o : O} {a : Addr} (r : ORel pd ω x o) (e : ω.fz a = some o) : VRel pd ω (.nd x.1 x.2) (.ref a) := by
  cases r with
  | lst r => exact .lst e r
  | dct r => exact .dct e r
  | ins r => exact .ins e r
structure R (pd cp : Addr) (cs : List Int) (ω : Wd) (Fr h : Hp) (s : Sto) : Prop where
  len : ω.ρ.length = s.length
  live : ∀ (n : Nat) (x : Ob), s[n]? = some x → ∃ a o, ω.ρ[n]? = some a ∧ h a = some o ∧ ORel pd ω x o
  inj : ω.ρ.Nodup
  fz : ∀ a o, ω.fz a = some o → h a = some o
  dj : ∀ a, a ∈ ω.ρ → ω.fz a = none
  fr : ∀ a o, Fr a = some o → h a = some o ∧ ω.fz a = none ∧ a ∉ ω.ρ
  st : Sta pd cp cs h
  p1 : ω.fz pd = none
  p2 : pd ∉ ω.ρ
  p3 : cp ∉ ω.ρ
  p4 : Fr pd = none
def SRel (pd : Addr) (ω : Wd) (σ : Env) (τ : St) : Prop := σ.length = τ.length ∧ ∀ (i : Nat) (d : D), σ[i]? = some (some d) → ∃ w, τ[i]? = some (some w) ∧ VRel pd ω d w
theorem SRel.mono {a b : Wd} (h : a.Le b) {σ : Env} {τ : St} (r : SRel pd a σ τ) : SRel pd b σ τ := ⟨r.1, fun i d e => let ⟨w, q, v⟩ := r.2 i d e; ⟨w, q, v.mono h⟩⟩
theorem SRel.set {ω : Wd} {σ : Env} {τ : St} (r : SRel pd ω σ τ) {i : Nat} {d : D} {w : W} (v : VRel pd ω d w) : SRel pd ω (σ.set i (some d)) (τ.set i (some w)) := by
  refine ⟨by simp [r.1], fun j x e => ?_⟩
  by_cases q : i = j
  · subst q
    by_cases l : i < σ.length
    · rw [List.getElem?_set_self l] at e
      cases e
      exact ⟨w, by rw [List.getElem?_set_self (by rw [← r.1]; exact l)], v⟩
    · rw [List.getElem?_eq_none (by simpa using Nat.le_of_not_lt l)] at e
      cases e
  · rw [List.getElem?_set_ne q] at e
    obtain ⟨w', e', v'⟩ := r.2 j x e
    exact ⟨w', by rw [List.getElem?_set_ne q]; exact e', v'⟩
theorem SRel.unset {ω : Wd} {σ : Env} {τ : St} (r : SRel pd ω σ τ) {i : Nat} : SRel pd ω (σ.set i none) (τ.set i none) := by
  refine ⟨by simp [r.1], fun j x e => ?_⟩
  by_cases q : i = j
  · subst q
    by_cases l : i < σ.length
    · rw [List.getElem?_set_self l] at e
      cases e
    · rw [List.getElem?_eq_none (by simpa using Nat.le_of_not_lt l)] at e
      cases e
  · rw [List.getElem?_set_ne q] at e
    obtain ⟨w', e', v'⟩ := r.2 j x e
    exact ⟨w', by rw [List.getElem?_set_ne q]; exact e', v'⟩
theorem SRel.blank {ω : Wd} {n m : Nat} (e : n = m) : SRel pd ω (List.replicate n none) (List.replicate m none) := by
  subst e
  refine ⟨by simp, fun i d h => ?_⟩
  obtain ⟨l, q⟩ := List.getElem?_eq_some_iff.mp h
  simp at q
theorem SRel.wipe {ω : Wd} {σ : Env} {τ : St} (r : SRel pd ω σ τ) : ∀ l : List Nat, SRel pd ω (wipeD σ l) (Mi.wipe τ l)
  | [] => r
  | i :: l => (SRel.wipe r l).unset
/-! ### lists -/
theorem VRels.length {ω : Wd} : ∀ {xs : List D} {ws : List W}, VRels pd ω xs ws → xs.length = ws.length
  | _, _, .nil => rfl
  | _, _, .cons _ a => by simp [a.length]
theorem VRels.append {ω : Wd} : ∀ {xs ys : List D} {ws us : List W}, VRels pd ω xs ws → VRels pd ω ys us → VRels pd ω (xs ++ ys) (ws ++ us)
  | _, _, _, _, .nil, b => b
  | _, _, _, _, .cons r a, b => .cons r (a.append b)
theorem VRels.get {ω : Wd} : ∀ {xs : List D} {ws : List W} {i : Nat} {x : D}, VRels pd ω xs ws → xs[i]? = some x → ∃ w, ws[i]? = some w ∧ VRel pd ω x w
  | _, _, _, _, .nil, e => by simp at e
  | _, _, 0, _, .cons r _, e => by simp at e; subst e; exact ⟨_, rfl, r⟩
  | _, _, i + 1, _, .cons _ a, e => by simpa using a.get (i := i) (by simpa using e)
theorem VRels.atI {ω : Wd} {xs : List D} {ws : List W} {i : Int} {x : D} (a : VRels pd ω xs ws) (e : L2.atI xs i = some x) : ∃ w, L2.atI ws i = some w ∧ VRel pd ω x w := by
  unfold L2.atI at *
  rw [a.length] at e
  cases q : L2.ixN ws.length i with
  | none => rw [q] at e; cases e
  | some j =>
    rw [q] at e
    exact a.get e
theorem VRels.set {ω : Wd} {x : D} {w : W} (r : VRel pd ω x w) : ∀ {xs : List D} {ws : List W} (i : Nat), VRels pd ω xs ws → VRels pd ω (xs.set i x) (ws.set i w)
  | _, _, _, .nil => .nil
  | _, _, 0, .cons _ a => .cons r a
  | _, _, i + 1, .cons q a => .cons q (VRels.set r i a)
theorem VRels.take {ω : Wd} : ∀ {xs : List D} {ws : List W} (n : Nat), VRels pd ω xs ws → VRels pd ω (xs.take n) (ws.take n)
  | _, _, 0, _ => .nil
  | _, _, _ + 1, .nil => .nil
  | _, _, n + 1, .cons r a => .cons r (VRels.take n a)
theorem VRels.drop {ω : Wd} : ∀ {xs : List D} {ws : List W} (n : Nat), VRels pd ω xs ws → VRels pd ω (xs.drop n) (ws.drop n)
  | _, _, 0, a => a
  | _, _, _ + 1, .nil => .nil
  | _, _, n + 1, .cons _ a => VRels.drop n a
theorem VRels.cut {ω : Wd} {xs : List D} {ws : List W} {lo hi : Option Int} (a : VRels pd ω xs ws) : VRels pd ω (Mi.cut xs lo hi) (Mi.cut ws lo hi) := by
  unfold Mi.cut
  rw [a.length]
  exact (a.drop _).take _
theorem VRels.rep {ω : Wd} {xs : List D} {ws : List W} (a : VRels pd ω xs ws) : ∀ k : Nat, VRels pd ω (List.replicate k xs).flatten (List.replicate k ws).flatten
  | 0 => .nil
  | k + 1 => by
    rw [List.replicate_succ, List.replicate_succ, List.flatten_cons, List.flatten_cons]
    exact a.append (VRels.rep a k)
/-! ### values of one kind -/
theorem VRel.int' {ω : Wd} {i : Int} {w : W} (r : VRel pd ω (.int i) w) : w = .int i := by cases r; rfl
theorem VRel.bl' {ω : Wd} {b : Bool} {w : W} (r : VRel pd ω (.bl b) w) : w = .bl b := by cases r; rfl
theorem VRel.str' {ω : Wd} {b : Str} {w : W} (r : VRel pd ω (.str b) w) : w = .str b := by cases r; rfl
theorem VRel.non' {ω : Wd} {w : W} (r : VRel pd ω .non w) : w = .non := by cases r; rfl
/-- how a thing that is looked at lies in the heap -/
inductive Lk (pd : Addr) (ω : Wd) (h : Hp) : Ob → W → Prop
  | tup {xs : List D} {ws : List W} : VRels pd ω xs ws → Lk pd ω h (.tup, xs) (.tup ws)
  | at_ {a : Addr} {x : Ob} {o : O} : h a = some o → ORel pd ω x o → Lk pd ω h x (.ref a)
variable {ω : Wd} {Fr h : Hp} {s : Sto}
theorem R.lk (r : R pd cp cs ω Fr h s) {x : D} {w : W} {ob : Ob} (v : VRel pd ω x w) (e : look s x = some ob) : Lk pd ω h ob w := by
  cases v with
  | tup q => cases e; exact .tup q
  | lst e1 q => cases e; exact .at_ (r.fz _ _ e1) (.lst q)
  | dct e1 q => cases e; exact .at_ (r.fz _ _ e1) (.dct q)
  | ins e1 q => cases e; exact .at_ (r.fz _ _ e1) (.ins q)
  | ref e1 =>
    obtain ⟨a, o, e2, e3, q⟩ := r.live _ _ (show s[_]? = some ob from e)
    rw [e1] at e2
    cases e2
    exact .at_ e3 q
  | non => cases e
  | bl _ => cases e
  | int _ => cases e
  | str _ => cases e
  | drw => cases e
theorem Lk.lst {xs : List D} {w : W} (l : Lk pd ω h (.lst, xs) w) : ∃ a ws, w = .ref a ∧ h a = some (.lst ws) ∧ VRels pd ω xs ws := by
  cases l with
  | at_ e q => cases q with
    | lst q => exact ⟨_, _, rfl, e, q⟩
theorem Lk.tup' {xs : List D} {w : W} (l : Lk pd ω h (.tup, xs) w) : ∃ ws, w = .tup ws ∧ VRels pd ω xs ws := by
  cases l with
  | tup q => exact ⟨_, rfl, q⟩
  | at_ e q => cases q
theorem Lk.ins {c : Nat} {fs : List Nat} {xs : List D} {w : W} (l : Lk pd ω h (.ins c fs, xs) w) : ∃ a gs, w = .ref a ∧ h a = some (.ins c gs) ∧ gs.map (·.1) = fs ∧ VRels pd ω xs (gs.map (·.2)) := by
  cases l with
  | at_ e q => cases q with
    | ins q => exact ⟨_, _, rfl, e, rfl, q⟩
theorem Lk.dct {xs : List D} {w : W} (l : Lk pd ω h (.dct, xs) w) : ∃ a kvs, w = .ref a ∧ h a = some (.dct kvs) ∧ VRels pd ω xs (kvs.map fun p => W.tup [p.1, p.2]) := by
  cases l with
  | at_ e q => cases q with
    | dct q => exact ⟨_, _, rfl, e, q⟩
theorem insC_look {x : D} {c : Nat} (e : insC s x = some c) : ∃ fs xs, look s x = some (.ins c fs, xs) := by
  unfold insC at e
  split at e
  · rename_i q; cases e; exact ⟨_, _, q⟩
  · cases e
theorem R.insC (r : R pd cp cs ω Fr h s) {x : D} {w : W} {c : Nat} (v : VRel pd ω x w) (e : insC s x = some c) : ∃ a gs, w = .ref a ∧ h a = some (.ins c gs) := by
  obtain ⟨fs, xs, e⟩ := insC_look e
  obtain ⟨a, gs, e1, e2, _⟩ := (r.lk v e).ins
  exact ⟨a, gs, e1, e2⟩
theorem R.live' (r : R pd cp cs ω Fr h s) {n : Nat} {a : Addr} (e : ω.ρ[n]? = some a) : ∃ x o, s[n]? = some x ∧ h a = some o ∧ ORel pd ω x o := by
  have lt : n < s.length := by rw [← r.len]; exact (List.getElem?_eq_some_iff.mp e).1
  obtain ⟨b, o, e1, e2, q⟩ := r.live n _ (List.getElem?_eq_getElem lt)
  rw [e] at e1
  cases e1
  exact ⟨_, o, List.getElem?_eq_getElem lt, e2, q⟩
/-- a value whose kind is known is no instance -/
theorem R.noIns (r : R pd cp cs ω Fr h s) {x : D} {w : W} (v : VRel pd ω x w) (hx : x ≠ .drw) (e : Pv.insC s x = none) : isIns h w = none := by
  unfold Pv.insC at e
  cases v with
  | non => rfl
  | bl _ => rfl
  | int _ => rfl
  | str _ => rfl
  | tup _ => rfl
  | lst e1 q => simp [isIns, r.fz _ _ e1]
  | dct e1 q => simp [isIns, r.fz _ _ e1]
  | ins e1 q => simp [look] at e
  | ref e1 =>
    obtain ⟨x, o, e2, e3, q⟩ := r.live' e1
    cases q with
    | lst q => simp [isIns, e3]
    | dct q => simp [isIns, e3]
    | ins q => simp [look, e2] at e
  | drw => exact absurd rfl hx
theorem R.drwL (r : R pd cp cs ω Fr h s) : ∃ xs, h pd = some (.lst xs) := by
  obtain ⟨n, l, m, e, _⟩ := r.st.st
  exact ⟨_, e⟩
theorem R.noIns' (r : R pd cp cs ω Fr h s) {x : D} {w : W} (v : VRel pd ω x w) (e : Pv.insC s x = none) : isIns h w = none := by
  by_cases q : x = .drw
  · subst q
    cases v
    obtain ⟨xs, e⟩ := r.drwL
    simp [isIns, e]
  · exact r.noIns v q e
/-! ### steps of the heap -/
theorem R.free (r : R pd cp cs ω Fr h s) {p : Addr} (n : h p = none) : p ∉ ω.ρ ∧ ω.fz p = none ∧ Fr p = none ∧ p ≠ pd ∧ p ≠ cp := by
  refine ⟨fun m => ?_, ?_, ?_, ?_, ?_⟩
  · obtain ⟨i, e⟩ := List.getElem?_of_mem m
    obtain ⟨_, o, _, e2, _⟩ := r.live' e
    rw [n] at e2
    cases e2
  · cases q : ω.fz p with
    | none => rfl
    | some o => rw [r.fz _ _ q] at n; cases n
  · cases q : Fr p with
    | none => rfl
    | some o => rw [(r.fr _ _ q).1] at n; cases n
  · intro q
    obtain ⟨xs, e⟩ := r.drwL
    rw [q, e] at n
    cases n
  · intro q
    rw [q, r.st.c] at n
    cases n
/-- a new thing that changes no more -/
theorem R.newF (r : R pd cp cs ω Fr h s) {p : Addr} {o : O} (n : h p = none) : R pd cp cs ⟨ω.ρ, upd ω.fz p o⟩ Fr (upd h p o) s ∧ ω.Le ⟨ω.ρ, upd ω.fz p o⟩ := by
  obtain ⟨f1, f2, f3, f4, f5⟩ := r.free n
  have le : ω.Le ⟨ω.ρ, upd ω.fz p o⟩ := ⟨⟨[], by simp⟩, fun x u e => by
    have : x ≠ p := fun q => by rw [q, f2] at e; cases e
    show upd ω.fz p o x = some u
    rw [upd_ne this]
    exact e⟩
  refine ⟨⟨r.len, fun m x e => ?_, r.inj, fun a u e => ?_, fun a m => ?_, fun a u e => ?_, r.st.new n, ?_, r.p2, r.p3, r.p4⟩, le⟩
  · obtain ⟨a, u, e1, e2, q⟩ := r.live m x e
    refine ⟨a, u, e1, ?_, q.mono le⟩
    rw [upd_ne (fun z => by rw [z, n] at e2; cases e2)]
    exact e2
  · show upd h p o a = some u
    have e : upd ω.fz p o a = some u := e
    by_cases q : a = p
    · subst q
      rw [upd_same] at e ⊢
      exact e
    · rw [upd_ne q] at e ⊢
      exact r.fz _ _ e
  · show upd ω.fz p o a = none
    have : a ≠ p := fun q => f1 (by rw [← q]; exact m)
    rw [upd_ne this]
    exact r.dj a m
  · obtain ⟨e1, e2, e3⟩ := r.fr a u e
    have : a ≠ p := fun q => by rw [q, f3] at e; cases e
    refine ⟨by rw [upd_ne this]; exact e1, ?_, e3⟩
    show upd ω.fz p o a = none
    rw [upd_ne this]
    exact e2
  · show upd ω.fz p o pd = none
    rw [upd_ne f4.symm]
    exact r.p1
/-- a new thing of the store -/
theorem R.newL (r : R pd cp cs ω Fr h s) {p : Addr} {o : O} {x : Ob} (n : h p = none) (q : ORel pd ω x o) : R pd cp cs ⟨ω.ρ ++ [p], ω.fz⟩ Fr (upd h p o) (s ++ [x]) ∧ ω.Le ⟨ω.ρ ++ [p], ω.fz⟩ := by
  obtain ⟨f1, f2, f3, f4, f5⟩ := r.free n
  have le : ω.Le ⟨ω.ρ ++ [p], ω.fz⟩ := ⟨⟨[p], rfl⟩, fun _ _ e => e⟩
  refine ⟨⟨by simp [r.len], fun m y e => ?_, ?_, fun a u e => ?_, fun a m => ?_, fun a u e => ?_, r.st.new n, r.p1, ?_, ?_, r.p4⟩, le⟩
  · by_cases lt : m < s.length
    · rw [List.getElem?_append_left lt] at e
      obtain ⟨a, u, e1, e2, q⟩ := r.live m y e
      refine ⟨a, u, le.at_ e1, ?_, q.mono le⟩
      rw [upd_ne (fun z => by rw [z, n] at e2; cases e2)]
      exact e2
    · have lt2 := (List.getElem?_eq_some_iff.mp e).1
      simp at lt2
      have : m = s.length := by omega
      subst this
      simp at e
      subst e
      refine ⟨p, o, ?_, upd_same, q.mono le⟩
      show (ω.ρ ++ [p])[s.length]? = some p
      rw [← r.len]
      simp
  · show (ω.ρ ++ [p]).Nodup
    rw [List.nodup_append]
    refine ⟨r.inj, by simp, fun a m b mb z => ?_⟩
    simp at mb
    subst mb
    subst z
    exact f1 m
  · rw [upd_ne (fun z => by rw [z, f2] at e; cases e)]
    exact r.fz _ _ e
  · have m : a ∈ ω.ρ ++ [p] := m
    rw [List.mem_append, List.mem_singleton] at m
    rcases m with m | rfl
    · exact r.dj a m
    · exact f2
  · obtain ⟨e1, e2, e3⟩ := r.fr a u e
    have : a ≠ p := fun q => by rw [q, f3] at e; cases e
    refine ⟨by rw [upd_ne this]; exact e1, e2, ?_⟩
    show a ∉ ω.ρ ++ [p]
    simp [e3, this]
  · show pd ∉ ω.ρ ++ [p]
    simp [r.p2, f4.symm]
  · show cp ∉ ω.ρ ++ [p]
    simp [r.p3, f5.symm]
theorem Sta.upd {p : Addr} {o : O} (st : Sta pd cp cs h) (h1 : p ≠ pd) (h2 : p ≠ cp) : Sta pd cp cs (Mi.upd h p o) := by
  obtain ⟨⟨nth, left, mx, e1, z⟩, c, ne, cl⟩ := st
  exact ⟨⟨nth, left, mx, by rw [upd_ne h1.symm]; exact e1, z⟩, by rw [upd_ne h2.symm]; exact c, ne, cl⟩
/-- a thing of the store changes -/
theorem R.put (r : R pd cp cs ω Fr h s) {n : Nat} {a : Addr} {o : O} {x : Ob} (e : ω.ρ[n]? = some a) (q : ORel pd ω x o) : R pd cp cs ω Fr (upd h a o) (s.set n x) := by
  have m : a ∈ ω.ρ := List.mem_of_getElem? e
  refine ⟨by simp [r.len], fun k y e1 => ?_, r.inj, fun b u e1 => ?_, r.dj, fun b u e1 => ?_, Sta.upd r.st (fun z => r.p2 (by rw [← z]; exact m)) (fun z => r.p3 (by rw [← z]; exact m)), r.p1, r.p2, r.p3, r.p4⟩
  · by_cases z : n = k
    · subst z
      have lt : n < s.length := by rw [← r.len]; exact (List.getElem?_eq_some_iff.mp e).1
      rw [List.getElem?_set_self lt] at e1
      cases e1
      exact ⟨a, o, e, upd_same, q⟩
    · rw [List.getElem?_set_ne z] at e1
      obtain ⟨b, u, e2, e3, q2⟩ := r.live k y e1
      refine ⟨b, u, e2, ?_, q2⟩
      rw [upd_ne]
      · exact e3
      · intro y
        subst y
        have h1 := (List.getElem?_eq_some_iff.mp e)
        have h2 := (List.getElem?_eq_some_iff.mp e2)
        obtain ⟨l1, h1⟩ := h1
        obtain ⟨l2, h2⟩ := h2
        have p := List.pairwise_iff_getElem.mp r.inj
        rcases Nat.lt_trichotomy n k with y | y | y
        · exact p n k l1 l2 y (by rw [h1, h2])
        · exact z y
        · exact p k n l2 l1 y (by rw [h1, h2])
  · rw [upd_ne]
    · exact r.fz _ _ e1
    · intro y
      rw [y, r.dj a m] at e1
      cases e1
  · obtain ⟨e2, e3, e4⟩ := r.fr b u e1
    refine ⟨?_, e3, e4⟩
    rw [upd_ne (fun y => e4 (by rw [y]; exact m))]
    exact e2
/-- a draw -/
theorem R.draw (r : R pd cp cs ω Fr h s) {h' : Hp} (st : Sta pd cp cs h') (le : Le pd h h') : R pd cp cs ω Fr h' s :=
  ⟨r.len, fun n x e => by
    obtain ⟨a, o, e1, e2, q⟩ := r.live n x e
    exact ⟨a, o, e1, le a o (fun z => r.p2 (by rw [← z]; exact List.mem_of_getElem? e1)) e2, q⟩, r.inj, fun a o e => le a o (fun z => by rw [z, r.p1] at e; cases e) (r.fz _ _ e), r.dj, fun a o e => by
    obtain ⟨e1, e2, e3⟩ := r.fr a o e
    exact ⟨le a o (fun z => by rw [z, r.p4] at e; cases e) e1, e2, e3⟩, st, r.p1, r.p2, r.p3, r.p4⟩
/-! ### what follows -/
def Post (pd cp : Addr) (cs : List Int) (ω : Wd) (Fr : Hp) (Q : K1) : D → Sto → Prop := fun d s' => ∀ ω' h' w, ω.Le ω' → R pd cp cs ω' Fr h' s' → VRel pd ω' d w → Q w h'
inductive FRel (pd : Addr) (ω : Wd) : List (Nat × D) → List (Nat × W) → Prop
  | nil : FRel pd ω [] []
  | cons {f : Nat} {d : D} {w : W} {fs : List (Nat × D)} {gs : List (Nat × W)} : VRel pd ω d w → FRel pd ω fs gs → FRel pd ω ((f, d) :: fs) ((f, w) :: gs)
theorem FRel.mono {a b : Wd} (h : a.Le b) {fs : List (Nat × D)} {gs : List (Nat × W)} (r : FRel pd a fs gs) : FRel pd b fs gs := by
  induction r with
  | nil => exact .nil
  | cons v _ ih => exact .cons (v.mono h) ih
def PostX (pd cp : Addr) (cs : List Int) (ω : Wd) (Fr : Hp) (X : XK) : Nat → List (Nat × D) → Sto → Prop := fun c fs s' => ∀ ω' h' gs, ω.Le ω' → R pd cp cs ω' Fr h' s' → FRel pd ω' fs gs → X c gs h'
theorem AllT.bind {α β : Type} {f : α → Sto → Tr β} {P : β → Sto → Prop} {E : Nat → List (Nat × D) → Sto → Prop} : ∀ {t : Tr α}, AllT (t.bind f) P E ↔ AllT t (fun a s => AllT (f a s) P E) E
  | .ok a s => Iff.rfl
  | .exc c fs s => Iff.rfl
  | .bad => Iff.rfl
  | .ask n k => by
    constructor
    · intro z i h1 h2
      exact (AllT.bind (t := k i)).mp (z i h1 h2)
    · intro z i h1 h2
      exact (AllT.bind (t := k i)).mpr (z i h1 h2)
theorem AllT.noE {α : Type} {P : α → Sto → Prop} {E : Nat → List (Nat × D) → Sto → Prop} : ∀ {t : Tr α}, AllT t.noE P E → AllT t P (fun _ _ _ => False)
  | .ok a s, z => z
  | .exc _ _ _, z => z
  | .bad, z => z
  | .ask n k, z => fun i h1 h2 => AllT.noE (z i h1 h2)
theorem AllT.catch_ {α β : Type} {f : α → Sto → Tr β} {g : Nat → List (Nat × D) → Sto → Tr β} {P : β → Sto → Prop} {E : Nat → List (Nat × D) → Sto → Prop} : ∀ {t : Tr α}, AllT (t.catch_ f g) P E → AllT t (fun a s => AllT (f a s) P E) (fun c fs s => AllT (g c fs s) P E)
  | .ok a s, z => z
  | .exc _ _ _, z => z
  | .bad, z => z
  | .ask n k, z => fun i h1 h2 => AllT.catch_ (z i h1 h2)
theorem AllT.mono {α : Type} {P P' : α → Sto → Prop} {E E' : Nat → List (Nat × D) → Sto → Prop} (hp : ∀ a s, P a s → P' a s) (he : ∀ c fs s, E c fs s → E' c fs s) : ∀ {t : Tr α}, AllT t P E → AllT t P' E'
  | .ok a s, z => hp _ _ z
  | .exc c fs s, z => he _ _ _ z
  | .bad, z => z
  | .ask n k, z => fun i h1 h2 => AllT.mono hp he (z i h1 h2)
theorem AllT.opt {α β : Type} {o : Option α} {f : α → Tr β} {P : β → Sto → Prop} {E : Nat → List (Nat × D) → Sto → Prop} (z : AllT (Tr.opt o f) P E) : ∃ a, o = some a ∧ AllT (f a) P E := by
  cases o with
  | none => exact z.elim
  | some a => exact ⟨a, rfl, z⟩
theorem AllT.ite {α : Type} {c : Prop} [Decidable c] {t : Tr α} {P : α → Sto → Prop} {E : Nat → List (Nat × D) → Sto → Prop} (z : AllT (if c then t else .bad) P E) : c ∧ AllT t P E := by
  by_cases q : c
  · rw [if_pos q] at z; exact ⟨q, z⟩
  · rw [if_neg q] at z; exact z.elim
theorem Post.le {ω' : Wd} {Q : K1} {d : D} {s' : Sto} (le : ω.Le ω') (p : Post pd cp cs ω Fr Q d s') : Post pd cp cs ω' Fr Q d s' := fun w1 h1 w l r v => p w1 h1 w (le.trans l) r v
theorem PostX.le {ω' : Wd} {X : XK} {c : Nat} {fs : List (Nat × D)} {s' : Sto} (le : ω.Le ω') (p : PostX pd cp cs ω Fr X c fs s') : PostX pd cp cs ω' Fr X c fs s' := fun w1 h1 w l r v => p w1 h1 w (le.trans l) r v
theorem AllT.le {ω' : Wd} {Q : K1} {X : XK} {t : Tr D} (le : ω.Le ω') (z : AllT t (Post pd cp cs ω Fr Q) (PostX pd cp cs ω Fr X)) : AllT t (Post pd cp cs ω' Fr Q) (PostX pd cp cs ω' Fr X) := z.mono (fun _ _ p => p.le le) (fun _ _ _ p => p.le le)
end Pv
set_option maxHeartbeats 4000000
/-! operations: what the plain reading tells holds in the small language -/
namespace Pv
open PySem Mi
/-- a function of the text does what its plain reading tells -/
def FS (pd cp : Addr) (cs : List Int) (F : Fv) (G : Fn) : Prop := ∀ f ds s ω Fr h ws (Q : K1) (X : XK), R pd cp cs ω Fr h s → VRels pd ω ds ws → AllT (F f ds s) (Post pd cp cs ω Fr Q) (PostX pd cp cs ω Fr X) → G f ws h Q X
section
variable {pd cp : Addr} {cs : List Int} {ω : Wd} {Fr h : Hp} {s : Sto} {T : Tab} {F : Fv} {G : Fn} {Q : K1} {X : XK} (hF : FS pd cp cs F G) (r : R pd cp cs ω Fr h s)
theorem bg_bd {i : Int} (h : bg i = true) : Bd 4096 i := by
  unfold bg at h
  unfold Bd
  exact of_decide_eq_true h
theorem VRels.one {x : D} {ws : List W} (v : VRels pd ω [x] ws) : ∃ w, ws = [w] ∧ VRel pd ω x w := by
  cases v with
  | cons v q => cases q; exact ⟨_, rfl, v⟩
abbrev PP (pd cp : Addr) (cs : List Int) (ω : Wd) (Fr : Hp) (Q : K1) (X : XK) (t : Tr D) : Prop := AllT t (Post pd cp cs ω Fr Q) (PostX pd cp cs ω Fr X)
include r
theorem opt_of {α : Type} {o : Option α} {a : α} {P : α → Prop} (e : o = some a) (p : P a) : Mi.opt o P := by rw [e]; exact p
omit r in
theorem mk_sim {lv : Bool} {xs : List D} {ws : List W} (r : R pd cp cs ω Fr h s) (v : VRels pd ω xs ws) (z : PP pd cp cs ω Fr Q X (mk lv .lst xs s)) : ∀ p, h p = none → Q (.ref p) (upd h p (.lst ws)) := by
  intro p n
  cases lv with
  | true =>
    obtain ⟨r', le⟩ := r.newL (x := (.lst, xs)) n (.lst v)
    refine z _ _ _ le r' (.ref ?_)
    show (ω.ρ ++ [p])[s.length]? = some p
    rw [← r.len]; simp
  | false =>
    obtain ⟨r', le⟩ := r.newF (o := .lst ws) n
    exact z _ _ _ le r' (.lst upd_same (v.mono le))
include hF
theorem own2_sim {o : Bop} {x y : D} {wx wy : W} (vx : VRel pd ω x wx) (vy : VRel pd ω y wy) (z : PP pd cp cs ω Fr Q X (own2 T F o x y s)) :
    (∃ a c gs, wx = .ref a ∧ h a = some (.ins c gs) ∧ ((∃ b gs', wy = .ref b ∧ h b = some (.ins c gs')) ∨ ∃ j, wy = .int j) ∧ Mi.opt (T.bop c o) fun f => G f [wx, wy] h Q X) ∨ (∃ b c gs i, wx = .int i ∧ wy = .ref b ∧ h b = some (.ins c gs) ∧ Mi.opt (T.rbop c o) fun f => G f [wy, wx] h Q X) := by
  unfold own2 at z
  split at z
  · rename_i c c' e1 e2
    obtain ⟨a, gs, rfl, ea⟩ := r.insC vx e1
    obtain ⟨b, gs', rfl, eb⟩ := r.insC vy e2
    obtain ⟨ec', z1⟩ := AllT.ite z
    obtain ⟨f, ef, z2⟩ := AllT.opt z1
    subst ec'
    exact .inl ⟨a, _, gs, rfl, ea, .inl ⟨b, gs', rfl, eb⟩, opt_of r ef (hF _ _ _ _ _ _ _ _ _ r (.cons vx (.cons vy .nil)) z2)⟩
  · rename_i c e1 e2
    obtain ⟨a, gs, rfl, ea⟩ := r.insC vx e1
    split at z
    · cases vy
      obtain ⟨f, ef, z⟩ := AllT.opt z
      exact .inl ⟨a, _, gs, rfl, ea, .inr ⟨_, rfl⟩, opt_of r ef (hF _ _ _ _ _ _ _ _ _ r (.cons vx (.cons (.int _) .nil)) z)⟩
    · exact z.elim
  · rename_i c e1 e2
    obtain ⟨a, gs, rfl, ea⟩ := r.insC vy e2
    split at z
    · cases vx
      obtain ⟨f, ef, z⟩ := AllT.opt z
      exact .inr ⟨a, _, gs, _, rfl, rfl, ea, opt_of r ef (hF _ _ _ _ _ _ _ _ _ r (.cons vy (.cons (.int _) .nil)) z)⟩
    · exact z.elim
  · exact z.elim
theorem own2_sim' {o : Bop} {x y : D} {wx wy : W} (vx : VRel pd ω x wx) (vy : VRel pd ω y wy) (z : PP pd cp cs ω Fr Q X (own2 T F o x y s)) : Mi.own2 T G o wx wy h Q X := by
  rcases own2_sim hF r vx vy z with ⟨a, c, gs, rfl, ea, ⟨b, gs', rfl, eb⟩ | ⟨j, rfl⟩, q⟩ | ⟨b, c, gs, i, rfl, rfl, eb, q⟩
  · simp only [Mi.own2, ea, eb, true_and]; exact q
  · simp only [Mi.own2, ea]; exact q
  · simp only [Mi.own2, eb]; exact q
theorem vAdd_sim {lv : Bool} {x y : D} {wx wy : W} (vx : VRel pd ω x wx) (vy : VRel pd ω y wy) (z : PP pd cp cs ω Fr Q X (vAdd T F lv x y s)) : wAdd T G wx wy h Q X := by
  unfold vAdd at z
  split at z
  · cases vx; cases vy
    exact z _ _ _ .refl r (.int _)
  · cases vx; cases vy
    obtain ⟨l, z⟩ := AllT.ite z
    exact ⟨l, z _ _ _ .refl r (.str _)⟩
  · split at z
    · rename_i e1 e2
      obtain ⟨ws, rfl, q1⟩ := (r.lk vx e1).tup'
      obtain ⟨us, rfl, q2⟩ := (r.lk vy e2).tup'
      obtain ⟨l, z⟩ := AllT.ite z
      exact ⟨by rw [← q1.length, ← q2.length]; exact l, z _ _ _ .refl r (.tup (q1.append q2))⟩
    · rename_i e1 e2
      obtain ⟨a, ws, rfl, ea, q1⟩ := (r.lk vx e1).lst
      obtain ⟨b, us, rfl, eb, q2⟩ := (r.lk vy e2).lst
      obtain ⟨l, z⟩ := AllT.ite z
      simp only [wAdd, ea, eb]
      exact ⟨by rw [← q1.length, ← q2.length]; exact l, mk_sim r (q1.append q2) z⟩
    · have q := own2_sim' hF r vx vy z
      rcases own2_sim hF r vx vy z with ⟨a, c, gs, rfl, ea, ⟨b, gs', rfl, eb⟩ | ⟨j, rfl⟩, _⟩ | ⟨b, c, gs, i, rfl, rfl, eb, _⟩
      · simp only [wAdd, ea, eb]; exact q
      · simp only [wAdd]; exact q
      · simp only [wAdd]; exact q
theorem vMul_sim {lv : Bool} {x y : D} {wx wy : W} (vx : VRel pd ω x wx) (vy : VRel pd ω y wy) (z : PP pd cp cs ω Fr Q X (vMul T F lv x y s)) : wMul T G wx wy h Q X := by
  have big : ∀ i j : Int, bg i = true → bg j = true → IntMulOk i j := fun i j h1 h2 => by
    exact (bg_bd h1).mulOk (bg_bd h2) (by decide)
  unfold vMul at z
  split at z
  · cases vx; cases vy
    obtain ⟨⟨l1, l2⟩, z⟩ := AllT.ite z
    exact ⟨big _ _ l1 l2, z _ _ _ .refl r (.int _)⟩
  · cases vy
    split at z
    · rename_i e1
      obtain ⟨a, ws, rfl, ea, q1⟩ := (r.lk vx e1).lst
      obtain ⟨⟨l1, l2, l3⟩, z⟩ := AllT.ite z
      simp only [wMul, ea]
      exact ⟨l1, l2, by rw [← q1.length]; exact l3, mk_sim r (q1.rep _) z⟩
    · have q := own2_sim' hF r vx (.int _) z
      rcases own2_sim hF r vx (.int _) z with ⟨a, c, gs, rfl, ea, ⟨b, gs', e, eb⟩ | ⟨j, e⟩, _⟩ | ⟨b, c, gs, i, rfl, e, eb, _⟩
      · cases e
      · simp only [wMul, ea]; exact q
      · cases e
  · have q := own2_sim' hF r vx vy z
    rcases own2_sim hF r vx vy z with ⟨a, c, gs, rfl, ea, ⟨b, gs', rfl, eb⟩ | ⟨j, rfl⟩, _⟩ | ⟨b, c, gs, i, rfl, rfl, eb, _⟩
    · simp only [wMul]; exact q
    · simp only [wMul, ea]; exact q
    · simp only [wMul]; exact q
theorem vBin_sim {lv : Bool} {o : Bop} {x y : D} {wx wy : W} (vx : VRel pd ω x wx) (vy : VRel pd ω y wy) (z : PP pd cp cs ω Fr Q X (vBin T F lv o x y s)) : wBin T G o wx wy h Q X := by
  cases o with
  | add => exact vAdd_sim hF r vx vy z
  | mul => exact vMul_sim hF r vx vy z
  | sub =>
    simp only [vBin] at z
    split at z
    · cases vx; cases vy
      exact z _ _ _ .refl r (.int _)
    · have q := own2_sim' hF r vx vy z
      rcases own2_sim hF r vx vy z with ⟨a, c, gs, rfl, ea, ⟨b, gs', rfl, eb⟩ | ⟨j, rfl⟩, _⟩ | ⟨b, c, gs, i, rfl, rfl, eb, _⟩ <;> (simp only [wBin, wSub]; exact q)
  | fdiv =>
    simp only [vBin] at z
    split at z
    · cases vx; cases vy
      obtain ⟨⟨l1, l2⟩, z⟩ := AllT.ite z
      exact ⟨l1, (bg_bd l2).log2 (by decide), z _ _ _ .refl r (.int _)⟩
    · have q := own2_sim' hF r vx vy z
      rcases own2_sim hF r vx vy z with ⟨a, c, gs, rfl, ea, ⟨b, gs', rfl, eb⟩ | ⟨j, rfl⟩, _⟩ | ⟨b, c, gs, i, rfl, rfl, eb, _⟩ <;> (simp only [wBin, wFdiv]; exact q)
  | mod =>
    simp only [vBin] at z
    split at z
    · cases vx; cases vy
      obtain ⟨l1, z⟩ := AllT.ite z
      exact ⟨l1, z _ _ _ .refl r (.int _)⟩
    · have q := own2_sim' hF r vx vy z
      rcases own2_sim hF r vx vy z with ⟨a, c, gs, rfl, ea, ⟨b, gs', rfl, eb⟩ | ⟨j, rfl⟩, _⟩ | ⟨b, c, gs, i, rfl, rfl, eb, _⟩ <;> (simp only [wBin, wMod]; exact q)
  | pow =>
    simp only [vBin] at z
    split at z
    · cases vx; cases vy
      obtain ⟨l1, z⟩ := AllT.ite z
      exact ⟨l1, z _ _ _ .refl r (.int _)⟩
    · exact z.elim
/-! ### comparisons -/
omit hF r in
theorem mapO_dt {n : Nat} {f : D → Option PyData} {g : W → Option PyData} (k : ∀ x w e, VRel pd ω x w → f x = some e → g w = some e) : ∀ {xs : List D} {ws : List W} {es : List PyData}, VRels pd ω xs ws → mapO f xs = some es → mapO g ws = some es
  | _, _, _, .nil, e => e
  | _, _, _, .cons (x := x) (xs := xs) v q, e => by
    unfold mapO at e ⊢
    cases e1 : f x with
    | none => rw [e1] at e; cases e
    | some d =>
      cases e2 : mapO f xs with
      | none => rw [e1, e2] at e; cases e
      | some ds =>
        rw [k _ _ _ v e1, mapO_dt (n := n) k q e2]
        rw [e1, e2] at e
        exact e
omit hF in
theorem dt_sim : ∀ (n : Nat) (x : D) (w : W) (e : PyData), VRel pd ω x w → dt n s x = some e → dat h n w = some e := by
  intro n
  induction n with
  | zero =>
    intro x w e v q
    cases v <;> first | (simp only [dt] at q; simp only [dat]; exact q) | (simp [dt] at q)
  | succ n ih =>
    intro x w e v q
    cases v with
    | non => simp only [dt] at q; simp only [dat]; exact q
    | bl _ => simp only [dt] at q; simp only [dat]; exact q
    | int _ => simp only [dt] at q; simp only [dat]; exact q
    | str _ => simp only [dt] at q; simp only [dat]; exact q
    | tup u =>
      simp only [dt, Option.map_eq_some_iff] at q
      obtain ⟨es, q, rfl⟩ := q
      simp only [dat, mapO_dt (n := 0) ih u q, Option.map_some]
    | lst e1 u =>
      simp only [dt, Option.map_eq_some_iff] at q
      obtain ⟨es, q, rfl⟩ := q
      simp only [dat, r.fz _ _ e1, mapO_dt (n := 0) ih u q, Option.map_some]
    | dct e1 u => simp [dt] at q
    | ins e1 u => simp [dt] at q
    | drw => simp [dt] at q
    | ref e1 =>
      obtain ⟨x, o, e2, e3, u⟩ := r.live' e1
      simp only [dt, e2] at q
      split at q
      · rename_i xs e4
        cases e4
        cases u with
        | lst u =>
          simp only [Option.map_eq_some_iff] at q
          obtain ⟨es, q, rfl⟩ := q
          simp only [dat, e3, mapO_dt (n := 0) ih u q, Option.map_some]
      · cases q
omit hF in
theorem isIns_some {x : D} {w : W} {c : Nat} (v : VRel pd ω x w) (e : insC s x = some c) : isIns h w = some c := by
  obtain ⟨a, gs, rfl, ea⟩ := r.insC v e
  simp only [isIns, ea]
omit hF in
theorem kn_sim {x : D} {w : W} (v : VRel pd ω x w) (e : kn s x = true) : Mi.kn h w = true := by
  cases v with
  | non => rfl
  | bl _ => rfl
  | int _ => rfl
  | str _ => rfl
  | tup _ => rfl
  | lst e1 _ => simp [Mi.kn, r.fz _ _ e1]
  | dct e1 _ => simp [Mi.kn, r.fz _ _ e1]
  | ins e1 _ => simp [kn, look] at e
  | drw => simp [kn] at e
  | ref e1 =>
    obtain ⟨x, o, e2, e3, u⟩ := r.live' e1
    cases u with
    | lst u => simp [Mi.kn, e3]
    | dct u => simp [Mi.kn, e3]
    | ins u => simp [kn, look, e2] at e
theorem ngB_sim {neg : Bool} {f : Nat} {ds : List D} {ws : List W} (v : VRels pd ω ds ws) (z : PP pd cp cs ω Fr Q X (ngB neg (F f ds s))) : G f ws h (fun r h' => ∃ b, r = .bl b ∧ Q (.bl (if neg then !b else b)) h') X := by
  refine hF _ _ _ _ _ _ _ _ _ r v ((AllT.bind.mp z).mono (fun d s' q => ?_) (fun _ _ _ e => e))
  split at q
  · intro ω' h' w le r' v'
    cases v'
    exact ⟨_, rfl, q _ _ _ le r' (.bl _)⟩
  · exact q.elim
theorem vEq_sim {neg : Bool} {x y : D} {wx wy : W} (vx : VRel pd ω x wx) (vy : VRel pd ω y wy) (z : PP pd cp cs ω Fr Q X (vEq T F neg x y s)) : wEq T G neg wx wy h Q X := by
  unfold vEq at z
  unfold wEq
  split at z
  · rename_i e1 e2
    rw [r.noIns' vx e1, r.noIns' vy e2]
    obtain ⟨d, ed, z⟩ := AllT.opt z
    obtain ⟨e, ee, z⟩ := AllT.opt z
    obtain ⟨⟨l1, l2⟩, z⟩ := AllT.ite z
    exact opt_of r (dt_sim r _ _ _ _ vx ed) (opt_of r (dt_sim r _ _ _ _ vy ee) ⟨l1, l2, z _ _ _ .refl r (.bl _)⟩)
  · rename_i e1 e2
    rw [isIns_some r vx e1, r.noIns' vy e2]
    obtain ⟨l, z⟩ := AllT.ite z
    obtain ⟨f, ef, z⟩ := AllT.opt z
    exact ⟨kn_sim r vy l, opt_of r ef (ngB_sim hF r (.cons vx (.cons vy .nil)) z)⟩
  · rename_i e1 e2
    rw [isIns_some r vx e1, isIns_some r vy e2]
    obtain ⟨l, z⟩ := AllT.ite z
    obtain ⟨f, ef, z⟩ := AllT.opt z
    exact ⟨l, opt_of r ef (ngB_sim hF r (.cons vx (.cons vy .nil)) z)⟩
  · rename_i e1 e2
    rw [r.noIns' vx e1, isIns_some r vy e2]
    obtain ⟨⟨l1, l2⟩, z⟩ := AllT.ite z
    obtain ⟨f, ef, z⟩ := AllT.opt z
    refine ⟨⟨kn_sim r vx l1, fun hn => ?_⟩, opt_of r ef (ngB_sim hF r (.cons vy (.cons vx .nil)) z)⟩
    have := l2 hn
    unfold isInt at this
    split at this
    · cases vx; rfl
    · cases this
omit hF r in
theorem isInt_w {x : D} {w : W} (v : VRel pd ω x w) (e : isInt x = true) : ∃ i, w = .int i := by
  unfold isInt at e
  split at e
  · cases v; exact ⟨_, rfl⟩
  · cases e
theorem vOrd_sim {o : Cop} {x y : D} {wx wy : W} (vx : VRel pd ω x wx) (vy : VRel pd ω y wy) (z : PP pd cp cs ω Fr Q X (vOrd T F o x y s)) : wOrd T G o wx wy h Q X := by
  unfold vOrd at z
  split at z
  · cases vx; cases vy
    exact z _ _ _ .refl r (.bl _)
  · split at z
    · rename_i e1 e2
      obtain ⟨a, gs, rfl, ea⟩ := r.insC vx e1
      obtain ⟨b, gs', rfl, eb⟩ := r.insC vy e2
      obtain ⟨ec', z1⟩ := AllT.ite z
      obtain ⟨f, ef, z2⟩ := AllT.opt z1
      subst ec'
      simp only [wOrd, ea, eb, true_and]
      exact opt_of r ef (hF _ _ _ _ _ _ _ _ _ r (.cons vx (.cons vy .nil)) z2)
    · rename_i e1 e2
      obtain ⟨a, gs, rfl, ea⟩ := r.insC vx e1
      obtain ⟨l, z⟩ := AllT.ite z
      obtain ⟨j, rfl⟩ := isInt_w vy l
      obtain ⟨f, ef, z⟩ := AllT.opt z
      simp only [wOrd, ea]
      exact opt_of r ef (hF _ _ _ _ _ _ _ _ _ r (.cons vx (.cons vy .nil)) z)
    · rename_i e1 e2
      obtain ⟨a, gs, rfl, ea⟩ := r.insC vy e2
      obtain ⟨l, z⟩ := AllT.ite z
      obtain ⟨j, rfl⟩ := isInt_w vx l
      obtain ⟨f, ef, z⟩ := AllT.opt z
      simp only [wOrd, ea]
      exact opt_of r ef (hF _ _ _ _ _ _ _ _ _ r (.cons vy (.cons vx .nil)) z)
    · exact z.elim
omit hF r in
theorem isNon_w {x : D} {w : W} (v : VRel pd ω x w) : (isNon x = true ∧ w = .non) ∨ (isNon x = false ∧ w ≠ .non) := by
  cases v <;> simp [isNon]
omit hF r in
theorem fVd_w {x : D} {w : W} {v : L2.V} (vx : VRel pd ω x w) (e : fVd x = some v) : fV w = some v := by
  cases vx <;> first | exact e | cases e
omit hF r in
theorem fVds_w : ∀ {xs : List D} {ws : List W} {vs : List L2.V}, VRels pd ω xs ws → mapO fVd xs = some vs → mapO fV ws = some vs
  | [], _, _, .nil, e => e
  | x :: xs, _, _, .cons vx q, e => by
    unfold mapO at e ⊢
    split at e
    · rename_i e1 e2
      rw [fVd_w vx e1, fVds_w q e2]
      exact e
    · cases e
omit hF in
theorem vIn_sim {neg : Bool} {x y : D} {wx wy : W} (vx : VRel pd ω x wx) (vy : VRel pd ω y wy) (z : PP pd cp cs ω Fr Q X (vIn neg x y s)) : wIn neg wx wy h Q := by
  unfold vIn at z
  split at z
  · cases vx; cases vy
    exact z _ _ _ .refl r (.bl _)
  · obtain ⟨ys, ey, z⟩ := AllT.opt z
    obtain ⟨v, ev, z⟩ := AllT.opt z
    obtain ⟨vs, es, z⟩ := AllT.opt z
    have q := z _ _ _ .refl r (.bl _)
    have iw : ∃ ws, inL h wy = some ws ∧ VRels pd ω ys ws := by
      unfold inLD at ey
      split at ey
      · rename_i e
        cases ey
        obtain ⟨ws, rfl, q⟩ := (r.lk vy e).tup'
        exact ⟨ws, rfl, q⟩
      · rename_i e
        cases ey
        obtain ⟨a, ws, rfl, ea, q⟩ := (r.lk vy e).lst
        exact ⟨ws, by simp only [inL, ea], q⟩
      · cases ey
    obtain ⟨ws, ew, qw⟩ := iw
    have e1 := fVd_w vx ev
    have e2 := fVds_w qw es
    unfold wIn
    split
    · cases ew
    · rw [ew]
      refine opt_of r rfl ?_
      rw [e1]
      refine opt_of r rfl ?_
      rw [e2]
      exact opt_of r rfl q
theorem vCmp_sim {o : Cop} {x y : D} {wx wy : W} (vx : VRel pd ω x wx) (vy : VRel pd ω y wy) (z : PP pd cp cs ω Fr Q X (vCmp T F o x y s)) : wCmp T G o wx wy h Q X := by
  cases o with
  | eq => exact vEq_sim hF r vx vy z
  | ne => exact vEq_sim hF r vx vy z
  | isin => exact vIn_sim r vx vy z
  | notin => exact vIn_sim r vx vy z
  | isfls =>
    unfold vCmp at z
    dsimp only at z
    split at z
    · cases vx
      exact z _ _ _ .refl r (.bl _)
    · exact z.elim
  | isnon =>
    have z : Post pd cp cs ω Fr Q (.bl (isNon x)) s := z
    rcases isNon_w vx with ⟨e, rfl⟩ | ⟨e, n⟩
    · rw [e] at z; exact z _ _ _ .refl r (.bl _)
    · rw [e] at z
      simp only [wCmp]
      exact z _ _ _ .refl r (.bl _)
  | notnon =>
    have z : Post pd cp cs ω Fr Q (.bl (!isNon x)) s := z
    rcases isNon_w vx with ⟨e, rfl⟩ | ⟨e, n⟩
    · rw [e] at z; exact z _ _ _ .refl r (.bl _)
    · rw [e] at z
      simp only [wCmp]
      exact z _ _ _ .refl r (.bl _)
  | lt => exact vOrd_sim hF r vx vy z
  | le => exact vOrd_sim hF r vx vy z
  | gt => exact vOrd_sim hF r vx vy z
  | ge => exact vOrd_sim hF r vx vy z
theorem vNeg_sim {x : D} {wx : W} (vx : VRel pd ω x wx) (z : PP pd cp cs ω Fr Q X (vNeg T F x s)) : wNeg T G wx h Q X := by
  unfold vNeg at z
  split at z
  · cases vx
    exact z _ _ _ .refl r (.int _)
  · obtain ⟨c, ec, z⟩ := AllT.opt z
    obtain ⟨f, ef, z⟩ := AllT.opt z
    obtain ⟨a, gs, rfl, ea⟩ := r.insC vx ec
    simp only [wNeg, ea]
    exact opt_of r ef (hF _ _ _ _ _ _ _ _ _ r (.cons vx .nil) z)
omit hF in
theorem vIdx_sim {x y : D} {wx wy : W} (vx : VRel pd ω x wx) (vy : VRel pd ω y wy) (z : PP pd cp cs ω Fr Q X (vIdx x y s)) : wIdx wx wy h Q := by
  unfold vIdx at z
  split at z
  · cases vx; cases vy
    obtain ⟨l, z⟩ := AllT.ite z
    obtain ⟨c, ec, z⟩ := AllT.opt z
    exact ⟨l, opt_of r ec (z _ _ _ .refl r (.str _))⟩
  · cases vy
    split at z
    · rename_i e
      obtain ⟨ws, rfl, q⟩ := (r.lk vx e).tup'
      obtain ⟨v, ev, z⟩ := AllT.opt z
      obtain ⟨w, ew, vw⟩ := q.atI ev
      exact opt_of r ew (z _ _ _ .refl r vw)
    · rename_i e
      obtain ⟨a, ws, rfl, ea, q⟩ := (r.lk vx e).lst
      obtain ⟨v, ev, z⟩ := AllT.opt z
      obtain ⟨w, ew, vw⟩ := q.atI ev
      simp only [wIdx, ea]
      exact opt_of r ew (z _ _ _ .refl r vw)
    · exact z.elim
  · exact z.elim
omit hF in
theorem vSl_sim {lv : Bool} {x : D} {wx : W} {lo hi : Option Int} (vx : VRel pd ω x wx) (z : PP pd cp cs ω Fr Q X (vSl lv x lo hi s)) : wSl wx lo hi h Q := by
  unfold vSl at z
  split at z
  · cases vx
    obtain ⟨l, z⟩ := AllT.ite z
    exact ⟨l, z _ _ _ .refl r (.str _)⟩
  split at z
  · rename_i e
    obtain ⟨ws, rfl, q⟩ := (r.lk vx e).tup'
    exact z _ _ _ .refl r (.tup q.cut)
  · rename_i e
    obtain ⟨a, ws, rfl, ea, q⟩ := (r.lk vx e).lst
    simp only [wSl, ea]
    exact mk_sim r q.cut z
  · exact z.elim
omit hF r in
theorem getN_sim {f : Nat} {v : D} : ∀ {gs : List (Nat × W)} {xs : List D}, VRels pd ω xs (gs.map (·.2)) → getN (gs.map (·.1)) xs f = some v → ∃ w, getF gs f = some w ∧ VRel pd ω v w
  | [], _, _, e => by simp [getN] at e
  | (g, w) :: gs, _, q, e => by
    simp only [List.map_cons] at q e
    cases q with
    | cons v' q =>
      unfold getN at e
      unfold getF
      by_cases z : g = f
      · rw [if_pos z] at e ⊢
        cases e
        exact ⟨_, rfl, v'⟩
      · rw [if_neg z] at e ⊢
        exact getN_sim q e
omit hF r in
theorem putN_sim {f : Nat} {v : D} {w : W} (vw : VRel pd ω v w) : ∀ {gs : List (Nat × W)} {xs : List D}, VRels pd ω xs (gs.map (·.2)) → (putF gs f w).map (·.1) = (putN (gs.map (·.1)) xs f v).1 ∧ VRels pd ω (putN (gs.map (·.1)) xs f v).2 ((putF gs f w).map (·.2))
  | [], _, q => by
    cases q
    exact ⟨rfl, .cons vw .nil⟩
  | (g, u) :: gs, _, q => by
    simp only [List.map_cons] at q
    cases q with
    | cons v' q =>
      simp only [List.map_cons]
      unfold putN putF
      by_cases z : g = f
      · rw [if_pos z, if_pos z]
        exact ⟨rfl, .cons vw q⟩
      · rw [if_neg z, if_neg z]
        obtain ⟨h1, h2⟩ := putN_sim vw q
        exact ⟨by simp only [List.map_cons, h1], .cons v' h2⟩
omit hF in
theorem vFld_sim {x : D} {wx : W} {f : Nat} (vx : VRel pd ω x wx) (z : PP pd cp cs ω Fr Q X (vFld T x f s)) : wFld T wx f h Q := by
  unfold vFld at z
  split at z
  · rename_i e
    obtain ⟨a, gs, rfl, ea, rfl, q⟩ := (r.lk vx e).ins
    obtain ⟨l, z⟩ := AllT.ite z
    obtain ⟨v, ev, z⟩ := AllT.opt z
    obtain ⟨w, ew, vw⟩ := getN_sim q ev
    simp only [wFld, ea]
    exact ⟨l, opt_of r ew (z _ _ _ .refl r vw)⟩
  · exact z.elim
omit hF r in
theorem boolsD_sim : ∀ {xs : List D} {ws : List W} {bs : List Bool}, VRels pd ω xs ws → boolsD xs = some bs → boolsW ws = some bs
  | _, _, _, .nil, e => e
  | _, _, _, .cons (xs := xs) v q, e => by
    unfold boolsD mapO at e
    unfold boolsW mapO
    cases v <;> simp only [] at e ⊢ <;> try (cases e; done)
    rename_i b
    cases e2 : boolsD xs with
    | none => unfold boolsD at e2; rw [e2] at e; cases e
    | some ds =>
      have := boolsD_sim q e2
      unfold boolsD at e2
      unfold boolsW at this
      rw [this]
      rw [e2] at e
      exact e
omit hF r in
theorem strsD_sim : ∀ {xs : List D} {ws : List W} {bs : List Str}, VRels pd ω xs ws → strsD xs = some bs → strsW ws = some bs
  | _, _, _, .nil, e => e
  | _, _, _, .cons (xs := xs) v q, e => by
    unfold strsD mapO at e
    unfold strsW mapO
    cases v <;> simp only [] at e ⊢ <;> try (cases e; done)
    rename_i b
    cases e2 : strsD xs with
    | none => unfold strsD at e2; rw [e2] at e; cases e
    | some ds =>
      have := strsD_sim q e2
      unfold strsD at e2
      unfold strsW at this
      rw [this]
      rw [e2] at e
      exact e
omit hF r in
theorem chr_rel : ∀ l : List Nat, VRels pd ω (l.map fun c => D.str ⟨#[c]⟩) (l.map fun c => W.str ⟨#[c]⟩)
  | [] => .nil
  | c :: l => .cons (.str _) (chr_rel l)
omit hF r in
theorem str_rel : ∀ l : List Str, VRels pd ω (l.map D.str) (l.map W.str)
  | [] => .nil
  | c :: l => .cons (.str _) (str_rel l)
theorem vBif_sim {lv : Bool} {b : Bif} {vs : List D} {ws : List W} (v0 : VRels pd ω vs ws) (z : PP pd cp cs ω Fr Q X (vBif T F lv b vs s)) : wBif T G b ws h Q X := by
  unfold vBif at z
  split at z
  · obtain ⟨w, rfl, v⟩ := v0.one
    cases v
    obtain ⟨l, z⟩ := AllT.ite z
    exact ⟨l, z _ _ _ .refl r (.int _)⟩
  · obtain ⟨w, rfl, v⟩ := v0.one
    split at z
    · rename_i e
      obtain ⟨ws, rfl, q⟩ := (r.lk v e).tup'
      rw [q.length] at z
      exact z _ _ _ .refl r (.int _)
    · rename_i e
      obtain ⟨a, ws, rfl, ea, q⟩ := (r.lk v e).lst
      rw [q.length] at z
      simp only [wBif, ea]
      exact z _ _ _ .refl r (.int _)
    · exact z.elim
  · obtain ⟨w, rfl, v⟩ := v0.one
    cases v
    exact z _ _ _ .refl r (.int _)
  · obtain ⟨w, rfl, v⟩ := v0.one
    obtain ⟨c, ec, z⟩ := AllT.opt z
    obtain ⟨f, ef, z⟩ := AllT.opt z
    obtain ⟨a, gs, rfl, ea⟩ := r.insC v ec
    simp only [wBif, ea]
    exact opt_of r ef (hF _ _ _ _ _ _ _ _ _ r (.cons v .nil) z)
  · obtain ⟨w, rfl, v⟩ := v0.one
    cases v
    exact z _ _ _ .refl r (.int _)
  · obtain ⟨w, rfl, v⟩ := v0.one
    cases v
    obtain ⟨l, z⟩ := AllT.ite z
    obtain ⟨n, en, z⟩ := AllT.opt z
    exact ⟨l, opt_of r en (z _ _ _ .refl r (.int _))⟩
  · obtain ⟨w, rfl, v⟩ := v0.one
    split at z
    · rename_i e
      obtain ⟨ws, rfl, q⟩ := (r.lk v e).tup'
      exact z _ _ _ .refl r (.tup q)
    · rename_i e
      obtain ⟨a, ws, rfl, ea, q⟩ := (r.lk v e).lst
      simp only [wBif, ea]
      exact z _ _ _ .refl r (.tup q)
    · exact z.elim
  · obtain ⟨w, rfl, v⟩ := v0.one
    cases v
    obtain ⟨l, z⟩ := AllT.ite z
    exact ⟨l, mk_sim r (chr_rel _) z⟩
  · obtain ⟨w, rfl, v⟩ := v0.one
    split at z
    · rename_i e
      obtain ⟨ws, rfl, q⟩ := (r.lk v e).tup'
      exact mk_sim r q z
    · rename_i e
      obtain ⟨a, ws, rfl, ea, q⟩ := (r.lk v e).lst
      simp only [wBif, ea]
      exact mk_sim r q z
    · exact z.elim
  · obtain ⟨w, rfl, v⟩ := v0.one
    cases v
    obtain ⟨l, z⟩ := AllT.ite z
    exact ⟨l, z _ _ _ .refl r (.str _)⟩
  · obtain ⟨w, rfl, v⟩ := v0.one
    cases v
    exact z _ _ _ .refl r (.str _)
  · obtain ⟨w, rfl, v⟩ := v0.one
    split at z
    · rename_i e
      obtain ⟨a, ws, rfl, ea, q⟩ := (r.lk v e).lst
      obtain ⟨bs, eb, z⟩ := AllT.opt z
      simp only [wBif, ea]
      exact opt_of r (boolsD_sim q eb) (z _ _ _ .refl r (.bl _))
    · exact z.elim
  · obtain ⟨w, rfl, v⟩ := v0.one
    split at z
    · rename_i e
      obtain ⟨a, ws, rfl, ea, q⟩ := (r.lk v e).lst
      obtain ⟨bs, eb, z⟩ := AllT.opt z
      simp only [wBif, ea]
      exact opt_of r (boolsD_sim q eb) (z _ _ _ .refl r (.bl _))
    · exact z.elim
  · exact z.elim
omit hF in
theorem vBm_sim {lv : Bool} {m : Bm} {x : D} {wx : W} {vs : List D} {ws : List W} (vx : VRel pd ω x wx) (v0 : VRels pd ω vs ws) (z : PP pd cp cs ω Fr Q X (vBm lv m x vs s)) : wBm m wx ws h Q := by
  unfold vBm at z
  split at z
  · obtain ⟨w, rfl, v⟩ := v0.one
    cases vx with
    | ref e1 =>
    rename_i a
    split at z
    · rename_i xs e
      obtain ⟨l, z⟩ := AllT.ite z
      obtain ⟨x, o, e2, e3, u⟩ := r.live' e1
      rw [e] at e2
      cases e2
      cases u with
      | lst u =>
        simp only [wBm, e3]
        refine ⟨by rw [← u.length]; exact l, ?_⟩
        exact z _ _ _ .refl (r.put e1 (.lst (u.append (.cons v .nil)))) .non
    · exact z.elim
  · obtain ⟨w, rfl, v⟩ := v0.one
    cases v; cases vx
    obtain ⟨l, z⟩ := AllT.ite z
    exact ⟨l.1, l.2, mk_sim r (str_rel _) z⟩
  · obtain ⟨w, rfl, v⟩ := v0.one
    cases v; cases vx
    split at z
    · rename_i e
      simp only [wBm, e]
      exact z _ _ _ .refl r (.int _)
    · exact z.elim
  · obtain ⟨w, rfl, v⟩ := v0.one
    cases vx
    split at z
    · rename_i e
      obtain ⟨a, ws, rfl, ea, q⟩ := (r.lk v e).lst
      obtain ⟨ys, ey, z⟩ := AllT.opt z
      obtain ⟨l, z⟩ := AllT.ite z
      simp only [wBm, ea]
      exact opt_of r (strsD_sim q ey) ⟨l, z _ _ _ .refl r (.str _)⟩
    · exact z.elim
  · exact z.elim
omit hF in
theorem rcv_sim {m : Bm} {x : D} {wx : W} (vx : VRel pd ω x wx) (e : rcvD s x m = true) : rcv h wx m = true := by
  cases m <;> simp only [rcvD] at e <;> try (cases e; done)
  case append =>
    split at e
    · cases vx with
      | ref e1 =>
      split at e
      · rename_i e4
        obtain ⟨x, o, e2, e3, u⟩ := r.live' e1
        rw [e4] at e2
        cases e2
        cases u with
        | lst u => simp [rcv, isL, e3]
      · cases e
    · cases e
  all_goals (split at e <;> first | (cases vx; rfl) | cases e)
omit hF in
theorem known_sim {x : D} {w : W} (v : VRel pd ω x w) (e : knownD T s x = true) : known T h w = true ∧ ∀ cl, isOf T h w cl = isOfD T s x cl := by
  cases v with
  | non => exact ⟨rfl, fun cl => by cases cl <;> simp [isOf, isOfD, look, isIns, insC]⟩
  | bl _ => exact ⟨rfl, fun cl => by cases cl <;> simp [isOf, isOfD, look, isIns, insC]⟩
  | int _ => exact ⟨rfl, fun cl => by cases cl <;> simp [isOf, isOfD, look, isIns, insC]⟩
  | str _ => exact ⟨rfl, fun cl => by cases cl <;> simp [isOf, isOfD, look, isIns, insC]⟩
  | tup _ => exact ⟨rfl, fun cl => by cases cl <;> simp [isOf, isOfD, look, isIns, insC]⟩
  | lst e1 _ =>
    have e2 := r.fz _ _ e1
    exact ⟨by simp [known, e2], fun cl => by cases cl <;> simp [isOf, isOfD, look, isIns, insC, e2]⟩
  | dct e1 _ =>
    have e2 := r.fz _ _ e1
    exact ⟨by simp [known, e2], fun cl => by cases cl <;> simp [isOf, isOfD, look, isIns, insC, e2]⟩
  | ins e1 _ =>
    have e2 := r.fz _ _ e1
    simp only [knownD, look] at e
    exact ⟨by simp [known, e2, e], fun cl => by cases cl <;> simp [isOf, isOfD, look, isIns, insC, e2]⟩
  | drw => simp [knownD] at e
  | ref e1 =>
    obtain ⟨x, o, e2, e3, u⟩ := r.live' e1
    cases u with
    | lst u => exact ⟨by simp [known, e3], fun cl => by cases cl <;> simp [isOf, isOfD, look, isIns, insC, e3, e2]⟩
    | dct u => exact ⟨by simp [known, e3], fun cl => by cases cl <;> simp [isOf, isOfD, look, isIns, insC, e3, e2]⟩
    | ins u =>
      simp only [knownD, look, e2] at e
      exact ⟨by simp [known, e3, e], fun cl => by cases cl <;> simp [isOf, isOfD, look, isIns, insC, e3, e2]⟩
end
end Pv
set_option maxHeartbeats 4000000
/-! calls with a store of their own; expressions -/
namespace Pv
open PySem Mi
section
variable {pd cp : Addr} {cs : List Int} {ω : Wd} {Fr h : Hp} {s : Sto} {T : Tab} {F : Fv} {G : Fn} {Q : K1} {X : XK}
/-! ### freezing -/
section
variable {ω1 ω2 : Wd} (hA : ∀ a o, ω1.fz a = some o → ω2.fz a = some o)
include hA
mutual
theorem clean_sim : ∀ {x : D} {w : W}, VRel pd ω1 x w → clean x = true → VRel pd ω2 x w
  | _, _, .non, _ => .non
  | _, _, .bl b, _ => .bl b
  | _, _, .int i, _ => .int i
  | _, _, .str s, _ => .str s
  | _, _, .tup r, e => .tup (cleans_sim r (by simpa [clean] using e))
  | _, _, .lst q r, e => .lst (hA _ _ q) (cleans_sim r (by simpa [clean] using e))
  | _, _, .dct q r, e => .dct (hA _ _ q) (cleans_sim r (by simpa [clean] using e))
  | _, _, .ins q r, e => .ins (hA _ _ q) (cleans_sim r (by simpa [clean] using e))
  | _, _, .ref q, e => by simp [clean] at e
  | _, _, .drw, _ => .drw
theorem cleans_sim : ∀ {x : List D} {w : List W}, VRels pd ω1 x w → cleans x = true → VRels pd ω2 x w
  | _, _, .nil, _ => .nil
  | _, _, .cons r q, e => by
    simp only [cleans, Bool.and_eq_true] at e
    exact .cons (clean_sim r e.1) (cleans_sim q e.2)
end
omit hA in
theorem mapO_sim {f : D → Option D} (k : ∀ x w e, VRel pd ω1 x w → f x = some e → VRel pd ω2 e w) : ∀ {xs : List D} {ws : List W} {es : List D}, VRels pd ω1 xs ws → mapO f xs = some es → VRels pd ω2 es ws
  | _, _, _, .nil, e => by cases e; exact .nil
  | _, _, _, .cons (x := x) (xs := xs) v q, e => by
    unfold mapO at e
    cases e1 : f x with
    | none => rw [e1] at e; cases e
    | some d =>
      cases e2 : mapO f xs with
      | none => rw [e1, e2] at e; cases e
      | some ds =>
        rw [e1, e2] at e
        cases e
        exact .cons (k _ _ _ v e1) (mapO_sim k q e2)
theorem fzD_sim (r : R pd cp cs ω1 Fr h s) (hB : ∀ a o, a ∈ ω1.ρ → h a = some o → ω2.fz a = some o) : ∀ (n : Nat) (x : D) (w : W) (e : D), VRel pd ω1 x w → fzD n s x = some e → VRel pd ω2 e w := by
  intro n
  induction n with
  | zero =>
    intro x w e v q
    cases v with
    | non => cases q; exact .non
    | bl _ => cases q; exact .bl _
    | int _ => cases q; exact .int _
    | str _ => cases q; exact .str _
    | drw => cases q; exact .drw
    | tup u => cases q
    | lst e1 u => cases q
    | dct e1 u => cases q
    | ins e1 u => cases q
    | ref e1 => cases q
  | succ n ih =>
    intro x w e v q
    cases v with
    | non => cases q; exact .non
    | bl _ => cases q; exact .bl _
    | int _ => cases q; exact .int _
    | str _ => cases q; exact .str _
    | drw => cases q; exact .drw
    | tup u =>
      simp only [fzD, Option.map_eq_some_iff] at q
      obtain ⟨es, q, rfl⟩ := q
      exact .tup (mapO_sim ih u q)
    | lst e1 u =>
      simp only [fzD, Option.map_eq_some_iff] at q
      obtain ⟨es, q, rfl⟩ := q
      exact .lst (hA _ _ e1) (mapO_sim ih u q)
    | dct e1 u =>
      simp only [fzD, Option.map_eq_some_iff] at q
      obtain ⟨es, q, rfl⟩ := q
      exact .dct (hA _ _ e1) (mapO_sim ih u q)
    | ins e1 u =>
      simp only [fzD, Option.map_eq_some_iff] at q
      obtain ⟨es, q, rfl⟩ := q
      exact .ins (hA _ _ e1) (mapO_sim ih u q)
    | ref e1 =>
      obtain ⟨⟨k, xs⟩, o, e2, e3, u⟩ := r.live' e1
      simp only [fzD, e2, Option.map_eq_some_iff] at q
      obtain ⟨es, q, rfl⟩ := q
      have e4 := hB _ _ (List.mem_of_getElem? e1) e3
      cases u with
      | lst u => exact .lst e4 (mapO_sim ih u q)
      | dct u => exact .dct e4 (mapO_sim ih u q)
      | ins u => exact .ins e4 (mapO_sim ih u q)
theorem fz_sim (r : R pd cp cs ω1 Fr h s) (hB : ∀ a o, a ∈ ω1.ρ → h a = some o → ω2.fz a = some o) {x : D} {w : W} {e : D} (v : VRel pd ω1 x w) (q : fz s x = some e) : VRel pd ω2 e w := by
  unfold Pv.fz at q
  split at q
  · rename_i c
    cases q
    exact clean_sim hA v c
  · exact fzD_sim hA r hB _ _ _ _ v q
theorem fzFs_sim (r : R pd cp cs ω1 Fr h s) (hB : ∀ a o, a ∈ ω1.ρ → h a = some o → ω2.fz a = some o) : ∀ {fs : List (Nat × D)} {gs : List (Nat × W)} {es : List (Nat × D)}, FRel pd ω1 fs gs → fzFs s fs = some es → FRel pd ω2 es gs
  | _, _, _, .nil, e => by cases e; exact .nil
  | _, _, _, .cons (f := f) (d := d) (fs := fs) v q, e => by
    unfold fzFs mapO at e
    cases e1 : Pv.fz s d with
    | none => simp [e1] at e
    | some d' =>
      cases e2 : fzFs s fs with
      | none => unfold fzFs at e2; simp [e1, e2] at e
      | some ds =>
        have e3 := e2
        unfold fzFs at e2
        simp only [e1, e2, Option.map_some] at e
        cases e
        exact .cons (fz_sim hA r hB v e1) (fzFs_sim r hB q e3)
end
/-- what the caller has stays -/
def frm (ω : Wd) (h Fr : Hp) : Hp := fun a => if a ∈ ω.ρ then h a else Fr a
theorem R.own (r : R pd cp cs ω Fr h s) : R pd cp cs ⟨[], ω.fz⟩ (frm ω h Fr) h [] :=
  ⟨rfl, fun n x e => by simp at e, by simp, r.fz, fun a m => by simp at m, fun a o e => by
    unfold frm at e
    split at e
    · rename_i m
      exact ⟨e, r.dj a m, by simp⟩
    · obtain ⟨h1, h2, _⟩ := r.fr a o e
      exact ⟨h1, h2, by simp⟩, r.st, r.p1, by simp, by simp, by
    unfold frm
    rw [if_neg r.p2]
    exact r.p4⟩
/-- the world behind such a call -/
def Wd.back (ω ω' : Wd) (h' : Hp) : Wd := ⟨ω.ρ, fun a => if a ∈ ω'.ρ then h' a else ω'.fz a⟩
theorem R.back (r : R pd cp cs ω Fr h s) {ω' : Wd} {h' : Hp} {s' : Sto} (le : ∀ a o, ω.fz a = some o → ω'.fz a = some o) (r' : R pd cp cs ω' (frm ω h Fr) h' s') :
    R pd cp cs (ω.back ω' h') Fr h' s ∧ ω.Le (ω.back ω' h') ∧ (∀ a o, ω'.fz a = some o → (ω.back ω' h').fz a = some o) ∧ ∀ a o, a ∈ ω'.ρ → h' a = some o → (ω.back ω' h').fz a = some o := by
  have hA : ∀ a o, ω'.fz a = some o → (ω.back ω' h').fz a = some o := fun a o e => by
    unfold Wd.back
    dsimp only
    rw [if_neg]
    · exact e
    · intro m
      rw [r'.dj a m] at e
      cases e
  have hB : ∀ a o, a ∈ ω'.ρ → h' a = some o → (ω.back ω' h').fz a = some o := fun a o m e => by
    unfold Wd.back
    dsimp only
    rw [if_pos m]
    exact e
  have l : ω.Le (ω.back ω' h') := ⟨⟨[], by simp [Wd.back]⟩, fun x o e => hA _ _ (le _ _ e)⟩
  have fr' : ∀ a o, h a = some o → a ∈ ω.ρ → h' a = some o ∧ ω'.fz a = none ∧ a ∉ ω'.ρ := fun a o e m => r'.fr a o (by unfold frm; rw [if_pos m]; exact e)
  have nn : ∀ a, ω'.fz a = none → a ∉ ω'.ρ → (ω.back ω' h').fz a = none := fun a h1 h2 => by
    unfold Wd.back
    dsimp only
    rw [if_neg h2]
    exact h1
  refine ⟨⟨r.len, fun n x e => ?_, r.inj, fun a o e => ?_, fun a m => ?_, fun a o e => ?_, r'.st, nn _ r'.p1 r'.p2, r.p2, r.p3, r.p4⟩, l, hA, hB⟩
  · obtain ⟨a, o, e1, e2, q⟩ := r.live n x e
    exact ⟨a, o, e1, (fr' a o e2 (List.mem_of_getElem? e1)).1, q.mono l⟩
  · unfold Wd.back at e
    dsimp only at e
    split at e
    · exact e
    · exact r'.fz _ _ e
  · have m : a ∈ ω.ρ := m
    obtain ⟨i, e1⟩ := List.getElem?_of_mem m
    obtain ⟨_, o, _, e2, _⟩ := r.live' e1
    obtain ⟨_, h2, h3⟩ := fr' a o e2 m
    exact nn _ h2 h3
  · obtain ⟨h1, h2, h3⟩ := r.fr a o e
    obtain ⟨g1, g2, g3⟩ := r'.fr a o (by unfold frm; rw [if_neg h3]; exact e)
    exact ⟨g1, nn _ g2 g3, h3⟩
theorem clo_sim (r : R pd cp cs ω Fr h s) {ωc : Wd} (ec : ωc.fz = ω.fz) : ∀ {t : Tr D}, PP pd cp cs ω Fr Q X (clo s t) → PP pd cp cs ωc (frm ω h Fr) Q X t
  | .ok d s', z => by
    intro ω' h' w le r' v
    unfold clo at z
    split at z
    · rename_i d' e
      obtain ⟨r2, l2, hA, hB⟩ := r.back (fun a o e => le.fz _ _ (by rw [ec]; exact e)) r'
      exact z _ _ _ l2 r2 (fz_sim hA r' hB v e)
    · exact z.elim
  | .exc c fs s', z => by
    intro ω' h' gs le r' v
    unfold clo at z
    split at z
    · rename_i d' e
      obtain ⟨r2, l2, hA, hB⟩ := r.back (fun a o e => le.fz _ _ (by rw [ec]; exact e)) r'
      exact z _ _ _ l2 r2 (fzFs_sim hA r' hB v e)
    · exact z.elim
  | .bad, z => z
  | .ask n k, z => fun i h1 h2 => clo_sim r ec (z i h1 h2)
theorem vMake_sim {C : Cfg} {c f : Nat} {vs : List D} {ws : List W} (hF : FS pd cp cs F G) (r : R pd cp cs ω Fr h s) (v : VRels pd ω vs ws) (z : PP pd cp cs ω Fr Q X (vMake F C c f vs s)) : ∀ p, h p = none → G f (.ref p :: ws) (upd h p (.ins c [])) (fun w h2 => w = .non ∧ Q (.ref p) h2) X := by
  intro p n
  unfold vMake at z
  split at z
  · obtain ⟨cl, z⟩ := AllT.ite z
    have n0 := r.free n
    have r1 := r.own
    have v1 : VRels pd ⟨[], ω.fz⟩ vs ws := cleans_sim (ω1 := ω) (ω2 := ⟨[], ω.fz⟩) (fun _ _ e => e) v cl
    obtain ⟨r2, l2⟩ := r1.newL (p := p) (o := .ins c []) (x := (.ins c [], [])) n (ORel.ins (gs := []) .nil)
    have z2 := clo_sim r (ωc := ⟨[] ++ [p], ω.fz⟩) rfl z
    refine hF _ _ _ _ _ _ _ _ _ r2 (.cons (.ref rfl) (v1.mono l2)) ((AllT.bind.mp z2).mono (fun d s' q => ?_) (fun _ _ _ e => e))
    obtain ⟨en, q⟩ := AllT.ite q
    intro ω' h' w le r' v'
    rcases isNon_w v' with ⟨_, e⟩ | ⟨e, _⟩
    · exact ⟨e, q _ _ _ le r' (.ref (le.at_ (n := 0) (x := p) rfl))⟩
    · rw [e] at en; cases en
  · obtain ⟨r2, l2⟩ := r.newL (p := p) (o := .ins c []) (x := (.ins c [], [])) n (ORel.ins (gs := []) .nil)
    have e0 : (ω.ρ ++ [p])[s.length]? = some p := by rw [← r.len]; simp
    refine hF _ _ _ _ _ _ _ _ _ r2 (.cons (.ref e0) (v.mono l2)) ((AllT.bind.mp z).mono (fun d s' q => ?_) (fun _ _ _ e => e.le l2))
    obtain ⟨en, q⟩ := AllT.ite q
    intro ω' h' w le r' v'
    rcases isNon_w v' with ⟨_, e⟩ | ⟨e, _⟩
    · exact ⟨e, q _ _ _ (l2.trans le) r' (.ref (le.at_ (n := s.length) (x := p) e0))⟩
    · rw [e] at en; cases en
mutual
theorem eqb_eq : ∀ {a b : D}, eqb a b = true → a = b
  | .non, b, e => by cases b <;> simp [eqb] at e ⊢
  | .bl x, b, e => by cases b <;> simp [eqb] at e ⊢; exact e
  | .int x, b, e => by cases b <;> simp [eqb] at e ⊢; exact e
  | .str x, b, e => by cases b <;> simp [eqb] at e ⊢; exact e
  | .ref x, b, e => by cases b <;> simp [eqb] at e ⊢; exact e
  | .drw, b, e => by cases b <;> simp [eqb] at e ⊢
  | .nd k xs, b, e => by
    cases b <;> simp only [eqb, Bool.and_eq_true, decide_eq_true_eq, Bool.false_eq_true] at e
    obtain ⟨rfl, e⟩ := e
    rw [eqbs_eq e]
theorem eqbs_eq : ∀ {a b : List D}, eqbs a b = true → a = b
  | [], b, e => by cases b <;> simp [eqbs] at e ⊢
  | x :: xs, b, e => by
    cases b <;> simp only [eqbs, Bool.and_eq_true, Bool.false_eq_true] at e
    rw [eqb_eq e.1, eqbs_eq e.2]
end
mutual
theorem flat_fun : ∀ {x : D} {w w' : W}, VRel pd ω x w → VRel pd ω x w' → flat x = true → w = w'
  | _, _, _, .non, .non, _ => rfl
  | _, _, _, .bl _, .bl _, _ => rfl
  | _, _, _, .int _, .int _, _ => rfl
  | _, _, _, .str _, .str _, _ => rfl
  | _, _, _, .tup a, .tup b, e => by rw [flats_fun a b (by simpa [flat] using e)]
  | _, _, _, .ref a, .ref b, _ => by rw [a] at b; cases b; rfl
  | _, _, _, .drw, .drw, _ => rfl
  | _, _, _, .lst a b, _, e => by simp [flat] at e
  | _, _, _, .dct a b, _, e => by simp [flat] at e
  | _, _, _, .ins a b, _, e => by simp [flat] at e
theorem flats_fun : ∀ {x : List D} {w w' : List W}, VRels pd ω x w → VRels pd ω x w' → flats x = true → w = w'
  | _, _, _, .nil, .nil, _ => rfl
  | _, _, _, .cons a b, .cons c d, e => by
    simp only [flats, Bool.and_eq_true] at e
    rw [flat_fun a c e.1, flats_fun b d e.2]
end
/-! ### what is walked -/
def SrcR (pd cp : Addr) (cs : List Int) (Fr : Hp) (ω : Wd) (r : Src) (xs : List W) (Gd : Hp → Prop) : Prop := VRels pd ω r.xs xs ∧ ∀ ω' h' s', ω.Le ω' → R pd cp cs ω' Fr h' s' → grd r.g s' = true → Gd h'
theorem seqD_sim (r : R pd cp cs ω Fr h s) {x : D} {w : W} {q : Src} (v : VRel pd ω x w) (e : seqD s x = some q) : ∃ xs Gd, seqOf h w = some (xs, Gd) ∧ SrcR pd cp cs Fr ω q xs Gd ∧ Mi.isTup w = q.tp := by
  unfold seqD at e
  split at e
  · cases e
    cases v with
    | tup u => exact ⟨_, _, rfl, ⟨u, fun _ _ _ _ _ _ => trivial⟩, rfl⟩
  · cases e
    cases v with
    | lst e1 u => exact ⟨_, _, by simp only [seqOf, r.fz _ _ e1], ⟨u, fun ω' h' s' le r' _ => r'.fz _ _ (le.fz _ _ e1)⟩, rfl⟩
  · cases v with
    | ref e1 =>
    split at e
    · rename_i xs e2
      split at e
      · rename_i fl
        cases e
        obtain ⟨x, o, e3, e4, u⟩ := r.live' e1
        rw [e2] at e3
        cases e3
        cases u with
        | lst u =>
          refine ⟨_, _, by simp only [seqOf, e4]; rfl, ⟨u, fun ω' h' s' le r' g => ?_⟩, rfl⟩
          simp only [grd, List.all_cons, List.all_nil, Bool.and_true] at g
          split at g
          · rename_i o' e5
            simp only [Bool.and_eq_true, decide_eq_true_eq] at g
            obtain ⟨x', o2, e6, e7, u'⟩ := r'.live' (le.at_ e1)
            rw [e5] at e6
            cases e6
            obtain ⟨k, ys⟩ := o'
            obtain ⟨g1, g2⟩ := g
            have g1 : k = .lst := g1
            subst g1
            have g2 := eqbs_eq g2
            have g2 : ys = xs := g2
            subst g2
            cases u' with
            | lst u' => rw [e7, flats_fun u' (u.mono le) fl]
          · cases g
      · cases e
    · cases e
  · cases e
theorem enum_sim : ∀ {xs : List D} {ws : List W} (n : Nat), VRels pd ω xs ws → VRels pd ω (enumD n xs) (enumW n ws)
  | _, _, _, .nil => .nil
  | _, _, n, .cons v q => .cons (.tup (.cons (.int _) (.cons v .nil))) (enum_sim (n + 1) q)
theorem zip_sim : ∀ {xs ys : List D} {ws us : List W}, VRels pd ω xs ws → VRels pd ω ys us → VRels pd ω (zipD xs ys) (zipW ws us)
  | _, _, _, _, .nil, _ => by unfold zipD zipW; exact .nil
  | _, _, _, _, .cons _ _, .nil => by unfold zipD zipW; exact .nil
  | _, _, _, _, .cons v q, .cons v' q' => .cons (.tup (.cons v (.cons v' .nil))) (zip_sim q q')
theorem rng_sim : ∀ (n : Nat) (lo : Int), VRels pd ω (rngD lo n) (rngW lo n)
  | 0, _ => .nil
  | n + 1, lo => .cons (.int lo) (rng_sim n (lo + 1))
theorem lcT_sim {g : List (Nat × Ob)} {Gd : Hp → Prop} {st : D → Sto → Tr (Option D)} {ws : W → List W → Hp → (List W → Hp → Prop) → Prop} {Q : List W → Hp → Prop} {ω0 : Wd}
    (hG : ∀ ω' h' s', ω0.Le ω' → R pd cp cs ω' Fr h' s' → grd g s' = true → Gd h')
    (hs : ∀ x wx ω h s acc wacc (P : Option D → Sto → Prop) (N : List W → Hp → Prop), ω0.Le ω → R pd cp cs ω Fr h s → VRel pd ω x wx → VRels pd ω acc wacc → AllT (st x s) P (PostX pd cp cs ω Fr X) →
      (∀ v s1, P (some v) s1 → acc.length < sizeLine ∧ ∀ ω' h' w, ω.Le ω' → R pd cp cs ω' Fr h' s1 → VRel pd ω' v w → N (wacc ++ [w]) h') → (∀ s1, P none s1 → ∀ ω' h', ω.Le ω' → R pd cp cs ω' Fr h' s1 → N wacc h') → ws wx wacc h N) :
    ∀ {xs : List D} {wxs : List W} {acc : List D} {wacc : List W} {ω : Wd} {h : Hp} {s : Sto}, ω0.Le ω → R pd cp cs ω Fr h s → VRels pd ω xs wxs → VRels pd ω acc wacc →
      AllT (lcT g st xs acc s) (fun l s' => ∀ ω' h' wl, ω.Le ω' → R pd cp cs ω' Fr h' s' → VRels pd ω' l wl → Q wl h') (PostX pd cp cs ω Fr X) → lcR Gd ws wxs wacc h Q
  | _, _, _, _, _, _, _, le, r, .nil, va, z => by
    obtain ⟨g, z⟩ := AllT.ite z
    exact ⟨hG _ _ _ le r g, z _ _ _ .refl r va⟩
  | _, _, acc, wacc, ω, h, s, le, r, .cons v q, va, z => by
    obtain ⟨g, z⟩ := AllT.ite z
    refine ⟨hG _ _ _ le r g, hs _ _ ω h s acc wacc _ _ le r v va (AllT.bind.mp z) (fun v1 s1 p => ?_) fun s1 p ω' h' le1 r1 => ?_⟩
    · obtain ⟨ln, p⟩ := AllT.ite p
      refine ⟨ln, fun ω' h' w le1 r1 vw => lcT_sim hG hs (le.trans le1) r1 (q.mono le1) ((va.mono le1).append (.cons vw .nil)) (p.mono (fun l s2 e ω2 h2 wl le2 r2 vl => e ω2 h2 wl (le1.trans le2) r2 vl) (fun _ _ _ e => e.le le1))⟩
    · exact lcT_sim hG hs (le.trans le1) r1 (q.mono le1) (va.mono le1) (p.mono (fun l s2 e ω2 h2 wl le2 r2 vl => e ω2 h2 wl (le1.trans le2) r2 vl) (fun _ _ _ e => e.le le1))
mutual
theorem ofW_sim : ∀ {w : W} {d : D}, ofW w = some d → VRel pd ω d w
  | .non, d, e => by cases e; exact .non
  | .bl b, d, e => by cases e; exact .bl b
  | .int i, d, e => by cases e; exact .int i
  | .str s, d, e => by cases e; exact .str s
  | .tup xs, d, e => by
    simp only [ofW, Option.map_eq_some_iff] at e
    obtain ⟨ys, e, rfl⟩ := e
    exact .tup (ofWs_sim e)
  | .ref a, d, e => by cases e
theorem ofWs_sim : ∀ {ws : List W} {ds : List D}, ofWs ws = some ds → VRels pd ω ds ws
  | [], d, e => by cases e; exact .nil
  | x :: xs, d, e => by
    unfold ofWs at e
    cases e1 : ofW x with
    | none => rw [e1] at e; cases e
    | some y =>
      cases e2 : ofWs xs with
      | none => rw [e1, e2] at e; cases e
      | some ys =>
        rw [e1, e2] at e
        cases e
        exact .cons (ofW_sim e1) (ofWs_sim e2)
end
theorem argsD_sim {vs : List D} {ws : List W} (v : VRels pd ω vs ws) : ∀ {g : List (Sum Nat W)} {us : List D}, argsD vs g = some us → ∃ zs, args ws g = some zs ∧ VRels pd ω us zs
  | [], us, e => by cases e; exact ⟨[], rfl, .nil⟩
  | x :: g, us, e => by
    unfold argsD mapO at e
    cases e2 : argsD vs g with
    | none =>
      unfold argsD at e2
      rw [e2] at e
      split at e
      · rename_i h1 h2; cases h2
      · cases e
    | some ys =>
      obtain ⟨zs, q1, q2⟩ := argsD_sim v e2
      unfold argsD at e2
      unfold args at q1
      unfold args mapO
      rw [e2] at e
      rw [q1]
      cases x with
      | inl i =>
        cases e1 : vs[i]? with
        | none => simp [e1] at e
        | some d =>
          obtain ⟨w, ew, vw⟩ := v.get e1
          simp only [e1] at e
          cases e
          simp only [ew]
          exact ⟨_, rfl, .cons vw q2⟩
      | inr w =>
        cases e1 : ofW w with
        | none => simp [e1] at e
        | some d =>
          simp only [e1] at e
          cases e
          exact ⟨_, rfl, .cons (ofW_sim e1) q2⟩
end
end Pv
set_option maxHeartbeats 4000000
/-! expressions: what the plain reading tells holds in the small language -/
namespace Pv
open PySem Mi
section
variable {pd cp : Addr} {cs : List Int} {T : Tab} {F : Fv} {G : Fn} {C : Cfg} (hF : FS pd cp cs F G)
/-- what is wanted of any kind of value -/
def PG {α β : Type} (Rel : Wd → α → β → Prop) (pd cp : Addr) (cs : List Int) (ω : Wd) (Fr : Hp) (Q : β → Hp → Prop) : α → Sto → Prop := fun a s' => ∀ ω' h' b, ω.Le ω' → R pd cp cs ω' Fr h' s' → Rel ω' a b → Q b h'
theorem PG.le {α β : Type} {Rel : Wd → α → β → Prop} {ω ω' : Wd} {Fr : Hp} {Q : β → Hp → Prop} {a : α} {s' : Sto} (le : ω.Le ω') (p : PG Rel pd cp cs ω Fr Q a s') : PG Rel pd cp cs ω' Fr Q a s' := fun w1 h1 w l r v => p w1 h1 w (le.trans l) r v
theorem AllG.le {α β : Type} {Rel : Wd → α → β → Prop} {ω ω' : Wd} {Fr : Hp} {Q : β → Hp → Prop} {X : XK} {t : Tr α} (le : ω.Le ω') (z : AllT t (PG Rel pd cp cs ω Fr Q) (PostX pd cp cs ω Fr X)) : AllT t (PG Rel pd cp cs ω' Fr Q) (PostX pd cp cs ω' Fr X) := z.mono (fun _ _ p => p.le le) (fun _ _ _ p => p.le le)
abbrev Eqr {α : Type} : Wd → α → α → Prop := fun _ a b => a = b
theorem brT_ok {α : Type} {x : D} {a b : Tr α} {P : α → Sto → Prop} {E : Nat → List (Nat × D) → Sto → Prop} (z : AllT (brT x a b) P E) : (x = .bl true ∧ AllT a P E) ∨ (x = .bl false ∧ AllT b P E) := by
  unfold brT at z
  split at z
  · exact .inl ⟨rfl, z⟩
  · exact .inr ⟨rfl, z⟩
  · exact z.elim
omit hF in
theorem getF_none {m : Nat} : ∀ {gs : List (Nat × W)}, m ∉ gs.map (·.1) → getF gs m = none
  | [], _ => rfl
  | (g, w) :: gs, e => by
    simp only [List.map_cons, List.mem_cons, not_or] at e
    unfold getF
    rw [if_neg (fun z => e.1 z.symm)]
    exact getF_none e.2
include hF
mutual
theorem vE_sim : ∀ (m : E) (lv : Bool) (σ : Env) (τ : St) (s : Sto) (ω : Wd) (Fr h : Hp) (Q : K1) (X : XK), R pd cp cs ω Fr h s → SRel pd ω σ τ → PP pd cp cs ω Fr Q X (vE T F C lv m σ s) → wE T G m τ h Q X
  | .var i, lv, σ, τ, s, ω, Fr, h, Q, X, r, sr, z => by
    unfold vE at z
    unfold wE
    split at z
    · rename_i d e
      obtain ⟨w, e', v⟩ := sr.2 _ _ e
      rw [e']
      exact z _ _ _ .refl r v
    · exact z.elim
  | .cst w, lv, σ, τ, s, ω, Fr, h, Q, X, r, sr, z => by
    unfold vE at z
    unfold wE
    obtain ⟨d, e, z⟩ := AllT.opt z
    exact z _ _ _ .refl r (ofW_sim e)
  | .bin o a b, lv, σ, τ, s, ω, Fr, h, Q, X, r, sr, z => by
    unfold vE at z
    unfold wE
    refine vE_sim a false σ τ s ω Fr h _ X r sr ((AllT.bind.mp z).mono (fun x s1 z1 ω1 h1 wx l1 r1 vx => ?_) (fun _ _ _ e => e))
    refine vE_sim b false σ τ s1 ω1 Fr h1 _ X r1 (sr.mono l1) ((AllT.bind.mp z1).mono (fun y s2 z2 ω2 h2 wy l2 r2 vy => ?_) (fun _ _ _ e => e.le l1))
    exact vBin_sim hF r2 (vx.mono l2) vy (z2.le (l1.trans l2))
  | .neg a, lv, σ, τ, s, ω, Fr, h, Q, X, r, sr, z => by
    unfold vE at z
    unfold wE
    refine vE_sim a false σ τ s ω Fr h _ X r sr ((AllT.bind.mp z).mono (fun x s1 z1 ω1 h1 wx l1 r1 vx => ?_) (fun _ _ _ e => e))
    exact vNeg_sim hF r1 vx (z1.le l1)
  | .cmp o a b, lv, σ, τ, s, ω, Fr, h, Q, X, r, sr, z => by
    unfold vE at z
    unfold wE
    refine vE_sim a false σ τ s ω Fr h _ X r sr ((AllT.bind.mp z).mono (fun x s1 z1 ω1 h1 wx l1 r1 vx => ?_) (fun _ _ _ e => e))
    refine vE_sim b false σ τ s1 ω1 Fr h1 _ X r1 (sr.mono l1) ((AllT.bind.mp z1).mono (fun y s2 z2 ω2 h2 wy l2 r2 vy => ?_) (fun _ _ _ e => e.le l1))
    exact vCmp_sim hF r2 (vx.mono l2) vy (z2.le (l1.trans l2))
  | .cmp2 o p a b c, lv, σ, τ, s, ω, Fr, h, Q, X, r, sr, z => by
    unfold vE at z
    unfold wE
    refine vE_sim a false σ τ s ω Fr h _ X r sr ((AllT.bind.mp z).mono (fun x s1 z1 ω1 h1 wx l1 r1 vx => ?_) (fun _ _ _ e => e))
    refine vE_sim b false σ τ s1 ω1 Fr h1 _ X r1 (sr.mono l1) ((AllT.bind.mp z1).mono (fun y s2 z2 ω2 h2 wy l2 r2 vy => ?_) (fun _ _ _ e => e.le l1))
    refine vCmp_sim hF r2 (vx.mono l2) vy ((AllT.bind.mp z2).mono (fun q s3 z3 ω3 h3 wq l3 r3 vq => ?_) (fun _ _ _ e => e.le (l1.trans l2)))
    rcases brT_ok z3 with ⟨rfl, z3⟩ | ⟨rfl, z3⟩
    · cases vq
      refine vE_sim c false σ τ s3 ω3 Fr h3 _ X r3 (sr.mono (l1.trans (l2.trans l3))) ((AllT.bind.mp z3).mono (fun u s4 z4 ω4 h4 wu l4 r4 vu => ?_) (fun _ _ _ e => e.le (l1.trans (l2.trans l3))))
      exact vCmp_sim hF r4 (vy.mono (l3.trans l4)) vu (z4.le (l1.trans (l2.trans (l3.trans l4))))
    · cases vq
      exact z3 _ _ _ (l1.trans (l2.trans l3)) r3 (.bl _)
  | .and a b, lv, σ, τ, s, ω, Fr, h, Q, X, r, sr, z => by
    unfold vE at z
    unfold wE
    refine vE_sim a false σ τ s ω Fr h _ X r sr ((AllT.bind.mp z).mono (fun x s1 z1 ω1 h1 wx l1 r1 vx => ?_) (fun _ _ _ e => e))
    rcases brT_ok z1 with ⟨rfl, z1⟩ | ⟨rfl, z1⟩
    · cases vx
      exact vE_sim b false σ τ s1 ω1 Fr h1 _ X r1 (sr.mono l1) (z1.le l1)
    · cases vx
      exact z1 _ _ _ l1 r1 (.bl _)
  | .or a b, lv, σ, τ, s, ω, Fr, h, Q, X, r, sr, z => by
    unfold vE at z
    unfold wE
    refine vE_sim a false σ τ s ω Fr h _ X r sr ((AllT.bind.mp z).mono (fun x s1 z1 ω1 h1 wx l1 r1 vx => ?_) (fun _ _ _ e => e))
    rcases brT_ok z1 with ⟨rfl, z1⟩ | ⟨rfl, z1⟩
    · cases vx
      exact z1 _ _ _ l1 r1 (.bl _)
    · cases vx
      exact vE_sim b false σ τ s1 ω1 Fr h1 _ X r1 (sr.mono l1) (z1.le l1)
  | .not a, lv, σ, τ, s, ω, Fr, h, Q, X, r, sr, z => by
    unfold vE at z
    unfold wE
    refine vE_sim a false σ τ s ω Fr h _ X r sr ((AllT.bind.mp z).mono (fun x s1 z1 ω1 h1 wx l1 r1 vx => ?_) (fun _ _ _ e => e))
    rcases brT_ok z1 with ⟨rfl, z1⟩ | ⟨rfl, z1⟩
    · cases vx
      exact z1 _ _ _ l1 r1 (.bl _)
    · cases vx
      exact z1 _ _ _ l1 r1 (.bl _)
  | .ite c a b, lv, σ, τ, s, ω, Fr, h, Q, X, r, sr, z => by
    unfold vE at z
    unfold wE
    refine vE_sim c false σ τ s ω Fr h _ X r sr ((AllT.bind.mp z).mono (fun x s1 z1 ω1 h1 wx l1 r1 vx => ?_) (fun _ _ _ e => e))
    rcases brT_ok z1 with ⟨rfl, z1⟩ | ⟨rfl, z1⟩
    · cases vx
      exact vE_sim a lv σ τ s1 ω1 Fr h1 _ X r1 (sr.mono l1) (z1.le l1)
    · cases vx
      exact vE_sim b lv σ τ s1 ω1 Fr h1 _ X r1 (sr.mono l1) (z1.le l1)
  | .tup es, lv, σ, τ, s, ω, Fr, h, Q, X, r, sr, z => by
    unfold vE at z
    unfold wE
    refine vEs_sim es σ τ s ω Fr h _ X r sr ((AllT.bind.mp z).mono (fun x s1 z1 ω1 h1 wx l1 r1 vx => ?_) (fun _ _ _ e => e))
    exact z1 _ _ _ l1 r1 (.tup vx)
  | .lst es, lv, σ, τ, s, ω, Fr, h, Q, X, r, sr, z => by
    unfold vE at z
    unfold wE
    refine vEs_sim es σ τ s ω Fr h _ X r sr ((AllT.bind.mp z).mono (fun x s1 z1 ω1 h1 wx l1 r1 vx => ?_) (fun _ _ _ e => e))
    exact mk_sim r1 vx (z1.le l1)
  | .dct ps, lv, σ, τ, s, ω, Fr, h, Q, X, r, sr, z => by
    unfold vE at z
    unfold wE
    cases ps with
    | cons _ _ => exact z.elim
    | nil =>
      intro p n
      unfold wEs
      refine ⟨upd_same, rfl, by simp, ?_⟩
      have e : upd (upd h p (.dct [])) p (.dct []) = upd h p (.dct []) := upd_upd
      rw [e]
      cases lv with
      | true =>
        obtain ⟨r', le⟩ := r.newL (x := (.dct, [])) n (ORel.dct (kvs := []) .nil)
        refine z _ _ _ le r' (.ref ?_)
        show (ω.ρ ++ [p])[s.length]? = some p
        rw [← r.len]; simp
      | false =>
        obtain ⟨r', le⟩ := r.newF (o := .dct []) n
        exact z _ _ _ le r' (.dct upd_same .nil)
  | .fmt e, lv, σ, τ, s, ω, Fr, h, Q, X, r, sr, z => by
    unfold vE at z
    unfold wE
    refine vE_sim e false σ τ s ω Fr h _ X r sr ((AllT.bind.mp z).mono (fun x s1 z1 ω1 h1 wx l1 r1 vx => ?_) (fun _ _ _ e => e))
    split at z1
    · cases vx
      obtain ⟨l, z1⟩ := AllT.ite z1
      exact ⟨l, z1 _ _ _ l1 r1 (.str _)⟩
    · cases vx
      obtain ⟨l, z1⟩ := AllT.ite z1
      exact ⟨l, z1 _ _ _ l1 r1 (.str _)⟩
    · exact z1.elim
  | .js es, lv, σ, τ, s, ω, Fr, h, Q, X, r, sr, z => by
    unfold vE at z
    unfold wE
    refine vJ_sim es _ σ τ s ω Fr h _ X r sr ((AllT.bind.mp z).mono (fun x s1 z1 ω1 h1 wx l1 r1 vx => ?_) (fun _ _ _ e => e))
    cases vx
    exact z1 _ _ _ l1 r1 (.str _)
  | .idx a i, lv, σ, τ, s, ω, Fr, h, Q, X, r, sr, z => by
    unfold vE at z
    unfold wE
    refine vE_sim a false σ τ s ω Fr h _ X r sr ((AllT.bind.mp z).mono (fun x s1 z1 ω1 h1 wx l1 r1 vx => ?_) (fun _ _ _ e => e))
    refine vE_sim i false σ τ s1 ω1 Fr h1 _ X r1 (sr.mono l1) ((AllT.bind.mp z1).mono (fun y s2 z2 ω2 h2 wy l2 r2 vy => ?_) (fun _ _ _ e => e.le l1))
    exact vIdx_sim r2 (vx.mono l2) vy (z2.le (l1.trans l2))
  | .sl a lo hi, lv, σ, τ, s, ω, Fr, h, Q, X, r, sr, z => by
    unfold vE at z
    unfold wE
    refine vE_sim a false σ τ s ω Fr h _ X r sr ((AllT.bind.mp z).mono (fun x s1 z1 ω1 h1 wx l1 r1 vx => ?_) (fun _ _ _ e => e))
    refine vEo_sim lo σ τ s1 ω1 Fr h1 _ X r1 (sr.mono l1) ((AllT.bind.mp z1).mono (fun y s2 z2 ω2 h2 wy l2 r2 vy => ?_) (fun _ _ _ e => e.le l1))
    refine vEo_sim hi σ τ s2 ω2 Fr h2 _ X r2 (sr.mono (l1.trans l2)) ((AllT.bind.mp z2).mono (fun u s3 z3 ω3 h3 wu l3 r3 vu => ?_) (fun _ _ _ e => e.le (l1.trans l2)))
    cases vy
    cases vu
    exact vSl_sim r3 (vx.mono (l2.trans l3)) (z3.le (l1.trans (l2.trans l3)))
  | .fld a f, lv, σ, τ, s, ω, Fr, h, Q, X, r, sr, z => by
    unfold vE at z
    unfold wE
    refine vE_sim a false σ τ s ω Fr h _ X r sr ((AllT.bind.mp z).mono (fun x s1 z1 ω1 h1 wx l1 r1 vx => ?_) (fun _ _ _ e => e))
    exact vFld_sim r1 vx (z1.le l1)
  | .call f as ds, lv, σ, τ, s, ω, Fr, h, Q, X, r, sr, z => by
    unfold vE at z
    unfold wE
    refine vEs_sim as σ τ s ω Fr h _ X r sr ((AllT.bind.mp z).mono (fun x s1 z1 ω1 h1 wx l1 r1 vx => ?_) (fun _ _ _ e => e))
    obtain ⟨us, eu, z1⟩ := AllT.opt z1
    exact hF _ _ _ _ _ _ _ _ _ r1 (vx.append (ofWs_sim eu)) (z1.le l1)
  | .callK f as g, lv, σ, τ, s, ω, Fr, h, Q, X, r, sr, z => by
    unfold vE at z
    unfold wE
    refine vEs_sim as σ τ s ω Fr h _ X r sr ((AllT.bind.mp z).mono (fun x s1 z1 ω1 h1 wx l1 r1 vx => ?_) (fun _ _ _ e => e))
    obtain ⟨us, eu, z1⟩ := AllT.opt z1
    obtain ⟨zs, ez, vz⟩ := argsD_sim vx eu
    exact opt_of r1 ez (hF _ _ _ _ _ _ _ _ _ r1 vz (z1.le l1))
  | .make c f as ds, lv, σ, τ, s, ω, Fr, h, Q, X, r, sr, z => by
    unfold vE at z
    unfold wE
    refine vEs_sim as σ τ s ω Fr h _ X r sr ((AllT.bind.mp z).mono (fun x s1 z1 ω1 h1 wx l1 r1 vx => ?_) (fun _ _ _ e => e))
    obtain ⟨us, eu, z1⟩ := AllT.opt z1
    exact vMake_sim hF r1 (vx.append (ofWs_sim eu)) (z1.le l1)
  | .makeK c f as g, lv, σ, τ, s, ω, Fr, h, Q, X, r, sr, z => by
    unfold vE at z
    unfold wE
    refine vEs_sim as σ τ s ω Fr h _ X r sr ((AllT.bind.mp z).mono (fun x s1 z1 ω1 h1 wx l1 r1 vx => ?_) (fun _ _ _ e => e))
    obtain ⟨us, eu, z1⟩ := AllT.opt z1
    obtain ⟨zs, ez, vz⟩ := argsD_sim vx eu
    exact opt_of r1 ez (vMake_sim hF r1 vz (z1.le l1))
  | .meth o m as, lv, σ, τ, s, ω, Fr, h, Q, X, r, sr, z => by
    unfold vE at z
    unfold wE
    refine vE_sim o false σ τ s ω Fr h _ X r sr ((AllT.bind.mp z).mono (fun x s1 z1 ω1 h1 wx l1 r1 vx => ?_) (fun _ _ _ e => e))
    split at z1
    · rename_i c fs xs e
      obtain ⟨a, gs, rfl, ea, rfl, q⟩ := (r1.lk vx e).ins
      obtain ⟨nf, z1⟩ := AllT.ite z1
      obtain ⟨f, ef, z1⟩ := AllT.opt z1
      refine opt_of (a := (c, gs)) r1 (by simp only [insOf, ea]) ⟨getF_none (by simpa using nf), opt_of r1 ef ?_⟩
      refine vEs_sim as σ τ s1 ω1 Fr h1 _ X r1 (sr.mono l1) ((AllT.bind.mp z1).mono (fun y s2 z2 ω2 h2 wy l2 r2 vy => ?_) (fun _ _ _ e => e.le l1))
      exact hF _ _ _ _ _ _ _ _ _ r2 (.cons (vx.mono l2) vy) (z2.le (l1.trans l2))
    · exact z1.elim
  | .bif b as, lv, σ, τ, s, ω, Fr, h, Q, X, r, sr, z => by
    unfold vE at z
    unfold wE
    refine vEs_sim as σ τ s ω Fr h _ X r sr ((AllT.bind.mp z).mono (fun x s1 z1 ω1 h1 wx l1 r1 vx => ?_) (fun _ _ _ e => e))
    exact vBif_sim hF r1 vx (z1.le l1)
  | .bm m o as, lv, σ, τ, s, ω, Fr, h, Q, X, r, sr, z => by
    unfold vE at z
    unfold wE
    refine vE_sim o false σ τ s ω Fr h _ X r sr ((AllT.bind.mp z).mono (fun x s1 z1 ω1 h1 wx l1 r1 vx => ?_) (fun _ _ _ e => e))
    obtain ⟨rc, z1⟩ := AllT.ite z1
    refine ⟨rcv_sim r1 vx rc, vEs_sim as σ τ s1 ω1 Fr h1 _ X r1 (sr.mono l1) ((AllT.bind.mp z1).mono (fun y s2 z2 ω2 h2 wy l2 r2 vy => ?_) (fun _ _ _ e => e.le l1))⟩
    exact vBm_sim r2 (vx.mono l2) vy (z2.le (l1.trans l2))
  | .isi a cs', lv, σ, τ, s, ω, Fr, h, Q, X, r, sr, z => by
    unfold vE at z
    unfold wE
    refine vE_sim a false σ τ s ω Fr h _ X r sr ((AllT.bind.mp z).mono (fun x s1 z1 ω1 h1 wx l1 r1 vx => ?_) (fun _ _ _ e => e))
    obtain ⟨kn, z1⟩ := AllT.ite z1
    obtain ⟨k1, k2⟩ := known_sim r1 vx kn
    refine ⟨k1, ?_⟩
    have e : isOf T h1 wx = isOfD T s1 x := funext k2
    rw [e]
    exact z1 _ _ _ l1 r1 (.bl _)
  | .lc e tg it ifs own, lv, σ, τ, s, ω, Fr, h, Q, X, r, sr, z => by
    unfold vE at z
    unfold wE
    refine vI_sim it σ τ s ω Fr h _ X r sr ((AllT.bind.mp z).mono (fun src s1 z1 ω1 h1 xs Gd l1 r1 vx => ?_) (fun _ _ _ e => e))
    refine lcT_sim (X := fun _ _ _ => False) (Fr := Fr) (ω0 := ω1) (g := src.g) vx.2 (fun x wx ω2 h2 s2 acc wacc P N l2 r2 v2 va za k1 k2 => ?_) .refl r1 vx.1 .nil ((AllT.noE (AllT.bind.mp z1)).mono (fun acc s2 z2 ω2 h2 wl l2 r2 vl => ?_) (fun _ _ _ e => e.elim))
    · refine vTg_sim tg x wx (wipeD σ own) (wipe τ own) s2 ω2 Fr h2 _ (fun _ _ _ => False) r2 v2 ((sr.mono (l1.trans l2)).wipe own) ((AllT.bind.mp za).mono (fun σ3 s3 z3 ω3 h3 τ3 l3 r3 sr3 => ?_) (fun _ _ _ e => e))
      refine vAll_sim ifs σ3 τ3 s3 ω3 Fr h3 _ (fun _ _ _ => False) r3 sr3 ((AllT.bind.mp z3).mono (fun b s4 z4 ω4 h4 wb l4 r4 vb => ?_) (fun _ _ _ e => e.le l3))
      cases vb
      cases b with
      | true =>
        rw [if_pos rfl]
        refine vE_sim e false σ3 τ3 s4 ω4 Fr h4 _ (fun _ _ _ => False) r4 (sr3.mono l4) ((AllT.bind.mp z4).mono (fun v s5 z5 ω5 h5 w5 l5 r5 v5 => ?_) (fun _ _ _ e => e.le (l3.trans l4)))
        obtain ⟨ln, q⟩ := k1 v s5 z5
        exact ⟨by rw [← va.length]; exact ln, q ω5 h5 w5 (l3.trans (l4.trans l5)) r5 v5⟩
      | false =>
        rw [if_neg (by decide)]
        exact k2 s4 z4 ω4 h4 (l3.trans l4) r4
    · exact mk_sim (X := X) (lv := lv) r2 vl (z2.le (l1.trans l2))
  | .own e, lv, σ, τ, s, ω, Fr, h, Q, X, r, sr, z => by
    unfold vE at z
    unfold wE
    exact vE_sim e true σ τ s ω Fr h Q X r sr z
theorem vEs_sim : ∀ (m : Es) (σ : Env) (τ : St) (s : Sto) (ω : Wd) (Fr h : Hp) (Q : List W → Hp → Prop) (X : XK), R pd cp cs ω Fr h s → SRel pd ω σ τ → AllT (vEs T F C m σ s) (PG (VRels pd) pd cp cs ω Fr Q) (PostX pd cp cs ω Fr X) → wEs T G m τ h Q X
  | .nil, σ, τ, s, ω, Fr, h, Q, X, r, sr, z => by
    unfold vEs at z
    unfold wEs
    exact z _ _ _ .refl r .nil
  | .cons e q, σ, τ, s, ω, Fr, h, Q, X, r, sr, z => by
    unfold vEs at z
    unfold wEs
    refine vE_sim e false σ τ s ω Fr h _ X r sr ((AllT.bind.mp z).mono (fun x s1 z1 ω1 h1 wx l1 r1 vx => ?_) (fun _ _ _ e => e))
    refine vEs_sim q σ τ s1 ω1 Fr h1 _ X r1 (sr.mono l1) ((AllT.bind.mp z1).mono (fun y s2 z2 ω2 h2 wy l2 r2 vy => ?_) (fun _ _ _ e => e.le l1))
    exact z2 _ _ _ (l1.trans l2) r2 (.cons (vx.mono l2) vy)
theorem vJ_sim : ∀ (m : Es) (acc : Str) (σ : Env) (τ : St) (s : Sto) (ω : Wd) (Fr h : Hp) (Q : Str → Hp → Prop) (X : XK), R pd cp cs ω Fr h s → SRel pd ω σ τ → AllT (vJ T F C m acc σ s) (PG Eqr pd cp cs ω Fr Q) (PostX pd cp cs ω Fr X) → wJ T G m acc τ h Q X
  | .nil, acc, σ, τ, s, ω, Fr, h, Q, X, r, sr, z => by
    unfold vJ at z
    unfold wJ
    exact z _ _ _ .refl r rfl
  | .cons e q, acc, σ, τ, s, ω, Fr, h, Q, X, r, sr, z => by
    unfold vJ at z
    unfold wJ
    refine vE_sim e false σ τ s ω Fr h _ X r sr ((AllT.bind.mp z).mono (fun x s1 z1 ω1 h1 wx l1 r1 vx => ?_) (fun _ _ _ e => e))
    split at z1
    · cases vx
      obtain ⟨l, z1⟩ := AllT.ite z1
      exact ⟨l, vJ_sim q _ σ τ s1 ω1 Fr h1 _ X r1 (sr.mono l1) (AllG.le l1 z1)⟩
    · exact z1.elim
theorem vAll_sim : ∀ (m : Es) (σ : Env) (τ : St) (s : Sto) (ω : Wd) (Fr h : Hp) (Q : Bool → Hp → Prop) (X : XK), R pd cp cs ω Fr h s → SRel pd ω σ τ → AllT (vAll T F C m σ s) (PG Eqr pd cp cs ω Fr Q) (PostX pd cp cs ω Fr X) → wAll T G m τ h Q X
  | .nil, σ, τ, s, ω, Fr, h, Q, X, r, sr, z => by
    unfold vAll at z
    unfold wAll
    exact z _ _ _ .refl r rfl
  | .cons e q, σ, τ, s, ω, Fr, h, Q, X, r, sr, z => by
    unfold vAll at z
    unfold wAll
    refine vE_sim e false σ τ s ω Fr h _ X r sr ((AllT.bind.mp z).mono (fun x s1 z1 ω1 h1 wx l1 r1 vx => ?_) (fun _ _ _ e => e))
    rcases brT_ok z1 with ⟨rfl, z1⟩ | ⟨rfl, z1⟩
    · cases vx
      exact vAll_sim q σ τ s1 ω1 Fr h1 _ X r1 (sr.mono l1) (AllG.le l1 z1)
    · cases vx
      exact z1 _ _ _ l1 r1 rfl
theorem vEo_sim : ∀ (m : Eo) (σ : Env) (τ : St) (s : Sto) (ω : Wd) (Fr h : Hp) (Q : Option Int → Hp → Prop) (X : XK), R pd cp cs ω Fr h s → SRel pd ω σ τ → AllT (vEo T F C m σ s) (PG Eqr pd cp cs ω Fr Q) (PostX pd cp cs ω Fr X) → wEo T G m τ h Q X
  | .no, σ, τ, s, ω, Fr, h, Q, X, r, sr, z => by
    unfold vEo at z
    unfold wEo
    exact z _ _ _ .refl r rfl
  | .so e, σ, τ, s, ω, Fr, h, Q, X, r, sr, z => by
    unfold vEo at z
    unfold wEo
    refine vE_sim e false σ τ s ω Fr h _ X r sr ((AllT.bind.mp z).mono (fun x s1 z1 ω1 h1 wx l1 r1 vx => ?_) (fun _ _ _ e => e))
    split at z1
    · cases vx
      exact z1 _ _ _ l1 r1 rfl
    · exact z1.elim
theorem vI_sim : ∀ (m : I) (σ : Env) (τ : St) (s : Sto) (ω : Wd) (Fr h : Hp) (Q : List W → (Hp → Prop) → Hp → Prop) (X : XK), R pd cp cs ω Fr h s → SRel pd ω σ τ → AllT (vI T F C m σ s) (fun src s' => ∀ ω' h' xs Gd, ω.Le ω' → R pd cp cs ω' Fr h' s' → SrcR pd cp cs Fr ω' src xs Gd → Q xs Gd h') (PostX pd cp cs ω Fr X) → wI T G m τ h Q X
  | .of e, σ, τ, s, ω, Fr, h, Q, X, r, sr, z => by
    unfold vI at z
    unfold wI
    refine vE_sim e false σ τ s ω Fr h _ X r sr ((AllT.bind.mp z).mono (fun x s1 z1 ω1 h1 wx l1 r1 vx => ?_) (fun _ _ _ e => e))
    obtain ⟨src, es, z1⟩ := AllT.opt z1
    obtain ⟨xs, Gd, q1, q2, _⟩ := seqD_sim r1 vx es
    exact opt_of r1 q1 (z1 _ _ _ _ l1 r1 q2)
  | .rng1 e, σ, τ, s, ω, Fr, h, Q, X, r, sr, z => by
    unfold vI at z
    unfold wI
    refine vE_sim e false σ τ s ω Fr h _ X r sr ((AllT.bind.mp z).mono (fun x s1 z1 ω1 h1 wx l1 r1 vx => ?_) (fun _ _ _ e => e))
    split at z1
    · cases vx
      obtain ⟨⟨h1, h2⟩, z1⟩ := AllT.ite z1
      exact ⟨h1, h2, z1 _ _ _ _ l1 r1 ⟨rng_sim _ _, fun _ _ _ _ _ _ => trivial⟩⟩
    · exact z1.elim
  | .rng2 a b, σ, τ, s, ω, Fr, h, Q, X, r, sr, z => by
    unfold vI at z
    unfold wI
    refine vE_sim a false σ τ s ω Fr h _ X r sr ((AllT.bind.mp z).mono (fun x s1 z1 ω1 h1 wx l1 r1 vx => ?_) (fun _ _ _ e => e))
    refine vE_sim b false σ τ s1 ω1 Fr h1 _ X r1 (sr.mono l1) ((AllT.bind.mp z1).mono (fun y s2 z2 ω2 h2 wy l2 r2 vy => ?_) (fun _ _ _ e => e.le l1))
    split at z2
    · cases vx
      cases vy
      obtain ⟨hh, z2⟩ := AllT.ite z2
      exact ⟨hh, z2 _ _ _ _ (l1.trans l2) r2 ⟨rng_sim _ _, fun _ _ _ _ _ _ => trivial⟩⟩
    · exact z2.elim
  | .chr e, σ, τ, s, ω, Fr, h, Q, X, r, sr, z => by
    unfold vI at z
    unfold wI
    refine vE_sim e false σ τ s ω Fr h _ X r sr ((AllT.bind.mp z).mono (fun x s1 z1 ω1 h1 wx l1 r1 vx => ?_) (fun _ _ _ e => e))
    split at z1
    · cases vx
      exact z1 _ _ _ _ l1 r1 ⟨chr_rel _, fun _ _ _ _ _ _ => trivial⟩
    · exact z1.elim
  | .enm e, σ, τ, s, ω, Fr, h, Q, X, r, sr, z => by
    unfold vI at z
    unfold wI
    refine vE_sim e false σ τ s ω Fr h _ X r sr ((AllT.bind.mp z).mono (fun x s1 z1 ω1 h1 wx l1 r1 vx => ?_) (fun _ _ _ e => e))
    obtain ⟨src, es, z1⟩ := AllT.opt z1
    obtain ⟨xs, Gd, q1, q2, _⟩ := seqD_sim r1 vx es
    exact opt_of r1 q1 (z1 _ _ _ _ l1 r1 ⟨enum_sim 0 q2.1, q2.2⟩)
  | .zip a b, σ, τ, s, ω, Fr, h, Q, X, r, sr, z => by
    unfold vI at z
    unfold wI
    refine vE_sim a false σ τ s ω Fr h _ X r sr ((AllT.bind.mp z).mono (fun x s1 z1 ω1 h1 wx l1 r1 vx => ?_) (fun _ _ _ e => e))
    refine vE_sim b false σ τ s1 ω1 Fr h1 _ X r1 (sr.mono l1) ((AllT.bind.mp z1).mono (fun y s2 z2 ω2 h2 wy l2 r2 vy => ?_) (fun _ _ _ e => e.le l1))
    obtain ⟨sa, ea, z2⟩ := AllT.opt z2
    obtain ⟨sb, eb, z2⟩ := AllT.opt z2
    obtain ⟨et, z2⟩ := AllT.ite z2
    obtain ⟨xs, Gd, q1, q2, q3⟩ := seqD_sim r2 (vx.mono l2) ea
    obtain ⟨ys, Gd', p1, p2, p3⟩ := seqD_sim r2 vy eb
    refine opt_of r2 q1 (opt_of r2 p1 ⟨by rw [q3, p3, et], z2 _ _ _ _ (l1.trans l2) r2 ⟨zip_sim q2.1 p2.1, fun ω' h' s' le r' g => ?_⟩⟩)
    simp only [grd, List.all_append, Bool.and_eq_true] at g
    exact ⟨q2.2 _ _ _ le r' g.1, p2.2 _ _ _ le r' g.2⟩
theorem vTg_sim : ∀ (m : Tg) (v : D) (w : W) (σ : Env) (τ : St) (s : Sto) (ω : Wd) (Fr h : Hp) (Q : St → Hp → Prop) (X : XK), R pd cp cs ω Fr h s → VRel pd ω v w → SRel pd ω σ τ → AllT (vTg T F C m v σ s) (PG (SRel pd) pd cp cs ω Fr Q) (PostX pd cp cs ω Fr X) → wTg T G m w τ h Q X
  | .nm i, v, w, σ, τ, s, ω, Fr, h, Q, X, r, vv, sr, z => by
    unfold vTg at z
    unfold wTg
    exact z _ _ _ .refl r (sr.set vv)
  | .fld o f, v, w, σ, τ, s, ω, Fr, h, Q, X, r, vv, sr, z => by
    unfold vTg at z
    unfold wTg
    refine vE_sim o false σ τ s ω Fr h _ X r sr ((AllT.bind.mp z).mono (fun x s1 z1 ω1 h1 wx l1 r1 vx => ?_) (fun _ _ _ e => e))
    split at z1
    · cases vx with
      | ref e1 =>
      split at z1
      · rename_i c fs xs e2
        obtain ⟨⟨f1, f2⟩, z1⟩ := AllT.ite z1
        obtain ⟨x, o, e3, e4, u⟩ := r1.live' e1
        rw [e2] at e3
        cases e3
        cases u with
        | ins u =>
          simp only [e4]
          refine ⟨f1, by simpa using f2, ?_⟩
          obtain ⟨p1, p2⟩ := putN_sim (f := f) (vv.mono l1) u
          refine z1 _ _ _ l1 (r1.put e1 ?_) (sr.mono l1)
          rw [← p1]
          exact .ins p2
      · exact z1.elim
    · exact z1.elim
  | .sub o i, v, w, σ, τ, s, ω, Fr, h, Q, X, r, vv, sr, z => by
    unfold vTg at z
    unfold wTg
    refine vE_sim o false σ τ s ω Fr h _ X r sr ((AllT.bind.mp z).mono (fun x s1 z1 ω1 h1 wx l1 r1 vx => ?_) (fun _ _ _ e => e))
    refine vE_sim i false σ τ s1 ω1 Fr h1 _ X r1 (sr.mono l1) ((AllT.bind.mp z1).mono (fun y s2 z2 ω2 h2 wy l2 r2 vy => ?_) (fun _ _ _ e => e.le l1))
    split at z2
    · cases vy
      cases vx with
      | ref e1 =>
      split at z2
      · rename_i xs e2
        obtain ⟨j, ej, z2⟩ := AllT.opt z2
        obtain ⟨x, o, e3, e4, u⟩ := r2.live' (l2.at_ e1)
        rw [e2] at e3
        cases e3
        cases u with
        | lst u =>
          simp only [e4]
          rw [u.length] at ej
          exact opt_of r2 ej (z2 _ _ _ (l1.trans l2) (r2.put (l2.at_ e1) (.lst (u.set (vv.mono (l1.trans l2)) j))) (sr.mono (l1.trans l2)))
      · exact z2.elim
    · exact z2.elim
  | .tp ts, v, w, σ, τ, s, ω, Fr, h, Q, X, r, vv, sr, z => by
    unfold vTg at z
    unfold wTg
    split at z
    · cases vv with
      | tup u =>
        obtain ⟨l, z⟩ := AllT.ite z
        exact ⟨by rw [← u.length]; exact l, vTgs_sim ts _ _ σ τ s ω Fr h Q X r u sr z⟩
    · exact z.elim
theorem vTgs_sim : ∀ (m : Tgs) (v : List D) (w : List W) (σ : Env) (τ : St) (s : Sto) (ω : Wd) (Fr h : Hp) (Q : St → Hp → Prop) (X : XK), R pd cp cs ω Fr h s → VRels pd ω v w → SRel pd ω σ τ → AllT (vTgs T F C m v σ s) (PG (SRel pd) pd cp cs ω Fr Q) (PostX pd cp cs ω Fr X) → wTgs T G m w τ h Q X
  | .nil, v, w, σ, τ, s, ω, Fr, h, Q, X, r, vv, sr, z => by
    unfold vTgs at z
    unfold wTgs
    cases vv with
    | nil => exact ⟨rfl, z _ _ _ .refl r sr⟩
    | cons _ _ => exact z.elim
  | .cons t q, v, w, σ, τ, s, ω, Fr, h, Q, X, r, vv, sr, z => by
    unfold vTgs at z
    unfold wTgs
    cases vv with
    | nil => exact z.elim
    | cons v1 v2 =>
      refine vTg_sim t _ _ σ τ s ω Fr h _ X r v1 sr ((AllT.bind.mp z).mono (fun σ1 s1 z1 ω1 h1 τ1 l1 r1 sr1 => ?_) (fun _ _ _ e => e))
      exact vTgs_sim q _ _ σ1 τ1 s1 ω1 Fr h1 Q X r1 (v2.mono l1) sr1 (AllG.le l1 z1)
end
end
end Pv
set_option maxHeartbeats 4000000
/-! statements, functions, a law -/
namespace Pv
open PySem Mi
section
variable {pd cp : Addr} {cs : List Int} {T : Tab} {F : Fv} {G : Fn} {C : Cfg} {wf : Nat}
def PS (pd cp : Addr) (cs : List Int) (ω : Wd) (Fr : Hp) (D : En) : Fl → Sto → Prop := fun fl s' => ∀ ω' h', ω.Le ω' → R pd cp cs ω' Fr h' s' → match fl with
  | .nx σ => ∀ τ, SRel pd ω' σ τ → D.nx τ h'
  | .rt d => ∀ w, VRel pd ω' d w → D.rt w h'
  | .bk σ => ∀ τ, SRel pd ω' σ τ → D.bk τ h'
  | .ct σ => ∀ τ, SRel pd ω' σ τ → D.ct τ h'
theorem PS.le {ω ω' : Wd} {Fr : Hp} {D : En} {a : Fl} {s' : Sto} (le : ω.Le ω') (p : PS pd cp cs ω Fr D a s') : PS pd cp cs ω' Fr D a s' := fun w1 h1 l r => p w1 h1 (le.trans l) r
theorem AllS.le {ω ω' : Wd} {Fr : Hp} {D : En} {X : XK} {t : Tr Fl} (le : ω.Le ω') (z : AllT t (PS pd cp cs ω Fr D) (PostX pd cp cs ω Fr X)) : AllT t (PS pd cp cs ω' Fr D) (PostX pd cp cs ω' Fr X) := z.mono (fun _ _ p => p.le le) (fun _ _ _ p => p.le le)
theorem forT_sim {Fr : Hp} {X : XK} {D : En} {g : List (Nat × Ob)} {Gd : Hp → Prop} {st : Pv.D → Env → Sto → Tr Fl} {ws : W → St → Hp → (St → Hp → Prop) → Prop} {ω0 : Wd}
    (hG : ∀ ω' h' s', ω0.Le ω' → R pd cp cs ω' Fr h' s' → grd g s' = true → Gd h')
    (hs : ∀ x wx σ τ ω h s (N : St → Hp → Prop), ω0.Le ω → R pd cp cs ω Fr h s → VRel pd ω x wx → SRel pd ω σ τ → AllT (st x σ s) (PS pd cp cs ω Fr ⟨N, D.rt, D.nx, N⟩) (PostX pd cp cs ω Fr X) → ws wx τ h N) :
    ∀ {xs : List Pv.D} {wxs : List W} {σ : Env} {τ : St} {ω : Wd} {h : Hp} {s : Sto}, ω0.Le ω → R pd cp cs ω Fr h s → VRels pd ω xs wxs → SRel pd ω σ τ →
      AllT (forT g st xs σ s) (PS pd cp cs ω Fr D) (PostX pd cp cs ω Fr X) → forR Gd ws wxs τ h D.nx
  | _, _, _, _, _, _, _, le, r, .nil, sr, z => by
    obtain ⟨g, z⟩ := AllT.ite z
    exact ⟨hG _ _ _ le r g, z _ _ .refl r _ sr⟩
  | _, _, σ, τ, ω, h, s, le, r, .cons v q, sr, z => by
    obtain ⟨g, z⟩ := AllT.ite z
    refine ⟨hG _ _ _ le r g, hs _ _ σ τ ω h s _ le r v sr ((AllT.bind.mp z).mono (fun fl s1 z1 ω1 h1 l1 r1 => ?_) (fun _ _ _ e => e))⟩
    cases fl with
    | nx σ1 => exact fun τ1 sr1 => forT_sim hG hs (le.trans l1) r1 (q.mono l1) sr1 (AllS.le l1 z1)
    | ct σ1 => exact fun τ1 sr1 => forT_sim hG hs (le.trans l1) r1 (q.mono l1) sr1 (AllS.le l1 z1)
    | bk σ1 => exact fun τ1 sr1 => z1 _ _ l1 r1 _ sr1
    | rt d => exact fun w v => z1 _ _ l1 r1 _ v
theorem whlT_sim {Fr : Hp} {X : XK} {D : En} {c : Env → Sto → Tr Pv.D} {b : Env → Sto → Tr Fl} {wc : St → Hp → (W → Hp → Prop) → Prop} {wb : St → Hp → (St → Hp → Prop) → Prop}
    (hc : ∀ σ τ ω h s (Q : K1), R pd cp cs ω Fr h s → SRel pd ω σ τ → PP pd cp cs ω Fr Q X (c σ s) → wc τ h Q)
    (hb : ∀ σ τ ω h s (N : St → Hp → Prop), R pd cp cs ω Fr h s → SRel pd ω σ τ → AllT (b σ s) (PS pd cp cs ω Fr ⟨N, D.rt, D.nx, N⟩) (PostX pd cp cs ω Fr X) → wb τ h N) :
    ∀ (n : Nat) {σ : Env} {τ : St} {ω : Wd} {h : Hp} {s : Sto}, R pd cp cs ω Fr h s → SRel pd ω σ τ →
      AllT (whlT c b n σ s) (PS pd cp cs ω Fr D) (PostX pd cp cs ω Fr X) → whlR wc wb D.nx n τ h
  | 0, _, _, _, _, _, _, _, z => z.elim
  | n + 1, σ, τ, ω, h, s, r, sr, z => by
    unfold whlT at z
    unfold whlR
    refine hc σ τ ω h s _ r sr ((AllT.bind.mp z).mono (fun x s1 z1 ω1 h1 wx l1 r1 vx => ?_) (fun _ _ _ e => e))
    rcases brT_ok z1 with ⟨rfl, z1⟩ | ⟨rfl, z1⟩
    · cases vx
      refine hb σ τ ω1 h1 s1 _ r1 (sr.mono l1) ((AllT.bind.mp z1).mono (fun fl s2 z2 ω2 h2 l2 r2 => ?_) (fun _ _ _ e => e.le l1))
      cases fl with
      | nx σ1 => exact fun τ1 sr1 => whlT_sim hc hb n r2 sr1 (AllS.le (l1.trans l2) z2)
      | ct σ1 => exact fun τ1 sr1 => whlT_sim hc hb n r2 sr1 (AllS.le (l1.trans l2) z2)
      | bk σ1 => exact fun τ1 sr1 => z2 _ _ (l1.trans l2) r2 _ sr1
      | rt d => exact fun w v => z2 _ _ (l1.trans l2) r2 _ v
    · cases vx
      exact z1 _ _ l1 r1 _ (sr.mono l1)
theorem augI_ok {o : Bop} {x y z : D} (e : augI o x y = some z) : ∃ i j k, x = .int i ∧ y = .int j ∧ z = .int k ∧ augOk o (.int i) (.int j) = true ∧ ∀ (T : Tab) (G : Fn) (h : Hp) (Q : K1) (X : XK), wBin T G o (.int i) (.int j) h Q X = Q (.int k) h := by
  unfold augI at e
  split at e
  · cases e; exact ⟨_, _, _, rfl, rfl, rfl, rfl, fun _ _ _ _ _ => rfl⟩
  · cases e; exact ⟨_, _, _, rfl, rfl, rfl, rfl, fun _ _ _ _ _ => rfl⟩
  · cases e
theorem frel_zip {ω : Wd} : ∀ (fs : List Nat) {vs : List D} {ws : List W}, VRels pd ω vs ws → FRel pd ω (fs.zip vs) (fs.zip ws)
  | [], _, _, _ => .nil
  | _ :: _, _, _, .nil => .nil
  | f :: fs, _, _, .cons v q => .cons v (frel_zip fs q)
theorem getP_sim {ω : Wd} {f : Nat} {v : D} : ∀ {fs : List (Nat × D)} {gs : List (Nat × W)}, FRel pd ω fs gs → getP fs f = some v → ∃ w, getF gs f = some w ∧ VRel pd ω v w
  | _, _, .nil, e => by cases e
  | _, _, .cons (f := g) v' q, e => by
    unfold getP at e
    unfold getF
    by_cases z : g = f
    · rw [if_pos z] at e ⊢
      cases e
      exact ⟨_, rfl, v'⟩
    · rw [if_neg z] at e ⊢
      exact getP_sim q e
theorem tpl_sim {ω : Wd} {fs : List (Nat × D)} {gs : List (Nat × W)} (f : FRel pd ω fs gs) : ∀ {tp : List (Sum Nat W)} {ds : List D}, tplD fs tp = some ds → ∃ ws, tplW gs tp = some ws ∧ VRels pd ω ds ws
  | [], ds, e => by cases e; exact ⟨[], rfl, .nil⟩
  | x :: tp, ds, e => by
    unfold tplD mapO at e
    cases e2 : tplD fs tp with
    | none =>
      unfold tplD at e2
      rw [e2] at e
      split at e
      · rename_i h1 h2; cases h2
      · cases e
    | some ys =>
      obtain ⟨zs, q1, q2⟩ := tpl_sim f e2
      unfold tplD at e2
      unfold tplW at q1
      unfold tplW mapO
      rw [e2] at e
      rw [q1]
      cases x with
      | inl i =>
        cases e1 : getP fs i with
        | none => simp [e1] at e
        | some d =>
          obtain ⟨w, ew, vw⟩ := getP_sim f e1
          simp only [e1] at e
          cases e
          simp only [ew]
          exact ⟨_, rfl, .cons vw q2⟩
      | inr w =>
        cases e1 : ofW w with
        | none => simp [e1] at e
        | some d =>
          simp only [e1] at e
          cases e
          exact ⟨_, rfl, .cons (ofW_sim e1) q2⟩
variable (hF : FS pd cp cs F G)
include hF
mutual
theorem vS_sim : ∀ (m : S) (σ : Env) (τ : St) (s : Sto) (ω : Wd) (Fr h : Hp) (D : En) (X : XK), R pd cp cs ω Fr h s → SRel pd ω σ τ → AllT (vS T F C wf m σ s) (PS pd cp cs ω Fr D) (PostX pd cp cs ω Fr X) → wS T G m D X τ h
  | .asg t e, σ, τ, s, ω, Fr, h, D, X, r, sr, z => by
    unfold vS at z
    unfold wS
    refine vE_sim hF e false σ τ s ω Fr h _ X r sr ((AllT.bind.mp z).mono (fun x s1 z1 ω1 h1 wx l1 r1 vx => ?_) (fun _ _ _ e => e))
    refine vTg_sim hF t x wx σ τ s1 ω1 Fr h1 _ X r1 vx (sr.mono l1) ((AllT.bind.mp z1).mono (fun σ2 s2 z2 ω2 h2 τ2 l2 r2 sr2 => ?_) (fun _ _ _ e => e.le l1))
    exact z2 _ _ (l1.trans l2) r2 _ sr2
  | .aug i o e, σ, τ, s, ω, Fr, h, D, X, r, sr, z => by
    unfold vS at z
    unfold wS
    split at z
    · rename_i x ex
      obtain ⟨w, e', v⟩ := sr.2 _ _ ex
      simp only [e']
      refine vE_sim hF e false σ τ s ω Fr h _ X r sr ((AllT.bind.mp z).mono (fun y s1 z1 ω1 h1 wy l1 r1 vy => ?_) (fun _ _ _ e => e))
      obtain ⟨u, eu, z1⟩ := AllT.opt z1
      obtain ⟨a, b, k, rfl, rfl, rfl, ok, eq⟩ := augI_ok eu
      cases v
      cases vy
      refine ⟨ok, ?_⟩
      rw [eq]
      exact z1 _ _ l1 r1 _ ((sr.mono l1).set (.int _))
    · exact z.elim
  | .augS a i o e, σ, τ, s, ω, Fr, h, D, X, r, sr, z => by
    unfold vS at z
    unfold wS
    refine vE_sim hF a false σ τ s ω Fr h _ X r sr ((AllT.bind.mp z).mono (fun x s1 z1 ω1 h1 wx l1 r1 vx => ?_) (fun _ _ _ e => e))
    refine vE_sim hF i false σ τ s1 ω1 Fr h1 _ X r1 (sr.mono l1) ((AllT.bind.mp z1).mono (fun k s2 z2 ω2 h2 wk l2 r2 vk => ?_) (fun _ _ _ e => e.le l1))
    have vx := vx.mono l2
    split at z2
    · cases vk
      cases vx with
      | ref e1 =>
      split at z2
      · rename_i xs e2
        obtain ⟨u, eu, z2⟩ := AllT.opt z2
        obtain ⟨x, o', e3, e4, q⟩ := r2.live' e1
        rw [e2] at e3
        cases e3
        cases q with
        | lst q =>
        obtain ⟨w, ew, vu⟩ := q.atI eu
        refine ⟨by simp [isL, e4], ?_⟩
        simp only [wIdx, e4]
        refine opt_of r2 ew ?_
        refine vE_sim hF e false σ τ s2 ω2 Fr h2 _ X r2 (sr.mono (l1.trans l2)) ((AllT.bind.mp z2).mono (fun y s3 z3 ω3 h3 wy l3 r3 vy => ?_) (fun _ _ _ e => e.le (l1.trans l2)))
        obtain ⟨v, ev, z3⟩ := AllT.opt z3
        obtain ⟨i1, j1, k1, rfl, rfl, rfl, ok, eq⟩ := augI_ok ev
        cases vu
        cases vy
        refine ⟨ok, ?_⟩
        rw [eq]
        split at z3
        · rename_i ys e5
          obtain ⟨j, ej, z3⟩ := AllT.opt z3
          obtain ⟨x, o', e6, e7, q'⟩ := r3.live' (l3.at_ e1)
          rw [e5] at e6
          cases e6
          cases q' with
          | lst q' =>
            simp only [e7]
            rw [q'.length] at ej
            exact opt_of r3 ej (z3 _ _ (l1.trans (l2.trans l3)) (r3.put (l3.at_ e1) (.lst (q'.set (.int _) j))) _ (sr.mono (l1.trans (l2.trans l3))))
        · exact z3.elim
      · exact z2.elim
    · exact z2.elim
  | .augF a f o e, σ, τ, s, ω, Fr, h, D, X, r, sr, z => by
    unfold vS at z
    unfold wS
    refine vE_sim hF a false σ τ s ω Fr h _ X r sr ((AllT.bind.mp z).mono (fun x s1 z1 ω1 h1 wx l1 r1 vx => ?_) (fun _ _ _ e => e))
    split at z1
    · cases vx with
      | ref e1 =>
      split at z1
      · rename_i c fs xs e2
        obtain ⟨fo, z1'⟩ := AllT.ite z1
        obtain ⟨u, eu, z1''⟩ := AllT.opt z1'
        obtain ⟨x, o', e3, e4, q⟩ := r1.live' e1
        rw [e2] at e3
        cases e3
        cases q with
        | ins q =>
        obtain ⟨w, ew, vu⟩ := getN_sim q eu
        refine opt_of (a := c) r1 (by simp only [isIns, e4]) ?_
        simp only [wFld, e4]
        refine ⟨fo, opt_of r1 ew ?_⟩
        refine vE_sim hF e false σ τ s1 ω1 Fr h1 _ X r1 (sr.mono l1) ((AllT.bind.mp z1'').mono (fun y s3 z3 ω3 h3 wy l3 r3 vy => ?_) (fun _ _ _ e => e.le l1))
        obtain ⟨v, ev, z3⟩ := AllT.opt z3
        obtain ⟨i1, j1, k1, rfl, rfl, rfl, ok, eq⟩ := augI_ok ev
        cases vu
        cases vy
        refine ⟨ok, ?_⟩
        rw [eq]
        split at z3
        · rename_i c' gs ys e5
          obtain ⟨⟨ec, ln⟩, z3⟩ := AllT.ite z3
          obtain ⟨x, o', e6, e7, q'⟩ := r3.live' (l3.at_ e1)
          rw [e5] at e6
          cases e6
          cases q' with
          | ins q' =>
            subst ec
            simp only [e7]
            refine ⟨trivial, by simpa using ln, ?_⟩
            obtain ⟨p1, p2⟩ := putN_sim (f := f) (VRel.int (pd := pd) (ω := ω3) k1) q'
            refine z3 _ _ (l1.trans l3) (r3.put (l3.at_ e1) ?_) _ (sr.mono (l1.trans l3))
            rw [← p1]
            exact .ins p2
        · exact z3.elim
      · exact z1.elim
    · exact z1.elim
  | .exp e, σ, τ, s, ω, Fr, h, D, X, r, sr, z => by
    unfold vS at z
    unfold wS
    refine vE_sim hF e false σ τ s ω Fr h _ X r sr ((AllT.bind.mp z).mono (fun x s1 z1 ω1 h1 wx l1 r1 vx => ?_) (fun _ _ _ e => e))
    exact z1 _ _ l1 r1 _ (sr.mono l1)
  | .ret e, σ, τ, s, ω, Fr, h, D, X, r, sr, z => by
    unfold vS at z
    unfold wS
    refine vE_sim hF e false σ τ s ω Fr h _ X r sr ((AllT.bind.mp z).mono (fun x s1 z1 ω1 h1 wx l1 r1 vx => ?_) (fun _ _ _ e => e))
    exact z1 _ _ l1 r1 _ vx
  | .retN, σ, τ, s, ω, Fr, h, D, X, r, sr, z => by
    unfold vS at z
    unfold wS
    exact z _ _ .refl r _ .non
  | .ifs c a b, σ, τ, s, ω, Fr, h, D, X, r, sr, z => by
    unfold vS at z
    unfold wS
    refine vE_sim hF c false σ τ s ω Fr h _ X r sr ((AllT.bind.mp z).mono (fun x s1 z1 ω1 h1 wx l1 r1 vx => ?_) (fun _ _ _ e => e))
    rcases brT_ok z1 with ⟨rfl, z1⟩ | ⟨rfl, z1⟩
    · cases vx
      exact vSs_sim a σ τ s1 ω1 Fr h1 D X r1 (sr.mono l1) (AllS.le l1 z1)
    · cases vx
      exact vSs_sim b σ τ s1 ω1 Fr h1 D X r1 (sr.mono l1) (AllS.le l1 z1)
  | .whl c b, σ, τ, s, ω, Fr, h, D, X, r, sr, z => by
    unfold vS at z
    unfold wS
    exact ⟨wf, whlT_sim (D := D) (fun σ τ ω h s Q r sr z => vE_sim hF c false σ τ s ω Fr h Q X r sr z) (fun σ τ ω h s N r sr z => vSs_sim b σ τ s ω Fr h ⟨N, D.rt, D.nx, N⟩ X r sr z) wf r sr z⟩
  | .fr t it b, σ, τ, s, ω, Fr, h, D, X, r, sr, z => by
    unfold vS at z
    unfold wS
    refine vI_sim hF it σ τ s ω Fr h _ X r sr ((AllT.bind.mp z).mono (fun src s1 z1 ω1 h1 xs Gd l1 r1 vx => ?_) (fun _ _ _ e => e))
    refine forT_sim (ω0 := ω1) (D := D) (g := src.g) vx.2 (fun x wx σ2 τ2 ω2 h2 s2 N l2 r2 v2 sr2 z2 => ?_) .refl r1 vx.1 (sr.mono l1) (AllS.le l1 z1)
    refine vTg_sim hF t x wx σ2 τ2 s2 ω2 Fr h2 _ X r2 v2 sr2 ((AllT.bind.mp z2).mono (fun σ3 s3 z3 ω3 h3 τ3 l3 r3 sr3 => ?_) (fun _ _ _ e => e))
    exact vSs_sim b σ3 τ3 s3 ω3 Fr h3 _ X r3 sr3 (AllS.le l3 z3)
  | .pas, σ, τ, s, ω, Fr, h, D, X, r, sr, z => by
    unfold vS at z
    unfold wS
    exact z _ _ .refl r _ sr
  | .brk, σ, τ, s, ω, Fr, h, D, X, r, sr, z => by
    unfold vS at z
    unfold wS
    exact z _ _ .refl r _ sr
  | .cont, σ, τ, s, ω, Fr, h, D, X, r, sr, z => by
    unfold vS at z
    unfold wS
    exact z _ _ .refl r _ sr
  | .never, σ, τ, s, ω, Fr, h, D, X, r, sr, z => by
    unfold vS at z
    exact z.elim
  | .rais c fs as, σ, τ, s, ω, Fr, h, D, X, r, sr, z => by
    unfold vS at z
    unfold wS
    refine vEs_sim hF as σ τ s ω Fr h _ X r sr ((AllT.bind.mp z).mono (fun vs s1 z1 ω1 h1 ws l1 r1 v1 => ?_) (fun _ _ _ e => e))
    obtain ⟨ln, z1⟩ := AllT.ite z1
    exact ⟨by rw [← v1.length]; exact ln, z1 _ _ _ l1 r1 (frel_zip fs v1)⟩
  | .tr a q asg hs, σ, τ, s, ω, Fr, h, D, X, r, sr, z => by
    unfold vS at z
    unfold wS
    refine vS_sim a σ τ s ω Fr h _ _ r sr ((AllT.catch_ z).mono (fun fl s1 z1 ω1 h1 l1 r1 => ?_) (fun c fs s1 z1 ω1 h1 gs l1 r1 f1 => ?_))
    · cases fl with
      | nx σ1 => exact fun τ1 sr1 => vSs_sim q σ1 τ1 s1 ω1 Fr h1 D (fun _ _ _ => False) r1 sr1 ((AllT.noE z1).mono (fun _ _ e => e.le l1) (fun _ _ _ e => e.elim))
      | ct σ1 => exact fun τ1 sr1 => z1 _ _ l1 r1 _ sr1
      | bk σ1 => exact fun τ1 sr1 => z1 _ _ l1 r1 _ sr1
      | rt d => exact fun w v => z1 _ _ l1 r1 _ v
    · obtain ⟨ok, z1⟩ := AllT.ite z1
      refine ⟨ok, ?_⟩
      cases e : hs.find? (fun H => T.sub c H.c) with
      | none =>
        rw [e] at z1
        exact z1 _ _ _ l1 r1 f1
      | some H =>
        rw [e] at z1
        obtain ⟨ec, z1⟩ := AllT.ite z1
        obtain ⟨ds, ed, z1⟩ := AllT.opt z1
        obtain ⟨ws, ew, vw⟩ := tpl_sim f1 ed
        exact ⟨⟨ec.1, by rw [← sr.1]; exact ec.2⟩, opt_of r1 ew (z1 _ _ l1 r1 _ ((SRel.blank sr.1).set (.tup vw)))⟩
theorem vSs_sim : ∀ (m : Ss) (σ : Env) (τ : St) (s : Sto) (ω : Wd) (Fr h : Hp) (D : En) (X : XK), R pd cp cs ω Fr h s → SRel pd ω σ τ → AllT (vSs T F C wf m σ s) (PS pd cp cs ω Fr D) (PostX pd cp cs ω Fr X) → wSs T G m D X τ h
  | .nil, σ, τ, s, ω, Fr, h, D, X, r, sr, z => by
    unfold vSs at z
    unfold wSs
    exact z _ _ .refl r _ sr
  | .cons a q, σ, τ, s, ω, Fr, h, D, X, r, sr, z => by
    unfold vSs at z
    unfold wSs
    refine vS_sim a σ τ s ω Fr h _ X r sr ((AllT.bind.mp z).mono (fun fl s1 z1 ω1 h1 l1 r1 => ?_) (fun _ _ _ e => e))
    cases fl with
    | nx σ1 => exact fun τ1 sr1 => vSs_sim q σ1 τ1 s1 ω1 Fr h1 D X r1 sr1 (AllS.le l1 z1)
    | ct σ1 => exact fun τ1 sr1 => z1 _ _ l1 r1 _ sr1
    | bk σ1 => exact fun τ1 sr1 => z1 _ _ l1 r1 _ sr1
    | rt d => exact fun w v => z1 _ _ l1 r1 _ v
end
end
section
variable {pd cp : Addr} {cs : List Int} {T : Tab} {C : Cfg} {wf : Nat} {B : Nat → Option Def}
theorem start_sim {ω : Wd} {n : Nat} : ∀ {ds : List D} {ws : List W}, VRels pd ω ds ws → SRel pd ω (startD n ds) (startW n ws) := by
  intro ds ws v
  refine ⟨by simp [startD, startW, v.length], fun i d e => ?_⟩
  unfold startD at e
  unfold startW
  by_cases l : i < ds.length
  · rw [List.getElem?_append_left (by simpa using l), List.getElem?_map] at e
    cases q : ds[i]? with
    | none => rw [q] at e; cases e
    | some x =>
      rw [q] at e
      cases e
      obtain ⟨w, ew, vw⟩ := v.get q
      exact ⟨w, by rw [List.getElem?_append_left (by simpa [← v.length] using l), List.getElem?_map, ew]; rfl, vw⟩
  · rw [List.getElem?_append_right (by simpa using Nat.le_of_not_lt l)] at e
    have := List.mem_of_getElem? e
    have := List.eq_of_mem_replicate this
    cases this
theorem fnR_sim {F : Fv} {G : Fn} (hF : FS pd cp cs F G) {Df : Def} {ds : List D} {ws : List W} {s : Sto} {ω : Wd} {Fr h : Hp} {Q : K1} {X : XK} (r : R pd cp cs ω Fr h s) (v : VRels pd ω ds ws) (z : PP pd cp cs ω Fr Q X (fnR (vSs T F C wf Df.body (startD Df.sl ds) s))) :
    wSs T G Df.body ⟨fun _ h' => Q .non h', Q, no2, no2⟩ X (startW Df.sl ws) h := by
  refine vSs_sim hF (C := C) (wf := wf) Df.body _ _ s ω Fr h _ X r (start_sim v) ((AllT.bind.mp z).mono (fun fl s1 z1 ω1 h1 l1 r1 => ?_) (fun _ _ _ e => e))
  cases fl with
  | nx σ1 => exact fun τ1 sr1 => z1 _ _ _ l1 r1 .non
  | ct σ1 => exact z1.elim
  | bk σ1 => exact z1.elim
  | rt d => exact fun w v => z1 _ _ _ l1 r1 v
theorem ev_sim (hD : Dr B) : ∀ d, FS pd cp cs (ev T B C wf d) (run T B (d + 1))
  | 0 => fun f ds s ω Fr h ws Q X r v z => z.elim
  | d + 1 => fun f ds s ω Fr h ws Q X r v z => by
    unfold ev at z
    split at z
    · rename_i e
      subst e
      unfold take at z
      split at z
      · cases v with
        | cons v1 v =>
        cases v with
        | cons v2 v =>
        cases v
        cases v1
        cases v2
        obtain ⟨⟨n0, nb⟩, z⟩ := AllT.ite z
        exact take_s hD r.st n0 (Bd.log2 (n := 200) (by unfold Bd; omega) (by decide)) fun i h' i0 i1 st le => z i i0 i1 _ _ _ .refl (r.draw st le) (.int _)
      · exact z.elim
    · unfold Mi.run
      split at z
      · rename_i Df e
        try simp only [e]
        obtain ⟨l, z⟩ := AllT.ite z
        refine ⟨by rw [← v.length]; exact l, ?_⟩
        split at z
        · obtain ⟨cl, z⟩ := AllT.ite z
          exact fnR_sim (ev_sim hD d) r.own (cleans_sim (ω1 := ω) (ω2 := ⟨[], ω.fz⟩) (fun _ _ e => e) v cl) (clo_sim r (ωc := ⟨[], ω.fz⟩) rfl z)
        · exact fnR_sim (ev_sim hD d) r v z
      · exact z.elim
def startL (n : Nat) : Env := none :: some .drw :: List.replicate (n - 2) none
theorem law_of (hD : Dr B) {n d : Nat} {rest : Ss} (hB : B 0 = some ⟨1, n, .cons (.asg (.nm 1) (.call 3 (.cons (.var 0) .nil) [])) rest⟩) (hn : 2 ≤ n)
    (z : AllT (vSs T (ev T B C wf d) C wf rest (startL n) []) (fun fl _ => fl = .rt (.bl true)) (fun _ _ _ => False)) {a : Addr} {ns : List Int} (hl : ns.length ≤ 63) : run T B (d + 2) 0 [.ref a] (hp0 a (ns.map W.int)) (fun v _ => v = .bl true) noX := by
  refine run_at hB rfl ?_
  refine ss_cons ?_
  simp only [wS_asg, wE_call, wEs_cons, wEs_nil, wE_var, List.append_nil]
  have e0 : (startW n [W.ref a])[0]? = some (some (.ref a)) := rfl
  simp only [e0]
  refine fresh_s hD (ns := ns) (by unfold hp0; rw [if_pos rfl]) hl fun p cp h1 st np le => ?_
  simp only [wTg_nm]
  have r : R p cp ns ⟨[], fun _ => none⟩ (fun _ => none) h1 [] := ⟨rfl, fun n x e => (by simp at e), by simp, fun _ _ e => (by cases e), fun _ _ => rfl, fun _ _ e => (by cases e), st, rfl, by simp, by simp, rfl⟩
  refine vSs_sim (ev_sim hD d) (C := C) (wf := wf) rest (startL n) _ [] ⟨[], fun _ => none⟩ (fun _ => none) h1 _ noX r ?_ (z.mono (fun fl s e ω' h' l r' => ?_) (fun _ _ _ e => e.elim))
  · have e1 : startW n [W.ref a] = some (.ref a) :: none :: List.replicate (n - 2) none := by
      unfold startW
      have : n - 1 = (n - 2) + 1 := by omega
      show some (W.ref a) :: List.replicate (n - 1) none = _
      rw [this, List.replicate_succ]
    rw [e1]
    refine ⟨by simp [startL], fun i x e => ?_⟩
    unfold startL at e
    match i, e with
    | 0, e => cases e
    | 1, e => cases e; exact ⟨.ref p, rfl, .drw⟩
    | i + 2, e =>
      have e : (List.replicate (n - 2) (none : Option D))[i]? = some (some x) := by simpa using e
      have := List.eq_of_mem_replicate (List.mem_of_getElem? e)
      cases this
  · subst e
    exact fun w v => by cases v; rfl
end
end Pv
set_option maxHeartbeats 4000000
/-! how plain readings are reckoned -/
namespace Pv
open PySem Mi
theorem bind_ok {α β : Type} {a : α} {s : Sto} {f : α → Sto → Tr β} : (Tr.ok a s).bind f = f a s := (rfl)
theorem bind_exc {α β : Type} {c : Nat} {fs : List (Nat × D)} {s : Sto} {f : α → Sto → Tr β} : (Tr.exc c fs s : Tr α).bind f = .exc c fs s := (rfl)
theorem bind_bad {α β : Type} {f : α → Sto → Tr β} : (Tr.bad : Tr α).bind f = .bad := (rfl)
theorem bind_ask {α β : Type} {n : Int} {k : Int → Tr α} {f : α → Sto → Tr β} : (Tr.ask n k).bind f = .ask n fun i => (k i).bind f := (rfl)
theorem bind_assoc {α β γ : Type} {f : α → Sto → Tr β} {g : β → Sto → Tr γ} : ∀ {t : Tr α}, (t.bind f).bind g = t.bind fun a s => (f a s).bind g
  | .ok _ _ => rfl
  | .exc _ _ _ => rfl
  | .bad => rfl
  | .ask n k => by
    show Tr.ask n _ = Tr.ask n _
    congr 1
    funext i
    exact bind_assoc
theorem catch_ok {α β : Type} {a : α} {s : Sto} {f : α → Sto → Tr β} {g : Nat → List (Nat × D) → Sto → Tr β} : (Tr.ok a s).catch_ f g = f a s := (rfl)
theorem catch_exc {α β : Type} {c : Nat} {fs : List (Nat × D)} {s : Sto} {f : α → Sto → Tr β} {g : Nat → List (Nat × D) → Sto → Tr β} : (Tr.exc c fs s : Tr α).catch_ f g = g c fs s := (rfl)
theorem noE_ok {α : Type} {a : α} {s : Sto} : (Tr.ok a s).noE = .ok a s := (rfl)
theorem bind_ite {α β : Type} {c : Prop} [Decidable c] {a b : Tr α} {f : α → Sto → Tr β} : (if c then a else b).bind f = if c then a.bind f else b.bind f := by split <;> rfl
theorem opt_some {α β : Type} {a : α} {f : α → Tr β} : Tr.opt (some a) f = f a := (rfl)
theorem opt_none {α β : Type} {f : α → Tr β} : Tr.opt none f = .bad := (rfl)
theorem brT_bl {α : Type} {b : Bool} {x y : Tr α} : brT (.bl b) x y = if b = true then x else y := by cases b <;> rfl
theorem fz_clean {s : Sto} {d : D} (h : clean d = true) : fz s d = some d := by unfold fz; rw [if_pos h]
theorem clo_ok {s s' : Sto} {d : D} (h : clean d = true) : clo s (.ok d s') = .ok d s := by unfold clo; rw [fz_clean h]
theorem clo_fz {s s' : Sto} {d d' : D} (h : fz s' d = some d') : clo s (.ok d s') = .ok d' s := by unfold clo; rw [h]
theorem clo_ite {s : Sto} {c : Prop} [Decidable c] {a b : Tr D} : clo s (if c then a else b) = if c then clo s a else clo s b := by split <;> rfl
theorem clo_bad {s : Sto} : clo s .bad = .bad := (rfl)
theorem clo_ask {s : Sto} {n : Int} {k : Int → Tr D} : clo s (.ask n k) = .ask n fun i => clo s (k i) := (rfl)
theorem clo_exc {s s' : Sto} {c : Nat} {fs fs' : List (Nat × D)} (h : fzFs s' fs = some fs') : clo s (.exc c fs s') = .exc c fs' s := by unfold clo; rw [h]
theorem AllT_clo {s : Sto} {P : D → Sto → Prop} {E : Nat → List (Nat × D) → Sto → Prop} : ∀ {t : Tr D}, AllT t (fun d s' => ∃ d', fz s' d = some d' ∧ P d' s) (fun c fs s' => ∃ fs', fzFs s' fs = some fs' ∧ E c fs' s) → AllT (clo s t) P E
  | .ok d s', ⟨d', h, z⟩ => by rw [clo_fz h]; exact z
  | .exc c fs s', ⟨d', h, z⟩ => by rw [clo_exc h]; exact z
  | .bad, z => z
  | .ask n k, z => fun i h1 h2 => AllT_clo (z i h1 h2)
@[irreducible] def AT {α : Type} (t : Tr α) (P : α → Sto → Prop) (E : Nat → List (Nat × D) → Sto → Prop) : Prop := AllT t P E
theorem AT_eq {α : Type} {t : Tr α} {P : α → Sto → Prop} {E : Nat → List (Nat × D) → Sto → Prop} : AT t P E = AllT t P E := by unfold AT; rfl
theorem AT_clo {s : Sto} {P : D → Sto → Prop} {E : Nat → List (Nat × D) → Sto → Prop} {t : Tr D} (h : AT t (fun d s' => ∃ d', fz s' d = some d' ∧ P d' s) (fun c fs s' => ∃ fs', fzFs s' fs = some fs' ∧ E c fs' s)) : AT (clo s t) P E := by
  rw [AT_eq] at *
  exact AllT_clo h
theorem AT_bind {α β : Type} {t : Tr α} {f : α → Sto → Tr β} {P : β → Sto → Prop} {E : Nat → List (Nat × D) → Sto → Prop} : AT (t.bind f) P E = AT t (fun a s => AT (f a s) P E) E := by
  rw [AT_eq, AT_eq]
  have e : (fun a s => AT (f a s) P E) = fun a s => AllT (f a s) P E := by funext a s; exact AT_eq
  rw [e]
  exact propext AllT.bind
theorem AT_ok {α : Type} {a : α} {s : Sto} {P : α → Sto → Prop} {E : Nat → List (Nat × D) → Sto → Prop} : AT (.ok a s) P E = P a s := by rw [AT_eq]; rfl
theorem AT_exc {α : Type} {c : Nat} {fs : List (Nat × D)} {s : Sto} {P : α → Sto → Prop} {E : Nat → List (Nat × D) → Sto → Prop} : AT (.exc c fs s) P E = E c fs s := by rw [AT_eq]; rfl
theorem AT_bad {α : Type} {P : α → Sto → Prop} {E : Nat → List (Nat × D) → Sto → Prop} : AT .bad P E = False := by rw [AT_eq]; rfl
theorem AT_ask {α : Type} {n : Int} {k : Int → Tr α} {P : α → Sto → Prop} {E : Nat → List (Nat × D) → Sto → Prop} : AT (.ask n k) P E = ∀ i, 0 ≤ i → i < n → AT (k i) P E := by
  rw [AT_eq]
  have e : (fun i => AT (k i) P E) = fun i => AllT (k i) P E := by funext i; exact AT_eq
  show (∀ i, 0 ≤ i → i < n → AllT (k i) P E) = ∀ i, 0 ≤ i → i < n → (fun i => AT (k i) P E) i
  rw [e]
theorem AT_ite {α : Type} {c : Prop} [Decidable c] {a b : Tr α} {P : α → Sto → Prop} {E : Nat → List (Nat × D) → Sto → Prop} : AT (if c then a else b) P E = if c then AT a P E else AT b P E := by split <;> rfl
theorem AT_mono {α : Type} {P P' : α → Sto → Prop} {E E' : Nat → List (Nat × D) → Sto → Prop} {t : Tr α} (z : AT t P E) (hp : ∀ a s, P a s → P' a s) (he : ∀ c fs s, E c fs s → E' c fs s) : AT t P' E' := by
  rw [AT_eq] at *
  exact z.mono hp he
theorem AllT_bind {α β : Type} {t : Tr α} {f : α → Sto → Tr β} {P : β → Sto → Prop} {E : Nat → List (Nat × D) → Sto → Prop} : AllT (t.bind f) P E = AllT t (fun a s => AllT (f a s) P E) E := propext AllT.bind
theorem AllT_ok {α : Type} {a : α} {s : Sto} {P : α → Sto → Prop} {E : Nat → List (Nat × D) → Sto → Prop} : AllT (.ok a s) P E = P a s := (rfl)
theorem AllT_exc {α : Type} {c : Nat} {fs : List (Nat × D)} {s : Sto} {P : α → Sto → Prop} {E : Nat → List (Nat × D) → Sto → Prop} : AllT (.exc c fs s) P E = E c fs s := (rfl)
theorem AllT_bad {α : Type} {P : α → Sto → Prop} {E : Nat → List (Nat × D) → Sto → Prop} : AllT .bad P E = False := (rfl)
theorem AllT_ask {α : Type} {n : Int} {k : Int → Tr α} {P : α → Sto → Prop} {E : Nat → List (Nat × D) → Sto → Prop} : AllT (.ask n k) P E = ∀ i, 0 ≤ i → i < n → AllT (k i) P E := (rfl)
theorem AllT_ite {α : Type} {c : Prop} [Decidable c] {a b : Tr α} {P : α → Sto → Prop} {E : Nat → List (Nat × D) → Sto → Prop} : AllT (if c then a else b) P E = if c then AllT a P E else AllT b P E := by split <;> rfl
section
variable {T : Tab} {B : Nat → Option Def} {C : Cfg} {wf d f : Nat} {Df : Def} {ds : List D} {s : Sto}
theorem ev_at (hB : B f = some Df) (hf : f ≠ 1) (hp : C.pu f = true) (hc : cleans ds = true) (hl : ds.length = Df.ar) : ev T B C wf (d + 1) f ds s = clo s (fnR (vSs T (ev T B C wf d) C wf Df.body (startD Df.sl ds) [])) := by
  rw [ev]
  dsimp only
  rw [if_neg hf]
  simp only [hB]
  rw [if_pos hl, if_pos hp, if_pos hc]
theorem ev_in (hB : B f = some Df) (hf : f ≠ 1) (hp : C.pu f = false) (hl : ds.length = Df.ar) : ev T B C wf (d + 1) f ds s = fnR (vSs T (ev T B C wf d) C wf Df.body (startD Df.sl ds) s) := by
  rw [ev]
  dsimp only
  rw [if_neg hf]
  simp only [hB]
  rw [if_pos hl, hp]
  rfl
theorem ev_take {n : Int} : ev T B C wf (d + 1) 1 [.drw, .int n] s = if 0 < n ∧ n < 2 ^ 200 then .ask n fun i => .ok (.int i) s else .bad := by
  rw [ev]
  dsimp only
  rw [if_pos rfl, take]
end
theorem bg_of {i : Int} (h1 : -(2 ^ 200) < i) (h2 : i < 2 ^ 200) : bg i = true := by
  unfold bg
  refine decide_eq_true ?_
  refine Nat.lt_of_lt_of_le (m := 2 ^ 200) ?_ (Nat.pow_le_pow_right (by decide) (by decide))
  omega
theorem bg_bd' {i : Int} {n : Nat} (h : Bd n i) (hn : n ≤ 4096) : bg i = true := by
  unfold bg
  exact decide_eq_true (h.mono hn)
theorem or_ok {b c : Bool} {s : Sto} : (if b = true then Tr.ok (D.bl true) s else Tr.ok (D.bl c) s) = Tr.ok (D.bl (b || c)) s := by cases b <;> rfl
theorem and_ok {b c : Bool} {s : Sto} : (if b = true then Tr.ok (D.bl c) s else Tr.ok (D.bl false) s) = Tr.ok (D.bl (b && c)) s := by cases b <;> rfl
theorem not_ok {b : Bool} {s : Sto} : (if b = true then Tr.ok (D.bl false) s else Tr.ok (D.bl true) s) = Tr.ok (D.bl (!b)) s := by cases b <;> rfl
theorem ngB_ok {neg b : Bool} {s : Sto} : ngB neg (.ok (.bl b) s) = .ok (.bl (if neg then !b else b)) s := (rfl)
section
variable {T : Tab} {F : Fv} {s : Sto}
theorem vEq_dat {neg : Bool} {x y : D} {d e : PyData} (hx : insC s x = none) (hy : insC s y = none) (h1 : dt 64 s x = some d) (h2 : dt 64 s y = some e) (s1 : SeqAt.shaped d = true) (s2 : SeqAt.shaped e = true) : vEq T F neg x y s = .ok (.bl (if neg then !PyData.eqv d e else PyData.eqv d e)) s := by
  unfold vEq
  rw [hx, hy]
  simp only [h1, h2, Pv.opt_some]
  rw [if_pos ⟨s1, s2⟩]
theorem vEq_int {neg : Bool} {i j : Int} : vEq T F neg (.int i) (.int j) s = .ok (.bl (if neg then !decide (i = j) else decide (i = j))) s := by
  have e : PyData.eqv (.int i) (.int j) = decide (i = j) := by
    simp only [PyData.eqv]
    exact (Bool.beq_eq_decide_eq i j)
  rw [vEq_dat (d := .int i) (e := .int j) rfl rfl rfl rfl rfl rfl, e]
theorem vEq_bl {neg : Bool} {a b : Bool} : vEq T F neg (.bl a) (.bl b) s = .ok (.bl (if neg then !(a == b) else (a == b))) s := by
  rw [vEq_dat (d := .bool a) (e := .bool b) rfl rfl rfl rfl rfl rfl]
  rfl
theorem vEq_str {neg : Bool} {a b : Str} (ha : SeqAt.shaped (.str a) = true) (hb : SeqAt.shaped (.str b) = true) : vEq T F neg (.str a) (.str b) s = .ok (.bl (if neg then !(a == b) else (a == b))) s := by
  rw [vEq_dat (d := .str a) (e := .str b) rfl rfl rfl rfl ha hb]
  rfl
theorem vEq_2 {neg : Bool} {a b c d : Int} : vEq T F neg (.nd .tup [.int a, .int b]) (.nd .tup [.int c, .int d]) s = .ok (.bl (if neg then !decide ((a, b) = (c, d)) else decide ((a, b) = (c, d)))) s := by
  have e : PyData.eqv (.tuple [.int a, .int b]) (.tuple [.int c, .int d]) = decide ((a, b) = (c, d)) := by
    simp only [PyData.eqv, PyData.eqvAll, Bool.and_true, Prod.mk.injEq, Bool.decide_and]
    rw [Bool.beq_eq_decide_eq, Bool.beq_eq_decide_eq]
  rw [vEq_dat (d := .tuple [.int a, .int b]) (e := .tuple [.int c, .int d]) rfl rfl rfl rfl rfl rfl, e]
end
theorem lcT_map {st : D → Sto → Tr (Option D)} {f : D → D} {s : Sto} : ∀ {xs acc : List D}, (∀ x ∈ xs, st x s = .ok (some (f x)) s) → acc.length + xs.length ≤ sizeLine → lcT [] st xs acc s = .ok (acc ++ xs.map f) s
  | [], acc, _, _ => by simp [lcT, grd]
  | x :: xs, acc, h, l => by
    unfold lcT
    have g : grd [] s = true := (rfl)
    rw [if_pos g, h x (by simp), bind_ok]
    dsimp only
    rw [if_pos (by simp at l; omega), lcT_map (fun y m => h y (by simp [m])) (by simp at l ⊢; omega)]
    simp
theorem forT_inv0 {st : D → Env → Sto → Tr Fl} {I : Env → Sto → Prop} {P : Fl → Sto → Prop} {E : Nat → List (Nat × D) → Sto → Prop} (fin : ∀ σ s, I σ s → P (.nx σ) s) : ∀ {xs : List D} {σ : Env} {s : Sto}, (∀ x ∈ xs, ∀ σ s, I σ s → AllT (st x σ s) (fun fl s' => match fl with
    | .nx σ' => I σ' s'
    | .ct σ' => I σ' s'
    | .bk σ' => P (.nx σ') s'
    | .rt d => P (.rt d) s') E) → I σ s → AllT (forT [] st xs σ s) P E
  | [], σ, s, _, i => by
    unfold forT
    have g : grd [] s = true := (rfl)
    rw [if_pos g]
    exact fin _ _ i
  | x :: xs, σ, s, h, i => by
    unfold forT
    have g : grd [] s = true := (rfl)
    rw [if_pos g, AllT_bind]
    refine (h x (by simp) σ s i).mono (fun fl s' z => ?_) (fun _ _ _ e => e)
    cases fl with
    | nx σ' => exact forT_inv0 fin (fun y m => h y (by simp [m])) z
    | ct σ' => exact forT_inv0 fin (fun y m => h y (by simp [m])) z
    | bk σ' => exact z
    | rt d => exact z
theorem atI_lt {α : Type} {xs : List α} {i : Int} (h0 : 0 ≤ i) (h1 : i < xs.length) : ∃ x, x ∈ xs ∧ L2.atI xs i = some x := by
  obtain ⟨n, rfl⟩ := Int.eq_ofNat_of_zero_le h0
  have l : n < xs.length := by omega
  refine ⟨xs[n], List.getElem_mem l, ?_⟩
  unfold L2.atI L2.ixN
  rw [if_pos h0, if_pos h1]
  show xs[(n : Int).toNat]? = some xs[n]
  rw [Int.toNat_natCast]
  exact List.getElem?_eq_getElem l
theorem forT_inv {st : D → Env → Sto → Tr Fl} {I : Env → Sto → Prop} {P : Fl → Sto → Prop} {E : Nat → List (Nat × D) → Sto → Prop} (fin : ∀ σ s, I σ s → P (.nx σ) s) {xs : List D} {σ : Env} {s : Sto} (h : ∀ x ∈ xs, ∀ σ s, I σ s → AT (st x σ s) (fun fl s' => match fl with
    | .nx σ' => I σ' s'
    | .ct σ' => I σ' s'
    | .bk σ' => P (.nx σ') s'
    | .rt d => P (.rt d) s') E) (i : I σ s) : AT (forT [] st xs σ s) P E := by
  rw [AT_eq]
  refine forT_inv0 fin (fun x m σ s i => ?_) i
  have := h x m σ s i
  rw [AT_eq] at this
  exact this
/-- the text of an int is short -/
theorem strI_len {i : Int} {n : Nat} (h : Bd n i) (hn : n ≤ 3000) : (Str.ofString (toString i)).length ≤ 3000 := by
  rw [Str.ofString_eq_toList]
  unfold Str.length
  simp only [List.size_toArray, List.length_map]
  have hd : ∀ m : Nat, m < 2 ^ 3000 → (Nat.toDigits 10 m).length ≤ 2999 := fun m hm => (Nat.length_toDigits_le_iff (by decide) (by decide)).mpr (Nat.lt_of_lt_of_le hm (by
    have e : (2 : Nat) ^ 3000 ≤ 8 ^ 2999 := by
      have : (8 : Nat) ^ 2999 = 2 ^ (3 * 2999) := by rw [Nat.pow_mul]
      rw [this]
      exact Nat.pow_le_pow_right (by decide) (by decide)
    exact Nat.le_trans e (Nat.pow_le_pow_left (by decide) _)))
  have hi : i.natAbs < 2 ^ 3000 := h.mono hn
  show (Int.repr i).toList.length ≤ 3000
  cases i with
  | ofNat m =>
    show (Nat.repr m).toList.length ≤ 3000
    rw [Nat.toList_repr]
    have := hd m hi
    omega
  | negSucc m =>
    show ("-" ++ Nat.repr (m + 1)).toList.length ≤ 3000
    rw [String.toList_append, List.length_append, Nat.toList_repr]
    have := hd (m + 1) hi
    have e : ("-" : String).toList.length = 1 := (rfl)
    omega
theorem bd_log {i : Int} {n : Nat} (h : Bd n i) (hn : n ≤ 1919) : i.natAbs.log2 < 1920 := by
  by_cases z : i.natAbs = 0
  · rw [z]; decide
  · exact (Nat.log2_lt z).mpr (h.mono (by omega))
theorem Str.len_append {a b : Str} : (a ++ b).length = a.length + b.length := by
  show (Str.append a b).length = _
  unfold Str.append Str.length
  simp
end Pv
set_option maxHeartbeats 4000000
/-! the plain readings, one equation a construct -/
namespace Pv
open PySem Mi
section
variable {T : Tab} {F : Fv} {C : Cfg} {wf : Nat} {lv : Bool}
def vget (σ : Env) (i : Nat) (s : Sto) : Tr D := match σ[i]? with
  | some (some d) => .ok d s
  | _ => .bad
theorem vget_zero {d : D} {σ : Env} {s : Sto} : vget (some d :: σ) 0 s = .ok d s := (rfl)
theorem vget_succ {o : Option D} {σ : Env} {i : Nat} {s : Sto} : vget (o :: σ) (i + 1) s = vget σ i s := by unfold vget; rw [List.getElem?_cons_succ]
theorem e_vE_var {i : Nat} {s : Sto} {σ : Env} : vE T F C lv (.var i) σ s = vget σ i s := by rw [vE]; rfl
theorem e_vE_cst {s : _} {w : _} {z0 : _} : vE T F C lv (.cst w) z0 s = Tr.opt (ofW w) fun d => .ok d s := by first | (rw [vE]; done) | (rw [vE]; rfl)
theorem e_vE_bin {a : _} {b : _} {o : _} {s : _} {σ : _} : vE T F C lv (.bin o a b) σ s = (vE T F C false a σ s).bind fun x s1 => (vE T F C false b σ s1).bind fun y s2 => vBin T F lv o x y s2 := by first | (rw [vE]; done) | (rw [vE]; rfl)
theorem e_vE_neg {a : _} {s : _} {σ : _} : vE T F C lv (.neg a) σ s = (vE T F C false a σ s).bind fun x s1 => vNeg T F x s1 := by first | (rw [vE]; done) | (rw [vE]; rfl)
theorem e_vE_cmp {a : _} {b : _} {o : _} {s : _} {σ : _} : vE T F C lv (.cmp o a b) σ s = (vE T F C false a σ s).bind fun x s1 => (vE T F C false b σ s1).bind fun y s2 => vCmp T F o x y s2 := by first | (rw [vE]; done) | (rw [vE]; rfl)
theorem e_vE_cmp2 {a : _} {b : _} {c : _} {o : _} {p : _} {s : _} {σ : _} : vE T F C lv (.cmp2 o p a b c) σ s = (vE T F C false a σ s).bind fun x s1 => (vE T F C false b σ s1).bind fun y s2 => (vCmp T F o x y s2).bind fun r s3 => brT r ((vE T F C false c σ s3).bind fun z s4 => vCmp T F p y z s4) (.ok (.bl false) s3) := by first | (rw [vE]; done) | (rw [vE]; rfl)
theorem e_vE_and {a : _} {b : _} {s : _} {σ : _} : vE T F C lv (.and a b) σ s = (vE T F C false a σ s).bind fun x s1 => brT x (vE T F C false b σ s1) (.ok (.bl false) s1) := by first | (rw [vE]; done) | (rw [vE]; rfl)
theorem e_vE_or {a : _} {b : _} {s : _} {σ : _} : vE T F C lv (.or a b) σ s = (vE T F C false a σ s).bind fun x s1 => brT x (.ok (.bl true) s1) (vE T F C false b σ s1) := by first | (rw [vE]; done) | (rw [vE]; rfl)
theorem e_vE_not {a : _} {s : _} {σ : _} : vE T F C lv (.not a) σ s = (vE T F C false a σ s).bind fun x s1 => brT x (.ok (.bl false) s1) (.ok (.bl true) s1) := by first | (rw [vE]; done) | (rw [vE]; rfl)
theorem e_vE_ite {a : _} {b : _} {c : _} {s : _} {σ : _} : vE T F C lv (.ite c a b) σ s = (vE T F C false c σ s).bind fun x s1 => brT x (vE T F C lv a σ s1) (vE T F C lv b σ s1) := by first | (rw [vE]; done) | (rw [vE]; rfl)
theorem e_vE_tup {es : _} {s : _} {σ : _} : vE T F C lv (.tup es) σ s = (vEs T F C es σ s).bind fun vs s1 => .ok (.nd .tup vs) s1 := by first | (rw [vE]; done) | (rw [vE]; rfl)
theorem e_vE_lst {es : _} {s : _} {σ : _} : vE T F C lv (.lst es) σ s = (vEs T F C es σ s).bind fun vs s1 => mk lv .lst vs s1 := by first | (rw [vE]; done) | (rw [vE]; rfl)
theorem e_vE_fmt {e : _} {s : _} {σ : _} : vE T F C lv (.fmt e) σ s = (vE T F C false e σ s).bind fun x s1 => (match x with
    | .str y => if y.length ≤ sizeLine then .ok (.str y) s1 else .bad
    | .int i => if i.natAbs.log2 < 1920 then .ok (.str (toString i)) s1 else .bad
    | _ => .bad) := by first | (rw [vE]; done) | (rw [vE]; rfl)
theorem e_vE_js {es : _} {s : _} {σ : _} : vE T F C lv (.js es) σ s = (vJ T F C es Str.empty σ s).bind fun x s1 => .ok (.str x) s1 := by first | (rw [vE]; done) | (rw [vE]; rfl)
theorem e_vE_idx {a : _} {i : _} {s : _} {σ : _} : vE T F C lv (.idx a i) σ s = (vE T F C false a σ s).bind fun x s1 => (vE T F C false i σ s1).bind fun y s2 => vIdx x y s2 := by first | (rw [vE]; done) | (rw [vE]; rfl)
theorem e_vE_sl {a : _} {hi : _} {lo : _} {s : _} {σ : _} : vE T F C lv (.sl a lo hi) σ s = (vE T F C false a σ s).bind fun x s1 => (vEo T F C lo σ s1).bind fun l s2 => (vEo T F C hi σ s2).bind fun u s3 => vSl lv x l u s3 := by first | (rw [vE]; done) | (rw [vE]; rfl)
theorem e_vE_fld {a : _} {f : _} {s : _} {σ : _} : vE T F C lv (.fld a f) σ s = (vE T F C false a σ s).bind fun x s1 => vFld T x f s1 := by first | (rw [vE]; done) | (rw [vE]; rfl)
theorem e_vE_call {as : _} {ds : _} {f : _} {s : _} {σ : _} : vE T F C lv (.call f as ds) σ s = (vEs T F C as σ s).bind fun vs s1 => Tr.opt (ofWs ds) fun us => F f (vs ++ us) s1 := by first | (rw [vE]; done) | (rw [vE]; rfl)
theorem e_vE_callK {as : _} {f : _} {g : _} {s : _} {σ : _} : vE T F C lv (.callK f as g) σ s = (vEs T F C as σ s).bind fun vs s1 => Tr.opt (argsD vs g) fun us => F f us s1 := by first | (rw [vE]; done) | (rw [vE]; rfl)
theorem e_vE_make {as : _} {c : _} {ds : _} {f : _} {s : _} {σ : _} : vE T F C lv (.make c f as ds) σ s = (vEs T F C as σ s).bind fun vs s1 => Tr.opt (ofWs ds) fun us => vMake F C c f (vs ++ us) s1 := by first | (rw [vE]; done) | (rw [vE]; rfl)
theorem e_vE_makeK {as : _} {c : _} {f : _} {g : _} {s : _} {σ : _} : vE T F C lv (.makeK c f as g) σ s = (vEs T F C as σ s).bind fun vs s1 => Tr.opt (argsD vs g) fun us => vMake F C c f us s1 := by first | (rw [vE]; done) | (rw [vE]; rfl)
theorem e_vE_meth {as : _} {m : _} {o : _} {s : _} {σ : _} : vE T F C lv (.meth o m as) σ s = (vE T F C false o σ s).bind fun x s1 => (match look s1 x with
    | some (.ins c fs, _) => if fs.contains m = false then Tr.opt (T.meth c m) fun f => (vEs T F C as σ s1).bind fun vs s2 => F f (x :: vs) s2 else .bad
    | _ => .bad) := by first | (rw [vE]; done) | (rw [vE]; rfl)
theorem e_vE_bif {as : _} {b : _} {s : _} {σ : _} : vE T F C lv (.bif b as) σ s = (vEs T F C as σ s).bind fun vs s1 => vBif T F lv b vs s1 := by first | (rw [vE]; done) | (rw [vE]; rfl)
theorem e_vE_bm {as : _} {m : _} {o : _} {s : _} {σ : _} : vE T F C lv (.bm m o as) σ s = (vE T F C false o σ s).bind fun x s1 => if rcvD s1 x m = true then (vEs T F C as σ s1).bind fun vs s2 => vBm lv m x vs s2 else .bad := by first | (rw [vE]; done) | (rw [vE]; rfl)
theorem e_vE_isi {a : _} {cs : _} {s : _} {σ : _} : vE T F C lv (.isi a cs) σ s = (vE T F C false a σ s).bind fun x s1 => if knownD T s1 x = true then .ok (.bl (cs.any (isOfD T s1 x))) s1 else .bad := by first | (rw [vE]; done) | (rw [vE]; rfl)
theorem e_vE_own {e : _} {s : _} {σ : _} : vE T F C lv (.own e) σ s = vE T F C true e σ s := by first | (rw [vE]; done) | (rw [vE]; rfl)
theorem e_vEs_nil {s : _} {z0 : _} : vEs T F C (.nil) z0 s = .ok [] s := by first | (rw [vEs]; done) | (rw [vEs]; rfl)
theorem e_vEs_cons {e : _} {r : _} {s : _} {σ : _} : vEs T F C (.cons e r) σ s = (vE T F C false e σ s).bind fun v s1 => (vEs T F C r σ s1).bind fun vs s2 => .ok (v :: vs) s2 := by first | (rw [vEs]; done) | (rw [vEs]; rfl)
theorem e_vJ_nil {acc : _} {s : _} {z0 : _} : vJ T F C (.nil) acc z0 s = .ok acc s := by first | (rw [vJ]; done) | (rw [vJ]; rfl)
theorem e_vJ_cons {acc : _} {e : _} {r : _} {s : _} {σ : _} : vJ T F C (.cons e r) acc σ s = (vE T F C false e σ s).bind fun v s1 => (match v with
    | .str y => if (acc ++ y).length ≤ sizeLine then vJ T F C r (acc ++ y) σ s1 else .bad
    | _ => .bad) := by first | (rw [vJ]; done) | (rw [vJ]; rfl)
theorem e_vAll_nil {s : _} {z0 : _} : vAll T F C (.nil) z0 s = .ok true s := by first | (rw [vAll]; done) | (rw [vAll]; rfl)
theorem e_vAll_cons {e : _} {r : _} {s : _} {σ : _} : vAll T F C (.cons e r) σ s = (vE T F C false e σ s).bind fun v s1 => brT v (vAll T F C r σ s1) (.ok false s1) := by first | (rw [vAll]; done) | (rw [vAll]; rfl)
theorem e_vEo_no {s : _} {z0 : _} : vEo T F C (.no) z0 s = .ok none s := by first | (rw [vEo]; done) | (rw [vEo]; rfl)
theorem e_vEo_so {e : _} {s : _} {σ : _} : vEo T F C (.so e) σ s = (vE T F C false e σ s).bind fun v s1 => (match v with
    | .int i => .ok (some i) s1
    | _ => .bad) := by first | (rw [vEo]; done) | (rw [vEo]; rfl)
theorem e_vI_of {e : _} {s : _} {σ : _} : vI T F C (.of e) σ s = (vE T F C false e σ s).bind fun v s1 => Tr.opt (seqD s1 v) fun r => .ok r s1 := by first | (rw [vI]; done) | (rw [vI]; rfl)
theorem e_vI_rng1 {a : _} {s : _} {σ : _} : vI T F C (.rng1 a) σ s = (vE T F C false a σ s).bind fun v s1 => (match v with
    | .int j => if -(2 ^ 62) ≤ j ∧ j < 2 ^ 62 then .ok ⟨rngD 0 j.toNat, [], true⟩ s1 else .bad
    | _ => .bad) := by first | (rw [vI]; done) | (rw [vI]; rfl)
theorem e_vI_rng2 {a : _} {b : _} {s : _} {σ : _} : vI T F C (.rng2 a b) σ s = (vE T F C false a σ s).bind fun v s1 => (vE T F C false b σ s1).bind fun u s2 => (match v, u with
    | .int i, .int j => if -(2 ^ 62) ≤ i ∧ i < 2 ^ 62 ∧ -(2 ^ 62) ≤ j ∧ j < 2 ^ 62 then .ok ⟨rngD i (j - i).toNat, [], true⟩ s2 else .bad
    | _, _ => .bad) := by first | (rw [vI]; done) | (rw [vI]; rfl)
theorem e_vI_chr {a : _} {s : _} {σ : _} : vI T F C (.chr a) σ s = (vE T F C false a σ s).bind fun v s1 => (match v with
    | .str z => .ok ⟨chrD z, [], true⟩ s1
    | _ => .bad) := by first | (rw [vI]; done) | (rw [vI]; rfl)
theorem e_vI_enm {a : _} {s : _} {σ : _} : vI T F C (.enm a) σ s = (vE T F C false a σ s).bind fun v s1 => Tr.opt (seqD s1 v) fun r => .ok ⟨enumD 0 r.xs, r.g, true⟩ s1 := by first | (rw [vI]; done) | (rw [vI]; rfl)
theorem e_vI_zip {a : _} {b : _} {s : _} {σ : _} : vI T F C (.zip a b) σ s = (vE T F C false a σ s).bind fun v s1 => (vE T F C false b σ s1).bind fun u s2 => Tr.opt (seqD s2 v) fun r => Tr.opt (seqD s2 u) fun q => if r.tp = q.tp then .ok ⟨zipD r.xs q.xs, r.g ++ q.g, true⟩ s2 else .bad := by first | (rw [vI]; done) | (rw [vI]; rfl)
theorem e_vTg_nm {i : _} {s : _} {v : _} {σ : _} : vTg T F C (.nm i) v σ s = .ok (σ.set i (some v)) s := by first | (rw [vTg]; done) | (rw [vTg]; rfl)
theorem e_vTg_fld {f : _} {o : _} {s : _} {v : _} {σ : _} : vTg T F C (.fld o f) v σ s = (vE T F C false o σ s).bind fun x s1 => (match x with
    | .ref n => (match s1[n]? with
      | some (.ins c fs, xs) => if T.fldOk c f = true ∧ fs.length < 900 then let r := putN fs xs f v; .ok σ (s1.set n (.ins c r.1, r.2)) else .bad
      | _ => .bad)
    | _ => .bad) := by first | (rw [vTg]; done) | (rw [vTg]; rfl)
theorem e_vTg_sub {i : _} {o : _} {s : _} {v : _} {σ : _} : vTg T F C (.sub o i) v σ s = (vE T F C false o σ s).bind fun x s1 => (vE T F C false i σ s1).bind fun k s2 => (match x, k with
    | .ref n, .int i => (match s2[n]? with
      | some (.lst, xs) => Tr.opt (L2.ixN xs.length i) fun j => .ok σ (s2.set n (.lst, xs.set j v))
      | _ => .bad)
    | _, _ => .bad) := by first | (rw [vTg]; done) | (rw [vTg]; rfl)
theorem e_vTg_tp {ts : Tgs} {xs : List D} {σ : Env} {s : Sto} : vTg T F C (.tp ts) (.nd .tup xs) σ s = if xs.length = tgsLen ts then vTgs T F C ts xs σ s else .bad := by rw [vTg]
theorem e_vS_asg {e : _} {s : _} {t : _} {σ : _} : vS T F C wf (.asg t e) σ s = (vE T F C false e σ s).bind fun v s1 => (vTg T F C t v σ s1).bind fun σ2 s2 => .ok (.nx σ2) s2 := by first | (rw [vS]; done) | (rw [vS]; rfl)
theorem e_vS_aug {e : _} {i : _} {o : _} {s : _} {σ : _} : vS T F C wf (.aug i o e) σ s = (match σ[i]? with
    | some (some x) => (vE T F C false e σ s).bind fun y s1 => Tr.opt (augI o x y) fun z => .ok (.nx (σ.set i (some z))) s1
    | _ => .bad) := by first | (rw [vS]; done) | (rw [vS]; rfl)
theorem e_vS_augS {a : _} {e : _} {i : _} {o : _} {s : _} {σ : _} : vS T F C wf (.augS a i o e) σ s = (vE T F C false a σ s).bind fun x s1 => (vE T F C false i σ s1).bind fun k s2 => (match x, k with
    | .ref n, .int i => (match s2[n]? with
      | some (.lst, xs) => Tr.opt (L2.atI xs i) fun u => (vE T F C false e σ s2).bind fun y s3 => Tr.opt (augI o u y) fun z => (match s3[n]? with
        | some (.lst, ys) => Tr.opt (L2.ixN ys.length i) fun j => .ok (.nx σ) (s3.set n (.lst, ys.set j z))
        | _ => .bad)
      | _ => .bad)
    | _, _ => .bad) := by first | (rw [vS]; done) | (rw [vS]; rfl)
theorem e_vS_augF {a : _} {e : _} {f : _} {o : _} {s : _} {σ : _} : vS T F C wf (.augF a f o e) σ s = (vE T F C false a σ s).bind fun x s1 => (match x with
    | .ref n => (match s1[n]? with
      | some (.ins c fs, xs) => if T.fldOk c f = true then Tr.opt (getN fs xs f) fun u => (vE T F C false e σ s1).bind fun y s2 => Tr.opt (augI o u y) fun z => (match s2[n]? with
        | some (.ins c' gs, ys) => if c' = c ∧ gs.length < 900 then let r := putN gs ys f z; .ok (.nx σ) (s2.set n (.ins c r.1, r.2)) else .bad
        | _ => .bad) else .bad
      | _ => .bad)
    | _ => .bad) := by first | (rw [vS]; done) | (rw [vS]; rfl)
theorem e_vS_exp {e : _} {s : _} {σ : _} : vS T F C wf (.exp e) σ s = (vE T F C false e σ s).bind fun _ s1 => .ok (.nx σ) s1 := by first | (rw [vS]; done) | (rw [vS]; rfl)
theorem e_vS_ret {e : _} {s : _} {σ : _} : vS T F C wf (.ret e) σ s = (vE T F C false e σ s).bind fun v s1 => .ok (.rt v) s1 := by first | (rw [vS]; done) | (rw [vS]; rfl)
theorem e_vS_retN {s : _} {z0 : _} : vS T F C wf (.retN) z0 s = .ok (.rt .non) s := by first | (rw [vS]; done) | (rw [vS]; rfl)
theorem e_vS_ifs {a : _} {b : _} {c : _} {s : _} {σ : _} : vS T F C wf (.ifs c a b) σ s = (vE T F C false c σ s).bind fun x s1 => brT x (vSs T F C wf a σ s1) (vSs T F C wf b σ s1) := by first | (rw [vS]; done) | (rw [vS]; rfl)
theorem e_vS_pas {s : _} {σ : _} : vS T F C wf (.pas) σ s = .ok (.nx σ) s := by first | (rw [vS]; done) | (rw [vS]; rfl)
theorem e_vS_brk {s : _} {σ : _} : vS T F C wf (.brk) σ s = .ok (.bk σ) s := by first | (rw [vS]; done) | (rw [vS]; rfl)
theorem e_vS_cont {s : _} {σ : _} : vS T F C wf (.cont) σ s = .ok (.ct σ) s := by first | (rw [vS]; done) | (rw [vS]; rfl)
theorem e_vS_never {z0 : _} {z1 : _} : vS T F C wf (.never) z0 z1 = .bad := by first | (rw [vS]; done) | (rw [vS]; rfl)
theorem e_vS_rais {as : _} {c : _} {fs : _} {s : _} {σ : _} : vS T F C wf (.rais c fs as) σ s = (vEs T F C as σ s).bind fun vs s1 => if vs.length = fs.length then .exc c (fs.zip vs) s1 else .bad := by first | (rw [vS]; done) | (rw [vS]; rfl)
theorem e_vS_tr {a : _} {asg : _} {hs : _} {r : _} {s : _} {σ : _} : vS T F C wf (.tr a r asg hs) σ s = (vS T F C wf a σ s).catch_ (fun x s1 => match x with
    | .nx σ1 => (vSs T F C wf r σ1 s1).noE
    | .rt d => .ok (.rt d) s1
    | .bk σ1 => .ok (.bk σ1) s1
    | .ct σ1 => .ok (.ct σ1) s1) fun c fs s1 => if T.exOk c = true then (match hs.find? (fun H => T.sub c H.c) with
    | some H => if c = H.c ∧ H.i < σ.length then Tr.opt (tplD fs H.tp) fun ds => .ok (.nx ((List.replicate σ.length none).set H.j (some (.nd .tup ds)))) s1 else .bad
    | none => .exc c fs s1) else .bad := by first | (rw [vS]; done) | (rw [vS]; rfl)
theorem e_vSs_nil {s : _} {σ : _} : vSs T F C wf (.nil) σ s = .ok (.nx σ) s := by first | (rw [vSs]; done) | (rw [vSs]; rfl)
theorem e_vSs_cons {a : _} {r : _} {s : _} {σ : _} : vSs T F C wf (.cons a r) σ s = (vS T F C wf a σ s).bind fun x s1 => match x with
    | .nx σ1 => vSs T F C wf r σ1 s1
    | .rt d => .ok (.rt d) s1
    | .bk σ1 => .ok (.bk σ1) s1
    | .ct σ1 => .ok (.ct σ1) s1 := by first | (rw [vSs]; done) | (rw [vSs]; rfl)

def whlV (T : Tab) (F : Fv) (C : Cfg) (wf : Nat) (c : E) (b : Ss) (n : Nat) (σ : Env) (s : Sto) : Tr Fl := whlT (vE T F C false c) (vSs T F C wf b) n σ s
theorem e_vS_whl {c : E} {b : Ss} {σ : Env} {s : Sto} : vS T F C wf (.whl c b) σ s = whlV T F C wf c b wf σ s := by rw [vS]; rfl
theorem whlV_succ {c : E} {b : Ss} {n : Nat} {σ : Env} {s : Sto} : whlV T F C wf c b (n + 1) σ s = (vE T F C false c σ s).bind fun x s1 => brT x ((vSs T F C wf b σ s1).bind fun r s2 => match r with
    | .nx σ2 => whlV T F C wf c b n σ2 s2
    | .ct σ2 => whlV T F C wf c b n σ2 s2
    | .bk σ2 => .ok (.nx σ2) s2
    | .rt d => .ok (.rt d) s2) (.ok (.nx σ) s1) := (rfl)
def forV (T : Tab) (F : Fv) (C : Cfg) (wf : Nat) (t : Tg) (b : Ss) (g : List (Nat × Ob)) (xs : List D) (σ : Env) (s : Sto) : Tr Fl := forT g (fun x σ s => (vTg T F C t x σ s).bind fun σ2 s2 => vSs T F C wf b σ2 s2) xs σ s
theorem e_vS_fr {t : Tg} {it : I} {b : Ss} {σ : Env} {s : Sto} : vS T F C wf (.fr t it b) σ s = (vI T F C it σ s).bind fun r s1 => forV T F C wf t b r.g r.xs σ s1 := by rw [vS]; rfl
theorem forV_nil {t : Tg} {b : Ss} {σ : Env} {s : Sto} : forV T F C wf t b [] [] σ s = .ok (.nx σ) s := (rfl)
theorem forV_cons {t : Tg} {b : Ss} {x : D} {xs : List D} {σ : Env} {s : Sto} : forV T F C wf t b [] (x :: xs) σ s = (vTg T F C t x σ s).bind fun σ2 s2 => (vSs T F C wf b σ2 s2).bind fun r s1 => match r with
    | .nx σ1 => forV T F C wf t b [] xs σ1 s1
    | .ct σ1 => forV T F C wf t b [] xs σ1 s1
    | .bk σ1 => .ok (.nx σ1) s1
    | .rt d => .ok (.rt d) s1 := by
  unfold forV
  rw [forT]
  have g : grd [] s = true := (rfl)
  rw [if_pos g, bind_assoc]
  try rfl
theorem forV_inv {t : Tg} {b : Ss} {xs : List D} {σ : Env} {s : Sto} {I : Env → Sto → Prop} {P : Fl → Sto → Prop} {E : Nat → List (Nat × D) → Sto → Prop} (fin : ∀ σ s, I σ s → P (.nx σ) s) (h : ∀ x ∈ xs, ∀ σ s, I σ s → AT ((vTg T F C t x σ s).bind fun σ2 s2 => vSs T F C wf b σ2 s2) (fun fl s' => match fl with
    | .nx σ' => I σ' s'
    | .ct σ' => I σ' s'
    | .bk σ' => P (.nx σ') s'
    | .rt d => P (.rt d) s') E) (i : I σ s) : AT (forV T F C wf t b [] xs σ s) P E := forT_inv fin h i
def lcS (T : Tab) (F : Fv) (C : Cfg) (e : E) (tg : Tg) (ifs : Es) (σ : Env) (x : D) (s : Sto) : Tr (Option D) := (vTg T F C tg x σ s).bind fun σ3 s3 => (vAll T F C ifs σ3 s3).bind fun b s4 => match b with
      | true => (vE T F C false e σ3 s4).bind fun v s5 => .ok (some v) s5
      | false => .ok none s4
def lcV (T : Tab) (F : Fv) (C : Cfg) (e : E) (tg : Tg) (ifs : Es) (σ : Env) (g : List (Nat × Ob)) (xs acc : List D) (s : Sto) : Tr (List D) := lcT g (lcS T F C e tg ifs σ) xs acc s
theorem e_vE_lc {e : E} {tg : Tg} {it : I} {ifs : Es} {own : List Nat} {σ : Env} {s : Sto} : vE T F C lv (.lc e tg it ifs own) σ s = (vI T F C it σ s).bind fun r s1 => ((lcV T F C e tg ifs (wipeD σ own) r.g r.xs [] s1).noE).bind fun acc s2 => mk lv .lst acc s2 := by rw [vE]; rfl
theorem lcV_nil {e : E} {tg : Tg} {ifs : Es} {σ : Env} {acc : List D} {s : Sto} : lcV T F C e tg ifs σ [] [] acc s = .ok acc s := (rfl)
theorem lcV_cons {e : E} {tg : Tg} {ifs : Es} {σ : Env} {x : D} {xs acc : List D} {s : Sto} : lcV T F C e tg ifs σ [] (x :: xs) acc s = (lcS T F C e tg ifs σ x s).bind fun r s1 => match r with
    | some v => if acc.length < sizeLine then lcV T F C e tg ifs σ [] xs (acc ++ [v]) s1 else .bad
    | none => lcV T F C e tg ifs σ [] xs acc s1 := (rfl)
theorem lcV_map {e : E} {tg : Tg} {ifs : Es} {σ : Env} {xs : List D} {s : Sto} {f : D → D} (h : ∀ x ∈ xs, lcS T F C e tg ifs σ x s = .ok (some (f x)) s) (l : xs.length ≤ sizeLine) : lcV T F C e tg ifs σ [] xs [] s = .ok (xs.map f) s := by
  have := lcT_map (acc := []) h (by simpa using l)
  rw [List.nil_append] at this
  exact this
theorem e_vE_dct {σ : Env} {s : Sto} : vE T F C lv (.dct .nil) σ s = mk lv .dct [] s := by first | (rw [vE]; done) | (rw [vE]; rfl)
theorem e_vTgs_nil {σ : Env} {s : Sto} : vTgs T F C .nil [] σ s = .ok σ s := by first | (rw [vTgs]; done) | (rw [vTgs]; rfl)
theorem e_vTgs_cons {t : Tg} {r : Tgs} {v : D} {vs : List D} {σ : Env} {s : Sto} : vTgs T F C (.cons t r) (v :: vs) σ s = (vTg T F C t v σ s).bind fun σ1 s1 => vTgs T F C r vs σ1 s1 := by first | (rw [vTgs]; done) | (rw [vTgs]; rfl)
/-! ### operators, by the kinds of their sides -/
section
variable {s : Sto} {i j : Int} {xs ys : List D}
theorem vb_add : vBin T F lv .add (.int i) (.int j) s = .ok (.int (i + j)) s := (rfl)
theorem vb_adds {a b : Str} : vBin T F lv .add (.str a) (.str b) s = if a.length + b.length ≤ sizeLine then .ok (.str (a ++ b)) s else .bad := (rfl)
theorem vb_addt : vBin T F lv .add (.nd .tup xs) (.nd .tup ys) s = if xs.length + ys.length ≤ sizeLine then .ok (.nd .tup (xs ++ ys)) s else .bad := (rfl)
theorem vb_addl : vBin T F lv .add (.nd .lst xs) (.nd .lst ys) s = if xs.length + ys.length ≤ sizeLine then mk lv .lst (xs ++ ys) s else .bad := (rfl)
theorem vb_sub : vBin T F lv .sub (.int i) (.int j) s = .ok (.int (i - j)) s := (rfl)
theorem vb_mul : vBin T F lv .mul (.int i) (.int j) s = if bg i = true ∧ bg j = true then .ok (.int (i * j)) s else .bad := (rfl)
theorem vb_mull : vBin T F lv .mul (.nd .lst xs) (.int i) s = if -(2 ^ 63) ≤ i ∧ i < 2 ^ 63 ∧ xs.length * i.toNat ≤ sizeLine then mk lv .lst (List.replicate i.toNat xs).flatten s else .bad := (rfl)
theorem vb_fdiv : vBin T F lv .fdiv (.int i) (.int j) s = if j ≠ 0 ∧ bg j = true then .ok (.int (i.fdiv j)) s else .bad := (rfl)
theorem vb_mod : vBin T F lv .mod (.int i) (.int j) s = if j ≠ 0 then .ok (.int (i.fmod j)) s else .bad := (rfl)
theorem vb_pow : vBin T F lv .pow (.int i) (.int j) s = if 0 ≤ j ∧ j ≤ 1000000 ∧ i.natAbs < 2 ^ 64 then .ok (.int (i ^ j.toNat)) s else .bad := (rfl)
theorem na10 : Int.natAbs 10 = 10 := (rfl)
theorem vc_eq {x y : D} : vCmp T F .eq x y s = vEq T F false x y s := (rfl)
theorem vc_ne {x y : D} : vCmp T F .ne x y s = vEq T F true x y s := (rfl)
theorem vc_isnon {x y : D} : vCmp T F .isnon x y s = .ok (.bl (isNon x)) s := (rfl)
theorem vc_notnon {x y : D} : vCmp T F .notnon x y s = .ok (.bl (!isNon x)) s := (rfl)
theorem vc_isin {x y : D} : vCmp T F .isin x y s = vIn false x y s := (rfl)
theorem vc_notin {x y : D} : vCmp T F .notin x y s = vIn true x y s := (rfl)
theorem vc_isfls {b : Bool} {y : D} : vCmp T F .isfls (.bl b) y s = .ok (.bl (!b)) s := (rfl)
theorem vc_lt {x y : D} : vCmp T F .lt x y s = vOrd T F .lt x y s := (rfl)
theorem vc_le {x y : D} : vCmp T F .le x y s = vOrd T F .le x y s := (rfl)
theorem vc_gt {x y : D} : vCmp T F .gt x y s = vOrd T F .gt x y s := (rfl)
theorem vc_ge {x y : D} : vCmp T F .ge x y s = vOrd T F .ge x y s := (rfl)
theorem vo_lt : vOrd T F .lt (.int i) (.int j) s = .ok (.bl (decide (i < j))) s := (rfl)
theorem vo_le : vOrd T F .le (.int i) (.int j) s = .ok (.bl (decide (i ≤ j))) s := (rfl)
theorem vo_gt : vOrd T F .gt (.int i) (.int j) s = .ok (.bl (decide (j < i))) s := (rfl)
theorem vo_ge : vOrd T F .ge (.int i) (.int j) s = .ok (.bl (decide (j ≤ i))) s := (rfl)
theorem vn_int : vNeg T F (.int i) s = .ok (.int (-i)) s := (rfl)
theorem vi_tup : vIdx (.nd .tup xs) (.int i) s = Tr.opt (L2.atI xs i) fun v => .ok v s := (rfl)
theorem vi_lst : vIdx (.nd .lst xs) (.int i) s = Tr.opt (L2.atI xs i) fun v => .ok v s := (rfl)
theorem vi_str {a : Str} : vIdx (.str a) (.int i) s = if a.length ≤ sizeLine then Tr.opt (L2.atI a.cps.toList i) fun c => .ok (.str ⟨#[c]⟩) s else .bad := (rfl)
theorem vs_tup {lo hi : Option Int} : vSl lv (.nd .tup xs) lo hi s = .ok (.nd .tup (cut xs lo hi)) s := (rfl)
theorem vs_str {z : Str} {lo hi : Option Int} : vSl lv (.str z) lo hi s = if z.length ≤ sizeLine then .ok (.str (L2.cutS z lo hi)) s else .bad := (rfl)
theorem bf_int_str {a : Str} : vBif T F lv .int [.str a] s = if a.length ≤ 640 then Tr.opt (PySem.intText? a) fun n => .ok (.int n) s else .bad := (rfl)
theorem bf_list_str {z : Str} : vBif T F lv .list [.str z] s = if z.cps.size ≤ sizeLine then mk lv .lst (chrD z) s else .bad := (rfl)
theorem bm_split {a b : Str} : vBm lv .split (.str a) [.str b] s = if (b.length == 0) = false ∧ a.length + 2 ≤ sizeLine then mk lv .lst ((Txt.split a b).map D.str) s else .bad := (rfl)
theorem bm_join {a : Str} : vBm lv .join (.str a) [.nd .lst xs] s = Tr.opt (strsD xs) fun ys => if (ys.map (·.length)).sum + ys.length * a.length ≤ 16777216 then .ok (.str (Txt.join a ys)) s else .bad := (rfl)
theorem rc_split {a : Str} : rcvD s (.str a) .split = true := (rfl)
theorem rc_sindex {a : Str} : rcvD s (.str a) .sindex = true := (rfl)
theorem rc_join {a : Str} : rcvD s (.str a) .join = true := (rfl)
theorem vs_lst {lo hi : Option Int} : vSl lv (.nd .lst xs) lo hi s = mk lv .lst (cut xs lo hi) s := (rfl)
theorem vf_nd {c f : Nat} {fs : List Nat} : vFld T (.nd (.ins c fs) xs) f s = if T.fldOk c f = true then Tr.opt (getN fs xs f) fun v => .ok v s else .bad := (rfl)
theorem vf_ref {n f : Nat} : vFld T (.ref n) f s = match s[n]? with
  | some (.ins c fs, xs) => if T.fldOk c f = true then Tr.opt (getN fs xs f) fun v => .ok v s else .bad
  | _ => .bad := (rfl)
theorem bf_len_tup : vBif T F lv .len [.nd .tup xs] s = .ok (.int xs.length) s := (rfl)
theorem bf_len_lst : vBif T F lv .len [.nd .lst xs] s = .ok (.int xs.length) s := (rfl)
theorem bf_len_str {a : Str} : vBif T F lv .len [.str a] s = if a.length ≤ sizeLine then .ok (.int a.length) s else .bad := (rfl)
theorem bf_abs : vBif T F lv .abs [.int i] s = .ok (.int (if i < 0 then -i else i)) s := (rfl)
theorem bf_int : vBif T F lv .int [.int i] s = .ok (.int i) s := (rfl)
theorem bf_tuple_tup : vBif T F lv .tuple [.nd .tup xs] s = .ok (.nd .tup xs) s := (rfl)
theorem bf_tuple_lst : vBif T F lv .tuple [.nd .lst xs] s = .ok (.nd .tup xs) s := (rfl)
theorem bf_list_tup : vBif T F lv .list [.nd .tup xs] s = mk lv .lst xs s := (rfl)
theorem bf_list_lst : vBif T F lv .list [.nd .lst xs] s = mk lv .lst xs s := (rfl)
theorem bf_str_int : vBif T F lv .str [.int i] s = if i.natAbs.log2 < 1920 then .ok (.str (toString i)) s else .bad := (rfl)
theorem bf_str_str {a : Str} : vBif T F lv .str [.str a] s = .ok (.str a) s := (rfl)
theorem bf_all : vBif T F lv .all [.nd .lst xs] s = Tr.opt (boolsD xs) fun bs => .ok (.bl (bs.all id)) s := (rfl)
theorem bf_any : vBif T F lv .any [.nd .lst xs] s = Tr.opt (boolsD xs) fun bs => .ok (.bl (bs.any id)) s := (rfl)
theorem mk_f {k : Nd} : mk false k xs s = .ok (.nd k xs) s := (rfl)
theorem mk_t {k : Nd} : mk true k xs s = .ok (.ref s.length) (s ++ [(k, xs)]) := (rfl)
theorem at0 {α : Type} {x : α} {l : List α} : L2.atI (x :: l) 0 = some x := by
  unfold L2.atI L2.ixN
  rw [if_pos (by decide), if_pos (by simp only [List.length_cons]; omega)]
  rfl
theorem at1 {α : Type} {x y : α} {l : List α} : L2.atI (x :: y :: l) 1 = some y := by
  unfold L2.atI L2.ixN
  rw [if_pos (by decide), if_pos (by simp only [List.length_cons]; omega)]
  rfl
theorem at2 {α : Type} {x y z : α} {l : List α} : L2.atI (x :: y :: z :: l) 2 = some z := by
  unfold L2.atI L2.ixN
  rw [if_pos (by decide), if_pos (by simp only [List.length_cons]; omega)]
  rfl
theorem at3 {α : Type} {x y z u : α} {l : List α} : L2.atI (x :: y :: z :: u :: l) 3 = some u := by
  unfold L2.atI L2.ixN
  rw [if_pos (by decide), if_pos (by simp only [List.length_cons]; omega)]
  rfl
end
section
variable {s : Sto} {x y : D} {c f : Nat}
theorem vo_ii {o : Cop} (hx : insC s x = some c) (hy : insC s y = some c) (hf : T.cop c o = some f) : vOrd T F o x y s = F f [x, y] s := by
  unfold vOrd
  split
  · cases hx
  · rw [hx, hy]
    simp only [if_true, hf, Pv.opt_some]
theorem vo_in {o : Cop} {i : Int} (hx : insC s x = some c) (hf : T.cop c o = some f) : vOrd T F o x (.int i) s = F f [x, .int i] s := by
  unfold vOrd
  split
  · cases hx
  · have hy : insC s (.int i) = none := (rfl)
    have hz : isInt (.int i) = true := (rfl)
    rw [hx, hy]
    simp only [hz, if_true, hf, Pv.opt_some]
theorem vo_ni {o : Cop} {i : Int} (hx : insC s x = some c) (hf : T.cop c (swapC o) = some f) : vOrd T F o (.int i) x s = F f [x, .int i] s := by
  unfold vOrd
  split
  · cases hx
  · have hy : insC s (.int i) = none := (rfl)
    have hz : isInt (.int i) = true := (rfl)
    rw [hx, hy]
    simp only [hz, if_true, hf, Pv.opt_some]
theorem vq_ii {neg : Bool} (hx : insC s x = some c) (hy : insC s y = some c) (hf : T.cop c .eq = some f) : vEq T F neg x y s = ngB neg (F f [x, y] s) := by
  unfold vEq
  rw [hx, hy]
  simp only [if_true, hf, Pv.opt_some]
theorem vq_io {neg : Bool} (hx : insC s x = some c) (hy : insC s y = none) (hk : kn s y = true) (hf : T.cop c .eq = some f) : vEq T F neg x y s = ngB neg (F f [x, y] s) := by
  unfold vEq
  rw [hx, hy]
  simp only [hk, if_true, hf, Pv.opt_some]
theorem vq_oi {neg : Bool} (hx : insC s x = some c) (hy : insC s y = none) (hk : kn s y = true) (hn : neg = true → isInt y = true) (hf : T.cop c .eq = some f) : vEq T F neg y x s = ngB neg (F f [x, y] s) := by
  unfold vEq
  rw [hx, hy]
  simp only [hf, Pv.opt_some]
  rw [if_pos ⟨hk, hn⟩]
end
end
end Pv
set_option maxHeartbeats 4000000
/-! more rules for reckoning: texts, comprehensions that draw, walks over what is live -/
namespace Pv
open PySem Mi
theorem lcT_mapL {α : Type} {st : D → Sto → Tr (Option D)} {g h : α → D} {s : Sto} : ∀ {l : List α} {acc : List D}, (∀ a ∈ l, st (g a) s = .ok (some (h a)) s) → acc.length + l.length ≤ sizeLine → lcT [] st (l.map g) acc s = .ok (acc ++ l.map h) s
  | [], acc, _, _ => by simp [lcT, grd]
  | x :: xs, acc, hh, l => by
    rw [List.map_cons]
    unfold lcT
    have e : grd [] s = true := (rfl)
    rw [if_pos e, hh x (by simp), bind_ok]
    dsimp only
    rw [if_pos (by simp at l; omega), lcT_mapL (fun y m => hh y (by simp [m])) (by simp at l ⊢; omega)]
    simp
section
variable {T : Tab} {F : Fv} {C : Cfg} {wf : Nat} {e : E} {tg : Tg} {ifs : Es} {σ : Env} {s : Sto}
theorem lcV_mapL {α : Type} {l : List α} {g h : α → D} (hh : ∀ a ∈ l, lcS T F C e tg ifs σ (g a) s = .ok (some (h a)) s) (len : l.length ≤ sizeLine) : lcV T F C e tg ifs σ [] (l.map g) [] s = .ok (l.map h) s := by
  have := lcT_mapL (acc := []) hh (by simpa using len)
  rw [List.nil_append] at this
  exact this
theorem AllT_noE {α : Type} {P : α → Sto → Prop} {E : Nat → List (Nat × D) → Sto → Prop} : ∀ {t : Tr α}, AllT t P (fun _ _ _ => False) → AllT t.noE P E
  | .ok _ _, z => z
  | .exc _ _ _, z => z
  | .bad, z => z
  | .ask n k, z => fun i h1 h2 => AllT_noE (z i h1 h2)
theorem AT_noE {α : Type} {P : α → Sto → Prop} {E : Nat → List (Nat × D) → Sto → Prop} {t : Tr α} (h : AT t P (fun _ _ _ => False)) : AT t.noE P E := by
  rw [AT_eq] at *
  exact AllT_noE h
theorem lcT_inv {st : D → Sto → Tr (Option D)} {I : List D → Sto → Prop} {P : List D → Sto → Prop} {E : Nat → List (Nat × D) → Sto → Prop} (fin : ∀ acc s, I acc s → P acc s) : ∀ {xs acc : List D} {s : Sto}, (∀ x ∈ xs, ∀ acc s, I acc s → AllT (st x s) (fun r s' => match r with
    | some v => acc.length < sizeLine ∧ I (acc ++ [v]) s'
    | none => I acc s') E) → I acc s → AllT (lcT [] st xs acc s) P E
  | [], acc, s, _, i => by
    unfold lcT
    have g : grd [] s = true := (rfl)
    rw [if_pos g]
    exact fin _ _ i
  | x :: xs, acc, s, h, i => by
    unfold lcT
    have g : grd [] s = true := (rfl)
    rw [if_pos g, AllT_bind]
    refine (h x (by simp) acc s i).mono (fun r s' z => ?_) (fun _ _ _ e => e)
    cases r with
    | some v =>
      dsimp only at z ⊢
      rw [if_pos z.1]
      exact lcT_inv fin (fun y m => h y (by simp [m])) z.2
    | none => exact lcT_inv fin (fun y m => h y (by simp [m])) z
theorem lcV_inv {I : List D → Sto → Prop} {P : List D → Sto → Prop} {E : Nat → List (Nat × D) → Sto → Prop} {xs : List D} (fin : ∀ acc s, I acc s → P acc s) (h : ∀ x ∈ xs, ∀ acc s, I acc s → AT (lcS T F C e tg ifs σ x s) (fun r s' => match r with
    | some v => acc.length < sizeLine ∧ I (acc ++ [v]) s'
    | none => I acc s') E) (i : I [] s) : AT (lcV T F C e tg ifs σ [] xs [] s) P E := by
  rw [AT_eq]
  refine lcT_inv fin (fun x m acc s i => ?_) i
  have := h x m acc s i
  rw [AT_eq] at this
  exact this
theorem forT_invG {g : List (Nat × Ob)} {st : D → Env → Sto → Tr Fl} {I : Env → Sto → Prop} {P : Fl → Sto → Prop} {E : Nat → List (Nat × D) → Sto → Prop} (gd : ∀ σ s, I σ s → grd g s = true) (fin : ∀ σ s, I σ s → P (.nx σ) s) : ∀ {xs : List D} {σ : Env} {s : Sto}, (∀ x ∈ xs, ∀ σ s, I σ s → AllT (st x σ s) (fun fl s' => match fl with
    | .nx σ' => I σ' s'
    | .ct σ' => I σ' s'
    | .bk σ' => P (.nx σ') s'
    | .rt d => P (.rt d) s') E) → I σ s → AllT (forT g st xs σ s) P E
  | [], σ, s, _, i => by
    unfold forT
    rw [if_pos (gd _ _ i)]
    exact fin _ _ i
  | x :: xs, σ, s, h, i => by
    unfold forT
    rw [if_pos (gd _ _ i), AllT_bind]
    refine (h x (by simp) σ s i).mono (fun fl s' z => ?_) (fun _ _ _ e => e)
    cases fl with
    | nx σ' => exact forT_invG gd fin (fun y m => h y (by simp [m])) z
    | ct σ' => exact forT_invG gd fin (fun y m => h y (by simp [m])) z
    | bk σ' => exact z
    | rt d => exact z
theorem forV_invG {g : List (Nat × Ob)} {t : Tg} {b : Ss} {xs : List D} {σ : Env} {I : Env → Sto → Prop} {P : Fl → Sto → Prop} {E : Nat → List (Nat × D) → Sto → Prop} (gd : ∀ σ s, I σ s → grd g s = true) (fin : ∀ σ s, I σ s → P (.nx σ) s) (h : ∀ x ∈ xs, ∀ σ s, I σ s → AT ((vTg T F C t x σ s).bind fun σ2 s2 => vSs T F C wf b σ2 s2) (fun fl s' => match fl with
    | .nx σ' => I σ' s'
    | .ct σ' => I σ' s'
    | .bk σ' => P (.nx σ') s'
    | .rt d => P (.rt d) s') E) (i : I σ s) : AT (forV T F C wf t b g xs σ s) P E := by
  rw [AT_eq]
  refine forT_invG gd fin (fun x m σ s i => ?_) i
  have := h x m σ s i
  rw [AT_eq] at this
  exact this
end
theorem boolsD_map {α : Type} (p : α → Bool) : ∀ l : List α, boolsD (l.map fun a => .bl (p a)) = some (l.map p)
  | [] => rfl
  | a :: l => by
    have := boolsD_map p l
    unfold boolsD at this ⊢
    simp only [List.map_cons, mapO, this]
theorem all_map {α : Type} (p : α → Bool) (l : List α) : (l.map p).all id = l.all p := by simp [List.all_map]
/-! ### texts -/
section
variable {T : Tab} {F : Fv} {s : Sto}
/-- signs of the first kind -/
def ok7 (a : List Nat) : Bool := a.all fun c => decide (c < 128)
theorem shS {a : List Nat} (h : ok7 a = true) : SeqAt.shaped (.str (SX.S a)) = true := by
  have e : PyData.strOk (SX.S a) = true := by
    unfold PyData.strOk
    rw [← Array.all_toList]
    unfold ok7 at h
    rw [List.all_eq_true] at h ⊢
    intro c hc
    have := of_decide_eq_true (h c hc)
    exact decide_eq_true (by omega)
  unfold SeqAt.shaped
  simp [PyData.canLay0, e, PyData.depth]
theorem vEq_S {neg : Bool} {a b : List Nat} (ha : ok7 a = true) (hb : ok7 b = true) : vEq T F neg (.str (SX.S a)) (.str (SX.S b)) s = .ok (.bl (if neg then !decide (a = b) else decide (a = b))) s := by
  rw [vEq_str (shS ha) (shS hb), SX.S_beq_eq]
theorem vIn_S {neg : Bool} {c : Nat} {a : List Nat} : vIn neg (.str (SX.S [c])) (.str (SX.S a)) s = .ok (.bl (if neg then !decide (c ∈ a) else decide (c ∈ a))) s := by
  unfold vIn
  dsimp only
  rw [SX.in_one]
theorem chrD_S (a : List Nat) : chrD (SX.S a) = a.map fun c => .str (SX.S [c]) := by
  unfold chrD
  simp
theorem cut_to {a : List Nat} {i : Int} (h : 0 ≤ i) : L2.cutS (SX.S a) none (some i) = SX.S (a.take i.toNat) := by
  rw [C8.cutS_slice, SX.slice_to h]
theorem cut_from {a : List Nat} {i : Int} (h : 0 ≤ i) : L2.cutS (SX.S a) (some i) none = SX.S (a.drop i.toNat) := by
  rw [C8.cutS_slice, SX.slice_from h]
end
end Pv
set_option maxHeartbeats 4000000
namespace Lw
open PySem PySem.Spec PyProof.Rows Mi
open L2 (Vals FunD Binds KBn FnScope defArgs defBody defScope inClass)
def top (i : Nat) : Stmt := PySem.Challenge.pw_looptimes_k05_span_texts.main.body.getD i (.Pass ⟨0, 0, 0, 0⟩)
/-- law -/
abbrev s_0 : Stmt := top 26
def m_0 : Ss := (.cons (.asg (.nm 1) (.call 3 (.cons (.var 0) .nil) [])) (.cons (.fr (.nm 2) (.rng1 (.cst (.int 8))) (.cons (.asg (.nm 3) (.call 32 (.cons (.var 1) .nil) [])) (.cons (.asg (.nm 4) (.call 31 (.cons (.var 3) .nil) [])) (.cons (.ifs (.or (.not (.call 5 (.cons (.meth (.make 0 9 (.cons (.idx (.var 3) (.cst (.int 0))) (.cons (.idx (.var 3) (.cst (.int 1))) .nil)) []) 2 .nil) (.cons (.var 4) .nil)) [])) (.not (.call 5 (.cons (.call 28 (.cons (.var 4) .nil) []) (.cons (.tup (.cons (.cst (.str "made")) (.cons (.idx (.var 3) (.cst (.int 0))) (.cons (.idx (.var 3) (.cst (.int 1))) (.cons (.var 4) .nil))))) .nil)) []))) (.cons (.ret (.cst (.bl false))) .nil) .nil) (.cons (.asg (.nm 5) (.own (.lc (.call 29 (.cons (.var 1) (.cons (.var 4) .nil)) []) (.nm 9) (.rng1 (.cst (.int 3))) .nil [9]))) (.cons (.asg (.nm 6) (.lst (.cons (.cst (.str "")) (.cons (.cst (.str "/")) (.cons (.cst (.str "-")) (.cons (.cst (.str "1/")) (.cons (.cst (.str "/2")) (.cons (.cst (.str "2/4")) (.cons (.cst (.str "-0")) (.cons (.cst (.str "0/5")) (.cons (.cst (.str "1/-2")) (.cons (.cst (.str "1/2/3")) (.cons (.cst (.str "+1")) (.cons (.cst (.str "1.5")) (.cons (.cst (.str "- 1")) (.cons (.cst (.str "1/0")) (.cons (.cst (.str "3/1")) .nil))))))))))))))))) (.cons (.exp (.bm .append (.var 5) (.cons (.call 4 (.cons (.var 1) (.cons (.var 6) .nil)) []) .nil))) (.cons (.fr (.nm 7) (.of (.var 5)) (.cons (.asg (.nm 8) (.call 28 (.cons (.var 7) .nil) [])) (.cons (.ifs (.or (.cmp .ne (.call 27 (.cons (.var 7) .nil) []) (.cmp .eq (.idx (.var 8) (.cst (.int 0))) (.cst (.str "made")))) (.and (.cmp .eq (.idx (.var 8) (.cst (.int 0))) (.cst (.str "made"))) (.cmp .ne (.idx (.var 8) (.cst (.int 3))) (.var 7)))) (.cons (.ret (.cst (.bl false))) .nil) .nil) (.cons (.ifs (.and (.cmp .ne (.idx (.var 8) (.cst (.int 0))) (.cst (.str "made"))) (.cmp .ne (.var 8) (.tup (.cons (.cst (.str "text")) (.cons (.cst (.int 1)) .nil))))) (.cons (.ret (.cst (.bl false))) .nil) .nil) .nil)))) .nil)))))))) (.cons (.ret (.cst (.bl true))) .nil)))
abbrev N_0 : List Str := ["_law_script", "_law_state", "_law_turn", "_law_x", "_law_text_here", "_law_others", "_law_some", "_law_other", "_law_found", "_law_k"]
theorem nd_0 : N_0.Nodup := by decide +kernel
def d_0 : He.DefD := ⟨("law", none), "law", "law", defArgs s_0, defBody s_0, defScope s_0, [], []⟩
abbrev ps_0 : List Str := ["_law_script"]
def fd_0 : Fd := ⟨d_0, N_0, ps_0, m_0, false⟩
theorem sc_0 : FnScope N_0 ps_0 (defScope s_0) := ⟨rfl, rfl, rfl, nd_0, rfl, by decide +kernel, by decide +kernel⟩
theorem ba_0 (K : PySem.W.Frag) (fd : FuncData) (F : FunOf K fd_0 fd) : Binds K fd ps_0 [] := binds_all (f := fd_0) (fun _ => rfl) (fun _ _ _ _ _ _ us hl => match us, hl with | [_], _ => rfl) F
/-- _law_take -/
abbrev s_1 : Stmt := top 15
def m_1 : Ss := (.cons (.asg (.nm 2) (.cst (.int 0))) (.cons (.whl (.and (.cmp .lt (.var 2) (.cst (.int 64))) (.or (.cmp .eq (.idx (.var 0) (.cst (.int 2))) (.cst (.int 0))) (.and (.idx (.var 0) (.cst (.int 3))) (.cmp .lt (.idx (.var 0) (.cst (.int 2))) (.bin .mul (.var 1) (.cst (.int 4096))))))) (.cons (.exp (.call 2 (.cons (.var 0) .nil) [])) (.cons (.aug 2 .add (.cst (.int 1))) (.cons (.ifs (.and (.idx (.var 0) (.cst (.int 3))) (.cmp .lt (.idx (.var 0) (.cst (.int 2))) (.bin .mul (.var 1) (.cst (.int 4096))))) (.cons (.asg (.sub (.var 0) (.cst (.int 2))) (.bin .add (.idx (.var 0) (.cst (.int 2))) (.bin .mul (.bin .mul (.var 1) (.cst (.int 4096))) (.bin .add (.cst (.int 1)) (.bin .mod (.bif .int (.cons (.idx (.var 0) (.cst (.int 2))) .nil)) (.cst (.int 4093))))))) .nil) .nil) .nil)))) (.cons (.asg (.nm 3) (.bin .mod (.bif .int (.cons (.idx (.var 0) (.cst (.int 2))) .nil)) (.var 1))) (.cons (.asg (.sub (.var 0) (.cst (.int 2))) (.bin .fdiv (.idx (.var 0) (.cst (.int 2))) (.var 1))) (.cons (.ret (.var 3)) .nil)))))
abbrev N_1 : List Str := ["_law_state", "_law_many", "_law_laps", "_law_digit"]
theorem nd_1 : N_1.Nodup := by decide +kernel
def d_1 : He.DefD := ⟨("_law_take", none), "_law_take", "_law_take", defArgs s_1, defBody s_1, defScope s_1, [], []⟩
abbrev ps_1 : List Str := ["_law_state", "_law_many"]
def fd_1 : Fd := ⟨d_1, N_1, ps_1, m_1, false⟩
theorem sc_1 : FnScope N_1 ps_1 (defScope s_1) := ⟨rfl, rfl, rfl, nd_1, rfl, by decide +kernel, by decide +kernel⟩
theorem ba_1 (K : PySem.W.Frag) (fd : FuncData) (F : FunOf K fd_1 fd) : Binds K fd ps_1 [] := binds_all (f := fd_1) (fun _ => rfl) (fun _ _ _ _ _ _ us hl => match us, hl with | [_, _], _ => rfl) F
/-- _law_fill -/
abbrev s_2 : Stmt := top 14
def m_2 : Ss := (.cons (.asg (.tp (.cons (.nm 1) (.cons (.nm 2) .nil))) (.tup (.cons (.idx (.var 0) (.cst (.int 0))) (.cons (.idx (.var 0) (.cst (.int 1))) .nil)))) (.cons (.asg (.nm 3) (.bin .add (.bin .mul (.cst (.int 31)) (.var 2)) (.cst (.int 7)))) (.cons (.ifs (.cmp .gt (.bif .len (.cons (.var 1) .nil)) (.cst (.int 0))) (.cons (.asg (.nm 3) (.bin .add (.bin .mul (.cst (.int 104729)) (.bin .fdiv (.var 2) (.bif .len (.cons (.var 1) .nil)))) (.idx (.var 1) (.bin .mod (.bif .int (.cons (.var 2) .nil)) (.bif .len (.cons (.var 1) .nil)))))) .nil) .nil) (.cons (.asg (.sub (.var 0) (.cst (.int 1))) (.bin .add (.var 2) (.cst (.int 1)))) (.cons (.asg (.sub (.var 0) (.cst (.int 3))) (.or (.cmp .ge (.var 2) (.bif .len (.cons (.var 1) .nil))) (.cmp .lt (.var 3) (.bin .pow (.cst (.int 10)) (.cst (.int 18)))))) (.cons (.asg (.sub (.var 0) (.cst (.int 2))) (.bin .sub (.var 3) (.bin .pow (.cst (.int 10)) (.cst (.int 18))))) (.cons (.ifs (.idx (.var 0) (.cst (.int 3))) (.cons (.asg (.sub (.var 0) (.cst (.int 2))) (.cst (.int 0))) (.cons (.fr (.tp (.cons (.nm 4) (.cons (.nm 5) .nil))) (.enm (.tup (.cons (.cst (.int 2147483647)) (.cons (.cst (.int 2147483629)) (.cons (.cst (.int 2147483587)) (.cons (.cst (.int 2147483579)) (.cons (.cst (.int 2147483563)) .nil))))))) (.cons (.asg (.nm 6) (.bin .mod (.bif .int (.cons (.bin .mul (.bin .add (.bin .add (.var 3) (.bin .mul (.bin .mul (.cst (.int 10007)) (.var 4)) (.var 4))) (.bin .mul (.cst (.int 101)) (.var 4))) (.bin .add (.cst (.int 48271)) (.bin .mul (.cst (.int 2)) (.var 4)))) .nil)) (.var 5))) (.cons (.asg (.sub (.var 0) (.cst (.int 2))) (.bin .add (.bin .mul (.idx (.var 0) (.cst (.int 2))) (.var 5)) (.bin .mod (.bif .int (.cons (.bin .pow (.var 6) (.cst (.int 5))) .nil)) (.var 5)))) .nil))) .nil)) .nil) .nil)))))))
abbrev N_2 : List Str := ["_law_state", "_law_cells", "_law_nth", "_law_seed", "_law_k", "_law_prime", "_law_far"]
theorem nd_2 : N_2.Nodup := by decide +kernel
def d_2 : He.DefD := ⟨("_law_fill", none), "_law_fill", "_law_fill", defArgs s_2, defBody s_2, defScope s_2, [], []⟩
abbrev ps_2 : List Str := ["_law_state"]
def fd_2 : Fd := ⟨d_2, N_2, ps_2, m_2, false⟩
theorem sc_2 : FnScope N_2 ps_2 (defScope s_2) := ⟨rfl, rfl, rfl, nd_2, rfl, by decide +kernel, by decide +kernel⟩
theorem ba_2 (K : PySem.W.Frag) (fd : FuncData) (F : FunOf K fd_2 fd) : Binds K fd ps_2 [] := binds_all (f := fd_2) (fun _ => rfl) (fun _ _ _ _ _ _ us hl => match us, hl with | [_], _ => rfl) F
/-- _law_fresh -/
abbrev s_3 : Stmt := top 13
def m_3 : Ss := (.cons (.ret (.lst (.cons (.sl (.var 0) .no (.so (.cst (.int 63)))) (.cons (.cst (.int 0)) (.cons (.cst (.int 0)) (.cons (.cst (.bl false)) .nil)))))) .nil)
abbrev N_3 : List Str := ["_law_script"]
theorem nd_3 : N_3.Nodup := by decide +kernel
def d_3 : He.DefD := ⟨("_law_fresh", none), "_law_fresh", "_law_fresh", defArgs s_3, defBody s_3, defScope s_3, [], []⟩
abbrev ps_3 : List Str := ["_law_script"]
def fd_3 : Fd := ⟨d_3, N_3, ps_3, m_3, false⟩
theorem sc_3 : FnScope N_3 ps_3 (defScope s_3) := ⟨rfl, rfl, rfl, nd_3, rfl, by decide +kernel, by decide +kernel⟩
theorem ba_3 (K : PySem.W.Frag) (fd : FuncData) (F : FunOf K fd_3 fd) : Binds K fd ps_3 [] := binds_all (f := fd_3) (fun _ => rfl) (fun _ _ _ _ _ _ us hl => match us, hl with | [_], _ => rfl) F
/-- _law_one -/
abbrev s_4 : Stmt := top 16
def m_4 : Ss := (.cons (.ret (.idx (.var 1) (.call 1 (.cons (.var 0) (.cons (.bif .len (.cons (.var 1) .nil)) .nil)) []))) .nil)
abbrev N_4 : List Str := ["_law_state", "_law_things"]
theorem nd_4 : N_4.Nodup := by decide +kernel
def d_4 : He.DefD := ⟨("_law_one", none), "_law_one", "_law_one", defArgs s_4, defBody s_4, defScope s_4, [], []⟩
abbrev ps_4 : List Str := ["_law_state", "_law_things"]
def fd_4 : Fd := ⟨d_4, N_4, ps_4, m_4, false⟩
theorem sc_4 : FnScope N_4 ps_4 (defScope s_4) := ⟨rfl, rfl, rfl, nd_4, rfl, by decide +kernel, by decide +kernel⟩
theorem ba_4 (K : PySem.W.Frag) (fd : FuncData) (F : FunOf K fd_4 fd) : Binds K fd ps_4 [] := binds_all (f := fd_4) (fun _ => rfl) (fun _ _ _ _ _ _ us hl => match us, hl with | [_, _], _ => rfl) F
/-- _law_same -/
abbrev s_5 : Stmt := top 17
def m_5 : Ss := (.cons (.ifs (.isi (.var 1) [.list, .tuple]) (.cons (.ifs (.or (.cmp .ne (.isi (.var 0) [.list]) (.isi (.var 1) [.list])) (.cmp .ne (.isi (.var 0) [.tuple]) (.isi (.var 1) [.tuple]))) (.cons (.ret (.cst (.bl false))) .nil) .nil) (.cons (.ret (.and (.cmp .eq (.bif .len (.cons (.var 0) .nil)) (.bif .len (.cons (.var 1) .nil))) (.bif .all (.cons (.lc (.call 5 (.cons (.var 2) (.cons (.var 3) .nil)) []) (.tp (.cons (.nm 2) (.cons (.nm 3) .nil))) (.zip (.var 0) (.var 1)) .nil [2, 3]) .nil)))) .nil)) .nil) (.cons (.ifs (.isi (.var 1) [.int]) (.cons (.ret (.and (.isi (.var 0) [.int]) (.and (.cmp .eq (.isi (.var 0) [.bool]) (.isi (.var 1) [.bool])) (.cmp .eq (.var 0) (.var 1))))) .nil) .nil) (.cons (.ret (.and (.cmp .isfls (.isi (.var 0) [.bool, .int, .list, .tuple]) (.cst (.bl false))) (.cmp .eq (.var 0) (.var 1)))) .nil)))
abbrev N_5 : List Str := ["_law_found", "_law_due", "_law_a", "_law_b"]
theorem nd_5 : N_5.Nodup := by decide +kernel
def d_5 : He.DefD := ⟨("_law_same", none), "_law_same", "_law_same", defArgs s_5, defBody s_5, defScope s_5, [], []⟩
abbrev ps_5 : List Str := ["_law_found", "_law_due"]
def fd_5 : Fd := ⟨d_5, N_5, ps_5, m_5, false⟩
theorem sc_5 : FnScope N_5 ps_5 (defScope s_5) := ⟨rfl, rfl, rfl, nd_5, rfl, by decide +kernel, by decide +kernel⟩
theorem ba_5 (K : PySem.W.Frag) (fd : FuncData) (F : FunOf K fd_5 fd) : Binds K fd ps_5 [] := binds_all (f := fd_5) (fun _ => rfl) (fun _ _ _ _ _ _ us hl => match us, hl with | [_, _], _ => rfl) F
/-- is_integer -/
abbrev s_6 : Stmt := top 1
def m_6 : Ss := (.cons (.ret (.and (.isi (.var 0) [.int]) (.not (.isi (.var 0) [.bool])))) .nil)
abbrev N_6 : List Str := ["thing"]
theorem nd_6 : N_6.Nodup := by decide +kernel
def d_6 : He.DefD := ⟨("is_integer", none), "is_integer", "is_integer", defArgs s_6, defBody s_6, defScope s_6, [], []⟩
abbrev ps_6 : List Str := ["thing"]
def fd_6 : Fd := ⟨d_6, N_6, ps_6, m_6, false⟩
theorem sc_6 : FnScope N_6 ps_6 (defScope s_6) := ⟨rfl, rfl, rfl, nd_6, rfl, by decide +kernel, by decide +kernel⟩
theorem ba_6 (K : PySem.W.Frag) (fd : FuncData) (F : FunOf K fd_6 fd) : Binds K fd ps_6 [] := binds_all (f := fd_6) (fun _ => rfl) (fun _ _ _ _ _ _ us hl => match us, hl with | [_], _ => rfl) F
/-- common_part -/
abbrev s_7 : Stmt := top 9
def m_7 : Ss := (.cons (.whl (.cmp .gt (.var 1) (.cst (.int 0))) (.cons (.asg (.tp (.cons (.nm 0) (.cons (.nm 1) .nil))) (.tup (.cons (.var 1) (.cons (.bin .mod (.var 0) (.var 1)) .nil)))) .nil)) (.cons (.ret (.var 0)) .nil))
abbrev N_7 : List Str := ["one", "other"]
theorem nd_7 : N_7.Nodup := by decide +kernel
def d_7 : He.DefD := ⟨("common_part", none), "common_part", "common_part", defArgs s_7, defBody s_7, defScope s_7, [], []⟩
abbrev ps_7 : List Str := ["one", "other"]
def fd_7 : Fd := ⟨d_7, N_7, ps_7, m_7, false⟩
theorem sc_7 : FnScope N_7 ps_7 (defScope s_7) := ⟨rfl, rfl, rfl, nd_7, rfl, by decide +kernel, by decide +kernel⟩
theorem ba_7 (K : PySem.W.Frag) (fd : FuncData) (F : FunOf K fd_7 fd) : Binds K fd ps_7 [] := binds_all (f := fd_7) (fun _ => rfl) (fun _ _ _ _ _ _ us hl => match us, hl with | [_, _], _ => rfl) F
/-- parts_of -/
abbrev s_8 : Stmt := top 10
def m_8 : Ss := (.cons (.ifs (.isi (.var 0) [.own 0]) (.cons (.ret (.tup (.cons (.fld (.var 0) 0) (.cons (.fld (.var 0) 1) .nil)))) .nil) .nil) (.cons (.ifs (.call 6 (.cons (.var 0) .nil) []) (.cons (.ret (.tup (.cons (.var 0) (.cons (.cst (.int 1)) .nil)))) .nil) .nil) (.cons (.rais 1 [3] (.cons (.var 0) .nil)) .nil)))
abbrev N_8 : List Str := ["thing"]
theorem nd_8 : N_8.Nodup := by decide +kernel
def d_8 : He.DefD := ⟨("parts_of", none), "parts_of", "parts_of", defArgs s_8, defBody s_8, defScope s_8, [], []⟩
abbrev ps_8 : List Str := ["thing"]
def fd_8 : Fd := ⟨d_8, N_8, ps_8, m_8, false⟩
theorem sc_8 : FnScope N_8 ps_8 (defScope s_8) := ⟨rfl, rfl, rfl, nd_8, rfl, by decide +kernel, by decide +kernel⟩
theorem ba_8 (K : PySem.W.Frag) (fd : FuncData) (F : FunOf K fd_8 fd) : Binds K fd ps_8 [] := binds_all (f := fd_8) (fun _ => rfl) (fun _ _ _ _ _ _ us hl => match us, hl with | [_], _ => rfl) F
/-- Span.__init__ -/
abbrev s_9 : Stmt := inClass (top 11) 0
def m_9 : Ss := (.cons (.ifs (.not (.call 6 (.cons (.var 1) .nil) [])) (.cons (.rais 1 [3] (.cons (.var 1) .nil)) .nil) .nil) (.cons (.ifs (.or (.not (.call 6 (.cons (.var 2) .nil) [])) (.cmp .eq (.var 2) (.cst (.int 0)))) (.cons (.rais 1 [3] (.cons (.var 2) .nil)) .nil) .nil) (.cons (.asg (.nm 3) (.call 7 (.cons (.bif .abs (.cons (.var 1) .nil)) (.cons (.bif .abs (.cons (.var 2) .nil)) .nil)) [])) (.cons (.asg (.nm 4) (.ite (.cmp .gt (.var 2) (.cst (.int 0))) (.cst (.int 1)) (.neg (.cst (.int 1))))) (.cons (.asg (.fld (.var 0) 0) (.bin .fdiv (.bin .mul (.var 4) (.var 1)) (.var 3))) (.cons (.asg (.fld (.var 0) 1) (.bin .fdiv (.bin .mul (.var 4) (.var 2)) (.var 3))) .nil))))))
abbrev N_9 : List Str := ["self", "over", "under", "part", "sign"]
theorem nd_9 : N_9.Nodup := by decide +kernel
def d_9 : He.DefD := ⟨("Span", some "__init__"), "__init__", "Span.__init__", defArgs s_9, defBody s_9, defScope s_9, [(.int 1)], []⟩
abbrev ps_9 : List Str := ["self", "over", "under"]
def fd_9 : Fd := ⟨d_9, N_9, ps_9, m_9, false⟩
theorem sc_9 : FnScope N_9 ps_9 (defScope s_9) := ⟨rfl, rfl, rfl, nd_9, rfl, by decide +kernel, by decide +kernel⟩
theorem ba_9 (K : PySem.W.Frag) (fd : FuncData) (F : FunOf K fd_9 fd) : Binds K fd ps_9 [] := binds_all2 (f := fd_9) 1 (fun _ => rfl) (by decide) (fun _ _ _ _ _ _ _ us its hl h2 => match us, hl, its, h2 with | [_, _, _], _, [_], _ => ⟨_, rfl, rfl⟩) F
/-- Span.__add__ -/
abbrev s_10 : Stmt := inClass (top 11) 5
def m_10 : Ss := (.cons (.asg (.tp (.cons (.nm 2) (.cons (.nm 3) .nil))) (.call 8 (.cons (.var 1) .nil) [])) (.cons (.ret (.make 0 9 (.cons (.bin .add (.bin .mul (.fld (.var 0) 0) (.var 3)) (.bin .mul (.var 2) (.fld (.var 0) 1))) (.cons (.bin .mul (.fld (.var 0) 1) (.var 3)) .nil)) [])) .nil))
abbrev N_10 : List Str := ["self", "other", "over", "under"]
theorem nd_10 : N_10.Nodup := by decide +kernel
def d_10 : He.DefD := ⟨("Span", some "__add__"), "__add__", "Span.__add__", defArgs s_10, defBody s_10, defScope s_10, [], []⟩
abbrev ps_10 : List Str := ["self", "other"]
def fd_10 : Fd := ⟨d_10, N_10, ps_10, m_10, false⟩
theorem sc_10 : FnScope N_10 ps_10 (defScope s_10) := ⟨rfl, rfl, rfl, nd_10, rfl, by decide +kernel, by decide +kernel⟩
theorem ba_10 (K : PySem.W.Frag) (fd : FuncData) (F : FunOf K fd_10 fd) : Binds K fd ps_10 [] := binds_all (f := fd_10) (fun _ => rfl) (fun _ _ _ _ _ _ us hl => match us, hl with | [_, _], _ => rfl) F
/-- Span.__radd__ -/
abbrev s_11 : Stmt := inClass (top 11) 6
def m_11 : Ss := (.cons (.asg (.tp (.cons (.nm 2) (.cons (.nm 3) .nil))) (.call 8 (.cons (.var 1) .nil) [])) (.cons (.ret (.make 0 9 (.cons (.bin .add (.bin .mul (.fld (.var 0) 0) (.var 3)) (.bin .mul (.var 2) (.fld (.var 0) 1))) (.cons (.bin .mul (.fld (.var 0) 1) (.var 3)) .nil)) [])) .nil))
abbrev N_11 : List Str := ["self", "other", "over", "under"]
theorem nd_11 : N_11.Nodup := by decide +kernel
def d_11 : He.DefD := ⟨("Span", some "__radd__"), "__radd__", "Span.__radd__", defArgs s_11, defBody s_11, defScope s_11, [], []⟩
abbrev ps_11 : List Str := ["self", "other"]
def fd_11 : Fd := ⟨d_11, N_11, ps_11, m_11, false⟩
theorem sc_11 : FnScope N_11 ps_11 (defScope s_11) := ⟨rfl, rfl, rfl, nd_11, rfl, by decide +kernel, by decide +kernel⟩
theorem ba_11 (K : PySem.W.Frag) (fd : FuncData) (F : FunOf K fd_11 fd) : Binds K fd ps_11 [] := binds_all (f := fd_11) (fun _ => rfl) (fun _ _ _ _ _ _ us hl => match us, hl with | [_, _], _ => rfl) F
/-- Span.__sub__ -/
abbrev s_12 : Stmt := inClass (top 11) 7
def m_12 : Ss := (.cons (.asg (.tp (.cons (.nm 2) (.cons (.nm 3) .nil))) (.call 8 (.cons (.var 1) .nil) [])) (.cons (.ret (.make 0 9 (.cons (.bin .sub (.bin .mul (.fld (.var 0) 0) (.var 3)) (.bin .mul (.var 2) (.fld (.var 0) 1))) (.cons (.bin .mul (.fld (.var 0) 1) (.var 3)) .nil)) [])) .nil))
abbrev N_12 : List Str := ["self", "other", "over", "under"]
theorem nd_12 : N_12.Nodup := by decide +kernel
def d_12 : He.DefD := ⟨("Span", some "__sub__"), "__sub__", "Span.__sub__", defArgs s_12, defBody s_12, defScope s_12, [], []⟩
abbrev ps_12 : List Str := ["self", "other"]
def fd_12 : Fd := ⟨d_12, N_12, ps_12, m_12, false⟩
theorem sc_12 : FnScope N_12 ps_12 (defScope s_12) := ⟨rfl, rfl, rfl, nd_12, rfl, by decide +kernel, by decide +kernel⟩
theorem ba_12 (K : PySem.W.Frag) (fd : FuncData) (F : FunOf K fd_12 fd) : Binds K fd ps_12 [] := binds_all (f := fd_12) (fun _ => rfl) (fun _ _ _ _ _ _ us hl => match us, hl with | [_, _], _ => rfl) F
/-- Span.__rsub__ -/
abbrev s_13 : Stmt := inClass (top 11) 8
def m_13 : Ss := (.cons (.asg (.tp (.cons (.nm 2) (.cons (.nm 3) .nil))) (.call 8 (.cons (.var 1) .nil) [])) (.cons (.ret (.make 0 9 (.cons (.bin .sub (.bin .mul (.var 2) (.fld (.var 0) 1)) (.bin .mul (.fld (.var 0) 0) (.var 3))) (.cons (.bin .mul (.fld (.var 0) 1) (.var 3)) .nil)) [])) .nil))
abbrev N_13 : List Str := ["self", "other", "over", "under"]
theorem nd_13 : N_13.Nodup := by decide +kernel
def d_13 : He.DefD := ⟨("Span", some "__rsub__"), "__rsub__", "Span.__rsub__", defArgs s_13, defBody s_13, defScope s_13, [], []⟩
abbrev ps_13 : List Str := ["self", "other"]
def fd_13 : Fd := ⟨d_13, N_13, ps_13, m_13, false⟩
theorem sc_13 : FnScope N_13 ps_13 (defScope s_13) := ⟨rfl, rfl, rfl, nd_13, rfl, by decide +kernel, by decide +kernel⟩
theorem ba_13 (K : PySem.W.Frag) (fd : FuncData) (F : FunOf K fd_13 fd) : Binds K fd ps_13 [] := binds_all (f := fd_13) (fun _ => rfl) (fun _ _ _ _ _ _ us hl => match us, hl with | [_, _], _ => rfl) F
/-- Span.__mul__ -/
abbrev s_14 : Stmt := inClass (top 11) 9
def m_14 : Ss := (.cons (.asg (.tp (.cons (.nm 2) (.cons (.nm 3) .nil))) (.call 8 (.cons (.var 1) .nil) [])) (.cons (.ret (.make 0 9 (.cons (.bin .mul (.fld (.var 0) 0) (.var 2)) (.cons (.bin .mul (.fld (.var 0) 1) (.var 3)) .nil)) [])) .nil))
abbrev N_14 : List Str := ["self", "other", "over", "under"]
theorem nd_14 : N_14.Nodup := by decide +kernel
def d_14 : He.DefD := ⟨("Span", some "__mul__"), "__mul__", "Span.__mul__", defArgs s_14, defBody s_14, defScope s_14, [], []⟩
abbrev ps_14 : List Str := ["self", "other"]
def fd_14 : Fd := ⟨d_14, N_14, ps_14, m_14, false⟩
theorem sc_14 : FnScope N_14 ps_14 (defScope s_14) := ⟨rfl, rfl, rfl, nd_14, rfl, by decide +kernel, by decide +kernel⟩
theorem ba_14 (K : PySem.W.Frag) (fd : FuncData) (F : FunOf K fd_14 fd) : Binds K fd ps_14 [] := binds_all (f := fd_14) (fun _ => rfl) (fun _ _ _ _ _ _ us hl => match us, hl with | [_, _], _ => rfl) F
/-- Span.__rmul__ -/
abbrev s_15 : Stmt := inClass (top 11) 10
def m_15 : Ss := (.cons (.asg (.tp (.cons (.nm 2) (.cons (.nm 3) .nil))) (.call 8 (.cons (.var 1) .nil) [])) (.cons (.ret (.make 0 9 (.cons (.bin .mul (.fld (.var 0) 0) (.var 2)) (.cons (.bin .mul (.fld (.var 0) 1) (.var 3)) .nil)) [])) .nil))
abbrev N_15 : List Str := ["self", "other", "over", "under"]
theorem nd_15 : N_15.Nodup := by decide +kernel
def d_15 : He.DefD := ⟨("Span", some "__rmul__"), "__rmul__", "Span.__rmul__", defArgs s_15, defBody s_15, defScope s_15, [], []⟩
abbrev ps_15 : List Str := ["self", "other"]
def fd_15 : Fd := ⟨d_15, N_15, ps_15, m_15, false⟩
theorem sc_15 : FnScope N_15 ps_15 (defScope s_15) := ⟨rfl, rfl, rfl, nd_15, rfl, by decide +kernel, by decide +kernel⟩
theorem ba_15 (K : PySem.W.Frag) (fd : FuncData) (F : FunOf K fd_15 fd) : Binds K fd ps_15 [] := binds_all (f := fd_15) (fun _ => rfl) (fun _ _ _ _ _ _ us hl => match us, hl with | [_, _], _ => rfl) F
/-- Span.__floordiv__ -/
abbrev s_16 : Stmt := inClass (top 11) 11
def m_16 : Ss := (.cons (.asg (.tp (.cons (.nm 2) (.cons (.nm 3) .nil))) (.call 8 (.cons (.var 1) .nil) [])) (.cons (.ifs (.cmp .eq (.var 2) (.cst (.int 0))) (.cons (.rais 1 [3] (.cons (.var 1) .nil)) .nil) .nil) (.cons (.ret (.bin .fdiv (.bin .mul (.fld (.var 0) 0) (.var 3)) (.bin .mul (.fld (.var 0) 1) (.var 2)))) .nil)))
abbrev N_16 : List Str := ["self", "other", "over", "under"]
theorem nd_16 : N_16.Nodup := by decide +kernel
def d_16 : He.DefD := ⟨("Span", some "__floordiv__"), "__floordiv__", "Span.__floordiv__", defArgs s_16, defBody s_16, defScope s_16, [], []⟩
abbrev ps_16 : List Str := ["self", "other"]
def fd_16 : Fd := ⟨d_16, N_16, ps_16, m_16, false⟩
theorem sc_16 : FnScope N_16 ps_16 (defScope s_16) := ⟨rfl, rfl, rfl, nd_16, rfl, by decide +kernel, by decide +kernel⟩
theorem ba_16 (K : PySem.W.Frag) (fd : FuncData) (F : FunOf K fd_16 fd) : Binds K fd ps_16 [] := binds_all (f := fd_16) (fun _ => rfl) (fun _ _ _ _ _ _ us hl => match us, hl with | [_, _], _ => rfl) F
/-- Span.__rfloordiv__ -/
abbrev s_17 : Stmt := inClass (top 11) 12
def m_17 : Ss := (.cons (.asg (.tp (.cons (.nm 2) (.cons (.nm 3) .nil))) (.call 8 (.cons (.var 1) .nil) [])) (.cons (.ifs (.cmp .eq (.fld (.var 0) 0) (.cst (.int 0))) (.cons (.rais 1 [3] (.cons (.var 0) .nil)) .nil) .nil) (.cons (.ret (.bin .fdiv (.bin .mul (.var 2) (.fld (.var 0) 1)) (.bin .mul (.var 3) (.fld (.var 0) 0)))) .nil)))
abbrev N_17 : List Str := ["self", "other", "over", "under"]
theorem nd_17 : N_17.Nodup := by decide +kernel
def d_17 : He.DefD := ⟨("Span", some "__rfloordiv__"), "__rfloordiv__", "Span.__rfloordiv__", defArgs s_17, defBody s_17, defScope s_17, [], []⟩
abbrev ps_17 : List Str := ["self", "other"]
def fd_17 : Fd := ⟨d_17, N_17, ps_17, m_17, false⟩
theorem sc_17 : FnScope N_17 ps_17 (defScope s_17) := ⟨rfl, rfl, rfl, nd_17, rfl, by decide +kernel, by decide +kernel⟩
theorem ba_17 (K : PySem.W.Frag) (fd : FuncData) (F : FunOf K fd_17 fd) : Binds K fd ps_17 [] := binds_all (f := fd_17) (fun _ => rfl) (fun _ _ _ _ _ _ us hl => match us, hl with | [_, _], _ => rfl) F
/-- Span.__mod__ -/
abbrev s_18 : Stmt := inClass (top 11) 13
def m_18 : Ss := (.cons (.asg (.tp (.cons (.nm 2) (.cons (.nm 3) .nil))) (.call 8 (.cons (.var 1) .nil) [])) (.cons (.ifs (.cmp .eq (.var 2) (.cst (.int 0))) (.cons (.rais 1 [3] (.cons (.var 1) .nil)) .nil) .nil) (.cons (.asg (.nm 4) (.bin .fdiv (.bin .mul (.fld (.var 0) 0) (.var 3)) (.bin .mul (.fld (.var 0) 1) (.var 2)))) (.cons (.ret (.make 0 9 (.cons (.bin .sub (.bin .mul (.fld (.var 0) 0) (.var 3)) (.bin .mul (.bin .mul (.var 4) (.var 2)) (.fld (.var 0) 1))) (.cons (.bin .mul (.fld (.var 0) 1) (.var 3)) .nil)) [])) .nil))))
abbrev N_18 : List Str := ["self", "other", "over", "under", "times"]
theorem nd_18 : N_18.Nodup := by decide +kernel
def d_18 : He.DefD := ⟨("Span", some "__mod__"), "__mod__", "Span.__mod__", defArgs s_18, defBody s_18, defScope s_18, [], []⟩
abbrev ps_18 : List Str := ["self", "other"]
def fd_18 : Fd := ⟨d_18, N_18, ps_18, m_18, false⟩
theorem sc_18 : FnScope N_18 ps_18 (defScope s_18) := ⟨rfl, rfl, rfl, nd_18, rfl, by decide +kernel, by decide +kernel⟩
theorem ba_18 (K : PySem.W.Frag) (fd : FuncData) (F : FunOf K fd_18 fd) : Binds K fd ps_18 [] := binds_all (f := fd_18) (fun _ => rfl) (fun _ _ _ _ _ _ us hl => match us, hl with | [_, _], _ => rfl) F
/-- Span.__rmod__ -/
abbrev s_19 : Stmt := inClass (top 11) 14
def m_19 : Ss := (.cons (.asg (.tp (.cons (.nm 2) (.cons (.nm 3) .nil))) (.call 8 (.cons (.var 1) .nil) [])) (.cons (.ifs (.cmp .eq (.fld (.var 0) 0) (.cst (.int 0))) (.cons (.rais 1 [3] (.cons (.var 0) .nil)) .nil) .nil) (.cons (.asg (.nm 4) (.bin .fdiv (.bin .mul (.var 2) (.fld (.var 0) 1)) (.bin .mul (.var 3) (.fld (.var 0) 0)))) (.cons (.ret (.make 0 9 (.cons (.bin .sub (.bin .mul (.var 2) (.fld (.var 0) 1)) (.bin .mul (.bin .mul (.var 4) (.fld (.var 0) 0)) (.var 3))) (.cons (.bin .mul (.fld (.var 0) 1) (.var 3)) .nil)) [])) .nil))))
abbrev N_19 : List Str := ["self", "other", "over", "under", "times"]
theorem nd_19 : N_19.Nodup := by decide +kernel
def d_19 : He.DefD := ⟨("Span", some "__rmod__"), "__rmod__", "Span.__rmod__", defArgs s_19, defBody s_19, defScope s_19, [], []⟩
abbrev ps_19 : List Str := ["self", "other"]
def fd_19 : Fd := ⟨d_19, N_19, ps_19, m_19, false⟩
theorem sc_19 : FnScope N_19 ps_19 (defScope s_19) := ⟨rfl, rfl, rfl, nd_19, rfl, by decide +kernel, by decide +kernel⟩
theorem ba_19 (K : PySem.W.Frag) (fd : FuncData) (F : FunOf K fd_19 fd) : Binds K fd ps_19 [] := binds_all (f := fd_19) (fun _ => rfl) (fun _ _ _ _ _ _ us hl => match us, hl with | [_, _], _ => rfl) F
/-- Span.__eq__ -/
abbrev s_20 : Stmt := inClass (top 11) 15
def m_20 : Ss := (.cons (.ifs (.isi (.var 1) [.own 0]) (.cons (.ret (.and (.cmp .eq (.fld (.var 0) 0) (.fld (.var 1) 0)) (.cmp .eq (.fld (.var 0) 1) (.fld (.var 1) 1)))) .nil) .nil) (.cons (.ret (.and (.call 6 (.cons (.var 1) .nil) []) (.and (.cmp .eq (.fld (.var 0) 1) (.cst (.int 1))) (.cmp .eq (.fld (.var 0) 0) (.var 1))))) .nil))
abbrev N_20 : List Str := ["self", "other"]
theorem nd_20 : N_20.Nodup := by decide +kernel
def d_20 : He.DefD := ⟨("Span", some "__eq__"), "__eq__", "Span.__eq__", defArgs s_20, defBody s_20, defScope s_20, [], []⟩
abbrev ps_20 : List Str := ["self", "other"]
def fd_20 : Fd := ⟨d_20, N_20, ps_20, m_20, false⟩
theorem sc_20 : FnScope N_20 ps_20 (defScope s_20) := ⟨rfl, rfl, rfl, nd_20, rfl, by decide +kernel, by decide +kernel⟩
theorem ba_20 (K : PySem.W.Frag) (fd : FuncData) (F : FunOf K fd_20 fd) : Binds K fd ps_20 [] := binds_all (f := fd_20) (fun _ => rfl) (fun _ _ _ _ _ _ us hl => match us, hl with | [_, _], _ => rfl) F
/-- Span.__lt__ -/
abbrev s_21 : Stmt := inClass (top 11) 16
def m_21 : Ss := (.cons (.asg (.tp (.cons (.nm 2) (.cons (.nm 3) .nil))) (.call 8 (.cons (.var 1) .nil) [])) (.cons (.ret (.cmp .lt (.bin .mul (.fld (.var 0) 0) (.var 3)) (.bin .mul (.var 2) (.fld (.var 0) 1)))) .nil))
abbrev N_21 : List Str := ["self", "other", "over", "under"]
theorem nd_21 : N_21.Nodup := by decide +kernel
def d_21 : He.DefD := ⟨("Span", some "__lt__"), "__lt__", "Span.__lt__", defArgs s_21, defBody s_21, defScope s_21, [], []⟩
abbrev ps_21 : List Str := ["self", "other"]
def fd_21 : Fd := ⟨d_21, N_21, ps_21, m_21, false⟩
theorem sc_21 : FnScope N_21 ps_21 (defScope s_21) := ⟨rfl, rfl, rfl, nd_21, rfl, by decide +kernel, by decide +kernel⟩
theorem ba_21 (K : PySem.W.Frag) (fd : FuncData) (F : FunOf K fd_21 fd) : Binds K fd ps_21 [] := binds_all (f := fd_21) (fun _ => rfl) (fun _ _ _ _ _ _ us hl => match us, hl with | [_, _], _ => rfl) F
/-- Span.__le__ -/
abbrev s_22 : Stmt := inClass (top 11) 17
def m_22 : Ss := (.cons (.asg (.tp (.cons (.nm 2) (.cons (.nm 3) .nil))) (.call 8 (.cons (.var 1) .nil) [])) (.cons (.ret (.cmp .le (.bin .mul (.fld (.var 0) 0) (.var 3)) (.bin .mul (.var 2) (.fld (.var 0) 1)))) .nil))
abbrev N_22 : List Str := ["self", "other", "over", "under"]
theorem nd_22 : N_22.Nodup := by decide +kernel
def d_22 : He.DefD := ⟨("Span", some "__le__"), "__le__", "Span.__le__", defArgs s_22, defBody s_22, defScope s_22, [], []⟩
abbrev ps_22 : List Str := ["self", "other"]
def fd_22 : Fd := ⟨d_22, N_22, ps_22, m_22, false⟩
theorem sc_22 : FnScope N_22 ps_22 (defScope s_22) := ⟨rfl, rfl, rfl, nd_22, rfl, by decide +kernel, by decide +kernel⟩
theorem ba_22 (K : PySem.W.Frag) (fd : FuncData) (F : FunOf K fd_22 fd) : Binds K fd ps_22 [] := binds_all (f := fd_22) (fun _ => rfl) (fun _ _ _ _ _ _ us hl => match us, hl with | [_, _], _ => rfl) F
/-- Span.__gt__ -/
abbrev s_23 : Stmt := inClass (top 11) 18
def m_23 : Ss := (.cons (.asg (.tp (.cons (.nm 2) (.cons (.nm 3) .nil))) (.call 8 (.cons (.var 1) .nil) [])) (.cons (.ret (.cmp .gt (.bin .mul (.fld (.var 0) 0) (.var 3)) (.bin .mul (.var 2) (.fld (.var 0) 1)))) .nil))
abbrev N_23 : List Str := ["self", "other", "over", "under"]
theorem nd_23 : N_23.Nodup := by decide +kernel
def d_23 : He.DefD := ⟨("Span", some "__gt__"), "__gt__", "Span.__gt__", defArgs s_23, defBody s_23, defScope s_23, [], []⟩
abbrev ps_23 : List Str := ["self", "other"]
def fd_23 : Fd := ⟨d_23, N_23, ps_23, m_23, false⟩
theorem sc_23 : FnScope N_23 ps_23 (defScope s_23) := ⟨rfl, rfl, rfl, nd_23, rfl, by decide +kernel, by decide +kernel⟩
theorem ba_23 (K : PySem.W.Frag) (fd : FuncData) (F : FunOf K fd_23 fd) : Binds K fd ps_23 [] := binds_all (f := fd_23) (fun _ => rfl) (fun _ _ _ _ _ _ us hl => match us, hl with | [_, _], _ => rfl) F
/-- Span.__ge__ -/
abbrev s_24 : Stmt := inClass (top 11) 19
def m_24 : Ss := (.cons (.asg (.tp (.cons (.nm 2) (.cons (.nm 3) .nil))) (.call 8 (.cons (.var 1) .nil) [])) (.cons (.ret (.cmp .ge (.bin .mul (.fld (.var 0) 0) (.var 3)) (.bin .mul (.var 2) (.fld (.var 0) 1)))) .nil))
abbrev N_24 : List Str := ["self", "other", "over", "under"]
theorem nd_24 : N_24.Nodup := by decide +kernel
def d_24 : He.DefD := ⟨("Span", some "__ge__"), "__ge__", "Span.__ge__", defArgs s_24, defBody s_24, defScope s_24, [], []⟩
abbrev ps_24 : List Str := ["self", "other"]
def fd_24 : Fd := ⟨d_24, N_24, ps_24, m_24, false⟩
theorem sc_24 : FnScope N_24 ps_24 (defScope s_24) := ⟨rfl, rfl, rfl, nd_24, rfl, by decide +kernel, by decide +kernel⟩
theorem ba_24 (K : PySem.W.Frag) (fd : FuncData) (F : FunOf K fd_24 fd) : Binds K fd ps_24 [] := binds_all (f := fd_24) (fun _ => rfl) (fun _ _ _ _ _ _ us hl => match us, hl with | [_, _], _ => rfl) F
/-- Span.__neg__ -/
abbrev s_25 : Stmt := inClass (top 11) 3
def m_25 : Ss := (.cons (.ret (.make 0 9 (.cons (.neg (.fld (.var 0) 0)) (.cons (.fld (.var 0) 1) .nil)) [])) .nil)
abbrev N_25 : List Str := ["self"]
theorem nd_25 : N_25.Nodup := by decide +kernel
def d_25 : He.DefD := ⟨("Span", some "__neg__"), "__neg__", "Span.__neg__", defArgs s_25, defBody s_25, defScope s_25, [], []⟩
abbrev ps_25 : List Str := ["self"]
def fd_25 : Fd := ⟨d_25, N_25, ps_25, m_25, false⟩
theorem sc_25 : FnScope N_25 ps_25 (defScope s_25) := ⟨rfl, rfl, rfl, nd_25, rfl, by decide +kernel, by decide +kernel⟩
theorem ba_25 (K : PySem.W.Frag) (fd : FuncData) (F : FunOf K fd_25 fd) : Binds K fd ps_25 [] := binds_all (f := fd_25) (fun _ => rfl) (fun _ _ _ _ _ _ us hl => match us, hl with | [_], _ => rfl) F
/-- Span.__abs__ -/
abbrev s_26 : Stmt := inClass (top 11) 4
def m_26 : Ss := (.cons (.ret (.make 0 9 (.cons (.bif .abs (.cons (.fld (.var 0) 0) .nil)) (.cons (.fld (.var 0) 1) .nil)) [])) .nil)
abbrev N_26 : List Str := ["self"]
theorem nd_26 : N_26.Nodup := by decide +kernel
def d_26 : He.DefD := ⟨("Span", some "__abs__"), "__abs__", "Span.__abs__", defArgs s_26, defBody s_26, defScope s_26, [], []⟩
abbrev ps_26 : List Str := ["self"]
def fd_26 : Fd := ⟨d_26, N_26, ps_26, m_26, false⟩
theorem sc_26 : FnScope N_26 ps_26 (defScope s_26) := ⟨rfl, rfl, rfl, nd_26, rfl, by decide +kernel, by decide +kernel⟩
theorem ba_26 (K : PySem.W.Frag) (fd : FuncData) (F : FunOf K fd_26 fd) : Binds K fd ps_26 [] := binds_all (f := fd_26) (fun _ => rfl) (fun _ _ _ _ _ _ us hl => match us, hl with | [_], _ => rfl) F
/-- _law_is_text -/
abbrev s_27 : Stmt := top 23
def m_27 : Ss := (.cons (.asg (.nm 1) (.bm .split (.var 0) (.cons (.cst (.str "/")) .nil))) (.cons (.asg (.nm 2) (.ite (.cmp .eq (.sl (.idx (.var 1) (.cst (.int 0))) .no (.so (.cst (.int 1)))) (.cst (.str "-"))) (.sl (.idx (.var 1) (.cst (.int 0))) (.so (.cst (.int 1))) .no) (.idx (.var 1) (.cst (.int 0))))) (.cons (.ifs (.or (.cmp .gt (.bif .len (.cons (.var 1) .nil)) (.cst (.int 2))) (.not (.bif .all (.cons (.lc (.call 34 (.cons (.var 3) .nil) []) (.nm 3) (.of (.bin .add (.lst (.cons (.var 2) .nil)) (.sl (.var 1) (.so (.cst (.int 1))) .no))) .nil [3]) .nil)))) (.cons (.ret (.cst (.bl false))) .nil) .nil) (.cons (.ifs (.or (.and (.cmp .eq (.sl (.var 0) .no (.so (.cst (.int 1)))) (.cst (.str "-"))) (.cmp .eq (.var 2) (.cst (.str "0")))) (.and (.cmp .eq (.bif .len (.cons (.var 1) .nil)) (.cst (.int 2))) (.cmp .isin (.idx (.var 1) (.cst (.int 1))) (.tup (.cons (.cst (.str "0")) (.cons (.cst (.str "1")) .nil)))))) (.cons (.ret (.cst (.bl false))) .nil) .nil) (.cons (.ret (.or (.cmp .eq (.bif .len (.cons (.var 1) .nil)) (.cst (.int 1))) (.cmp .eq (.call 33 (.cons (.bif .int (.cons (.var 2) .nil)) (.cons (.bif .int (.cons (.idx (.var 1) (.cst (.int 1))) .nil)) .nil)) []) (.tup (.cons (.bif .int (.cons (.var 2) .nil)) (.cons (.bif .int (.cons (.idx (.var 1) (.cst (.int 1))) .nil)) .nil)))))) .nil)))))
abbrev N_27 : List Str := ["_law_text_here", "_law_parts", "_law_head", "_law_x"]
theorem nd_27 : N_27.Nodup := by decide +kernel
def d_27 : He.DefD := ⟨("_law_is_text", none), "_law_is_text", "_law_is_text", defArgs s_27, defBody s_27, defScope s_27, [], []⟩
abbrev ps_27 : List Str := ["_law_text_here"]
def fd_27 : Fd := ⟨d_27, N_27, ps_27, m_27, false⟩
theorem sc_27 : FnScope N_27 ps_27 (defScope s_27) := ⟨rfl, rfl, rfl, nd_27, rfl, by decide +kernel, by decide +kernel⟩
theorem ba_27 (K : PySem.W.Frag) (fd : FuncData) (F : FunOf K fd_27 fd) : Binds K fd ps_27 [] := binds_all (f := fd_27) (fun _ => rfl) (fun _ _ _ _ _ _ us hl => match us, hl with | [_], _ => rfl) F
/-- _law_tried -/
abbrev s_28 : Stmt := top 25
def m_28 : Ss := (.cons (.asg (.nm 1) (.tup (.cons (.cst (.str "odd")) .nil))) (.cons (.tr (.asg (.nm 2) (.call 35 (.cons (.var 0) .nil) [])) (.cons (.asg (.nm 1) (.tup (.cons (.cst (.str "made")) (.cons (.fld (.var 2) 0) (.cons (.fld (.var 2) 1) (.cons (.meth (.var 2) 2 .nil) .nil)))))) .nil) [] [⟨2, 3, 1, [.inr (.str "text"), .inl 5]⟩]) (.cons (.ret (.var 1)) .nil)))
abbrev N_28 : List Str := ["_law_text_here", "_law_found", "_law_made", "e"]
theorem nd_28 : N_28.Nodup := by decide +kernel
def d_28 : He.DefD := ⟨("_law_tried", none), "_law_tried", "_law_tried", defArgs s_28, defBody s_28, defScope s_28, [], []⟩
abbrev ps_28 : List Str := ["_law_text_here"]
def fd_28 : Fd := ⟨d_28, N_28, ps_28, m_28, false⟩
theorem sc_28 : FnScope N_28 ps_28 (defScope s_28) := ⟨rfl, rfl, rfl, nd_28, rfl, by decide +kernel, by decide +kernel⟩
theorem ba_28 (K : PySem.W.Frag) (fd : FuncData) (F : FunOf K fd_28 fd) : Binds K fd ps_28 [] := binds_all (f := fd_28) (fun _ => rfl) (fun _ _ _ _ _ _ us hl => match us, hl with | [_], _ => rfl) F
/-- _law_bent -/
abbrev s_29 : Stmt := top 24
def m_29 : Ss := (.cons (.asg (.tp (.cons (.nm 2) (.cons (.nm 3) .nil))) (.tup (.cons (.call 1 (.cons (.var 0) (.cons (.bin .add (.bif .len (.cons (.var 1) .nil)) (.cst (.int 1))) .nil)) []) (.cons (.call 4 (.cons (.var 0) (.cons (.bif .list (.cons (.cst (.str "/-+0123 a_")) .nil)) .nil)) []) .nil)))) (.cons (.asg (.nm 4) (.call 1 (.cons (.var 0) (.cons (.cst (.int 3)) .nil)) [])) (.cons (.ret (.bin .add (.bin .add (.sl (.var 1) .no (.so (.var 2))) (.ite (.cmp .lt (.var 4) (.cst (.int 2))) (.var 3) (.cst (.str "")))) (.sl (.var 1) (.so (.bin .add (.var 2) (.ite (.cmp .eq (.var 4) (.cst (.int 0))) (.cst (.int 0)) (.cst (.int 1))))) .no))) .nil)))
abbrev N_29 : List Str := ["_law_state", "_law_text_here", "_law_at", "_law_sign", "_law_way"]
theorem nd_29 : N_29.Nodup := by decide +kernel
def d_29 : He.DefD := ⟨("_law_bent", none), "_law_bent", "_law_bent", defArgs s_29, defBody s_29, defScope s_29, [], []⟩
abbrev ps_29 : List Str := ["_law_state", "_law_text_here"]
def fd_29 : Fd := ⟨d_29, N_29, ps_29, m_29, false⟩
theorem sc_29 : FnScope N_29 ps_29 (defScope s_29) := ⟨rfl, rfl, rfl, nd_29, rfl, by decide +kernel, by decide +kernel⟩
theorem ba_29 (K : PySem.W.Frag) (fd : FuncData) (F : FunOf K fd_29 fd) : Binds K fd ps_29 [] := binds_all (f := fd_29) (fun _ => rfl) (fun _ _ _ _ _ _ us hl => match us, hl with | [_, _], _ => rfl) F
/-- Span.text -/
abbrev s_30 : Stmt := inClass (top 11) 1
def m_30 : Ss := (.cons (.ret (.ite (.cmp .eq (.fld (.var 0) 1) (.cst (.int 1))) (.bif .str (.cons (.fld (.var 0) 0) .nil)) (.js (.cons (.fmt (.fld (.var 0) 0)) (.cons (.cst (.str "/")) (.cons (.fmt (.fld (.var 0) 1)) .nil)))))) .nil)
abbrev N_30 : List Str := ["self"]
theorem nd_30 : N_30.Nodup := by decide +kernel
def d_30 : He.DefD := ⟨("Span", some "text"), "text", "Span.text", defArgs s_30, defBody s_30, defScope s_30, [], []⟩
abbrev ps_30 : List Str := ["self"]
def fd_30 : Fd := ⟨d_30, N_30, ps_30, m_30, false⟩
theorem sc_30 : FnScope N_30 ps_30 (defScope s_30) := ⟨rfl, rfl, rfl, nd_30, rfl, by decide +kernel, by decide +kernel⟩
theorem ba_30 (K : PySem.W.Frag) (fd : FuncData) (F : FunOf K fd_30 fd) : Binds K fd ps_30 [] := binds_all (f := fd_30) (fun _ => rfl) (fun _ _ _ _ _ _ us hl => match us, hl with | [_], _ => rfl) F
/-- _law_text -/
abbrev s_31 : Stmt := top 21
def m_31 : Ss := (.cons (.ret (.ite (.cmp .eq (.idx (.var 0) (.cst (.int 1))) (.cst (.int 1))) (.bif .str (.cons (.idx (.var 0) (.cst (.int 0))) .nil)) (.bin .add (.bin .add (.bif .str (.cons (.idx (.var 0) (.cst (.int 0))) .nil)) (.cst (.str "/"))) (.bif .str (.cons (.idx (.var 0) (.cst (.int 1))) .nil))))) .nil)
abbrev N_31 : List Str := ["_law_x"]
theorem nd_31 : N_31.Nodup := by decide +kernel
def d_31 : He.DefD := ⟨("_law_text", none), "_law_text", "_law_text", defArgs s_31, defBody s_31, defScope s_31, [], []⟩
abbrev ps_31 : List Str := ["_law_x"]
def fd_31 : Fd := ⟨d_31, N_31, ps_31, m_31, false⟩
theorem sc_31 : FnScope N_31 ps_31 (defScope s_31) := ⟨rfl, rfl, rfl, nd_31, rfl, by decide +kernel, by decide +kernel⟩
theorem ba_31 (K : PySem.W.Frag) (fd : FuncData) (F : FunOf K fd_31 fd) : Binds K fd ps_31 [] := binds_all (f := fd_31) (fun _ => rfl) (fun _ _ _ _ _ _ us hl => match us, hl with | [_], _ => rfl) F
/-- _law_fraction -/
abbrev s_32 : Stmt := top 19
def m_32 : Ss := (.cons (.ret (.call 33 (.cons (.call 36 (.cons (.var 0) .nil) []) (.cons (.call 4 (.cons (.var 0) (.cons (.lst (.cons (.cst (.int 1)) (.cons (.cst (.int 2)) (.cons (.cst (.int 3)) (.cons (.cst (.int 7)) (.cons (.bin .add (.cst (.int 1)) (.call 1 (.cons (.var 0) (.cons (.cst (.int 30)) .nil)) [])) (.cons (.bin .add (.bin .pow (.cst (.int 10)) (.cst (.int 9))) (.cst (.int 7))) .nil))))))) .nil)) []) .nil)) [])) .nil)
abbrev N_32 : List Str := ["_law_state"]
theorem nd_32 : N_32.Nodup := by decide +kernel
def d_32 : He.DefD := ⟨("_law_fraction", none), "_law_fraction", "_law_fraction", defArgs s_32, defBody s_32, defScope s_32, [], []⟩
abbrev ps_32 : List Str := ["_law_state"]
def fd_32 : Fd := ⟨d_32, N_32, ps_32, m_32, false⟩
theorem sc_32 : FnScope N_32 ps_32 (defScope s_32) := ⟨rfl, rfl, rfl, nd_32, rfl, by decide +kernel, by decide +kernel⟩
theorem ba_32 (K : PySem.W.Frag) (fd : FuncData) (F : FunOf K fd_32 fd) : Binds K fd ps_32 [] := binds_all (f := fd_32) (fun _ => rfl) (fun _ _ _ _ _ _ us hl => match us, hl with | [_], _ => rfl) F
/-- _law_low -/
abbrev s_33 : Stmt := top 18
def m_33 : Ss := (.cons (.asg (.tp (.cons (.nm 2) (.cons (.nm 3) .nil))) (.tup (.cons (.bif .abs (.cons (.var 0) .nil)) (.cons (.bif .abs (.cons (.var 1) .nil)) .nil)))) (.cons (.whl (.cmp .gt (.var 3) (.cst (.int 0))) (.cons (.asg (.tp (.cons (.nm 2) (.cons (.nm 3) .nil))) (.tup (.cons (.var 3) (.cons (.bin .mod (.var 2) (.var 3)) .nil)))) .nil)) (.cons (.ret (.ite (.cmp .gt (.var 1) (.cst (.int 0))) (.tup (.cons (.bin .fdiv (.var 0) (.var 2)) (.cons (.bin .fdiv (.var 1) (.var 2)) .nil))) (.tup (.cons (.bin .fdiv (.neg (.var 0)) (.var 2)) (.cons (.bin .fdiv (.neg (.var 1)) (.var 2)) .nil))))) .nil)))
abbrev N_33 : List Str := ["_law_top", "_law_low_here", "_law_one_here", "_law_other"]
theorem nd_33 : N_33.Nodup := by decide +kernel
def d_33 : He.DefD := ⟨("_law_low", none), "_law_low", "_law_low", defArgs s_33, defBody s_33, defScope s_33, [], []⟩
abbrev ps_33 : List Str := ["_law_top", "_law_low_here"]
def fd_33 : Fd := ⟨d_33, N_33, ps_33, m_33, false⟩
theorem sc_33 : FnScope N_33 ps_33 (defScope s_33) := ⟨rfl, rfl, rfl, nd_33, rfl, by decide +kernel, by decide +kernel⟩
theorem ba_33 (K : PySem.W.Frag) (fd : FuncData) (F : FunOf K fd_33 fd) : Binds K fd ps_33 [] := binds_all (f := fd_33) (fun _ => rfl) (fun _ _ _ _ _ _ us hl => match us, hl with | [_, _], _ => rfl) F
/-- _law_is_figures -/
abbrev s_34 : Stmt := top 22
def m_34 : Ss := (.cons (.ret (.or (.cmp .eq (.var 0) (.cst (.str "0"))) (.and (.cmp .ne (.var 0) (.cst (.str ""))) (.and (.cmp .ne (.idx (.var 0) (.cst (.int 0))) (.cst (.str "0"))) (.bif .all (.cons (.lc (.cmp .isin (.var 1) (.cst (.str "0123456789"))) (.nm 1) (.chr (.var 0)) .nil [1]) .nil)))))) .nil)
abbrev N_34 : List Str := ["_law_text_here", "_law_sign"]
theorem nd_34 : N_34.Nodup := by decide +kernel
def d_34 : He.DefD := ⟨("_law_is_figures", none), "_law_is_figures", "_law_is_figures", defArgs s_34, defBody s_34, defScope s_34, [], []⟩
abbrev ps_34 : List Str := ["_law_text_here"]
def fd_34 : Fd := ⟨d_34, N_34, ps_34, m_34, false⟩
theorem sc_34 : FnScope N_34 ps_34 (defScope s_34) := ⟨rfl, rfl, rfl, nd_34, rfl, by decide +kernel, by decide +kernel⟩
theorem ba_34 (K : PySem.W.Frag) (fd : FuncData) (F : FunOf K fd_34 fd) : Binds K fd ps_34 [] := binds_all (f := fd_34) (fun _ => rfl) (fun _ _ _ _ _ _ us hl => match us, hl with | [_], _ => rfl) F
/-- Span.of_text -/
abbrev s_35 : Stmt := inClass (top 11) 2
def m_35 : Ss := (.cons (.asg (.nm 1) (.bm .split (.var 0) (.cons (.cst (.str "/")) .nil))) (.cons (.asg (.nm 2) (.cmp .eq (.sl (.idx (.var 1) (.cst (.int 0))) .no (.so (.cst (.int 1)))) (.cst (.str "-")))) (.cons (.asg (.nm 3) (.ite (.var 2) (.sl (.idx (.var 1) (.cst (.int 0))) (.so (.cst (.int 1))) .no) (.idx (.var 1) (.cst (.int 0))))) (.cons (.ifs (.or (.cmp .gt (.bif .len (.cons (.var 1) .nil)) (.cst (.int 2))) (.not (.bif .all (.cons (.lc (.call 38 (.cons (.var 6) .nil) []) (.nm 6) (.of (.bin .add (.lst (.cons (.var 3) .nil)) (.sl (.var 1) (.so (.cst (.int 1))) .no))) .nil [6]) .nil)))) (.cons (.rais 2 [5] (.cons (.cst (.int 1)) .nil)) .nil) .nil) (.cons (.asg (.tp (.cons (.nm 4) (.cons (.nm 5) .nil))) (.tup (.cons (.call 37 (.cons (.var 3) .nil) []) (.cons (.ite (.cmp .eq (.bif .len (.cons (.var 1) .nil)) (.cst (.int 2))) (.call 37 (.cons (.idx (.var 1) (.cst (.int 1))) .nil) []) (.cst (.int 1))) .nil)))) (.cons (.ifs (.and (.var 2) (.cmp .eq (.var 4) (.cst (.int 0)))) (.cons (.rais 2 [5] (.cons (.cst (.int 1)) .nil)) .nil) .nil) (.cons (.ifs (.and (.cmp .eq (.bif .len (.cons (.var 1) .nil)) (.cst (.int 2))) (.or (.cmp .lt (.var 5) (.cst (.int 2))) (.cmp .ne (.call 7 (.cons (.var 4) (.cons (.var 5) .nil)) []) (.cst (.int 1))))) (.cons (.rais 2 [5] (.cons (.cst (.int 1)) .nil)) .nil) .nil) (.cons (.ret (.make 0 9 (.cons (.ite (.var 2) (.neg (.var 4)) (.var 4)) (.cons (.var 5) .nil)) [])) .nil))))))))
abbrev N_35 : List Str := ["text", "parts", "is_below", "head", "over", "under", "part"]
theorem nd_35 : N_35.Nodup := by decide +kernel
def d_35 : He.DefD := ⟨("Span", some "of_text"), "of_text", "Span.of_text", defArgs s_35, defBody s_35, defScope s_35, [], []⟩
abbrev ps_35 : List Str := ["text"]
def fd_35 : Fd := ⟨d_35, N_35, ps_35, m_35, true⟩
theorem sc_35 : FnScope N_35 ps_35 (defScope s_35) := ⟨rfl, rfl, rfl, nd_35, rfl, by decide +kernel, by decide +kernel⟩
theorem ba_35 (K : PySem.W.Frag) (fd : FuncData) (F : FunOf K fd_35 fd) : Binds K fd ps_35 [] := binds_all (f := fd_35) (fun _ => rfl) (fun _ _ _ _ _ _ us hl => match us, hl with | [_], _ => rfl) F
/-- _law_figure -/
abbrev s_36 : Stmt := top 20
def m_36 : Ss := (.cons (.asg (.nm 1) (.bin .sub (.call 1 (.cons (.var 0) (.cons (.bin .pow (.cst (.int 10)) (.cst (.int 18))) .nil)) []) (.bin .mul (.cst (.int 5)) (.bin .pow (.cst (.int 10)) (.cst (.int 17)))))) (.cons (.ret (.call 4 (.cons (.var 0) (.cons (.lst (.cons (.cst (.int 0)) (.cons (.cst (.int 1)) (.cons (.neg (.cst (.int 1))) (.cons (.cst (.int 2)) (.cons (.bin .sub (.call 1 (.cons (.var 0) (.cons (.cst (.int 20)) .nil)) []) (.cst (.int 10))) (.cons (.var 1) (.cons (.bin .add (.bin .pow (.cst (.int 10)) (.cst (.int 28))) (.cst (.int 1))) .nil)))))))) .nil)) [])) .nil))
abbrev N_36 : List Str := ["_law_state", "_law_great"]
theorem nd_36 : N_36.Nodup := by decide +kernel
def d_36 : He.DefD := ⟨("_law_figure", none), "_law_figure", "_law_figure", defArgs s_36, defBody s_36, defScope s_36, [], []⟩
abbrev ps_36 : List Str := ["_law_state"]
def fd_36 : Fd := ⟨d_36, N_36, ps_36, m_36, false⟩
theorem sc_36 : FnScope N_36 ps_36 (defScope s_36) := ⟨rfl, rfl, rfl, nd_36, rfl, by decide +kernel, by decide +kernel⟩
theorem ba_36 (K : PySem.W.Frag) (fd : FuncData) (F : FunOf K fd_36 fd) : Binds K fd ps_36 [] := binds_all (f := fd_36) (fun _ => rfl) (fun _ _ _ _ _ _ us hl => match us, hl with | [_], _ => rfl) F
/-- number_of -/
abbrev s_37 : Stmt := top 3
def m_37 : Ss := (.cons (.asg (.nm 1) (.cst (.int 0))) (.cons (.fr (.nm 2) (.chr (.var 0)) (.cons (.asg (.nm 1) (.bin .add (.bin .mul (.cst (.int 10)) (.var 1)) (.bm .sindex (.cst (.str "0123456789")) (.cons (.var 2) .nil)))) .nil)) (.cons (.ret (.var 1)) .nil)))
abbrev N_37 : List Str := ["figures", "number", "sign"]
theorem nd_37 : N_37.Nodup := by decide +kernel
def d_37 : He.DefD := ⟨("number_of", none), "number_of", "number_of", defArgs s_37, defBody s_37, defScope s_37, [], []⟩
abbrev ps_37 : List Str := ["figures"]
def fd_37 : Fd := ⟨d_37, N_37, ps_37, m_37, false⟩
theorem sc_37 : FnScope N_37 ps_37 (defScope s_37) := ⟨rfl, rfl, rfl, nd_37, rfl, by decide +kernel, by decide +kernel⟩
theorem ba_37 (K : PySem.W.Frag) (fd : FuncData) (F : FunOf K fd_37 fd) : Binds K fd ps_37 [] := binds_all (f := fd_37) (fun _ => rfl) (fun _ _ _ _ _ _ us hl => match us, hl with | [_], _ => rfl) F
/-- is_figures -/
abbrev s_38 : Stmt := top 2
def m_38 : Ss := (.cons (.ifs (.or (.cmp .eq (.var 0) (.cst (.str ""))) (.not (.bif .all (.cons (.lc (.cmp .isin (.var 1) (.cst (.str "0123456789"))) (.nm 1) (.chr (.var 0)) .nil [1]) .nil)))) (.cons (.ret (.cst (.bl false))) .nil) .nil) (.cons (.ret (.or (.cmp .eq (.var 0) (.cst (.str "0"))) (.cmp .ne (.idx (.var 0) (.cst (.int 0))) (.cst (.str "0"))))) .nil))
abbrev N_38 : List Str := ["text", "sign"]
theorem nd_38 : N_38.Nodup := by decide +kernel
def d_38 : He.DefD := ⟨("is_figures", none), "is_figures", "is_figures", defArgs s_38, defBody s_38, defScope s_38, [], []⟩
abbrev ps_38 : List Str := ["text"]
def fd_38 : Fd := ⟨d_38, N_38, ps_38, m_38, false⟩
theorem sc_38 : FnScope N_38 ps_38 (defScope s_38) := ⟨rfl, rfl, rfl, nd_38, rfl, by decide +kernel, by decide +kernel⟩
theorem ba_38 (K : PySem.W.Frag) (fd : FuncData) (F : FunOf K fd_38 fd) : Binds K fd ps_38 [] := binds_all (f := fd_38) (fun _ => rfl) (fun _ _ _ _ _ _ us hl => match us, hl with | [_], _ => rfl) F
def D : Txd where
  fs := [fd_0, fd_1, fd_2, fd_3, fd_4, fd_5, fd_6, fd_7, fd_8, fd_9, fd_10, fd_11, fd_12, fd_13, fd_14, fd_15, fd_16, fd_17, fd_18, fd_19, fd_20, fd_21, fd_22, fd_23, fd_24, fd_25, fd_26, fd_27, fd_28, fd_29, fd_30, fd_31, fd_32, fd_33, fd_34, fd_35, fd_36, fd_37, fd_38]
  cn := ["Span"]
  nm := ["over", "under", "text", "part", "of_text", "line"]
  meths := [(0, 2, 30)]
  flds := [(0, 0), (0, 1)]
  bops := [(0, .add, 10), (0, .sub, 12), (0, .mul, 14), (0, .fdiv, 16), (0, .mod, 18)]
  rbops := [(0, .add, 11), (0, .sub, 13), (0, .mul, 15), (0, .fdiv, 17), (0, .mod, 19)]
  negs := [(0, 25)]
  abss := [(0, 26)]
  cops := [(0, .eq, 20), (0, .lt, 21), (0, .le, 22), (0, .gt, 23), (0, .ge, 24)]
  subs := [(0, 0), (1, 1), (2, 2)]
  mks := [(0, 9)]
  xn := ["BadPart", "BadText"]
  xfl := [(1, 3), (2, 5)]
  file := PySem.Challenge.pw_looptimes_k05_span_texts.main.file
  sts := [(0, 4, 35)]
  gl := ["law", "Span", "_law_is_text", "_law_tried", "_law_one", "_law_bent", "_law_same", "_law_text", "_law_fraction", "_law_fresh", "_law_fill", "_law_take", "BadPart", "is_integer", "common_part", "parts_of", "_law_low", "_law_is_figures", "BadText", "_law_figure", "number_of", "is_figures"]
  fr := ["range", "int", "enumerate", "len", "isinstance", "bool", "list", "tuple", "zip", "all", "super", "abs", "str"]
theorem ndm : D.nm.Nodup := by decide +kernel
theorem allB : AllOk D := (all_cons ba_0 (all_cons ba_1 (all_cons ba_2 (all_cons ba_3 (all_cons ba_4 (all_cons ba_5 (all_cons ba_6 (all_cons ba_7 (all_cons ba_8 (all_cons ba_9 (all_cons ba_10 (all_cons ba_11 (all_cons ba_12 (all_cons ba_13 (all_cons ba_14 (all_cons ba_15 (all_cons ba_16 (all_cons ba_17 (all_cons ba_18 (all_cons ba_19 (all_cons ba_20 (all_cons ba_21 (all_cons ba_22 (all_cons ba_23 (all_cons ba_24 (all_cons ba_25 (all_cons ba_26 (all_cons ba_27 (all_cons ba_28 (all_cons ba_29 (all_cons ba_30 (all_cons ba_31 (all_cons ba_32 (all_cons ba_33 (all_cons ba_34 (all_cons ba_35 (all_cons ba_36 (all_cons ba_37 (all_cons ba_38 all_nil)))))))))))))))))))))))))))))))))))))))
def Y : Txt := ⟨D, ndm, allB⟩
theorem df_1_2 : DfOk fd_1 [] := fun K fd F => df_all (ba_1 K fd F)
theorem df_2_1 : DfOk fd_2 [] := fun K fd F => df_all (ba_2 K fd F)
theorem df_3_1 : DfOk fd_3 [] := fun K fd F => df_all (ba_3 K fd F)
theorem df_4_2 : DfOk fd_4 [] := fun K fd F => df_all (ba_4 K fd F)
theorem df_5_2 : DfOk fd_5 [] := fun K fd F => df_all (ba_5 K fd F)
theorem df_6_1 : DfOk fd_6 [] := fun K fd F => df_all (ba_6 K fd F)
theorem df_7_2 : DfOk fd_7 [] := fun K fd F => df_all (ba_7 K fd F)
theorem df_8_1 : DfOk fd_8 [] := fun K fd F => df_all (ba_8 K fd F)
theorem df_9_3 : DfOk fd_9 [] := fun K fd F => df_all (ba_9 K fd F)
theorem df_27_1 : DfOk fd_27 [] := fun K fd F => df_all (ba_27 K fd F)
theorem df_28_1 : DfOk fd_28 [] := fun K fd F => df_all (ba_28 K fd F)
theorem df_29_2 : DfOk fd_29 [] := fun K fd F => df_all (ba_29 K fd F)
theorem df_31_1 : DfOk fd_31 [] := fun K fd F => df_all (ba_31 K fd F)
theorem df_32_1 : DfOk fd_32 [] := fun K fd F => df_all (ba_32 K fd F)
theorem df_33_2 : DfOk fd_33 [] := fun K fd F => df_all (ba_33 K fd F)
theorem df_34_1 : DfOk fd_34 [] := fun K fd F => df_all (ba_34 K fd F)
theorem df_35_1 : DfOk fd_35 [] := fun K fd F => df_all (ba_35 K fd F)
theorem df_36_1 : DfOk fd_36 [] := fun K fd F => df_all (ba_36 K fd F)
theorem df_37_1 : DfOk fd_37 [] := fun K fd F => df_all (ba_37 K fd F)
theorem df_38_1 : DfOk fd_38 [] := fun K fd F => df_all (ba_38 K fd F)
theorem p_0 : BodyOk Y fd_0 := fun P w K mg base d Z cdv A outer s H E hr => by
  have nd := nd_0
  have pa := pa_of (Y := Y) (P := P) (w := w) (K := K) (mg := mg) (base := base) (N := N_0) (qual := fd_0.df.qual) (scope := fd_0.df.scope) (f := fa K fd_0) (cd := cdv) (A := A) (outer := outer) (s := s) (H := H) (E := E)
  exact (mss_cons Z.mF pa.cw (ms_set (i := 1) Z.mF pa.cw nd (z_call Z pa hr 3 9 df_3_1 (ma_cons Z.mF (me_var (i := 0)) ma_nil))) (mss_cons Z.mF pa.cw (ms_for Z.mF pa.cw (L2.passes_of rfl) rfl (mi_rng1 Z.mF (Z.b 0) me_int) (mg_name (i := 2) nd) (mss_cons Z.mF pa.cw (ms_set (i := 3) Z.mF pa.cw nd (z_call Z pa hr 32 8 df_32_1 (ma_cons Z.mF (me_var (i := 1)) ma_nil))) (mss_cons Z.mF pa.cw (ms_set (i := 4) Z.mF pa.cw nd (z_call Z pa hr 31 7 df_31_1 (ma_cons Z.mF (me_var (i := 3)) ma_nil))) (mss_cons Z.mF pa.cw (ms_if Z.mF pa.cw (L2.PW.pt (mw_or Z.mF (mt_not Z.mF (mt_val Z.mF (z_call Z pa hr 5 6 df_5_2 (ma_cons Z.mF (me_methX0 Z.mF pa 2 Z.mo2 (hr.mono (Nat.le_succ _)) (z_make Z pa hr 0 9 1 0 df_9_3 (ma_cons Z.mF (me_idx Z.mF (me_var (i := 3)) me_int) (ma_cons Z.mF (me_idx Z.mF (me_var (i := 3)) me_int) ma_nil)))) (ma_cons Z.mF (me_var (i := 4)) ma_nil))))) (mw_or1 (mt_not Z.mF (mt_val Z.mF (z_call Z pa hr 5 6 df_5_2 (ma_cons Z.mF (z_call Z pa hr 28 3 df_28_1 (ma_cons Z.mF (me_var (i := 4)) ma_nil)) (ma_cons Z.mF (me_tup Z.mF (ma_cons Z.mF me_str (ma_cons Z.mF (me_idx Z.mF (me_var (i := 3)) me_int) (ma_cons Z.mF (me_idx Z.mF (me_var (i := 3)) me_int) (ma_cons Z.mF (me_var (i := 4)) ma_nil))))) ma_nil)))))))) (mss_cons Z.mF pa.cw (ms_ret me_bl) mss_nil) mss_nil) (mss_cons Z.mF pa.cw (ms_ownS (ms_setLc (i := 5) (own := [("_law_k", 9)]) Z.mF pa.cw rfl nd (mi_rng1 Z.mF (Z.b 0) me_int) (by rfl) (fun _ _ _ _ _ => (mg_name (i := 9) nd)) (fun _ _ _ _ _ => mts_nil) (fun _ _ _ _ _ => (z_call Z Pa.none hr 29 5 df_29_2 (ma_cons Z.mF (me_var (i := 1)) (ma_cons Z.mF (me_var (i := 4)) ma_nil)))))) (mss_cons Z.mF pa.cw (ms_set (i := 6) Z.mF pa.cw nd (me_lst Z.mF (ma_cons Z.mF me_str (ma_cons Z.mF me_str (ma_cons Z.mF me_str (ma_cons Z.mF me_str (ma_cons Z.mF me_str (ma_cons Z.mF me_str (ma_cons Z.mF me_str (ma_cons Z.mF me_str (ma_cons Z.mF me_str (ma_cons Z.mF me_str (ma_cons Z.mF me_str (ma_cons Z.mF me_str (ma_cons Z.mF me_str (ma_cons Z.mF me_str (ma_cons Z.mF me_str ma_nil))))))))))))))))) (mss_cons Z.mF pa.cw (ms_exp Z.mF pa.cw (me_append Z.mF (me_var (i := 5)) (ma_cons Z.mF (z_call Z pa hr 4 4 df_4_2 (ma_cons Z.mF (me_var (i := 1)) (ma_cons Z.mF (me_var (i := 6)) ma_nil))) ma_nil))) (mss_cons Z.mF pa.cw (ms_for Z.mF pa.cw (L2.passes_of rfl) rfl (mi_of Z.mF (me_var (i := 5))) (mg_name (i := 7) nd) (mss_cons Z.mF pa.cw (ms_set (i := 8) Z.mF pa.cw nd (z_call Z pa hr 28 3 df_28_1 (ma_cons Z.mF (me_var (i := 7)) ma_nil))) (mss_cons Z.mF pa.cw (ms_if Z.mF pa.cw (L2.PW.pt (mw_or Z.mF (mt_cmp Z.mF .ne (Z.ow pa hr) hr.units (z_call Z pa hr 27 2 df_27_1 (ma_cons Z.mF (me_var (i := 7)) ma_nil)) (me_cmp Z.mF .eq (Z.ow pa hr) hr.units (me_idx Z.mF (me_var (i := 8)) me_int) me_str)) (mw_or1 (L2.PW.pt (mw_and Z.mF (mt_cmp Z.mF .eq (Z.ow pa hr) hr.units (me_idx Z.mF (me_var (i := 8)) me_int) me_str) (mw_and1 (mt_cmp Z.mF .ne (Z.ow pa hr) hr.units (me_idx Z.mF (me_var (i := 8)) me_int) (me_var (i := 7))))))))) (mss_cons Z.mF pa.cw (ms_ret me_bl) mss_nil) mss_nil) (mss_cons Z.mF pa.cw (ms_if Z.mF pa.cw (L2.PW.pt (mw_and Z.mF (mt_cmp Z.mF .ne (Z.ow pa hr) hr.units (me_idx Z.mF (me_var (i := 8)) me_int) me_str) (mw_and1 (mt_cmp Z.mF .ne (Z.ow pa hr) hr.units (me_var (i := 8)) (me_tup Z.mF (ma_cons Z.mF me_str (ma_cons Z.mF me_int ma_nil))))))) (mss_cons Z.mF pa.cw (ms_ret me_bl) mss_nil) mss_nil) mss_nil)))) mss_nil)))))))) (mss_cons Z.mF pa.cw (ms_ret me_bl) mss_nil)))
theorem p_1 : BodyOk Y fd_1 := fun P w K mg base d Z cdv A outer s H E hr => by
  have nd := nd_1
  have pa := pa_of (Y := Y) (P := P) (w := w) (K := K) (mg := mg) (base := base) (N := N_1) (qual := fd_1.df.qual) (scope := fd_1.df.scope) (f := fa K fd_1) (cd := cdv) (A := A) (outer := outer) (s := s) (H := H) (E := E)
  exact (mss_cons Z.mF pa.cw (ms_set (i := 2) Z.mF pa.cw nd me_int) (mss_cons Z.mF pa.cw (ms_while Z.mF pa.cw (L2.passes_of rfl) (L2.PW.pt (mw_and Z.mF (mt_cmp Z.mF .lt (Z.ow pa hr) hr.units (me_var (i := 2)) me_int) (mw_and1 (L2.PW.pt (mw_or Z.mF (mt_cmp Z.mF .eq (Z.ow pa hr) hr.units (me_idx Z.mF (me_var (i := 0)) me_int) me_int) (mw_or1 (L2.PW.pt (mw_and Z.mF (mt_val Z.mF (me_idx Z.mF (me_var (i := 0)) me_int)) (mw_and1 (mt_cmp Z.mF .lt (Z.ow pa hr) hr.units (me_idx Z.mF (me_var (i := 0)) me_int) (me_bin Z.mF .mul (Z.ow pa hr) (me_var (i := 1)) me_int))))))))))) (mss_cons Z.mF pa.cw (ms_exp Z.mF pa.cw (z_call Z pa hr 2 10 df_2_1 (ma_cons Z.mF (me_var (i := 0)) ma_nil))) (mss_cons Z.mF pa.cw (ms_aug (i := 2) Z.mF pa.cw .add nd me_int) (mss_cons Z.mF pa.cw (ms_if Z.mF pa.cw (L2.PW.pt (mw_and Z.mF (mt_val Z.mF (me_idx Z.mF (me_var (i := 0)) me_int)) (mw_and1 (mt_cmp Z.mF .lt (Z.ow pa hr) hr.units (me_idx Z.mF (me_var (i := 0)) me_int) (me_bin Z.mF .mul (Z.ow pa hr) (me_var (i := 1)) me_int))))) (mss_cons Z.mF pa.cw (ms_asg Z.mF pa.cw (me_bin Z.mF .add (Z.ow pa hr) (me_idx Z.mF (me_var (i := 0)) me_int) (me_bin Z.mF .mul (Z.ow pa hr) (me_bin Z.mF .mul (Z.ow pa hr) (me_var (i := 1)) me_int) (me_bin Z.mF .add (Z.ow pa hr) me_int (me_bin Z.mF .mod (Z.ow pa hr) (me_bifT Z.mF pa.cw cb_int (Z.b 1) bt_int (ma_cons Z.mF (me_idx Z.mF (me_var (i := 0)) me_int) ma_nil)) me_int)))) (mg_sub Z.mF pa.cw (me_var (i := 0)) me_int)) mss_nil) mss_nil) mss_nil)))) (mss_cons Z.mF pa.cw (ms_set (i := 3) Z.mF pa.cw nd (me_bin Z.mF .mod (Z.ow pa hr) (me_bifT Z.mF pa.cw cb_int (Z.b 1) bt_int (ma_cons Z.mF (me_idx Z.mF (me_var (i := 0)) me_int) ma_nil)) (me_var (i := 1)))) (mss_cons Z.mF pa.cw (ms_asg Z.mF pa.cw (me_bin Z.mF .fdiv (Z.ow pa hr) (me_idx Z.mF (me_var (i := 0)) me_int) (me_var (i := 1))) (mg_sub Z.mF pa.cw (me_var (i := 0)) me_int)) (mss_cons Z.mF pa.cw (ms_ret (me_var (i := 3))) mss_nil)))))
theorem p_2 : BodyOk Y fd_2 := fun P w K mg base d Z cdv A outer s H E hr => by
  have nd := nd_2
  have pa := pa_of (Y := Y) (P := P) (w := w) (K := K) (mg := mg) (base := base) (N := N_2) (qual := fd_2.df.qual) (scope := fd_2.df.scope) (f := fa K fd_2) (cd := cdv) (A := A) (outer := outer) (s := s) (H := H) (E := E)
  exact (mss_cons Z.mF pa.cw (ms_par (i := 1) (j := 2) Z.mF pa.cw rfl nd (ma_cons Z.mF (me_idx Z.mF (me_var (i := 0)) me_int) (ma_cons Z.mF (me_idx Z.mF (me_var (i := 0)) me_int) ma_nil))) (mss_cons Z.mF pa.cw (ms_set (i := 3) Z.mF pa.cw nd (me_bin Z.mF .add (Z.ow pa hr) (me_bin Z.mF .mul (Z.ow pa hr) me_int (me_var (i := 2))) me_int)) (mss_cons Z.mF pa.cw (ms_if Z.mF pa.cw (mt_cmp Z.mF .gt (Z.ow pa hr) hr.units (me_bif Z.mF pa.cw cb_len (Z.b 3) boot_len (ma_cons Z.mF (me_var (i := 1)) ma_nil)) me_int) (mss_cons Z.mF pa.cw (ms_set (i := 3) Z.mF pa.cw nd (me_bin Z.mF .add (Z.ow pa hr) (me_bin Z.mF .mul (Z.ow pa hr) me_int (me_bin Z.mF .fdiv (Z.ow pa hr) (me_var (i := 2)) (me_bif Z.mF pa.cw cb_len (Z.b 3) boot_len (ma_cons Z.mF (me_var (i := 1)) ma_nil)))) (me_idx Z.mF (me_var (i := 1)) (me_bin Z.mF .mod (Z.ow pa hr) (me_bifT Z.mF pa.cw cb_int (Z.b 1) bt_int (ma_cons Z.mF (me_var (i := 2)) ma_nil)) (me_bif Z.mF pa.cw cb_len (Z.b 3) boot_len (ma_cons Z.mF (me_var (i := 1)) ma_nil)))))) mss_nil) mss_nil) (mss_cons Z.mF pa.cw (ms_asg Z.mF pa.cw (me_bin Z.mF .add (Z.ow pa hr) (me_var (i := 2)) me_int) (mg_sub Z.mF pa.cw (me_var (i := 0)) me_int)) (mss_cons Z.mF pa.cw (ms_asg Z.mF pa.cw (me_or Z.mF (me_cmp Z.mF .ge (Z.ow pa hr) hr.units (me_var (i := 2)) (me_bif Z.mF pa.cw cb_len (Z.b 3) boot_len (ma_cons Z.mF (me_var (i := 1)) ma_nil))) (me_one (me_cmp Z.mF .lt (Z.ow pa hr) hr.units (me_var (i := 3)) (me_bin Z.mF .pow (Z.ow pa hr) me_int me_int)))) (mg_sub Z.mF pa.cw (me_var (i := 0)) me_int)) (mss_cons Z.mF pa.cw (ms_asg Z.mF pa.cw (me_bin Z.mF .sub (Z.ow pa hr) (me_var (i := 3)) (me_bin Z.mF .pow (Z.ow pa hr) me_int me_int)) (mg_sub Z.mF pa.cw (me_var (i := 0)) me_int)) (mss_cons Z.mF pa.cw (ms_if Z.mF pa.cw (mt_val Z.mF (me_idx Z.mF (me_var (i := 0)) me_int)) (mss_cons Z.mF pa.cw (ms_asg Z.mF pa.cw me_int (mg_sub Z.mF pa.cw (me_var (i := 0)) me_int)) (mss_cons Z.mF pa.cw (ms_for Z.mF pa.cw (L2.passes_of rfl) rfl (mi_enm Z.mF (Z.b 2) (me_tup Z.mF (ma_cons Z.mF me_int (ma_cons Z.mF me_int (ma_cons Z.mF me_int (ma_cons Z.mF me_int (ma_cons Z.mF me_int ma_nil))))))) (mg_tup rfl (mgs_cons Z.mF pa.cw (mg_name (i := 4) nd) (mgs_cons Z.mF pa.cw (mg_name (i := 5) nd) mgs_nil))) (mss_cons Z.mF pa.cw (ms_set (i := 6) Z.mF pa.cw nd (me_bin Z.mF .mod (Z.ow pa hr) (me_bifT Z.mF pa.cw cb_int (Z.b 1) bt_int (ma_cons Z.mF (me_bin Z.mF .mul (Z.ow pa hr) (me_bin Z.mF .add (Z.ow pa hr) (me_bin Z.mF .add (Z.ow pa hr) (me_var (i := 3)) (me_bin Z.mF .mul (Z.ow pa hr) (me_bin Z.mF .mul (Z.ow pa hr) me_int (me_var (i := 4))) (me_var (i := 4)))) (me_bin Z.mF .mul (Z.ow pa hr) me_int (me_var (i := 4)))) (me_bin Z.mF .add (Z.ow pa hr) me_int (me_bin Z.mF .mul (Z.ow pa hr) me_int (me_var (i := 4))))) ma_nil)) (me_var (i := 5)))) (mss_cons Z.mF pa.cw (ms_asg Z.mF pa.cw (me_bin Z.mF .add (Z.ow pa hr) (me_bin Z.mF .mul (Z.ow pa hr) (me_idx Z.mF (me_var (i := 0)) me_int) (me_var (i := 5))) (me_bin Z.mF .mod (Z.ow pa hr) (me_bifT Z.mF pa.cw cb_int (Z.b 1) bt_int (ma_cons Z.mF (me_bin Z.mF .pow (Z.ow pa hr) (me_var (i := 6)) me_int) ma_nil)) (me_var (i := 5)))) (mg_sub Z.mF pa.cw (me_var (i := 0)) me_int)) mss_nil))) mss_nil)) mss_nil) mss_nil)))))))
theorem p_3 : BodyOk Y fd_3 := fun P w K mg base d Z cdv A outer s H E hr => by
  have nd := nd_3
  have pa := pa_of (Y := Y) (P := P) (w := w) (K := K) (mg := mg) (base := base) (N := N_3) (qual := fd_3.df.qual) (scope := fd_3.df.scope) (f := fa K fd_3) (cd := cdv) (A := A) (outer := outer) (s := s) (H := H) (E := E)
  exact (mss_cons Z.mF pa.cw (ms_ret (me_lst Z.mF (ma_cons Z.mF (me_sl Z.mF (me_var (i := 0)) mo_no (mo_so Z.mF me_int)) (ma_cons Z.mF me_int (ma_cons Z.mF me_int (ma_cons Z.mF me_bl ma_nil)))))) mss_nil)
theorem p_4 : BodyOk Y fd_4 := fun P w K mg base d Z cdv A outer s H E hr => by
  have nd := nd_4
  have pa := pa_of (Y := Y) (P := P) (w := w) (K := K) (mg := mg) (base := base) (N := N_4) (qual := fd_4.df.qual) (scope := fd_4.df.scope) (f := fa K fd_4) (cd := cdv) (A := A) (outer := outer) (s := s) (H := H) (E := E)
  exact (mss_cons Z.mF pa.cw (ms_ret (me_idx Z.mF (me_var (i := 1)) (z_call Z pa hr 1 11 df_1_2 (ma_cons Z.mF (me_var (i := 0)) (ma_cons Z.mF (me_bif Z.mF pa.cw cb_len (Z.b 3) boot_len (ma_cons Z.mF (me_var (i := 1)) ma_nil)) ma_nil))))) mss_nil)
theorem p_5 : BodyOk Y fd_5 := fun P w K mg base d Z cdv A outer s H E hr => by
  have nd := nd_5
  have pa := pa_of (Y := Y) (P := P) (w := w) (K := K) (mg := mg) (base := base) (N := N_5) (qual := fd_5.df.qual) (scope := fd_5.df.scope) (f := fa K fd_5) (cd := cdv) (A := A) (outer := outer) (s := s) (H := H) (E := E)
  exact (mss_cons Z.mF pa.cw (ms_if Z.mF pa.cw (mt_val Z.mF (me_isiT Z.mF Z.ki (Z.b 4) (me_var (i := 1)) (L2.pa_cons (z_ty Z 6 bt_list) (L2.pa_cons (z_ty Z 7 bt_tuple) L2.pa_nil)) (.cons (.ty _) (.cons (.ty _) .nil)) (.cons Z.says.isList (.cons Z.says.isTuple .nil)))) (mss_cons Z.mF pa.cw (ms_if Z.mF pa.cw (L2.PW.pt (mw_or Z.mF (mt_cmp Z.mF .ne (Z.ow pa hr) hr.units (me_isi Z.mF Z.ki (Z.b 4) (me_var (i := 0)) (z_ty Z 6 bt_list) (.ty _) Z.says.isList) (me_isi Z.mF Z.ki (Z.b 4) (me_var (i := 1)) (z_ty Z 6 bt_list) (.ty _) Z.says.isList)) (mw_or1 (mt_cmp Z.mF .ne (Z.ow pa hr) hr.units (me_isi Z.mF Z.ki (Z.b 4) (me_var (i := 0)) (z_ty Z 7 bt_tuple) (.ty _) Z.says.isTuple) (me_isi Z.mF Z.ki (Z.b 4) (me_var (i := 1)) (z_ty Z 7 bt_tuple) (.ty _) Z.says.isTuple))))) (mss_cons Z.mF pa.cw (ms_ret me_bl) mss_nil) mss_nil) (mss_cons Z.mF pa.cw (ms_ret (me_and Z.mF (me_cmp Z.mF .eq (Z.ow pa hr) hr.units (me_bif Z.mF pa.cw cb_len (Z.b 3) boot_len (ma_cons Z.mF (me_var (i := 0)) ma_nil)) (me_bif Z.mF pa.cw cb_len (Z.b 3) boot_len (ma_cons Z.mF (me_var (i := 1)) ma_nil))) (me_one (me_bif Z.mF pa.cw (cb_all rfl) (Z.b 9) boot_all (ma_cons Z.mF (me_lc (own := [("_law_a", 2), ("_law_b", 3)]) Z.mF pa.cw rfl nd (mi_zip Z.mF (Z.b 8) (me_var (i := 0)) (me_var (i := 1))) (by rfl) (fun _ _ _ _ _ => (mg_tup rfl (mgs_cons Z.mF CW.no (mg_name (i := 2) nd) (mgs_cons Z.mF CW.no (mg_name (i := 3) nd) mgs_nil)))) (fun _ _ _ _ _ => mts_nil) (fun _ _ _ _ _ => (z_call Z Pa.none hr 5 6 df_5_2 (ma_cons Z.mF (me_var (i := 2)) (ma_cons Z.mF (me_var (i := 3)) ma_nil))))) ma_nil))))) mss_nil)) mss_nil) (mss_cons Z.mF pa.cw (ms_if Z.mF pa.cw (mt_val Z.mF (me_isi Z.mF Z.ki (Z.b 4) (me_var (i := 1)) (z_ty Z 1 bt_int) (.ty _) Z.says.isInt)) (mss_cons Z.mF pa.cw (ms_ret (me_and Z.mF (me_isi Z.mF Z.ki (Z.b 4) (me_var (i := 0)) (z_ty Z 1 bt_int) (.ty _) Z.says.isInt) (me_and Z.mF (me_cmp Z.mF .eq (Z.ow pa hr) hr.units (me_isi Z.mF Z.ki (Z.b 4) (me_var (i := 0)) (z_ty Z 5 bt_bool) (.ty _) Z.says.isBool) (me_isi Z.mF Z.ki (Z.b 4) (me_var (i := 1)) (z_ty Z 5 bt_bool) (.ty _) Z.says.isBool)) (me_one (me_cmp Z.mF .eq (Z.ow pa hr) hr.units (me_var (i := 0)) (me_var (i := 1))))))) mss_nil) mss_nil) (mss_cons Z.mF pa.cw (ms_ret (me_and Z.mF (me_isF Z.mF .isfls (Z.ow pa hr) hr.units (me_isiT Z.mF Z.ki (Z.b 4) (me_var (i := 0)) (L2.pa_cons (z_ty Z 5 bt_bool) (L2.pa_cons (z_ty Z 1 bt_int) (L2.pa_cons (z_ty Z 6 bt_list) (L2.pa_cons (z_ty Z 7 bt_tuple) L2.pa_nil)))) (.cons (.ty _) (.cons (.ty _) (.cons (.ty _) (.cons (.ty _) .nil)))) (.cons Z.says.isBool (.cons Z.says.isInt (.cons Z.says.isList (.cons Z.says.isTuple .nil)))))) (me_one (me_cmp Z.mF .eq (Z.ow pa hr) hr.units (me_var (i := 0)) (me_var (i := 1)))))) mss_nil)))
theorem p_6 : BodyOk Y fd_6 := fun P w K mg base d Z cdv A outer s H E hr => by
  have nd := nd_6
  have pa := pa_of (Y := Y) (P := P) (w := w) (K := K) (mg := mg) (base := base) (N := N_6) (qual := fd_6.df.qual) (scope := fd_6.df.scope) (f := fa K fd_6) (cd := cdv) (A := A) (outer := outer) (s := s) (H := H) (E := E)
  exact (mss_cons Z.mF pa.cw (ms_ret (me_and Z.mF (me_isi Z.mF Z.ki (Z.b 4) (me_var (i := 0)) (z_ty Z 1 bt_int) (.ty _) Z.says.isInt) (me_one (me_not Z.mF (me_isi Z.mF Z.ki (Z.b 4) (me_var (i := 0)) (z_ty Z 5 bt_bool) (.ty _) Z.says.isBool))))) mss_nil)
theorem p_7 : BodyOk Y fd_7 := fun P w K mg base d Z cdv A outer s H E hr => by
  have nd := nd_7
  have pa := pa_of (Y := Y) (P := P) (w := w) (K := K) (mg := mg) (base := base) (N := N_7) (qual := fd_7.df.qual) (scope := fd_7.df.scope) (f := fa K fd_7) (cd := cdv) (A := A) (outer := outer) (s := s) (H := H) (E := E)
  exact (mss_cons Z.mF pa.cw (ms_while Z.mF pa.cw (L2.passes_of rfl) (mt_cmp Z.mF .gt (Z.ow pa hr) hr.units (me_var (i := 1)) me_int) (mss_cons Z.mF pa.cw (ms_par (i := 0) (j := 1) Z.mF pa.cw rfl nd (ma_cons Z.mF (me_var (i := 1)) (ma_cons Z.mF (me_bin Z.mF .mod (Z.ow pa hr) (me_var (i := 0)) (me_var (i := 1))) ma_nil))) mss_nil)) (mss_cons Z.mF pa.cw (ms_ret (me_var (i := 0))) mss_nil))
theorem p_8 : BodyOk Y fd_8 := fun P w K mg base d Z cdv A outer s H E hr => by
  have nd := nd_8
  have pa := pa_of (Y := Y) (P := P) (w := w) (K := K) (mg := mg) (base := base) (N := N_8) (qual := fd_8.df.qual) (scope := fd_8.df.scope) (f := fa K fd_8) (cd := cdv) (A := A) (outer := outer) (s := s) (H := H) (E := E)
  exact (mss_cons Z.mF pa.cw (ms_if Z.mF pa.cw (mt_val Z.mF (me_isi Z.mF Z.ki (Z.b 4) (me_var (i := 0)) (z_cls (c := 0) Z 1) (.own _) (Z.says.isOwn (a := 0) (by decide)))) (mss_cons Z.mF pa.cw (ms_ret (me_tup Z.mF (ma_cons Z.mF (me_fldX Z.mF Z.kc 0 (me_var (i := 0))) (ma_cons Z.mF (me_fldX Z.mF Z.kc 1 (me_var (i := 0))) ma_nil)))) mss_nil) mss_nil) (mss_cons Z.mF pa.cw (ms_if Z.mF pa.cw (mt_val Z.mF (z_call Z pa hr 6 13 df_6_1 (ma_cons Z.mF (me_var (i := 0)) ma_nil))) (mss_cons Z.mF pa.cw (ms_ret (me_tup Z.mF (ma_cons Z.mF (me_var (i := 0)) (ma_cons Z.mF me_int ma_nil)))) mss_nil) mss_nil) (mss_cons Z.mF pa.cw (z_rais Z pa hr 1 3 0 12 (ma_cons Z.mF (me_var (i := 0)) ma_nil)) mss_nil)))
theorem p_9 : BodyOk Y fd_9 := fun P w K mg base d Z cdv A outer s H E hr => by
  have nd := nd_9
  have pa := pa_of (Y := Y) (P := P) (w := w) (K := K) (mg := mg) (base := base) (N := N_9) (qual := fd_9.df.qual) (scope := fd_9.df.scope) (f := fa K fd_9) (cd := cdv) (A := A) (outer := outer) (s := s) (H := H) (E := E)
  exact (mss_cons Z.mF pa.cw (ms_if Z.mF pa.cw (mt_not Z.mF (mt_val Z.mF (z_call Z pa hr 6 13 df_6_1 (ma_cons Z.mF (me_var (i := 1)) ma_nil)))) (mss_cons Z.mF pa.cw (z_rais Z pa hr 1 3 0 12 (ma_cons Z.mF (me_var (i := 1)) ma_nil)) mss_nil) mss_nil) (mss_cons Z.mF pa.cw (ms_if Z.mF pa.cw (L2.PW.pt (mw_or Z.mF (mt_not Z.mF (mt_val Z.mF (z_call Z pa hr 6 13 df_6_1 (ma_cons Z.mF (me_var (i := 2)) ma_nil)))) (mw_or1 (mt_cmp Z.mF .eq (Z.ow pa hr) hr.units (me_var (i := 2)) me_int)))) (mss_cons Z.mF pa.cw (z_rais Z pa hr 1 3 0 12 (ma_cons Z.mF (me_var (i := 2)) ma_nil)) mss_nil) mss_nil) (mss_cons Z.mF pa.cw (ms_set (i := 3) Z.mF pa.cw nd (z_call Z pa hr 7 14 df_7_2 (ma_cons Z.mF (me_bif Z.mF pa.cw (cb_abs (Z.ow pa hr)) (Z.b 11) boot_abs (ma_cons Z.mF (me_var (i := 1)) ma_nil)) (ma_cons Z.mF (me_bif Z.mF pa.cw (cb_abs (Z.ow pa hr)) (Z.b 11) boot_abs (ma_cons Z.mF (me_var (i := 2)) ma_nil)) ma_nil)))) (mss_cons Z.mF pa.cw (ms_set (i := 4) Z.mF pa.cw nd (me_ite Z.mF (mt_cmp Z.mF .gt (Z.ow pa hr) hr.units (me_var (i := 2)) me_int) me_int (me_neg Z.mF (Z.ow pa hr) me_int))) (mss_cons Z.mF pa.cw (ms_fldX Z.mF pa.cw Z.kc 0 (me_var (i := 0)) (me_bin Z.mF .fdiv (Z.ow pa hr) (me_bin Z.mF .mul (Z.ow pa hr) (me_var (i := 4)) (me_var (i := 1))) (me_var (i := 3)))) (mss_cons Z.mF pa.cw (ms_fldX Z.mF pa.cw Z.kc 1 (me_var (i := 0)) (me_bin Z.mF .fdiv (Z.ow pa hr) (me_bin Z.mF .mul (Z.ow pa hr) (me_var (i := 4)) (me_var (i := 2))) (me_var (i := 3)))) mss_nil))))))
theorem p_10 : BodyOk Y fd_10 := fun P w K mg base d Z cdv A outer s H E hr => by
  have nd := nd_10
  have pa := pa_of (Y := Y) (P := P) (w := w) (K := K) (mg := mg) (base := base) (N := N_10) (qual := fd_10.df.qual) (scope := fd_10.df.scope) (f := fa K fd_10) (cd := cdv) (A := A) (outer := outer) (s := s) (H := H) (E := E)
  exact (mss_cons Z.mF pa.cw (ms_asg Z.mF pa.cw (z_call Z pa hr 8 15 df_8_1 (ma_cons Z.mF (me_var (i := 1)) ma_nil)) (mg_tup rfl (mgs_cons Z.mF pa.cw (mg_name (i := 2) nd) (mgs_cons Z.mF pa.cw (mg_name (i := 3) nd) mgs_nil)))) (mss_cons Z.mF pa.cw (ms_ret (z_make Z pa hr 0 9 1 0 df_9_3 (ma_cons Z.mF (me_bin Z.mF .add (Z.ow pa hr) (me_bin Z.mF .mul (Z.ow pa hr) (me_fldX Z.mF Z.kc 0 (me_var (i := 0))) (me_var (i := 3))) (me_bin Z.mF .mul (Z.ow pa hr) (me_var (i := 2)) (me_fldX Z.mF Z.kc 1 (me_var (i := 0))))) (ma_cons Z.mF (me_bin Z.mF .mul (Z.ow pa hr) (me_fldX Z.mF Z.kc 1 (me_var (i := 0))) (me_var (i := 3))) ma_nil)))) mss_nil))
theorem p_11 : BodyOk Y fd_11 := fun P w K mg base d Z cdv A outer s H E hr => by
  have nd := nd_11
  have pa := pa_of (Y := Y) (P := P) (w := w) (K := K) (mg := mg) (base := base) (N := N_11) (qual := fd_11.df.qual) (scope := fd_11.df.scope) (f := fa K fd_11) (cd := cdv) (A := A) (outer := outer) (s := s) (H := H) (E := E)
  exact (mss_cons Z.mF pa.cw (ms_asg Z.mF pa.cw (z_call Z pa hr 8 15 df_8_1 (ma_cons Z.mF (me_var (i := 1)) ma_nil)) (mg_tup rfl (mgs_cons Z.mF pa.cw (mg_name (i := 2) nd) (mgs_cons Z.mF pa.cw (mg_name (i := 3) nd) mgs_nil)))) (mss_cons Z.mF pa.cw (ms_ret (z_make Z pa hr 0 9 1 0 df_9_3 (ma_cons Z.mF (me_bin Z.mF .add (Z.ow pa hr) (me_bin Z.mF .mul (Z.ow pa hr) (me_fldX Z.mF Z.kc 0 (me_var (i := 0))) (me_var (i := 3))) (me_bin Z.mF .mul (Z.ow pa hr) (me_var (i := 2)) (me_fldX Z.mF Z.kc 1 (me_var (i := 0))))) (ma_cons Z.mF (me_bin Z.mF .mul (Z.ow pa hr) (me_fldX Z.mF Z.kc 1 (me_var (i := 0))) (me_var (i := 3))) ma_nil)))) mss_nil))
theorem p_12 : BodyOk Y fd_12 := fun P w K mg base d Z cdv A outer s H E hr => by
  have nd := nd_12
  have pa := pa_of (Y := Y) (P := P) (w := w) (K := K) (mg := mg) (base := base) (N := N_12) (qual := fd_12.df.qual) (scope := fd_12.df.scope) (f := fa K fd_12) (cd := cdv) (A := A) (outer := outer) (s := s) (H := H) (E := E)
  exact (mss_cons Z.mF pa.cw (ms_asg Z.mF pa.cw (z_call Z pa hr 8 15 df_8_1 (ma_cons Z.mF (me_var (i := 1)) ma_nil)) (mg_tup rfl (mgs_cons Z.mF pa.cw (mg_name (i := 2) nd) (mgs_cons Z.mF pa.cw (mg_name (i := 3) nd) mgs_nil)))) (mss_cons Z.mF pa.cw (ms_ret (z_make Z pa hr 0 9 1 0 df_9_3 (ma_cons Z.mF (me_bin Z.mF .sub (Z.ow pa hr) (me_bin Z.mF .mul (Z.ow pa hr) (me_fldX Z.mF Z.kc 0 (me_var (i := 0))) (me_var (i := 3))) (me_bin Z.mF .mul (Z.ow pa hr) (me_var (i := 2)) (me_fldX Z.mF Z.kc 1 (me_var (i := 0))))) (ma_cons Z.mF (me_bin Z.mF .mul (Z.ow pa hr) (me_fldX Z.mF Z.kc 1 (me_var (i := 0))) (me_var (i := 3))) ma_nil)))) mss_nil))
theorem p_13 : BodyOk Y fd_13 := fun P w K mg base d Z cdv A outer s H E hr => by
  have nd := nd_13
  have pa := pa_of (Y := Y) (P := P) (w := w) (K := K) (mg := mg) (base := base) (N := N_13) (qual := fd_13.df.qual) (scope := fd_13.df.scope) (f := fa K fd_13) (cd := cdv) (A := A) (outer := outer) (s := s) (H := H) (E := E)
  exact (mss_cons Z.mF pa.cw (ms_asg Z.mF pa.cw (z_call Z pa hr 8 15 df_8_1 (ma_cons Z.mF (me_var (i := 1)) ma_nil)) (mg_tup rfl (mgs_cons Z.mF pa.cw (mg_name (i := 2) nd) (mgs_cons Z.mF pa.cw (mg_name (i := 3) nd) mgs_nil)))) (mss_cons Z.mF pa.cw (ms_ret (z_make Z pa hr 0 9 1 0 df_9_3 (ma_cons Z.mF (me_bin Z.mF .sub (Z.ow pa hr) (me_bin Z.mF .mul (Z.ow pa hr) (me_var (i := 2)) (me_fldX Z.mF Z.kc 1 (me_var (i := 0)))) (me_bin Z.mF .mul (Z.ow pa hr) (me_fldX Z.mF Z.kc 0 (me_var (i := 0))) (me_var (i := 3)))) (ma_cons Z.mF (me_bin Z.mF .mul (Z.ow pa hr) (me_fldX Z.mF Z.kc 1 (me_var (i := 0))) (me_var (i := 3))) ma_nil)))) mss_nil))
theorem p_14 : BodyOk Y fd_14 := fun P w K mg base d Z cdv A outer s H E hr => by
  have nd := nd_14
  have pa := pa_of (Y := Y) (P := P) (w := w) (K := K) (mg := mg) (base := base) (N := N_14) (qual := fd_14.df.qual) (scope := fd_14.df.scope) (f := fa K fd_14) (cd := cdv) (A := A) (outer := outer) (s := s) (H := H) (E := E)
  exact (mss_cons Z.mF pa.cw (ms_asg Z.mF pa.cw (z_call Z pa hr 8 15 df_8_1 (ma_cons Z.mF (me_var (i := 1)) ma_nil)) (mg_tup rfl (mgs_cons Z.mF pa.cw (mg_name (i := 2) nd) (mgs_cons Z.mF pa.cw (mg_name (i := 3) nd) mgs_nil)))) (mss_cons Z.mF pa.cw (ms_ret (z_make Z pa hr 0 9 1 0 df_9_3 (ma_cons Z.mF (me_bin Z.mF .mul (Z.ow pa hr) (me_fldX Z.mF Z.kc 0 (me_var (i := 0))) (me_var (i := 2))) (ma_cons Z.mF (me_bin Z.mF .mul (Z.ow pa hr) (me_fldX Z.mF Z.kc 1 (me_var (i := 0))) (me_var (i := 3))) ma_nil)))) mss_nil))
theorem p_15 : BodyOk Y fd_15 := fun P w K mg base d Z cdv A outer s H E hr => by
  have nd := nd_15
  have pa := pa_of (Y := Y) (P := P) (w := w) (K := K) (mg := mg) (base := base) (N := N_15) (qual := fd_15.df.qual) (scope := fd_15.df.scope) (f := fa K fd_15) (cd := cdv) (A := A) (outer := outer) (s := s) (H := H) (E := E)
  exact (mss_cons Z.mF pa.cw (ms_asg Z.mF pa.cw (z_call Z pa hr 8 15 df_8_1 (ma_cons Z.mF (me_var (i := 1)) ma_nil)) (mg_tup rfl (mgs_cons Z.mF pa.cw (mg_name (i := 2) nd) (mgs_cons Z.mF pa.cw (mg_name (i := 3) nd) mgs_nil)))) (mss_cons Z.mF pa.cw (ms_ret (z_make Z pa hr 0 9 1 0 df_9_3 (ma_cons Z.mF (me_bin Z.mF .mul (Z.ow pa hr) (me_fldX Z.mF Z.kc 0 (me_var (i := 0))) (me_var (i := 2))) (ma_cons Z.mF (me_bin Z.mF .mul (Z.ow pa hr) (me_fldX Z.mF Z.kc 1 (me_var (i := 0))) (me_var (i := 3))) ma_nil)))) mss_nil))
theorem p_16 : BodyOk Y fd_16 := fun P w K mg base d Z cdv A outer s H E hr => by
  have nd := nd_16
  have pa := pa_of (Y := Y) (P := P) (w := w) (K := K) (mg := mg) (base := base) (N := N_16) (qual := fd_16.df.qual) (scope := fd_16.df.scope) (f := fa K fd_16) (cd := cdv) (A := A) (outer := outer) (s := s) (H := H) (E := E)
  exact (mss_cons Z.mF pa.cw (ms_asg Z.mF pa.cw (z_call Z pa hr 8 15 df_8_1 (ma_cons Z.mF (me_var (i := 1)) ma_nil)) (mg_tup rfl (mgs_cons Z.mF pa.cw (mg_name (i := 2) nd) (mgs_cons Z.mF pa.cw (mg_name (i := 3) nd) mgs_nil)))) (mss_cons Z.mF pa.cw (ms_if Z.mF pa.cw (mt_cmp Z.mF .eq (Z.ow pa hr) hr.units (me_var (i := 2)) me_int) (mss_cons Z.mF pa.cw (z_rais Z pa hr 1 3 0 12 (ma_cons Z.mF (me_var (i := 1)) ma_nil)) mss_nil) mss_nil) (mss_cons Z.mF pa.cw (ms_ret (me_bin Z.mF .fdiv (Z.ow pa hr) (me_bin Z.mF .mul (Z.ow pa hr) (me_fldX Z.mF Z.kc 0 (me_var (i := 0))) (me_var (i := 3))) (me_bin Z.mF .mul (Z.ow pa hr) (me_fldX Z.mF Z.kc 1 (me_var (i := 0))) (me_var (i := 2))))) mss_nil)))
theorem p_17 : BodyOk Y fd_17 := fun P w K mg base d Z cdv A outer s H E hr => by
  have nd := nd_17
  have pa := pa_of (Y := Y) (P := P) (w := w) (K := K) (mg := mg) (base := base) (N := N_17) (qual := fd_17.df.qual) (scope := fd_17.df.scope) (f := fa K fd_17) (cd := cdv) (A := A) (outer := outer) (s := s) (H := H) (E := E)
  exact (mss_cons Z.mF pa.cw (ms_asg Z.mF pa.cw (z_call Z pa hr 8 15 df_8_1 (ma_cons Z.mF (me_var (i := 1)) ma_nil)) (mg_tup rfl (mgs_cons Z.mF pa.cw (mg_name (i := 2) nd) (mgs_cons Z.mF pa.cw (mg_name (i := 3) nd) mgs_nil)))) (mss_cons Z.mF pa.cw (ms_if Z.mF pa.cw (mt_cmp Z.mF .eq (Z.ow pa hr) hr.units (me_fldX Z.mF Z.kc 0 (me_var (i := 0))) me_int) (mss_cons Z.mF pa.cw (z_rais Z pa hr 1 3 0 12 (ma_cons Z.mF (me_var (i := 0)) ma_nil)) mss_nil) mss_nil) (mss_cons Z.mF pa.cw (ms_ret (me_bin Z.mF .fdiv (Z.ow pa hr) (me_bin Z.mF .mul (Z.ow pa hr) (me_var (i := 2)) (me_fldX Z.mF Z.kc 1 (me_var (i := 0)))) (me_bin Z.mF .mul (Z.ow pa hr) (me_var (i := 3)) (me_fldX Z.mF Z.kc 0 (me_var (i := 0)))))) mss_nil)))
theorem p_18 : BodyOk Y fd_18 := fun P w K mg base d Z cdv A outer s H E hr => by
  have nd := nd_18
  have pa := pa_of (Y := Y) (P := P) (w := w) (K := K) (mg := mg) (base := base) (N := N_18) (qual := fd_18.df.qual) (scope := fd_18.df.scope) (f := fa K fd_18) (cd := cdv) (A := A) (outer := outer) (s := s) (H := H) (E := E)
  exact (mss_cons Z.mF pa.cw (ms_asg Z.mF pa.cw (z_call Z pa hr 8 15 df_8_1 (ma_cons Z.mF (me_var (i := 1)) ma_nil)) (mg_tup rfl (mgs_cons Z.mF pa.cw (mg_name (i := 2) nd) (mgs_cons Z.mF pa.cw (mg_name (i := 3) nd) mgs_nil)))) (mss_cons Z.mF pa.cw (ms_if Z.mF pa.cw (mt_cmp Z.mF .eq (Z.ow pa hr) hr.units (me_var (i := 2)) me_int) (mss_cons Z.mF pa.cw (z_rais Z pa hr 1 3 0 12 (ma_cons Z.mF (me_var (i := 1)) ma_nil)) mss_nil) mss_nil) (mss_cons Z.mF pa.cw (ms_set (i := 4) Z.mF pa.cw nd (me_bin Z.mF .fdiv (Z.ow pa hr) (me_bin Z.mF .mul (Z.ow pa hr) (me_fldX Z.mF Z.kc 0 (me_var (i := 0))) (me_var (i := 3))) (me_bin Z.mF .mul (Z.ow pa hr) (me_fldX Z.mF Z.kc 1 (me_var (i := 0))) (me_var (i := 2))))) (mss_cons Z.mF pa.cw (ms_ret (z_make Z pa hr 0 9 1 0 df_9_3 (ma_cons Z.mF (me_bin Z.mF .sub (Z.ow pa hr) (me_bin Z.mF .mul (Z.ow pa hr) (me_fldX Z.mF Z.kc 0 (me_var (i := 0))) (me_var (i := 3))) (me_bin Z.mF .mul (Z.ow pa hr) (me_bin Z.mF .mul (Z.ow pa hr) (me_var (i := 4)) (me_var (i := 2))) (me_fldX Z.mF Z.kc 1 (me_var (i := 0))))) (ma_cons Z.mF (me_bin Z.mF .mul (Z.ow pa hr) (me_fldX Z.mF Z.kc 1 (me_var (i := 0))) (me_var (i := 3))) ma_nil)))) mss_nil))))
theorem p_19 : BodyOk Y fd_19 := fun P w K mg base d Z cdv A outer s H E hr => by
  have nd := nd_19
  have pa := pa_of (Y := Y) (P := P) (w := w) (K := K) (mg := mg) (base := base) (N := N_19) (qual := fd_19.df.qual) (scope := fd_19.df.scope) (f := fa K fd_19) (cd := cdv) (A := A) (outer := outer) (s := s) (H := H) (E := E)
  exact (mss_cons Z.mF pa.cw (ms_asg Z.mF pa.cw (z_call Z pa hr 8 15 df_8_1 (ma_cons Z.mF (me_var (i := 1)) ma_nil)) (mg_tup rfl (mgs_cons Z.mF pa.cw (mg_name (i := 2) nd) (mgs_cons Z.mF pa.cw (mg_name (i := 3) nd) mgs_nil)))) (mss_cons Z.mF pa.cw (ms_if Z.mF pa.cw (mt_cmp Z.mF .eq (Z.ow pa hr) hr.units (me_fldX Z.mF Z.kc 0 (me_var (i := 0))) me_int) (mss_cons Z.mF pa.cw (z_rais Z pa hr 1 3 0 12 (ma_cons Z.mF (me_var (i := 0)) ma_nil)) mss_nil) mss_nil) (mss_cons Z.mF pa.cw (ms_set (i := 4) Z.mF pa.cw nd (me_bin Z.mF .fdiv (Z.ow pa hr) (me_bin Z.mF .mul (Z.ow pa hr) (me_var (i := 2)) (me_fldX Z.mF Z.kc 1 (me_var (i := 0)))) (me_bin Z.mF .mul (Z.ow pa hr) (me_var (i := 3)) (me_fldX Z.mF Z.kc 0 (me_var (i := 0)))))) (mss_cons Z.mF pa.cw (ms_ret (z_make Z pa hr 0 9 1 0 df_9_3 (ma_cons Z.mF (me_bin Z.mF .sub (Z.ow pa hr) (me_bin Z.mF .mul (Z.ow pa hr) (me_var (i := 2)) (me_fldX Z.mF Z.kc 1 (me_var (i := 0)))) (me_bin Z.mF .mul (Z.ow pa hr) (me_bin Z.mF .mul (Z.ow pa hr) (me_var (i := 4)) (me_fldX Z.mF Z.kc 0 (me_var (i := 0)))) (me_var (i := 3)))) (ma_cons Z.mF (me_bin Z.mF .mul (Z.ow pa hr) (me_fldX Z.mF Z.kc 1 (me_var (i := 0))) (me_var (i := 3))) ma_nil)))) mss_nil))))
theorem p_20 : BodyOk Y fd_20 := fun P w K mg base d Z cdv A outer s H E hr => by
  have nd := nd_20
  have pa := pa_of (Y := Y) (P := P) (w := w) (K := K) (mg := mg) (base := base) (N := N_20) (qual := fd_20.df.qual) (scope := fd_20.df.scope) (f := fa K fd_20) (cd := cdv) (A := A) (outer := outer) (s := s) (H := H) (E := E)
  exact (mss_cons Z.mF pa.cw (ms_if Z.mF pa.cw (mt_val Z.mF (me_isi Z.mF Z.ki (Z.b 4) (me_var (i := 1)) (z_cls (c := 0) Z 1) (.own _) (Z.says.isOwn (a := 0) (by decide)))) (mss_cons Z.mF pa.cw (ms_ret (me_and Z.mF (me_cmp Z.mF .eq (Z.ow pa hr) hr.units (me_fldX Z.mF Z.kc 0 (me_var (i := 0))) (me_fldX Z.mF Z.kc 0 (me_var (i := 1)))) (me_one (me_cmp Z.mF .eq (Z.ow pa hr) hr.units (me_fldX Z.mF Z.kc 1 (me_var (i := 0))) (me_fldX Z.mF Z.kc 1 (me_var (i := 1))))))) mss_nil) mss_nil) (mss_cons Z.mF pa.cw (ms_ret (me_and Z.mF (z_call Z pa hr 6 13 df_6_1 (ma_cons Z.mF (me_var (i := 1)) ma_nil)) (me_and Z.mF (me_cmp Z.mF .eq (Z.ow pa hr) hr.units (me_fldX Z.mF Z.kc 1 (me_var (i := 0))) me_int) (me_one (me_cmp Z.mF .eq (Z.ow pa hr) hr.units (me_fldX Z.mF Z.kc 0 (me_var (i := 0))) (me_var (i := 1))))))) mss_nil))
theorem p_21 : BodyOk Y fd_21 := fun P w K mg base d Z cdv A outer s H E hr => by
  have nd := nd_21
  have pa := pa_of (Y := Y) (P := P) (w := w) (K := K) (mg := mg) (base := base) (N := N_21) (qual := fd_21.df.qual) (scope := fd_21.df.scope) (f := fa K fd_21) (cd := cdv) (A := A) (outer := outer) (s := s) (H := H) (E := E)
  exact (mss_cons Z.mF pa.cw (ms_asg Z.mF pa.cw (z_call Z pa hr 8 15 df_8_1 (ma_cons Z.mF (me_var (i := 1)) ma_nil)) (mg_tup rfl (mgs_cons Z.mF pa.cw (mg_name (i := 2) nd) (mgs_cons Z.mF pa.cw (mg_name (i := 3) nd) mgs_nil)))) (mss_cons Z.mF pa.cw (ms_ret (me_cmp Z.mF .lt (Z.ow pa hr) hr.units (me_bin Z.mF .mul (Z.ow pa hr) (me_fldX Z.mF Z.kc 0 (me_var (i := 0))) (me_var (i := 3))) (me_bin Z.mF .mul (Z.ow pa hr) (me_var (i := 2)) (me_fldX Z.mF Z.kc 1 (me_var (i := 0)))))) mss_nil))
theorem p_22 : BodyOk Y fd_22 := fun P w K mg base d Z cdv A outer s H E hr => by
  have nd := nd_22
  have pa := pa_of (Y := Y) (P := P) (w := w) (K := K) (mg := mg) (base := base) (N := N_22) (qual := fd_22.df.qual) (scope := fd_22.df.scope) (f := fa K fd_22) (cd := cdv) (A := A) (outer := outer) (s := s) (H := H) (E := E)
  exact (mss_cons Z.mF pa.cw (ms_asg Z.mF pa.cw (z_call Z pa hr 8 15 df_8_1 (ma_cons Z.mF (me_var (i := 1)) ma_nil)) (mg_tup rfl (mgs_cons Z.mF pa.cw (mg_name (i := 2) nd) (mgs_cons Z.mF pa.cw (mg_name (i := 3) nd) mgs_nil)))) (mss_cons Z.mF pa.cw (ms_ret (me_cmp Z.mF .le (Z.ow pa hr) hr.units (me_bin Z.mF .mul (Z.ow pa hr) (me_fldX Z.mF Z.kc 0 (me_var (i := 0))) (me_var (i := 3))) (me_bin Z.mF .mul (Z.ow pa hr) (me_var (i := 2)) (me_fldX Z.mF Z.kc 1 (me_var (i := 0)))))) mss_nil))
theorem p_23 : BodyOk Y fd_23 := fun P w K mg base d Z cdv A outer s H E hr => by
  have nd := nd_23
  have pa := pa_of (Y := Y) (P := P) (w := w) (K := K) (mg := mg) (base := base) (N := N_23) (qual := fd_23.df.qual) (scope := fd_23.df.scope) (f := fa K fd_23) (cd := cdv) (A := A) (outer := outer) (s := s) (H := H) (E := E)
  exact (mss_cons Z.mF pa.cw (ms_asg Z.mF pa.cw (z_call Z pa hr 8 15 df_8_1 (ma_cons Z.mF (me_var (i := 1)) ma_nil)) (mg_tup rfl (mgs_cons Z.mF pa.cw (mg_name (i := 2) nd) (mgs_cons Z.mF pa.cw (mg_name (i := 3) nd) mgs_nil)))) (mss_cons Z.mF pa.cw (ms_ret (me_cmp Z.mF .gt (Z.ow pa hr) hr.units (me_bin Z.mF .mul (Z.ow pa hr) (me_fldX Z.mF Z.kc 0 (me_var (i := 0))) (me_var (i := 3))) (me_bin Z.mF .mul (Z.ow pa hr) (me_var (i := 2)) (me_fldX Z.mF Z.kc 1 (me_var (i := 0)))))) mss_nil))
theorem p_24 : BodyOk Y fd_24 := fun P w K mg base d Z cdv A outer s H E hr => by
  have nd := nd_24
  have pa := pa_of (Y := Y) (P := P) (w := w) (K := K) (mg := mg) (base := base) (N := N_24) (qual := fd_24.df.qual) (scope := fd_24.df.scope) (f := fa K fd_24) (cd := cdv) (A := A) (outer := outer) (s := s) (H := H) (E := E)
  exact (mss_cons Z.mF pa.cw (ms_asg Z.mF pa.cw (z_call Z pa hr 8 15 df_8_1 (ma_cons Z.mF (me_var (i := 1)) ma_nil)) (mg_tup rfl (mgs_cons Z.mF pa.cw (mg_name (i := 2) nd) (mgs_cons Z.mF pa.cw (mg_name (i := 3) nd) mgs_nil)))) (mss_cons Z.mF pa.cw (ms_ret (me_cmp Z.mF .ge (Z.ow pa hr) hr.units (me_bin Z.mF .mul (Z.ow pa hr) (me_fldX Z.mF Z.kc 0 (me_var (i := 0))) (me_var (i := 3))) (me_bin Z.mF .mul (Z.ow pa hr) (me_var (i := 2)) (me_fldX Z.mF Z.kc 1 (me_var (i := 0)))))) mss_nil))
theorem p_25 : BodyOk Y fd_25 := fun P w K mg base d Z cdv A outer s H E hr => by
  have nd := nd_25
  have pa := pa_of (Y := Y) (P := P) (w := w) (K := K) (mg := mg) (base := base) (N := N_25) (qual := fd_25.df.qual) (scope := fd_25.df.scope) (f := fa K fd_25) (cd := cdv) (A := A) (outer := outer) (s := s) (H := H) (E := E)
  exact (mss_cons Z.mF pa.cw (ms_ret (z_make Z pa hr 0 9 1 0 df_9_3 (ma_cons Z.mF (me_neg Z.mF (Z.ow pa hr) (me_fldX Z.mF Z.kc 0 (me_var (i := 0)))) (ma_cons Z.mF (me_fldX Z.mF Z.kc 1 (me_var (i := 0))) ma_nil)))) mss_nil)
theorem p_26 : BodyOk Y fd_26 := fun P w K mg base d Z cdv A outer s H E hr => by
  have nd := nd_26
  have pa := pa_of (Y := Y) (P := P) (w := w) (K := K) (mg := mg) (base := base) (N := N_26) (qual := fd_26.df.qual) (scope := fd_26.df.scope) (f := fa K fd_26) (cd := cdv) (A := A) (outer := outer) (s := s) (H := H) (E := E)
  exact (mss_cons Z.mF pa.cw (ms_ret (z_make Z pa hr 0 9 1 0 df_9_3 (ma_cons Z.mF (me_bif Z.mF pa.cw (cb_abs (Z.ow pa hr)) (Z.b 11) boot_abs (ma_cons Z.mF (me_fldX Z.mF Z.kc 0 (me_var (i := 0))) ma_nil)) (ma_cons Z.mF (me_fldX Z.mF Z.kc 1 (me_var (i := 0))) ma_nil)))) mss_nil)
theorem p_27 : BodyOk Y fd_27 := fun P w K mg base d Z cdv A outer s H E hr => by
  have nd := nd_27
  have pa := pa_of (Y := Y) (P := P) (w := w) (K := K) (mg := mg) (base := base) (N := N_27) (qual := fd_27.df.qual) (scope := fd_27.df.scope) (f := fa K fd_27) (cd := cdv) (A := A) (outer := outer) (s := s) (H := H) (E := E)
  exact (mss_cons Z.mF pa.cw (ms_set (i := 1) Z.mF pa.cw nd (me_split Z.mF (me_var (i := 0)) me_str)) (mss_cons Z.mF pa.cw (ms_set (i := 2) Z.mF pa.cw nd (me_ite Z.mF (mt_cmp Z.mF .eq (Z.ow pa hr) hr.units (me_sl Z.mF (me_idx Z.mF (me_var (i := 1)) me_int) mo_no (mo_so Z.mF me_int)) me_str) (me_sl Z.mF (me_idx Z.mF (me_var (i := 1)) me_int) (mo_so Z.mF me_int) mo_no) (me_idx Z.mF (me_var (i := 1)) me_int))) (mss_cons Z.mF pa.cw (ms_if Z.mF pa.cw (L2.PW.pt (mw_or Z.mF (mt_cmp Z.mF .gt (Z.ow pa hr) hr.units (me_bif Z.mF pa.cw cb_len (Z.b 3) boot_len (ma_cons Z.mF (me_var (i := 1)) ma_nil)) me_int) (mw_or1 (mt_not Z.mF (mt_val Z.mF (me_bif Z.mF pa.cw (cb_all rfl) (Z.b 9) boot_all (ma_cons Z.mF (me_lc (own := [("_law_x", 3)]) Z.mF pa.cw rfl nd (mi_of Z.mF (me_bin Z.mF .add (Z.ow pa hr) (me_lst Z.mF (ma_cons Z.mF (me_var (i := 2)) ma_nil)) (me_sl Z.mF (me_var (i := 1)) (mo_so Z.mF me_int) mo_no))) (by rfl) (fun _ _ _ _ _ => (mg_name (i := 3) nd)) (fun _ _ _ _ _ => mts_nil) (fun _ _ _ _ _ => (z_call Z Pa.none hr 34 17 df_34_1 (ma_cons Z.mF (me_var (i := 3)) ma_nil)))) ma_nil))))))) (mss_cons Z.mF pa.cw (ms_ret me_bl) mss_nil) mss_nil) (mss_cons Z.mF pa.cw (ms_if Z.mF pa.cw (L2.PW.pt (mw_or Z.mF (L2.PW.pt (mw_and Z.mF (mt_cmp Z.mF .eq (Z.ow pa hr) hr.units (me_sl Z.mF (me_var (i := 0)) mo_no (mo_so Z.mF me_int)) me_str) (mw_and1 (mt_cmp Z.mF .eq (Z.ow pa hr) hr.units (me_var (i := 2)) me_str)))) (mw_or1 (L2.PW.pt (mw_and Z.mF (mt_cmp Z.mF .eq (Z.ow pa hr) hr.units (me_bif Z.mF pa.cw cb_len (Z.b 3) boot_len (ma_cons Z.mF (me_var (i := 1)) ma_nil)) me_int) (mw_and1 (mt_cmp Z.mF .isin (Z.ow pa hr) hr.units (me_idx Z.mF (me_var (i := 1)) me_int) (me_tup Z.mF (ma_cons Z.mF me_str (ma_cons Z.mF me_str ma_nil)))))))))) (mss_cons Z.mF pa.cw (ms_ret me_bl) mss_nil) mss_nil) (mss_cons Z.mF pa.cw (ms_ret (me_or Z.mF (me_cmp Z.mF .eq (Z.ow pa hr) hr.units (me_bif Z.mF pa.cw cb_len (Z.b 3) boot_len (ma_cons Z.mF (me_var (i := 1)) ma_nil)) me_int) (me_one (me_cmp Z.mF .eq (Z.ow pa hr) hr.units (z_call Z pa hr 33 16 df_33_2 (ma_cons Z.mF (me_bifT Z.mF pa.cw cb_int (Z.b 1) bt_int (ma_cons Z.mF (me_var (i := 2)) ma_nil)) (ma_cons Z.mF (me_bifT Z.mF pa.cw cb_int (Z.b 1) bt_int (ma_cons Z.mF (me_idx Z.mF (me_var (i := 1)) me_int) ma_nil)) ma_nil))) (me_tup Z.mF (ma_cons Z.mF (me_bifT Z.mF pa.cw cb_int (Z.b 1) bt_int (ma_cons Z.mF (me_var (i := 2)) ma_nil)) (ma_cons Z.mF (me_bifT Z.mF pa.cw cb_int (Z.b 1) bt_int (ma_cons Z.mF (me_idx Z.mF (me_var (i := 1)) me_int) ma_nil)) ma_nil))))))) mss_nil)))))
theorem p_28 : BodyOk Y fd_28 := fun P w K mg base d Z cdv A outer s H E hr => by
  have nd := nd_28
  have pa := pa_of (Y := Y) (P := P) (w := w) (K := K) (mg := mg) (base := base) (N := N_28) (qual := fd_28.df.qual) (scope := fd_28.df.scope) (f := fa K fd_28) (cd := cdv) (A := A) (outer := outer) (s := s) (H := H) (E := E)
  exact (mss_cons Z.mF pa.cw (ms_set (i := 1) Z.mF pa.cw nd (me_tup Z.mF (ma_cons Z.mF me_str ma_nil))) (mss_cons Z.mF pa.cw (z_try Z pa nd 2 3 1 18 (fun _ _ _ pt => (ms_set (i := 2) Z.mF pt.cw nd (z_stat Z pt hr 0 35 1 4 0 df_35_1 (ma_cons Z.mF (me_var (i := 0)) ma_nil)))) (fun _ _ => (mss_cons Z.mF CW.no (ms_set (i := 1) Z.mF CW.no nd (me_tup Z.mF (ma_cons Z.mF me_str (ma_cons Z.mF (me_fldX Z.mF Z.kc 0 (me_var (i := 2))) (ma_cons Z.mF (me_fldX Z.mF Z.kc 1 (me_var (i := 2))) (ma_cons Z.mF (me_methX0 Z.mF Pa.none 2 Z.mo2 (hr.mono (Nat.le_succ _)) (me_var (i := 2))) ma_nil)))))) mss_nil)) (XT.str (XT.fld (Z.says.xf (a := 2) (f := 5) (List.mem_of_getElem? (i := 1) rfl)) XT.nil))) (mss_cons Z.mF pa.cw (ms_ret (me_var (i := 1))) mss_nil)))
theorem p_29 : BodyOk Y fd_29 := fun P w K mg base d Z cdv A outer s H E hr => by
  have nd := nd_29
  have pa := pa_of (Y := Y) (P := P) (w := w) (K := K) (mg := mg) (base := base) (N := N_29) (qual := fd_29.df.qual) (scope := fd_29.df.scope) (f := fa K fd_29) (cd := cdv) (A := A) (outer := outer) (s := s) (H := H) (E := E)
  exact (mss_cons Z.mF pa.cw (ms_par (i := 2) (j := 3) Z.mF pa.cw rfl nd (ma_cons Z.mF (z_call Z pa hr 1 11 df_1_2 (ma_cons Z.mF (me_var (i := 0)) (ma_cons Z.mF (me_bin Z.mF .add (Z.ow pa hr) (me_bif Z.mF pa.cw cb_len (Z.b 3) boot_len (ma_cons Z.mF (me_var (i := 1)) ma_nil)) me_int) ma_nil))) (ma_cons Z.mF (z_call Z pa hr 4 4 df_4_2 (ma_cons Z.mF (me_var (i := 0)) (ma_cons Z.mF (me_bifT Z.mF pa.cw (cb_list rfl) (Z.b 6) bt_list (ma_cons Z.mF me_str ma_nil)) ma_nil))) ma_nil))) (mss_cons Z.mF pa.cw (ms_set (i := 4) Z.mF pa.cw nd (z_call Z pa hr 1 11 df_1_2 (ma_cons Z.mF (me_var (i := 0)) (ma_cons Z.mF me_int ma_nil)))) (mss_cons Z.mF pa.cw (ms_ret (me_bin Z.mF .add (Z.ow pa hr) (me_bin Z.mF .add (Z.ow pa hr) (me_sl Z.mF (me_var (i := 1)) mo_no (mo_so Z.mF (me_var (i := 2)))) (me_ite Z.mF (mt_cmp Z.mF .lt (Z.ow pa hr) hr.units (me_var (i := 4)) me_int) (me_var (i := 3)) me_str)) (me_sl Z.mF (me_var (i := 1)) (mo_so Z.mF (me_bin Z.mF .add (Z.ow pa hr) (me_var (i := 2)) (me_ite Z.mF (mt_cmp Z.mF .eq (Z.ow pa hr) hr.units (me_var (i := 4)) me_int) me_int me_int))) mo_no))) mss_nil)))
theorem p_30 : BodyOk Y fd_30 := fun P w K mg base d Z cdv A outer s H E hr => by
  have nd := nd_30
  have pa := pa_of (Y := Y) (P := P) (w := w) (K := K) (mg := mg) (base := base) (N := N_30) (qual := fd_30.df.qual) (scope := fd_30.df.scope) (f := fa K fd_30) (cd := cdv) (A := A) (outer := outer) (s := s) (H := H) (E := E)
  exact (mss_cons Z.mF pa.cw (ms_ret (me_ite Z.mF (mt_cmp Z.mF .eq (Z.ow pa hr) hr.units (me_fldX Z.mF Z.kc 1 (me_var (i := 0))) me_int) (me_bifT Z.mF pa.cw cb_str (Z.b 12) bt_str (ma_cons Z.mF (me_fldX Z.mF Z.kc 0 (me_var (i := 0))) ma_nil)) (me_js Z.mF (.cons (me_fmt Z.mF (me_fldX Z.mF Z.kc 0 (me_var (i := 0)))) (.cons me_str (.cons (me_fmt Z.mF (me_fldX Z.mF Z.kc 1 (me_var (i := 0)))) .nil)))))) mss_nil)
theorem p_31 : BodyOk Y fd_31 := fun P w K mg base d Z cdv A outer s H E hr => by
  have nd := nd_31
  have pa := pa_of (Y := Y) (P := P) (w := w) (K := K) (mg := mg) (base := base) (N := N_31) (qual := fd_31.df.qual) (scope := fd_31.df.scope) (f := fa K fd_31) (cd := cdv) (A := A) (outer := outer) (s := s) (H := H) (E := E)
  exact (mss_cons Z.mF pa.cw (ms_ret (me_ite Z.mF (mt_cmp Z.mF .eq (Z.ow pa hr) hr.units (me_idx Z.mF (me_var (i := 0)) me_int) me_int) (me_bifT Z.mF pa.cw cb_str (Z.b 12) bt_str (ma_cons Z.mF (me_idx Z.mF (me_var (i := 0)) me_int) ma_nil)) (me_bin Z.mF .add (Z.ow pa hr) (me_bin Z.mF .add (Z.ow pa hr) (me_bifT Z.mF pa.cw cb_str (Z.b 12) bt_str (ma_cons Z.mF (me_idx Z.mF (me_var (i := 0)) me_int) ma_nil)) me_str) (me_bifT Z.mF pa.cw cb_str (Z.b 12) bt_str (ma_cons Z.mF (me_idx Z.mF (me_var (i := 0)) me_int) ma_nil))))) mss_nil)
theorem p_32 : BodyOk Y fd_32 := fun P w K mg base d Z cdv A outer s H E hr => by
  have nd := nd_32
  have pa := pa_of (Y := Y) (P := P) (w := w) (K := K) (mg := mg) (base := base) (N := N_32) (qual := fd_32.df.qual) (scope := fd_32.df.scope) (f := fa K fd_32) (cd := cdv) (A := A) (outer := outer) (s := s) (H := H) (E := E)
  exact (mss_cons Z.mF pa.cw (ms_ret (z_call Z pa hr 33 16 df_33_2 (ma_cons Z.mF (z_call Z pa hr 36 19 df_36_1 (ma_cons Z.mF (me_var (i := 0)) ma_nil)) (ma_cons Z.mF (z_call Z pa hr 4 4 df_4_2 (ma_cons Z.mF (me_var (i := 0)) (ma_cons Z.mF (me_lst Z.mF (ma_cons Z.mF me_int (ma_cons Z.mF me_int (ma_cons Z.mF me_int (ma_cons Z.mF me_int (ma_cons Z.mF (me_bin Z.mF .add (Z.ow pa hr) me_int (z_call Z pa hr 1 11 df_1_2 (ma_cons Z.mF (me_var (i := 0)) (ma_cons Z.mF me_int ma_nil)))) (ma_cons Z.mF (me_bin Z.mF .add (Z.ow pa hr) (me_bin Z.mF .pow (Z.ow pa hr) me_int me_int) me_int) ma_nil))))))) ma_nil))) ma_nil)))) mss_nil)
theorem p_33 : BodyOk Y fd_33 := fun P w K mg base d Z cdv A outer s H E hr => by
  have nd := nd_33
  have pa := pa_of (Y := Y) (P := P) (w := w) (K := K) (mg := mg) (base := base) (N := N_33) (qual := fd_33.df.qual) (scope := fd_33.df.scope) (f := fa K fd_33) (cd := cdv) (A := A) (outer := outer) (s := s) (H := H) (E := E)
  exact (mss_cons Z.mF pa.cw (ms_par (i := 2) (j := 3) Z.mF pa.cw rfl nd (ma_cons Z.mF (me_bif Z.mF pa.cw (cb_abs (Z.ow pa hr)) (Z.b 11) boot_abs (ma_cons Z.mF (me_var (i := 0)) ma_nil)) (ma_cons Z.mF (me_bif Z.mF pa.cw (cb_abs (Z.ow pa hr)) (Z.b 11) boot_abs (ma_cons Z.mF (me_var (i := 1)) ma_nil)) ma_nil))) (mss_cons Z.mF pa.cw (ms_while Z.mF pa.cw (L2.passes_of rfl) (mt_cmp Z.mF .gt (Z.ow pa hr) hr.units (me_var (i := 3)) me_int) (mss_cons Z.mF pa.cw (ms_par (i := 2) (j := 3) Z.mF pa.cw rfl nd (ma_cons Z.mF (me_var (i := 3)) (ma_cons Z.mF (me_bin Z.mF .mod (Z.ow pa hr) (me_var (i := 2)) (me_var (i := 3))) ma_nil))) mss_nil)) (mss_cons Z.mF pa.cw (ms_ret (me_ite Z.mF (mt_cmp Z.mF .gt (Z.ow pa hr) hr.units (me_var (i := 1)) me_int) (me_tup Z.mF (ma_cons Z.mF (me_bin Z.mF .fdiv (Z.ow pa hr) (me_var (i := 0)) (me_var (i := 2))) (ma_cons Z.mF (me_bin Z.mF .fdiv (Z.ow pa hr) (me_var (i := 1)) (me_var (i := 2))) ma_nil))) (me_tup Z.mF (ma_cons Z.mF (me_bin Z.mF .fdiv (Z.ow pa hr) (me_neg Z.mF (Z.ow pa hr) (me_var (i := 0))) (me_var (i := 2))) (ma_cons Z.mF (me_bin Z.mF .fdiv (Z.ow pa hr) (me_neg Z.mF (Z.ow pa hr) (me_var (i := 1))) (me_var (i := 2))) ma_nil))))) mss_nil)))
theorem p_34 : BodyOk Y fd_34 := fun P w K mg base d Z cdv A outer s H E hr => by
  have nd := nd_34
  have pa := pa_of (Y := Y) (P := P) (w := w) (K := K) (mg := mg) (base := base) (N := N_34) (qual := fd_34.df.qual) (scope := fd_34.df.scope) (f := fa K fd_34) (cd := cdv) (A := A) (outer := outer) (s := s) (H := H) (E := E)
  exact (mss_cons Z.mF pa.cw (ms_ret (me_or Z.mF (me_cmp Z.mF .eq (Z.ow pa hr) hr.units (me_var (i := 0)) me_str) (me_one (me_and Z.mF (me_cmp Z.mF .ne (Z.ow pa hr) hr.units (me_var (i := 0)) me_str) (me_and Z.mF (me_cmp Z.mF .ne (Z.ow pa hr) hr.units (me_idx Z.mF (me_var (i := 0)) me_int) me_str) (me_one (me_bif Z.mF pa.cw (cb_all rfl) (Z.b 9) boot_all (ma_cons Z.mF (me_lc (own := [("_law_sign", 1)]) Z.mF pa.cw rfl nd (mi_chr Z.mF (me_var (i := 0))) (by rfl) (fun _ _ _ _ _ => (mg_name (i := 1) nd)) (fun _ _ _ _ _ => mts_nil) (fun _ _ _ _ _ => (me_cmp Z.mF .isin (Z.ow Pa.none hr) hr.units (me_var (i := 1)) me_str))) ma_nil)))))))) mss_nil)
theorem p_35 : BodyOk Y fd_35 := fun P w K mg base d Z cdv A outer s H E hr => by
  have nd := nd_35
  have pa := pa_of (Y := Y) (P := P) (w := w) (K := K) (mg := mg) (base := base) (N := N_35) (qual := fd_35.df.qual) (scope := fd_35.df.scope) (f := fa K fd_35) (cd := cdv) (A := A) (outer := outer) (s := s) (H := H) (E := E)
  exact (mss_cons Z.mF pa.cw (ms_set (i := 1) Z.mF pa.cw nd (me_split Z.mF (me_var (i := 0)) me_str)) (mss_cons Z.mF pa.cw (ms_set (i := 2) Z.mF pa.cw nd (me_cmp Z.mF .eq (Z.ow pa hr) hr.units (me_sl Z.mF (me_idx Z.mF (me_var (i := 1)) me_int) mo_no (mo_so Z.mF me_int)) me_str)) (mss_cons Z.mF pa.cw (ms_set (i := 3) Z.mF pa.cw nd (me_ite Z.mF (mt_val Z.mF (me_var (i := 2))) (me_sl Z.mF (me_idx Z.mF (me_var (i := 1)) me_int) (mo_so Z.mF me_int) mo_no) (me_idx Z.mF (me_var (i := 1)) me_int))) (mss_cons Z.mF pa.cw (ms_if Z.mF pa.cw (L2.PW.pt (mw_or Z.mF (mt_cmp Z.mF .gt (Z.ow pa hr) hr.units (me_bif Z.mF pa.cw cb_len (Z.b 3) boot_len (ma_cons Z.mF (me_var (i := 1)) ma_nil)) me_int) (mw_or1 (mt_not Z.mF (mt_val Z.mF (me_bif Z.mF pa.cw (cb_all rfl) (Z.b 9) boot_all (ma_cons Z.mF (me_lc (own := [("part", 6)]) Z.mF pa.cw rfl nd (mi_of Z.mF (me_bin Z.mF .add (Z.ow pa hr) (me_lst Z.mF (ma_cons Z.mF (me_var (i := 3)) ma_nil)) (me_sl Z.mF (me_var (i := 1)) (mo_so Z.mF me_int) mo_no))) (by rfl) (fun _ _ _ _ _ => (mg_name (i := 6) nd)) (fun _ _ _ _ _ => mts_nil) (fun _ _ _ _ _ => (z_call Z Pa.none hr 38 21 df_38_1 (ma_cons Z.mF (me_var (i := 6)) ma_nil)))) ma_nil))))))) (mss_cons Z.mF pa.cw (z_rais Z pa hr 2 5 1 18 (ma_cons Z.mF me_int ma_nil)) mss_nil) mss_nil) (mss_cons Z.mF pa.cw (ms_par (i := 4) (j := 5) Z.mF pa.cw rfl nd (ma_cons Z.mF (z_call Z pa hr 37 20 df_37_1 (ma_cons Z.mF (me_var (i := 3)) ma_nil)) (ma_cons Z.mF (me_ite Z.mF (mt_cmp Z.mF .eq (Z.ow pa hr) hr.units (me_bif Z.mF pa.cw cb_len (Z.b 3) boot_len (ma_cons Z.mF (me_var (i := 1)) ma_nil)) me_int) (z_call Z pa hr 37 20 df_37_1 (ma_cons Z.mF (me_idx Z.mF (me_var (i := 1)) me_int) ma_nil)) me_int) ma_nil))) (mss_cons Z.mF pa.cw (ms_if Z.mF pa.cw (L2.PW.pt (mw_and Z.mF (mt_val Z.mF (me_var (i := 2))) (mw_and1 (mt_cmp Z.mF .eq (Z.ow pa hr) hr.units (me_var (i := 4)) me_int)))) (mss_cons Z.mF pa.cw (z_rais Z pa hr 2 5 1 18 (ma_cons Z.mF me_int ma_nil)) mss_nil) mss_nil) (mss_cons Z.mF pa.cw (ms_if Z.mF pa.cw (L2.PW.pt (mw_and Z.mF (mt_cmp Z.mF .eq (Z.ow pa hr) hr.units (me_bif Z.mF pa.cw cb_len (Z.b 3) boot_len (ma_cons Z.mF (me_var (i := 1)) ma_nil)) me_int) (mw_and1 (L2.PW.pt (mw_or Z.mF (mt_cmp Z.mF .lt (Z.ow pa hr) hr.units (me_var (i := 5)) me_int) (mw_or1 (mt_cmp Z.mF .ne (Z.ow pa hr) hr.units (z_call Z pa hr 7 14 df_7_2 (ma_cons Z.mF (me_var (i := 4)) (ma_cons Z.mF (me_var (i := 5)) ma_nil))) me_int))))))) (mss_cons Z.mF pa.cw (z_rais Z pa hr 2 5 1 18 (ma_cons Z.mF me_int ma_nil)) mss_nil) mss_nil) (mss_cons Z.mF pa.cw (ms_ret (z_make Z pa hr 0 9 1 0 df_9_3 (ma_cons Z.mF (me_ite Z.mF (mt_val Z.mF (me_var (i := 2))) (me_neg Z.mF (Z.ow pa hr) (me_var (i := 4))) (me_var (i := 4))) (ma_cons Z.mF (me_var (i := 5)) ma_nil)))) mss_nil))))))))
theorem p_36 : BodyOk Y fd_36 := fun P w K mg base d Z cdv A outer s H E hr => by
  have nd := nd_36
  have pa := pa_of (Y := Y) (P := P) (w := w) (K := K) (mg := mg) (base := base) (N := N_36) (qual := fd_36.df.qual) (scope := fd_36.df.scope) (f := fa K fd_36) (cd := cdv) (A := A) (outer := outer) (s := s) (H := H) (E := E)
  exact (mss_cons Z.mF pa.cw (ms_set (i := 1) Z.mF pa.cw nd (me_bin Z.mF .sub (Z.ow pa hr) (z_call Z pa hr 1 11 df_1_2 (ma_cons Z.mF (me_var (i := 0)) (ma_cons Z.mF (me_bin Z.mF .pow (Z.ow pa hr) me_int me_int) ma_nil))) (me_bin Z.mF .mul (Z.ow pa hr) me_int (me_bin Z.mF .pow (Z.ow pa hr) me_int me_int)))) (mss_cons Z.mF pa.cw (ms_ret (z_call Z pa hr 4 4 df_4_2 (ma_cons Z.mF (me_var (i := 0)) (ma_cons Z.mF (me_lst Z.mF (ma_cons Z.mF me_int (ma_cons Z.mF me_int (ma_cons Z.mF (me_neg Z.mF (Z.ow pa hr) me_int) (ma_cons Z.mF me_int (ma_cons Z.mF (me_bin Z.mF .sub (Z.ow pa hr) (z_call Z pa hr 1 11 df_1_2 (ma_cons Z.mF (me_var (i := 0)) (ma_cons Z.mF me_int ma_nil))) me_int) (ma_cons Z.mF (me_var (i := 1)) (ma_cons Z.mF (me_bin Z.mF .add (Z.ow pa hr) (me_bin Z.mF .pow (Z.ow pa hr) me_int me_int) me_int) ma_nil)))))))) ma_nil)))) mss_nil))
theorem p_37 : BodyOk Y fd_37 := fun P w K mg base d Z cdv A outer s H E hr => by
  have nd := nd_37
  have pa := pa_of (Y := Y) (P := P) (w := w) (K := K) (mg := mg) (base := base) (N := N_37) (qual := fd_37.df.qual) (scope := fd_37.df.scope) (f := fa K fd_37) (cd := cdv) (A := A) (outer := outer) (s := s) (H := H) (E := E)
  exact (mss_cons Z.mF pa.cw (ms_set (i := 1) Z.mF pa.cw nd me_int) (mss_cons Z.mF pa.cw (ms_for Z.mF pa.cw (L2.passes_of rfl) rfl (mi_chr Z.mF (me_var (i := 0))) (mg_name (i := 2) nd) (mss_cons Z.mF pa.cw (ms_set (i := 1) Z.mF pa.cw nd (me_bin Z.mF .add (Z.ow pa hr) (me_bin Z.mF .mul (Z.ow pa hr) me_int (me_var (i := 1))) (me_sindex Z.mF me_str (me_var (i := 2))))) mss_nil)) (mss_cons Z.mF pa.cw (ms_ret (me_var (i := 1))) mss_nil)))
theorem p_38 : BodyOk Y fd_38 := fun P w K mg base d Z cdv A outer s H E hr => by
  have nd := nd_38
  have pa := pa_of (Y := Y) (P := P) (w := w) (K := K) (mg := mg) (base := base) (N := N_38) (qual := fd_38.df.qual) (scope := fd_38.df.scope) (f := fa K fd_38) (cd := cdv) (A := A) (outer := outer) (s := s) (H := H) (E := E)
  exact (mss_cons Z.mF pa.cw (ms_if Z.mF pa.cw (L2.PW.pt (mw_or Z.mF (mt_cmp Z.mF .eq (Z.ow pa hr) hr.units (me_var (i := 0)) me_str) (mw_or1 (mt_not Z.mF (mt_val Z.mF (me_bif Z.mF pa.cw (cb_all rfl) (Z.b 9) boot_all (ma_cons Z.mF (me_lc (own := [("sign", 1)]) Z.mF pa.cw rfl nd (mi_chr Z.mF (me_var (i := 0))) (by rfl) (fun _ _ _ _ _ => (mg_name (i := 1) nd)) (fun _ _ _ _ _ => mts_nil) (fun _ _ _ _ _ => (me_cmp Z.mF .isin (Z.ow Pa.none hr) hr.units (me_var (i := 1)) me_str))) ma_nil))))))) (mss_cons Z.mF pa.cw (ms_ret me_bl) mss_nil) mss_nil) (mss_cons Z.mF pa.cw (ms_ret (me_or Z.mF (me_cmp Z.mF .eq (Z.ow pa hr) hr.units (me_var (i := 0)) me_str) (me_one (me_cmp Z.mF .ne (Z.ow pa hr) hr.units (me_idx Z.mF (me_var (i := 0)) me_int) me_str)))) mss_nil))
theorem bodies : ∀ f ∈ Y.D.fs, BodyOk Y f := (all_cons p_0 (all_cons p_1 (all_cons p_2 (all_cons p_3 (all_cons p_4 (all_cons p_5 (all_cons p_6 (all_cons p_7 (all_cons p_8 (all_cons p_9 (all_cons p_10 (all_cons p_11 (all_cons p_12 (all_cons p_13 (all_cons p_14 (all_cons p_15 (all_cons p_16 (all_cons p_17 (all_cons p_18 (all_cons p_19 (all_cons p_20 (all_cons p_21 (all_cons p_22 (all_cons p_23 (all_cons p_24 (all_cons p_25 (all_cons p_26 (all_cons p_27 (all_cons p_28 (all_cons p_29 (all_cons p_30 (all_cons p_31 (all_cons p_32 (all_cons p_33 (all_cons p_34 (all_cons p_35 (all_cons p_36 (all_cons p_37 (all_cons p_38 all_nil)))))))))))))))))))))))))))))))))))))))
theorem scopes : ∀ f ∈ Y.D.fs, FnScope f.N f.ps f.df.scope := (all_cons sc_0 (all_cons sc_1 (all_cons sc_2 (all_cons sc_3 (all_cons sc_4 (all_cons sc_5 (all_cons sc_6 (all_cons sc_7 (all_cons sc_8 (all_cons sc_9 (all_cons sc_10 (all_cons sc_11 (all_cons sc_12 (all_cons sc_13 (all_cons sc_14 (all_cons sc_15 (all_cons sc_16 (all_cons sc_17 (all_cons sc_18 (all_cons sc_19 (all_cons sc_20 (all_cons sc_21 (all_cons sc_22 (all_cons sc_23 (all_cons sc_24 (all_cons sc_25 (all_cons sc_26 (all_cons sc_27 (all_cons sc_28 (all_cons sc_29 (all_cons sc_30 (all_cons sc_31 (all_cons sc_32 (all_cons sc_33 (all_cons sc_34 (all_cons sc_35 (all_cons sc_36 (all_cons sc_37 (all_cons sc_38 all_nil)))))))))))))))))))))))))))))))))))))))
end Lw
set_option maxHeartbeats 2000000
/-! the plain law of k05: texts of fractions -/
namespace Tk
open PySem Mi NumText
abbrev S (l : List Nat) : Str := SX.S l
def dig (c : Nat) : Bool := decide (48 ≤ c) && decide (c ≤ 57)
/-- the figures of an integer from 0 on -/
def fig (cs : List Nat) : Bool := decide (cs ≠ []) && cs.all dig && (decide (cs = [48]) || decide (cs.head? ≠ some 48))
abbrev val (cs : List Nat) : Nat := digitsVal cs
abbrev numL (n : Nat) : List Nat := TL.numL n
theorem dig_all {cs : List Nat} : cs.all dig = true ↔ AllDigits cs := by
  rw [List.all_eq_true]
  unfold AllDigits
  refine forall_congr' fun c => forall_congr' fun _ => ?_
  simp [dig]
theorem val_num (n : Nat) : val (numL n) = n := TL.numL_val n
theorem num_head (n : Nat) : n ≠ 0 → (numL n).head? ≠ some 48 := by
  induction n using Nat.strongRecOn with
  | _ n ih =>
    intro h0
    by_cases h : n < 10
    · rw [show numL n = _ from TL.numL_lt h]
      simp
      omega
    · rw [show numL n = _ from TL.numL_step (by omega)]
      have := ih (n / 10) (by omega) (by omega)
      have ne := TL.numL_ne (n / 10)
      cases q : TL.numL (n / 10) with
      | nil => exact absurd q ne
      | cons c r =>
        have q' : numL (n / 10) = c :: r := q
        rw [q'] at this
        exact this
theorem fig_num (n : Nat) : fig (numL n) = true := by
  unfold fig
  have h1 : numL n ≠ [] := TL.numL_ne n
  have h2 : (numL n).all dig = true := dig_all.mpr (TL.numL_digits n)
  rw [decide_eq_true h1, h2]
  by_cases z : n = 0
  · subst z
    have : numL 0 = [48] := TL.numL_lt (by decide)
    rw [this]
    decide
  · rw [decide_eq_true (num_head n z)]
    simp
theorem map_back : ∀ {cs : List Nat}, AllDigits cs → (cs.map Char.ofNat).map Char.toNat = cs
  | [], _ => rfl
  | c :: cs, h => by
    have hc := h.head
    rw [List.map_cons, List.map_cons, map_back h.tail]
    have : ∀ d : Nat, d < 10 → (Char.ofNat (48 + d)).toNat = 48 + d := by decide
    have e := this (c - 48) (by omega)
    rw [show 48 + (c - 48) = c by omega] at e
    rw [e]
/-- figures are written as the number is -/
theorem num_val {cs : List Nat} (h : fig cs = true) : numL (val cs) = cs := by
  unfold fig at h
  simp only [Bool.and_eq_true, Bool.or_eq_true, decide_eq_true_eq] at h
  obtain ⟨⟨h1, h2⟩, h3⟩ := h
  have ad := dig_all.mp h2
  cases cs with
  | nil => exact absurd rfl h1
  | cons c r =>
    have hc := ad.head
    show (Nat.toDigits 10 (digitsVal (c :: r))).map Char.toNat = _
    rw [toDigits_digitsVal r.length (c :: r) (by simp) ad ?_, map_back ad]
    by_cases z : r = []
    · left; simp [z]
    · right
      refine ⟨c, r, rfl, ?_⟩
      rcases h3 with h3 | h3
      · simp [z] at h3
      · simp at h3
        omega
theorem val_zero {cs : List Nat} (h : fig cs = true) : val cs = 0 ↔ cs = [48] := by
  refine ⟨fun e => ?_, fun e => by rw [e]; rfl⟩
  have := num_val h
  rw [e] at this
  rw [← this]
  exact TL.numL_lt (by decide)
theorem val_one {cs : List Nat} (h : fig cs = true) : val cs = 1 ↔ cs = [49] := by
  refine ⟨fun e => ?_, fun e => by rw [e]; rfl⟩
  have := num_val h
  rw [e] at this
  rw [← this]
  exact TL.numL_lt (by decide)
theorem val_lt : ∀ {cs : List Nat}, cs.all dig = true → val cs < 10 ^ cs.length := by
  have go : ∀ (cs : List Nat) (a : Nat), cs.all dig = true → cs.foldl (fun acc c => acc * 10 + (c - 48)) a < (a + 1) * 10 ^ cs.length := by
    intro cs
    induction cs with
    | nil => intro a _; simp
    | cons c r ih =>
      intro a h
      simp only [List.all_cons, Bool.and_eq_true] at h
      have hc : 48 ≤ c ∧ c ≤ 57 := by simpa [dig] using h.1
      rw [List.foldl_cons]
      refine Nat.lt_of_lt_of_le (ih _ h.2) ?_
      rw [List.length_cons, Nat.pow_succ, ← Nat.mul_assoc, Nat.mul_right_comm]
      exact Nat.mul_le_mul_right _ (by omega)
  intro cs h
  have := go cs 0 h
  rw [Nat.zero_add, Nat.one_mul] at this
  exact this
/-- an integer's text -/
def iL (i : Int) : List Nat := if i < 0 then 45 :: numL i.natAbs else numL i.natAbs
theorem str_int (i : Int) : Str.ofString (toString i) = S (iL i) := by
  unfold iL
  by_cases h : i < 0
  · rw [if_pos h]
    obtain ⟨n, rfl⟩ : ∃ n : Nat, i = -((n + 1 : Nat) : Int) := ⟨(i.natAbs - 1), by omega⟩
    rw [Str.ofString_eq_toList]
    have e : toString (-((n + 1 : Nat) : Int)) = "-" ++ toString ((n + 1 : Nat)) := by
      rw [show -((n + 1 : Nat) : Int) = Int.negSucc n from rfl]
      rfl
    rw [e, String.toList_append, List.map_append]
    have e2 := SX.num_S (n + 1)
    rw [Str.ofString_eq_toList] at e2
    have e3 := SX.S_inj e2
    have e4 : (-((n + 1 : Nat) : Int)).natAbs = n + 1 := by omega
    rw [e4]
    have e5 : List.map Char.toNat (toString ((n + 1 : Nat))).toList = numL (n + 1) := e3
    rw [e5]
    rfl
  · rw [if_neg h]
    obtain ⟨n, rfl⟩ := Int.eq_ofNat_of_zero_le (by omega : 0 ≤ i)
    exact SX.num_S n
/-- a fraction's text -/
def txL (x : Int × Int) : List Nat := if x.2 = 1 then iL x.1 else iL x.1 ++ 47 :: iL x.2
/-- the parts of a text -/
def sp (cs : List Nat) : List (List Nat) := TL.spl [47] 0 [] cs
theorem sp_S (cs : List Nat) : Txt.split (S cs) (S [47]) = (sp cs).map S := SX.split_S (by decide) (by decide)
theorem sp_one {a : List Nat} (h : 47 ∉ a) : sp a = [a] := SX.spl_join (parts := [a]) (by simp) (by simpa using h)
theorem sp_two {a b : List Nat} (h : 47 ∉ a) (g : 47 ∉ b) : sp (a ++ 47 :: b) = [a, b] := SX.spl_join (sep := []) (parts := [a, b]) (by simp) (by simpa using ⟨h, g⟩)
theorem sp_free (cs : List Nat) : ∀ p ∈ sp cs, 47 ∉ p := by
  intro p hp
  have := PySem.StrLaws.split_free (S cs) 47 (S p) (by
    show S p ∈ Txt.split (S cs) (S [47])
    rw [sp_S]
    exact List.mem_map_of_mem hp)
  exact this
theorem sp_join (cs : List Nat) : TL.joinL [47] (sp cs) = cs := by
  have e := PySem.StrLaws.join_split (S cs) (S [47])
  rw [sp_S] at e
  have e2 := SX.join_S [47] (sp cs)
  have e3 : Txt.join (S [47]) ((sp cs).map S) = Str.join (S [47]) ((sp cs).map S) := TL.join_eq _ _
  rw [e3, e] at e2
  exact (SX.S_inj e2).symm
theorem sp_ne (cs : List Nat) : sp cs ≠ [] := fun e => by
  have := PyProof.Rows.split_pos (S cs) (S [47])
  rw [sp_S, e] at this
  simp at this
theorem sp_cases (cs : List Nat) : (47 ∉ cs ∧ sp cs = [cs]) ∨ (∃ a b, 47 ∉ a ∧ 47 ∉ b ∧ cs = a ++ 47 :: b ∧ sp cs = [a, b]) ∨ ∃ a b c r, sp cs = a :: b :: c :: r := by
  have hf := sp_free cs
  have hj := sp_join cs
  have hn := sp_ne cs
  match q : sp cs with
  | [] => exact absurd q hn
  | [a] =>
    rw [q] at hj hf
    have : a = cs := hj
    subst this
    exact .inl ⟨hf a (by simp), rfl⟩
  | [a, b] =>
    rw [q] at hj hf
    exact .inr (.inl ⟨a, b, hf a (by simp), hf b (by simp), hj.symm, rfl⟩)
  | a :: b :: c :: r => exact .inr (.inr ⟨a, b, c, r, rfl⟩)
/-- the sign ahead, and what is behind it -/
def neg (a : List Nat) : Bool := decide (a.take 1 = [45])
def hd (a : List Nat) : List Nat := if neg a = true then a.drop 1 else a
def sg (b : Bool) (n : Nat) : Int := if b = true then -(n : Int) else n
/-- the fraction that a text tells -/
def rd1 (a : List Nat) : Option (Int × Int) := if fig (hd a) = true ∧ ¬ (neg a = true ∧ val (hd a) = 0) then some (sg (neg a) (val (hd a)), 1) else none
def rd2 (a b : List Nat) : Option (Int × Int) := if (fig (hd a) = true ∧ fig b = true) ∧ ¬ (neg a = true ∧ val (hd a) = 0) ∧ ¬ (val b < 2 ∨ Nat.gcd (val (hd a)) (val b) ≠ 1) then some (sg (neg a) (val (hd a)), (val b : Int)) else none
def rd (cs : List Nat) : Option (Int × Int) := match sp cs with
  | [a] => rd1 a
  | [a, b] => rd2 a b
  | _ => none
theorem hd_eq (a : List Nat) : a = (if neg a = true then 45 :: hd a else hd a) := by
  unfold hd
  by_cases h : neg a = true
  · rw [if_pos h, if_pos h]
    unfold neg at h
    have h := of_decide_eq_true h
    cases a with
    | nil => simp at h
    | cons c r => simp at h; simp [h]
  · rw [if_neg h, if_neg h]
theorem neg_iL (i : Int) : neg (iL i) = decide (i < 0) ∧ hd (iL i) = numL i.natAbs := by
  unfold iL
  by_cases h : i < 0
  · rw [if_pos h]
    have : neg (45 :: numL i.natAbs) = true := by simp [neg]
    refine ⟨by rw [this, decide_eq_true h], ?_⟩
    unfold hd
    rw [if_pos this]
    rfl
  · rw [if_neg h]
    have : neg (numL i.natAbs) = false := by
      unfold neg
      refine decide_eq_false fun e => ?_
      have ad := TL.numL_digits i.natAbs 45 (by
        have : (45 : Nat) ∈ (numL i.natAbs).take 1 := by rw [e]; simp
        exact List.mem_of_mem_take this)
      omega
    refine ⟨by rw [this, decide_eq_false h], ?_⟩
    unfold hd
    rw [this]
    rfl
theorem iL_back (a : List Nat) (h : fig (hd a) = true) (h0 : ¬ (neg a = true ∧ val (hd a) = 0)) : iL (sg (neg a) (val (hd a))) = a := by
  have e := hd_eq a
  have nv := num_val h
  unfold iL sg
  by_cases n : neg a = true
  · rw [if_pos n]
    have v0 : val (hd a) ≠ 0 := fun z => h0 ⟨n, z⟩
    rw [if_pos (by omega)]
    have : (-((val (hd a) : Nat) : Int)).natAbs = val (hd a) := by omega
    rw [this, nv]
    rw [if_pos n] at e
    exact e.symm
  · rw [if_neg n, if_neg (by omega)]
    have : (((val (hd a) : Nat) : Int)).natAbs = val (hd a) := by omega
    rw [this, nv]
    rw [if_neg n] at e
    exact e.symm
theorem iL_free (i : Int) : 47 ∉ iL i := by
  unfold iL
  split
  · intro h
    rcases List.mem_cons.mp h with h | h
    · cases h
    · exact TL.numL_free (s := 47) (by decide) h
  · exact TL.numL_free (by decide)
theorem gcd_sg (b : Bool) (n m : Nat) : Int.gcd (sg b n) (m : Int) = Nat.gcd n m := by
  unfold sg Int.gcd
  split <;> simp
/-- what is told is in lowest terms, and its text is the text -/
theorem rd_tx {cs : List Nat} {x : Int × Int} (h : rd cs = some x) : txL x = cs ∧ Lw x := by
  unfold rd at h
  rcases sp_cases cs with ⟨_, e⟩ | ⟨a, b, _, _, ec, e⟩ | ⟨a, b, c, r, e⟩
  · rw [e] at h
    dsimp only at h
    unfold rd1 at h
    split at h
    · rename_i q
      cases h
      refine ⟨?_, ?_⟩
      · unfold txL
        rw [if_pos rfl]
        exact iL_back _ q.1 q.2
      · exact ⟨by rw [show (sg (neg cs) (val (hd cs)), (1 : Int)).2 = ((1 : Nat) : Int) from rfl, gcd_sg]; simp, by show (0 : Int) < 1; decide⟩
    · cases h
  · rw [e] at h
    dsimp only at h
    unfold rd2 at h
    split at h
    · rename_i q
      cases h
      obtain ⟨⟨f1, f2⟩, q1, q2⟩ := q
      have v2 : ¬ val b < 2 := fun z => q2 (.inl z)
      have g1 : Nat.gcd (val (hd a)) (val b) = 1 := by
        by_cases z : Nat.gcd (val (hd a)) (val b) = 1
        · exact z
        · exact absurd (.inr z) q2
      refine ⟨?_, ?_⟩
      · unfold txL
        have ne : ¬ ((val b : Int) = 1) := by omega
        rw [if_neg ne]
        dsimp only
        rw [iL_back _ f1 q1, ec]
        congr 2
        unfold iL
        rw [if_neg (by omega)]
        have : ((val b : Nat) : Int).natAbs = val b := by omega
        rw [this, num_val f2]
      · exact ⟨by rw [gcd_sg]; exact g1, by show (0 : Int) < val b; omega⟩
    · cases h
  · rw [e] at h
    cases h
/-- a fraction's text tells it -/
theorem tx_rd {x : Int × Int} (h : Lw x) : rd (txL x) = some x := by
  obtain ⟨g, p⟩ := h
  obtain ⟨n1, n2⟩ := neg_iL x.1
  have vn : val (numL x.1.natAbs) = x.1.natAbs := val_num _
  have s1 : sg (decide (x.1 < 0)) x.1.natAbs = x.1 := by
    unfold sg
    by_cases z : x.1 < 0
    · rw [if_pos (decide_eq_true z)]; omega
    · rw [if_neg (by simp [z])]; omega
  have q0 : ¬ (neg (iL x.1) = true ∧ val (hd (iL x.1)) = 0) := by
    rw [n1, n2, vn]
    simp
    omega
  unfold rd txL
  by_cases c : x.2 = 1
  · rw [if_pos c, sp_one (iL_free _)]
    dsimp only
    unfold rd1
    rw [if_pos ⟨by rw [n2]; exact fig_num _, q0⟩, n1, n2, vn, s1, ← c]
  · rw [if_neg c, sp_two (iL_free _) (iL_free _)]
    dsimp only
    have e2 : iL x.2 = numL x.2.natAbs := by unfold iL; rw [if_neg (by omega)]
    have v2 : val (iL x.2) = x.2.natAbs := by rw [e2]; exact val_num _
    unfold rd2
    have e3 : ((x.2.natAbs : Nat) : Int) = x.2 := by omega
    have q2 : ¬ (val (iL x.2) < 2 ∨ Nat.gcd (val (hd (iL x.1))) (val (iL x.2)) ≠ 1) := by
      rw [v2, n2, vn]
      have g' : Nat.gcd x.1.natAbs x.2.natAbs = 1 := g
      rintro (z | z)
      · omega
      · exact z g'
    rw [if_pos ⟨⟨by rw [n2]; exact fig_num _, by rw [e2]; exact fig_num _⟩, q0, q2⟩, n1, n2, vn, s1, v2, e3]
end Tk
set_option maxHeartbeats 2000000
namespace Lw
open PySem Mi Pv Tk
def CF : Cfg := ⟨fun c => c == 0, fun f => f != 9⟩
def WF : Nat := 2 ^ 4100
abbrev V := Pv.D
abbrev SP (x : Int × Int) : V := .nd (.ins 0 [0, 1]) [.int x.1, .int x.2]
abbrev TW (x : Int × Int) : V := .nd .tup [.int x.1, .int x.2]
theorem fl0 : (tab D).fldOk 0 0 = true := rfl
theorem fl1 : (tab D).fldOk 0 1 = true := rfl
theorem wfB {n : Nat} {y : Int} (h : Bd n y) (hn : n ≤ 4096) : y.natAbs < WF := Nat.lt_of_lt_of_le (h.mono hn) (Nat.pow_le_pow_right (by decide) (by decide))
section
variable {d : Nat} {s : Sto}
theorem i6 {i : Int} : ev (tab D) (Bo D) CF WF (d + 1) 6 [.int i] s = .ok (.bl true) s := by
  refine (ev_at (Df := ⟨1, 1, m_6⟩) rfl (by decide) rfl rfl rfl).trans ?_
  unfold m_6
  simp only [e_vE_var, e_vE_cst, e_vE_bin, e_vE_neg, e_vE_cmp, e_vE_cmp2, e_vE_and, e_vE_or, e_vE_not, e_vE_ite, e_vE_tup, e_vE_lst, e_vE_fmt, e_vE_js, e_vE_idx, e_vE_sl, e_vE_fld, e_vE_call, e_vE_callK, e_vE_make, e_vE_makeK, e_vE_meth, e_vE_bif, e_vE_bm, e_vE_isi, e_vE_own, e_vEs_nil, e_vEs_cons, e_vJ_nil, e_vJ_cons, e_vAll_nil, e_vAll_cons, e_vEo_no, e_vEo_so, e_vI_of, e_vI_rng1, e_vI_rng2, e_vI_enm, e_vI_zip, e_vTg_nm, e_vTg_fld, e_vTg_sub, e_vTg_tp, e_vS_asg, e_vS_aug, e_vS_augS, e_vS_augF, e_vS_exp, e_vS_ret, e_vS_retN, e_vS_ifs, e_vS_pas, e_vS_brk, e_vS_cont, e_vS_never, e_vSs_nil, e_vSs_cons, e_vS_whl, e_vS_fr, e_vE_lc, e_vE_dct, e_vTgs_nil, e_vTgs_cons, bind_ok, catch_ok, catch_exc, noE_ok, e_vS_rais, e_vS_tr, bind_bad, bind_exc, bind_ask, Pv.bind_ite, Pv.bind_assoc, Pv.opt_some, Pv.opt_none, brT_bl, startD, fnR, clo_ite, clo_bad, clo_ask,
 List.map_cons, List.map_nil, List.length_cons, List.length_nil, List.replicate, List.cons_append, List.nil_append, List.append_nil, List.getElem?_cons_zero, List.getElem?_cons_succ, List.getElem?_nil, List.set_cons_zero, List.set_cons_succ,
 vget_zero, vget_succ, vb_add, vb_adds, vb_addt, vb_addl, vb_sub, vb_mul, vb_mull, vb_fdiv, vb_mod, vb_pow, vc_eq, vc_ne, vc_isnon, vc_notnon, vc_lt, vc_le, vc_gt, vc_ge, vo_lt, vo_le, vo_gt, vo_ge, vn_int, vi_tup, vi_lst, vi_str, vs_tup, vs_lst, vf_nd, vf_ref, bf_len_tup, bf_len_lst, bf_len_str, bf_abs, bf_int, bf_tuple_tup, bf_tuple_lst, bf_list_tup, bf_list_lst, bf_str_int, bf_str_str, bf_all, bf_any, mk_f, mk_t, at0, at1, at2, at3, look, ofW, ofWs, vEq_int, vEq_bl, or_ok, and_ok, not_ok, na10, ev_take, Int.reduceLE, Int.reduceLT, Int.reduceToNat, Int.reducePow, Int.reduceAdd, Int.reduceMul, Int.reduceSub, Int.reduceNeg, Nat.reducePow, Nat.reduceLT, Nat.reduceLeDiff, and_self, true_and, and_true, AT_bind, AT_ok, AT_exc, AT_bad, AT_ask, AT_ite, Option.map_some, tgsLen_cons, tgsLen_nil, Nat.reduceAdd, Nat.reduceSub, if_true, if_false, Bool.not_true, Bool.not_false, reduceCtorEq, isNon, ite_true, ite_false, if_pos, e_vI_chr, vc_isin, vc_notin, vc_isfls, vs_str, bf_int_str, bf_list_str, bm_split, bm_join, rc_split, rc_sindex, rc_join, knownD, isOfD, List.any_cons, List.any_nil, Bool.or_false]
  rfl
theorem i8 {i : Int} : ev (tab D) (Bo D) CF WF (d + 2) 8 [.int i] s = .ok (TW (i, 1)) s := by
  refine (ev_at (Df := ⟨1, 1, m_8⟩) rfl (by decide) rfl rfl rfl).trans ?_
  unfold m_8
  simp only [e_vE_var, e_vE_cst, e_vE_bin, e_vE_neg, e_vE_cmp, e_vE_cmp2, e_vE_and, e_vE_or, e_vE_not, e_vE_ite, e_vE_tup, e_vE_lst, e_vE_fmt, e_vE_js, e_vE_idx, e_vE_sl, e_vE_fld, e_vE_call, e_vE_callK, e_vE_make, e_vE_makeK, e_vE_meth, e_vE_bif, e_vE_bm, e_vE_isi, e_vE_own, e_vEs_nil, e_vEs_cons, e_vJ_nil, e_vJ_cons, e_vAll_nil, e_vAll_cons, e_vEo_no, e_vEo_so, e_vI_of, e_vI_rng1, e_vI_rng2, e_vI_enm, e_vI_zip, e_vTg_nm, e_vTg_fld, e_vTg_sub, e_vTg_tp, e_vS_asg, e_vS_aug, e_vS_augS, e_vS_augF, e_vS_exp, e_vS_ret, e_vS_retN, e_vS_ifs, e_vS_pas, e_vS_brk, e_vS_cont, e_vS_never, e_vSs_nil, e_vSs_cons, e_vS_whl, e_vS_fr, e_vE_lc, e_vE_dct, e_vTgs_nil, e_vTgs_cons, bind_ok, catch_ok, catch_exc, noE_ok, e_vS_rais, e_vS_tr, bind_bad, bind_exc, bind_ask, Pv.bind_ite, Pv.bind_assoc, Pv.opt_some, Pv.opt_none, brT_bl, startD, fnR, clo_ite, clo_bad, clo_ask,
 List.map_cons, List.map_nil, List.length_cons, List.length_nil, List.replicate, List.cons_append, List.nil_append, List.append_nil, List.getElem?_cons_zero, List.getElem?_cons_succ, List.getElem?_nil, List.set_cons_zero, List.set_cons_succ,
 vget_zero, vget_succ, vb_add, vb_adds, vb_addt, vb_addl, vb_sub, vb_mul, vb_mull, vb_fdiv, vb_mod, vb_pow, vc_eq, vc_ne, vc_isnon, vc_notnon, vc_lt, vc_le, vc_gt, vc_ge, vo_lt, vo_le, vo_gt, vo_ge, vn_int, vi_tup, vi_lst, vi_str, vs_tup, vs_lst, vf_nd, vf_ref, bf_len_tup, bf_len_lst, bf_len_str, bf_abs, bf_int, bf_tuple_tup, bf_tuple_lst, bf_list_tup, bf_list_lst, bf_str_int, bf_str_str, bf_all, bf_any, mk_f, mk_t, at0, at1, at2, at3, look, ofW, ofWs, vEq_int, vEq_bl, or_ok, and_ok, not_ok, na10, ev_take, Int.reduceLE, Int.reduceLT, Int.reduceToNat, Int.reducePow, Int.reduceAdd, Int.reduceMul, Int.reduceSub, Int.reduceNeg, Nat.reducePow, Nat.reduceLT, Nat.reduceLeDiff, and_self, true_and, and_true, AT_bind, AT_ok, AT_exc, AT_bad, AT_ask, AT_ite, Option.map_some, tgsLen_cons, tgsLen_nil, Nat.reduceAdd, Nat.reduceSub, if_true, if_false, Bool.not_true, Bool.not_false, reduceCtorEq, isNon, ite_true, ite_false, if_pos, e_vI_chr, vc_isin, vc_notin, vc_isfls, vs_str, bf_int_str, bf_list_str, bm_split, bm_join, rc_split, rc_sindex, rc_join, knownD, isOfD, insC, List.any_cons, List.any_nil, Bool.or_false, i6]
  rfl
theorem s8 {x : Int × Int} : ev (tab D) (Bo D) CF WF (d + 2) 8 [SP x] s = .ok (TW x) s := by
  refine (ev_at (Df := ⟨1, 1, m_8⟩) rfl (by decide) rfl rfl rfl).trans ?_
  unfold m_8
  simp only [e_vE_var, e_vE_cst, e_vE_bin, e_vE_neg, e_vE_cmp, e_vE_cmp2, e_vE_and, e_vE_or, e_vE_not, e_vE_ite, e_vE_tup, e_vE_lst, e_vE_fmt, e_vE_js, e_vE_idx, e_vE_sl, e_vE_fld, e_vE_call, e_vE_callK, e_vE_make, e_vE_makeK, e_vE_meth, e_vE_bif, e_vE_bm, e_vE_isi, e_vE_own, e_vEs_nil, e_vEs_cons, e_vJ_nil, e_vJ_cons, e_vAll_nil, e_vAll_cons, e_vEo_no, e_vEo_so, e_vI_of, e_vI_rng1, e_vI_rng2, e_vI_enm, e_vI_zip, e_vTg_nm, e_vTg_fld, e_vTg_sub, e_vTg_tp, e_vS_asg, e_vS_aug, e_vS_augS, e_vS_augF, e_vS_exp, e_vS_ret, e_vS_retN, e_vS_ifs, e_vS_pas, e_vS_brk, e_vS_cont, e_vS_never, e_vSs_nil, e_vSs_cons, e_vS_whl, e_vS_fr, e_vE_lc, e_vE_dct, e_vTgs_nil, e_vTgs_cons, bind_ok, catch_ok, catch_exc, noE_ok, e_vS_rais, e_vS_tr, bind_bad, bind_exc, bind_ask, Pv.bind_ite, Pv.bind_assoc, Pv.opt_some, Pv.opt_none, brT_bl, startD, fnR, clo_ite, clo_bad, clo_ask,
 List.map_cons, List.map_nil, List.length_cons, List.length_nil, List.replicate, List.cons_append, List.nil_append, List.append_nil, List.getElem?_cons_zero, List.getElem?_cons_succ, List.getElem?_nil, List.set_cons_zero, List.set_cons_succ,
 vget_zero, vget_succ, vb_add, vb_adds, vb_addt, vb_addl, vb_sub, vb_mul, vb_mull, vb_fdiv, vb_mod, vb_pow, vc_eq, vc_ne, vc_isnon, vc_notnon, vc_lt, vc_le, vc_gt, vc_ge, vo_lt, vo_le, vo_gt, vo_ge, vn_int, vi_tup, vi_lst, vi_str, vs_tup, vs_lst, vf_nd, vf_ref, bf_len_tup, bf_len_lst, bf_len_str, bf_abs, bf_int, bf_tuple_tup, bf_tuple_lst, bf_list_tup, bf_list_lst, bf_str_int, bf_str_str, bf_all, bf_any, mk_f, mk_t, at0, at1, at2, at3, look, ofW, ofWs, vEq_int, vEq_bl, or_ok, and_ok, not_ok, na10, ev_take, Int.reduceLE, Int.reduceLT, Int.reduceToNat, Int.reducePow, Int.reduceAdd, Int.reduceMul, Int.reduceSub, Int.reduceNeg, Nat.reducePow, Nat.reduceLT, Nat.reduceLeDiff, and_self, true_and, and_true, AT_bind, AT_ok, AT_exc, AT_bad, AT_ask, AT_ite, Option.map_some, tgsLen_cons, tgsLen_nil, Nat.reduceAdd, Nat.reduceSub, if_true, if_false, Bool.not_true, Bool.not_false, reduceCtorEq, isNon, ite_true, ite_false, if_pos, e_vI_chr, vc_isin, vc_notin, vc_isfls, vs_str, bf_int_str, bf_list_str, bm_split, bm_join, rc_split, rc_sindex, rc_join, knownD, isOfD, insC, List.any_cons, List.any_nil, Bool.or_false, i6]
  rfl
/-- a number that a Span meets -/
inductive NumD : V → Int × Int → Prop
  | int (i : Int) : NumD (.int i) (i, 1)
  | sp (x : Int × Int) : NumD (SP x) x
theorem n8 {v : V} {x : Int × Int} (n : NumD v x) : ev (tab D) (Bo D) CF WF (d + 2) 8 [v] s = .ok (TW x) s := by
  cases n
  · exact i8
  · exact s8
theorem gcd_step {a b : Nat} (hb : 0 < b) : Nat.gcd b (a % b) = Nat.gcd a b := by
  rw [Nat.gcd_comm a b, Nat.gcd_rec b a, Nat.gcd_comm (a % b) b]
theorem fmodN (m n : Nat) (h : 0 < n) : Int.fmod (m : Int) (n : Int) = ((m % n : Nat) : Int) := by
  rw [Int.fmod_eq_emod_of_nonneg _ (by omega)]
  rfl
theorem loop7 {F : Fv} : ∀ (k m n : Nat), n < k → whlV (tab D) F CF WF (.cmp .gt (.var 1) (.cst (.int 0))) (.cons (.asg (.tp (.cons (.nm 0) (.cons (.nm 1) .nil))) (.tup (.cons (.var 1) (.cons (.bin .mod (.var 0) (.var 1)) .nil)))) .nil) k [some (.int m), some (.int n)] s = .ok (.nx [some (.int (Nat.gcd m n)), some (.int 0)]) s
  | 0, m, n, h => by omega
  | k + 1, m, n, h => by
    rw [whlV_succ]
    by_cases z : n = 0
    · subst z
      simp only [e_vE_var, e_vE_cst, e_vE_bin, e_vE_neg, e_vE_cmp, e_vE_cmp2, e_vE_and, e_vE_or, e_vE_not, e_vE_ite, e_vE_tup, e_vE_lst, e_vE_fmt, e_vE_js, e_vE_idx, e_vE_sl, e_vE_fld, e_vE_call, e_vE_callK, e_vE_make, e_vE_makeK, e_vE_meth, e_vE_bif, e_vE_bm, e_vE_isi, e_vE_own, e_vEs_nil, e_vEs_cons, e_vJ_nil, e_vJ_cons, e_vAll_nil, e_vAll_cons, e_vEo_no, e_vEo_so, e_vI_of, e_vI_rng1, e_vI_rng2, e_vI_enm, e_vI_zip, e_vTg_nm, e_vTg_fld, e_vTg_sub, e_vTg_tp, e_vS_asg, e_vS_aug, e_vS_augS, e_vS_augF, e_vS_exp, e_vS_ret, e_vS_retN, e_vS_ifs, e_vS_pas, e_vS_brk, e_vS_cont, e_vS_never, e_vSs_nil, e_vSs_cons, e_vS_whl, e_vS_fr, e_vE_lc, e_vE_dct, e_vTgs_nil, e_vTgs_cons, bind_ok, catch_ok, catch_exc, noE_ok, e_vS_rais, e_vS_tr, bind_bad, bind_exc, bind_ask, Pv.bind_ite, Pv.bind_assoc, Pv.opt_some, Pv.opt_none, brT_bl, startD, fnR, clo_ite, clo_bad, clo_ask,
 List.map_cons, List.map_nil, List.length_cons, List.length_nil, List.replicate, List.cons_append, List.nil_append, List.append_nil, List.getElem?_cons_zero, List.getElem?_cons_succ, List.getElem?_nil, List.set_cons_zero, List.set_cons_succ,
 vget_zero, vget_succ, vb_add, vb_adds, vb_addt, vb_addl, vb_sub, vb_mul, vb_mull, vb_fdiv, vb_mod, vb_pow, vc_eq, vc_ne, vc_isnon, vc_notnon, vc_lt, vc_le, vc_gt, vc_ge, vo_lt, vo_le, vo_gt, vo_ge, vn_int, vi_tup, vi_lst, vi_str, vs_tup, vs_lst, vf_nd, vf_ref, bf_len_tup, bf_len_lst, bf_len_str, bf_abs, bf_int, bf_tuple_tup, bf_tuple_lst, bf_list_tup, bf_list_lst, bf_str_int, bf_str_str, bf_all, bf_any, mk_f, mk_t, at0, at1, at2, at3, look, ofW, ofWs, vEq_int, vEq_bl, or_ok, and_ok, not_ok, na10, ev_take, Int.reduceLE, Int.reduceLT, Int.reduceToNat, Int.reducePow, Int.reduceAdd, Int.reduceMul, Int.reduceSub, Int.reduceNeg, Nat.reducePow, Nat.reduceLT, Nat.reduceLeDiff, and_self, true_and, and_true, AT_bind, AT_ok, AT_exc, AT_bad, AT_ask, AT_ite, Option.map_some, tgsLen_cons, tgsLen_nil, Nat.reduceAdd, Nat.reduceSub, if_true, if_false, Bool.not_true, Bool.not_false, reduceCtorEq, isNon, ite_true, ite_false, if_pos, e_vI_chr, vc_isin, vc_notin, vc_isfls, vs_str, bf_int_str, bf_list_str, bm_split, bm_join, rc_split, rc_sindex, rc_join]
      simp
    · have p : 0 < n := by omega
      have p' : ¬ ((n : Int) = 0) := by omega
      have p2 : (0 : Int) < n := by omega
      simp only [e_vE_var, e_vE_cst, e_vE_bin, e_vE_neg, e_vE_cmp, e_vE_cmp2, e_vE_and, e_vE_or, e_vE_not, e_vE_ite, e_vE_tup, e_vE_lst, e_vE_fmt, e_vE_js, e_vE_idx, e_vE_sl, e_vE_fld, e_vE_call, e_vE_callK, e_vE_make, e_vE_makeK, e_vE_meth, e_vE_bif, e_vE_bm, e_vE_isi, e_vE_own, e_vEs_nil, e_vEs_cons, e_vJ_nil, e_vJ_cons, e_vAll_nil, e_vAll_cons, e_vEo_no, e_vEo_so, e_vI_of, e_vI_rng1, e_vI_rng2, e_vI_enm, e_vI_zip, e_vTg_nm, e_vTg_fld, e_vTg_sub, e_vTg_tp, e_vS_asg, e_vS_aug, e_vS_augS, e_vS_augF, e_vS_exp, e_vS_ret, e_vS_retN, e_vS_ifs, e_vS_pas, e_vS_brk, e_vS_cont, e_vS_never, e_vSs_nil, e_vSs_cons, e_vS_whl, e_vS_fr, e_vE_lc, e_vE_dct, e_vTgs_nil, e_vTgs_cons, bind_ok, catch_ok, catch_exc, noE_ok, e_vS_rais, e_vS_tr, bind_bad, bind_exc, bind_ask, Pv.bind_ite, Pv.bind_assoc, Pv.opt_some, Pv.opt_none, brT_bl, startD, fnR, clo_ite, clo_bad, clo_ask,
 List.map_cons, List.map_nil, List.length_cons, List.length_nil, List.replicate, List.cons_append, List.nil_append, List.append_nil, List.getElem?_cons_zero, List.getElem?_cons_succ, List.getElem?_nil, List.set_cons_zero, List.set_cons_succ,
 vget_zero, vget_succ, vb_add, vb_adds, vb_addt, vb_addl, vb_sub, vb_mul, vb_mull, vb_fdiv, vb_mod, vb_pow, vc_eq, vc_ne, vc_isnon, vc_notnon, vc_lt, vc_le, vc_gt, vc_ge, vo_lt, vo_le, vo_gt, vo_ge, vn_int, vi_tup, vi_lst, vi_str, vs_tup, vs_lst, vf_nd, vf_ref, bf_len_tup, bf_len_lst, bf_len_str, bf_abs, bf_int, bf_tuple_tup, bf_tuple_lst, bf_list_tup, bf_list_lst, bf_str_int, bf_str_str, bf_all, bf_any, mk_f, mk_t, at0, at1, at2, at3, look, ofW, ofWs, vEq_int, vEq_bl, or_ok, and_ok, not_ok, na10, ev_take, Int.reduceLE, Int.reduceLT, Int.reduceToNat, Int.reducePow, Int.reduceAdd, Int.reduceMul, Int.reduceSub, Int.reduceNeg, Nat.reducePow, Nat.reduceLT, Nat.reduceLeDiff, and_self, true_and, and_true, AT_bind, AT_ok, AT_exc, AT_bad, AT_ask, AT_ite, Option.map_some, tgsLen_cons, tgsLen_nil, Nat.reduceAdd, Nat.reduceSub, if_true, if_false, Bool.not_true, Bool.not_false, reduceCtorEq, isNon, ite_true, ite_false, if_pos, e_vI_chr, vc_isin, vc_notin, vc_isfls, vs_str, bf_int_str, bf_list_str, bm_split, bm_join, rc_split, rc_sindex, rc_join, decide_eq_true p2, p', ne_eq, not_false_eq_true, fmodN m n p]
      rw [loop7 k n (m % n) (by have := Nat.mod_lt m p; omega), gcd_step p]
theorem i7 {m n : Nat} (h : n < WF) : ev (tab D) (Bo D) CF WF (d + 1) 7 [.int m, .int n] s = .ok (.int (Nat.gcd m n)) s := by
  refine (ev_at (Df := ⟨2, 2, m_7⟩) rfl (by decide) rfl rfl rfl).trans ?_
  unfold m_7
  simp only [e_vE_var, e_vE_cst, e_vE_bin, e_vE_neg, e_vE_cmp, e_vE_cmp2, e_vE_and, e_vE_or, e_vE_not, e_vE_ite, e_vE_tup, e_vE_lst, e_vE_fmt, e_vE_js, e_vE_idx, e_vE_sl, e_vE_fld, e_vE_call, e_vE_callK, e_vE_make, e_vE_makeK, e_vE_meth, e_vE_bif, e_vE_bm, e_vE_isi, e_vE_own, e_vEs_nil, e_vEs_cons, e_vJ_nil, e_vJ_cons, e_vAll_nil, e_vAll_cons, e_vEo_no, e_vEo_so, e_vI_of, e_vI_rng1, e_vI_rng2, e_vI_enm, e_vI_zip, e_vTg_nm, e_vTg_fld, e_vTg_sub, e_vTg_tp, e_vS_asg, e_vS_aug, e_vS_augS, e_vS_augF, e_vS_exp, e_vS_ret, e_vS_retN, e_vS_ifs, e_vS_pas, e_vS_brk, e_vS_cont, e_vS_never, e_vSs_nil, e_vSs_cons, e_vS_whl, e_vS_fr, e_vE_lc, e_vE_dct, e_vTgs_nil, e_vTgs_cons, bind_ok, catch_ok, catch_exc, noE_ok, e_vS_rais, e_vS_tr, bind_bad, bind_exc, bind_ask, Pv.bind_ite, Pv.bind_assoc, Pv.opt_some, Pv.opt_none, brT_bl, startD, fnR, clo_ite, clo_bad, clo_ask,
 List.map_cons, List.map_nil, List.length_cons, List.length_nil, List.replicate, List.cons_append, List.nil_append, List.append_nil, List.getElem?_cons_zero, List.getElem?_cons_succ, List.getElem?_nil, List.set_cons_zero, List.set_cons_succ,
 vget_zero, vget_succ, vb_add, vb_adds, vb_addt, vb_addl, vb_sub, vb_mul, vb_mull, vb_fdiv, vb_mod, vb_pow, vc_eq, vc_ne, vc_isnon, vc_notnon, vc_lt, vc_le, vc_gt, vc_ge, vo_lt, vo_le, vo_gt, vo_ge, vn_int, vi_tup, vi_lst, vi_str, vs_tup, vs_lst, vf_nd, vf_ref, bf_len_tup, bf_len_lst, bf_len_str, bf_abs, bf_int, bf_tuple_tup, bf_tuple_lst, bf_list_tup, bf_list_lst, bf_str_int, bf_str_str, bf_all, bf_any, mk_f, mk_t, at0, at1, at2, at3, look, ofW, ofWs, vEq_int, vEq_bl, or_ok, and_ok, not_ok, na10, ev_take, Int.reduceLE, Int.reduceLT, Int.reduceToNat, Int.reducePow, Int.reduceAdd, Int.reduceMul, Int.reduceSub, Int.reduceNeg, Nat.reducePow, Nat.reduceLT, Nat.reduceLeDiff, and_self, true_and, and_true, AT_bind, AT_ok, AT_exc, AT_bad, AT_ask, AT_ite, Option.map_some, tgsLen_cons, tgsLen_nil, Nat.reduceAdd, Nat.reduceSub, if_true, if_false, Bool.not_true, Bool.not_false, reduceCtorEq, isNon, ite_true, ite_false, if_pos, e_vI_chr, vc_isin, vc_notin, vc_isfls, vs_str, bf_int_str, bf_list_str, bm_split, bm_join, rc_split, rc_sindex, rc_join]
  rw [loop7 _ _ _ h]
  simp only [e_vE_var, e_vE_cst, e_vE_bin, e_vE_neg, e_vE_cmp, e_vE_cmp2, e_vE_and, e_vE_or, e_vE_not, e_vE_ite, e_vE_tup, e_vE_lst, e_vE_fmt, e_vE_js, e_vE_idx, e_vE_sl, e_vE_fld, e_vE_call, e_vE_callK, e_vE_make, e_vE_makeK, e_vE_meth, e_vE_bif, e_vE_bm, e_vE_isi, e_vE_own, e_vEs_nil, e_vEs_cons, e_vJ_nil, e_vJ_cons, e_vAll_nil, e_vAll_cons, e_vEo_no, e_vEo_so, e_vI_of, e_vI_rng1, e_vI_rng2, e_vI_enm, e_vI_zip, e_vTg_nm, e_vTg_fld, e_vTg_sub, e_vTg_tp, e_vS_asg, e_vS_aug, e_vS_augS, e_vS_augF, e_vS_exp, e_vS_ret, e_vS_retN, e_vS_ifs, e_vS_pas, e_vS_brk, e_vS_cont, e_vS_never, e_vSs_nil, e_vSs_cons, e_vS_whl, e_vS_fr, e_vE_lc, e_vE_dct, e_vTgs_nil, e_vTgs_cons, bind_ok, catch_ok, catch_exc, noE_ok, e_vS_rais, e_vS_tr, bind_bad, bind_exc, bind_ask, Pv.bind_ite, Pv.bind_assoc, Pv.opt_some, Pv.opt_none, brT_bl, startD, fnR, clo_ite, clo_bad, clo_ask,
 List.map_cons, List.map_nil, List.length_cons, List.length_nil, List.replicate, List.cons_append, List.nil_append, List.append_nil, List.getElem?_cons_zero, List.getElem?_cons_succ, List.getElem?_nil, List.set_cons_zero, List.set_cons_succ,
 vget_zero, vget_succ, vb_add, vb_adds, vb_addt, vb_addl, vb_sub, vb_mul, vb_mull, vb_fdiv, vb_mod, vb_pow, vc_eq, vc_ne, vc_isnon, vc_notnon, vc_lt, vc_le, vc_gt, vc_ge, vo_lt, vo_le, vo_gt, vo_ge, vn_int, vi_tup, vi_lst, vi_str, vs_tup, vs_lst, vf_nd, vf_ref, bf_len_tup, bf_len_lst, bf_len_str, bf_abs, bf_int, bf_tuple_tup, bf_tuple_lst, bf_list_tup, bf_list_lst, bf_str_int, bf_str_str, bf_all, bf_any, mk_f, mk_t, at0, at1, at2, at3, look, ofW, ofWs, vEq_int, vEq_bl, or_ok, and_ok, not_ok, na10, ev_take, Int.reduceLE, Int.reduceLT, Int.reduceToNat, Int.reducePow, Int.reduceAdd, Int.reduceMul, Int.reduceSub, Int.reduceNeg, Nat.reducePow, Nat.reduceLT, Nat.reduceLeDiff, and_self, true_and, and_true, AT_bind, AT_ok, AT_exc, AT_bad, AT_ask, AT_ite, Option.map_some, tgsLen_cons, tgsLen_nil, Nat.reduceAdd, Nat.reduceSub, if_true, if_false, Bool.not_true, Bool.not_false, reduceCtorEq, isNon, ite_true, ite_false, if_pos, e_vI_chr, vc_isin, vc_notin, vc_isfls, vs_str, bf_int_str, bf_list_str, bm_split, bm_join, rc_split, rc_sindex, rc_join]
  rfl
theorem absD (i : Int) : (if i < 0 then -i else i) = (i.natAbs : Int) := absI_natAbs i
theorem gcdA (x y : Int) : Nat.gcd x.natAbs y.natAbs = Int.gcd x y := rfl
/-- a Span is made -/
theorem mk9 {x y : Int} {n : Nat} (hy : y ≠ 0) (bx : Bd 4000 x) (b : Bd n y) (hn : n ≤ 4000) : vMake (ev (tab D) (Bo D) CF WF (d + 2)) CF 0 9 [.int x, .int y] s = .ok (SP (lo x y)) s := by
  unfold vMake
  rw [if_pos (show CF.fzc 0 = true from rfl), if_pos (show cleans [.int x, .int y] = true from rfl)]
  have e : ev (tab D) (Bo D) CF WF (d + 2) 9 [.ref 0, .int x, .int y] [(.ins 0 [], [])] = .ok .non [(.ins 0 [0, 1], [.int (lo x y).1, .int (lo x y).2])] := by
    refine (ev_in (Df := ⟨3, 5, m_9⟩) rfl (by decide) rfl rfl).trans ?_
    unfold m_9
    have g0 := gcd_pos (x := x) hy
    have gz : ¬ ((Int.gcd x y : Int)) = 0 := by omega
    have bgg : bg (Int.gcd x y) = true := by
      refine bg_bd' (n := n) ?_ (by omega)
      unfold Bd
      refine Nat.lt_of_le_of_lt ?_ b
      simp
      exact Nat.le_of_dvd (by omega) (Int.gcd_dvd_natAbs_right x y)
    have b1 : bg 1 = true := bg_of (by decide) (by decide)
    have b2 : bg (-1) = true := bg_of (by decide) (by decide)
    have bx' : bg x = true := bg_bd' bx (by decide)
    have by' : bg y = true := bg_bd' b (by omega)
    simp only [e_vE_var, e_vE_cst, e_vE_bin, e_vE_neg, e_vE_cmp, e_vE_cmp2, e_vE_and, e_vE_or, e_vE_not, e_vE_ite, e_vE_tup, e_vE_lst, e_vE_fmt, e_vE_js, e_vE_idx, e_vE_sl, e_vE_fld, e_vE_call, e_vE_callK, e_vE_make, e_vE_makeK, e_vE_meth, e_vE_bif, e_vE_bm, e_vE_isi, e_vE_own, e_vEs_nil, e_vEs_cons, e_vJ_nil, e_vJ_cons, e_vAll_nil, e_vAll_cons, e_vEo_no, e_vEo_so, e_vI_of, e_vI_rng1, e_vI_rng2, e_vI_enm, e_vI_zip, e_vTg_nm, e_vTg_fld, e_vTg_sub, e_vTg_tp, e_vS_asg, e_vS_aug, e_vS_augS, e_vS_augF, e_vS_exp, e_vS_ret, e_vS_retN, e_vS_ifs, e_vS_pas, e_vS_brk, e_vS_cont, e_vS_never, e_vSs_nil, e_vSs_cons, e_vS_whl, e_vS_fr, e_vE_lc, e_vE_dct, e_vTgs_nil, e_vTgs_cons, bind_ok, catch_ok, catch_exc, noE_ok, e_vS_rais, e_vS_tr, bind_bad, bind_exc, bind_ask, Pv.bind_ite, Pv.bind_assoc, Pv.opt_some, Pv.opt_none, brT_bl, startD, fnR, clo_ite, clo_bad, clo_ask,
 List.map_cons, List.map_nil, List.length_cons, List.length_nil, List.replicate, List.cons_append, List.nil_append, List.append_nil, List.getElem?_cons_zero, List.getElem?_cons_succ, List.getElem?_nil, List.set_cons_zero, List.set_cons_succ,
 vget_zero, vget_succ, vb_add, vb_adds, vb_addt, vb_addl, vb_sub, vb_mul, vb_mull, vb_fdiv, vb_mod, vb_pow, vc_eq, vc_ne, vc_isnon, vc_notnon, vc_lt, vc_le, vc_gt, vc_ge, vo_lt, vo_le, vo_gt, vo_ge, vn_int, vi_tup, vi_lst, vi_str, vs_tup, vs_lst, vf_nd, vf_ref, bf_len_tup, bf_len_lst, bf_len_str, bf_abs, bf_int, bf_tuple_tup, bf_tuple_lst, bf_list_tup, bf_list_lst, bf_str_int, bf_str_str, bf_all, bf_any, mk_f, mk_t, at0, at1, at2, at3, look, ofW, ofWs, vEq_int, vEq_bl, or_ok, and_ok, not_ok, na10, ev_take, Int.reduceLE, Int.reduceLT, Int.reduceToNat, Int.reducePow, Int.reduceAdd, Int.reduceMul, Int.reduceSub, Int.reduceNeg, Nat.reducePow, Nat.reduceLT, Nat.reduceLeDiff, and_self, true_and, and_true, AT_bind, AT_ok, AT_exc, AT_bad, AT_ask, AT_ite, Option.map_some, tgsLen_cons, tgsLen_nil, Nat.reduceAdd, Nat.reduceSub, if_true, if_false, Bool.not_true, Bool.not_false, reduceCtorEq, isNon, ite_true, ite_false, if_pos, e_vI_chr, vc_isin, vc_notin, vc_isfls, vs_str, bf_int_str, bf_list_str, bm_split, bm_join, rc_split, rc_sindex, rc_join, i6, vEq_int, hy, decide_false, or_ok, and_ok, not_ok, Bool.or_false, vBif, absD, Bool.false_eq_true]
    rw [i7 (wfB b (by omega))]
    simp only [e_vE_var, e_vE_cst, e_vE_bin, e_vE_neg, e_vE_cmp, e_vE_cmp2, e_vE_and, e_vE_or, e_vE_not, e_vE_ite, e_vE_tup, e_vE_lst, e_vE_fmt, e_vE_js, e_vE_idx, e_vE_sl, e_vE_fld, e_vE_call, e_vE_callK, e_vE_make, e_vE_makeK, e_vE_meth, e_vE_bif, e_vE_bm, e_vE_isi, e_vE_own, e_vEs_nil, e_vEs_cons, e_vJ_nil, e_vJ_cons, e_vAll_nil, e_vAll_cons, e_vEo_no, e_vEo_so, e_vI_of, e_vI_rng1, e_vI_rng2, e_vI_enm, e_vI_zip, e_vTg_nm, e_vTg_fld, e_vTg_sub, e_vTg_tp, e_vS_asg, e_vS_aug, e_vS_augS, e_vS_augF, e_vS_exp, e_vS_ret, e_vS_retN, e_vS_ifs, e_vS_pas, e_vS_brk, e_vS_cont, e_vS_never, e_vSs_nil, e_vSs_cons, e_vS_whl, e_vS_fr, e_vE_lc, e_vE_dct, e_vTgs_nil, e_vTgs_cons, bind_ok, catch_ok, catch_exc, noE_ok, e_vS_rais, e_vS_tr, bind_bad, bind_exc, bind_ask, Pv.bind_ite, Pv.bind_assoc, Pv.opt_some, Pv.opt_none, brT_bl, startD, fnR, clo_ite, clo_bad, clo_ask,
 List.map_cons, List.map_nil, List.length_cons, List.length_nil, List.replicate, List.cons_append, List.nil_append, List.append_nil, List.getElem?_cons_zero, List.getElem?_cons_succ, List.getElem?_nil, List.set_cons_zero, List.set_cons_succ,
 vget_zero, vget_succ, vb_add, vb_adds, vb_addt, vb_addl, vb_sub, vb_mul, vb_mull, vb_fdiv, vb_mod, vb_pow, vc_eq, vc_ne, vc_isnon, vc_notnon, vc_lt, vc_le, vc_gt, vc_ge, vo_lt, vo_le, vo_gt, vo_ge, vn_int, vi_tup, vi_lst, vi_str, vs_tup, vs_lst, vf_nd, vf_ref, bf_len_tup, bf_len_lst, bf_len_str, bf_abs, bf_int, bf_tuple_tup, bf_tuple_lst, bf_list_tup, bf_list_lst, bf_str_int, bf_str_str, bf_all, bf_any, mk_f, mk_t, at0, at1, at2, at3, look, ofW, ofWs, vEq_int, vEq_bl, or_ok, and_ok, not_ok, na10, ev_take, Int.reduceLE, Int.reduceLT, Int.reduceToNat, Int.reducePow, Int.reduceAdd, Int.reduceMul, Int.reduceSub, Int.reduceNeg, Nat.reducePow, Nat.reduceLT, Nat.reduceLeDiff, and_self, true_and, and_true, AT_bind, AT_ok, AT_exc, AT_bad, AT_ask, AT_ite, Option.map_some, tgsLen_cons, tgsLen_nil, Nat.reduceAdd, Nat.reduceSub, if_true, if_false, Bool.not_true, Bool.not_false, reduceCtorEq, isNon, ite_true, ite_false, if_pos, e_vI_chr, vc_isin, vc_notin, vc_isfls, vs_str, bf_int_str, bf_list_str, bm_split, bm_join, rc_split, rc_sindex, rc_join, gcdA, decide_eq_true_eq]
    have lo1 : 0 < y → lo x y = (x.fdiv (Int.gcd x y), y.fdiv (Int.gcd x y)) := fun h => by unfold lo; rw [if_pos h]
    have lo2 : ¬ 0 < y → lo x y = ((-x).fdiv (Int.gcd x y), (-y).fdiv (Int.gcd x y)) := fun h => by unfold lo; rw [if_neg h]
    by_cases c : 0 < y
    · simp only [c, e_vE_var, e_vE_cst, e_vE_bin, e_vE_neg, e_vE_cmp, e_vE_cmp2, e_vE_and, e_vE_or, e_vE_not, e_vE_ite, e_vE_tup, e_vE_lst, e_vE_fmt, e_vE_js, e_vE_idx, e_vE_sl, e_vE_fld, e_vE_call, e_vE_callK, e_vE_make, e_vE_makeK, e_vE_meth, e_vE_bif, e_vE_bm, e_vE_isi, e_vE_own, e_vEs_nil, e_vEs_cons, e_vJ_nil, e_vJ_cons, e_vAll_nil, e_vAll_cons, e_vEo_no, e_vEo_so, e_vI_of, e_vI_rng1, e_vI_rng2, e_vI_enm, e_vI_zip, e_vTg_nm, e_vTg_fld, e_vTg_sub, e_vTg_tp, e_vS_asg, e_vS_aug, e_vS_augS, e_vS_augF, e_vS_exp, e_vS_ret, e_vS_retN, e_vS_ifs, e_vS_pas, e_vS_brk, e_vS_cont, e_vS_never, e_vSs_nil, e_vSs_cons, e_vS_whl, e_vS_fr, e_vE_lc, e_vE_dct, e_vTgs_nil, e_vTgs_cons, bind_ok, catch_ok, catch_exc, noE_ok, e_vS_rais, e_vS_tr, bind_bad, bind_exc, bind_ask, Pv.bind_ite, Pv.bind_assoc, Pv.opt_some, Pv.opt_none, brT_bl, startD, fnR, clo_ite, clo_bad, clo_ask,
 List.map_cons, List.map_nil, List.length_cons, List.length_nil, List.replicate, List.cons_append, List.nil_append, List.append_nil, List.getElem?_cons_zero, List.getElem?_cons_succ, List.getElem?_nil, List.set_cons_zero, List.set_cons_succ,
 vget_zero, vget_succ, vb_add, vb_adds, vb_addt, vb_addl, vb_sub, vb_mul, vb_mull, vb_fdiv, vb_mod, vb_pow, vc_eq, vc_ne, vc_isnon, vc_notnon, vc_lt, vc_le, vc_gt, vc_ge, vo_lt, vo_le, vo_gt, vo_ge, vn_int, vi_tup, vi_lst, vi_str, vs_tup, vs_lst, vf_nd, vf_ref, bf_len_tup, bf_len_lst, bf_len_str, bf_abs, bf_int, bf_tuple_tup, bf_tuple_lst, bf_list_tup, bf_list_lst, bf_str_int, bf_str_str, bf_all, bf_any, mk_f, mk_t, at0, at1, at2, at3, look, ofW, ofWs, vEq_int, vEq_bl, or_ok, and_ok, not_ok, na10, ev_take, Int.reduceLE, Int.reduceLT, Int.reduceToNat, Int.reducePow, Int.reduceAdd, Int.reduceMul, Int.reduceSub, Int.reduceNeg, Nat.reducePow, Nat.reduceLT, Nat.reduceLeDiff, and_self, true_and, and_true, AT_bind, AT_ok, AT_exc, AT_bad, AT_ask, AT_ite, Option.map_some, tgsLen_cons, tgsLen_nil, Nat.reduceAdd, Nat.reduceSub, if_true, if_false, Bool.not_true, Bool.not_false, reduceCtorEq, isNon, ite_true, ite_false, if_pos, e_vI_chr, vc_isin, vc_notin, vc_isfls, vs_str, bf_int_str, bf_list_str, bm_split, bm_join, rc_split, rc_sindex, rc_join, b1, bx', by', bgg, gz, ne_eq, not_false_eq_true, and_self, fl0, fl1, Int.one_mul, lo1 c, true_and, putN, Nat.lt_irrefl, Nat.reduceLT, List.length_nil]
    · simp only [c, e_vE_var, e_vE_cst, e_vE_bin, e_vE_neg, e_vE_cmp, e_vE_cmp2, e_vE_and, e_vE_or, e_vE_not, e_vE_ite, e_vE_tup, e_vE_lst, e_vE_fmt, e_vE_js, e_vE_idx, e_vE_sl, e_vE_fld, e_vE_call, e_vE_callK, e_vE_make, e_vE_makeK, e_vE_meth, e_vE_bif, e_vE_bm, e_vE_isi, e_vE_own, e_vEs_nil, e_vEs_cons, e_vJ_nil, e_vJ_cons, e_vAll_nil, e_vAll_cons, e_vEo_no, e_vEo_so, e_vI_of, e_vI_rng1, e_vI_rng2, e_vI_enm, e_vI_zip, e_vTg_nm, e_vTg_fld, e_vTg_sub, e_vTg_tp, e_vS_asg, e_vS_aug, e_vS_augS, e_vS_augF, e_vS_exp, e_vS_ret, e_vS_retN, e_vS_ifs, e_vS_pas, e_vS_brk, e_vS_cont, e_vS_never, e_vSs_nil, e_vSs_cons, e_vS_whl, e_vS_fr, e_vE_lc, e_vE_dct, e_vTgs_nil, e_vTgs_cons, bind_ok, catch_ok, catch_exc, noE_ok, e_vS_rais, e_vS_tr, bind_bad, bind_exc, bind_ask, Pv.bind_ite, Pv.bind_assoc, Pv.opt_some, Pv.opt_none, brT_bl, startD, fnR, clo_ite, clo_bad, clo_ask,
 List.map_cons, List.map_nil, List.length_cons, List.length_nil, List.replicate, List.cons_append, List.nil_append, List.append_nil, List.getElem?_cons_zero, List.getElem?_cons_succ, List.getElem?_nil, List.set_cons_zero, List.set_cons_succ,
 vget_zero, vget_succ, vb_add, vb_adds, vb_addt, vb_addl, vb_sub, vb_mul, vb_mull, vb_fdiv, vb_mod, vb_pow, vc_eq, vc_ne, vc_isnon, vc_notnon, vc_lt, vc_le, vc_gt, vc_ge, vo_lt, vo_le, vo_gt, vo_ge, vn_int, vi_tup, vi_lst, vi_str, vs_tup, vs_lst, vf_nd, vf_ref, bf_len_tup, bf_len_lst, bf_len_str, bf_abs, bf_int, bf_tuple_tup, bf_tuple_lst, bf_list_tup, bf_list_lst, bf_str_int, bf_str_str, bf_all, bf_any, mk_f, mk_t, at0, at1, at2, at3, look, ofW, ofWs, vEq_int, vEq_bl, or_ok, and_ok, not_ok, na10, ev_take, Int.reduceLE, Int.reduceLT, Int.reduceToNat, Int.reducePow, Int.reduceAdd, Int.reduceMul, Int.reduceSub, Int.reduceNeg, Nat.reducePow, Nat.reduceLT, Nat.reduceLeDiff, and_self, true_and, and_true, AT_bind, AT_ok, AT_exc, AT_bad, AT_ask, AT_ite, Option.map_some, tgsLen_cons, tgsLen_nil, Nat.reduceAdd, Nat.reduceSub, if_true, if_false, Bool.not_true, Bool.not_false, reduceCtorEq, isNon, ite_true, ite_false, if_pos, e_vI_chr, vc_isin, vc_notin, vc_isfls, vs_str, bf_int_str, bf_list_str, bm_split, bm_join, rc_split, rc_sindex, rc_join, b2, bx', by', bgg, gz, ne_eq, not_false_eq_true, and_self, fl0, fl1, Int.neg_one_mul, lo2 c, true_and, putN, Nat.reduceLT, Int.reduceNeg]
  rw [e]
  simp only [e_vE_var, e_vE_cst, e_vE_bin, e_vE_neg, e_vE_cmp, e_vE_cmp2, e_vE_and, e_vE_or, e_vE_not, e_vE_ite, e_vE_tup, e_vE_lst, e_vE_fmt, e_vE_js, e_vE_idx, e_vE_sl, e_vE_fld, e_vE_call, e_vE_callK, e_vE_make, e_vE_makeK, e_vE_meth, e_vE_bif, e_vE_bm, e_vE_isi, e_vE_own, e_vEs_nil, e_vEs_cons, e_vJ_nil, e_vJ_cons, e_vAll_nil, e_vAll_cons, e_vEo_no, e_vEo_so, e_vI_of, e_vI_rng1, e_vI_rng2, e_vI_enm, e_vI_zip, e_vTg_nm, e_vTg_fld, e_vTg_sub, e_vTg_tp, e_vS_asg, e_vS_aug, e_vS_augS, e_vS_augF, e_vS_exp, e_vS_ret, e_vS_retN, e_vS_ifs, e_vS_pas, e_vS_brk, e_vS_cont, e_vS_never, e_vSs_nil, e_vSs_cons, e_vS_whl, e_vS_fr, e_vE_lc, e_vE_dct, e_vTgs_nil, e_vTgs_cons, bind_ok, catch_ok, catch_exc, noE_ok, e_vS_rais, e_vS_tr, bind_bad, bind_exc, bind_ask, Pv.bind_ite, Pv.bind_assoc, Pv.opt_some, Pv.opt_none, brT_bl, startD, fnR, clo_ite, clo_bad, clo_ask,
 List.map_cons, List.map_nil, List.length_cons, List.length_nil, List.replicate, List.cons_append, List.nil_append, List.append_nil, List.getElem?_cons_zero, List.getElem?_cons_succ, List.getElem?_nil, List.set_cons_zero, List.set_cons_succ,
 vget_zero, vget_succ, vb_add, vb_adds, vb_addt, vb_addl, vb_sub, vb_mul, vb_mull, vb_fdiv, vb_mod, vb_pow, vc_eq, vc_ne, vc_isnon, vc_notnon, vc_lt, vc_le, vc_gt, vc_ge, vo_lt, vo_le, vo_gt, vo_ge, vn_int, vi_tup, vi_lst, vi_str, vs_tup, vs_lst, vf_nd, vf_ref, bf_len_tup, bf_len_lst, bf_len_str, bf_abs, bf_int, bf_tuple_tup, bf_tuple_lst, bf_list_tup, bf_list_lst, bf_str_int, bf_str_str, bf_all, bf_any, mk_f, mk_t, at0, at1, at2, at3, look, ofW, ofWs, vEq_int, vEq_bl, or_ok, and_ok, not_ok, na10, ev_take, Int.reduceLE, Int.reduceLT, Int.reduceToNat, Int.reducePow, Int.reduceAdd, Int.reduceMul, Int.reduceSub, Int.reduceNeg, Nat.reducePow, Nat.reduceLT, Nat.reduceLeDiff, and_self, true_and, and_true, AT_bind, AT_ok, AT_exc, AT_bad, AT_ask, AT_ite, Option.map_some, tgsLen_cons, tgsLen_nil, Nat.reduceAdd, Nat.reduceSub, if_true, if_false, Bool.not_true, Bool.not_false, reduceCtorEq, isNon, ite_true, ite_false, if_pos, e_vI_chr, vc_isin, vc_notin, vc_isfls, vs_str, bf_int_str, bf_list_str, bm_split, bm_join, rc_split, rc_sindex, rc_join]
  rfl
theorem loop33 {F : Fv} {a b : V} : ∀ (k m n : Nat), n < k → whlV (tab D) F CF WF (.cmp .gt (.var 3) (.cst (.int 0))) (.cons (.asg (.tp (.cons (.nm 2) (.cons (.nm 3) .nil))) (.tup (.cons (.var 3) (.cons (.bin .mod (.var 2) (.var 3)) .nil)))) .nil) k [some a, some b, some (.int m), some (.int n)] s = .ok (.nx [some a, some b, some (.int (Nat.gcd m n)), some (.int 0)]) s
  | 0, m, n, h => by omega
  | k + 1, m, n, h => by
    rw [whlV_succ]
    by_cases z : n = 0
    · subst z
      simp only [e_vE_var, e_vE_cst, e_vE_bin, e_vE_neg, e_vE_cmp, e_vE_cmp2, e_vE_and, e_vE_or, e_vE_not, e_vE_ite, e_vE_tup, e_vE_lst, e_vE_fmt, e_vE_js, e_vE_idx, e_vE_sl, e_vE_fld, e_vE_call, e_vE_callK, e_vE_make, e_vE_makeK, e_vE_meth, e_vE_bif, e_vE_bm, e_vE_isi, e_vE_own, e_vEs_nil, e_vEs_cons, e_vJ_nil, e_vJ_cons, e_vAll_nil, e_vAll_cons, e_vEo_no, e_vEo_so, e_vI_of, e_vI_rng1, e_vI_rng2, e_vI_enm, e_vI_zip, e_vTg_nm, e_vTg_fld, e_vTg_sub, e_vTg_tp, e_vS_asg, e_vS_aug, e_vS_augS, e_vS_augF, e_vS_exp, e_vS_ret, e_vS_retN, e_vS_ifs, e_vS_pas, e_vS_brk, e_vS_cont, e_vS_never, e_vSs_nil, e_vSs_cons, e_vS_whl, e_vS_fr, e_vE_lc, e_vE_dct, e_vTgs_nil, e_vTgs_cons, bind_ok, catch_ok, catch_exc, noE_ok, e_vS_rais, e_vS_tr, bind_bad, bind_exc, bind_ask, Pv.bind_ite, Pv.bind_assoc, Pv.opt_some, Pv.opt_none, brT_bl, startD, fnR, clo_ite, clo_bad, clo_ask,
 List.map_cons, List.map_nil, List.length_cons, List.length_nil, List.replicate, List.cons_append, List.nil_append, List.append_nil, List.getElem?_cons_zero, List.getElem?_cons_succ, List.getElem?_nil, List.set_cons_zero, List.set_cons_succ,
 vget_zero, vget_succ, vb_add, vb_adds, vb_addt, vb_addl, vb_sub, vb_mul, vb_mull, vb_fdiv, vb_mod, vb_pow, vc_eq, vc_ne, vc_isnon, vc_notnon, vc_lt, vc_le, vc_gt, vc_ge, vo_lt, vo_le, vo_gt, vo_ge, vn_int, vi_tup, vi_lst, vi_str, vs_tup, vs_lst, vf_nd, vf_ref, bf_len_tup, bf_len_lst, bf_len_str, bf_abs, bf_int, bf_tuple_tup, bf_tuple_lst, bf_list_tup, bf_list_lst, bf_str_int, bf_str_str, bf_all, bf_any, mk_f, mk_t, at0, at1, at2, at3, look, ofW, ofWs, vEq_int, vEq_bl, or_ok, and_ok, not_ok, na10, ev_take, Int.reduceLE, Int.reduceLT, Int.reduceToNat, Int.reducePow, Int.reduceAdd, Int.reduceMul, Int.reduceSub, Int.reduceNeg, Nat.reducePow, Nat.reduceLT, Nat.reduceLeDiff, and_self, true_and, and_true, AT_bind, AT_ok, AT_exc, AT_bad, AT_ask, AT_ite, Option.map_some, tgsLen_cons, tgsLen_nil, Nat.reduceAdd, Nat.reduceSub, if_true, if_false, Bool.not_true, Bool.not_false, reduceCtorEq, isNon, ite_true, ite_false, if_pos, e_vI_chr, vc_isin, vc_notin, vc_isfls, vs_str, bf_int_str, bf_list_str, bm_split, bm_join, rc_split, rc_sindex, rc_join]
      simp
    · have p : 0 < n := by omega
      have p' : ¬ ((n : Int) = 0) := by omega
      have p2 : (0 : Int) < n := by omega
      simp only [e_vE_var, e_vE_cst, e_vE_bin, e_vE_neg, e_vE_cmp, e_vE_cmp2, e_vE_and, e_vE_or, e_vE_not, e_vE_ite, e_vE_tup, e_vE_lst, e_vE_fmt, e_vE_js, e_vE_idx, e_vE_sl, e_vE_fld, e_vE_call, e_vE_callK, e_vE_make, e_vE_makeK, e_vE_meth, e_vE_bif, e_vE_bm, e_vE_isi, e_vE_own, e_vEs_nil, e_vEs_cons, e_vJ_nil, e_vJ_cons, e_vAll_nil, e_vAll_cons, e_vEo_no, e_vEo_so, e_vI_of, e_vI_rng1, e_vI_rng2, e_vI_enm, e_vI_zip, e_vTg_nm, e_vTg_fld, e_vTg_sub, e_vTg_tp, e_vS_asg, e_vS_aug, e_vS_augS, e_vS_augF, e_vS_exp, e_vS_ret, e_vS_retN, e_vS_ifs, e_vS_pas, e_vS_brk, e_vS_cont, e_vS_never, e_vSs_nil, e_vSs_cons, e_vS_whl, e_vS_fr, e_vE_lc, e_vE_dct, e_vTgs_nil, e_vTgs_cons, bind_ok, catch_ok, catch_exc, noE_ok, e_vS_rais, e_vS_tr, bind_bad, bind_exc, bind_ask, Pv.bind_ite, Pv.bind_assoc, Pv.opt_some, Pv.opt_none, brT_bl, startD, fnR, clo_ite, clo_bad, clo_ask,
 List.map_cons, List.map_nil, List.length_cons, List.length_nil, List.replicate, List.cons_append, List.nil_append, List.append_nil, List.getElem?_cons_zero, List.getElem?_cons_succ, List.getElem?_nil, List.set_cons_zero, List.set_cons_succ,
 vget_zero, vget_succ, vb_add, vb_adds, vb_addt, vb_addl, vb_sub, vb_mul, vb_mull, vb_fdiv, vb_mod, vb_pow, vc_eq, vc_ne, vc_isnon, vc_notnon, vc_lt, vc_le, vc_gt, vc_ge, vo_lt, vo_le, vo_gt, vo_ge, vn_int, vi_tup, vi_lst, vi_str, vs_tup, vs_lst, vf_nd, vf_ref, bf_len_tup, bf_len_lst, bf_len_str, bf_abs, bf_int, bf_tuple_tup, bf_tuple_lst, bf_list_tup, bf_list_lst, bf_str_int, bf_str_str, bf_all, bf_any, mk_f, mk_t, at0, at1, at2, at3, look, ofW, ofWs, vEq_int, vEq_bl, or_ok, and_ok, not_ok, na10, ev_take, Int.reduceLE, Int.reduceLT, Int.reduceToNat, Int.reducePow, Int.reduceAdd, Int.reduceMul, Int.reduceSub, Int.reduceNeg, Nat.reducePow, Nat.reduceLT, Nat.reduceLeDiff, and_self, true_and, and_true, AT_bind, AT_ok, AT_exc, AT_bad, AT_ask, AT_ite, Option.map_some, tgsLen_cons, tgsLen_nil, Nat.reduceAdd, Nat.reduceSub, if_true, if_false, Bool.not_true, Bool.not_false, reduceCtorEq, isNon, ite_true, ite_false, if_pos, e_vI_chr, vc_isin, vc_notin, vc_isfls, vs_str, bf_int_str, bf_list_str, bm_split, bm_join, rc_split, rc_sindex, rc_join, decide_eq_true p2, p', ne_eq, not_false_eq_true, fmodN m n p]
      rw [loop33 k n (m % n) (by have := Nat.mod_lt m p; omega), gcd_step p]
theorem f33 {x y : Int} {n : Nat} (hy : y ≠ 0) (b : Bd n y) (hn : n ≤ 4000) : ev (tab D) (Bo D) CF WF (d + 1) 33 [.int x, .int y] s = .ok (TW (lo x y)) s := by
  refine (ev_at (Df := ⟨2, 4, m_33⟩) rfl (by decide) rfl rfl rfl).trans ?_
  unfold m_33
  have g0 := gcd_pos (x := x) hy
  have gz : ¬ ((Int.gcd x y : Int)) = 0 := by omega
  have bgg : bg (Int.gcd x y) = true := by
    refine bg_bd' (n := n) ?_ (by omega)
    unfold Bd
    refine Nat.lt_of_le_of_lt ?_ b
    simp
    exact Nat.le_of_dvd (by omega) (Int.gcd_dvd_natAbs_right x y)
  simp only [e_vE_var, e_vE_cst, e_vE_bin, e_vE_neg, e_vE_cmp, e_vE_cmp2, e_vE_and, e_vE_or, e_vE_not, e_vE_ite, e_vE_tup, e_vE_lst, e_vE_fmt, e_vE_js, e_vE_idx, e_vE_sl, e_vE_fld, e_vE_call, e_vE_callK, e_vE_make, e_vE_makeK, e_vE_meth, e_vE_bif, e_vE_bm, e_vE_isi, e_vE_own, e_vEs_nil, e_vEs_cons, e_vJ_nil, e_vJ_cons, e_vAll_nil, e_vAll_cons, e_vEo_no, e_vEo_so, e_vI_of, e_vI_rng1, e_vI_rng2, e_vI_enm, e_vI_zip, e_vTg_nm, e_vTg_fld, e_vTg_sub, e_vTg_tp, e_vS_asg, e_vS_aug, e_vS_augS, e_vS_augF, e_vS_exp, e_vS_ret, e_vS_retN, e_vS_ifs, e_vS_pas, e_vS_brk, e_vS_cont, e_vS_never, e_vSs_nil, e_vSs_cons, e_vS_whl, e_vS_fr, e_vE_lc, e_vE_dct, e_vTgs_nil, e_vTgs_cons, bind_ok, catch_ok, catch_exc, noE_ok, e_vS_rais, e_vS_tr, bind_bad, bind_exc, bind_ask, Pv.bind_ite, Pv.bind_assoc, Pv.opt_some, Pv.opt_none, brT_bl, startD, fnR, clo_ite, clo_bad, clo_ask,
 List.map_cons, List.map_nil, List.length_cons, List.length_nil, List.replicate, List.cons_append, List.nil_append, List.append_nil, List.getElem?_cons_zero, List.getElem?_cons_succ, List.getElem?_nil, List.set_cons_zero, List.set_cons_succ,
 vget_zero, vget_succ, vb_add, vb_adds, vb_addt, vb_addl, vb_sub, vb_mul, vb_mull, vb_fdiv, vb_mod, vb_pow, vc_eq, vc_ne, vc_isnon, vc_notnon, vc_lt, vc_le, vc_gt, vc_ge, vo_lt, vo_le, vo_gt, vo_ge, vn_int, vi_tup, vi_lst, vi_str, vs_tup, vs_lst, vf_nd, vf_ref, bf_len_tup, bf_len_lst, bf_len_str, bf_abs, bf_int, bf_tuple_tup, bf_tuple_lst, bf_list_tup, bf_list_lst, bf_str_int, bf_str_str, bf_all, bf_any, mk_f, mk_t, at0, at1, at2, at3, look, ofW, ofWs, vEq_int, vEq_bl, or_ok, and_ok, not_ok, na10, ev_take, Int.reduceLE, Int.reduceLT, Int.reduceToNat, Int.reducePow, Int.reduceAdd, Int.reduceMul, Int.reduceSub, Int.reduceNeg, Nat.reducePow, Nat.reduceLT, Nat.reduceLeDiff, and_self, true_and, and_true, AT_bind, AT_ok, AT_exc, AT_bad, AT_ask, AT_ite, Option.map_some, tgsLen_cons, tgsLen_nil, Nat.reduceAdd, Nat.reduceSub, if_true, if_false, Bool.not_true, Bool.not_false, reduceCtorEq, isNon, ite_true, ite_false, if_pos, e_vI_chr, vc_isin, vc_notin, vc_isfls, vs_str, bf_int_str, bf_list_str, bm_split, bm_join, rc_split, rc_sindex, rc_join, vBif, absD]
  rw [loop33 _ _ _ (wfB b (by omega))]
  simp only [e_vE_var, e_vE_cst, e_vE_bin, e_vE_neg, e_vE_cmp, e_vE_cmp2, e_vE_and, e_vE_or, e_vE_not, e_vE_ite, e_vE_tup, e_vE_lst, e_vE_fmt, e_vE_js, e_vE_idx, e_vE_sl, e_vE_fld, e_vE_call, e_vE_callK, e_vE_make, e_vE_makeK, e_vE_meth, e_vE_bif, e_vE_bm, e_vE_isi, e_vE_own, e_vEs_nil, e_vEs_cons, e_vJ_nil, e_vJ_cons, e_vAll_nil, e_vAll_cons, e_vEo_no, e_vEo_so, e_vI_of, e_vI_rng1, e_vI_rng2, e_vI_enm, e_vI_zip, e_vTg_nm, e_vTg_fld, e_vTg_sub, e_vTg_tp, e_vS_asg, e_vS_aug, e_vS_augS, e_vS_augF, e_vS_exp, e_vS_ret, e_vS_retN, e_vS_ifs, e_vS_pas, e_vS_brk, e_vS_cont, e_vS_never, e_vSs_nil, e_vSs_cons, e_vS_whl, e_vS_fr, e_vE_lc, e_vE_dct, e_vTgs_nil, e_vTgs_cons, bind_ok, catch_ok, catch_exc, noE_ok, e_vS_rais, e_vS_tr, bind_bad, bind_exc, bind_ask, Pv.bind_ite, Pv.bind_assoc, Pv.opt_some, Pv.opt_none, brT_bl, startD, fnR, clo_ite, clo_bad, clo_ask,
 List.map_cons, List.map_nil, List.length_cons, List.length_nil, List.replicate, List.cons_append, List.nil_append, List.append_nil, List.getElem?_cons_zero, List.getElem?_cons_succ, List.getElem?_nil, List.set_cons_zero, List.set_cons_succ,
 vget_zero, vget_succ, vb_add, vb_adds, vb_addt, vb_addl, vb_sub, vb_mul, vb_mull, vb_fdiv, vb_mod, vb_pow, vc_eq, vc_ne, vc_isnon, vc_notnon, vc_lt, vc_le, vc_gt, vc_ge, vo_lt, vo_le, vo_gt, vo_ge, vn_int, vi_tup, vi_lst, vi_str, vs_tup, vs_lst, vf_nd, vf_ref, bf_len_tup, bf_len_lst, bf_len_str, bf_abs, bf_int, bf_tuple_tup, bf_tuple_lst, bf_list_tup, bf_list_lst, bf_str_int, bf_str_str, bf_all, bf_any, mk_f, mk_t, at0, at1, at2, at3, look, ofW, ofWs, vEq_int, vEq_bl, or_ok, and_ok, not_ok, na10, ev_take, Int.reduceLE, Int.reduceLT, Int.reduceToNat, Int.reducePow, Int.reduceAdd, Int.reduceMul, Int.reduceSub, Int.reduceNeg, Nat.reducePow, Nat.reduceLT, Nat.reduceLeDiff, and_self, true_and, and_true, AT_bind, AT_ok, AT_exc, AT_bad, AT_ask, AT_ite, Option.map_some, tgsLen_cons, tgsLen_nil, Nat.reduceAdd, Nat.reduceSub, if_true, if_false, Bool.not_true, Bool.not_false, reduceCtorEq, isNon, ite_true, ite_false, if_pos, e_vI_chr, vc_isin, vc_notin, vc_isfls, vs_str, bf_int_str, bf_list_str, bm_split, bm_join, rc_split, rc_sindex, rc_join, gcdA, decide_eq_true_eq]
  unfold lo
  by_cases c : 0 < y
  · simp only [c, e_vE_var, e_vE_cst, e_vE_bin, e_vE_neg, e_vE_cmp, e_vE_cmp2, e_vE_and, e_vE_or, e_vE_not, e_vE_ite, e_vE_tup, e_vE_lst, e_vE_fmt, e_vE_js, e_vE_idx, e_vE_sl, e_vE_fld, e_vE_call, e_vE_callK, e_vE_make, e_vE_makeK, e_vE_meth, e_vE_bif, e_vE_bm, e_vE_isi, e_vE_own, e_vEs_nil, e_vEs_cons, e_vJ_nil, e_vJ_cons, e_vAll_nil, e_vAll_cons, e_vEo_no, e_vEo_so, e_vI_of, e_vI_rng1, e_vI_rng2, e_vI_enm, e_vI_zip, e_vTg_nm, e_vTg_fld, e_vTg_sub, e_vTg_tp, e_vS_asg, e_vS_aug, e_vS_augS, e_vS_augF, e_vS_exp, e_vS_ret, e_vS_retN, e_vS_ifs, e_vS_pas, e_vS_brk, e_vS_cont, e_vS_never, e_vSs_nil, e_vSs_cons, e_vS_whl, e_vS_fr, e_vE_lc, e_vE_dct, e_vTgs_nil, e_vTgs_cons, bind_ok, catch_ok, catch_exc, noE_ok, e_vS_rais, e_vS_tr, bind_bad, bind_exc, bind_ask, Pv.bind_ite, Pv.bind_assoc, Pv.opt_some, Pv.opt_none, brT_bl, startD, fnR, clo_ite, clo_bad, clo_ask,
 List.map_cons, List.map_nil, List.length_cons, List.length_nil, List.replicate, List.cons_append, List.nil_append, List.append_nil, List.getElem?_cons_zero, List.getElem?_cons_succ, List.getElem?_nil, List.set_cons_zero, List.set_cons_succ,
 vget_zero, vget_succ, vb_add, vb_adds, vb_addt, vb_addl, vb_sub, vb_mul, vb_mull, vb_fdiv, vb_mod, vb_pow, vc_eq, vc_ne, vc_isnon, vc_notnon, vc_lt, vc_le, vc_gt, vc_ge, vo_lt, vo_le, vo_gt, vo_ge, vn_int, vi_tup, vi_lst, vi_str, vs_tup, vs_lst, vf_nd, vf_ref, bf_len_tup, bf_len_lst, bf_len_str, bf_abs, bf_int, bf_tuple_tup, bf_tuple_lst, bf_list_tup, bf_list_lst, bf_str_int, bf_str_str, bf_all, bf_any, mk_f, mk_t, at0, at1, at2, at3, look, ofW, ofWs, vEq_int, vEq_bl, or_ok, and_ok, not_ok, na10, ev_take, Int.reduceLE, Int.reduceLT, Int.reduceToNat, Int.reducePow, Int.reduceAdd, Int.reduceMul, Int.reduceSub, Int.reduceNeg, Nat.reducePow, Nat.reduceLT, Nat.reduceLeDiff, and_self, true_and, and_true, AT_bind, AT_ok, AT_exc, AT_bad, AT_ask, AT_ite, Option.map_some, tgsLen_cons, tgsLen_nil, Nat.reduceAdd, Nat.reduceSub, if_true, if_false, Bool.not_true, Bool.not_false, reduceCtorEq, isNon, ite_true, ite_false, if_pos, e_vI_chr, vc_isin, vc_notin, vc_isfls, vs_str, bf_int_str, bf_list_str, bm_split, bm_join, rc_split, rc_sindex, rc_join, bgg, gz, ne_eq, not_false_eq_true, and_self]
    rfl
  · simp only [c, e_vE_var, e_vE_cst, e_vE_bin, e_vE_neg, e_vE_cmp, e_vE_cmp2, e_vE_and, e_vE_or, e_vE_not, e_vE_ite, e_vE_tup, e_vE_lst, e_vE_fmt, e_vE_js, e_vE_idx, e_vE_sl, e_vE_fld, e_vE_call, e_vE_callK, e_vE_make, e_vE_makeK, e_vE_meth, e_vE_bif, e_vE_bm, e_vE_isi, e_vE_own, e_vEs_nil, e_vEs_cons, e_vJ_nil, e_vJ_cons, e_vAll_nil, e_vAll_cons, e_vEo_no, e_vEo_so, e_vI_of, e_vI_rng1, e_vI_rng2, e_vI_enm, e_vI_zip, e_vTg_nm, e_vTg_fld, e_vTg_sub, e_vTg_tp, e_vS_asg, e_vS_aug, e_vS_augS, e_vS_augF, e_vS_exp, e_vS_ret, e_vS_retN, e_vS_ifs, e_vS_pas, e_vS_brk, e_vS_cont, e_vS_never, e_vSs_nil, e_vSs_cons, e_vS_whl, e_vS_fr, e_vE_lc, e_vE_dct, e_vTgs_nil, e_vTgs_cons, bind_ok, catch_ok, catch_exc, noE_ok, e_vS_rais, e_vS_tr, bind_bad, bind_exc, bind_ask, Pv.bind_ite, Pv.bind_assoc, Pv.opt_some, Pv.opt_none, brT_bl, startD, fnR, clo_ite, clo_bad, clo_ask,
 List.map_cons, List.map_nil, List.length_cons, List.length_nil, List.replicate, List.cons_append, List.nil_append, List.append_nil, List.getElem?_cons_zero, List.getElem?_cons_succ, List.getElem?_nil, List.set_cons_zero, List.set_cons_succ,
 vget_zero, vget_succ, vb_add, vb_adds, vb_addt, vb_addl, vb_sub, vb_mul, vb_mull, vb_fdiv, vb_mod, vb_pow, vc_eq, vc_ne, vc_isnon, vc_notnon, vc_lt, vc_le, vc_gt, vc_ge, vo_lt, vo_le, vo_gt, vo_ge, vn_int, vi_tup, vi_lst, vi_str, vs_tup, vs_lst, vf_nd, vf_ref, bf_len_tup, bf_len_lst, bf_len_str, bf_abs, bf_int, bf_tuple_tup, bf_tuple_lst, bf_list_tup, bf_list_lst, bf_str_int, bf_str_str, bf_all, bf_any, mk_f, mk_t, at0, at1, at2, at3, look, ofW, ofWs, vEq_int, vEq_bl, or_ok, and_ok, not_ok, na10, ev_take, Int.reduceLE, Int.reduceLT, Int.reduceToNat, Int.reducePow, Int.reduceAdd, Int.reduceMul, Int.reduceSub, Int.reduceNeg, Nat.reducePow, Nat.reduceLT, Nat.reduceLeDiff, and_self, true_and, and_true, AT_bind, AT_ok, AT_exc, AT_bad, AT_ask, AT_ite, Option.map_some, tgsLen_cons, tgsLen_nil, Nat.reduceAdd, Nat.reduceSub, if_true, if_false, Bool.not_true, Bool.not_false, reduceCtorEq, isNon, ite_true, ite_false, if_pos, e_vI_chr, vc_isin, vc_notin, vc_isfls, vs_str, bf_int_str, bf_list_str, bm_split, bm_join, rc_split, rc_sindex, rc_join, bgg, gz, ne_eq, not_false_eq_true, and_self]
    rfl
/-- one of some things -/
theorem one_all {xs : List V} {P : V → Sto → Prop} {E : Nat → List (Nat × V) → Sto → Prop} (h0 : xs ≠ []) (h1 : xs.length < 1000) (hc : ∀ x ∈ xs, clean x = true) (h : ∀ x ∈ xs, P x s) : AT (ev (tab D) (Bo D) CF WF (d + 2) 4 [.drw, .nd .lst xs] s) P E := by
  have cs : cleans xs = true := by
    clear h h0 h1
    induction xs with
    | nil => rfl
    | cons x xs ih => simp only [cleans, hc x (by simp), ih (fun y m => hc y (by simp [m])), Bool.and_self]
  rw [ev_at (Df := ⟨2, 2, m_4⟩) rfl (by decide) rfl (by simp [cleans, clean, cs]) rfl]
  unfold m_4
  have hl : 0 < xs.length := List.length_pos_iff.mpr h0
  simp only [e_vE_var, e_vE_cst, e_vE_bin, e_vE_neg, e_vE_cmp, e_vE_cmp2, e_vE_and, e_vE_or, e_vE_not, e_vE_ite, e_vE_tup, e_vE_lst, e_vE_fmt, e_vE_js, e_vE_idx, e_vE_sl, e_vE_fld, e_vE_call, e_vE_callK, e_vE_make, e_vE_makeK, e_vE_meth, e_vE_bif, e_vE_bm, e_vE_isi, e_vE_own, e_vEs_nil, e_vEs_cons, e_vJ_nil, e_vJ_cons, e_vAll_nil, e_vAll_cons, e_vEo_no, e_vEo_so, e_vI_of, e_vI_rng1, e_vI_rng2, e_vI_enm, e_vI_zip, e_vTg_nm, e_vTg_fld, e_vTg_sub, e_vTg_tp, e_vS_asg, e_vS_aug, e_vS_augS, e_vS_augF, e_vS_exp, e_vS_ret, e_vS_retN, e_vS_ifs, e_vS_pas, e_vS_brk, e_vS_cont, e_vS_never, e_vSs_nil, e_vSs_cons, e_vS_whl, e_vS_fr, e_vE_lc, e_vE_dct, e_vTgs_nil, e_vTgs_cons, bind_ok, catch_ok, catch_exc, noE_ok, e_vS_rais, e_vS_tr, bind_bad, bind_exc, bind_ask, Pv.bind_ite, Pv.bind_assoc, Pv.opt_some, Pv.opt_none, brT_bl, startD, fnR, clo_ite, clo_bad, clo_ask,
 List.map_cons, List.map_nil, List.length_cons, List.length_nil, List.replicate, List.cons_append, List.nil_append, List.append_nil, List.getElem?_cons_zero, List.getElem?_cons_succ, List.getElem?_nil, List.set_cons_zero, List.set_cons_succ,
 vget_zero, vget_succ, vb_add, vb_adds, vb_addt, vb_addl, vb_sub, vb_mul, vb_mull, vb_fdiv, vb_mod, vb_pow, vc_eq, vc_ne, vc_isnon, vc_notnon, vc_lt, vc_le, vc_gt, vc_ge, vo_lt, vo_le, vo_gt, vo_ge, vn_int, vi_tup, vi_lst, vi_str, vs_tup, vs_lst, vf_nd, vf_ref, bf_len_tup, bf_len_lst, bf_len_str, bf_abs, bf_int, bf_tuple_tup, bf_tuple_lst, bf_list_tup, bf_list_lst, bf_str_int, bf_str_str, bf_all, bf_any, mk_f, mk_t, at0, at1, at2, at3, look, ofW, ofWs, vEq_int, vEq_bl, or_ok, and_ok, not_ok, na10, ev_take, Int.reduceLE, Int.reduceLT, Int.reduceToNat, Int.reducePow, Int.reduceAdd, Int.reduceMul, Int.reduceSub, Int.reduceNeg, Nat.reducePow, Nat.reduceLT, Nat.reduceLeDiff, and_self, true_and, and_true, AT_bind, AT_ok, AT_exc, AT_bad, AT_ask, AT_ite, Option.map_some, tgsLen_cons, tgsLen_nil, Nat.reduceAdd, Nat.reduceSub, if_true, if_false, Bool.not_true, Bool.not_false, reduceCtorEq, isNon, ite_true, ite_false, if_pos, e_vI_chr, vc_isin, vc_notin, vc_isfls, vs_str, bf_int_str, bf_list_str, bm_split, bm_join, rc_split, rc_sindex, rc_join]
  rw [if_pos ⟨by omega, by omega⟩]
  intro i h2 h3
  obtain ⟨x, m, e⟩ := atI_lt h2 h3
  simp only [e_vE_var, e_vE_cst, e_vE_bin, e_vE_neg, e_vE_cmp, e_vE_cmp2, e_vE_and, e_vE_or, e_vE_not, e_vE_ite, e_vE_tup, e_vE_lst, e_vE_fmt, e_vE_js, e_vE_idx, e_vE_sl, e_vE_fld, e_vE_call, e_vE_callK, e_vE_make, e_vE_makeK, e_vE_meth, e_vE_bif, e_vE_bm, e_vE_isi, e_vE_own, e_vEs_nil, e_vEs_cons, e_vJ_nil, e_vJ_cons, e_vAll_nil, e_vAll_cons, e_vEo_no, e_vEo_so, e_vI_of, e_vI_rng1, e_vI_rng2, e_vI_enm, e_vI_zip, e_vTg_nm, e_vTg_fld, e_vTg_sub, e_vTg_tp, e_vS_asg, e_vS_aug, e_vS_augS, e_vS_augF, e_vS_exp, e_vS_ret, e_vS_retN, e_vS_ifs, e_vS_pas, e_vS_brk, e_vS_cont, e_vS_never, e_vSs_nil, e_vSs_cons, e_vS_whl, e_vS_fr, e_vE_lc, e_vE_dct, e_vTgs_nil, e_vTgs_cons, bind_ok, catch_ok, catch_exc, noE_ok, e_vS_rais, e_vS_tr, bind_bad, bind_exc, bind_ask, Pv.bind_ite, Pv.bind_assoc, Pv.opt_some, Pv.opt_none, brT_bl, startD, fnR, clo_ite, clo_bad, clo_ask,
 List.map_cons, List.map_nil, List.length_cons, List.length_nil, List.replicate, List.cons_append, List.nil_append, List.append_nil, List.getElem?_cons_zero, List.getElem?_cons_succ, List.getElem?_nil, List.set_cons_zero, List.set_cons_succ,
 vget_zero, vget_succ, vb_add, vb_adds, vb_addt, vb_addl, vb_sub, vb_mul, vb_mull, vb_fdiv, vb_mod, vb_pow, vc_eq, vc_ne, vc_isnon, vc_notnon, vc_lt, vc_le, vc_gt, vc_ge, vo_lt, vo_le, vo_gt, vo_ge, vn_int, vi_tup, vi_lst, vi_str, vs_tup, vs_lst, vf_nd, vf_ref, bf_len_tup, bf_len_lst, bf_len_str, bf_abs, bf_int, bf_tuple_tup, bf_tuple_lst, bf_list_tup, bf_list_lst, bf_str_int, bf_str_str, bf_all, bf_any, mk_f, mk_t, at0, at1, at2, at3, look, ofW, ofWs, vEq_int, vEq_bl, or_ok, and_ok, not_ok, na10, ev_take, Int.reduceLE, Int.reduceLT, Int.reduceToNat, Int.reducePow, Int.reduceAdd, Int.reduceMul, Int.reduceSub, Int.reduceNeg, Nat.reducePow, Nat.reduceLT, Nat.reduceLeDiff, and_self, true_and, and_true, AT_bind, AT_ok, AT_exc, AT_bad, AT_ask, AT_ite, Option.map_some, tgsLen_cons, tgsLen_nil, Nat.reduceAdd, Nat.reduceSub, if_true, if_false, Bool.not_true, Bool.not_false, reduceCtorEq, isNon, ite_true, ite_false, if_pos, e_vI_chr, vc_isin, vc_notin, vc_isfls, vs_str, bf_int_str, bf_list_str, bm_split, bm_join, rc_split, rc_sindex, rc_join, e]
  rw [clo_ok (hc x m), AT_ok]
  exact h x m
theorem f36 {P : V → Sto → Prop} {E : Nat → List (Nat × V) → Sto → Prop} (h : ∀ i, Bd 98 i → P (.int i) s) : AT (ev (tab D) (Bo D) CF WF (d + 3) 36 [.drw] s) P E := by
  rw [ev_at (Df := ⟨1, 2, m_36⟩) rfl (by decide) rfl rfl rfl]
  unfold m_36
  refine AT_clo ?_
  have b5 : bg 5 = true := bg_of (by decide) (by decide)
  have b17 : bg 100000000000000000 = true := bg_of (by decide) (by decide)
  simp only [e_vE_var, e_vE_cst, e_vE_bin, e_vE_neg, e_vE_cmp, e_vE_cmp2, e_vE_and, e_vE_or, e_vE_not, e_vE_ite, e_vE_tup, e_vE_lst, e_vE_fmt, e_vE_js, e_vE_idx, e_vE_sl, e_vE_fld, e_vE_call, e_vE_callK, e_vE_make, e_vE_makeK, e_vE_meth, e_vE_bif, e_vE_bm, e_vE_isi, e_vE_own, e_vEs_nil, e_vEs_cons, e_vJ_nil, e_vJ_cons, e_vAll_nil, e_vAll_cons, e_vEo_no, e_vEo_so, e_vI_of, e_vI_rng1, e_vI_rng2, e_vI_enm, e_vI_zip, e_vTg_nm, e_vTg_fld, e_vTg_sub, e_vTg_tp, e_vS_asg, e_vS_aug, e_vS_augS, e_vS_augF, e_vS_exp, e_vS_ret, e_vS_retN, e_vS_ifs, e_vS_pas, e_vS_brk, e_vS_cont, e_vS_never, e_vSs_nil, e_vSs_cons, e_vS_whl, e_vS_fr, e_vE_lc, e_vE_dct, e_vTgs_nil, e_vTgs_cons, bind_ok, catch_ok, catch_exc, noE_ok, e_vS_rais, e_vS_tr, bind_bad, bind_exc, bind_ask, Pv.bind_ite, Pv.bind_assoc, Pv.opt_some, Pv.opt_none, brT_bl, startD, fnR, clo_ite, clo_bad, clo_ask,
 List.map_cons, List.map_nil, List.length_cons, List.length_nil, List.replicate, List.cons_append, List.nil_append, List.append_nil, List.getElem?_cons_zero, List.getElem?_cons_succ, List.getElem?_nil, List.set_cons_zero, List.set_cons_succ,
 vget_zero, vget_succ, vb_add, vb_adds, vb_addt, vb_addl, vb_sub, vb_mul, vb_mull, vb_fdiv, vb_mod, vb_pow, vc_eq, vc_ne, vc_isnon, vc_notnon, vc_lt, vc_le, vc_gt, vc_ge, vo_lt, vo_le, vo_gt, vo_ge, vn_int, vi_tup, vi_lst, vi_str, vs_tup, vs_lst, vf_nd, vf_ref, bf_len_tup, bf_len_lst, bf_len_str, bf_abs, bf_int, bf_tuple_tup, bf_tuple_lst, bf_list_tup, bf_list_lst, bf_str_int, bf_str_str, bf_all, bf_any, mk_f, mk_t, at0, at1, at2, at3, look, ofW, ofWs, vEq_int, vEq_bl, or_ok, and_ok, not_ok, na10, ev_take, Int.reduceLE, Int.reduceLT, Int.reduceToNat, Int.reducePow, Int.reduceAdd, Int.reduceMul, Int.reduceSub, Int.reduceNeg, Nat.reducePow, Nat.reduceLT, Nat.reduceLeDiff, and_self, true_and, and_true, AT_bind, AT_ok, AT_exc, AT_bad, AT_ask, AT_ite, Option.map_some, tgsLen_cons, tgsLen_nil, Nat.reduceAdd, Nat.reduceSub, if_true, if_false, Bool.not_true, Bool.not_false, reduceCtorEq, isNon, ite_true, ite_false, if_pos, e_vI_chr, vc_isin, vc_notin, vc_isfls, vs_str, bf_int_str, bf_list_str, bm_split, bm_join, rc_split, rc_sindex, rc_join, b5, b17]
  intro i i0 i1 j j0 j1
  have bd : ∀ k : Int, -(2 ^ 98) < k → k < 2 ^ 98 → Bd 98 k := fun k h1 h2 => by unfold Bd; omega
  refine one_all (by simp) (by simp) ?_ ?_
  · simp [clean]
  · intro v m
    simp only [List.mem_cons, List.not_mem_nil, or_false] at m
    rcases m with rfl | rfl | rfl | rfl | rfl | rfl | rfl
    all_goals refine ⟨_, fz_clean rfl, h _ (bd _ ?_ ?_)⟩ <;> omega

/-! ### figures -/
theorem l47 : Str.ofString "/" = SX.S [47] := by rw [Str.ofString_eq_toList]; rfl
theorem l45 : Str.ofString "-" = SX.S [45] := by rw [Str.ofString_eq_toList]; rfl
theorem l48 : Str.ofString "0" = SX.S [48] := by rw [Str.ofString_eq_toList]; rfl
theorem l49 : Str.ofString "1" = SX.S [49] := by rw [Str.ofString_eq_toList]; rfl
theorem l0 : Str.ofString "" = SX.S [] := by rw [Str.ofString_eq_toList]; rfl
abbrev DG : List Nat := [48, 49, 50, 51, 52, 53, 54, 55, 56, 57]
theorem lDG : Str.ofString "0123456789" = SX.S DG := by rw [Str.ofString_eq_toList]; rfl
theorem in_dg (c : Nat) : decide (c ∈ DG) = dig c := by
  unfold dig
  rw [← Bool.decide_and]
  refine decide_eq_decide.mpr ?_
  simp only [List.mem_cons, List.not_mem_nil, or_false]
  omega
theorem ok_mem {a : List Nat} (h : ok7 a = true) {c : Nat} (m : c ∈ a) : ok7 [c] = true := by
  unfold ok7 at *
  rw [List.all_eq_true] at h
  simp only [List.all_cons, List.all_nil, Bool.and_true]
  exact h c m
theorem okDG : ok7 DG = true := by decide
theorem atS0 {a : List Nat} {c : Nat} {r : List Nat} (e : a = c :: r) : L2.atI (SX.S a).cps.toList 0 = some c := by
  subst e
  exact at0
theorem fig_eq (cs : List Nat) : (!(decide (cs = []) || !cs.all dig) && (decide (cs = [48]) || !decide (cs.head? = some 48))) = fig cs := by
  unfold fig
  cases cs with
  | nil => rfl
  | cons c r => simp
theorem f38 {cs : List Nat} (ok : ok7 cs = true) (hl : cs.length ≤ 1000) : ev (tab D) (Bo D) CF WF (d + 1) 38 [.str (SX.S cs)] s = .ok (.bl (fig cs)) s := by
  refine (ev_at (Df := ⟨1, 2, m_38⟩) rfl (by decide) rfl rfl rfl).trans ?_
  unfold m_38
  have lc : ∀ s : Sto, lcV (tab D) (ev (tab D) (Bo D) CF WF d) CF (.cmp .isin (.var 1) (.cst (.str (Str.ofString "0123456789")))) (.nm 1) .nil [some (.str (SX.S cs)), none] [] (cs.map fun c => .str (SX.S [c])) [] s = .ok (cs.map fun c => .bl (dig c)) s := fun s => by
    refine lcV_mapL (fun c m => ?_) (by unfold sizeLine; omega)
    unfold lcS
    simp only [e_vE_var, e_vE_cst, e_vE_bin, e_vE_neg, e_vE_cmp, e_vE_cmp2, e_vE_and, e_vE_or, e_vE_not, e_vE_ite, e_vE_tup, e_vE_lst, e_vE_fmt, e_vE_js, e_vE_idx, e_vE_sl, e_vE_fld, e_vE_call, e_vE_callK, e_vE_make, e_vE_makeK, e_vE_meth, e_vE_bif, e_vE_bm, e_vE_isi, e_vE_own, e_vEs_nil, e_vEs_cons, e_vJ_nil, e_vJ_cons, e_vAll_nil, e_vAll_cons, e_vEo_no, e_vEo_so, e_vI_of, e_vI_rng1, e_vI_rng2, e_vI_enm, e_vI_zip, e_vTg_nm, e_vTg_fld, e_vTg_sub, e_vTg_tp, e_vS_asg, e_vS_aug, e_vS_augS, e_vS_augF, e_vS_exp, e_vS_ret, e_vS_retN, e_vS_ifs, e_vS_pas, e_vS_brk, e_vS_cont, e_vS_never, e_vSs_nil, e_vSs_cons, e_vS_whl, e_vS_fr, e_vE_lc, e_vE_dct, e_vTgs_nil, e_vTgs_cons, bind_ok, catch_ok, catch_exc, noE_ok, e_vS_rais, e_vS_tr, bind_bad, bind_exc, bind_ask, Pv.bind_ite, Pv.bind_assoc, Pv.opt_some, Pv.opt_none, brT_bl, startD, fnR, clo_ite, clo_bad, clo_ask,
 List.map_cons, List.map_nil, List.length_cons, List.length_nil, List.replicate, List.cons_append, List.nil_append, List.append_nil, List.getElem?_cons_zero, List.getElem?_cons_succ, List.getElem?_nil, List.set_cons_zero, List.set_cons_succ,
 vget_zero, vget_succ, vb_add, vb_adds, vb_addt, vb_addl, vb_sub, vb_mul, vb_mull, vb_fdiv, vb_mod, vb_pow, vc_eq, vc_ne, vc_isnon, vc_notnon, vc_lt, vc_le, vc_gt, vc_ge, vo_lt, vo_le, vo_gt, vo_ge, vn_int, vi_tup, vi_lst, vi_str, vs_tup, vs_lst, vf_nd, vf_ref, bf_len_tup, bf_len_lst, bf_len_str, bf_abs, bf_int, bf_tuple_tup, bf_tuple_lst, bf_list_tup, bf_list_lst, bf_str_int, bf_str_str, bf_all, bf_any, mk_f, mk_t, at0, at1, at2, at3, look, ofW, ofWs, vEq_int, vEq_bl, or_ok, and_ok, not_ok, na10, ev_take, Int.reduceLE, Int.reduceLT, Int.reduceToNat, Int.reducePow, Int.reduceAdd, Int.reduceMul, Int.reduceSub, Int.reduceNeg, Nat.reducePow, Nat.reduceLT, Nat.reduceLeDiff, and_self, true_and, and_true, AT_bind, AT_ok, AT_exc, AT_bad, AT_ask, AT_ite, Option.map_some, tgsLen_cons, tgsLen_nil, Nat.reduceAdd, Nat.reduceSub, if_true, if_false, Bool.not_true, Bool.not_false, reduceCtorEq, isNon, ite_true, ite_false, if_pos, e_vI_chr, vc_isin, vc_notin, vc_isfls, vs_str, bf_int_str, bf_list_str, bm_split, bm_join, rc_split, rc_sindex, rc_join, lDG, vIn_S, in_dg, Bool.false_eq_true]
  simp only [e_vE_var, e_vE_cst, e_vE_bin, e_vE_neg, e_vE_cmp, e_vE_cmp2, e_vE_and, e_vE_or, e_vE_not, e_vE_ite, e_vE_tup, e_vE_lst, e_vE_fmt, e_vE_js, e_vE_idx, e_vE_sl, e_vE_fld, e_vE_call, e_vE_callK, e_vE_make, e_vE_makeK, e_vE_meth, e_vE_bif, e_vE_bm, e_vE_isi, e_vE_own, e_vEs_nil, e_vEs_cons, e_vJ_nil, e_vJ_cons, e_vAll_nil, e_vAll_cons, e_vEo_no, e_vEo_so, e_vI_of, e_vI_rng1, e_vI_rng2, e_vI_enm, e_vI_zip, e_vTg_nm, e_vTg_fld, e_vTg_sub, e_vTg_tp, e_vS_asg, e_vS_aug, e_vS_augS, e_vS_augF, e_vS_exp, e_vS_ret, e_vS_retN, e_vS_ifs, e_vS_pas, e_vS_brk, e_vS_cont, e_vS_never, e_vSs_nil, e_vSs_cons, e_vS_whl, e_vS_fr, e_vE_lc, e_vE_dct, e_vTgs_nil, e_vTgs_cons, bind_ok, catch_ok, catch_exc, noE_ok, e_vS_rais, e_vS_tr, bind_bad, bind_exc, bind_ask, Pv.bind_ite, Pv.bind_assoc, Pv.opt_some, Pv.opt_none, brT_bl, startD, fnR, clo_ite, clo_bad, clo_ask,
 List.map_cons, List.map_nil, List.length_cons, List.length_nil, List.replicate, List.cons_append, List.nil_append, List.append_nil, List.getElem?_cons_zero, List.getElem?_cons_succ, List.getElem?_nil, List.set_cons_zero, List.set_cons_succ,
 vget_zero, vget_succ, vb_add, vb_adds, vb_addt, vb_addl, vb_sub, vb_mul, vb_mull, vb_fdiv, vb_mod, vb_pow, vc_eq, vc_ne, vc_isnon, vc_notnon, vc_lt, vc_le, vc_gt, vc_ge, vo_lt, vo_le, vo_gt, vo_ge, vn_int, vi_tup, vi_lst, vi_str, vs_tup, vs_lst, vf_nd, vf_ref, bf_len_tup, bf_len_lst, bf_len_str, bf_abs, bf_int, bf_tuple_tup, bf_tuple_lst, bf_list_tup, bf_list_lst, bf_str_int, bf_str_str, bf_all, bf_any, mk_f, mk_t, at0, at1, at2, at3, look, ofW, ofWs, vEq_int, vEq_bl, or_ok, and_ok, not_ok, na10, ev_take, Int.reduceLE, Int.reduceLT, Int.reduceToNat, Int.reducePow, Int.reduceAdd, Int.reduceMul, Int.reduceSub, Int.reduceNeg, Nat.reducePow, Nat.reduceLT, Nat.reduceLeDiff, and_self, true_and, and_true, AT_bind, AT_ok, AT_exc, AT_bad, AT_ask, AT_ite, Option.map_some, tgsLen_cons, tgsLen_nil, Nat.reduceAdd, Nat.reduceSub, if_true, if_false, Bool.not_true, Bool.not_false, reduceCtorEq, isNon, ite_true, ite_false, if_pos, e_vI_chr, vc_isin, vc_notin, vc_isfls, vs_str, bf_int_str, bf_list_str, bm_split, bm_join, rc_split, rc_sindex, rc_join, l0, vEq_S ok (show ok7 [] = true from rfl), Bool.false_eq_true, wipeD, chrD_S, lc, boolsD_map, all_map, or_ok, not_ok]
  rw [← fig_eq]
  by_cases z : cs = []
  · subst z
    simp only [decide_true, Bool.true_or, e_vE_var, e_vE_cst, e_vE_bin, e_vE_neg, e_vE_cmp, e_vE_cmp2, e_vE_and, e_vE_or, e_vE_not, e_vE_ite, e_vE_tup, e_vE_lst, e_vE_fmt, e_vE_js, e_vE_idx, e_vE_sl, e_vE_fld, e_vE_call, e_vE_callK, e_vE_make, e_vE_makeK, e_vE_meth, e_vE_bif, e_vE_bm, e_vE_isi, e_vE_own, e_vEs_nil, e_vEs_cons, e_vJ_nil, e_vJ_cons, e_vAll_nil, e_vAll_cons, e_vEo_no, e_vEo_so, e_vI_of, e_vI_rng1, e_vI_rng2, e_vI_enm, e_vI_zip, e_vTg_nm, e_vTg_fld, e_vTg_sub, e_vTg_tp, e_vS_asg, e_vS_aug, e_vS_augS, e_vS_augF, e_vS_exp, e_vS_ret, e_vS_retN, e_vS_ifs, e_vS_pas, e_vS_brk, e_vS_cont, e_vS_never, e_vSs_nil, e_vSs_cons, e_vS_whl, e_vS_fr, e_vE_lc, e_vE_dct, e_vTgs_nil, e_vTgs_cons, bind_ok, catch_ok, catch_exc, noE_ok, e_vS_rais, e_vS_tr, bind_bad, bind_exc, bind_ask, Pv.bind_ite, Pv.bind_assoc, Pv.opt_some, Pv.opt_none, brT_bl, startD, fnR, clo_ite, clo_bad, clo_ask,
 List.map_cons, List.map_nil, List.length_cons, List.length_nil, List.replicate, List.cons_append, List.nil_append, List.append_nil, List.getElem?_cons_zero, List.getElem?_cons_succ, List.getElem?_nil, List.set_cons_zero, List.set_cons_succ,
 vget_zero, vget_succ, vb_add, vb_adds, vb_addt, vb_addl, vb_sub, vb_mul, vb_mull, vb_fdiv, vb_mod, vb_pow, vc_eq, vc_ne, vc_isnon, vc_notnon, vc_lt, vc_le, vc_gt, vc_ge, vo_lt, vo_le, vo_gt, vo_ge, vn_int, vi_tup, vi_lst, vi_str, vs_tup, vs_lst, vf_nd, vf_ref, bf_len_tup, bf_len_lst, bf_len_str, bf_abs, bf_int, bf_tuple_tup, bf_tuple_lst, bf_list_tup, bf_list_lst, bf_str_int, bf_str_str, bf_all, bf_any, mk_f, mk_t, at0, at1, at2, at3, look, ofW, ofWs, vEq_int, vEq_bl, or_ok, and_ok, not_ok, na10, ev_take, Int.reduceLE, Int.reduceLT, Int.reduceToNat, Int.reducePow, Int.reduceAdd, Int.reduceMul, Int.reduceSub, Int.reduceNeg, Nat.reducePow, Nat.reduceLT, Nat.reduceLeDiff, and_self, true_and, and_true, AT_bind, AT_ok, AT_exc, AT_bad, AT_ask, AT_ite, Option.map_some, tgsLen_cons, tgsLen_nil, Nat.reduceAdd, Nat.reduceSub, if_true, if_false, Bool.not_true, Bool.not_false, reduceCtorEq, isNon, ite_true, ite_false, if_pos, e_vI_chr, vc_isin, vc_notin, vc_isfls, vs_str, bf_int_str, bf_list_str, bm_split, bm_join, rc_split, rc_sindex, rc_join]
    rfl
  · obtain ⟨c, r, rfl⟩ : ∃ c r, cs = c :: r := by
      cases cs with
      | nil => exact absurd rfl z
      | cons c r => exact ⟨c, r, rfl⟩
    have hz : decide ((c :: r) = []) = false := decide_eq_false z
    have ls : (SX.S (c :: r)).length ≤ sizeLine := by rw [SX.S_len]; unfold sizeLine; omega
    simp only [hz, Bool.false_or]
    by_cases q : (c :: r).all dig = true
    · have hd : (c :: r).head? = some c := rfl
      have e0 : decide (some c = some 48) = decide ([c] = [48]) := decide_eq_decide.mpr (by simp)
      simp only [q, e_vE_var, e_vE_cst, e_vE_bin, e_vE_neg, e_vE_cmp, e_vE_cmp2, e_vE_and, e_vE_or, e_vE_not, e_vE_ite, e_vE_tup, e_vE_lst, e_vE_fmt, e_vE_js, e_vE_idx, e_vE_sl, e_vE_fld, e_vE_call, e_vE_callK, e_vE_make, e_vE_makeK, e_vE_meth, e_vE_bif, e_vE_bm, e_vE_isi, e_vE_own, e_vEs_nil, e_vEs_cons, e_vJ_nil, e_vJ_cons, e_vAll_nil, e_vAll_cons, e_vEo_no, e_vEo_so, e_vI_of, e_vI_rng1, e_vI_rng2, e_vI_enm, e_vI_zip, e_vTg_nm, e_vTg_fld, e_vTg_sub, e_vTg_tp, e_vS_asg, e_vS_aug, e_vS_augS, e_vS_augF, e_vS_exp, e_vS_ret, e_vS_retN, e_vS_ifs, e_vS_pas, e_vS_brk, e_vS_cont, e_vS_never, e_vSs_nil, e_vSs_cons, e_vS_whl, e_vS_fr, e_vE_lc, e_vE_dct, e_vTgs_nil, e_vTgs_cons, bind_ok, catch_ok, catch_exc, noE_ok, e_vS_rais, e_vS_tr, bind_bad, bind_exc, bind_ask, Pv.bind_ite, Pv.bind_assoc, Pv.opt_some, Pv.opt_none, brT_bl, startD, fnR, clo_ite, clo_bad, clo_ask,
 List.map_cons, List.map_nil, List.length_cons, List.length_nil, List.replicate, List.cons_append, List.nil_append, List.append_nil, List.getElem?_cons_zero, List.getElem?_cons_succ, List.getElem?_nil, List.set_cons_zero, List.set_cons_succ,
 vget_zero, vget_succ, vb_add, vb_adds, vb_addt, vb_addl, vb_sub, vb_mul, vb_mull, vb_fdiv, vb_mod, vb_pow, vc_eq, vc_ne, vc_isnon, vc_notnon, vc_lt, vc_le, vc_gt, vc_ge, vo_lt, vo_le, vo_gt, vo_ge, vn_int, vi_tup, vi_lst, vi_str, vs_tup, vs_lst, vf_nd, vf_ref, bf_len_tup, bf_len_lst, bf_len_str, bf_abs, bf_int, bf_tuple_tup, bf_tuple_lst, bf_list_tup, bf_list_lst, bf_str_int, bf_str_str, bf_all, bf_any, mk_f, mk_t, at0, at1, at2, at3, look, ofW, ofWs, vEq_int, vEq_bl, or_ok, and_ok, not_ok, na10, ev_take, Int.reduceLE, Int.reduceLT, Int.reduceToNat, Int.reducePow, Int.reduceAdd, Int.reduceMul, Int.reduceSub, Int.reduceNeg, Nat.reducePow, Nat.reduceLT, Nat.reduceLeDiff, and_self, true_and, and_true, AT_bind, AT_ok, AT_exc, AT_bad, AT_ask, AT_ite, Option.map_some, tgsLen_cons, tgsLen_nil, Nat.reduceAdd, Nat.reduceSub, if_true, if_false, Bool.not_true, Bool.not_false, reduceCtorEq, isNon, ite_true, ite_false, if_pos, e_vI_chr, vc_isin, vc_notin, vc_isfls, vs_str, bf_int_str, bf_list_str, bm_split, bm_join, rc_split, rc_sindex, rc_join, Bool.not_true, Bool.false_eq_true, l48, vEq_S ok (show ok7 [48] = true from rfl), ls, atS0 rfl, vEq_S (ok_mem ok (List.mem_cons_self ..)) (show ok7 [48] = true from rfl), or_ok, hd, Bool.not_false, Bool.true_and, e0]
      rfl
    · have q : (c :: r).all dig = false := by simpa using q
      simp only [q, e_vE_var, e_vE_cst, e_vE_bin, e_vE_neg, e_vE_cmp, e_vE_cmp2, e_vE_and, e_vE_or, e_vE_not, e_vE_ite, e_vE_tup, e_vE_lst, e_vE_fmt, e_vE_js, e_vE_idx, e_vE_sl, e_vE_fld, e_vE_call, e_vE_callK, e_vE_make, e_vE_makeK, e_vE_meth, e_vE_bif, e_vE_bm, e_vE_isi, e_vE_own, e_vEs_nil, e_vEs_cons, e_vJ_nil, e_vJ_cons, e_vAll_nil, e_vAll_cons, e_vEo_no, e_vEo_so, e_vI_of, e_vI_rng1, e_vI_rng2, e_vI_enm, e_vI_zip, e_vTg_nm, e_vTg_fld, e_vTg_sub, e_vTg_tp, e_vS_asg, e_vS_aug, e_vS_augS, e_vS_augF, e_vS_exp, e_vS_ret, e_vS_retN, e_vS_ifs, e_vS_pas, e_vS_brk, e_vS_cont, e_vS_never, e_vSs_nil, e_vSs_cons, e_vS_whl, e_vS_fr, e_vE_lc, e_vE_dct, e_vTgs_nil, e_vTgs_cons, bind_ok, catch_ok, catch_exc, noE_ok, e_vS_rais, e_vS_tr, bind_bad, bind_exc, bind_ask, Pv.bind_ite, Pv.bind_assoc, Pv.opt_some, Pv.opt_none, brT_bl, startD, fnR, clo_ite, clo_bad, clo_ask,
 List.map_cons, List.map_nil, List.length_cons, List.length_nil, List.replicate, List.cons_append, List.nil_append, List.append_nil, List.getElem?_cons_zero, List.getElem?_cons_succ, List.getElem?_nil, List.set_cons_zero, List.set_cons_succ,
 vget_zero, vget_succ, vb_add, vb_adds, vb_addt, vb_addl, vb_sub, vb_mul, vb_mull, vb_fdiv, vb_mod, vb_pow, vc_eq, vc_ne, vc_isnon, vc_notnon, vc_lt, vc_le, vc_gt, vc_ge, vo_lt, vo_le, vo_gt, vo_ge, vn_int, vi_tup, vi_lst, vi_str, vs_tup, vs_lst, vf_nd, vf_ref, bf_len_tup, bf_len_lst, bf_len_str, bf_abs, bf_int, bf_tuple_tup, bf_tuple_lst, bf_list_tup, bf_list_lst, bf_str_int, bf_str_str, bf_all, bf_any, mk_f, mk_t, at0, at1, at2, at3, look, ofW, ofWs, vEq_int, vEq_bl, or_ok, and_ok, not_ok, na10, ev_take, Int.reduceLE, Int.reduceLT, Int.reduceToNat, Int.reducePow, Int.reduceAdd, Int.reduceMul, Int.reduceSub, Int.reduceNeg, Nat.reducePow, Nat.reduceLT, Nat.reduceLeDiff, and_self, true_and, and_true, AT_bind, AT_ok, AT_exc, AT_bad, AT_ask, AT_ite, Option.map_some, tgsLen_cons, tgsLen_nil, Nat.reduceAdd, Nat.reduceSub, if_true, if_false, Bool.not_true, Bool.not_false, reduceCtorEq, isNon, ite_true, ite_false, if_pos, e_vI_chr, vc_isin, vc_notin, vc_isfls, vs_str, bf_int_str, bf_list_str, bm_split, bm_join, rc_split, rc_sindex, rc_join, Bool.not_false, Bool.not_true, Bool.false_and]
      rfl
theorem f34 {cs : List Nat} (ok : ok7 cs = true) (hl : cs.length ≤ 1000) : ev (tab D) (Bo D) CF WF (d + 1) 34 [.str (SX.S cs)] s = .ok (.bl (fig cs)) s := by
  refine (ev_at (Df := ⟨1, 2, m_34⟩) rfl (by decide) rfl rfl rfl).trans ?_
  unfold m_34
  have lc : ∀ s : Sto, lcV (tab D) (ev (tab D) (Bo D) CF WF d) CF (.cmp .isin (.var 1) (.cst (.str (Str.ofString "0123456789")))) (.nm 1) .nil [some (.str (SX.S cs)), none] [] (cs.map fun c => .str (SX.S [c])) [] s = .ok (cs.map fun c => .bl (dig c)) s := fun s => by
    refine lcV_mapL (fun c m => ?_) (by unfold sizeLine; omega)
    unfold lcS
    simp only [e_vE_var, e_vE_cst, e_vE_bin, e_vE_neg, e_vE_cmp, e_vE_cmp2, e_vE_and, e_vE_or, e_vE_not, e_vE_ite, e_vE_tup, e_vE_lst, e_vE_fmt, e_vE_js, e_vE_idx, e_vE_sl, e_vE_fld, e_vE_call, e_vE_callK, e_vE_make, e_vE_makeK, e_vE_meth, e_vE_bif, e_vE_bm, e_vE_isi, e_vE_own, e_vEs_nil, e_vEs_cons, e_vJ_nil, e_vJ_cons, e_vAll_nil, e_vAll_cons, e_vEo_no, e_vEo_so, e_vI_of, e_vI_rng1, e_vI_rng2, e_vI_enm, e_vI_zip, e_vTg_nm, e_vTg_fld, e_vTg_sub, e_vTg_tp, e_vS_asg, e_vS_aug, e_vS_augS, e_vS_augF, e_vS_exp, e_vS_ret, e_vS_retN, e_vS_ifs, e_vS_pas, e_vS_brk, e_vS_cont, e_vS_never, e_vSs_nil, e_vSs_cons, e_vS_whl, e_vS_fr, e_vE_lc, e_vE_dct, e_vTgs_nil, e_vTgs_cons, bind_ok, catch_ok, catch_exc, noE_ok, e_vS_rais, e_vS_tr, bind_bad, bind_exc, bind_ask, Pv.bind_ite, Pv.bind_assoc, Pv.opt_some, Pv.opt_none, brT_bl, startD, fnR, clo_ite, clo_bad, clo_ask,
 List.map_cons, List.map_nil, List.length_cons, List.length_nil, List.replicate, List.cons_append, List.nil_append, List.append_nil, List.getElem?_cons_zero, List.getElem?_cons_succ, List.getElem?_nil, List.set_cons_zero, List.set_cons_succ,
 vget_zero, vget_succ, vb_add, vb_adds, vb_addt, vb_addl, vb_sub, vb_mul, vb_mull, vb_fdiv, vb_mod, vb_pow, vc_eq, vc_ne, vc_isnon, vc_notnon, vc_lt, vc_le, vc_gt, vc_ge, vo_lt, vo_le, vo_gt, vo_ge, vn_int, vi_tup, vi_lst, vi_str, vs_tup, vs_lst, vf_nd, vf_ref, bf_len_tup, bf_len_lst, bf_len_str, bf_abs, bf_int, bf_tuple_tup, bf_tuple_lst, bf_list_tup, bf_list_lst, bf_str_int, bf_str_str, bf_all, bf_any, mk_f, mk_t, at0, at1, at2, at3, look, ofW, ofWs, vEq_int, vEq_bl, or_ok, and_ok, not_ok, na10, ev_take, Int.reduceLE, Int.reduceLT, Int.reduceToNat, Int.reducePow, Int.reduceAdd, Int.reduceMul, Int.reduceSub, Int.reduceNeg, Nat.reducePow, Nat.reduceLT, Nat.reduceLeDiff, and_self, true_and, and_true, AT_bind, AT_ok, AT_exc, AT_bad, AT_ask, AT_ite, Option.map_some, tgsLen_cons, tgsLen_nil, Nat.reduceAdd, Nat.reduceSub, if_true, if_false, Bool.not_true, Bool.not_false, reduceCtorEq, isNon, ite_true, ite_false, if_pos, e_vI_chr, vc_isin, vc_notin, vc_isfls, vs_str, bf_int_str, bf_list_str, bm_split, bm_join, rc_split, rc_sindex, rc_join, lDG, vIn_S, in_dg, Bool.false_eq_true]
  have ls : (SX.S cs).length ≤ sizeLine := by rw [SX.S_len]; unfold sizeLine; omega
  simp only [e_vE_var, e_vE_cst, e_vE_bin, e_vE_neg, e_vE_cmp, e_vE_cmp2, e_vE_and, e_vE_or, e_vE_not, e_vE_ite, e_vE_tup, e_vE_lst, e_vE_fmt, e_vE_js, e_vE_idx, e_vE_sl, e_vE_fld, e_vE_call, e_vE_callK, e_vE_make, e_vE_makeK, e_vE_meth, e_vE_bif, e_vE_bm, e_vE_isi, e_vE_own, e_vEs_nil, e_vEs_cons, e_vJ_nil, e_vJ_cons, e_vAll_nil, e_vAll_cons, e_vEo_no, e_vEo_so, e_vI_of, e_vI_rng1, e_vI_rng2, e_vI_enm, e_vI_zip, e_vTg_nm, e_vTg_fld, e_vTg_sub, e_vTg_tp, e_vS_asg, e_vS_aug, e_vS_augS, e_vS_augF, e_vS_exp, e_vS_ret, e_vS_retN, e_vS_ifs, e_vS_pas, e_vS_brk, e_vS_cont, e_vS_never, e_vSs_nil, e_vSs_cons, e_vS_whl, e_vS_fr, e_vE_lc, e_vE_dct, e_vTgs_nil, e_vTgs_cons, bind_ok, catch_ok, catch_exc, noE_ok, e_vS_rais, e_vS_tr, bind_bad, bind_exc, bind_ask, Pv.bind_ite, Pv.bind_assoc, Pv.opt_some, Pv.opt_none, brT_bl, startD, fnR, clo_ite, clo_bad, clo_ask,
 List.map_cons, List.map_nil, List.length_cons, List.length_nil, List.replicate, List.cons_append, List.nil_append, List.append_nil, List.getElem?_cons_zero, List.getElem?_cons_succ, List.getElem?_nil, List.set_cons_zero, List.set_cons_succ,
 vget_zero, vget_succ, vb_add, vb_adds, vb_addt, vb_addl, vb_sub, vb_mul, vb_mull, vb_fdiv, vb_mod, vb_pow, vc_eq, vc_ne, vc_isnon, vc_notnon, vc_lt, vc_le, vc_gt, vc_ge, vo_lt, vo_le, vo_gt, vo_ge, vn_int, vi_tup, vi_lst, vi_str, vs_tup, vs_lst, vf_nd, vf_ref, bf_len_tup, bf_len_lst, bf_len_str, bf_abs, bf_int, bf_tuple_tup, bf_tuple_lst, bf_list_tup, bf_list_lst, bf_str_int, bf_str_str, bf_all, bf_any, mk_f, mk_t, at0, at1, at2, at3, look, ofW, ofWs, vEq_int, vEq_bl, or_ok, and_ok, not_ok, na10, ev_take, Int.reduceLE, Int.reduceLT, Int.reduceToNat, Int.reducePow, Int.reduceAdd, Int.reduceMul, Int.reduceSub, Int.reduceNeg, Nat.reducePow, Nat.reduceLT, Nat.reduceLeDiff, and_self, true_and, and_true, AT_bind, AT_ok, AT_exc, AT_bad, AT_ask, AT_ite, Option.map_some, tgsLen_cons, tgsLen_nil, Nat.reduceAdd, Nat.reduceSub, if_true, if_false, Bool.not_true, Bool.not_false, reduceCtorEq, isNon, ite_true, ite_false, if_pos, e_vI_chr, vc_isin, vc_notin, vc_isfls, vs_str, bf_int_str, bf_list_str, bm_split, bm_join, rc_split, rc_sindex, rc_join, l0, l48, vEq_S ok (show ok7 [] = true from rfl), vEq_S ok (show ok7 [48] = true from rfl), Bool.false_eq_true, wipeD, chrD_S, lc, boolsD_map, all_map, ls]
  rw [← fig_eq]
  by_cases z : cs = []
  · subst z
    simp only [decide_true, decide_false, Bool.true_or, e_vE_var, e_vE_cst, e_vE_bin, e_vE_neg, e_vE_cmp, e_vE_cmp2, e_vE_and, e_vE_or, e_vE_not, e_vE_ite, e_vE_tup, e_vE_lst, e_vE_fmt, e_vE_js, e_vE_idx, e_vE_sl, e_vE_fld, e_vE_call, e_vE_callK, e_vE_make, e_vE_makeK, e_vE_meth, e_vE_bif, e_vE_bm, e_vE_isi, e_vE_own, e_vEs_nil, e_vEs_cons, e_vJ_nil, e_vJ_cons, e_vAll_nil, e_vAll_cons, e_vEo_no, e_vEo_so, e_vI_of, e_vI_rng1, e_vI_rng2, e_vI_enm, e_vI_zip, e_vTg_nm, e_vTg_fld, e_vTg_sub, e_vTg_tp, e_vS_asg, e_vS_aug, e_vS_augS, e_vS_augF, e_vS_exp, e_vS_ret, e_vS_retN, e_vS_ifs, e_vS_pas, e_vS_brk, e_vS_cont, e_vS_never, e_vSs_nil, e_vSs_cons, e_vS_whl, e_vS_fr, e_vE_lc, e_vE_dct, e_vTgs_nil, e_vTgs_cons, bind_ok, catch_ok, catch_exc, noE_ok, e_vS_rais, e_vS_tr, bind_bad, bind_exc, bind_ask, Pv.bind_ite, Pv.bind_assoc, Pv.opt_some, Pv.opt_none, brT_bl, startD, fnR, clo_ite, clo_bad, clo_ask,
 List.map_cons, List.map_nil, List.length_cons, List.length_nil, List.replicate, List.cons_append, List.nil_append, List.append_nil, List.getElem?_cons_zero, List.getElem?_cons_succ, List.getElem?_nil, List.set_cons_zero, List.set_cons_succ,
 vget_zero, vget_succ, vb_add, vb_adds, vb_addt, vb_addl, vb_sub, vb_mul, vb_mull, vb_fdiv, vb_mod, vb_pow, vc_eq, vc_ne, vc_isnon, vc_notnon, vc_lt, vc_le, vc_gt, vc_ge, vo_lt, vo_le, vo_gt, vo_ge, vn_int, vi_tup, vi_lst, vi_str, vs_tup, vs_lst, vf_nd, vf_ref, bf_len_tup, bf_len_lst, bf_len_str, bf_abs, bf_int, bf_tuple_tup, bf_tuple_lst, bf_list_tup, bf_list_lst, bf_str_int, bf_str_str, bf_all, bf_any, mk_f, mk_t, at0, at1, at2, at3, look, ofW, ofWs, vEq_int, vEq_bl, or_ok, and_ok, not_ok, na10, ev_take, Int.reduceLE, Int.reduceLT, Int.reduceToNat, Int.reducePow, Int.reduceAdd, Int.reduceMul, Int.reduceSub, Int.reduceNeg, Nat.reducePow, Nat.reduceLT, Nat.reduceLeDiff, and_self, true_and, and_true, AT_bind, AT_ok, AT_exc, AT_bad, AT_ask, AT_ite, Option.map_some, tgsLen_cons, tgsLen_nil, Nat.reduceAdd, Nat.reduceSub, if_true, if_false, Bool.not_true, Bool.not_false, reduceCtorEq, isNon, ite_true, ite_false, if_pos, e_vI_chr, vc_isin, vc_notin, vc_isfls, vs_str, bf_int_str, bf_list_str, bm_split, bm_join, rc_split, rc_sindex, rc_join, reduceCtorEq, Bool.false_eq_true, Bool.not_true]
    rfl
  · obtain ⟨c, r, rfl⟩ : ∃ c r, cs = c :: r := by
      cases cs with
      | nil => exact absurd rfl z
      | cons c r => exact ⟨c, r, rfl⟩
    have hz : decide ((c :: r) = []) = false := decide_eq_false z
    have hd : (c :: r).head? = some c := rfl
    have e0 : decide (some c = some 48) = decide ([c] = [48]) := decide_eq_decide.mpr (by simp)
    simp only [hz, e_vE_var, e_vE_cst, e_vE_bin, e_vE_neg, e_vE_cmp, e_vE_cmp2, e_vE_and, e_vE_or, e_vE_not, e_vE_ite, e_vE_tup, e_vE_lst, e_vE_fmt, e_vE_js, e_vE_idx, e_vE_sl, e_vE_fld, e_vE_call, e_vE_callK, e_vE_make, e_vE_makeK, e_vE_meth, e_vE_bif, e_vE_bm, e_vE_isi, e_vE_own, e_vEs_nil, e_vEs_cons, e_vJ_nil, e_vJ_cons, e_vAll_nil, e_vAll_cons, e_vEo_no, e_vEo_so, e_vI_of, e_vI_rng1, e_vI_rng2, e_vI_enm, e_vI_zip, e_vTg_nm, e_vTg_fld, e_vTg_sub, e_vTg_tp, e_vS_asg, e_vS_aug, e_vS_augS, e_vS_augF, e_vS_exp, e_vS_ret, e_vS_retN, e_vS_ifs, e_vS_pas, e_vS_brk, e_vS_cont, e_vS_never, e_vSs_nil, e_vSs_cons, e_vS_whl, e_vS_fr, e_vE_lc, e_vE_dct, e_vTgs_nil, e_vTgs_cons, bind_ok, catch_ok, catch_exc, noE_ok, e_vS_rais, e_vS_tr, bind_bad, bind_exc, bind_ask, Pv.bind_ite, Pv.bind_assoc, Pv.opt_some, Pv.opt_none, brT_bl, startD, fnR, clo_ite, clo_bad, clo_ask,
 List.map_cons, List.map_nil, List.length_cons, List.length_nil, List.replicate, List.cons_append, List.nil_append, List.append_nil, List.getElem?_cons_zero, List.getElem?_cons_succ, List.getElem?_nil, List.set_cons_zero, List.set_cons_succ,
 vget_zero, vget_succ, vb_add, vb_adds, vb_addt, vb_addl, vb_sub, vb_mul, vb_mull, vb_fdiv, vb_mod, vb_pow, vc_eq, vc_ne, vc_isnon, vc_notnon, vc_lt, vc_le, vc_gt, vc_ge, vo_lt, vo_le, vo_gt, vo_ge, vn_int, vi_tup, vi_lst, vi_str, vs_tup, vs_lst, vf_nd, vf_ref, bf_len_tup, bf_len_lst, bf_len_str, bf_abs, bf_int, bf_tuple_tup, bf_tuple_lst, bf_list_tup, bf_list_lst, bf_str_int, bf_str_str, bf_all, bf_any, mk_f, mk_t, at0, at1, at2, at3, look, ofW, ofWs, vEq_int, vEq_bl, or_ok, and_ok, not_ok, na10, ev_take, Int.reduceLE, Int.reduceLT, Int.reduceToNat, Int.reducePow, Int.reduceAdd, Int.reduceMul, Int.reduceSub, Int.reduceNeg, Nat.reducePow, Nat.reduceLT, Nat.reduceLeDiff, and_self, true_and, and_true, AT_bind, AT_ok, AT_exc, AT_bad, AT_ask, AT_ite, Option.map_some, tgsLen_cons, tgsLen_nil, Nat.reduceAdd, Nat.reduceSub, if_true, if_false, Bool.not_true, Bool.not_false, reduceCtorEq, isNon, ite_true, ite_false, if_pos, e_vI_chr, vc_isin, vc_notin, vc_isfls, vs_str, bf_int_str, bf_list_str, bm_split, bm_join, rc_split, rc_sindex, rc_join, Bool.not_false, atS0 rfl, vEq_S (ok_mem ok (List.mem_cons_self ..)) (show ok7 [48] = true from rfl), and_ok, or_ok, hd, e0, Bool.false_or, Bool.not_not]
    have ck : ∀ b, clo s (Tr.ok (D.bl b) []) = .ok (.bl b) s := fun b => clo_ok rfl
    simp only [ck]
    by_cases q : (c :: r) = [48]
    · obtain ⟨rfl, rfl⟩ : c = 48 ∧ r = [] := by simpa using q
      rfl
    · have q' : decide ((c :: r) = [48]) = false := decide_eq_false q
      have q2 : decide False = false := rfl
      simp only [q', q2, Bool.false_or, Bool.false_eq_true, if_false, Bool.not_false, if_true, Bool.not_not]
      rw [Bool.and_comm]
/-! ### numbers -/
theorem occ_dg : ∀ k, k < 10 → Builtin.Str.occurrences (SX.S DG) (SX.S [48 + k]) 0 (SX.S DG).length 1 = [k] := by decide +kernel
theorem ix_dg {c : Nat} (h : dig c = true) : vBm false .sindex (.str (SX.S DG)) [.str (SX.S [c])] s = .ok (.int ((c - 48 : Nat) : Int)) s := by
  have hc : 48 ≤ c ∧ c ≤ 57 := by simpa [dig] using h
  have e := occ_dg (c - 48) (by omega)
  rw [show 48 + (c - 48) = c by omega] at e
  unfold vBm
  dsimp only
  rw [e]
theorem loop37 {F : Fv} {v : V} : ∀ (cs : List Nat) (n : Nat) (o : Option V), cs.all dig = true → (n + 1) * 10 ^ cs.length ≤ 10 ^ 600 →
    ∃ o', forV (tab D) F CF WF (.nm 2) (.cons (.asg (.nm 1) (.bin .add (.bin .mul (.cst (.int 10)) (.var 1)) (.bm .sindex (.cst (.str (Str.ofString "0123456789"))) (.cons (.var 2) .nil)))) .nil) [] (cs.map fun c => .str (SX.S [c])) [some v, some (.int n), o] s = .ok (.nx [some v, some (.int ((cs.foldl (fun acc c => acc * 10 + (c - 48)) n : Nat) : Int)), o']) s
  | [], n, o, _, _ => ⟨o, by simp only [List.map_nil, forV_nil, List.foldl_nil]⟩
  | c :: cs, n, o, h, hb => by
    simp only [List.all_cons, Bool.and_eq_true] at h
    have b10 : bg 10 = true := bg_of (by decide) (by decide)
    have hn : n < 10 ^ 600 := by
      have : n + 1 ≤ (n + 1) * 10 ^ (c :: cs).length := Nat.le_mul_of_pos_right _ (Nat.pow_pos (by decide))
      omega
    have bn : bg (n : Int) = true := by
      refine bg_bd' (n := 2400) ?_ (by decide)
      unfold Bd
      refine Nat.lt_of_lt_of_le (m := 10 ^ 600) (by simpa using hn) ?_
      refine Nat.le_trans (Nat.pow_le_pow_left (by decide : 10 ≤ 2 ^ 4) 600) ?_
      rw [← Nat.pow_mul]
      exact Nat.le_refl _
    have hc : 48 ≤ c ∧ c ≤ 57 := by simpa [dig] using h.1
    have e : 10 * (n : Int) + ((c - 48 : Nat) : Int) = ((n * 10 + (c - 48) : Nat) : Int) := by omega
    obtain ⟨o', z⟩ := loop37 cs (n * 10 + (c - 48)) (some (.str (SX.S [c]))) h.2 (by
      refine Nat.le_trans ?_ hb
      rw [List.length_cons, Nat.pow_succ, ← Nat.mul_assoc, Nat.mul_right_comm]
      exact Nat.mul_le_mul_right _ (by omega))
    refine ⟨o', ?_⟩
    rw [List.map_cons, forV_cons]
    simp only [e_vE_var, e_vE_cst, e_vE_bin, e_vE_neg, e_vE_cmp, e_vE_cmp2, e_vE_and, e_vE_or, e_vE_not, e_vE_ite, e_vE_tup, e_vE_lst, e_vE_fmt, e_vE_js, e_vE_idx, e_vE_sl, e_vE_fld, e_vE_call, e_vE_callK, e_vE_make, e_vE_makeK, e_vE_meth, e_vE_bif, e_vE_bm, e_vE_isi, e_vE_own, e_vEs_nil, e_vEs_cons, e_vJ_nil, e_vJ_cons, e_vAll_nil, e_vAll_cons, e_vEo_no, e_vEo_so, e_vI_of, e_vI_rng1, e_vI_rng2, e_vI_enm, e_vI_zip, e_vTg_nm, e_vTg_fld, e_vTg_sub, e_vTg_tp, e_vS_asg, e_vS_aug, e_vS_augS, e_vS_augF, e_vS_exp, e_vS_ret, e_vS_retN, e_vS_ifs, e_vS_pas, e_vS_brk, e_vS_cont, e_vS_never, e_vSs_nil, e_vSs_cons, e_vS_whl, e_vS_fr, e_vE_lc, e_vE_dct, e_vTgs_nil, e_vTgs_cons, bind_ok, catch_ok, catch_exc, noE_ok, e_vS_rais, e_vS_tr, bind_bad, bind_exc, bind_ask, Pv.bind_ite, Pv.bind_assoc, Pv.opt_some, Pv.opt_none, brT_bl, startD, fnR, clo_ite, clo_bad, clo_ask,
 List.map_cons, List.map_nil, List.length_cons, List.length_nil, List.replicate, List.cons_append, List.nil_append, List.append_nil, List.getElem?_cons_zero, List.getElem?_cons_succ, List.getElem?_nil, List.set_cons_zero, List.set_cons_succ,
 vget_zero, vget_succ, vb_add, vb_adds, vb_addt, vb_addl, vb_sub, vb_mul, vb_mull, vb_fdiv, vb_mod, vb_pow, vc_eq, vc_ne, vc_isnon, vc_notnon, vc_lt, vc_le, vc_gt, vc_ge, vo_lt, vo_le, vo_gt, vo_ge, vn_int, vi_tup, vi_lst, vi_str, vs_tup, vs_lst, vf_nd, vf_ref, bf_len_tup, bf_len_lst, bf_len_str, bf_abs, bf_int, bf_tuple_tup, bf_tuple_lst, bf_list_tup, bf_list_lst, bf_str_int, bf_str_str, bf_all, bf_any, mk_f, mk_t, at0, at1, at2, at3, look, ofW, ofWs, vEq_int, vEq_bl, or_ok, and_ok, not_ok, na10, ev_take, Int.reduceLE, Int.reduceLT, Int.reduceToNat, Int.reducePow, Int.reduceAdd, Int.reduceMul, Int.reduceSub, Int.reduceNeg, Nat.reducePow, Nat.reduceLT, Nat.reduceLeDiff, and_self, true_and, and_true, AT_bind, AT_ok, AT_exc, AT_bad, AT_ask, AT_ite, Option.map_some, tgsLen_cons, tgsLen_nil, Nat.reduceAdd, Nat.reduceSub, if_true, if_false, Bool.not_true, Bool.not_false, reduceCtorEq, isNon, ite_true, ite_false, if_pos, e_vI_chr, vc_isin, vc_notin, vc_isfls, vs_str, bf_int_str, bf_list_str, bm_split, bm_join, rc_split, rc_sindex, rc_join, lDG, ix_dg h.1, b10, bn, e, List.foldl_cons]
    exact z
theorem f37 {cs : List Nat} (h : cs.all dig = true) (hl : cs.length ≤ 600) : ev (tab D) (Bo D) CF WF (d + 1) 37 [.str (SX.S cs)] s = .ok (.int (val cs)) s := by
  refine (ev_at (Df := ⟨1, 3, m_37⟩) rfl (by decide) rfl rfl rfl).trans ?_
  unfold m_37
  obtain ⟨o', z⟩ := loop37 (s := []) (F := ev (tab D) (Bo D) CF WF d) (v := .str (SX.S cs)) cs 0 none h (by
    rw [Nat.zero_add, Nat.one_mul]
    exact Nat.pow_le_pow_right (by decide) hl)
  simp only [e_vE_var, e_vE_cst, e_vE_bin, e_vE_neg, e_vE_cmp, e_vE_cmp2, e_vE_and, e_vE_or, e_vE_not, e_vE_ite, e_vE_tup, e_vE_lst, e_vE_fmt, e_vE_js, e_vE_idx, e_vE_sl, e_vE_fld, e_vE_call, e_vE_callK, e_vE_make, e_vE_makeK, e_vE_meth, e_vE_bif, e_vE_bm, e_vE_isi, e_vE_own, e_vEs_nil, e_vEs_cons, e_vJ_nil, e_vJ_cons, e_vAll_nil, e_vAll_cons, e_vEo_no, e_vEo_so, e_vI_of, e_vI_rng1, e_vI_rng2, e_vI_enm, e_vI_zip, e_vTg_nm, e_vTg_fld, e_vTg_sub, e_vTg_tp, e_vS_asg, e_vS_aug, e_vS_augS, e_vS_augF, e_vS_exp, e_vS_ret, e_vS_retN, e_vS_ifs, e_vS_pas, e_vS_brk, e_vS_cont, e_vS_never, e_vSs_nil, e_vSs_cons, e_vS_whl, e_vS_fr, e_vE_lc, e_vE_dct, e_vTgs_nil, e_vTgs_cons, bind_ok, catch_ok, catch_exc, noE_ok, e_vS_rais, e_vS_tr, bind_bad, bind_exc, bind_ask, Pv.bind_ite, Pv.bind_assoc, Pv.opt_some, Pv.opt_none, brT_bl, startD, fnR, clo_ite, clo_bad, clo_ask,
 List.map_cons, List.map_nil, List.length_cons, List.length_nil, List.replicate, List.cons_append, List.nil_append, List.append_nil, List.getElem?_cons_zero, List.getElem?_cons_succ, List.getElem?_nil, List.set_cons_zero, List.set_cons_succ,
 vget_zero, vget_succ, vb_add, vb_adds, vb_addt, vb_addl, vb_sub, vb_mul, vb_mull, vb_fdiv, vb_mod, vb_pow, vc_eq, vc_ne, vc_isnon, vc_notnon, vc_lt, vc_le, vc_gt, vc_ge, vo_lt, vo_le, vo_gt, vo_ge, vn_int, vi_tup, vi_lst, vi_str, vs_tup, vs_lst, vf_nd, vf_ref, bf_len_tup, bf_len_lst, bf_len_str, bf_abs, bf_int, bf_tuple_tup, bf_tuple_lst, bf_list_tup, bf_list_lst, bf_str_int, bf_str_str, bf_all, bf_any, mk_f, mk_t, at0, at1, at2, at3, look, ofW, ofWs, vEq_int, vEq_bl, or_ok, and_ok, not_ok, na10, ev_take, Int.reduceLE, Int.reduceLT, Int.reduceToNat, Int.reducePow, Int.reduceAdd, Int.reduceMul, Int.reduceSub, Int.reduceNeg, Nat.reducePow, Nat.reduceLT, Nat.reduceLeDiff, and_self, true_and, and_true, AT_bind, AT_ok, AT_exc, AT_bad, AT_ask, AT_ite, Option.map_some, tgsLen_cons, tgsLen_nil, Nat.reduceAdd, Nat.reduceSub, if_true, if_false, Bool.not_true, Bool.not_false, reduceCtorEq, isNon, ite_true, ite_false, if_pos, e_vI_chr, vc_isin, vc_notin, vc_isfls, vs_str, bf_int_str, bf_list_str, bm_split, bm_join, rc_split, rc_sindex, rc_join, chrD_S]
  rw [show ((0 : Int)) = ((0 : Nat) : Int) from rfl, z]
  simp only [e_vE_var, e_vE_cst, e_vE_bin, e_vE_neg, e_vE_cmp, e_vE_cmp2, e_vE_and, e_vE_or, e_vE_not, e_vE_ite, e_vE_tup, e_vE_lst, e_vE_fmt, e_vE_js, e_vE_idx, e_vE_sl, e_vE_fld, e_vE_call, e_vE_callK, e_vE_make, e_vE_makeK, e_vE_meth, e_vE_bif, e_vE_bm, e_vE_isi, e_vE_own, e_vEs_nil, e_vEs_cons, e_vJ_nil, e_vJ_cons, e_vAll_nil, e_vAll_cons, e_vEo_no, e_vEo_so, e_vI_of, e_vI_rng1, e_vI_rng2, e_vI_enm, e_vI_zip, e_vTg_nm, e_vTg_fld, e_vTg_sub, e_vTg_tp, e_vS_asg, e_vS_aug, e_vS_augS, e_vS_augF, e_vS_exp, e_vS_ret, e_vS_retN, e_vS_ifs, e_vS_pas, e_vS_brk, e_vS_cont, e_vS_never, e_vSs_nil, e_vSs_cons, e_vS_whl, e_vS_fr, e_vE_lc, e_vE_dct, e_vTgs_nil, e_vTgs_cons, bind_ok, catch_ok, catch_exc, noE_ok, e_vS_rais, e_vS_tr, bind_bad, bind_exc, bind_ask, Pv.bind_ite, Pv.bind_assoc, Pv.opt_some, Pv.opt_none, brT_bl, startD, fnR, clo_ite, clo_bad, clo_ask,
 List.map_cons, List.map_nil, List.length_cons, List.length_nil, List.replicate, List.cons_append, List.nil_append, List.append_nil, List.getElem?_cons_zero, List.getElem?_cons_succ, List.getElem?_nil, List.set_cons_zero, List.set_cons_succ,
 vget_zero, vget_succ, vb_add, vb_adds, vb_addt, vb_addl, vb_sub, vb_mul, vb_mull, vb_fdiv, vb_mod, vb_pow, vc_eq, vc_ne, vc_isnon, vc_notnon, vc_lt, vc_le, vc_gt, vc_ge, vo_lt, vo_le, vo_gt, vo_ge, vn_int, vi_tup, vi_lst, vi_str, vs_tup, vs_lst, vf_nd, vf_ref, bf_len_tup, bf_len_lst, bf_len_str, bf_abs, bf_int, bf_tuple_tup, bf_tuple_lst, bf_list_tup, bf_list_lst, bf_str_int, bf_str_str, bf_all, bf_any, mk_f, mk_t, at0, at1, at2, at3, look, ofW, ofWs, vEq_int, vEq_bl, or_ok, and_ok, not_ok, na10, ev_take, Int.reduceLE, Int.reduceLT, Int.reduceToNat, Int.reducePow, Int.reduceAdd, Int.reduceMul, Int.reduceSub, Int.reduceNeg, Nat.reducePow, Nat.reduceLT, Nat.reduceLeDiff, and_self, true_and, and_true, AT_bind, AT_ok, AT_exc, AT_bad, AT_ask, AT_ite, Option.map_some, tgsLen_cons, tgsLen_nil, Nat.reduceAdd, Nat.reduceSub, if_true, if_false, Bool.not_true, Bool.not_false, reduceCtorEq, isNon, ite_true, ite_false, if_pos, e_vI_chr, vc_isin, vc_notin, vc_isfls, vs_str, bf_int_str, bf_list_str, bm_split, bm_join, rc_split, rc_sindex, rc_join]
  rfl
end
end Lw
set_option maxHeartbeats 2000000
namespace Lw
open PySem Mi Pv Tk
theorem cut_tl {α : Type} (x : α) (l : List α) : Mi.cut (x :: l) (some 1) none = l := by
  unfold Mi.cut HT.sIx
  simp
theorem ok_app {a b : List Nat} : ok7 (a ++ b) = (ok7 a && ok7 b) := by simp [ok7, List.all_append]
theorem ok_drop {a : List Nat} {n : Nat} (h : ok7 a = true) : ok7 (a.drop n) = true := by
  unfold ok7 at *
  rw [List.all_eq_true] at *
  exact fun c m => h c (List.mem_of_mem_drop m)
theorem ok_take {a : List Nat} {n : Nat} (h : ok7 a = true) : ok7 (a.take n) = true := by
  unfold ok7 at *
  rw [List.all_eq_true] at *
  exact fun c m => h c (List.mem_of_mem_take m)
theorem ok_hd {a : List Nat} (h : ok7 a = true) : ok7 (hd a) = true := by
  unfold hd
  split
  · exact ok_drop h
  · exact h
theorem hd_len (a : List Nat) : (hd a).length ≤ a.length := by
  unfold hd
  split
  · simp
  · exact Nat.le_refl _
theorem fig_dig {cs : List Nat} (h : fig cs = true) : cs.all dig = true := by
  unfold fig at h
  simp only [Bool.and_eq_true] at h
  exact h.1.2
theorem val_bd {cs : List Nat} (h : cs.all dig = true) (hl : cs.length ≤ 300) : Bd 1200 (val cs : Int) := by
  unfold Bd
  have e := val_lt h
  refine Nat.lt_of_lt_of_le (m := 10 ^ 300) ?_ ?_
  · exact Nat.lt_of_lt_of_le (by simpa using e) (Nat.pow_le_pow_right (by decide) hl)
  · refine Nat.le_trans (Nat.pow_le_pow_left (by decide : 10 ≤ 2 ^ 4) 300) ?_
    rw [← Nat.pow_mul]
    exact Nat.le_refl _
theorem sg_bd {b : Bool} {n m : Nat} (h : Bd m (n : Int)) : Bd m (sg b n) := by
  unfold sg
  split
  · exact h.neg
  · exact h
abbrev TS (a : List Nat) : V := .str (SX.S a)
def rdT (cs : List Nat) (s : Sto) : Tr V := match rd cs with
  | some x => .ok (SP x) s
  | none => .exc 2 [(5, .int 1)] s
section
variable {d : Nat} {s : Sto} {P : V → Sto → Prop} {E : Nat → List (Nat × V) → Sto → Prop}
theorem ck {b : Bool} : clo s (Tr.ok (D.bl b) []) = .ok (.bl b) s := clo_ok rfl
theorem ce : clo s (Tr.exc 2 [(5, D.int 1)] []) = .exc 2 [(5, .int 1)] s := clo_exc rfl
theorem esg {b : Bool} {n : Nat} : (if b = true then Tr.ok (D.int (-(n : Int))) s else Tr.ok (D.int (n : Int)) s) = Tr.ok (.int (sg b n)) s := by cases b <;> rfl
theorem lcF38 {o0 o1 o2 o3 o4 o5 o6 : Option V} {l : List (List Nat)} (hl : l.length ≤ 10) (h : ∀ a ∈ l, ok7 a = true ∧ a.length ≤ 1000) :
    lcV (tab D) (ev (tab D) (Bo D) CF WF (d + 1)) CF (.call 38 (.cons (.var 6) .nil) []) (.nm 6) .nil [o0, o1, o2, o3, o4, o5, o6] [] (l.map TS) [] s = .ok (l.map fun a => .bl (fig a)) s := by
  refine lcV_mapL (fun a m => ?_) (by unfold sizeLine; omega)
  unfold lcS
  simp only [e_vE_var, e_vE_cst, e_vE_bin, e_vE_neg, e_vE_cmp, e_vE_cmp2, e_vE_and, e_vE_or, e_vE_not, e_vE_ite, e_vE_tup, e_vE_lst, e_vE_fmt, e_vE_js, e_vE_idx, e_vE_sl, e_vE_fld, e_vE_call, e_vE_callK, e_vE_make, e_vE_makeK, e_vE_meth, e_vE_bif, e_vE_bm, e_vE_isi, e_vE_own, e_vEs_nil, e_vEs_cons, e_vJ_nil, e_vJ_cons, e_vAll_nil, e_vAll_cons, e_vEo_no, e_vEo_so, e_vI_of, e_vI_rng1, e_vI_rng2, e_vI_enm, e_vI_zip, e_vTg_nm, e_vTg_fld, e_vTg_sub, e_vTg_tp, e_vS_asg, e_vS_aug, e_vS_augS, e_vS_augF, e_vS_exp, e_vS_ret, e_vS_retN, e_vS_ifs, e_vS_pas, e_vS_brk, e_vS_cont, e_vS_never, e_vSs_nil, e_vSs_cons, e_vS_whl, e_vS_fr, e_vE_lc, e_vE_dct, e_vTgs_nil, e_vTgs_cons, bind_ok, catch_ok, catch_exc, noE_ok, e_vS_rais, e_vS_tr, bind_bad, bind_exc, bind_ask, Pv.bind_ite, Pv.bind_assoc, Pv.opt_some, Pv.opt_none, brT_bl, startD, fnR, clo_ite, clo_bad, clo_ask,
 List.map_cons, List.map_nil, List.length_cons, List.length_nil, List.replicate, List.cons_append, List.nil_append, List.append_nil, List.getElem?_cons_zero, List.getElem?_cons_succ, List.getElem?_nil, List.set_cons_zero, List.set_cons_succ,
 vget_zero, vget_succ, vb_add, vb_adds, vb_addt, vb_addl, vb_sub, vb_mul, vb_mull, vb_fdiv, vb_mod, vb_pow, vc_eq, vc_ne, vc_isnon, vc_notnon, vc_lt, vc_le, vc_gt, vc_ge, vo_lt, vo_le, vo_gt, vo_ge, vn_int, vi_tup, vi_lst, vi_str, vs_tup, vs_lst, vf_nd, vf_ref, bf_len_tup, bf_len_lst, bf_len_str, bf_abs, bf_int, bf_tuple_tup, bf_tuple_lst, bf_list_tup, bf_list_lst, bf_str_int, bf_str_str, bf_all, bf_any, mk_f, mk_t, at0, at1, at2, at3, look, ofW, ofWs, vEq_int, vEq_bl, or_ok, and_ok, not_ok, na10, ev_take, Int.reduceLE, Int.reduceLT, Int.reduceToNat, Int.reducePow, Int.reduceAdd, Int.reduceMul, Int.reduceSub, Int.reduceNeg, Nat.reducePow, Nat.reduceLT, Nat.reduceLeDiff, and_self, true_and, and_true, AT_bind, AT_ok, AT_exc, AT_bad, AT_ask, AT_ite, Option.map_some, tgsLen_cons, tgsLen_nil, Nat.reduceAdd, Nat.reduceSub, if_true, if_false, Bool.not_true, Bool.not_false, reduceCtorEq, isNon, ite_true, ite_false, if_pos, e_vI_chr, vc_isin, vc_notin, vc_isfls, vs_str, bf_int_str, bf_list_str, bm_split, bm_join, rc_split, rc_sindex, rc_join, f38 (h a m).1 (h a m).2]
theorem f35 {cs : List Nat} (ok : ok7 cs = true) (hl : cs.length ≤ 300) : ev (tab D) (Bo D) CF WF (d + 3) 35 [.str (SX.S cs)] s = rdT cs s := by
  refine (ev_at (Df := ⟨1, 7, m_35⟩) rfl (by decide) rfl rfl rfl).trans ?_
  unfold m_35
  have l47' : ((SX.S [47]).length == 0) = false := rfl
  have ls : (SX.S cs).length + 2 ≤ sizeLine := by rw [SX.S_len]; unfold sizeLine; omega
  have mp : ∀ l : List (List Nat), (l.map SX.S).map D.str = l.map TS := fun l => by simp
  simp only [e_vE_var, e_vE_cst, e_vE_bin, e_vE_neg, e_vE_cmp, e_vE_cmp2, e_vE_and, e_vE_or, e_vE_not, e_vE_ite, e_vE_tup, e_vE_lst, e_vE_fmt, e_vE_js, e_vE_idx, e_vE_sl, e_vE_fld, e_vE_call, e_vE_callK, e_vE_make, e_vE_makeK, e_vE_meth, e_vE_bif, e_vE_bm, e_vE_isi, e_vE_own, e_vEs_nil, e_vEs_cons, e_vJ_nil, e_vJ_cons, e_vAll_nil, e_vAll_cons, e_vEo_no, e_vEo_so, e_vI_of, e_vI_rng1, e_vI_rng2, e_vI_enm, e_vI_zip, e_vTg_nm, e_vTg_fld, e_vTg_sub, e_vTg_tp, e_vS_asg, e_vS_aug, e_vS_augS, e_vS_augF, e_vS_exp, e_vS_ret, e_vS_retN, e_vS_ifs, e_vS_pas, e_vS_brk, e_vS_cont, e_vS_never, e_vSs_nil, e_vSs_cons, e_vS_whl, e_vS_fr, e_vE_lc, e_vE_dct, e_vTgs_nil, e_vTgs_cons, bind_ok, catch_ok, catch_exc, noE_ok, e_vS_rais, e_vS_tr, bind_bad, bind_exc, bind_ask, Pv.bind_ite, Pv.bind_assoc, Pv.opt_some, Pv.opt_none, brT_bl, startD, fnR, clo_ite, clo_bad, clo_ask,
 List.map_cons, List.map_nil, List.length_cons, List.length_nil, List.replicate, List.cons_append, List.nil_append, List.append_nil, List.getElem?_cons_zero, List.getElem?_cons_succ, List.getElem?_nil, List.set_cons_zero, List.set_cons_succ,
 vget_zero, vget_succ, vb_add, vb_adds, vb_addt, vb_addl, vb_sub, vb_mul, vb_mull, vb_fdiv, vb_mod, vb_pow, vc_eq, vc_ne, vc_isnon, vc_notnon, vc_lt, vc_le, vc_gt, vc_ge, vo_lt, vo_le, vo_gt, vo_ge, vn_int, vi_tup, vi_lst, vi_str, vs_tup, vs_lst, vf_nd, vf_ref, bf_len_tup, bf_len_lst, bf_len_str, bf_abs, bf_int, bf_tuple_tup, bf_tuple_lst, bf_list_tup, bf_list_lst, bf_str_int, bf_str_str, bf_all, bf_any, mk_f, mk_t, at0, at1, at2, at3, look, ofW, ofWs, vEq_int, vEq_bl, or_ok, and_ok, not_ok, na10, ev_take, Int.reduceLE, Int.reduceLT, Int.reduceToNat, Int.reducePow, Int.reduceAdd, Int.reduceMul, Int.reduceSub, Int.reduceNeg, Nat.reducePow, Nat.reduceLT, Nat.reduceLeDiff, and_self, true_and, and_true, AT_bind, AT_ok, AT_exc, AT_bad, AT_ask, AT_ite, Option.map_some, tgsLen_cons, tgsLen_nil, Nat.reduceAdd, Nat.reduceSub, if_true, if_false, Bool.not_true, Bool.not_false, reduceCtorEq, isNon, ite_true, ite_false, if_pos, e_vI_chr, vc_isin, vc_notin, vc_isfls, vs_str, bf_int_str, bf_list_str, bm_split, bm_join, rc_split, rc_sindex, rc_join, l47, l47', ls, show Txt.split (SX.S cs) (SX.S [47]) = (sp cs).map SX.S from sp_S cs, mp]
  unfold rdT rd
  have o45 : ok7 [45] = true := rfl
  have tk : ∀ a : List Nat, decide (a.take 1 = [45]) = neg a := fun a => rfl
  have fin : ∀ (x : Int × Int) (n : Nat), Lw x → Bd 1200 x.1 → Bd 1200 x.2 → ∀ s0 : Sto, vMake (ev (tab D) (Bo D) CF WF (d + 2)) CF 0 9 [.int x.1, .int x.2] s0 = .ok (SP x) s0 := fun x n lx b1 b2 s0 => by
    rw [mk9 (n := 1200) (by have := lx.2; omega) (b1.mono (by decide)) b2 (by decide), lo_self lx]
  have g12 : decide ((2 : Int) < ((1 : Nat) : Int)) = false := by decide
  have g22 : decide ((2 : Int) < ((2 : Nat) : Int)) = false := by decide
  have s1 : (1 : Nat) ≤ sizeLine := by unfold sizeLine; omega
  have s2 : (2 : Nat) ≤ sizeLine := by unfold sizeLine; omega
  have n12 : decide (((1 : Nat) : Int) = 2) = false := by decide
  have n22 : decide (((2 : Nat) : Int) = 2) = true := by decide
  have zp : ([5].zip [(D.int 1 : V)]) = [(5, .int 1)] := rfl
  rcases sp_cases cs with ⟨_, e⟩ | ⟨a, b, fa, fb, ec, e⟩ | ⟨a, b, c, r, e⟩
  · rw [e]
    dsimp only
    have ls1 : (SX.S cs).length ≤ sizeLine := by omega
    have lh : (SX.S (hd cs)).length ≤ sizeLine := by rw [SX.S_len]; have := hd_len cs; unfold sizeLine; omega
    have one : [cs].map TS = [TS cs] := rfl
    have eh : (if neg cs = true then Tr.ok (TS (cs.drop 1)) ([] : Sto) else Tr.ok (TS cs) []) = Tr.ok (TS (hd cs)) [] := by
      unfold hd
      split <;> rfl
    have lc : lcV (tab D) (ev (tab D) (Bo D) CF WF (d + 2)) CF (.call 38 (.cons (.var 6) .nil) []) (.nm 6) .nil [some (TS cs), some (.nd .lst [TS cs]), some (.bl (neg cs)), some (TS (hd cs)), none, none, none] [] [TS (hd cs)] [] [] = .ok [.bl (fig (hd cs))] [] := lcF38 (d := d + 1) (s := []) (l := [hd cs]) (by simp) (fun a m => by
      rw [List.mem_singleton.mp m]
      exact ⟨ok_hd ok, by have := hd_len cs; omega⟩)
    have lh : (hd cs).length ≤ 300 := by have := hd_len cs; omega
    simp only [e_vE_var, e_vE_cst, e_vE_bin, e_vE_neg, e_vE_cmp, e_vE_cmp2, e_vE_and, e_vE_or, e_vE_not, e_vE_ite, e_vE_tup, e_vE_lst, e_vE_fmt, e_vE_js, e_vE_idx, e_vE_sl, e_vE_fld, e_vE_call, e_vE_callK, e_vE_make, e_vE_makeK, e_vE_meth, e_vE_bif, e_vE_bm, e_vE_isi, e_vE_own, e_vEs_nil, e_vEs_cons, e_vJ_nil, e_vJ_cons, e_vAll_nil, e_vAll_cons, e_vEo_no, e_vEo_so, e_vI_of, e_vI_rng1, e_vI_rng2, e_vI_enm, e_vI_zip, e_vTg_nm, e_vTg_fld, e_vTg_sub, e_vTg_tp, e_vS_asg, e_vS_aug, e_vS_augS, e_vS_augF, e_vS_exp, e_vS_ret, e_vS_retN, e_vS_ifs, e_vS_pas, e_vS_brk, e_vS_cont, e_vS_never, e_vSs_nil, e_vSs_cons, e_vS_whl, e_vS_fr, e_vE_lc, e_vE_dct, e_vTgs_nil, e_vTgs_cons, bind_ok, catch_ok, catch_exc, noE_ok, e_vS_rais, e_vS_tr, bind_bad, bind_exc, bind_ask, Pv.bind_assoc, Pv.opt_some, Pv.opt_none, brT_bl, startD, fnR, clo_bad, clo_ask,
 List.map_cons, List.map_nil, List.length_cons, List.length_nil, List.replicate, List.cons_append, List.nil_append, List.append_nil, List.getElem?_cons_zero, List.getElem?_cons_succ, List.getElem?_nil, List.set_cons_zero, List.set_cons_succ,
 vget_zero, vget_succ, vb_add, vb_adds, vb_addt, vb_addl, vb_sub, vb_mul, vb_mull, vb_fdiv, vb_mod, vb_pow, vc_eq, vc_ne, vc_isnon, vc_notnon, vc_lt, vc_le, vc_gt, vc_ge, vo_lt, vo_le, vo_gt, vo_ge, vn_int, vi_tup, vi_lst, vi_str, vs_tup, vs_lst, vf_nd, vf_ref, bf_len_tup, bf_len_lst, bf_len_str, bf_abs, bf_int, bf_tuple_tup, bf_tuple_lst, bf_list_tup, bf_list_lst, bf_str_int, bf_str_str, bf_all, bf_any, mk_f, mk_t, at0, at1, at2, at3, look, ofW, ofWs, vEq_int, vEq_bl, or_ok, and_ok, not_ok, na10, ev_take, Int.reduceLE, Int.reduceLT, Int.reduceToNat, Int.reducePow, Int.reduceAdd, Int.reduceMul, Int.reduceSub, Int.reduceNeg, Nat.reducePow, Nat.reduceLT, Nat.reduceLeDiff, and_self, true_and, and_true, AT_bind, AT_ok, AT_exc, AT_bad, AT_ask, Option.map_some, tgsLen_cons, tgsLen_nil, Nat.reduceAdd, Nat.reduceSub, if_true, if_false, Bool.not_true, Bool.not_false, reduceCtorEq, isNon, ite_true, ite_false, if_pos, e_vI_chr, vc_isin, vc_notin, vc_isfls, vs_str, bf_int_str, bf_list_str, bm_split, bm_join, rc_split, rc_sindex, rc_join, Prod.eta, one, cut_to (show (0 : Int) ≤ 1 by decide), cut_from (show (0 : Int) ≤ 1 by decide), l45, vEq_S (ok_take ok) o45, ls1, tk, Bool.false_eq_true, cut_tl, Int.toNat_one, eh, g12, s1, seqD, wipeD, lc, boolsD, mapO, List.all_cons, List.all_nil, Bool.and_true, id, zp]
    unfold rd1
    by_cases q : fig (hd cs) = true
    · have fd := fig_dig q
      have q0 : decide (((val (hd cs) : Nat) : Int) = 0) = decide (val (hd cs) = 0) := decide_eq_decide.mpr (by omega)
      simp only [q, e_vE_var, e_vE_cst, e_vE_bin, e_vE_neg, e_vE_cmp, e_vE_cmp2, e_vE_and, e_vE_or, e_vE_not, e_vE_ite, e_vE_tup, e_vE_lst, e_vE_fmt, e_vE_js, e_vE_idx, e_vE_sl, e_vE_fld, e_vE_call, e_vE_callK, e_vE_make, e_vE_makeK, e_vE_meth, e_vE_bif, e_vE_bm, e_vE_isi, e_vE_own, e_vEs_nil, e_vEs_cons, e_vJ_nil, e_vJ_cons, e_vAll_nil, e_vAll_cons, e_vEo_no, e_vEo_so, e_vI_of, e_vI_rng1, e_vI_rng2, e_vI_enm, e_vI_zip, e_vTg_nm, e_vTg_fld, e_vTg_sub, e_vTg_tp, e_vS_asg, e_vS_aug, e_vS_augS, e_vS_augF, e_vS_exp, e_vS_ret, e_vS_retN, e_vS_ifs, e_vS_pas, e_vS_brk, e_vS_cont, e_vS_never, e_vSs_nil, e_vSs_cons, e_vS_whl, e_vS_fr, e_vE_lc, e_vE_dct, e_vTgs_nil, e_vTgs_cons, bind_ok, catch_ok, catch_exc, noE_ok, e_vS_rais, e_vS_tr, bind_bad, bind_exc, bind_ask, Pv.bind_assoc, Pv.opt_some, Pv.opt_none, brT_bl, startD, fnR, clo_bad, clo_ask,
 List.map_cons, List.map_nil, List.length_cons, List.length_nil, List.replicate, List.cons_append, List.nil_append, List.append_nil, List.getElem?_cons_zero, List.getElem?_cons_succ, List.getElem?_nil, List.set_cons_zero, List.set_cons_succ,
 vget_zero, vget_succ, vb_add, vb_adds, vb_addt, vb_addl, vb_sub, vb_mul, vb_mull, vb_fdiv, vb_mod, vb_pow, vc_eq, vc_ne, vc_isnon, vc_notnon, vc_lt, vc_le, vc_gt, vc_ge, vo_lt, vo_le, vo_gt, vo_ge, vn_int, vi_tup, vi_lst, vi_str, vs_tup, vs_lst, vf_nd, vf_ref, bf_len_tup, bf_len_lst, bf_len_str, bf_abs, bf_int, bf_tuple_tup, bf_tuple_lst, bf_list_tup, bf_list_lst, bf_str_int, bf_str_str, bf_all, bf_any, mk_f, mk_t, at0, at1, at2, at3, look, ofW, ofWs, vEq_int, vEq_bl, or_ok, and_ok, not_ok, na10, ev_take, Int.reduceLE, Int.reduceLT, Int.reduceToNat, Int.reducePow, Int.reduceAdd, Int.reduceMul, Int.reduceSub, Int.reduceNeg, Nat.reducePow, Nat.reduceLT, Nat.reduceLeDiff, and_self, true_and, and_true, AT_bind, AT_ok, AT_exc, AT_bad, AT_ask, Option.map_some, tgsLen_cons, tgsLen_nil, Nat.reduceAdd, Nat.reduceSub, if_true, if_false, Bool.not_true, Bool.not_false, reduceCtorEq, isNon, ite_true, ite_false, if_pos, e_vI_chr, vc_isin, vc_notin, vc_isfls, vs_str, bf_int_str, bf_list_str, bm_split, bm_join, rc_split, rc_sindex, rc_join, Prod.eta, Bool.false_eq_true, f37 fd (show (hd cs).length ≤ 600 by omega), n12, q0, esg]
      by_cases z : (neg cs && decide (val (hd cs) = 0)) = true
      · have z' : ¬ (¬ (neg cs = true ∧ val (hd cs) = 0)) := fun h => h (by simpa using z)
        simp only [z, e_vE_var, e_vE_cst, e_vE_bin, e_vE_neg, e_vE_cmp, e_vE_cmp2, e_vE_and, e_vE_or, e_vE_not, e_vE_ite, e_vE_tup, e_vE_lst, e_vE_fmt, e_vE_js, e_vE_idx, e_vE_sl, e_vE_fld, e_vE_call, e_vE_callK, e_vE_make, e_vE_makeK, e_vE_meth, e_vE_bif, e_vE_bm, e_vE_isi, e_vE_own, e_vEs_nil, e_vEs_cons, e_vJ_nil, e_vJ_cons, e_vAll_nil, e_vAll_cons, e_vEo_no, e_vEo_so, e_vI_of, e_vI_rng1, e_vI_rng2, e_vI_enm, e_vI_zip, e_vTg_nm, e_vTg_fld, e_vTg_sub, e_vTg_tp, e_vS_asg, e_vS_aug, e_vS_augS, e_vS_augF, e_vS_exp, e_vS_ret, e_vS_retN, e_vS_ifs, e_vS_pas, e_vS_brk, e_vS_cont, e_vS_never, e_vSs_nil, e_vSs_cons, e_vS_whl, e_vS_fr, e_vE_lc, e_vE_dct, e_vTgs_nil, e_vTgs_cons, bind_ok, catch_ok, catch_exc, noE_ok, e_vS_rais, e_vS_tr, bind_bad, bind_exc, bind_ask, Pv.bind_assoc, Pv.opt_some, Pv.opt_none, brT_bl, startD, fnR, clo_bad, clo_ask,
 List.map_cons, List.map_nil, List.length_cons, List.length_nil, List.replicate, List.cons_append, List.nil_append, List.append_nil, List.getElem?_cons_zero, List.getElem?_cons_succ, List.getElem?_nil, List.set_cons_zero, List.set_cons_succ,
 vget_zero, vget_succ, vb_add, vb_adds, vb_addt, vb_addl, vb_sub, vb_mul, vb_mull, vb_fdiv, vb_mod, vb_pow, vc_eq, vc_ne, vc_isnon, vc_notnon, vc_lt, vc_le, vc_gt, vc_ge, vo_lt, vo_le, vo_gt, vo_ge, vn_int, vi_tup, vi_lst, vi_str, vs_tup, vs_lst, vf_nd, vf_ref, bf_len_tup, bf_len_lst, bf_len_str, bf_abs, bf_int, bf_tuple_tup, bf_tuple_lst, bf_list_tup, bf_list_lst, bf_str_int, bf_str_str, bf_all, bf_any, mk_f, mk_t, at0, at1, at2, at3, look, ofW, ofWs, vEq_int, vEq_bl, or_ok, and_ok, not_ok, na10, ev_take, Int.reduceLE, Int.reduceLT, Int.reduceToNat, Int.reducePow, Int.reduceAdd, Int.reduceMul, Int.reduceSub, Int.reduceNeg, Nat.reducePow, Nat.reduceLT, Nat.reduceLeDiff, and_self, true_and, and_true, AT_bind, AT_ok, AT_exc, AT_bad, AT_ask, Option.map_some, tgsLen_cons, tgsLen_nil, Nat.reduceAdd, Nat.reduceSub, if_true, if_false, Bool.not_true, Bool.not_false, reduceCtorEq, isNon, ite_true, ite_false, if_pos, e_vI_chr, vc_isin, vc_notin, vc_isfls, vs_str, bf_int_str, bf_list_str, bm_split, bm_join, rc_split, rc_sindex, rc_join, Prod.eta, ce]
        rw [if_neg z']
      · have z1 : (neg cs && decide (val (hd cs) = 0)) = false := by simpa using z
        have z' : ¬ (neg cs = true ∧ val (hd cs) = 0) := by simpa using z
        have lx : Lw (sg (neg cs) (val (hd cs)), (1 : Int)) := ⟨by rw [show (sg (neg cs) (val (hd cs)), (1 : Int)).2 = ((1 : Nat) : Int) from rfl, gcd_sg]; simp, by show (0 : Int) < 1; decide⟩
        have b1 : Bd 1200 (sg (neg cs) (val (hd cs))) := sg_bd (val_bd fd lh)
        have b2 : Bd 1200 (1 : Int) := by unfold Bd; decide
        have mk := fin _ 0 lx b1 b2
        simp only [z1, e_vE_var, e_vE_cst, e_vE_bin, e_vE_neg, e_vE_cmp, e_vE_cmp2, e_vE_and, e_vE_or, e_vE_not, e_vE_ite, e_vE_tup, e_vE_lst, e_vE_fmt, e_vE_js, e_vE_idx, e_vE_sl, e_vE_fld, e_vE_call, e_vE_callK, e_vE_make, e_vE_makeK, e_vE_meth, e_vE_bif, e_vE_bm, e_vE_isi, e_vE_own, e_vEs_nil, e_vEs_cons, e_vJ_nil, e_vJ_cons, e_vAll_nil, e_vAll_cons, e_vEo_no, e_vEo_so, e_vI_of, e_vI_rng1, e_vI_rng2, e_vI_enm, e_vI_zip, e_vTg_nm, e_vTg_fld, e_vTg_sub, e_vTg_tp, e_vS_asg, e_vS_aug, e_vS_augS, e_vS_augF, e_vS_exp, e_vS_ret, e_vS_retN, e_vS_ifs, e_vS_pas, e_vS_brk, e_vS_cont, e_vS_never, e_vSs_nil, e_vSs_cons, e_vS_whl, e_vS_fr, e_vE_lc, e_vE_dct, e_vTgs_nil, e_vTgs_cons, bind_ok, catch_ok, catch_exc, noE_ok, e_vS_rais, e_vS_tr, bind_bad, bind_exc, bind_ask, Pv.bind_assoc, Pv.opt_some, Pv.opt_none, brT_bl, startD, fnR, clo_bad, clo_ask,
 List.map_cons, List.map_nil, List.length_cons, List.length_nil, List.replicate, List.cons_append, List.nil_append, List.append_nil, List.getElem?_cons_zero, List.getElem?_cons_succ, List.getElem?_nil, List.set_cons_zero, List.set_cons_succ,
 vget_zero, vget_succ, vb_add, vb_adds, vb_addt, vb_addl, vb_sub, vb_mul, vb_mull, vb_fdiv, vb_mod, vb_pow, vc_eq, vc_ne, vc_isnon, vc_notnon, vc_lt, vc_le, vc_gt, vc_ge, vo_lt, vo_le, vo_gt, vo_ge, vn_int, vi_tup, vi_lst, vi_str, vs_tup, vs_lst, vf_nd, vf_ref, bf_len_tup, bf_len_lst, bf_len_str, bf_abs, bf_int, bf_tuple_tup, bf_tuple_lst, bf_list_tup, bf_list_lst, bf_str_int, bf_str_str, bf_all, bf_any, mk_f, mk_t, at0, at1, at2, at3, look, ofW, ofWs, vEq_int, vEq_bl, or_ok, and_ok, not_ok, na10, ev_take, Int.reduceLE, Int.reduceLT, Int.reduceToNat, Int.reducePow, Int.reduceAdd, Int.reduceMul, Int.reduceSub, Int.reduceNeg, Nat.reducePow, Nat.reduceLT, Nat.reduceLeDiff, and_self, true_and, and_true, AT_bind, AT_ok, AT_exc, AT_bad, AT_ask, Option.map_some, tgsLen_cons, tgsLen_nil, Nat.reduceAdd, Nat.reduceSub, if_true, if_false, Bool.not_true, Bool.not_false, reduceCtorEq, isNon, ite_true, ite_false, if_pos, e_vI_chr, vc_isin, vc_notin, vc_isfls, vs_str, bf_int_str, bf_list_str, bm_split, bm_join, rc_split, rc_sindex, rc_join, Prod.eta, Bool.false_eq_true, n12, esg, mk]
        rw [if_pos z']
        exact clo_ok (show clean (SP (sg (neg cs) (val (hd cs)), 1)) = true from rfl)
    · have q1 : fig (hd cs) = false := by simpa using q
      simp only [q1, e_vE_var, e_vE_cst, e_vE_bin, e_vE_neg, e_vE_cmp, e_vE_cmp2, e_vE_and, e_vE_or, e_vE_not, e_vE_ite, e_vE_tup, e_vE_lst, e_vE_fmt, e_vE_js, e_vE_idx, e_vE_sl, e_vE_fld, e_vE_call, e_vE_callK, e_vE_make, e_vE_makeK, e_vE_meth, e_vE_bif, e_vE_bm, e_vE_isi, e_vE_own, e_vEs_nil, e_vEs_cons, e_vJ_nil, e_vJ_cons, e_vAll_nil, e_vAll_cons, e_vEo_no, e_vEo_so, e_vI_of, e_vI_rng1, e_vI_rng2, e_vI_enm, e_vI_zip, e_vTg_nm, e_vTg_fld, e_vTg_sub, e_vTg_tp, e_vS_asg, e_vS_aug, e_vS_augS, e_vS_augF, e_vS_exp, e_vS_ret, e_vS_retN, e_vS_ifs, e_vS_pas, e_vS_brk, e_vS_cont, e_vS_never, e_vSs_nil, e_vSs_cons, e_vS_whl, e_vS_fr, e_vE_lc, e_vE_dct, e_vTgs_nil, e_vTgs_cons, bind_ok, catch_ok, catch_exc, noE_ok, e_vS_rais, e_vS_tr, bind_bad, bind_exc, bind_ask, Pv.bind_assoc, Pv.opt_some, Pv.opt_none, brT_bl, startD, fnR, clo_bad, clo_ask,
 List.map_cons, List.map_nil, List.length_cons, List.length_nil, List.replicate, List.cons_append, List.nil_append, List.append_nil, List.getElem?_cons_zero, List.getElem?_cons_succ, List.getElem?_nil, List.set_cons_zero, List.set_cons_succ,
 vget_zero, vget_succ, vb_add, vb_adds, vb_addt, vb_addl, vb_sub, vb_mul, vb_mull, vb_fdiv, vb_mod, vb_pow, vc_eq, vc_ne, vc_isnon, vc_notnon, vc_lt, vc_le, vc_gt, vc_ge, vo_lt, vo_le, vo_gt, vo_ge, vn_int, vi_tup, vi_lst, vi_str, vs_tup, vs_lst, vf_nd, vf_ref, bf_len_tup, bf_len_lst, bf_len_str, bf_abs, bf_int, bf_tuple_tup, bf_tuple_lst, bf_list_tup, bf_list_lst, bf_str_int, bf_str_str, bf_all, bf_any, mk_f, mk_t, at0, at1, at2, at3, look, ofW, ofWs, vEq_int, vEq_bl, or_ok, and_ok, not_ok, na10, ev_take, Int.reduceLE, Int.reduceLT, Int.reduceToNat, Int.reducePow, Int.reduceAdd, Int.reduceMul, Int.reduceSub, Int.reduceNeg, Nat.reducePow, Nat.reduceLT, Nat.reduceLeDiff, and_self, true_and, and_true, AT_bind, AT_ok, AT_exc, AT_bad, AT_ask, Option.map_some, tgsLen_cons, tgsLen_nil, Nat.reduceAdd, Nat.reduceSub, if_true, if_false, Bool.not_true, Bool.not_false, reduceCtorEq, isNon, ite_true, ite_false, if_pos, e_vI_chr, vc_isin, vc_notin, vc_isfls, vs_str, bf_int_str, bf_list_str, bm_split, bm_join, rc_split, rc_sindex, rc_join, Prod.eta, Bool.false_eq_true, false_and, ce]
  · rw [e]
    dsimp only
    have ka := ok
    rw [ec, ok_app, Bool.and_eq_true] at ka
    have kb : ok7 b = true := by
      have := ka.2
      unfold ok7 at this ⊢
      simp only [List.all_cons, Bool.and_eq_true] at this
      exact this.2
    have la : a.length ≤ 300 := by have := hl; rw [ec] at this; simp at this; omega
    have lb : b.length ≤ 300 := by have := hl; rw [ec] at this; simp at this; omega
    have ls1 : (SX.S a).length ≤ sizeLine := by rw [SX.S_len]; unfold sizeLine; omega
    have lh : (hd a).length ≤ 300 := by have := hd_len a; omega
    have two : [a, b].map TS = [TS a, TS b] := rfl
    have eh : (if neg a = true then Tr.ok (TS (a.drop 1)) ([] : Sto) else Tr.ok (TS a) []) = Tr.ok (TS (hd a)) [] := by
      unfold hd
      split <;> rfl
    have lc : lcV (tab D) (ev (tab D) (Bo D) CF WF (d + 2)) CF (.call 38 (.cons (.var 6) .nil) []) (.nm 6) .nil [some (TS cs), some (.nd .lst [TS a, TS b]), some (.bl (neg a)), some (TS (hd a)), none, none, none] [] [TS (hd a), TS b] [] [] = .ok [.bl (fig (hd a)), .bl (fig b)] [] := lcF38 (d := d + 1) (s := []) (l := [hd a, b]) (by simp) (fun c m => by
      simp only [List.mem_cons, List.not_mem_nil, or_false] at m
      rcases m with rfl | rfl
      · exact ⟨ok_hd ka.1, by omega⟩
      · exact ⟨kb, by omega⟩)
    simp only [e_vE_var, e_vE_cst, e_vE_bin, e_vE_neg, e_vE_cmp, e_vE_cmp2, e_vE_and, e_vE_or, e_vE_not, e_vE_ite, e_vE_tup, e_vE_lst, e_vE_fmt, e_vE_js, e_vE_idx, e_vE_sl, e_vE_fld, e_vE_call, e_vE_callK, e_vE_make, e_vE_makeK, e_vE_meth, e_vE_bif, e_vE_bm, e_vE_isi, e_vE_own, e_vEs_nil, e_vEs_cons, e_vJ_nil, e_vJ_cons, e_vAll_nil, e_vAll_cons, e_vEo_no, e_vEo_so, e_vI_of, e_vI_rng1, e_vI_rng2, e_vI_enm, e_vI_zip, e_vTg_nm, e_vTg_fld, e_vTg_sub, e_vTg_tp, e_vS_asg, e_vS_aug, e_vS_augS, e_vS_augF, e_vS_exp, e_vS_ret, e_vS_retN, e_vS_ifs, e_vS_pas, e_vS_brk, e_vS_cont, e_vS_never, e_vSs_nil, e_vSs_cons, e_vS_whl, e_vS_fr, e_vE_lc, e_vE_dct, e_vTgs_nil, e_vTgs_cons, bind_ok, catch_ok, catch_exc, noE_ok, e_vS_rais, e_vS_tr, bind_bad, bind_exc, bind_ask, Pv.bind_assoc, Pv.opt_some, Pv.opt_none, brT_bl, startD, fnR, clo_bad, clo_ask,
 List.map_cons, List.map_nil, List.length_cons, List.length_nil, List.replicate, List.cons_append, List.nil_append, List.append_nil, List.getElem?_cons_zero, List.getElem?_cons_succ, List.getElem?_nil, List.set_cons_zero, List.set_cons_succ,
 vget_zero, vget_succ, vb_add, vb_adds, vb_addt, vb_addl, vb_sub, vb_mul, vb_mull, vb_fdiv, vb_mod, vb_pow, vc_eq, vc_ne, vc_isnon, vc_notnon, vc_lt, vc_le, vc_gt, vc_ge, vo_lt, vo_le, vo_gt, vo_ge, vn_int, vi_tup, vi_lst, vi_str, vs_tup, vs_lst, vf_nd, vf_ref, bf_len_tup, bf_len_lst, bf_len_str, bf_abs, bf_int, bf_tuple_tup, bf_tuple_lst, bf_list_tup, bf_list_lst, bf_str_int, bf_str_str, bf_all, bf_any, mk_f, mk_t, at0, at1, at2, at3, look, ofW, ofWs, vEq_int, vEq_bl, or_ok, and_ok, not_ok, na10, ev_take, Int.reduceLE, Int.reduceLT, Int.reduceToNat, Int.reducePow, Int.reduceAdd, Int.reduceMul, Int.reduceSub, Int.reduceNeg, Nat.reducePow, Nat.reduceLT, Nat.reduceLeDiff, and_self, true_and, and_true, AT_bind, AT_ok, AT_exc, AT_bad, AT_ask, Option.map_some, tgsLen_cons, tgsLen_nil, Nat.reduceAdd, Nat.reduceSub, if_true, if_false, Bool.not_true, Bool.not_false, reduceCtorEq, isNon, ite_true, ite_false, if_pos, e_vI_chr, vc_isin, vc_notin, vc_isfls, vs_str, bf_int_str, bf_list_str, bm_split, bm_join, rc_split, rc_sindex, rc_join, Prod.eta, two, cut_to (show (0 : Int) ≤ 1 by decide), cut_from (show (0 : Int) ≤ 1 by decide), l45, vEq_S (ok_take ka.1) o45, ls1, tk, Bool.false_eq_true, cut_tl, Int.toNat_one, eh, g22, s2, seqD, wipeD, lc, boolsD, mapO, List.all_cons, List.all_nil, Bool.and_true, id, zp]
    unfold rd2
    by_cases q : (fig (hd a) && fig b) = true
    · have qq := q
      rw [Bool.and_eq_true] at qq
      have fd := fig_dig qq.1
      have fd2 := fig_dig qq.2
      have q0 : decide (((val (hd a) : Nat) : Int) = 0) = decide (val (hd a) = 0) := decide_eq_decide.mpr (by omega)
      have q2 : decide (((val b : Nat) : Int) < 2) = decide (val b < 2) := decide_eq_decide.mpr (by omega)
      have wb : val b < WF := by
        have := wfB (n := 1200) (y := (val b : Int)) (val_bd fd2 lb) (by decide)
        simpa using this
      have q3 : decide (((Nat.gcd (val (hd a)) (val b) : Nat) : Int) = 1) = decide (Nat.gcd (val (hd a)) (val b) = 1) := decide_eq_decide.mpr (by omega)
      simp only [q, qq.1, qq.2, e_vE_var, e_vE_cst, e_vE_bin, e_vE_neg, e_vE_cmp, e_vE_cmp2, e_vE_and, e_vE_or, e_vE_not, e_vE_ite, e_vE_tup, e_vE_lst, e_vE_fmt, e_vE_js, e_vE_idx, e_vE_sl, e_vE_fld, e_vE_call, e_vE_callK, e_vE_make, e_vE_makeK, e_vE_meth, e_vE_bif, e_vE_bm, e_vE_isi, e_vE_own, e_vEs_nil, e_vEs_cons, e_vJ_nil, e_vJ_cons, e_vAll_nil, e_vAll_cons, e_vEo_no, e_vEo_so, e_vI_of, e_vI_rng1, e_vI_rng2, e_vI_enm, e_vI_zip, e_vTg_nm, e_vTg_fld, e_vTg_sub, e_vTg_tp, e_vS_asg, e_vS_aug, e_vS_augS, e_vS_augF, e_vS_exp, e_vS_ret, e_vS_retN, e_vS_ifs, e_vS_pas, e_vS_brk, e_vS_cont, e_vS_never, e_vSs_nil, e_vSs_cons, e_vS_whl, e_vS_fr, e_vE_lc, e_vE_dct, e_vTgs_nil, e_vTgs_cons, bind_ok, catch_ok, catch_exc, noE_ok, e_vS_rais, e_vS_tr, bind_bad, bind_exc, bind_ask, Pv.bind_assoc, Pv.opt_some, Pv.opt_none, brT_bl, startD, fnR, clo_bad, clo_ask,
 List.map_cons, List.map_nil, List.length_cons, List.length_nil, List.replicate, List.cons_append, List.nil_append, List.append_nil, List.getElem?_cons_zero, List.getElem?_cons_succ, List.getElem?_nil, List.set_cons_zero, List.set_cons_succ,
 vget_zero, vget_succ, vb_add, vb_adds, vb_addt, vb_addl, vb_sub, vb_mul, vb_mull, vb_fdiv, vb_mod, vb_pow, vc_eq, vc_ne, vc_isnon, vc_notnon, vc_lt, vc_le, vc_gt, vc_ge, vo_lt, vo_le, vo_gt, vo_ge, vn_int, vi_tup, vi_lst, vi_str, vs_tup, vs_lst, vf_nd, vf_ref, bf_len_tup, bf_len_lst, bf_len_str, bf_abs, bf_int, bf_tuple_tup, bf_tuple_lst, bf_list_tup, bf_list_lst, bf_str_int, bf_str_str, bf_all, bf_any, mk_f, mk_t, at0, at1, at2, at3, look, ofW, ofWs, vEq_int, vEq_bl, or_ok, and_ok, not_ok, na10, ev_take, Int.reduceLE, Int.reduceLT, Int.reduceToNat, Int.reducePow, Int.reduceAdd, Int.reduceMul, Int.reduceSub, Int.reduceNeg, Nat.reducePow, Nat.reduceLT, Nat.reduceLeDiff, and_self, true_and, and_true, AT_bind, AT_ok, AT_exc, AT_bad, AT_ask, Option.map_some, tgsLen_cons, tgsLen_nil, Nat.reduceAdd, Nat.reduceSub, if_true, if_false, Bool.not_true, Bool.not_false, reduceCtorEq, isNon, ite_true, ite_false, if_pos, e_vI_chr, vc_isin, vc_notin, vc_isfls, vs_str, bf_int_str, bf_list_str, bm_split, bm_join, rc_split, rc_sindex, rc_join, Prod.eta, Bool.and_self, Bool.false_eq_true, f37 fd (show (hd a).length ≤ 600 by omega), f37 fd2 (show b.length ≤ 600 by omega), n22, q0, esg, q2, i7 wb, q3]
      by_cases z : (neg a && decide (val (hd a) = 0)) = true
      · have z' : ¬ ((True ∧ True) ∧ ¬ (neg a = true ∧ val (hd a) = 0) ∧ ¬ (val b < 2 ∨ Nat.gcd (val (hd a)) (val b) ≠ 1)) := fun h => h.2.1 (by simpa using z)
        simp only [and_self, true_and] at z'
        simp only [z, e_vE_var, e_vE_cst, e_vE_bin, e_vE_neg, e_vE_cmp, e_vE_cmp2, e_vE_and, e_vE_or, e_vE_not, e_vE_ite, e_vE_tup, e_vE_lst, e_vE_fmt, e_vE_js, e_vE_idx, e_vE_sl, e_vE_fld, e_vE_call, e_vE_callK, e_vE_make, e_vE_makeK, e_vE_meth, e_vE_bif, e_vE_bm, e_vE_isi, e_vE_own, e_vEs_nil, e_vEs_cons, e_vJ_nil, e_vJ_cons, e_vAll_nil, e_vAll_cons, e_vEo_no, e_vEo_so, e_vI_of, e_vI_rng1, e_vI_rng2, e_vI_enm, e_vI_zip, e_vTg_nm, e_vTg_fld, e_vTg_sub, e_vTg_tp, e_vS_asg, e_vS_aug, e_vS_augS, e_vS_augF, e_vS_exp, e_vS_ret, e_vS_retN, e_vS_ifs, e_vS_pas, e_vS_brk, e_vS_cont, e_vS_never, e_vSs_nil, e_vSs_cons, e_vS_whl, e_vS_fr, e_vE_lc, e_vE_dct, e_vTgs_nil, e_vTgs_cons, bind_ok, catch_ok, catch_exc, noE_ok, e_vS_rais, e_vS_tr, bind_bad, bind_exc, bind_ask, Pv.bind_assoc, Pv.opt_some, Pv.opt_none, brT_bl, startD, fnR, clo_bad, clo_ask,
 List.map_cons, List.map_nil, List.length_cons, List.length_nil, List.replicate, List.cons_append, List.nil_append, List.append_nil, List.getElem?_cons_zero, List.getElem?_cons_succ, List.getElem?_nil, List.set_cons_zero, List.set_cons_succ,
 vget_zero, vget_succ, vb_add, vb_adds, vb_addt, vb_addl, vb_sub, vb_mul, vb_mull, vb_fdiv, vb_mod, vb_pow, vc_eq, vc_ne, vc_isnon, vc_notnon, vc_lt, vc_le, vc_gt, vc_ge, vo_lt, vo_le, vo_gt, vo_ge, vn_int, vi_tup, vi_lst, vi_str, vs_tup, vs_lst, vf_nd, vf_ref, bf_len_tup, bf_len_lst, bf_len_str, bf_abs, bf_int, bf_tuple_tup, bf_tuple_lst, bf_list_tup, bf_list_lst, bf_str_int, bf_str_str, bf_all, bf_any, mk_f, mk_t, at0, at1, at2, at3, look, ofW, ofWs, vEq_int, vEq_bl, or_ok, and_ok, not_ok, na10, ev_take, Int.reduceLE, Int.reduceLT, Int.reduceToNat, Int.reducePow, Int.reduceAdd, Int.reduceMul, Int.reduceSub, Int.reduceNeg, Nat.reducePow, Nat.reduceLT, Nat.reduceLeDiff, and_self, true_and, and_true, AT_bind, AT_ok, AT_exc, AT_bad, AT_ask, Option.map_some, tgsLen_cons, tgsLen_nil, Nat.reduceAdd, Nat.reduceSub, if_true, if_false, Bool.not_true, Bool.not_false, reduceCtorEq, isNon, ite_true, ite_false, if_pos, e_vI_chr, vc_isin, vc_notin, vc_isfls, vs_str, bf_int_str, bf_list_str, bm_split, bm_join, rc_split, rc_sindex, rc_join, Prod.eta, ce]
        rw [if_neg z']
      · have z1 : (neg a && decide (val (hd a) = 0)) = false := by simpa using z
        have z2 : ¬ (neg a = true ∧ val (hd a) = 0) := by simpa using z
        simp only [z1, e_vE_var, e_vE_cst, e_vE_bin, e_vE_neg, e_vE_cmp, e_vE_cmp2, e_vE_and, e_vE_or, e_vE_not, e_vE_ite, e_vE_tup, e_vE_lst, e_vE_fmt, e_vE_js, e_vE_idx, e_vE_sl, e_vE_fld, e_vE_call, e_vE_callK, e_vE_make, e_vE_makeK, e_vE_meth, e_vE_bif, e_vE_bm, e_vE_isi, e_vE_own, e_vEs_nil, e_vEs_cons, e_vJ_nil, e_vJ_cons, e_vAll_nil, e_vAll_cons, e_vEo_no, e_vEo_so, e_vI_of, e_vI_rng1, e_vI_rng2, e_vI_enm, e_vI_zip, e_vTg_nm, e_vTg_fld, e_vTg_sub, e_vTg_tp, e_vS_asg, e_vS_aug, e_vS_augS, e_vS_augF, e_vS_exp, e_vS_ret, e_vS_retN, e_vS_ifs, e_vS_pas, e_vS_brk, e_vS_cont, e_vS_never, e_vSs_nil, e_vSs_cons, e_vS_whl, e_vS_fr, e_vE_lc, e_vE_dct, e_vTgs_nil, e_vTgs_cons, bind_ok, catch_ok, catch_exc, noE_ok, e_vS_rais, e_vS_tr, bind_bad, bind_exc, bind_ask, Pv.bind_assoc, Pv.opt_some, Pv.opt_none, brT_bl, startD, fnR, clo_bad, clo_ask,
 List.map_cons, List.map_nil, List.length_cons, List.length_nil, List.replicate, List.cons_append, List.nil_append, List.append_nil, List.getElem?_cons_zero, List.getElem?_cons_succ, List.getElem?_nil, List.set_cons_zero, List.set_cons_succ,
 vget_zero, vget_succ, vb_add, vb_adds, vb_addt, vb_addl, vb_sub, vb_mul, vb_mull, vb_fdiv, vb_mod, vb_pow, vc_eq, vc_ne, vc_isnon, vc_notnon, vc_lt, vc_le, vc_gt, vc_ge, vo_lt, vo_le, vo_gt, vo_ge, vn_int, vi_tup, vi_lst, vi_str, vs_tup, vs_lst, vf_nd, vf_ref, bf_len_tup, bf_len_lst, bf_len_str, bf_abs, bf_int, bf_tuple_tup, bf_tuple_lst, bf_list_tup, bf_list_lst, bf_str_int, bf_str_str, bf_all, bf_any, mk_f, mk_t, at0, at1, at2, at3, look, ofW, ofWs, vEq_int, vEq_bl, or_ok, and_ok, not_ok, na10, ev_take, Int.reduceLE, Int.reduceLT, Int.reduceToNat, Int.reducePow, Int.reduceAdd, Int.reduceMul, Int.reduceSub, Int.reduceNeg, Nat.reducePow, Nat.reduceLT, Nat.reduceLeDiff, and_self, true_and, and_true, AT_bind, AT_ok, AT_exc, AT_bad, AT_ask, Option.map_some, tgsLen_cons, tgsLen_nil, Nat.reduceAdd, Nat.reduceSub, if_true, if_false, Bool.not_true, Bool.not_false, reduceCtorEq, isNon, ite_true, ite_false, if_pos, e_vI_chr, vc_isin, vc_notin, vc_isfls, vs_str, bf_int_str, bf_list_str, bm_split, bm_join, rc_split, rc_sindex, rc_join, Prod.eta, Bool.false_eq_true, n22, q2, i7 wb, q3, or_ok]
        by_cases y : (decide (val b < 2) || !decide (Nat.gcd (val (hd a)) (val b) = 1)) = true
        · have y' : ¬ (¬ (neg a = true ∧ val (hd a) = 0) ∧ ¬ (val b < 2 ∨ Nat.gcd (val (hd a)) (val b) ≠ 1)) := fun h => h.2 (by simpa using y)
          simp only [y, e_vE_var, e_vE_cst, e_vE_bin, e_vE_neg, e_vE_cmp, e_vE_cmp2, e_vE_and, e_vE_or, e_vE_not, e_vE_ite, e_vE_tup, e_vE_lst, e_vE_fmt, e_vE_js, e_vE_idx, e_vE_sl, e_vE_fld, e_vE_call, e_vE_callK, e_vE_make, e_vE_makeK, e_vE_meth, e_vE_bif, e_vE_bm, e_vE_isi, e_vE_own, e_vEs_nil, e_vEs_cons, e_vJ_nil, e_vJ_cons, e_vAll_nil, e_vAll_cons, e_vEo_no, e_vEo_so, e_vI_of, e_vI_rng1, e_vI_rng2, e_vI_enm, e_vI_zip, e_vTg_nm, e_vTg_fld, e_vTg_sub, e_vTg_tp, e_vS_asg, e_vS_aug, e_vS_augS, e_vS_augF, e_vS_exp, e_vS_ret, e_vS_retN, e_vS_ifs, e_vS_pas, e_vS_brk, e_vS_cont, e_vS_never, e_vSs_nil, e_vSs_cons, e_vS_whl, e_vS_fr, e_vE_lc, e_vE_dct, e_vTgs_nil, e_vTgs_cons, bind_ok, catch_ok, catch_exc, noE_ok, e_vS_rais, e_vS_tr, bind_bad, bind_exc, bind_ask, Pv.bind_assoc, Pv.opt_some, Pv.opt_none, brT_bl, startD, fnR, clo_bad, clo_ask,
 List.map_cons, List.map_nil, List.length_cons, List.length_nil, List.replicate, List.cons_append, List.nil_append, List.append_nil, List.getElem?_cons_zero, List.getElem?_cons_succ, List.getElem?_nil, List.set_cons_zero, List.set_cons_succ,
 vget_zero, vget_succ, vb_add, vb_adds, vb_addt, vb_addl, vb_sub, vb_mul, vb_mull, vb_fdiv, vb_mod, vb_pow, vc_eq, vc_ne, vc_isnon, vc_notnon, vc_lt, vc_le, vc_gt, vc_ge, vo_lt, vo_le, vo_gt, vo_ge, vn_int, vi_tup, vi_lst, vi_str, vs_tup, vs_lst, vf_nd, vf_ref, bf_len_tup, bf_len_lst, bf_len_str, bf_abs, bf_int, bf_tuple_tup, bf_tuple_lst, bf_list_tup, bf_list_lst, bf_str_int, bf_str_str, bf_all, bf_any, mk_f, mk_t, at0, at1, at2, at3, look, ofW, ofWs, vEq_int, vEq_bl, or_ok, and_ok, not_ok, na10, ev_take, Int.reduceLE, Int.reduceLT, Int.reduceToNat, Int.reducePow, Int.reduceAdd, Int.reduceMul, Int.reduceSub, Int.reduceNeg, Nat.reducePow, Nat.reduceLT, Nat.reduceLeDiff, and_self, true_and, and_true, AT_bind, AT_ok, AT_exc, AT_bad, AT_ask, Option.map_some, tgsLen_cons, tgsLen_nil, Nat.reduceAdd, Nat.reduceSub, if_true, if_false, Bool.not_true, Bool.not_false, reduceCtorEq, isNon, ite_true, ite_false, if_pos, e_vI_chr, vc_isin, vc_notin, vc_isfls, vs_str, bf_int_str, bf_list_str, bm_split, bm_join, rc_split, rc_sindex, rc_join, Prod.eta, ce]
          rw [if_neg y']
        · have y1 : (decide (val b < 2) || !decide (Nat.gcd (val (hd a)) (val b) = 1)) = false := by simpa using y
          have y2 : ¬ (val b < 2 ∨ Nat.gcd (val (hd a)) (val b) ≠ 1) := by
            intro h
            rcases h with h | h
            · simp [h] at y1
            · simp [h] at y1
          have lx : Lw (sg (neg a) (val (hd a)), (val b : Int)) := ⟨by rw [gcd_sg]; exact Classical.byContradiction fun h => y2 (.inr h), by show (0 : Int) < val b; have : ¬ val b < 2 := fun h => y2 (.inl h); omega⟩
          have b1 : Bd 1200 (sg (neg a) (val (hd a))) := sg_bd (val_bd fd lh)
          have mk := fin _ 0 lx b1 (val_bd fd2 lb)
          simp only [y1, e_vE_var, e_vE_cst, e_vE_bin, e_vE_neg, e_vE_cmp, e_vE_cmp2, e_vE_and, e_vE_or, e_vE_not, e_vE_ite, e_vE_tup, e_vE_lst, e_vE_fmt, e_vE_js, e_vE_idx, e_vE_sl, e_vE_fld, e_vE_call, e_vE_callK, e_vE_make, e_vE_makeK, e_vE_meth, e_vE_bif, e_vE_bm, e_vE_isi, e_vE_own, e_vEs_nil, e_vEs_cons, e_vJ_nil, e_vJ_cons, e_vAll_nil, e_vAll_cons, e_vEo_no, e_vEo_so, e_vI_of, e_vI_rng1, e_vI_rng2, e_vI_enm, e_vI_zip, e_vTg_nm, e_vTg_fld, e_vTg_sub, e_vTg_tp, e_vS_asg, e_vS_aug, e_vS_augS, e_vS_augF, e_vS_exp, e_vS_ret, e_vS_retN, e_vS_ifs, e_vS_pas, e_vS_brk, e_vS_cont, e_vS_never, e_vSs_nil, e_vSs_cons, e_vS_whl, e_vS_fr, e_vE_lc, e_vE_dct, e_vTgs_nil, e_vTgs_cons, bind_ok, catch_ok, catch_exc, noE_ok, e_vS_rais, e_vS_tr, bind_bad, bind_exc, bind_ask, Pv.bind_assoc, Pv.opt_some, Pv.opt_none, brT_bl, startD, fnR, clo_bad, clo_ask,
 List.map_cons, List.map_nil, List.length_cons, List.length_nil, List.replicate, List.cons_append, List.nil_append, List.append_nil, List.getElem?_cons_zero, List.getElem?_cons_succ, List.getElem?_nil, List.set_cons_zero, List.set_cons_succ,
 vget_zero, vget_succ, vb_add, vb_adds, vb_addt, vb_addl, vb_sub, vb_mul, vb_mull, vb_fdiv, vb_mod, vb_pow, vc_eq, vc_ne, vc_isnon, vc_notnon, vc_lt, vc_le, vc_gt, vc_ge, vo_lt, vo_le, vo_gt, vo_ge, vn_int, vi_tup, vi_lst, vi_str, vs_tup, vs_lst, vf_nd, vf_ref, bf_len_tup, bf_len_lst, bf_len_str, bf_abs, bf_int, bf_tuple_tup, bf_tuple_lst, bf_list_tup, bf_list_lst, bf_str_int, bf_str_str, bf_all, bf_any, mk_f, mk_t, at0, at1, at2, at3, look, ofW, ofWs, vEq_int, vEq_bl, or_ok, and_ok, not_ok, na10, ev_take, Int.reduceLE, Int.reduceLT, Int.reduceToNat, Int.reducePow, Int.reduceAdd, Int.reduceMul, Int.reduceSub, Int.reduceNeg, Nat.reducePow, Nat.reduceLT, Nat.reduceLeDiff, and_self, true_and, and_true, AT_bind, AT_ok, AT_exc, AT_bad, AT_ask, Option.map_some, tgsLen_cons, tgsLen_nil, Nat.reduceAdd, Nat.reduceSub, if_true, if_false, Bool.not_true, Bool.not_false, reduceCtorEq, isNon, ite_true, ite_false, if_pos, e_vI_chr, vc_isin, vc_notin, vc_isfls, vs_str, bf_int_str, bf_list_str, bm_split, bm_join, rc_split, rc_sindex, rc_join, Prod.eta, Bool.false_eq_true, esg, mk]
          rw [if_pos (And.intro z2 y2)]
          exact clo_ok (show clean (SP (sg (neg a) (val (hd a)), val b)) = true from rfl)
    · have q1 : (fig (hd a) && fig b) = false := by simpa using q
      have q2 : ¬ ((fig (hd a) = true ∧ fig b = true) ∧ ¬ (neg a = true ∧ val (hd a) = 0) ∧ ¬ (val b < 2 ∨ Nat.gcd (val (hd a)) (val b) ≠ 1)) := fun h => q (by rw [Bool.and_eq_true]; exact h.1)
      simp only [q1, e_vE_var, e_vE_cst, e_vE_bin, e_vE_neg, e_vE_cmp, e_vE_cmp2, e_vE_and, e_vE_or, e_vE_not, e_vE_ite, e_vE_tup, e_vE_lst, e_vE_fmt, e_vE_js, e_vE_idx, e_vE_sl, e_vE_fld, e_vE_call, e_vE_callK, e_vE_make, e_vE_makeK, e_vE_meth, e_vE_bif, e_vE_bm, e_vE_isi, e_vE_own, e_vEs_nil, e_vEs_cons, e_vJ_nil, e_vJ_cons, e_vAll_nil, e_vAll_cons, e_vEo_no, e_vEo_so, e_vI_of, e_vI_rng1, e_vI_rng2, e_vI_enm, e_vI_zip, e_vTg_nm, e_vTg_fld, e_vTg_sub, e_vTg_tp, e_vS_asg, e_vS_aug, e_vS_augS, e_vS_augF, e_vS_exp, e_vS_ret, e_vS_retN, e_vS_ifs, e_vS_pas, e_vS_brk, e_vS_cont, e_vS_never, e_vSs_nil, e_vSs_cons, e_vS_whl, e_vS_fr, e_vE_lc, e_vE_dct, e_vTgs_nil, e_vTgs_cons, bind_ok, catch_ok, catch_exc, noE_ok, e_vS_rais, e_vS_tr, bind_bad, bind_exc, bind_ask, Pv.bind_assoc, Pv.opt_some, Pv.opt_none, brT_bl, startD, fnR, clo_bad, clo_ask,
 List.map_cons, List.map_nil, List.length_cons, List.length_nil, List.replicate, List.cons_append, List.nil_append, List.append_nil, List.getElem?_cons_zero, List.getElem?_cons_succ, List.getElem?_nil, List.set_cons_zero, List.set_cons_succ,
 vget_zero, vget_succ, vb_add, vb_adds, vb_addt, vb_addl, vb_sub, vb_mul, vb_mull, vb_fdiv, vb_mod, vb_pow, vc_eq, vc_ne, vc_isnon, vc_notnon, vc_lt, vc_le, vc_gt, vc_ge, vo_lt, vo_le, vo_gt, vo_ge, vn_int, vi_tup, vi_lst, vi_str, vs_tup, vs_lst, vf_nd, vf_ref, bf_len_tup, bf_len_lst, bf_len_str, bf_abs, bf_int, bf_tuple_tup, bf_tuple_lst, bf_list_tup, bf_list_lst, bf_str_int, bf_str_str, bf_all, bf_any, mk_f, mk_t, at0, at1, at2, at3, look, ofW, ofWs, vEq_int, vEq_bl, or_ok, and_ok, not_ok, na10, ev_take, Int.reduceLE, Int.reduceLT, Int.reduceToNat, Int.reducePow, Int.reduceAdd, Int.reduceMul, Int.reduceSub, Int.reduceNeg, Nat.reducePow, Nat.reduceLT, Nat.reduceLeDiff, and_self, true_and, and_true, AT_bind, AT_ok, AT_exc, AT_bad, AT_ask, Option.map_some, tgsLen_cons, tgsLen_nil, Nat.reduceAdd, Nat.reduceSub, if_true, if_false, Bool.not_true, Bool.not_false, reduceCtorEq, isNon, ite_true, ite_false, if_pos, e_vI_chr, vc_isin, vc_notin, vc_isfls, vs_str, bf_int_str, bf_list_str, bm_split, bm_join, rc_split, rc_sindex, rc_join, Prod.eta, Bool.false_eq_true, ce]
      rw [if_neg q2]
  · rw [e]
    dsimp only
    have pa : a ∈ sp cs := by rw [e]; simp
    have la : ok7 a = true ∧ (SX.S a).length ≤ sizeLine := by
      have j := sp_join cs
      rw [e] at j
      have j : a ++ ([47] ++ TL.joinL [47] (b :: c :: r)) = cs := j
      have k := ok
      have l := hl
      rw [← j, ok_app, Bool.and_eq_true] at k
      rw [← j, List.length_append] at l
      exact ⟨k.1, by rw [SX.S_len]; unfold sizeLine; omega⟩
    have many : (a :: b :: c :: r).map TS = TS a :: TS b :: TS c :: r.map TS := rfl
    have eh : (if neg a = true then Tr.ok (TS (a.drop 1)) ([] : Sto) else Tr.ok (TS a) []) = Tr.ok (TS (hd a)) [] := by
      unfold hd
      split <;> rfl
    have gm : decide ((2 : Int) < (((r.map TS).length + 1 + 1 + 1 : Nat) : Int)) = true := decide_eq_true (by omega)
    simp only [e_vE_var, e_vE_cst, e_vE_bin, e_vE_neg, e_vE_cmp, e_vE_cmp2, e_vE_and, e_vE_or, e_vE_not, e_vE_ite, e_vE_tup, e_vE_lst, e_vE_fmt, e_vE_js, e_vE_idx, e_vE_sl, e_vE_fld, e_vE_call, e_vE_callK, e_vE_make, e_vE_makeK, e_vE_meth, e_vE_bif, e_vE_bm, e_vE_isi, e_vE_own, e_vEs_nil, e_vEs_cons, e_vJ_nil, e_vJ_cons, e_vAll_nil, e_vAll_cons, e_vEo_no, e_vEo_so, e_vI_of, e_vI_rng1, e_vI_rng2, e_vI_enm, e_vI_zip, e_vTg_nm, e_vTg_fld, e_vTg_sub, e_vTg_tp, e_vS_asg, e_vS_aug, e_vS_augS, e_vS_augF, e_vS_exp, e_vS_ret, e_vS_retN, e_vS_ifs, e_vS_pas, e_vS_brk, e_vS_cont, e_vS_never, e_vSs_nil, e_vSs_cons, e_vS_whl, e_vS_fr, e_vE_lc, e_vE_dct, e_vTgs_nil, e_vTgs_cons, bind_ok, catch_ok, catch_exc, noE_ok, e_vS_rais, e_vS_tr, bind_bad, bind_exc, bind_ask, Pv.bind_assoc, Pv.opt_some, Pv.opt_none, brT_bl, startD, fnR, clo_bad, clo_ask,
 List.map_cons, List.map_nil, List.length_cons, List.length_nil, List.replicate, List.cons_append, List.nil_append, List.append_nil, List.getElem?_cons_zero, List.getElem?_cons_succ, List.getElem?_nil, List.set_cons_zero, List.set_cons_succ,
 vget_zero, vget_succ, vb_add, vb_adds, vb_addt, vb_addl, vb_sub, vb_mul, vb_mull, vb_fdiv, vb_mod, vb_pow, vc_eq, vc_ne, vc_isnon, vc_notnon, vc_lt, vc_le, vc_gt, vc_ge, vo_lt, vo_le, vo_gt, vo_ge, vn_int, vi_tup, vi_lst, vi_str, vs_tup, vs_lst, vf_nd, vf_ref, bf_len_tup, bf_len_lst, bf_len_str, bf_abs, bf_int, bf_tuple_tup, bf_tuple_lst, bf_list_tup, bf_list_lst, bf_str_int, bf_str_str, bf_all, bf_any, mk_f, mk_t, at0, at1, at2, at3, look, ofW, ofWs, vEq_int, vEq_bl, or_ok, and_ok, not_ok, na10, ev_take, Int.reduceLE, Int.reduceLT, Int.reduceToNat, Int.reducePow, Int.reduceAdd, Int.reduceMul, Int.reduceSub, Int.reduceNeg, Nat.reducePow, Nat.reduceLT, Nat.reduceLeDiff, and_self, true_and, and_true, AT_bind, AT_ok, AT_exc, AT_bad, AT_ask, Option.map_some, tgsLen_cons, tgsLen_nil, Nat.reduceAdd, Nat.reduceSub, if_true, if_false, Bool.not_true, Bool.not_false, reduceCtorEq, isNon, ite_true, ite_false, if_pos, e_vI_chr, vc_isin, vc_notin, vc_isfls, vs_str, bf_int_str, bf_list_str, bm_split, bm_join, rc_split, rc_sindex, rc_join, Prod.eta, many, cut_to (show (0 : Int) ≤ 1 by decide), cut_from (show (0 : Int) ≤ 1 by decide), l45, vEq_S (ok_take la.1) o45, la.2, tk, Bool.false_eq_true, cut_tl, Int.toNat_one, eh, gm, zp, ce]
end
end Lw
set_option maxHeartbeats 2000000
namespace Lw
open PySem Mi Pv Tk
theorem in2 {b : List Nat} {T : Tab} {F : Fv} {s : Sto} : vIn false (TS b) (.nd .tup [.str (SX.S [48]), .str (SX.S [49])]) s = .ok (.bl (decide (b = [48]) || decide (b = [49]))) s := by
  have e1 : (SX.S [48] == SX.S b) = decide (b = [48]) := by rw [SX.S_beq_eq]; exact decide_eq_decide.mpr eq_comm
  have e2 : (SX.S [49] == SX.S b) = decide (b = [49]) := by rw [SX.S_beq_eq]; exact decide_eq_decide.mpr eq_comm
  show Tr.ok (D.bl (L2.inV (.str (SX.S b)) [.str (SX.S [48]), .str (SX.S [49])])) s = _
  unfold L2.inV
  simp only [List.any_cons, List.any_nil, L2.eqV, Bool.or_false, e1, e2]
theorem take_neg {a b : List Nat} : decide ((a ++ 47 :: b).take 1 = [45]) = neg a := by
  unfold neg
  cases a with
  | nil => rfl
  | cons c r => simp
theorem lo_eq {n m : Nat} (h : 2 ≤ m) : decide (lo (n : Int) (m : Int) = ((n : Int), (m : Int))) = decide (Nat.gcd n m = 1) := by
  refine decide_eq_decide.mpr ⟨fun e => ?_, fun e => ?_⟩
  · have := lo_lw (x := (n : Int)) (y := (m : Int)) (by omega)
    rw [e] at this
    exact this.1
  · exact lo_self (x := ((n : Int), (m : Int))) ⟨e, by show (0 : Int) < m; omega⟩
section
variable {d : Nat} {s : Sto} {P : V → Sto → Prop} {E : Nat → List (Nat × V) → Sto → Prop}
theorem lcF34 {o0 o1 o2 o3 : Option V} {l : List (List Nat)} (hl : l.length ≤ 10) (h : ∀ a ∈ l, ok7 a = true ∧ a.length ≤ 1000) :
    lcV (tab D) (ev (tab D) (Bo D) CF WF (d + 1)) CF (.call 34 (.cons (.var 3) .nil) []) (.nm 3) .nil [o0, o1, o2, o3] [] (l.map TS) [] s = .ok (l.map fun a => .bl (fig a)) s := by
  refine lcV_mapL (fun a m => ?_) (by unfold sizeLine; omega)
  unfold lcS
  simp only [e_vE_var, e_vE_cst, e_vE_bin, e_vE_neg, e_vE_cmp, e_vE_cmp2, e_vE_and, e_vE_or, e_vE_not, e_vE_ite, e_vE_tup, e_vE_lst, e_vE_fmt, e_vE_js, e_vE_idx, e_vE_sl, e_vE_fld, e_vE_call, e_vE_callK, e_vE_make, e_vE_makeK, e_vE_meth, e_vE_bif, e_vE_bm, e_vE_isi, e_vE_own, e_vEs_nil, e_vEs_cons, e_vJ_nil, e_vJ_cons, e_vAll_nil, e_vAll_cons, e_vEo_no, e_vEo_so, e_vI_of, e_vI_rng1, e_vI_rng2, e_vI_enm, e_vI_zip, e_vTg_nm, e_vTg_fld, e_vTg_sub, e_vTg_tp, e_vS_asg, e_vS_aug, e_vS_augS, e_vS_augF, e_vS_exp, e_vS_ret, e_vS_retN, e_vS_ifs, e_vS_pas, e_vS_brk, e_vS_cont, e_vS_never, e_vSs_nil, e_vSs_cons, e_vS_whl, e_vS_fr, e_vE_lc, e_vE_dct, e_vTgs_nil, e_vTgs_cons, bind_ok, catch_ok, catch_exc, noE_ok, e_vS_rais, e_vS_tr, bind_bad, bind_exc, bind_ask, Pv.bind_ite, Pv.bind_assoc, Pv.opt_some, Pv.opt_none, brT_bl, startD, fnR, clo_ite, clo_bad, clo_ask,
 List.map_cons, List.map_nil, List.length_cons, List.length_nil, List.replicate, List.cons_append, List.nil_append, List.append_nil, List.getElem?_cons_zero, List.getElem?_cons_succ, List.getElem?_nil, List.set_cons_zero, List.set_cons_succ,
 vget_zero, vget_succ, vb_add, vb_adds, vb_addt, vb_addl, vb_sub, vb_mul, vb_mull, vb_fdiv, vb_mod, vb_pow, vc_eq, vc_ne, vc_isnon, vc_notnon, vc_lt, vc_le, vc_gt, vc_ge, vo_lt, vo_le, vo_gt, vo_ge, vn_int, vi_tup, vi_lst, vi_str, vs_tup, vs_lst, vf_nd, vf_ref, bf_len_tup, bf_len_lst, bf_len_str, bf_abs, bf_int, bf_tuple_tup, bf_tuple_lst, bf_list_tup, bf_list_lst, bf_str_int, bf_str_str, bf_all, bf_any, mk_f, mk_t, at0, at1, at2, at3, look, ofW, ofWs, vEq_int, vEq_bl, or_ok, and_ok, not_ok, na10, ev_take, Int.reduceLE, Int.reduceLT, Int.reduceToNat, Int.reducePow, Int.reduceAdd, Int.reduceMul, Int.reduceSub, Int.reduceNeg, Nat.reducePow, Nat.reduceLT, Nat.reduceLeDiff, and_self, true_and, and_true, AT_bind, AT_ok, AT_exc, AT_bad, AT_ask, AT_ite, Option.map_some, tgsLen_cons, tgsLen_nil, Nat.reduceAdd, Nat.reduceSub, if_true, if_false, Bool.not_true, Bool.not_false, reduceCtorEq, isNon, ite_true, ite_false, if_pos, e_vI_chr, vc_isin, vc_notin, vc_isfls, vs_str, bf_int_str, bf_list_str, bm_split, bm_join, rc_split, rc_sindex, rc_join, f34 (h a m).1 (h a m).2]
theorem fig_int {cs : List Nat} (h : fig cs = true) (hl : cs.length ≤ 600) : PySem.intText? (SX.S cs) = some (val cs : Int) := by
  unfold fig at h
  simp only [Bool.and_eq_true, decide_eq_true_eq] at h
  exact SX.int_S (by have := h.1.2; unfold dig at this; exact this) h.1.1 (by omega)
theorem f27 {cs : List Nat} (ok : ok7 cs = true) (hl : cs.length ≤ 300) : ev (tab D) (Bo D) CF WF (d + 2) 27 [TS cs] s = .ok (.bl (rd cs).isSome) s := by
  refine (ev_at (Df := ⟨1, 4, m_27⟩) rfl (by decide) rfl rfl rfl).trans ?_
  unfold m_27
  have l47' : ((SX.S [47]).length == 0) = false := rfl
  have ls : (SX.S cs).length + 2 ≤ sizeLine := by rw [SX.S_len]; unfold sizeLine; omega
  have ls0 : (SX.S cs).length ≤ sizeLine := by omega
  have mp : ∀ l : List (List Nat), (l.map SX.S).map D.str = l.map TS := fun l => by simp
  simp only [e_vE_var, e_vE_cst, e_vE_bin, e_vE_neg, e_vE_cmp, e_vE_cmp2, e_vE_and, e_vE_or, e_vE_not, e_vE_ite, e_vE_tup, e_vE_lst, e_vE_fmt, e_vE_js, e_vE_idx, e_vE_sl, e_vE_fld, e_vE_call, e_vE_callK, e_vE_make, e_vE_makeK, e_vE_meth, e_vE_bif, e_vE_bm, e_vE_isi, e_vE_own, e_vEs_nil, e_vEs_cons, e_vJ_nil, e_vJ_cons, e_vAll_nil, e_vAll_cons, e_vEo_no, e_vEo_so, e_vI_of, e_vI_rng1, e_vI_rng2, e_vI_enm, e_vI_zip, e_vTg_nm, e_vTg_fld, e_vTg_sub, e_vTg_tp, e_vS_asg, e_vS_aug, e_vS_augS, e_vS_augF, e_vS_exp, e_vS_ret, e_vS_retN, e_vS_ifs, e_vS_pas, e_vS_brk, e_vS_cont, e_vS_never, e_vSs_nil, e_vSs_cons, e_vS_whl, e_vS_fr, e_vE_lc, e_vE_dct, e_vTgs_nil, e_vTgs_cons, bind_ok, catch_ok, catch_exc, noE_ok, e_vS_rais, e_vS_tr, bind_bad, bind_exc, bind_ask, Pv.bind_ite, Pv.bind_assoc, Pv.opt_some, Pv.opt_none, brT_bl, startD, fnR, clo_ite, clo_bad, clo_ask,
 List.map_cons, List.map_nil, List.length_cons, List.length_nil, List.replicate, List.cons_append, List.nil_append, List.append_nil, List.getElem?_cons_zero, List.getElem?_cons_succ, List.getElem?_nil, List.set_cons_zero, List.set_cons_succ,
 vget_zero, vget_succ, vb_add, vb_adds, vb_addt, vb_addl, vb_sub, vb_mul, vb_mull, vb_fdiv, vb_mod, vb_pow, vc_eq, vc_ne, vc_isnon, vc_notnon, vc_lt, vc_le, vc_gt, vc_ge, vo_lt, vo_le, vo_gt, vo_ge, vn_int, vi_tup, vi_lst, vi_str, vs_tup, vs_lst, vf_nd, vf_ref, bf_len_tup, bf_len_lst, bf_len_str, bf_abs, bf_int, bf_tuple_tup, bf_tuple_lst, bf_list_tup, bf_list_lst, bf_str_int, bf_str_str, bf_all, bf_any, mk_f, mk_t, at0, at1, at2, at3, look, ofW, ofWs, vEq_int, vEq_bl, or_ok, and_ok, not_ok, na10, ev_take, Int.reduceLE, Int.reduceLT, Int.reduceToNat, Int.reducePow, Int.reduceAdd, Int.reduceMul, Int.reduceSub, Int.reduceNeg, Nat.reducePow, Nat.reduceLT, Nat.reduceLeDiff, and_self, true_and, and_true, AT_bind, AT_ok, AT_exc, AT_bad, AT_ask, AT_ite, Option.map_some, tgsLen_cons, tgsLen_nil, Nat.reduceAdd, Nat.reduceSub, if_true, if_false, Bool.not_true, Bool.not_false, reduceCtorEq, isNon, ite_true, ite_false, if_pos, e_vI_chr, vc_isin, vc_notin, vc_isfls, vs_str, bf_int_str, bf_list_str, bm_split, bm_join, rc_split, rc_sindex, rc_join, l47, l47', ls, show Txt.split (SX.S cs) (SX.S [47]) = (sp cs).map SX.S from sp_S cs, mp]
  unfold rd
  have o45 : ok7 [45] = true := rfl
  have o48 : ok7 [48] = true := rfl
  have tk : ∀ a : List Nat, decide (a.take 1 = [45]) = neg a := fun a => rfl
  have g12 : decide ((2 : Int) < ((1 : Nat) : Int)) = false := by decide
  have g22 : decide ((2 : Int) < ((2 : Nat) : Int)) = false := by decide
  have s1 : (1 : Nat) ≤ sizeLine := by unfold sizeLine; omega
  have s2 : (2 : Nat) ≤ sizeLine := by unfold sizeLine; omega
  have n12 : decide (((1 : Nat) : Int) = 2) = false := by decide
  have n22 : decide (((2 : Nat) : Int) = 2) = true := by decide
  have n11 : decide (((1 : Nat) : Int) = 1) = true := by decide
  have n21 : decide (((2 : Nat) : Int) = 1) = false := by decide
  rcases sp_cases cs with ⟨_, e⟩ | ⟨a, b, fa, fb, ec, e⟩ | ⟨a, b, c, r, e⟩
  · rw [e]
    dsimp only
    have one : [cs].map TS = [TS cs] := rfl
    have eh : (if neg cs = true then Tr.ok (TS (cs.drop 1)) ([] : Sto) else Tr.ok (TS cs) []) = Tr.ok (TS (hd cs)) [] := by
      unfold hd
      split <;> rfl
    have lc : lcV (tab D) (ev (tab D) (Bo D) CF WF (d + 1)) CF (.call 34 (.cons (.var 3) .nil) []) (.nm 3) .nil [some (TS cs), some (.nd .lst [TS cs]), some (TS (hd cs)), none] [] [TS (hd cs)] [] [] = .ok [.bl (fig (hd cs))] [] := lcF34 (s := []) (l := [hd cs]) (by simp) (fun a m => by
      rw [List.mem_singleton.mp m]
      exact ⟨ok_hd ok, by have := hd_len cs; omega⟩)
    simp only [e_vE_var, e_vE_cst, e_vE_bin, e_vE_neg, e_vE_cmp, e_vE_cmp2, e_vE_and, e_vE_or, e_vE_not, e_vE_ite, e_vE_tup, e_vE_lst, e_vE_fmt, e_vE_js, e_vE_idx, e_vE_sl, e_vE_fld, e_vE_call, e_vE_callK, e_vE_make, e_vE_makeK, e_vE_meth, e_vE_bif, e_vE_bm, e_vE_isi, e_vE_own, e_vEs_nil, e_vEs_cons, e_vJ_nil, e_vJ_cons, e_vAll_nil, e_vAll_cons, e_vEo_no, e_vEo_so, e_vI_of, e_vI_rng1, e_vI_rng2, e_vI_enm, e_vI_zip, e_vTg_nm, e_vTg_fld, e_vTg_sub, e_vTg_tp, e_vS_asg, e_vS_aug, e_vS_augS, e_vS_augF, e_vS_exp, e_vS_ret, e_vS_retN, e_vS_ifs, e_vS_pas, e_vS_brk, e_vS_cont, e_vS_never, e_vSs_nil, e_vSs_cons, e_vS_whl, e_vS_fr, e_vE_lc, e_vE_dct, e_vTgs_nil, e_vTgs_cons, bind_ok, catch_ok, catch_exc, noE_ok, e_vS_rais, e_vS_tr, bind_bad, bind_exc, bind_ask, Pv.bind_assoc, Pv.opt_some, Pv.opt_none, brT_bl, startD, fnR, clo_bad, clo_ask,
 List.map_cons, List.map_nil, List.length_cons, List.length_nil, List.replicate, List.cons_append, List.nil_append, List.append_nil, List.getElem?_cons_zero, List.getElem?_cons_succ, List.getElem?_nil, List.set_cons_zero, List.set_cons_succ,
 vget_zero, vget_succ, vb_add, vb_adds, vb_addt, vb_addl, vb_sub, vb_mul, vb_mull, vb_fdiv, vb_mod, vb_pow, vc_eq, vc_ne, vc_isnon, vc_notnon, vc_lt, vc_le, vc_gt, vc_ge, vo_lt, vo_le, vo_gt, vo_ge, vn_int, vi_tup, vi_lst, vi_str, vs_tup, vs_lst, vf_nd, vf_ref, bf_len_tup, bf_len_lst, bf_len_str, bf_abs, bf_int, bf_tuple_tup, bf_tuple_lst, bf_list_tup, bf_list_lst, bf_str_int, bf_str_str, bf_all, bf_any, mk_f, mk_t, at0, at1, at2, at3, look, ofW, ofWs, vEq_int, vEq_bl, or_ok, and_ok, not_ok, na10, ev_take, Int.reduceLE, Int.reduceLT, Int.reduceToNat, Int.reducePow, Int.reduceAdd, Int.reduceMul, Int.reduceSub, Int.reduceNeg, Nat.reducePow, Nat.reduceLT, Nat.reduceLeDiff, and_self, true_and, and_true, AT_bind, AT_ok, AT_exc, AT_bad, AT_ask, Option.map_some, tgsLen_cons, tgsLen_nil, Nat.reduceAdd, Nat.reduceSub, if_true, if_false, Bool.not_true, Bool.not_false, reduceCtorEq, isNon, ite_true, ite_false, if_pos, e_vI_chr, vc_isin, vc_notin, vc_isfls, vs_str, bf_int_str, bf_list_str, bm_split, bm_join, rc_split, rc_sindex, rc_join, Prod.eta, one, cut_to (show (0 : Int) ≤ 1 by decide), cut_from (show (0 : Int) ≤ 1 by decide), l45, l48, vEq_S (ok_take ok) o45, ls0, tk, Bool.false_eq_true, cut_tl, Int.toNat_one, eh, g12, s1, seqD, wipeD, lc, boolsD, mapO, List.all_cons, List.all_nil, Bool.and_true, id]
    unfold rd1
    by_cases q : fig (hd cs) = true
    · have vz : decide (val (hd cs) = 0) = decide (hd cs = [48]) := decide_eq_decide.mpr (val_zero q)
      simp only [q, e_vE_var, e_vE_cst, e_vE_bin, e_vE_neg, e_vE_cmp, e_vE_cmp2, e_vE_and, e_vE_or, e_vE_not, e_vE_ite, e_vE_tup, e_vE_lst, e_vE_fmt, e_vE_js, e_vE_idx, e_vE_sl, e_vE_fld, e_vE_call, e_vE_callK, e_vE_make, e_vE_makeK, e_vE_meth, e_vE_bif, e_vE_bm, e_vE_isi, e_vE_own, e_vEs_nil, e_vEs_cons, e_vJ_nil, e_vJ_cons, e_vAll_nil, e_vAll_cons, e_vEo_no, e_vEo_so, e_vI_of, e_vI_rng1, e_vI_rng2, e_vI_enm, e_vI_zip, e_vTg_nm, e_vTg_fld, e_vTg_sub, e_vTg_tp, e_vS_asg, e_vS_aug, e_vS_augS, e_vS_augF, e_vS_exp, e_vS_ret, e_vS_retN, e_vS_ifs, e_vS_pas, e_vS_brk, e_vS_cont, e_vS_never, e_vSs_nil, e_vSs_cons, e_vS_whl, e_vS_fr, e_vE_lc, e_vE_dct, e_vTgs_nil, e_vTgs_cons, bind_ok, catch_ok, catch_exc, noE_ok, e_vS_rais, e_vS_tr, bind_bad, bind_exc, bind_ask, Pv.bind_assoc, Pv.opt_some, Pv.opt_none, brT_bl, startD, fnR, clo_bad, clo_ask,
 List.map_cons, List.map_nil, List.length_cons, List.length_nil, List.replicate, List.cons_append, List.nil_append, List.append_nil, List.getElem?_cons_zero, List.getElem?_cons_succ, List.getElem?_nil, List.set_cons_zero, List.set_cons_succ,
 vget_zero, vget_succ, vb_add, vb_adds, vb_addt, vb_addl, vb_sub, vb_mul, vb_mull, vb_fdiv, vb_mod, vb_pow, vc_eq, vc_ne, vc_isnon, vc_notnon, vc_lt, vc_le, vc_gt, vc_ge, vo_lt, vo_le, vo_gt, vo_ge, vn_int, vi_tup, vi_lst, vi_str, vs_tup, vs_lst, vf_nd, vf_ref, bf_len_tup, bf_len_lst, bf_len_str, bf_abs, bf_int, bf_tuple_tup, bf_tuple_lst, bf_list_tup, bf_list_lst, bf_str_int, bf_str_str, bf_all, bf_any, mk_f, mk_t, at0, at1, at2, at3, look, ofW, ofWs, vEq_int, vEq_bl, or_ok, and_ok, not_ok, na10, ev_take, Int.reduceLE, Int.reduceLT, Int.reduceToNat, Int.reducePow, Int.reduceAdd, Int.reduceMul, Int.reduceSub, Int.reduceNeg, Nat.reducePow, Nat.reduceLT, Nat.reduceLeDiff, and_self, true_and, and_true, AT_bind, AT_ok, AT_exc, AT_bad, AT_ask, Option.map_some, tgsLen_cons, tgsLen_nil, Nat.reduceAdd, Nat.reduceSub, if_true, if_false, Bool.not_true, Bool.not_false, reduceCtorEq, isNon, ite_true, ite_false, if_pos, e_vI_chr, vc_isin, vc_notin, vc_isfls, vs_str, bf_int_str, bf_list_str, bm_split, bm_join, rc_split, rc_sindex, rc_join, Prod.eta, Bool.false_eq_true, vEq_S (ok_hd ok) o48, n12, n11, cut_to (show (0 : Int) ≤ 1 by decide), l45, l48, vEq_S (ok_take ok) o45, ls0, tk, Int.toNat_one]
      by_cases z : (neg cs && decide (hd cs = [48])) = true
      · have z' : ¬ (¬ (neg cs = true ∧ val (hd cs) = 0)) := fun h => h (by rw [← vz] at z; simpa using z)
        simp only [z, e_vE_var, e_vE_cst, e_vE_bin, e_vE_neg, e_vE_cmp, e_vE_cmp2, e_vE_and, e_vE_or, e_vE_not, e_vE_ite, e_vE_tup, e_vE_lst, e_vE_fmt, e_vE_js, e_vE_idx, e_vE_sl, e_vE_fld, e_vE_call, e_vE_callK, e_vE_make, e_vE_makeK, e_vE_meth, e_vE_bif, e_vE_bm, e_vE_isi, e_vE_own, e_vEs_nil, e_vEs_cons, e_vJ_nil, e_vJ_cons, e_vAll_nil, e_vAll_cons, e_vEo_no, e_vEo_so, e_vI_of, e_vI_rng1, e_vI_rng2, e_vI_enm, e_vI_zip, e_vTg_nm, e_vTg_fld, e_vTg_sub, e_vTg_tp, e_vS_asg, e_vS_aug, e_vS_augS, e_vS_augF, e_vS_exp, e_vS_ret, e_vS_retN, e_vS_ifs, e_vS_pas, e_vS_brk, e_vS_cont, e_vS_never, e_vSs_nil, e_vSs_cons, e_vS_whl, e_vS_fr, e_vE_lc, e_vE_dct, e_vTgs_nil, e_vTgs_cons, bind_ok, catch_ok, catch_exc, noE_ok, e_vS_rais, e_vS_tr, bind_bad, bind_exc, bind_ask, Pv.bind_assoc, Pv.opt_some, Pv.opt_none, brT_bl, startD, fnR, clo_bad, clo_ask,
 List.map_cons, List.map_nil, List.length_cons, List.length_nil, List.replicate, List.cons_append, List.nil_append, List.append_nil, List.getElem?_cons_zero, List.getElem?_cons_succ, List.getElem?_nil, List.set_cons_zero, List.set_cons_succ,
 vget_zero, vget_succ, vb_add, vb_adds, vb_addt, vb_addl, vb_sub, vb_mul, vb_mull, vb_fdiv, vb_mod, vb_pow, vc_eq, vc_ne, vc_isnon, vc_notnon, vc_lt, vc_le, vc_gt, vc_ge, vo_lt, vo_le, vo_gt, vo_ge, vn_int, vi_tup, vi_lst, vi_str, vs_tup, vs_lst, vf_nd, vf_ref, bf_len_tup, bf_len_lst, bf_len_str, bf_abs, bf_int, bf_tuple_tup, bf_tuple_lst, bf_list_tup, bf_list_lst, bf_str_int, bf_str_str, bf_all, bf_any, mk_f, mk_t, at0, at1, at2, at3, look, ofW, ofWs, vEq_int, vEq_bl, or_ok, and_ok, not_ok, na10, ev_take, Int.reduceLE, Int.reduceLT, Int.reduceToNat, Int.reducePow, Int.reduceAdd, Int.reduceMul, Int.reduceSub, Int.reduceNeg, Nat.reducePow, Nat.reduceLT, Nat.reduceLeDiff, and_self, true_and, and_true, AT_bind, AT_ok, AT_exc, AT_bad, AT_ask, Option.map_some, tgsLen_cons, tgsLen_nil, Nat.reduceAdd, Nat.reduceSub, if_true, if_false, Bool.not_true, Bool.not_false, reduceCtorEq, isNon, ite_true, ite_false, if_pos, e_vI_chr, vc_isin, vc_notin, vc_isfls, vs_str, bf_int_str, bf_list_str, bm_split, bm_join, rc_split, rc_sindex, rc_join, Prod.eta, ck]
        rw [if_neg z']
        rfl
      · have z1 : (neg cs && decide (hd cs = [48])) = false := by simpa using z
        have z' : ¬ (neg cs = true ∧ val (hd cs) = 0) := by rw [← vz] at z; simpa using z
        simp only [z1, e_vE_var, e_vE_cst, e_vE_bin, e_vE_neg, e_vE_cmp, e_vE_cmp2, e_vE_and, e_vE_or, e_vE_not, e_vE_ite, e_vE_tup, e_vE_lst, e_vE_fmt, e_vE_js, e_vE_idx, e_vE_sl, e_vE_fld, e_vE_call, e_vE_callK, e_vE_make, e_vE_makeK, e_vE_meth, e_vE_bif, e_vE_bm, e_vE_isi, e_vE_own, e_vEs_nil, e_vEs_cons, e_vJ_nil, e_vJ_cons, e_vAll_nil, e_vAll_cons, e_vEo_no, e_vEo_so, e_vI_of, e_vI_rng1, e_vI_rng2, e_vI_enm, e_vI_zip, e_vTg_nm, e_vTg_fld, e_vTg_sub, e_vTg_tp, e_vS_asg, e_vS_aug, e_vS_augS, e_vS_augF, e_vS_exp, e_vS_ret, e_vS_retN, e_vS_ifs, e_vS_pas, e_vS_brk, e_vS_cont, e_vS_never, e_vSs_nil, e_vSs_cons, e_vS_whl, e_vS_fr, e_vE_lc, e_vE_dct, e_vTgs_nil, e_vTgs_cons, bind_ok, catch_ok, catch_exc, noE_ok, e_vS_rais, e_vS_tr, bind_bad, bind_exc, bind_ask, Pv.bind_assoc, Pv.opt_some, Pv.opt_none, brT_bl, startD, fnR, clo_bad, clo_ask,
 List.map_cons, List.map_nil, List.length_cons, List.length_nil, List.replicate, List.cons_append, List.nil_append, List.append_nil, List.getElem?_cons_zero, List.getElem?_cons_succ, List.getElem?_nil, List.set_cons_zero, List.set_cons_succ,
 vget_zero, vget_succ, vb_add, vb_adds, vb_addt, vb_addl, vb_sub, vb_mul, vb_mull, vb_fdiv, vb_mod, vb_pow, vc_eq, vc_ne, vc_isnon, vc_notnon, vc_lt, vc_le, vc_gt, vc_ge, vo_lt, vo_le, vo_gt, vo_ge, vn_int, vi_tup, vi_lst, vi_str, vs_tup, vs_lst, vf_nd, vf_ref, bf_len_tup, bf_len_lst, bf_len_str, bf_abs, bf_int, bf_tuple_tup, bf_tuple_lst, bf_list_tup, bf_list_lst, bf_str_int, bf_str_str, bf_all, bf_any, mk_f, mk_t, at0, at1, at2, at3, look, ofW, ofWs, vEq_int, vEq_bl, or_ok, and_ok, not_ok, na10, ev_take, Int.reduceLE, Int.reduceLT, Int.reduceToNat, Int.reducePow, Int.reduceAdd, Int.reduceMul, Int.reduceSub, Int.reduceNeg, Nat.reducePow, Nat.reduceLT, Nat.reduceLeDiff, and_self, true_and, and_true, AT_bind, AT_ok, AT_exc, AT_bad, AT_ask, Option.map_some, tgsLen_cons, tgsLen_nil, Nat.reduceAdd, Nat.reduceSub, if_true, if_false, Bool.not_true, Bool.not_false, reduceCtorEq, isNon, ite_true, ite_false, if_pos, e_vI_chr, vc_isin, vc_notin, vc_isfls, vs_str, bf_int_str, bf_list_str, bm_split, bm_join, rc_split, rc_sindex, rc_join, Prod.eta, Bool.false_eq_true, ck]
        rw [if_pos z']
        rfl
    · have q1 : fig (hd cs) = false := by simpa using q
      simp only [q1, e_vE_var, e_vE_cst, e_vE_bin, e_vE_neg, e_vE_cmp, e_vE_cmp2, e_vE_and, e_vE_or, e_vE_not, e_vE_ite, e_vE_tup, e_vE_lst, e_vE_fmt, e_vE_js, e_vE_idx, e_vE_sl, e_vE_fld, e_vE_call, e_vE_callK, e_vE_make, e_vE_makeK, e_vE_meth, e_vE_bif, e_vE_bm, e_vE_isi, e_vE_own, e_vEs_nil, e_vEs_cons, e_vJ_nil, e_vJ_cons, e_vAll_nil, e_vAll_cons, e_vEo_no, e_vEo_so, e_vI_of, e_vI_rng1, e_vI_rng2, e_vI_enm, e_vI_zip, e_vTg_nm, e_vTg_fld, e_vTg_sub, e_vTg_tp, e_vS_asg, e_vS_aug, e_vS_augS, e_vS_augF, e_vS_exp, e_vS_ret, e_vS_retN, e_vS_ifs, e_vS_pas, e_vS_brk, e_vS_cont, e_vS_never, e_vSs_nil, e_vSs_cons, e_vS_whl, e_vS_fr, e_vE_lc, e_vE_dct, e_vTgs_nil, e_vTgs_cons, bind_ok, catch_ok, catch_exc, noE_ok, e_vS_rais, e_vS_tr, bind_bad, bind_exc, bind_ask, Pv.bind_assoc, Pv.opt_some, Pv.opt_none, brT_bl, startD, fnR, clo_bad, clo_ask,
 List.map_cons, List.map_nil, List.length_cons, List.length_nil, List.replicate, List.cons_append, List.nil_append, List.append_nil, List.getElem?_cons_zero, List.getElem?_cons_succ, List.getElem?_nil, List.set_cons_zero, List.set_cons_succ,
 vget_zero, vget_succ, vb_add, vb_adds, vb_addt, vb_addl, vb_sub, vb_mul, vb_mull, vb_fdiv, vb_mod, vb_pow, vc_eq, vc_ne, vc_isnon, vc_notnon, vc_lt, vc_le, vc_gt, vc_ge, vo_lt, vo_le, vo_gt, vo_ge, vn_int, vi_tup, vi_lst, vi_str, vs_tup, vs_lst, vf_nd, vf_ref, bf_len_tup, bf_len_lst, bf_len_str, bf_abs, bf_int, bf_tuple_tup, bf_tuple_lst, bf_list_tup, bf_list_lst, bf_str_int, bf_str_str, bf_all, bf_any, mk_f, mk_t, at0, at1, at2, at3, look, ofW, ofWs, vEq_int, vEq_bl, or_ok, and_ok, not_ok, na10, ev_take, Int.reduceLE, Int.reduceLT, Int.reduceToNat, Int.reducePow, Int.reduceAdd, Int.reduceMul, Int.reduceSub, Int.reduceNeg, Nat.reducePow, Nat.reduceLT, Nat.reduceLeDiff, and_self, true_and, and_true, AT_bind, AT_ok, AT_exc, AT_bad, AT_ask, Option.map_some, tgsLen_cons, tgsLen_nil, Nat.reduceAdd, Nat.reduceSub, if_true, if_false, Bool.not_true, Bool.not_false, reduceCtorEq, isNon, ite_true, ite_false, if_pos, e_vI_chr, vc_isin, vc_notin, vc_isfls, vs_str, bf_int_str, bf_list_str, bm_split, bm_join, rc_split, rc_sindex, rc_join, Prod.eta, Bool.false_eq_true, false_and, ck]
      rfl
  · rw [e]
    dsimp only
    have ka := ok
    rw [ec, ok_app, Bool.and_eq_true] at ka
    have kb : ok7 b = true := by
      have := ka.2
      unfold ok7 at this ⊢
      simp only [List.all_cons, Bool.and_eq_true] at this
      exact this.2
    have la : a.length ≤ 300 := by have := hl; rw [ec] at this; simp at this; omega
    have lb : b.length ≤ 300 := by have := hl; rw [ec] at this; simp at this; omega
    have ls1 : (SX.S a).length ≤ sizeLine := by rw [SX.S_len]; unfold sizeLine; omega
    have lh : (hd a).length ≤ 300 := by have := hd_len a; omega
    have two : [a, b].map TS = [TS a, TS b] := rfl
    have eh : (if neg a = true then Tr.ok (TS (a.drop 1)) ([] : Sto) else Tr.ok (TS a) []) = Tr.ok (TS (hd a)) [] := by
      unfold hd
      split <;> rfl
    have lc : lcV (tab D) (ev (tab D) (Bo D) CF WF (d + 1)) CF (.call 34 (.cons (.var 3) .nil) []) (.nm 3) .nil [some (TS cs), some (.nd .lst [TS a, TS b]), some (TS (hd a)), none] [] [TS (hd a), TS b] [] [] = .ok [.bl (fig (hd a)), .bl (fig b)] [] := lcF34 (s := []) (l := [hd a, b]) (by simp) (fun c m => by
      simp only [List.mem_cons, List.not_mem_nil, or_false] at m
      rcases m with rfl | rfl
      · exact ⟨ok_hd ka.1, by omega⟩
      · exact ⟨kb, by omega⟩)
    have tc : decide (cs.take 1 = [45]) = neg a := by rw [ec]; exact take_neg
    simp only [e_vE_var, e_vE_cst, e_vE_bin, e_vE_neg, e_vE_cmp, e_vE_cmp2, e_vE_and, e_vE_or, e_vE_not, e_vE_ite, e_vE_tup, e_vE_lst, e_vE_fmt, e_vE_js, e_vE_idx, e_vE_sl, e_vE_fld, e_vE_call, e_vE_callK, e_vE_make, e_vE_makeK, e_vE_meth, e_vE_bif, e_vE_bm, e_vE_isi, e_vE_own, e_vEs_nil, e_vEs_cons, e_vJ_nil, e_vJ_cons, e_vAll_nil, e_vAll_cons, e_vEo_no, e_vEo_so, e_vI_of, e_vI_rng1, e_vI_rng2, e_vI_enm, e_vI_zip, e_vTg_nm, e_vTg_fld, e_vTg_sub, e_vTg_tp, e_vS_asg, e_vS_aug, e_vS_augS, e_vS_augF, e_vS_exp, e_vS_ret, e_vS_retN, e_vS_ifs, e_vS_pas, e_vS_brk, e_vS_cont, e_vS_never, e_vSs_nil, e_vSs_cons, e_vS_whl, e_vS_fr, e_vE_lc, e_vE_dct, e_vTgs_nil, e_vTgs_cons, bind_ok, catch_ok, catch_exc, noE_ok, e_vS_rais, e_vS_tr, bind_bad, bind_exc, bind_ask, Pv.bind_assoc, Pv.opt_some, Pv.opt_none, brT_bl, startD, fnR, clo_bad, clo_ask,
 List.map_cons, List.map_nil, List.length_cons, List.length_nil, List.replicate, List.cons_append, List.nil_append, List.append_nil, List.getElem?_cons_zero, List.getElem?_cons_succ, List.getElem?_nil, List.set_cons_zero, List.set_cons_succ,
 vget_zero, vget_succ, vb_add, vb_adds, vb_addt, vb_addl, vb_sub, vb_mul, vb_mull, vb_fdiv, vb_mod, vb_pow, vc_eq, vc_ne, vc_isnon, vc_notnon, vc_lt, vc_le, vc_gt, vc_ge, vo_lt, vo_le, vo_gt, vo_ge, vn_int, vi_tup, vi_lst, vi_str, vs_tup, vs_lst, vf_nd, vf_ref, bf_len_tup, bf_len_lst, bf_len_str, bf_abs, bf_int, bf_tuple_tup, bf_tuple_lst, bf_list_tup, bf_list_lst, bf_str_int, bf_str_str, bf_all, bf_any, mk_f, mk_t, at0, at1, at2, at3, look, ofW, ofWs, vEq_int, vEq_bl, or_ok, and_ok, not_ok, na10, ev_take, Int.reduceLE, Int.reduceLT, Int.reduceToNat, Int.reducePow, Int.reduceAdd, Int.reduceMul, Int.reduceSub, Int.reduceNeg, Nat.reducePow, Nat.reduceLT, Nat.reduceLeDiff, and_self, true_and, and_true, AT_bind, AT_ok, AT_exc, AT_bad, AT_ask, Option.map_some, tgsLen_cons, tgsLen_nil, Nat.reduceAdd, Nat.reduceSub, if_true, if_false, Bool.not_true, Bool.not_false, reduceCtorEq, isNon, ite_true, ite_false, if_pos, e_vI_chr, vc_isin, vc_notin, vc_isfls, vs_str, bf_int_str, bf_list_str, bm_split, bm_join, rc_split, rc_sindex, rc_join, Prod.eta, two, cut_to (show (0 : Int) ≤ 1 by decide), cut_from (show (0 : Int) ≤ 1 by decide), l45, l48, l49, vEq_S (ok_take ka.1) o45, vEq_S (ok_take ok) o45, ls1, ls0, tc, tk, Bool.false_eq_true, cut_tl, Int.toNat_one, eh, g22, s2, seqD, wipeD, lc, boolsD, mapO, List.all_cons, List.all_nil, Bool.and_true, id]
    unfold rd2
    by_cases q : (fig (hd a) && fig b) = true
    · have qq := q
      rw [Bool.and_eq_true] at qq
      have vz : decide (val (hd a) = 0) = decide (hd a = [48]) := decide_eq_decide.mpr (val_zero qq.1)
      have vb : decide (val b < 2) = (decide (b = [48]) || decide (b = [49])) := by
        rw [← Bool.decide_or]
        refine decide_eq_decide.mpr ?_
        rw [← val_zero qq.2, ← val_one qq.2]
        omega
      have l6 : (SX.S (hd a)).length ≤ 640 := by rw [SX.S_len]; omega
      have l6b : (SX.S b).length ≤ 640 := by rw [SX.S_len]; omega
      simp only [qq.1, qq.2, e_vE_var, e_vE_cst, e_vE_bin, e_vE_neg, e_vE_cmp, e_vE_cmp2, e_vE_and, e_vE_or, e_vE_not, e_vE_ite, e_vE_tup, e_vE_lst, e_vE_fmt, e_vE_js, e_vE_idx, e_vE_sl, e_vE_fld, e_vE_call, e_vE_callK, e_vE_make, e_vE_makeK, e_vE_meth, e_vE_bif, e_vE_bm, e_vE_isi, e_vE_own, e_vEs_nil, e_vEs_cons, e_vJ_nil, e_vJ_cons, e_vAll_nil, e_vAll_cons, e_vEo_no, e_vEo_so, e_vI_of, e_vI_rng1, e_vI_rng2, e_vI_enm, e_vI_zip, e_vTg_nm, e_vTg_fld, e_vTg_sub, e_vTg_tp, e_vS_asg, e_vS_aug, e_vS_augS, e_vS_augF, e_vS_exp, e_vS_ret, e_vS_retN, e_vS_ifs, e_vS_pas, e_vS_brk, e_vS_cont, e_vS_never, e_vSs_nil, e_vSs_cons, e_vS_whl, e_vS_fr, e_vE_lc, e_vE_dct, e_vTgs_nil, e_vTgs_cons, bind_ok, catch_ok, catch_exc, noE_ok, e_vS_rais, e_vS_tr, bind_bad, bind_exc, bind_ask, Pv.bind_assoc, Pv.opt_some, Pv.opt_none, brT_bl, startD, fnR, clo_bad, clo_ask,
 List.map_cons, List.map_nil, List.length_cons, List.length_nil, List.replicate, List.cons_append, List.nil_append, List.append_nil, List.getElem?_cons_zero, List.getElem?_cons_succ, List.getElem?_nil, List.set_cons_zero, List.set_cons_succ,
 vget_zero, vget_succ, vb_add, vb_adds, vb_addt, vb_addl, vb_sub, vb_mul, vb_mull, vb_fdiv, vb_mod, vb_pow, vc_eq, vc_ne, vc_isnon, vc_notnon, vc_lt, vc_le, vc_gt, vc_ge, vo_lt, vo_le, vo_gt, vo_ge, vn_int, vi_tup, vi_lst, vi_str, vs_tup, vs_lst, vf_nd, vf_ref, bf_len_tup, bf_len_lst, bf_len_str, bf_abs, bf_int, bf_tuple_tup, bf_tuple_lst, bf_list_tup, bf_list_lst, bf_str_int, bf_str_str, bf_all, bf_any, mk_f, mk_t, at0, at1, at2, at3, look, ofW, ofWs, vEq_int, vEq_bl, or_ok, and_ok, not_ok, na10, ev_take, Int.reduceLE, Int.reduceLT, Int.reduceToNat, Int.reducePow, Int.reduceAdd, Int.reduceMul, Int.reduceSub, Int.reduceNeg, Nat.reducePow, Nat.reduceLT, Nat.reduceLeDiff, and_self, true_and, and_true, AT_bind, AT_ok, AT_exc, AT_bad, AT_ask, Option.map_some, tgsLen_cons, tgsLen_nil, Nat.reduceAdd, Nat.reduceSub, if_true, if_false, Bool.not_true, Bool.not_false, reduceCtorEq, isNon, ite_true, ite_false, if_pos, e_vI_chr, vc_isin, vc_notin, vc_isfls, vs_str, bf_int_str, bf_list_str, bm_split, bm_join, rc_split, rc_sindex, rc_join, Prod.eta, Bool.false_eq_true, Bool.and_self, vEq_S (ok_hd ka.1) o48, n22, n21, in2 (T := tab D) (F := ev (tab D) (Bo D) CF WF (d + 1)), cut_to (show (0 : Int) ≤ 1 by decide), l45, l48, l49, vEq_S (ok_take ok) o45, ls0, tc, Int.toNat_one]
      by_cases z : (neg a && decide (hd a = [48])) = true
      · have z' : ¬ (¬ (neg a = true ∧ val (hd a) = 0) ∧ ¬ (val b < 2 ∨ Nat.gcd (val (hd a)) (val b) ≠ 1)) := fun h => h.1 (by rw [← vz] at z; simpa using z)
        simp only [z, e_vE_var, e_vE_cst, e_vE_bin, e_vE_neg, e_vE_cmp, e_vE_cmp2, e_vE_and, e_vE_or, e_vE_not, e_vE_ite, e_vE_tup, e_vE_lst, e_vE_fmt, e_vE_js, e_vE_idx, e_vE_sl, e_vE_fld, e_vE_call, e_vE_callK, e_vE_make, e_vE_makeK, e_vE_meth, e_vE_bif, e_vE_bm, e_vE_isi, e_vE_own, e_vEs_nil, e_vEs_cons, e_vJ_nil, e_vJ_cons, e_vAll_nil, e_vAll_cons, e_vEo_no, e_vEo_so, e_vI_of, e_vI_rng1, e_vI_rng2, e_vI_enm, e_vI_zip, e_vTg_nm, e_vTg_fld, e_vTg_sub, e_vTg_tp, e_vS_asg, e_vS_aug, e_vS_augS, e_vS_augF, e_vS_exp, e_vS_ret, e_vS_retN, e_vS_ifs, e_vS_pas, e_vS_brk, e_vS_cont, e_vS_never, e_vSs_nil, e_vSs_cons, e_vS_whl, e_vS_fr, e_vE_lc, e_vE_dct, e_vTgs_nil, e_vTgs_cons, bind_ok, catch_ok, catch_exc, noE_ok, e_vS_rais, e_vS_tr, bind_bad, bind_exc, bind_ask, Pv.bind_assoc, Pv.opt_some, Pv.opt_none, brT_bl, startD, fnR, clo_bad, clo_ask,
 List.map_cons, List.map_nil, List.length_cons, List.length_nil, List.replicate, List.cons_append, List.nil_append, List.append_nil, List.getElem?_cons_zero, List.getElem?_cons_succ, List.getElem?_nil, List.set_cons_zero, List.set_cons_succ,
 vget_zero, vget_succ, vb_add, vb_adds, vb_addt, vb_addl, vb_sub, vb_mul, vb_mull, vb_fdiv, vb_mod, vb_pow, vc_eq, vc_ne, vc_isnon, vc_notnon, vc_lt, vc_le, vc_gt, vc_ge, vo_lt, vo_le, vo_gt, vo_ge, vn_int, vi_tup, vi_lst, vi_str, vs_tup, vs_lst, vf_nd, vf_ref, bf_len_tup, bf_len_lst, bf_len_str, bf_abs, bf_int, bf_tuple_tup, bf_tuple_lst, bf_list_tup, bf_list_lst, bf_str_int, bf_str_str, bf_all, bf_any, mk_f, mk_t, at0, at1, at2, at3, look, ofW, ofWs, vEq_int, vEq_bl, or_ok, and_ok, not_ok, na10, ev_take, Int.reduceLE, Int.reduceLT, Int.reduceToNat, Int.reducePow, Int.reduceAdd, Int.reduceMul, Int.reduceSub, Int.reduceNeg, Nat.reducePow, Nat.reduceLT, Nat.reduceLeDiff, and_self, true_and, and_true, AT_bind, AT_ok, AT_exc, AT_bad, AT_ask, Option.map_some, tgsLen_cons, tgsLen_nil, Nat.reduceAdd, Nat.reduceSub, if_true, if_false, Bool.not_true, Bool.not_false, reduceCtorEq, isNon, ite_true, ite_false, if_pos, e_vI_chr, vc_isin, vc_notin, vc_isfls, vs_str, bf_int_str, bf_list_str, bm_split, bm_join, rc_split, rc_sindex, rc_join, Prod.eta, Bool.true_or, ck]
        rw [if_neg z']
        rfl
      · have z1 : (neg a && decide (hd a = [48])) = false := by simpa using z
        have z2 : ¬ (neg a = true ∧ val (hd a) = 0) := by rw [← vz] at z; simpa using z
        simp only [z1, e_vE_var, e_vE_cst, e_vE_bin, e_vE_neg, e_vE_cmp, e_vE_cmp2, e_vE_and, e_vE_or, e_vE_not, e_vE_ite, e_vE_tup, e_vE_lst, e_vE_fmt, e_vE_js, e_vE_idx, e_vE_sl, e_vE_fld, e_vE_call, e_vE_callK, e_vE_make, e_vE_makeK, e_vE_meth, e_vE_bif, e_vE_bm, e_vE_isi, e_vE_own, e_vEs_nil, e_vEs_cons, e_vJ_nil, e_vJ_cons, e_vAll_nil, e_vAll_cons, e_vEo_no, e_vEo_so, e_vI_of, e_vI_rng1, e_vI_rng2, e_vI_enm, e_vI_zip, e_vTg_nm, e_vTg_fld, e_vTg_sub, e_vTg_tp, e_vS_asg, e_vS_aug, e_vS_augS, e_vS_augF, e_vS_exp, e_vS_ret, e_vS_retN, e_vS_ifs, e_vS_pas, e_vS_brk, e_vS_cont, e_vS_never, e_vSs_nil, e_vSs_cons, e_vS_whl, e_vS_fr, e_vE_lc, e_vE_dct, e_vTgs_nil, e_vTgs_cons, bind_ok, catch_ok, catch_exc, noE_ok, e_vS_rais, e_vS_tr, bind_bad, bind_exc, bind_ask, Pv.bind_assoc, Pv.opt_some, Pv.opt_none, brT_bl, startD, fnR, clo_bad, clo_ask,
 List.map_cons, List.map_nil, List.length_cons, List.length_nil, List.replicate, List.cons_append, List.nil_append, List.append_nil, List.getElem?_cons_zero, List.getElem?_cons_succ, List.getElem?_nil, List.set_cons_zero, List.set_cons_succ,
 vget_zero, vget_succ, vb_add, vb_adds, vb_addt, vb_addl, vb_sub, vb_mul, vb_mull, vb_fdiv, vb_mod, vb_pow, vc_eq, vc_ne, vc_isnon, vc_notnon, vc_lt, vc_le, vc_gt, vc_ge, vo_lt, vo_le, vo_gt, vo_ge, vn_int, vi_tup, vi_lst, vi_str, vs_tup, vs_lst, vf_nd, vf_ref, bf_len_tup, bf_len_lst, bf_len_str, bf_abs, bf_int, bf_tuple_tup, bf_tuple_lst, bf_list_tup, bf_list_lst, bf_str_int, bf_str_str, bf_all, bf_any, mk_f, mk_t, at0, at1, at2, at3, look, ofW, ofWs, vEq_int, vEq_bl, or_ok, and_ok, not_ok, na10, ev_take, Int.reduceLE, Int.reduceLT, Int.reduceToNat, Int.reducePow, Int.reduceAdd, Int.reduceMul, Int.reduceSub, Int.reduceNeg, Nat.reducePow, Nat.reduceLT, Nat.reduceLeDiff, and_self, true_and, and_true, AT_bind, AT_ok, AT_exc, AT_bad, AT_ask, Option.map_some, tgsLen_cons, tgsLen_nil, Nat.reduceAdd, Nat.reduceSub, if_true, if_false, Bool.not_true, Bool.not_false, reduceCtorEq, isNon, ite_true, ite_false, if_pos, e_vI_chr, vc_isin, vc_notin, vc_isfls, vs_str, bf_int_str, bf_list_str, bm_split, bm_join, rc_split, rc_sindex, rc_join, Prod.eta, Bool.false_eq_true, Bool.false_or, ← vb]
        by_cases y : val b < 2
        · have y' : ¬ (¬ (neg a = true ∧ val (hd a) = 0) ∧ ¬ (val b < 2 ∨ Nat.gcd (val (hd a)) (val b) ≠ 1)) := fun h => h.2 (.inl y)
          simp only [y, decide_true, e_vE_var, e_vE_cst, e_vE_bin, e_vE_neg, e_vE_cmp, e_vE_cmp2, e_vE_and, e_vE_or, e_vE_not, e_vE_ite, e_vE_tup, e_vE_lst, e_vE_fmt, e_vE_js, e_vE_idx, e_vE_sl, e_vE_fld, e_vE_call, e_vE_callK, e_vE_make, e_vE_makeK, e_vE_meth, e_vE_bif, e_vE_bm, e_vE_isi, e_vE_own, e_vEs_nil, e_vEs_cons, e_vJ_nil, e_vJ_cons, e_vAll_nil, e_vAll_cons, e_vEo_no, e_vEo_so, e_vI_of, e_vI_rng1, e_vI_rng2, e_vI_enm, e_vI_zip, e_vTg_nm, e_vTg_fld, e_vTg_sub, e_vTg_tp, e_vS_asg, e_vS_aug, e_vS_augS, e_vS_augF, e_vS_exp, e_vS_ret, e_vS_retN, e_vS_ifs, e_vS_pas, e_vS_brk, e_vS_cont, e_vS_never, e_vSs_nil, e_vSs_cons, e_vS_whl, e_vS_fr, e_vE_lc, e_vE_dct, e_vTgs_nil, e_vTgs_cons, bind_ok, catch_ok, catch_exc, noE_ok, e_vS_rais, e_vS_tr, bind_bad, bind_exc, bind_ask, Pv.bind_assoc, Pv.opt_some, Pv.opt_none, brT_bl, startD, fnR, clo_bad, clo_ask,
 List.map_cons, List.map_nil, List.length_cons, List.length_nil, List.replicate, List.cons_append, List.nil_append, List.append_nil, List.getElem?_cons_zero, List.getElem?_cons_succ, List.getElem?_nil, List.set_cons_zero, List.set_cons_succ,
 vget_zero, vget_succ, vb_add, vb_adds, vb_addt, vb_addl, vb_sub, vb_mul, vb_mull, vb_fdiv, vb_mod, vb_pow, vc_eq, vc_ne, vc_isnon, vc_notnon, vc_lt, vc_le, vc_gt, vc_ge, vo_lt, vo_le, vo_gt, vo_ge, vn_int, vi_tup, vi_lst, vi_str, vs_tup, vs_lst, vf_nd, vf_ref, bf_len_tup, bf_len_lst, bf_len_str, bf_abs, bf_int, bf_tuple_tup, bf_tuple_lst, bf_list_tup, bf_list_lst, bf_str_int, bf_str_str, bf_all, bf_any, mk_f, mk_t, at0, at1, at2, at3, look, ofW, ofWs, vEq_int, vEq_bl, or_ok, and_ok, not_ok, na10, ev_take, Int.reduceLE, Int.reduceLT, Int.reduceToNat, Int.reducePow, Int.reduceAdd, Int.reduceMul, Int.reduceSub, Int.reduceNeg, Nat.reducePow, Nat.reduceLT, Nat.reduceLeDiff, and_self, true_and, and_true, AT_bind, AT_ok, AT_exc, AT_bad, AT_ask, Option.map_some, tgsLen_cons, tgsLen_nil, Nat.reduceAdd, Nat.reduceSub, if_true, if_false, Bool.not_true, Bool.not_false, reduceCtorEq, isNon, ite_true, ite_false, if_pos, e_vI_chr, vc_isin, vc_notin, vc_isfls, vs_str, bf_int_str, bf_list_str, bm_split, bm_join, rc_split, rc_sindex, rc_join, Prod.eta, ck]
          rw [if_neg (fun h => h.2 (.inl trivial))]
          rfl
        · have y1 : decide (val b < 2) = false := decide_eq_false y
          have f33' : ∀ s0 : Sto, ev (tab D) (Bo D) CF WF (d + 1) 33 [.int (val (hd a) : Int), .int (val b : Int)] s0 = .ok (TW (lo (val (hd a)) (val b))) s0 := fun s0 => f33 (n := 1200) (by omega) (val_bd (fig_dig qq.2) lb) (by decide)
          have le : decide (((lo (val (hd a) : Int) (val b : Int)).1, (lo (val (hd a) : Int) (val b : Int)).2) = ((val (hd a) : Int), (val b : Int))) = decide (Nat.gcd (val (hd a)) (val b) = 1) := lo_eq (by omega)
          simp only [y1, e_vE_var, e_vE_cst, e_vE_bin, e_vE_neg, e_vE_cmp, e_vE_cmp2, e_vE_and, e_vE_or, e_vE_not, e_vE_ite, e_vE_tup, e_vE_lst, e_vE_fmt, e_vE_js, e_vE_idx, e_vE_sl, e_vE_fld, e_vE_call, e_vE_callK, e_vE_make, e_vE_makeK, e_vE_meth, e_vE_bif, e_vE_bm, e_vE_isi, e_vE_own, e_vEs_nil, e_vEs_cons, e_vJ_nil, e_vJ_cons, e_vAll_nil, e_vAll_cons, e_vEo_no, e_vEo_so, e_vI_of, e_vI_rng1, e_vI_rng2, e_vI_enm, e_vI_zip, e_vTg_nm, e_vTg_fld, e_vTg_sub, e_vTg_tp, e_vS_asg, e_vS_aug, e_vS_augS, e_vS_augF, e_vS_exp, e_vS_ret, e_vS_retN, e_vS_ifs, e_vS_pas, e_vS_brk, e_vS_cont, e_vS_never, e_vSs_nil, e_vSs_cons, e_vS_whl, e_vS_fr, e_vE_lc, e_vE_dct, e_vTgs_nil, e_vTgs_cons, bind_ok, catch_ok, catch_exc, noE_ok, e_vS_rais, e_vS_tr, bind_bad, bind_exc, bind_ask, Pv.bind_assoc, Pv.opt_some, Pv.opt_none, brT_bl, startD, fnR, clo_bad, clo_ask,
 List.map_cons, List.map_nil, List.length_cons, List.length_nil, List.replicate, List.cons_append, List.nil_append, List.append_nil, List.getElem?_cons_zero, List.getElem?_cons_succ, List.getElem?_nil, List.set_cons_zero, List.set_cons_succ,
 vget_zero, vget_succ, vb_add, vb_adds, vb_addt, vb_addl, vb_sub, vb_mul, vb_mull, vb_fdiv, vb_mod, vb_pow, vc_eq, vc_ne, vc_isnon, vc_notnon, vc_lt, vc_le, vc_gt, vc_ge, vo_lt, vo_le, vo_gt, vo_ge, vn_int, vi_tup, vi_lst, vi_str, vs_tup, vs_lst, vf_nd, vf_ref, bf_len_tup, bf_len_lst, bf_len_str, bf_abs, bf_int, bf_tuple_tup, bf_tuple_lst, bf_list_tup, bf_list_lst, bf_str_int, bf_str_str, bf_all, bf_any, mk_f, mk_t, at0, at1, at2, at3, look, ofW, ofWs, vEq_int, vEq_bl, or_ok, and_ok, not_ok, na10, ev_take, Int.reduceLE, Int.reduceLT, Int.reduceToNat, Int.reducePow, Int.reduceAdd, Int.reduceMul, Int.reduceSub, Int.reduceNeg, Nat.reducePow, Nat.reduceLT, Nat.reduceLeDiff, and_self, true_and, and_true, AT_bind, AT_ok, AT_exc, AT_bad, AT_ask, Option.map_some, tgsLen_cons, tgsLen_nil, Nat.reduceAdd, Nat.reduceSub, if_true, if_false, Bool.not_true, Bool.not_false, reduceCtorEq, isNon, ite_true, ite_false, if_pos, e_vI_chr, vc_isin, vc_notin, vc_isfls, vs_str, bf_int_str, bf_list_str, bm_split, bm_join, rc_split, rc_sindex, rc_join, Prod.eta, Bool.false_eq_true, l6, l6b, fig_int qq.1 (show (hd a).length ≤ 600 by omega), fig_int qq.2 (show b.length ≤ 600 by omega), f33', vEq_2, le, ck]
          by_cases g : Nat.gcd (val (hd a)) (val b) = 1
          · rw [if_pos ⟨z2, fun h => h.elim y (fun k => k g)⟩, decide_eq_true g]
            rfl
          · rw [if_neg (fun h => h.2 (.inr g)), decide_eq_false g]
            rfl
    · have q1 : (fig (hd a) && fig b) = false := by simpa using q
      have q2 : ¬ ((fig (hd a) = true ∧ fig b = true) ∧ ¬ (neg a = true ∧ val (hd a) = 0) ∧ ¬ (val b < 2 ∨ Nat.gcd (val (hd a)) (val b) ≠ 1)) := fun h => q (by rw [Bool.and_eq_true]; exact h.1)
      simp only [q1, e_vE_var, e_vE_cst, e_vE_bin, e_vE_neg, e_vE_cmp, e_vE_cmp2, e_vE_and, e_vE_or, e_vE_not, e_vE_ite, e_vE_tup, e_vE_lst, e_vE_fmt, e_vE_js, e_vE_idx, e_vE_sl, e_vE_fld, e_vE_call, e_vE_callK, e_vE_make, e_vE_makeK, e_vE_meth, e_vE_bif, e_vE_bm, e_vE_isi, e_vE_own, e_vEs_nil, e_vEs_cons, e_vJ_nil, e_vJ_cons, e_vAll_nil, e_vAll_cons, e_vEo_no, e_vEo_so, e_vI_of, e_vI_rng1, e_vI_rng2, e_vI_enm, e_vI_zip, e_vTg_nm, e_vTg_fld, e_vTg_sub, e_vTg_tp, e_vS_asg, e_vS_aug, e_vS_augS, e_vS_augF, e_vS_exp, e_vS_ret, e_vS_retN, e_vS_ifs, e_vS_pas, e_vS_brk, e_vS_cont, e_vS_never, e_vSs_nil, e_vSs_cons, e_vS_whl, e_vS_fr, e_vE_lc, e_vE_dct, e_vTgs_nil, e_vTgs_cons, bind_ok, catch_ok, catch_exc, noE_ok, e_vS_rais, e_vS_tr, bind_bad, bind_exc, bind_ask, Pv.bind_assoc, Pv.opt_some, Pv.opt_none, brT_bl, startD, fnR, clo_bad, clo_ask,
 List.map_cons, List.map_nil, List.length_cons, List.length_nil, List.replicate, List.cons_append, List.nil_append, List.append_nil, List.getElem?_cons_zero, List.getElem?_cons_succ, List.getElem?_nil, List.set_cons_zero, List.set_cons_succ,
 vget_zero, vget_succ, vb_add, vb_adds, vb_addt, vb_addl, vb_sub, vb_mul, vb_mull, vb_fdiv, vb_mod, vb_pow, vc_eq, vc_ne, vc_isnon, vc_notnon, vc_lt, vc_le, vc_gt, vc_ge, vo_lt, vo_le, vo_gt, vo_ge, vn_int, vi_tup, vi_lst, vi_str, vs_tup, vs_lst, vf_nd, vf_ref, bf_len_tup, bf_len_lst, bf_len_str, bf_abs, bf_int, bf_tuple_tup, bf_tuple_lst, bf_list_tup, bf_list_lst, bf_str_int, bf_str_str, bf_all, bf_any, mk_f, mk_t, at0, at1, at2, at3, look, ofW, ofWs, vEq_int, vEq_bl, or_ok, and_ok, not_ok, na10, ev_take, Int.reduceLE, Int.reduceLT, Int.reduceToNat, Int.reducePow, Int.reduceAdd, Int.reduceMul, Int.reduceSub, Int.reduceNeg, Nat.reducePow, Nat.reduceLT, Nat.reduceLeDiff, and_self, true_and, and_true, AT_bind, AT_ok, AT_exc, AT_bad, AT_ask, Option.map_some, tgsLen_cons, tgsLen_nil, Nat.reduceAdd, Nat.reduceSub, if_true, if_false, Bool.not_true, Bool.not_false, reduceCtorEq, isNon, ite_true, ite_false, if_pos, e_vI_chr, vc_isin, vc_notin, vc_isfls, vs_str, bf_int_str, bf_list_str, bm_split, bm_join, rc_split, rc_sindex, rc_join, Prod.eta, Bool.false_eq_true, ck]
      rw [if_neg q2]
      rfl
  · rw [e]
    dsimp only
    have la : ok7 a = true ∧ (SX.S a).length ≤ sizeLine := by
      have j := sp_join cs
      rw [e] at j
      have j : a ++ ([47] ++ TL.joinL [47] (b :: c :: r)) = cs := j
      have k := ok
      have l := hl
      rw [← j, ok_app, Bool.and_eq_true] at k
      rw [← j, List.length_append] at l
      exact ⟨k.1, by rw [SX.S_len]; unfold sizeLine; omega⟩
    have many : (a :: b :: c :: r).map TS = TS a :: TS b :: TS c :: r.map TS := rfl
    have eh : (if neg a = true then Tr.ok (TS (a.drop 1)) ([] : Sto) else Tr.ok (TS a) []) = Tr.ok (TS (hd a)) [] := by
      unfold hd
      split <;> rfl
    have gm : decide ((2 : Int) < (((r.map TS).length + 1 + 1 + 1 : Nat) : Int)) = true := decide_eq_true (by omega)
    simp only [e_vE_var, e_vE_cst, e_vE_bin, e_vE_neg, e_vE_cmp, e_vE_cmp2, e_vE_and, e_vE_or, e_vE_not, e_vE_ite, e_vE_tup, e_vE_lst, e_vE_fmt, e_vE_js, e_vE_idx, e_vE_sl, e_vE_fld, e_vE_call, e_vE_callK, e_vE_make, e_vE_makeK, e_vE_meth, e_vE_bif, e_vE_bm, e_vE_isi, e_vE_own, e_vEs_nil, e_vEs_cons, e_vJ_nil, e_vJ_cons, e_vAll_nil, e_vAll_cons, e_vEo_no, e_vEo_so, e_vI_of, e_vI_rng1, e_vI_rng2, e_vI_enm, e_vI_zip, e_vTg_nm, e_vTg_fld, e_vTg_sub, e_vTg_tp, e_vS_asg, e_vS_aug, e_vS_augS, e_vS_augF, e_vS_exp, e_vS_ret, e_vS_retN, e_vS_ifs, e_vS_pas, e_vS_brk, e_vS_cont, e_vS_never, e_vSs_nil, e_vSs_cons, e_vS_whl, e_vS_fr, e_vE_lc, e_vE_dct, e_vTgs_nil, e_vTgs_cons, bind_ok, catch_ok, catch_exc, noE_ok, e_vS_rais, e_vS_tr, bind_bad, bind_exc, bind_ask, Pv.bind_assoc, Pv.opt_some, Pv.opt_none, brT_bl, startD, fnR, clo_bad, clo_ask,
 List.map_cons, List.map_nil, List.length_cons, List.length_nil, List.replicate, List.cons_append, List.nil_append, List.append_nil, List.getElem?_cons_zero, List.getElem?_cons_succ, List.getElem?_nil, List.set_cons_zero, List.set_cons_succ,
 vget_zero, vget_succ, vb_add, vb_adds, vb_addt, vb_addl, vb_sub, vb_mul, vb_mull, vb_fdiv, vb_mod, vb_pow, vc_eq, vc_ne, vc_isnon, vc_notnon, vc_lt, vc_le, vc_gt, vc_ge, vo_lt, vo_le, vo_gt, vo_ge, vn_int, vi_tup, vi_lst, vi_str, vs_tup, vs_lst, vf_nd, vf_ref, bf_len_tup, bf_len_lst, bf_len_str, bf_abs, bf_int, bf_tuple_tup, bf_tuple_lst, bf_list_tup, bf_list_lst, bf_str_int, bf_str_str, bf_all, bf_any, mk_f, mk_t, at0, at1, at2, at3, look, ofW, ofWs, vEq_int, vEq_bl, or_ok, and_ok, not_ok, na10, ev_take, Int.reduceLE, Int.reduceLT, Int.reduceToNat, Int.reducePow, Int.reduceAdd, Int.reduceMul, Int.reduceSub, Int.reduceNeg, Nat.reducePow, Nat.reduceLT, Nat.reduceLeDiff, and_self, true_and, and_true, AT_bind, AT_ok, AT_exc, AT_bad, AT_ask, Option.map_some, tgsLen_cons, tgsLen_nil, Nat.reduceAdd, Nat.reduceSub, if_true, if_false, Bool.not_true, Bool.not_false, reduceCtorEq, isNon, ite_true, ite_false, if_pos, e_vI_chr, vc_isin, vc_notin, vc_isfls, vs_str, bf_int_str, bf_list_str, bm_split, bm_join, rc_split, rc_sindex, rc_join, Prod.eta, many, cut_to (show (0 : Int) ≤ 1 by decide), cut_from (show (0 : Int) ≤ 1 by decide), l45, vEq_S (ok_take la.1) o45, la.2, tk, Bool.false_eq_true, cut_tl, Int.toNat_one, eh, gm, ck]
    rfl
end
end Lw
set_option maxHeartbeats 2000000
namespace Lw
open PySem Mi Pv Tk
theorem num_len {n : Nat} (h : n < 2 ^ 200) : (Tk.numL n).length ≤ 61 := TL.numL_len (by decide) (Nat.lt_of_lt_of_le h (by decide))
theorem iL_len {i : Int} (h : Bd 200 i) : (iL i).length ≤ 62 := by
  have := num_len h
  unfold iL
  split
  · simp; exact this
  · omega
theorem iL_len6 {i : Int} (h : Bd 600 i) : (iL i).length ≤ 202 := by
  have : (Tk.numL i.natAbs).length ≤ 201 := TL.numL_len (by decide) (Nat.lt_of_lt_of_le h (by decide))
  unfold iL
  split
  · simp; exact this
  · omega
theorem txL_len {x : Int × Int} (h : Bd 200 x.1) (g : Bd 200 x.2) : (txL x).length ≤ 125 := by
  have := iL_len h
  have := iL_len g
  unfold txL
  split
  · omega
  · simp; omega
theorem iL_ok (i : Int) : ok7 (iL i) = true := by
  have : ok7 (Tk.numL i.natAbs) = true := by
    unfold ok7
    rw [List.all_eq_true]
    intro c m
    have := TL.numL_digits i.natAbs c m
    exact decide_eq_true (by omega)
  unfold iL
  split
  · unfold ok7 at this ⊢
    rw [List.all_cons, this]
    rfl
  · exact this
theorem txL_ok (x : Int × Int) : ok7 (txL x) = true := by
  unfold txL
  split
  · exact iL_ok _
  · rw [ok_app, iL_ok]
    have := iL_ok x.2
    unfold ok7 at this ⊢
    rw [List.all_cons, this]
    rfl
theorem emp : Str.empty = SX.S [] := rfl
section
variable {d : Nat} {s : Sto} {P : V → Sto → Prop} {E : Nat → List (Nat × V) → Sto → Prop}
theorem ct {a : List Nat} : clo s (Tr.ok (TS a) []) = .ok (TS a) s := clo_ok rfl
theorem f30 {x : Int × Int} (b1 : Bd 600 x.1) (b2 : Bd 600 x.2) : ev (tab D) (Bo D) CF WF (d + 1) 30 [SP x] s = .ok (TS (txL x)) s := by
  refine (ev_at (Df := ⟨1, 1, m_30⟩) rfl (by decide) rfl rfl rfl).trans ?_
  unfold m_30 txL
  have l1 := bd_log b1 (by decide)
  have l2 := bd_log b2 (by decide)
  have t1 := iL_len6 b1
  have t2 := iL_len6 b2
  have c1 : (SX.S ([] ++ iL x.1)).length ≤ sizeLine := by rw [SX.S_len]; unfold sizeLine; simp; omega
  have c2 : (SX.S ([] ++ iL x.1 ++ [47])).length ≤ sizeLine := by rw [SX.S_len]; unfold sizeLine; simp; omega
  have c3 : (SX.S ([] ++ iL x.1 ++ [47] ++ iL x.2)).length ≤ sizeLine := by rw [SX.S_len]; unfold sizeLine; simp; omega
  simp only [e_vE_var, e_vE_cst, e_vE_bin, e_vE_neg, e_vE_cmp, e_vE_cmp2, e_vE_and, e_vE_or, e_vE_not, e_vE_ite, e_vE_tup, e_vE_lst, e_vE_fmt, e_vE_js, e_vE_idx, e_vE_sl, e_vE_fld, e_vE_call, e_vE_callK, e_vE_make, e_vE_makeK, e_vE_meth, e_vE_bif, e_vE_bm, e_vE_isi, e_vE_own, e_vEs_nil, e_vEs_cons, e_vJ_nil, e_vJ_cons, e_vAll_nil, e_vAll_cons, e_vEo_no, e_vEo_so, e_vI_of, e_vI_rng1, e_vI_rng2, e_vI_enm, e_vI_zip, e_vTg_nm, e_vTg_fld, e_vTg_sub, e_vTg_tp, e_vS_asg, e_vS_aug, e_vS_augS, e_vS_augF, e_vS_exp, e_vS_ret, e_vS_retN, e_vS_ifs, e_vS_pas, e_vS_brk, e_vS_cont, e_vS_never, e_vSs_nil, e_vSs_cons, e_vS_whl, e_vS_fr, e_vE_lc, e_vE_dct, e_vTgs_nil, e_vTgs_cons, bind_ok, catch_ok, catch_exc, noE_ok, e_vS_rais, e_vS_tr, bind_bad, bind_exc, bind_ask, Pv.bind_assoc, Pv.opt_some, Pv.opt_none, brT_bl, startD, fnR, clo_bad, clo_ask,
 List.map_cons, List.map_nil, List.length_cons, List.length_nil, List.replicate, List.cons_append, List.nil_append, List.append_nil, List.getElem?_cons_zero, List.getElem?_cons_succ, List.getElem?_nil, List.set_cons_zero, List.set_cons_succ,
 vget_zero, vget_succ, vb_add, vb_adds, vb_addt, vb_addl, vb_sub, vb_mul, vb_mull, vb_fdiv, vb_mod, vb_pow, vc_eq, vc_ne, vc_isnon, vc_notnon, vc_lt, vc_le, vc_gt, vc_ge, vo_lt, vo_le, vo_gt, vo_ge, vn_int, vi_tup, vi_lst, vi_str, vs_tup, vs_lst, vf_nd, vf_ref, bf_len_tup, bf_len_lst, bf_len_str, bf_abs, bf_int, bf_tuple_tup, bf_tuple_lst, bf_list_tup, bf_list_lst, bf_str_int, bf_str_str, bf_all, bf_any, mk_f, mk_t, at0, at1, at2, at3, look, ofW, ofWs, vEq_int, vEq_bl, or_ok, and_ok, not_ok, na10, ev_take, Int.reduceLE, Int.reduceLT, Int.reduceToNat, Int.reducePow, Int.reduceAdd, Int.reduceMul, Int.reduceSub, Int.reduceNeg, Nat.reducePow, Nat.reduceLT, Nat.reduceLeDiff, and_self, true_and, and_true, AT_bind, AT_ok, AT_exc, AT_bad, AT_ask, Option.map_some, tgsLen_cons, tgsLen_nil, Nat.reduceAdd, Nat.reduceSub, if_true, if_false, Bool.not_true, Bool.not_false, reduceCtorEq, isNon, ite_true, ite_false, if_pos, e_vI_chr, vc_isin, vc_notin, vc_isfls, vs_str, bf_int_str, bf_list_str, bm_split, bm_join, rc_split, rc_sindex, rc_join, Prod.eta, fl0, fl1, getN, l1, l2, str_int, l47, emp, SX.S_cat]
  by_cases c : x.2 = 1
  · simp only [c, decide_true, e_vE_var, e_vE_cst, e_vE_bin, e_vE_neg, e_vE_cmp, e_vE_cmp2, e_vE_and, e_vE_or, e_vE_not, e_vE_ite, e_vE_tup, e_vE_lst, e_vE_fmt, e_vE_js, e_vE_idx, e_vE_sl, e_vE_fld, e_vE_call, e_vE_callK, e_vE_make, e_vE_makeK, e_vE_meth, e_vE_bif, e_vE_bm, e_vE_isi, e_vE_own, e_vEs_nil, e_vEs_cons, e_vJ_nil, e_vJ_cons, e_vAll_nil, e_vAll_cons, e_vEo_no, e_vEo_so, e_vI_of, e_vI_rng1, e_vI_rng2, e_vI_enm, e_vI_zip, e_vTg_nm, e_vTg_fld, e_vTg_sub, e_vTg_tp, e_vS_asg, e_vS_aug, e_vS_augS, e_vS_augF, e_vS_exp, e_vS_ret, e_vS_retN, e_vS_ifs, e_vS_pas, e_vS_brk, e_vS_cont, e_vS_never, e_vSs_nil, e_vSs_cons, e_vS_whl, e_vS_fr, e_vE_lc, e_vE_dct, e_vTgs_nil, e_vTgs_cons, bind_ok, catch_ok, catch_exc, noE_ok, e_vS_rais, e_vS_tr, bind_bad, bind_exc, bind_ask, Pv.bind_assoc, Pv.opt_some, Pv.opt_none, brT_bl, startD, fnR, clo_bad, clo_ask,
 List.map_cons, List.map_nil, List.length_cons, List.length_nil, List.replicate, List.cons_append, List.nil_append, List.append_nil, List.getElem?_cons_zero, List.getElem?_cons_succ, List.getElem?_nil, List.set_cons_zero, List.set_cons_succ,
 vget_zero, vget_succ, vb_add, vb_adds, vb_addt, vb_addl, vb_sub, vb_mul, vb_mull, vb_fdiv, vb_mod, vb_pow, vc_eq, vc_ne, vc_isnon, vc_notnon, vc_lt, vc_le, vc_gt, vc_ge, vo_lt, vo_le, vo_gt, vo_ge, vn_int, vi_tup, vi_lst, vi_str, vs_tup, vs_lst, vf_nd, vf_ref, bf_len_tup, bf_len_lst, bf_len_str, bf_abs, bf_int, bf_tuple_tup, bf_tuple_lst, bf_list_tup, bf_list_lst, bf_str_int, bf_str_str, bf_all, bf_any, mk_f, mk_t, at0, at1, at2, at3, look, ofW, ofWs, vEq_int, vEq_bl, or_ok, and_ok, not_ok, na10, ev_take, Int.reduceLE, Int.reduceLT, Int.reduceToNat, Int.reducePow, Int.reduceAdd, Int.reduceMul, Int.reduceSub, Int.reduceNeg, Nat.reducePow, Nat.reduceLT, Nat.reduceLeDiff, and_self, true_and, and_true, AT_bind, AT_ok, AT_exc, AT_bad, AT_ask, Option.map_some, tgsLen_cons, tgsLen_nil, Nat.reduceAdd, Nat.reduceSub, if_true, if_false, Bool.not_true, Bool.not_false, reduceCtorEq, isNon, ite_true, ite_false, if_pos, e_vI_chr, vc_isin, vc_notin, vc_isfls, vs_str, bf_int_str, bf_list_str, bm_split, bm_join, rc_split, rc_sindex, rc_join, Prod.eta, str_int, ct]
  · simp only [List.nil_append] at c1 c2 c3
    simp only [c, decide_false, e_vE_var, e_vE_cst, e_vE_bin, e_vE_neg, e_vE_cmp, e_vE_cmp2, e_vE_and, e_vE_or, e_vE_not, e_vE_ite, e_vE_tup, e_vE_lst, e_vE_fmt, e_vE_js, e_vE_idx, e_vE_sl, e_vE_fld, e_vE_call, e_vE_callK, e_vE_make, e_vE_makeK, e_vE_meth, e_vE_bif, e_vE_bm, e_vE_isi, e_vE_own, e_vEs_nil, e_vEs_cons, e_vJ_nil, e_vJ_cons, e_vAll_nil, e_vAll_cons, e_vEo_no, e_vEo_so, e_vI_of, e_vI_rng1, e_vI_rng2, e_vI_enm, e_vI_zip, e_vTg_nm, e_vTg_fld, e_vTg_sub, e_vTg_tp, e_vS_asg, e_vS_aug, e_vS_augS, e_vS_augF, e_vS_exp, e_vS_ret, e_vS_retN, e_vS_ifs, e_vS_pas, e_vS_brk, e_vS_cont, e_vS_never, e_vSs_nil, e_vSs_cons, e_vS_whl, e_vS_fr, e_vE_lc, e_vE_dct, e_vTgs_nil, e_vTgs_cons, bind_ok, catch_ok, catch_exc, noE_ok, e_vS_rais, e_vS_tr, bind_bad, bind_exc, bind_ask, Pv.bind_assoc, Pv.opt_some, Pv.opt_none, brT_bl, startD, fnR, clo_bad, clo_ask,
 List.map_cons, List.map_nil, List.length_cons, List.length_nil, List.replicate, List.cons_append, List.nil_append, List.append_nil, List.getElem?_cons_zero, List.getElem?_cons_succ, List.getElem?_nil, List.set_cons_zero, List.set_cons_succ,
 vget_zero, vget_succ, vb_add, vb_adds, vb_addt, vb_addl, vb_sub, vb_mul, vb_mull, vb_fdiv, vb_mod, vb_pow, vc_eq, vc_ne, vc_isnon, vc_notnon, vc_lt, vc_le, vc_gt, vc_ge, vo_lt, vo_le, vo_gt, vo_ge, vn_int, vi_tup, vi_lst, vi_str, vs_tup, vs_lst, vf_nd, vf_ref, bf_len_tup, bf_len_lst, bf_len_str, bf_abs, bf_int, bf_tuple_tup, bf_tuple_lst, bf_list_tup, bf_list_lst, bf_str_int, bf_str_str, bf_all, bf_any, mk_f, mk_t, at0, at1, at2, at3, look, ofW, ofWs, vEq_int, vEq_bl, or_ok, and_ok, not_ok, na10, ev_take, Int.reduceLE, Int.reduceLT, Int.reduceToNat, Int.reducePow, Int.reduceAdd, Int.reduceMul, Int.reduceSub, Int.reduceNeg, Nat.reducePow, Nat.reduceLT, Nat.reduceLeDiff, and_self, true_and, and_true, AT_bind, AT_ok, AT_exc, AT_bad, AT_ask, Option.map_some, tgsLen_cons, tgsLen_nil, Nat.reduceAdd, Nat.reduceSub, if_true, if_false, Bool.not_true, Bool.not_false, reduceCtorEq, isNon, ite_true, ite_false, if_pos, e_vI_chr, vc_isin, vc_notin, vc_isfls, vs_str, bf_int_str, bf_list_str, bm_split, bm_join, rc_split, rc_sindex, rc_join, Prod.eta, c1, c2, c3, Bool.false_eq_true, str_int, ct, l47, emp, SX.S_cat]
    rw [List.append_assoc]
    rfl
theorem f31 {x : Int × Int} (b1 : Bd 600 x.1) (b2 : Bd 600 x.2) : ev (tab D) (Bo D) CF WF (d + 1) 31 [TW x] s = .ok (TS (txL x)) s := by
  refine (ev_at (Df := ⟨1, 1, m_31⟩) rfl (by decide) rfl rfl rfl).trans ?_
  unfold m_31 txL
  have l1 := bd_log b1 (by decide)
  have l2 := bd_log b2 (by decide)
  have t1 := iL_len6 b1
  have t2 := iL_len6 b2
  have c2 : (SX.S (iL x.1)).length + (SX.S [47]).length ≤ sizeLine := by rw [SX.S_len, SX.S_len]; unfold sizeLine; simp; omega
  have c3 : (SX.S (iL x.1 ++ [47])).length + (SX.S (iL x.2)).length ≤ sizeLine := by rw [SX.S_len, SX.S_len]; unfold sizeLine; simp; omega
  simp only [e_vE_var, e_vE_cst, e_vE_bin, e_vE_neg, e_vE_cmp, e_vE_cmp2, e_vE_and, e_vE_or, e_vE_not, e_vE_ite, e_vE_tup, e_vE_lst, e_vE_fmt, e_vE_js, e_vE_idx, e_vE_sl, e_vE_fld, e_vE_call, e_vE_callK, e_vE_make, e_vE_makeK, e_vE_meth, e_vE_bif, e_vE_bm, e_vE_isi, e_vE_own, e_vEs_nil, e_vEs_cons, e_vJ_nil, e_vJ_cons, e_vAll_nil, e_vAll_cons, e_vEo_no, e_vEo_so, e_vI_of, e_vI_rng1, e_vI_rng2, e_vI_enm, e_vI_zip, e_vTg_nm, e_vTg_fld, e_vTg_sub, e_vTg_tp, e_vS_asg, e_vS_aug, e_vS_augS, e_vS_augF, e_vS_exp, e_vS_ret, e_vS_retN, e_vS_ifs, e_vS_pas, e_vS_brk, e_vS_cont, e_vS_never, e_vSs_nil, e_vSs_cons, e_vS_whl, e_vS_fr, e_vE_lc, e_vE_dct, e_vTgs_nil, e_vTgs_cons, bind_ok, catch_ok, catch_exc, noE_ok, e_vS_rais, e_vS_tr, bind_bad, bind_exc, bind_ask, Pv.bind_assoc, Pv.opt_some, Pv.opt_none, brT_bl, startD, fnR, clo_bad, clo_ask,
 List.map_cons, List.map_nil, List.length_cons, List.length_nil, List.replicate, List.cons_append, List.nil_append, List.append_nil, List.getElem?_cons_zero, List.getElem?_cons_succ, List.getElem?_nil, List.set_cons_zero, List.set_cons_succ,
 vget_zero, vget_succ, vb_add, vb_adds, vb_addt, vb_addl, vb_sub, vb_mul, vb_mull, vb_fdiv, vb_mod, vb_pow, vc_eq, vc_ne, vc_isnon, vc_notnon, vc_lt, vc_le, vc_gt, vc_ge, vo_lt, vo_le, vo_gt, vo_ge, vn_int, vi_tup, vi_lst, vi_str, vs_tup, vs_lst, vf_nd, vf_ref, bf_len_tup, bf_len_lst, bf_len_str, bf_abs, bf_int, bf_tuple_tup, bf_tuple_lst, bf_list_tup, bf_list_lst, bf_str_int, bf_str_str, bf_all, bf_any, mk_f, mk_t, at0, at1, at2, at3, look, ofW, ofWs, vEq_int, vEq_bl, or_ok, and_ok, not_ok, na10, ev_take, Int.reduceLE, Int.reduceLT, Int.reduceToNat, Int.reducePow, Int.reduceAdd, Int.reduceMul, Int.reduceSub, Int.reduceNeg, Nat.reducePow, Nat.reduceLT, Nat.reduceLeDiff, and_self, true_and, and_true, AT_bind, AT_ok, AT_exc, AT_bad, AT_ask, Option.map_some, tgsLen_cons, tgsLen_nil, Nat.reduceAdd, Nat.reduceSub, if_true, if_false, Bool.not_true, Bool.not_false, reduceCtorEq, isNon, ite_true, ite_false, if_pos, e_vI_chr, vc_isin, vc_notin, vc_isfls, vs_str, bf_int_str, bf_list_str, bm_split, bm_join, rc_split, rc_sindex, rc_join, Prod.eta, l1, l2, str_int, l47, SX.S_cat]
  by_cases c : x.2 = 1
  · simp only [c, decide_true, e_vE_var, e_vE_cst, e_vE_bin, e_vE_neg, e_vE_cmp, e_vE_cmp2, e_vE_and, e_vE_or, e_vE_not, e_vE_ite, e_vE_tup, e_vE_lst, e_vE_fmt, e_vE_js, e_vE_idx, e_vE_sl, e_vE_fld, e_vE_call, e_vE_callK, e_vE_make, e_vE_makeK, e_vE_meth, e_vE_bif, e_vE_bm, e_vE_isi, e_vE_own, e_vEs_nil, e_vEs_cons, e_vJ_nil, e_vJ_cons, e_vAll_nil, e_vAll_cons, e_vEo_no, e_vEo_so, e_vI_of, e_vI_rng1, e_vI_rng2, e_vI_enm, e_vI_zip, e_vTg_nm, e_vTg_fld, e_vTg_sub, e_vTg_tp, e_vS_asg, e_vS_aug, e_vS_augS, e_vS_augF, e_vS_exp, e_vS_ret, e_vS_retN, e_vS_ifs, e_vS_pas, e_vS_brk, e_vS_cont, e_vS_never, e_vSs_nil, e_vSs_cons, e_vS_whl, e_vS_fr, e_vE_lc, e_vE_dct, e_vTgs_nil, e_vTgs_cons, bind_ok, catch_ok, catch_exc, noE_ok, e_vS_rais, e_vS_tr, bind_bad, bind_exc, bind_ask, Pv.bind_assoc, Pv.opt_some, Pv.opt_none, brT_bl, startD, fnR, clo_bad, clo_ask,
 List.map_cons, List.map_nil, List.length_cons, List.length_nil, List.replicate, List.cons_append, List.nil_append, List.append_nil, List.getElem?_cons_zero, List.getElem?_cons_succ, List.getElem?_nil, List.set_cons_zero, List.set_cons_succ,
 vget_zero, vget_succ, vb_add, vb_adds, vb_addt, vb_addl, vb_sub, vb_mul, vb_mull, vb_fdiv, vb_mod, vb_pow, vc_eq, vc_ne, vc_isnon, vc_notnon, vc_lt, vc_le, vc_gt, vc_ge, vo_lt, vo_le, vo_gt, vo_ge, vn_int, vi_tup, vi_lst, vi_str, vs_tup, vs_lst, vf_nd, vf_ref, bf_len_tup, bf_len_lst, bf_len_str, bf_abs, bf_int, bf_tuple_tup, bf_tuple_lst, bf_list_tup, bf_list_lst, bf_str_int, bf_str_str, bf_all, bf_any, mk_f, mk_t, at0, at1, at2, at3, look, ofW, ofWs, vEq_int, vEq_bl, or_ok, and_ok, not_ok, na10, ev_take, Int.reduceLE, Int.reduceLT, Int.reduceToNat, Int.reducePow, Int.reduceAdd, Int.reduceMul, Int.reduceSub, Int.reduceNeg, Nat.reducePow, Nat.reduceLT, Nat.reduceLeDiff, and_self, true_and, and_true, AT_bind, AT_ok, AT_exc, AT_bad, AT_ask, Option.map_some, tgsLen_cons, tgsLen_nil, Nat.reduceAdd, Nat.reduceSub, if_true, if_false, Bool.not_true, Bool.not_false, reduceCtorEq, isNon, ite_true, ite_false, if_pos, e_vI_chr, vc_isin, vc_notin, vc_isfls, vs_str, bf_int_str, bf_list_str, bm_split, bm_join, rc_split, rc_sindex, rc_join, Prod.eta, str_int, ct]
  · simp only [c, decide_false, e_vE_var, e_vE_cst, e_vE_bin, e_vE_neg, e_vE_cmp, e_vE_cmp2, e_vE_and, e_vE_or, e_vE_not, e_vE_ite, e_vE_tup, e_vE_lst, e_vE_fmt, e_vE_js, e_vE_idx, e_vE_sl, e_vE_fld, e_vE_call, e_vE_callK, e_vE_make, e_vE_makeK, e_vE_meth, e_vE_bif, e_vE_bm, e_vE_isi, e_vE_own, e_vEs_nil, e_vEs_cons, e_vJ_nil, e_vJ_cons, e_vAll_nil, e_vAll_cons, e_vEo_no, e_vEo_so, e_vI_of, e_vI_rng1, e_vI_rng2, e_vI_enm, e_vI_zip, e_vTg_nm, e_vTg_fld, e_vTg_sub, e_vTg_tp, e_vS_asg, e_vS_aug, e_vS_augS, e_vS_augF, e_vS_exp, e_vS_ret, e_vS_retN, e_vS_ifs, e_vS_pas, e_vS_brk, e_vS_cont, e_vS_never, e_vSs_nil, e_vSs_cons, e_vS_whl, e_vS_fr, e_vE_lc, e_vE_dct, e_vTgs_nil, e_vTgs_cons, bind_ok, catch_ok, catch_exc, noE_ok, e_vS_rais, e_vS_tr, bind_bad, bind_exc, bind_ask, Pv.bind_assoc, Pv.opt_some, Pv.opt_none, brT_bl, startD, fnR, clo_bad, clo_ask,
 List.map_cons, List.map_nil, List.length_cons, List.length_nil, List.replicate, List.cons_append, List.nil_append, List.append_nil, List.getElem?_cons_zero, List.getElem?_cons_succ, List.getElem?_nil, List.set_cons_zero, List.set_cons_succ,
 vget_zero, vget_succ, vb_add, vb_adds, vb_addt, vb_addl, vb_sub, vb_mul, vb_mull, vb_fdiv, vb_mod, vb_pow, vc_eq, vc_ne, vc_isnon, vc_notnon, vc_lt, vc_le, vc_gt, vc_ge, vo_lt, vo_le, vo_gt, vo_ge, vn_int, vi_tup, vi_lst, vi_str, vs_tup, vs_lst, vf_nd, vf_ref, bf_len_tup, bf_len_lst, bf_len_str, bf_abs, bf_int, bf_tuple_tup, bf_tuple_lst, bf_list_tup, bf_list_lst, bf_str_int, bf_str_str, bf_all, bf_any, mk_f, mk_t, at0, at1, at2, at3, look, ofW, ofWs, vEq_int, vEq_bl, or_ok, and_ok, not_ok, na10, ev_take, Int.reduceLE, Int.reduceLT, Int.reduceToNat, Int.reducePow, Int.reduceAdd, Int.reduceMul, Int.reduceSub, Int.reduceNeg, Nat.reducePow, Nat.reduceLT, Nat.reduceLeDiff, and_self, true_and, and_true, AT_bind, AT_ok, AT_exc, AT_bad, AT_ask, Option.map_some, tgsLen_cons, tgsLen_nil, Nat.reduceAdd, Nat.reduceSub, if_true, if_false, Bool.not_true, Bool.not_false, reduceCtorEq, isNon, ite_true, ite_false, if_pos, e_vI_chr, vc_isin, vc_notin, vc_isfls, vs_str, bf_int_str, bf_list_str, bm_split, bm_join, rc_split, rc_sindex, rc_join, Prod.eta, c2, c3, Bool.false_eq_true, str_int, ct, l47, SX.S_cat]
    rw [List.append_assoc]
    rfl
theorem f32 (h : ∀ x, Lw x → Bd 98 x.1 → Bd 31 x.2 → P (TW x) s) : AT (ev (tab D) (Bo D) CF WF (d + 4) 32 [.drw] s) P E := by
  rw [ev_at (Df := ⟨1, 1, m_32⟩) rfl (by decide) rfl rfl rfl]
  unfold m_32
  refine AT_clo ?_
  simp only [e_vE_var, e_vE_cst, e_vE_bin, e_vE_neg, e_vE_cmp, e_vE_cmp2, e_vE_and, e_vE_or, e_vE_not, e_vE_ite, e_vE_tup, e_vE_lst, e_vE_fmt, e_vE_js, e_vE_idx, e_vE_sl, e_vE_fld, e_vE_call, e_vE_callK, e_vE_make, e_vE_makeK, e_vE_meth, e_vE_bif, e_vE_bm, e_vE_isi, e_vE_own, e_vEs_nil, e_vEs_cons, e_vJ_nil, e_vJ_cons, e_vAll_nil, e_vAll_cons, e_vEo_no, e_vEo_so, e_vI_of, e_vI_rng1, e_vI_rng2, e_vI_enm, e_vI_zip, e_vTg_nm, e_vTg_fld, e_vTg_sub, e_vTg_tp, e_vS_asg, e_vS_aug, e_vS_augS, e_vS_augF, e_vS_exp, e_vS_ret, e_vS_retN, e_vS_ifs, e_vS_pas, e_vS_brk, e_vS_cont, e_vS_never, e_vSs_nil, e_vSs_cons, e_vS_whl, e_vS_fr, e_vE_lc, e_vE_dct, e_vTgs_nil, e_vTgs_cons, bind_ok, catch_ok, catch_exc, noE_ok, e_vS_rais, e_vS_tr, bind_bad, bind_exc, bind_ask, Pv.bind_ite, Pv.bind_assoc, Pv.opt_some, Pv.opt_none, brT_bl, startD, fnR, clo_ite, clo_bad, clo_ask,
 List.map_cons, List.map_nil, List.length_cons, List.length_nil, List.replicate, List.cons_append, List.nil_append, List.append_nil, List.getElem?_cons_zero, List.getElem?_cons_succ, List.getElem?_nil, List.set_cons_zero, List.set_cons_succ,
 vget_zero, vget_succ, vb_add, vb_adds, vb_addt, vb_addl, vb_sub, vb_mul, vb_mull, vb_fdiv, vb_mod, vb_pow, vc_eq, vc_ne, vc_isnon, vc_notnon, vc_lt, vc_le, vc_gt, vc_ge, vo_lt, vo_le, vo_gt, vo_ge, vn_int, vi_tup, vi_lst, vi_str, vs_tup, vs_lst, vf_nd, vf_ref, bf_len_tup, bf_len_lst, bf_len_str, bf_abs, bf_int, bf_tuple_tup, bf_tuple_lst, bf_list_tup, bf_list_lst, bf_str_int, bf_str_str, bf_all, bf_any, mk_f, mk_t, at0, at1, at2, at3, look, ofW, ofWs, vEq_int, vEq_bl, or_ok, and_ok, not_ok, na10, ev_take, Int.reduceLE, Int.reduceLT, Int.reduceToNat, Int.reducePow, Int.reduceAdd, Int.reduceMul, Int.reduceSub, Int.reduceNeg, Nat.reducePow, Nat.reduceLT, Nat.reduceLeDiff, and_self, true_and, and_true, AT_bind, AT_ok, AT_exc, AT_bad, AT_ask, AT_ite, Option.map_some, tgsLen_cons, tgsLen_nil, Nat.reduceAdd, Nat.reduceSub, if_true, if_false, Bool.not_true, Bool.not_false, reduceCtorEq, isNon, ite_true, ite_false, if_pos, e_vI_chr, vc_isin, vc_notin, vc_isfls, vs_str, bf_int_str, bf_list_str, bm_split, bm_join, rc_split, rc_sindex, rc_join]
  refine f36 fun i bi j j0 j1 => ?_
  refine one_all (by simp) (by simp) (by simp [clean]) fun v m => ?_
  have hv : ∃ k, v = .int k ∧ 0 < k ∧ k < 2 ^ 31 := by
    simp only [List.mem_cons, List.not_mem_nil, or_false] at m
    rcases m with rfl | rfl | rfl | rfl | rfl | rfl
    all_goals exact ⟨_, rfl, by omega, by omega⟩
  obtain ⟨k, rfl, k0, k1⟩ := hv
  have bk : Bd 31 k := by unfold Bd; omega
  rw [f33 (n := 31) (by omega) bk (by decide), AT_ok]
  have l := lo_bd bi bk
  exact ⟨_, fz_clean rfl, h _ (lo_lw (by omega)) l.1 l.2⟩
/-- what is found of a text -/
def fnd (cs : List Nat) : V := match rd cs with
  | some x => .nd .tup [.str (Str.ofString "made"), .int x.1, .int x.2, TS (txL x)]
  | none => .nd .tup [.str (Str.ofString "text"), .int 1]
theorem rd_bd {cs : List Nat} {x : Int × Int} (hl : cs.length ≤ 130) (h : rd cs = some x) : Bd 600 x.1 ∧ Bd 600 x.2 := by
  have go : ∀ {l : List Nat}, l.all dig = true → l.length ≤ 130 → Bd 600 (val l : Int) := fun {l} h hl => by
    unfold Bd
    refine Nat.lt_of_lt_of_le (m := 10 ^ 130) ?_ (by decide)
    exact Nat.lt_of_lt_of_le (by simpa using val_lt h) (Nat.pow_le_pow_right (by decide) hl)
  unfold rd at h
  rcases sp_cases cs with ⟨_, e⟩ | ⟨a, b, _, _, ec, e⟩ | ⟨a, b, c, r, e⟩
  · rw [e] at h
    dsimp only at h
    unfold rd1 at h
    split at h
    · rename_i q
      cases h
      exact ⟨sg_bd (go (fig_dig q.1) (by have := hd_len cs; omega)), by show Bd 600 (1 : Int); unfold Bd; decide⟩
    · cases h
  · rw [e] at h
    dsimp only at h
    unfold rd2 at h
    have la : a.length ≤ 130 ∧ b.length ≤ 130 := by rw [ec] at hl; simp at hl; omega
    split at h
    · rename_i q
      cases h
      exact ⟨sg_bd (go (fig_dig q.1.1) (by have := hd_len a; omega)), go (fig_dig q.1.2) la.2⟩
    · cases h
  · rw [e] at h
    cases h
theorem mf : (tab D).meth 0 2 = some 30 := rfl
theorem f28 {cs : List Nat} (ok : ok7 cs = true) (hl : cs.length ≤ 130) : ev (tab D) (Bo D) CF WF (d + 4) 28 [TS cs] s = .ok (fnd cs) s := by
  refine (ev_at (Df := ⟨1, 4, m_28⟩) rfl (by decide) rfl rfl rfl).trans ?_
  unfold m_28
  have e := fun s0 => f35 (d := d) (s := s0) ok (show cs.length ≤ 300 by omega)
  simp only [e_vE_var, e_vE_cst, e_vE_bin, e_vE_neg, e_vE_cmp, e_vE_cmp2, e_vE_and, e_vE_or, e_vE_not, e_vE_ite, e_vE_tup, e_vE_lst, e_vE_fmt, e_vE_js, e_vE_idx, e_vE_sl, e_vE_fld, e_vE_call, e_vE_callK, e_vE_make, e_vE_makeK, e_vE_meth, e_vE_bif, e_vE_bm, e_vE_isi, e_vE_own, e_vEs_nil, e_vEs_cons, e_vJ_nil, e_vJ_cons, e_vAll_nil, e_vAll_cons, e_vEo_no, e_vEo_so, e_vI_of, e_vI_rng1, e_vI_rng2, e_vI_enm, e_vI_zip, e_vTg_nm, e_vTg_fld, e_vTg_sub, e_vTg_tp, e_vS_asg, e_vS_aug, e_vS_augS, e_vS_augF, e_vS_exp, e_vS_ret, e_vS_retN, e_vS_ifs, e_vS_pas, e_vS_brk, e_vS_cont, e_vS_never, e_vSs_nil, e_vSs_cons, e_vS_whl, e_vS_fr, e_vE_lc, e_vE_dct, e_vTgs_nil, e_vTgs_cons, bind_ok, catch_ok, catch_exc, noE_ok, e_vS_rais, e_vS_tr, bind_bad, bind_exc, bind_ask, Pv.bind_assoc, Pv.opt_some, Pv.opt_none, brT_bl, startD, fnR, clo_bad, clo_ask,
 List.map_cons, List.map_nil, List.length_cons, List.length_nil, List.replicate, List.cons_append, List.nil_append, List.append_nil, List.getElem?_cons_zero, List.getElem?_cons_succ, List.getElem?_nil, List.set_cons_zero, List.set_cons_succ,
 vget_zero, vget_succ, vb_add, vb_adds, vb_addt, vb_addl, vb_sub, vb_mul, vb_mull, vb_fdiv, vb_mod, vb_pow, vc_eq, vc_ne, vc_isnon, vc_notnon, vc_lt, vc_le, vc_gt, vc_ge, vo_lt, vo_le, vo_gt, vo_ge, vn_int, vi_tup, vi_lst, vi_str, vs_tup, vs_lst, vf_nd, vf_ref, bf_len_tup, bf_len_lst, bf_len_str, bf_abs, bf_int, bf_tuple_tup, bf_tuple_lst, bf_list_tup, bf_list_lst, bf_str_int, bf_str_str, bf_all, bf_any, mk_f, mk_t, at0, at1, at2, at3, look, ofW, ofWs, vEq_int, vEq_bl, or_ok, and_ok, not_ok, na10, ev_take, Int.reduceLE, Int.reduceLT, Int.reduceToNat, Int.reducePow, Int.reduceAdd, Int.reduceMul, Int.reduceSub, Int.reduceNeg, Nat.reducePow, Nat.reduceLT, Nat.reduceLeDiff, and_self, true_and, and_true, AT_bind, AT_ok, AT_exc, AT_bad, AT_ask, Option.map_some, tgsLen_cons, tgsLen_nil, Nat.reduceAdd, Nat.reduceSub, if_true, if_false, Bool.not_true, Bool.not_false, reduceCtorEq, isNon, ite_true, ite_false, if_pos, e_vI_chr, vc_isin, vc_notin, vc_isfls, vs_str, bf_int_str, bf_list_str, bm_split, bm_join, rc_split, rc_sindex, rc_join, Prod.eta, e]
  unfold fnd rdT
  have md : ([0, 1].contains 2) = false := rfl
  have x2 : (tab D).exOk 2 = true := rfl
  have su : (tab D).sub 2 2 = true := rfl
  cases q : rd cs with
  | some x =>
    obtain ⟨b1, b2⟩ := rd_bd hl q
    simp only [e_vE_var, e_vE_cst, e_vE_bin, e_vE_neg, e_vE_cmp, e_vE_cmp2, e_vE_and, e_vE_or, e_vE_not, e_vE_ite, e_vE_tup, e_vE_lst, e_vE_fmt, e_vE_js, e_vE_idx, e_vE_sl, e_vE_fld, e_vE_call, e_vE_callK, e_vE_make, e_vE_makeK, e_vE_meth, e_vE_bif, e_vE_bm, e_vE_isi, e_vE_own, e_vEs_nil, e_vEs_cons, e_vJ_nil, e_vJ_cons, e_vAll_nil, e_vAll_cons, e_vEo_no, e_vEo_so, e_vI_of, e_vI_rng1, e_vI_rng2, e_vI_enm, e_vI_zip, e_vTg_nm, e_vTg_fld, e_vTg_sub, e_vTg_tp, e_vS_asg, e_vS_aug, e_vS_augS, e_vS_augF, e_vS_exp, e_vS_ret, e_vS_retN, e_vS_ifs, e_vS_pas, e_vS_brk, e_vS_cont, e_vS_never, e_vSs_nil, e_vSs_cons, e_vS_whl, e_vS_fr, e_vE_lc, e_vE_dct, e_vTgs_nil, e_vTgs_cons, bind_ok, catch_ok, catch_exc, noE_ok, e_vS_rais, e_vS_tr, bind_bad, bind_exc, bind_ask, Pv.bind_assoc, Pv.opt_some, Pv.opt_none, brT_bl, startD, fnR, clo_bad, clo_ask,
 List.map_cons, List.map_nil, List.length_cons, List.length_nil, List.replicate, List.cons_append, List.nil_append, List.append_nil, List.getElem?_cons_zero, List.getElem?_cons_succ, List.getElem?_nil, List.set_cons_zero, List.set_cons_succ,
 vget_zero, vget_succ, vb_add, vb_adds, vb_addt, vb_addl, vb_sub, vb_mul, vb_mull, vb_fdiv, vb_mod, vb_pow, vc_eq, vc_ne, vc_isnon, vc_notnon, vc_lt, vc_le, vc_gt, vc_ge, vo_lt, vo_le, vo_gt, vo_ge, vn_int, vi_tup, vi_lst, vi_str, vs_tup, vs_lst, vf_nd, vf_ref, bf_len_tup, bf_len_lst, bf_len_str, bf_abs, bf_int, bf_tuple_tup, bf_tuple_lst, bf_list_tup, bf_list_lst, bf_str_int, bf_str_str, bf_all, bf_any, mk_f, mk_t, at0, at1, at2, at3, look, ofW, ofWs, vEq_int, vEq_bl, or_ok, and_ok, not_ok, na10, ev_take, Int.reduceLE, Int.reduceLT, Int.reduceToNat, Int.reducePow, Int.reduceAdd, Int.reduceMul, Int.reduceSub, Int.reduceNeg, Nat.reducePow, Nat.reduceLT, Nat.reduceLeDiff, and_self, true_and, and_true, AT_bind, AT_ok, AT_exc, AT_bad, AT_ask, Option.map_some, tgsLen_cons, tgsLen_nil, Nat.reduceAdd, Nat.reduceSub, if_true, if_false, Bool.not_true, Bool.not_false, reduceCtorEq, isNon, ite_true, ite_false, if_pos, e_vI_chr, vc_isin, vc_notin, vc_isfls, vs_str, bf_int_str, bf_list_str, bm_split, bm_join, rc_split, rc_sindex, rc_join, Prod.eta, fl0, fl1, getN, mf, md, f30 b1 b2, Bool.false_eq_true]
    exact clo_ok rfl
  | none =>
    simp only [e_vE_var, e_vE_cst, e_vE_bin, e_vE_neg, e_vE_cmp, e_vE_cmp2, e_vE_and, e_vE_or, e_vE_not, e_vE_ite, e_vE_tup, e_vE_lst, e_vE_fmt, e_vE_js, e_vE_idx, e_vE_sl, e_vE_fld, e_vE_call, e_vE_callK, e_vE_make, e_vE_makeK, e_vE_meth, e_vE_bif, e_vE_bm, e_vE_isi, e_vE_own, e_vEs_nil, e_vEs_cons, e_vJ_nil, e_vJ_cons, e_vAll_nil, e_vAll_cons, e_vEo_no, e_vEo_so, e_vI_of, e_vI_rng1, e_vI_rng2, e_vI_enm, e_vI_zip, e_vTg_nm, e_vTg_fld, e_vTg_sub, e_vTg_tp, e_vS_asg, e_vS_aug, e_vS_augS, e_vS_augF, e_vS_exp, e_vS_ret, e_vS_retN, e_vS_ifs, e_vS_pas, e_vS_brk, e_vS_cont, e_vS_never, e_vSs_nil, e_vSs_cons, e_vS_whl, e_vS_fr, e_vE_lc, e_vE_dct, e_vTgs_nil, e_vTgs_cons, bind_ok, catch_ok, catch_exc, noE_ok, e_vS_rais, e_vS_tr, bind_bad, bind_exc, bind_ask, Pv.bind_assoc, Pv.opt_some, Pv.opt_none, brT_bl, startD, fnR, clo_bad, clo_ask,
 List.map_cons, List.map_nil, List.length_cons, List.length_nil, List.replicate, List.cons_append, List.nil_append, List.append_nil, List.getElem?_cons_zero, List.getElem?_cons_succ, List.getElem?_nil, List.set_cons_zero, List.set_cons_succ,
 vget_zero, vget_succ, vb_add, vb_adds, vb_addt, vb_addl, vb_sub, vb_mul, vb_mull, vb_fdiv, vb_mod, vb_pow, vc_eq, vc_ne, vc_isnon, vc_notnon, vc_lt, vc_le, vc_gt, vc_ge, vo_lt, vo_le, vo_gt, vo_ge, vn_int, vi_tup, vi_lst, vi_str, vs_tup, vs_lst, vf_nd, vf_ref, bf_len_tup, bf_len_lst, bf_len_str, bf_abs, bf_int, bf_tuple_tup, bf_tuple_lst, bf_list_tup, bf_list_lst, bf_str_int, bf_str_str, bf_all, bf_any, mk_f, mk_t, at0, at1, at2, at3, look, ofW, ofWs, vEq_int, vEq_bl, or_ok, and_ok, not_ok, na10, ev_take, Int.reduceLE, Int.reduceLT, Int.reduceToNat, Int.reducePow, Int.reduceAdd, Int.reduceMul, Int.reduceSub, Int.reduceNeg, Nat.reducePow, Nat.reduceLT, Nat.reduceLeDiff, and_self, true_and, and_true, AT_bind, AT_ok, AT_exc, AT_bad, AT_ask, Option.map_some, tgsLen_cons, tgsLen_nil, Nat.reduceAdd, Nat.reduceSub, if_true, if_false, Bool.not_true, Bool.not_false, reduceCtorEq, isNon, ite_true, ite_false, if_pos, e_vI_chr, vc_isin, vc_notin, vc_isfls, vs_str, bf_int_str, bf_list_str, bm_split, bm_join, rc_split, rc_sindex, rc_join, Prod.eta, x2, List.find?_cons, su, tplD, mapO, getP, Nat.reduceLT]
    exact clo_ok rfl
/-- one sign changed, put in or left out -/
theorem f29 {cs : List Nat} (ok : ok7 cs = true) (hl : cs.length ≤ 125) (h : ∀ cs', ok7 cs' = true → cs'.length ≤ 130 → P (TS cs') s) : AT (ev (tab D) (Bo D) CF WF (d + 4) 29 [.drw, TS cs] s) P E := by
  rw [ev_at (Df := ⟨2, 5, m_29⟩) rfl (by decide) rfl rfl rfl]
  unfold m_29
  refine AT_clo ?_
  have ls : (SX.S cs).length ≤ sizeLine := by rw [SX.S_len]; unfold sizeLine; omega
  have lS : ((SX.S cs).length : Int) = (cs.length : Int) := by rw [SX.S_len]
  have t1 : 0 < ((SX.S cs).length : Int) + 1 ∧ ((SX.S cs).length : Int) + 1 < 2 ^ 200 := by rw [lS]; omega
  have lt : Str.ofString "/-+0123 a_" = SX.S [47, 45, 43, 48, 49, 50, 51, 32, 97, 95] := by rw [Str.ofString_eq_toList]; rfl
  have sz : (SX.S [47, 45, 43, 48, 49, 50, 51, 32, 97, 95]).cps.size ≤ sizeLine := by unfold sizeLine; decide
  simp only [e_vE_var, e_vE_cst, e_vE_bin, e_vE_neg, e_vE_cmp, e_vE_cmp2, e_vE_and, e_vE_or, e_vE_not, e_vE_ite, e_vE_tup, e_vE_lst, e_vE_fmt, e_vE_js, e_vE_idx, e_vE_sl, e_vE_fld, e_vE_call, e_vE_callK, e_vE_make, e_vE_makeK, e_vE_meth, e_vE_bif, e_vE_bm, e_vE_isi, e_vE_own, e_vEs_nil, e_vEs_cons, e_vJ_nil, e_vJ_cons, e_vAll_nil, e_vAll_cons, e_vEo_no, e_vEo_so, e_vI_of, e_vI_rng1, e_vI_rng2, e_vI_enm, e_vI_zip, e_vTg_nm, e_vTg_fld, e_vTg_sub, e_vTg_tp, e_vS_asg, e_vS_aug, e_vS_augS, e_vS_augF, e_vS_exp, e_vS_ret, e_vS_retN, e_vS_ifs, e_vS_pas, e_vS_brk, e_vS_cont, e_vS_never, e_vSs_nil, e_vSs_cons, e_vS_whl, e_vS_fr, e_vE_lc, e_vE_dct, e_vTgs_nil, e_vTgs_cons, bind_ok, catch_ok, catch_exc, noE_ok, e_vS_rais, e_vS_tr, bind_bad, bind_exc, bind_ask, Pv.bind_ite, Pv.bind_assoc, Pv.opt_some, Pv.opt_none, brT_bl, startD, fnR, clo_ite, clo_bad, clo_ask,
 List.map_cons, List.map_nil, List.length_cons, List.length_nil, List.replicate, List.cons_append, List.nil_append, List.append_nil, List.getElem?_cons_zero, List.getElem?_cons_succ, List.getElem?_nil, List.set_cons_zero, List.set_cons_succ,
 vget_zero, vget_succ, vb_add, vb_adds, vb_addt, vb_addl, vb_sub, vb_mul, vb_mull, vb_fdiv, vb_mod, vb_pow, vc_eq, vc_ne, vc_isnon, vc_notnon, vc_lt, vc_le, vc_gt, vc_ge, vo_lt, vo_le, vo_gt, vo_ge, vn_int, vi_tup, vi_lst, vi_str, vs_tup, vs_lst, vf_nd, vf_ref, bf_len_tup, bf_len_lst, bf_len_str, bf_abs, bf_int, bf_tuple_tup, bf_tuple_lst, bf_list_tup, bf_list_lst, bf_str_int, bf_str_str, bf_all, bf_any, mk_f, mk_t, at0, at1, at2, at3, look, ofW, ofWs, vEq_int, vEq_bl, or_ok, and_ok, not_ok, na10, ev_take, Int.reduceLE, Int.reduceLT, Int.reduceToNat, Int.reducePow, Int.reduceAdd, Int.reduceMul, Int.reduceSub, Int.reduceNeg, Nat.reducePow, Nat.reduceLT, Nat.reduceLeDiff, and_self, true_and, and_true, AT_bind, AT_ok, AT_exc, AT_bad, AT_ask, AT_ite, Option.map_some, tgsLen_cons, tgsLen_nil, Nat.reduceAdd, Nat.reduceSub, if_true, if_false, Bool.not_true, Bool.not_false, reduceCtorEq, isNon, ite_true, ite_false, if_pos, e_vI_chr, vc_isin, vc_notin, vc_isfls, vs_str, bf_int_str, bf_list_str, bm_split, bm_join, rc_split, rc_sindex, rc_join, ls, t1.1, lt, sz, chrD_S]
  rw [if_pos (by rw [lS]; omega)]
  intro i i0 i1
  have i1 : i < (cs.length : Int) + 1 := by rw [← lS]; exact i1
  clear t1 lt sz
  refine one_all (by simp) (by simp) (by simp [clean]) fun v m => ?_
  have hv : ∃ c, v = TS [c] ∧ c < 128 := by
    simp only [List.mem_cons, List.not_mem_nil, or_false] at m
    rcases m with rfl | rfl | rfl | rfl | rfl | rfl | rfl | rfl | rfl | rfl
    all_goals exact ⟨_, rfl, by decide⟩
  obtain ⟨c, rfl, hc⟩ := hv
  simp only [e_vE_var, e_vE_cst, e_vE_bin, e_vE_neg, e_vE_cmp, e_vE_cmp2, e_vE_and, e_vE_or, e_vE_not, e_vE_ite, e_vE_tup, e_vE_lst, e_vE_fmt, e_vE_js, e_vE_idx, e_vE_sl, e_vE_fld, e_vE_call, e_vE_callK, e_vE_make, e_vE_makeK, e_vE_meth, e_vE_bif, e_vE_bm, e_vE_isi, e_vE_own, e_vEs_nil, e_vEs_cons, e_vJ_nil, e_vJ_cons, e_vAll_nil, e_vAll_cons, e_vEo_no, e_vEo_so, e_vI_of, e_vI_rng1, e_vI_rng2, e_vI_enm, e_vI_zip, e_vTg_nm, e_vTg_fld, e_vTg_sub, e_vTg_tp, e_vS_asg, e_vS_aug, e_vS_augS, e_vS_augF, e_vS_exp, e_vS_ret, e_vS_retN, e_vS_ifs, e_vS_pas, e_vS_brk, e_vS_cont, e_vS_never, e_vSs_nil, e_vSs_cons, e_vS_whl, e_vS_fr, e_vE_lc, e_vE_dct, e_vTgs_nil, e_vTgs_cons, bind_ok, catch_ok, catch_exc, noE_ok, e_vS_rais, e_vS_tr, bind_bad, bind_exc, bind_ask, Pv.bind_assoc, Pv.opt_some, Pv.opt_none, brT_bl, startD, fnR, clo_bad, clo_ask,
 List.map_cons, List.map_nil, List.length_cons, List.length_nil, List.replicate, List.cons_append, List.nil_append, List.append_nil, List.getElem?_cons_zero, List.getElem?_cons_succ, List.getElem?_nil, List.set_cons_zero, List.set_cons_succ,
 vget_zero, vget_succ, vb_add, vb_adds, vb_addt, vb_addl, vb_sub, vb_mul, vb_mull, vb_fdiv, vb_mod, vb_pow, vc_eq, vc_ne, vc_isnon, vc_notnon, vc_lt, vc_le, vc_gt, vc_ge, vo_lt, vo_le, vo_gt, vo_ge, vn_int, vi_tup, vi_lst, vi_str, vs_tup, vs_lst, vf_nd, vf_ref, bf_len_tup, bf_len_lst, bf_len_str, bf_abs, bf_int, bf_tuple_tup, bf_tuple_lst, bf_list_tup, bf_list_lst, bf_str_int, bf_str_str, bf_all, bf_any, mk_f, mk_t, at0, at1, at2, at3, look, ofW, ofWs, vEq_int, vEq_bl, or_ok, and_ok, not_ok, na10, ev_take, Int.reduceLE, Int.reduceLT, Int.reduceToNat, Int.reducePow, Int.reduceAdd, Int.reduceMul, Int.reduceSub, Int.reduceNeg, Nat.reducePow, Nat.reduceLT, Nat.reduceLeDiff, and_self, true_and, and_true, AT_bind, AT_ok, AT_exc, AT_bad, AT_ask, Option.map_some, tgsLen_cons, tgsLen_nil, Nat.reduceAdd, Nat.reduceSub, if_true, if_false, Bool.not_true, Bool.not_false, reduceCtorEq, isNon, ite_true, ite_false, if_pos, e_vI_chr, vc_isin, vc_notin, vc_isfls, vs_str, bf_int_str, bf_list_str, bm_split, bm_join, rc_split, rc_sindex, rc_join, Prod.eta]
  intro w w0 w1
  have j0 : (0 : Int) ≤ i + 0 := by omega
  have j1 : (0 : Int) ≤ i + 1 := by omega
  have tl : (cs.take i.toNat).length ≤ cs.length := by simp; omega
  have g1 : ∀ m : List Nat, m.length ≤ 1 → (SX.S (cs.take i.toNat)).length + (SX.S m).length ≤ sizeLine := fun m hm => by
    rw [SX.S_len, SX.S_len]
    unfold sizeLine
    omega
  have g2 : ∀ (m : List Nat) (j : Nat), m.length ≤ 1 → (SX.S (cs.take i.toNat ++ m)).length + (SX.S (cs.drop j)).length ≤ sizeLine := fun m j hm => by
    rw [SX.S_len, SX.S_len, List.length_append, List.length_drop]
    unfold sizeLine
    omega
  have hp : ∀ (m : List Nat) (j : Nat), m.length ≤ 1 → ok7 m = true → i.toNat ≤ j → ∃ d', fz ([] : Sto) (TS (cs.take i.toNat ++ m ++ cs.drop j)) = some d' ∧ P d' s := fun m j hm om hj => by
    refine ⟨_, fz_clean rfl, h _ ?_ ?_⟩
    · rw [ok_app, ok_app, ok_take ok, om, ok_drop ok]
      rfl
    · rw [List.length_append, List.length_append, List.length_take, List.length_drop]
      omega
  have oc : ok7 [c] = true := by simp [ok7, hc]
  simp only [cut_to i0, cut_from j0, cut_from j1, l0, SX.S_cat, g1 [] (by simp), g1 [c] (by simp), g2 [] _ (by simp), g2 [c] _ (by simp), e_vE_var, e_vE_cst, e_vE_bin, e_vE_neg, e_vE_cmp, e_vE_cmp2, e_vE_and, e_vE_or, e_vE_not, e_vE_ite, e_vE_tup, e_vE_lst, e_vE_fmt, e_vE_js, e_vE_idx, e_vE_sl, e_vE_fld, e_vE_call, e_vE_callK, e_vE_make, e_vE_makeK, e_vE_meth, e_vE_bif, e_vE_bm, e_vE_isi, e_vE_own, e_vEs_nil, e_vEs_cons, e_vJ_nil, e_vJ_cons, e_vAll_nil, e_vAll_cons, e_vEo_no, e_vEo_so, e_vI_of, e_vI_rng1, e_vI_rng2, e_vI_enm, e_vI_zip, e_vTg_nm, e_vTg_fld, e_vTg_sub, e_vTg_tp, e_vS_asg, e_vS_aug, e_vS_augS, e_vS_augF, e_vS_exp, e_vS_ret, e_vS_retN, e_vS_ifs, e_vS_pas, e_vS_brk, e_vS_cont, e_vS_never, e_vSs_nil, e_vSs_cons, e_vS_whl, e_vS_fr, e_vE_lc, e_vE_dct, e_vTgs_nil, e_vTgs_cons, bind_ok, catch_ok, catch_exc, noE_ok, e_vS_rais, e_vS_tr, bind_bad, bind_exc, bind_ask, Pv.bind_assoc, Pv.opt_some, Pv.opt_none, brT_bl, startD, fnR, clo_bad, clo_ask,
 List.map_cons, List.map_nil, List.length_cons, List.length_nil, List.replicate, List.cons_append, List.nil_append, List.append_nil, List.getElem?_cons_zero, List.getElem?_cons_succ, List.getElem?_nil, List.set_cons_zero, List.set_cons_succ,
 vget_zero, vget_succ, vb_add, vb_adds, vb_addt, vb_addl, vb_sub, vb_mul, vb_mull, vb_fdiv, vb_mod, vb_pow, vc_eq, vc_ne, vc_isnon, vc_notnon, vc_lt, vc_le, vc_gt, vc_ge, vo_lt, vo_le, vo_gt, vo_ge, vn_int, vi_tup, vi_lst, vi_str, vs_tup, vs_lst, vf_nd, vf_ref, bf_len_tup, bf_len_lst, bf_len_str, bf_abs, bf_int, bf_tuple_tup, bf_tuple_lst, bf_list_tup, bf_list_lst, bf_str_int, bf_str_str, bf_all, bf_any, mk_f, mk_t, at0, at1, at2, at3, look, ofW, ofWs, vEq_int, vEq_bl, or_ok, and_ok, not_ok, na10, ev_take, Int.reduceLE, Int.reduceLT, Int.reduceToNat, Int.reducePow, Int.reduceAdd, Int.reduceMul, Int.reduceSub, Int.reduceNeg, Nat.reducePow, Nat.reduceLT, Nat.reduceLeDiff, and_self, true_and, and_true, AT_bind, AT_ok, AT_exc, AT_bad, AT_ask, Option.map_some, tgsLen_cons, tgsLen_nil, Nat.reduceAdd, Nat.reduceSub, if_true, if_false, Bool.not_true, Bool.not_false, reduceCtorEq, isNon, ite_true, ite_false, if_pos, e_vI_chr, vc_isin, vc_notin, vc_isfls, vs_str, bf_int_str, bf_list_str, bm_split, bm_join, rc_split, rc_sindex, rc_join, Prod.eta, Int.add_zero]
  by_cases c1 : w < 2
  · by_cases c2 : w = 0
    · simp only [c1, c2, decide_true, e_vE_var, e_vE_cst, e_vE_bin, e_vE_neg, e_vE_cmp, e_vE_cmp2, e_vE_and, e_vE_or, e_vE_not, e_vE_ite, e_vE_tup, e_vE_lst, e_vE_fmt, e_vE_js, e_vE_idx, e_vE_sl, e_vE_fld, e_vE_call, e_vE_callK, e_vE_make, e_vE_makeK, e_vE_meth, e_vE_bif, e_vE_bm, e_vE_isi, e_vE_own, e_vEs_nil, e_vEs_cons, e_vJ_nil, e_vJ_cons, e_vAll_nil, e_vAll_cons, e_vEo_no, e_vEo_so, e_vI_of, e_vI_rng1, e_vI_rng2, e_vI_enm, e_vI_zip, e_vTg_nm, e_vTg_fld, e_vTg_sub, e_vTg_tp, e_vS_asg, e_vS_aug, e_vS_augS, e_vS_augF, e_vS_exp, e_vS_ret, e_vS_retN, e_vS_ifs, e_vS_pas, e_vS_brk, e_vS_cont, e_vS_never, e_vSs_nil, e_vSs_cons, e_vS_whl, e_vS_fr, e_vE_lc, e_vE_dct, e_vTgs_nil, e_vTgs_cons, bind_ok, catch_ok, catch_exc, noE_ok, e_vS_rais, e_vS_tr, bind_bad, bind_exc, bind_ask, Pv.bind_assoc, Pv.opt_some, Pv.opt_none, brT_bl, startD, fnR, clo_bad, clo_ask,
 List.map_cons, List.map_nil, List.length_cons, List.length_nil, List.replicate, List.cons_append, List.nil_append, List.append_nil, List.getElem?_cons_zero, List.getElem?_cons_succ, List.getElem?_nil, List.set_cons_zero, List.set_cons_succ,
 vget_zero, vget_succ, vb_add, vb_adds, vb_addt, vb_addl, vb_sub, vb_mul, vb_mull, vb_fdiv, vb_mod, vb_pow, vc_eq, vc_ne, vc_isnon, vc_notnon, vc_lt, vc_le, vc_gt, vc_ge, vo_lt, vo_le, vo_gt, vo_ge, vn_int, vi_tup, vi_lst, vi_str, vs_tup, vs_lst, vf_nd, vf_ref, bf_len_tup, bf_len_lst, bf_len_str, bf_abs, bf_int, bf_tuple_tup, bf_tuple_lst, bf_list_tup, bf_list_lst, bf_str_int, bf_str_str, bf_all, bf_any, mk_f, mk_t, at0, at1, at2, at3, look, ofW, ofWs, vEq_int, vEq_bl, or_ok, and_ok, not_ok, na10, ev_take, Int.reduceLE, Int.reduceLT, Int.reduceToNat, Int.reducePow, Int.reduceAdd, Int.reduceMul, Int.reduceSub, Int.reduceNeg, Nat.reducePow, Nat.reduceLT, Nat.reduceLeDiff, and_self, true_and, and_true, AT_bind, AT_ok, AT_exc, AT_bad, AT_ask, Option.map_some, tgsLen_cons, tgsLen_nil, Nat.reduceAdd, Nat.reduceSub, if_true, if_false, Bool.not_true, Bool.not_false, reduceCtorEq, isNon, ite_true, ite_false, if_pos, e_vI_chr, vc_isin, vc_notin, vc_isfls, vs_str, bf_int_str, bf_list_str, bm_split, bm_join, rc_split, rc_sindex, rc_join, Prod.eta, SX.S_cat, g1 [c] (by simp), g2 [c] _ (by simp), cut_from i0]
      exact hp [c] i.toNat (by simp) oc (Nat.le_refl _)
    · simp only [c1, c2, decide_true, decide_false, Bool.false_eq_true, e_vE_var, e_vE_cst, e_vE_bin, e_vE_neg, e_vE_cmp, e_vE_cmp2, e_vE_and, e_vE_or, e_vE_not, e_vE_ite, e_vE_tup, e_vE_lst, e_vE_fmt, e_vE_js, e_vE_idx, e_vE_sl, e_vE_fld, e_vE_call, e_vE_callK, e_vE_make, e_vE_makeK, e_vE_meth, e_vE_bif, e_vE_bm, e_vE_isi, e_vE_own, e_vEs_nil, e_vEs_cons, e_vJ_nil, e_vJ_cons, e_vAll_nil, e_vAll_cons, e_vEo_no, e_vEo_so, e_vI_of, e_vI_rng1, e_vI_rng2, e_vI_enm, e_vI_zip, e_vTg_nm, e_vTg_fld, e_vTg_sub, e_vTg_tp, e_vS_asg, e_vS_aug, e_vS_augS, e_vS_augF, e_vS_exp, e_vS_ret, e_vS_retN, e_vS_ifs, e_vS_pas, e_vS_brk, e_vS_cont, e_vS_never, e_vSs_nil, e_vSs_cons, e_vS_whl, e_vS_fr, e_vE_lc, e_vE_dct, e_vTgs_nil, e_vTgs_cons, bind_ok, catch_ok, catch_exc, noE_ok, e_vS_rais, e_vS_tr, bind_bad, bind_exc, bind_ask, Pv.bind_assoc, Pv.opt_some, Pv.opt_none, brT_bl, startD, fnR, clo_bad, clo_ask,
 List.map_cons, List.map_nil, List.length_cons, List.length_nil, List.replicate, List.cons_append, List.nil_append, List.append_nil, List.getElem?_cons_zero, List.getElem?_cons_succ, List.getElem?_nil, List.set_cons_zero, List.set_cons_succ,
 vget_zero, vget_succ, vb_add, vb_adds, vb_addt, vb_addl, vb_sub, vb_mul, vb_mull, vb_fdiv, vb_mod, vb_pow, vc_eq, vc_ne, vc_isnon, vc_notnon, vc_lt, vc_le, vc_gt, vc_ge, vo_lt, vo_le, vo_gt, vo_ge, vn_int, vi_tup, vi_lst, vi_str, vs_tup, vs_lst, vf_nd, vf_ref, bf_len_tup, bf_len_lst, bf_len_str, bf_abs, bf_int, bf_tuple_tup, bf_tuple_lst, bf_list_tup, bf_list_lst, bf_str_int, bf_str_str, bf_all, bf_any, mk_f, mk_t, at0, at1, at2, at3, look, ofW, ofWs, vEq_int, vEq_bl, or_ok, and_ok, not_ok, na10, ev_take, Int.reduceLE, Int.reduceLT, Int.reduceToNat, Int.reducePow, Int.reduceAdd, Int.reduceMul, Int.reduceSub, Int.reduceNeg, Nat.reducePow, Nat.reduceLT, Nat.reduceLeDiff, and_self, true_and, and_true, AT_bind, AT_ok, AT_exc, AT_bad, AT_ask, Option.map_some, tgsLen_cons, tgsLen_nil, Nat.reduceAdd, Nat.reduceSub, if_true, if_false, Bool.not_true, Bool.not_false, reduceCtorEq, isNon, ite_true, ite_false, if_pos, e_vI_chr, vc_isin, vc_notin, vc_isfls, vs_str, bf_int_str, bf_list_str, bm_split, bm_join, rc_split, rc_sindex, rc_join, Prod.eta, SX.S_cat, g1 [c] (by simp), g2 [c] _ (by simp)]
      exact hp [c] (i + 1).toNat (by simp) oc (by omega)
  · have c2 : ¬ w = 0 := by omega
    simp only [c1, c2, decide_false, Bool.false_eq_true, e_vE_var, e_vE_cst, e_vE_bin, e_vE_neg, e_vE_cmp, e_vE_cmp2, e_vE_and, e_vE_or, e_vE_not, e_vE_ite, e_vE_tup, e_vE_lst, e_vE_fmt, e_vE_js, e_vE_idx, e_vE_sl, e_vE_fld, e_vE_call, e_vE_callK, e_vE_make, e_vE_makeK, e_vE_meth, e_vE_bif, e_vE_bm, e_vE_isi, e_vE_own, e_vEs_nil, e_vEs_cons, e_vJ_nil, e_vJ_cons, e_vAll_nil, e_vAll_cons, e_vEo_no, e_vEo_so, e_vI_of, e_vI_rng1, e_vI_rng2, e_vI_enm, e_vI_zip, e_vTg_nm, e_vTg_fld, e_vTg_sub, e_vTg_tp, e_vS_asg, e_vS_aug, e_vS_augS, e_vS_augF, e_vS_exp, e_vS_ret, e_vS_retN, e_vS_ifs, e_vS_pas, e_vS_brk, e_vS_cont, e_vS_never, e_vSs_nil, e_vSs_cons, e_vS_whl, e_vS_fr, e_vE_lc, e_vE_dct, e_vTgs_nil, e_vTgs_cons, bind_ok, catch_ok, catch_exc, noE_ok, e_vS_rais, e_vS_tr, bind_bad, bind_exc, bind_ask, Pv.bind_assoc, Pv.opt_some, Pv.opt_none, brT_bl, startD, fnR, clo_bad, clo_ask,
 List.map_cons, List.map_nil, List.length_cons, List.length_nil, List.replicate, List.cons_append, List.nil_append, List.append_nil, List.getElem?_cons_zero, List.getElem?_cons_succ, List.getElem?_nil, List.set_cons_zero, List.set_cons_succ,
 vget_zero, vget_succ, vb_add, vb_adds, vb_addt, vb_addl, vb_sub, vb_mul, vb_mull, vb_fdiv, vb_mod, vb_pow, vc_eq, vc_ne, vc_isnon, vc_notnon, vc_lt, vc_le, vc_gt, vc_ge, vo_lt, vo_le, vo_gt, vo_ge, vn_int, vi_tup, vi_lst, vi_str, vs_tup, vs_lst, vf_nd, vf_ref, bf_len_tup, bf_len_lst, bf_len_str, bf_abs, bf_int, bf_tuple_tup, bf_tuple_lst, bf_list_tup, bf_list_lst, bf_str_int, bf_str_str, bf_all, bf_any, mk_f, mk_t, at0, at1, at2, at3, look, ofW, ofWs, vEq_int, vEq_bl, or_ok, and_ok, not_ok, na10, ev_take, Int.reduceLE, Int.reduceLT, Int.reduceToNat, Int.reducePow, Int.reduceAdd, Int.reduceMul, Int.reduceSub, Int.reduceNeg, Nat.reducePow, Nat.reduceLT, Nat.reduceLeDiff, and_self, true_and, and_true, AT_bind, AT_ok, AT_exc, AT_bad, AT_ask, Option.map_some, tgsLen_cons, tgsLen_nil, Nat.reduceAdd, Nat.reduceSub, if_true, if_false, Bool.not_true, Bool.not_false, reduceCtorEq, isNon, ite_true, ite_false, if_pos, e_vI_chr, vc_isin, vc_notin, vc_isfls, vs_str, bf_int_str, bf_list_str, bm_split, bm_join, rc_split, rc_sindex, rc_join, Prod.eta, SX.S_cat, g1 [] (by simp), g2 [] _ (by simp)]
    have := hp [] (i + 1).toNat (by simp) rfl (by omega)
    have g3 := g2 [] (i + 1).toNat (by simp)
    rw [List.append_nil] at this g3
    rw [if_pos g3]
    exact this
/-! ### the same twice -/
theorem same_str {a : List Nat} (ok : ok7 a = true) : ev (tab D) (Bo D) CF WF (d + 1) 5 [TS a, TS a] s = .ok (.bl true) s := by
  rw [ev_at (Df := ⟨2, 4, m_5⟩) rfl (by decide) rfl rfl rfl]
  unfold m_5
  simp only [e_vE_var, e_vE_cst, e_vE_bin, e_vE_neg, e_vE_cmp, e_vE_cmp2, e_vE_and, e_vE_or, e_vE_not, e_vE_ite, e_vE_tup, e_vE_lst, e_vE_fmt, e_vE_js, e_vE_idx, e_vE_sl, e_vE_fld, e_vE_call, e_vE_callK, e_vE_make, e_vE_makeK, e_vE_meth, e_vE_bif, e_vE_bm, e_vE_isi, e_vE_own, e_vEs_nil, e_vEs_cons, e_vJ_nil, e_vJ_cons, e_vAll_nil, e_vAll_cons, e_vEo_no, e_vEo_so, e_vI_of, e_vI_rng1, e_vI_rng2, e_vI_enm, e_vI_zip, e_vTg_nm, e_vTg_fld, e_vTg_sub, e_vTg_tp, e_vS_asg, e_vS_aug, e_vS_augS, e_vS_augF, e_vS_exp, e_vS_ret, e_vS_retN, e_vS_ifs, e_vS_pas, e_vS_brk, e_vS_cont, e_vS_never, e_vSs_nil, e_vSs_cons, e_vS_whl, e_vS_fr, e_vE_lc, e_vE_dct, e_vTgs_nil, e_vTgs_cons, bind_ok, catch_ok, catch_exc, noE_ok, e_vS_rais, e_vS_tr, bind_bad, bind_exc, bind_ask, Pv.bind_ite, Pv.bind_assoc, Pv.opt_some, Pv.opt_none, brT_bl, startD, fnR, clo_ite, clo_bad, clo_ask,
 List.map_cons, List.map_nil, List.length_cons, List.length_nil, List.replicate, List.cons_append, List.nil_append, List.append_nil, List.getElem?_cons_zero, List.getElem?_cons_succ, List.getElem?_nil, List.set_cons_zero, List.set_cons_succ,
 vget_zero, vget_succ, vb_add, vb_adds, vb_addt, vb_addl, vb_sub, vb_mul, vb_mull, vb_fdiv, vb_mod, vb_pow, vc_eq, vc_ne, vc_isnon, vc_notnon, vc_lt, vc_le, vc_gt, vc_ge, vo_lt, vo_le, vo_gt, vo_ge, vn_int, vi_tup, vi_lst, vi_str, vs_tup, vs_lst, vf_nd, vf_ref, bf_len_tup, bf_len_lst, bf_len_str, bf_abs, bf_int, bf_tuple_tup, bf_tuple_lst, bf_list_tup, bf_list_lst, bf_str_int, bf_str_str, bf_all, bf_any, mk_f, mk_t, at0, at1, at2, at3, look, ofW, ofWs, vEq_int, vEq_bl, or_ok, and_ok, not_ok, na10, ev_take, Int.reduceLE, Int.reduceLT, Int.reduceToNat, Int.reducePow, Int.reduceAdd, Int.reduceMul, Int.reduceSub, Int.reduceNeg, Nat.reducePow, Nat.reduceLT, Nat.reduceLeDiff, and_self, true_and, and_true, AT_bind, AT_ok, AT_exc, AT_bad, AT_ask, AT_ite, Option.map_some, tgsLen_cons, tgsLen_nil, Nat.reduceAdd, Nat.reduceSub, if_true, if_false, Bool.not_true, Bool.not_false, reduceCtorEq, isNon, ite_true, ite_false, if_pos, e_vI_chr, vc_isin, vc_notin, vc_isfls, vs_str, bf_int_str, bf_list_str, bm_split, bm_join, rc_split, rc_sindex, rc_join, knownD, isOfD, insC, List.any_cons, List.any_nil, Bool.or_false, vEq_S ok ok, decide_true]
  rfl
theorem same_int {i : Int} : ev (tab D) (Bo D) CF WF (d + 1) 5 [.int i, .int i] s = .ok (.bl true) s := by
  rw [ev_at (Df := ⟨2, 4, m_5⟩) rfl (by decide) rfl rfl rfl]
  unfold m_5
  simp only [e_vE_var, e_vE_cst, e_vE_bin, e_vE_neg, e_vE_cmp, e_vE_cmp2, e_vE_and, e_vE_or, e_vE_not, e_vE_ite, e_vE_tup, e_vE_lst, e_vE_fmt, e_vE_js, e_vE_idx, e_vE_sl, e_vE_fld, e_vE_call, e_vE_callK, e_vE_make, e_vE_makeK, e_vE_meth, e_vE_bif, e_vE_bm, e_vE_isi, e_vE_own, e_vEs_nil, e_vEs_cons, e_vJ_nil, e_vJ_cons, e_vAll_nil, e_vAll_cons, e_vEo_no, e_vEo_so, e_vI_of, e_vI_rng1, e_vI_rng2, e_vI_enm, e_vI_zip, e_vTg_nm, e_vTg_fld, e_vTg_sub, e_vTg_tp, e_vS_asg, e_vS_aug, e_vS_augS, e_vS_augF, e_vS_exp, e_vS_ret, e_vS_retN, e_vS_ifs, e_vS_pas, e_vS_brk, e_vS_cont, e_vS_never, e_vSs_nil, e_vSs_cons, e_vS_whl, e_vS_fr, e_vE_lc, e_vE_dct, e_vTgs_nil, e_vTgs_cons, bind_ok, catch_ok, catch_exc, noE_ok, e_vS_rais, e_vS_tr, bind_bad, bind_exc, bind_ask, Pv.bind_ite, Pv.bind_assoc, Pv.opt_some, Pv.opt_none, brT_bl, startD, fnR, clo_ite, clo_bad, clo_ask,
 List.map_cons, List.map_nil, List.length_cons, List.length_nil, List.replicate, List.cons_append, List.nil_append, List.append_nil, List.getElem?_cons_zero, List.getElem?_cons_succ, List.getElem?_nil, List.set_cons_zero, List.set_cons_succ,
 vget_zero, vget_succ, vb_add, vb_adds, vb_addt, vb_addl, vb_sub, vb_mul, vb_mull, vb_fdiv, vb_mod, vb_pow, vc_eq, vc_ne, vc_isnon, vc_notnon, vc_lt, vc_le, vc_gt, vc_ge, vo_lt, vo_le, vo_gt, vo_ge, vn_int, vi_tup, vi_lst, vi_str, vs_tup, vs_lst, vf_nd, vf_ref, bf_len_tup, bf_len_lst, bf_len_str, bf_abs, bf_int, bf_tuple_tup, bf_tuple_lst, bf_list_tup, bf_list_lst, bf_str_int, bf_str_str, bf_all, bf_any, mk_f, mk_t, at0, at1, at2, at3, look, ofW, ofWs, vEq_int, vEq_bl, or_ok, and_ok, not_ok, na10, ev_take, Int.reduceLE, Int.reduceLT, Int.reduceToNat, Int.reducePow, Int.reduceAdd, Int.reduceMul, Int.reduceSub, Int.reduceNeg, Nat.reducePow, Nat.reduceLT, Nat.reduceLeDiff, and_self, true_and, and_true, AT_bind, AT_ok, AT_exc, AT_bad, AT_ask, AT_ite, Option.map_some, tgsLen_cons, tgsLen_nil, Nat.reduceAdd, Nat.reduceSub, if_true, if_false, Bool.not_true, Bool.not_false, reduceCtorEq, isNon, ite_true, ite_false, if_pos, e_vI_chr, vc_isin, vc_notin, vc_isfls, vs_str, bf_int_str, bf_list_str, bm_split, bm_join, rc_split, rc_sindex, rc_join, knownD, isOfD, insC, List.any_cons, List.any_nil, Bool.or_false, decide_true, beq_self_eq_true, Bool.or_true]
  rfl
theorem lmade : Str.ofString "made" = SX.S [109, 97, 100, 101] := by rw [Str.ofString_eq_toList]; rfl
theorem ltext : Str.ofString "text" = SX.S [116, 101, 120, 116] := by rw [Str.ofString_eq_toList]; rfl
theorem same_made {a : List Nat} {i j : Int} (ok : ok7 a = true) : ev (tab D) (Bo D) CF WF (d + 2) 5 [.nd .tup [.str (Str.ofString "made"), .int i, .int j, TS a], .nd .tup [.str (Str.ofString "made"), .int i, .int j, TS a]] s = .ok (.bl true) s := by
  rw [ev_at (Df := ⟨2, 4, m_5⟩) rfl (by decide) rfl rfl rfl]
  unfold m_5
  simp only [e_vE_var, e_vE_cst, e_vE_bin, e_vE_neg, e_vE_cmp, e_vE_cmp2, e_vE_and, e_vE_or, e_vE_not, e_vE_ite, e_vE_tup, e_vE_lst, e_vE_fmt, e_vE_js, e_vE_idx, e_vE_sl, e_vE_fld, e_vE_call, e_vE_callK, e_vE_make, e_vE_makeK, e_vE_meth, e_vE_bif, e_vE_bm, e_vE_isi, e_vE_own, e_vEs_nil, e_vEs_cons, e_vJ_nil, e_vJ_cons, e_vAll_nil, e_vAll_cons, e_vEo_no, e_vEo_so, e_vI_of, e_vI_rng1, e_vI_rng2, e_vI_enm, e_vI_zip, e_vTg_nm, e_vTg_fld, e_vTg_sub, e_vTg_tp, e_vS_asg, e_vS_aug, e_vS_augS, e_vS_augF, e_vS_exp, e_vS_ret, e_vS_retN, e_vS_ifs, e_vS_pas, e_vS_brk, e_vS_cont, e_vS_never, e_vSs_nil, e_vSs_cons, e_vS_whl, e_vS_fr, e_vE_lc, e_vE_dct, e_vTgs_nil, e_vTgs_cons, bind_ok, catch_ok, catch_exc, noE_ok, e_vS_rais, e_vS_tr, bind_bad, bind_exc, bind_ask, Pv.bind_ite, Pv.bind_assoc, Pv.opt_some, Pv.opt_none, brT_bl, startD, fnR, clo_ite, clo_bad, clo_ask,
 List.map_cons, List.map_nil, List.length_cons, List.length_nil, List.replicate, List.cons_append, List.nil_append, List.append_nil, List.getElem?_cons_zero, List.getElem?_cons_succ, List.getElem?_nil, List.set_cons_zero, List.set_cons_succ,
 vget_zero, vget_succ, vb_add, vb_adds, vb_addt, vb_addl, vb_sub, vb_mul, vb_mull, vb_fdiv, vb_mod, vb_pow, vc_eq, vc_ne, vc_isnon, vc_notnon, vc_lt, vc_le, vc_gt, vc_ge, vo_lt, vo_le, vo_gt, vo_ge, vn_int, vi_tup, vi_lst, vi_str, vs_tup, vs_lst, vf_nd, vf_ref, bf_len_tup, bf_len_lst, bf_len_str, bf_abs, bf_int, bf_tuple_tup, bf_tuple_lst, bf_list_tup, bf_list_lst, bf_str_int, bf_str_str, bf_all, bf_any, mk_f, mk_t, at0, at1, at2, at3, look, ofW, ofWs, vEq_int, vEq_bl, or_ok, and_ok, not_ok, na10, ev_take, Int.reduceLE, Int.reduceLT, Int.reduceToNat, Int.reducePow, Int.reduceAdd, Int.reduceMul, Int.reduceSub, Int.reduceNeg, Nat.reducePow, Nat.reduceLT, Nat.reduceLeDiff, and_self, true_and, and_true, AT_bind, AT_ok, AT_exc, AT_bad, AT_ask, AT_ite, Option.map_some, tgsLen_cons, tgsLen_nil, Nat.reduceAdd, Nat.reduceSub, if_true, if_false, Bool.not_true, Bool.not_false, reduceCtorEq, isNon, ite_true, ite_false, if_pos, e_vI_chr, vc_isin, vc_notin, vc_isfls, vs_str, bf_int_str, bf_list_str, bm_split, bm_join, rc_split, rc_sindex, rc_join, knownD, isOfD, insC, List.any_cons, List.any_nil, Bool.or_false, decide_true, beq_self_eq_true, Bool.or_true, seqD, wipeD, zipD, lcV_cons, lcV_nil, lcS, lmade, same_str (show ok7 [109, 97, 100, 101] = true from rfl), same_int, same_str ok]
  have z0 : 0 < sizeLine := by unfold sizeLine; decide
  have z1 : 1 < sizeLine := by unfold sizeLine; decide
  have z2 : 2 < sizeLine := by unfold sizeLine; decide
  have z3 : 3 < sizeLine := by unfold sizeLine; decide
  simp only [z0, z1, z2, z3, e_vE_var, e_vE_cst, e_vE_bin, e_vE_neg, e_vE_cmp, e_vE_cmp2, e_vE_and, e_vE_or, e_vE_not, e_vE_ite, e_vE_tup, e_vE_lst, e_vE_fmt, e_vE_js, e_vE_idx, e_vE_sl, e_vE_fld, e_vE_call, e_vE_callK, e_vE_make, e_vE_makeK, e_vE_meth, e_vE_bif, e_vE_bm, e_vE_isi, e_vE_own, e_vEs_nil, e_vEs_cons, e_vJ_nil, e_vJ_cons, e_vAll_nil, e_vAll_cons, e_vEo_no, e_vEo_so, e_vI_of, e_vI_rng1, e_vI_rng2, e_vI_enm, e_vI_zip, e_vTg_nm, e_vTg_fld, e_vTg_sub, e_vTg_tp, e_vS_asg, e_vS_aug, e_vS_augS, e_vS_augF, e_vS_exp, e_vS_ret, e_vS_retN, e_vS_ifs, e_vS_pas, e_vS_brk, e_vS_cont, e_vS_never, e_vSs_nil, e_vSs_cons, e_vS_whl, e_vS_fr, e_vE_lc, e_vE_dct, e_vTgs_nil, e_vTgs_cons, bind_ok, catch_ok, catch_exc, noE_ok, e_vS_rais, e_vS_tr, bind_bad, bind_exc, bind_ask, Pv.bind_assoc, Pv.opt_some, Pv.opt_none, brT_bl, startD, fnR, clo_bad, clo_ask,
 List.map_cons, List.map_nil, List.length_cons, List.length_nil, List.replicate, List.cons_append, List.nil_append, List.append_nil, List.getElem?_cons_zero, List.getElem?_cons_succ, List.getElem?_nil, List.set_cons_zero, List.set_cons_succ,
 vget_zero, vget_succ, vb_add, vb_adds, vb_addt, vb_addl, vb_sub, vb_mul, vb_mull, vb_fdiv, vb_mod, vb_pow, vc_eq, vc_ne, vc_isnon, vc_notnon, vc_lt, vc_le, vc_gt, vc_ge, vo_lt, vo_le, vo_gt, vo_ge, vn_int, vi_tup, vi_lst, vi_str, vs_tup, vs_lst, vf_nd, vf_ref, bf_len_tup, bf_len_lst, bf_len_str, bf_abs, bf_int, bf_tuple_tup, bf_tuple_lst, bf_list_tup, bf_list_lst, bf_str_int, bf_str_str, bf_all, bf_any, mk_f, mk_t, at0, at1, at2, at3, look, ofW, ofWs, vEq_int, vEq_bl, or_ok, and_ok, not_ok, na10, ev_take, Int.reduceLE, Int.reduceLT, Int.reduceToNat, Int.reducePow, Int.reduceAdd, Int.reduceMul, Int.reduceSub, Int.reduceNeg, Nat.reducePow, Nat.reduceLT, Nat.reduceLeDiff, and_self, true_and, and_true, AT_bind, AT_ok, AT_exc, AT_bad, AT_ask, Option.map_some, tgsLen_cons, tgsLen_nil, Nat.reduceAdd, Nat.reduceSub, if_true, if_false, Bool.not_true, Bool.not_false, reduceCtorEq, isNon, ite_true, ite_false, if_pos, e_vI_chr, vc_isin, vc_notin, vc_isfls, vs_str, bf_int_str, bf_list_str, bm_split, bm_join, rc_split, rc_sindex, rc_join, Prod.eta, boolsD, mapO, List.all_cons, List.all_nil, id, Bool.and_self]
  rfl
end
end Lw
set_option maxHeartbeats 4000000
namespace Lw
open PySem Mi Pv Tk
def bodyM : Ss := match m_0 with
  | .cons _ (.cons (.fr _ _ b) _) => b
  | _ => .nil
theorem get_last {α : Type} {l : List α} {o : α} : (l ++ [o])[l.length]? = some o := by simp
theorem set_last {α : Type} {l : List α} {o o' : α} : (l ++ [o]).set l.length o' = l ++ [o'] := by simp
theorem eqbs_TS : ∀ l : List (List Nat), eqbs (l.map TS) (l.map TS) = true
  | [] => rfl
  | a :: l => by
    rw [List.map_cons, eqbs, eqbs_TS l]
    simp [eqb]
theorem flats_TS : ∀ l : List (List Nat), flats (l.map TS) = true
  | [] => rfl
  | a :: l => by
    rw [List.map_cons, flats, flats_TS l]
    rfl
/-- a text that may come -/
def Gd (cs : List Nat) : Prop := ok7 cs = true ∧ cs.length ≤ 130
def inM : Ss := match bodyM with
  | .cons _ (.cons _ (.cons _ (.cons _ (.cons _ (.cons _ (.cons (.fr _ _ b) _)))))) => b
  | _ => .nil
section
variable {d : Nat} {P : Fl → Sto → Prop} {E : Nat → List (Nat × V) → Sto → Prop}
theorem inner {cs : List Nat} {s : Sto} {o0 o1 o2 o3 o4 o5 o6 o8 o9 : Option V} (g : Gd cs) (h : ∀ o8, P (.nx [o0, o1, o2, o3, o4, o5, o6, some (TS cs), o8, o9]) s) :
    AT (vSs (tab D) (ev (tab D) (Bo D) CF WF (d + 8)) CF WF inM [o0, o1, o2, o3, o4, o5, o6, some (TS cs), o8, o9] s) P E := by
  unfold inM bodyM m_0
  dsimp only
  have om : ok7 [109, 97, 100, 101] = true := rfl
  have ot : ok7 [116, 101, 120, 116] = true := rfl
  have e28 : ev (tab D) (Bo D) CF WF (d + 8) 28 [TS cs] s = .ok (fnd cs) s := f28 g.1 g.2
  have e27 : ev (tab D) (Bo D) CF WF (d + 8) 27 [TS cs] s = .ok (.bl (rd cs).isSome) s := f27 g.1 (by have := g.2; omega)
  simp only [e_vE_var, e_vE_cst, e_vE_bin, e_vE_neg, e_vE_cmp, e_vE_cmp2, e_vE_and, e_vE_or, e_vE_not, e_vE_ite, e_vE_tup, e_vE_lst, e_vE_fmt, e_vE_js, e_vE_idx, e_vE_sl, e_vE_fld, e_vE_call, e_vE_callK, e_vE_make, e_vE_makeK, e_vE_meth, e_vE_bif, e_vE_bm, e_vE_isi, e_vE_own, e_vEs_nil, e_vEs_cons, e_vJ_nil, e_vJ_cons, e_vAll_nil, e_vAll_cons, e_vEo_no, e_vEo_so, e_vI_of, e_vI_rng1, e_vI_rng2, e_vI_enm, e_vI_zip, e_vTg_nm, e_vTg_fld, e_vTg_sub, e_vTg_tp, e_vS_asg, e_vS_aug, e_vS_augS, e_vS_augF, e_vS_exp, e_vS_ret, e_vS_retN, e_vS_ifs, e_vS_pas, e_vS_brk, e_vS_cont, e_vS_never, e_vSs_nil, e_vSs_cons, e_vS_whl, e_vS_fr, e_vE_lc, e_vE_dct, e_vTgs_nil, e_vTgs_cons, bind_ok, catch_ok, catch_exc, noE_ok, e_vS_rais, e_vS_tr, bind_bad, bind_exc, bind_ask, Pv.bind_assoc, Pv.opt_some, Pv.opt_none, brT_bl, startD, fnR, clo_bad, clo_ask,
 List.map_cons, List.map_nil, List.length_cons, List.length_nil, List.replicate, List.cons_append, List.nil_append, List.append_nil, List.getElem?_cons_zero, List.getElem?_cons_succ, List.getElem?_nil, List.set_cons_zero, List.set_cons_succ,
 vget_zero, vget_succ, vb_add, vb_adds, vb_addt, vb_addl, vb_sub, vb_mul, vb_mull, vb_fdiv, vb_mod, vb_pow, vc_eq, vc_ne, vc_isnon, vc_notnon, vc_lt, vc_le, vc_gt, vc_ge, vo_lt, vo_le, vo_gt, vo_ge, vn_int, vi_tup, vi_lst, vi_str, vs_tup, vs_lst, vf_nd, vf_ref, bf_len_tup, bf_len_lst, bf_len_str, bf_abs, bf_int, bf_tuple_tup, bf_tuple_lst, bf_list_tup, bf_list_lst, bf_str_int, bf_str_str, bf_all, bf_any, mk_f, mk_t, at0, at1, at2, at3, look, ofW, ofWs, vEq_int, vEq_bl, or_ok, and_ok, not_ok, na10, ev_take, Int.reduceLE, Int.reduceLT, Int.reduceToNat, Int.reducePow, Int.reduceAdd, Int.reduceMul, Int.reduceSub, Int.reduceNeg, Nat.reducePow, Nat.reduceLT, Nat.reduceLeDiff, and_self, true_and, and_true, AT_bind, AT_ok, AT_exc, AT_bad, AT_ask, Option.map_some, tgsLen_cons, tgsLen_nil, Nat.reduceAdd, Nat.reduceSub, if_true, if_false, Bool.not_true, Bool.not_false, reduceCtorEq, isNon, ite_true, ite_false, if_pos, e_vI_chr, vc_isin, vc_notin, vc_isfls, vs_str, bf_int_str, bf_list_str, bm_split, bm_join, rc_split, rc_sindex, rc_join, Prod.eta, e28, e27]
  unfold fnd
  cases q : rd cs with
  | some x =>
    have tx := (rd_tx q).1
    simp only [e_vE_var, e_vE_cst, e_vE_bin, e_vE_neg, e_vE_cmp, e_vE_cmp2, e_vE_and, e_vE_or, e_vE_not, e_vE_ite, e_vE_tup, e_vE_lst, e_vE_fmt, e_vE_js, e_vE_idx, e_vE_sl, e_vE_fld, e_vE_call, e_vE_callK, e_vE_make, e_vE_makeK, e_vE_meth, e_vE_bif, e_vE_bm, e_vE_isi, e_vE_own, e_vEs_nil, e_vEs_cons, e_vJ_nil, e_vJ_cons, e_vAll_nil, e_vAll_cons, e_vEo_no, e_vEo_so, e_vI_of, e_vI_rng1, e_vI_rng2, e_vI_enm, e_vI_zip, e_vTg_nm, e_vTg_fld, e_vTg_sub, e_vTg_tp, e_vS_asg, e_vS_aug, e_vS_augS, e_vS_augF, e_vS_exp, e_vS_ret, e_vS_retN, e_vS_ifs, e_vS_pas, e_vS_brk, e_vS_cont, e_vS_never, e_vSs_nil, e_vSs_cons, e_vS_whl, e_vS_fr, e_vE_lc, e_vE_dct, e_vTgs_nil, e_vTgs_cons, bind_ok, catch_ok, catch_exc, noE_ok, e_vS_rais, e_vS_tr, bind_bad, bind_exc, bind_ask, Pv.bind_assoc, Pv.opt_some, Pv.opt_none, brT_bl, startD, fnR, clo_bad, clo_ask,
 List.map_cons, List.map_nil, List.length_cons, List.length_nil, List.replicate, List.cons_append, List.nil_append, List.append_nil, List.getElem?_cons_zero, List.getElem?_cons_succ, List.getElem?_nil, List.set_cons_zero, List.set_cons_succ,
 vget_zero, vget_succ, vb_add, vb_adds, vb_addt, vb_addl, vb_sub, vb_mul, vb_mull, vb_fdiv, vb_mod, vb_pow, vc_eq, vc_ne, vc_isnon, vc_notnon, vc_lt, vc_le, vc_gt, vc_ge, vo_lt, vo_le, vo_gt, vo_ge, vn_int, vi_tup, vi_lst, vi_str, vs_tup, vs_lst, vf_nd, vf_ref, bf_len_tup, bf_len_lst, bf_len_str, bf_abs, bf_int, bf_tuple_tup, bf_tuple_lst, bf_list_tup, bf_list_lst, bf_str_int, bf_str_str, bf_all, bf_any, mk_f, mk_t, at0, at1, at2, at3, look, ofW, ofWs, vEq_int, vEq_bl, or_ok, and_ok, not_ok, na10, ev_take, Int.reduceLE, Int.reduceLT, Int.reduceToNat, Int.reducePow, Int.reduceAdd, Int.reduceMul, Int.reduceSub, Int.reduceNeg, Nat.reducePow, Nat.reduceLT, Nat.reduceLeDiff, and_self, true_and, and_true, AT_bind, AT_ok, AT_exc, AT_bad, AT_ask, Option.map_some, tgsLen_cons, tgsLen_nil, Nat.reduceAdd, Nat.reduceSub, if_true, if_false, Bool.not_true, Bool.not_false, reduceCtorEq, isNon, ite_true, ite_false, if_pos, e_vI_chr, vc_isin, vc_notin, vc_isfls, vs_str, bf_int_str, bf_list_str, bm_split, bm_join, rc_split, rc_sindex, rc_join, Prod.eta, lmade, vEq_S om om, vEq_S (txL_ok x) g.1, tx, vEq_S g.1 g.1, decide_true, vEq_bl, Option.isSome_some, beq_self_eq_true, Bool.false_eq_true]
    exact h _
  | none =>
    have dt' : vEq (tab D) (ev (tab D) (Bo D) CF WF (d + 8)) true (.nd .tup [.str (SX.S [116, 101, 120, 116]), .int 1]) (.nd .tup [.str (SX.S [116, 101, 120, 116]), .int 1]) s = .ok (.bl false) s := by
      rw [vEq_dat (d := .tuple [.str (SX.S [116, 101, 120, 116]), .int 1]) (e := .tuple [.str (SX.S [116, 101, 120, 116]), .int 1]) rfl rfl rfl rfl (by decide +kernel) (by decide +kernel)]
      rfl
    have ne : decide ([116, 101, 120, 116] = [109, 97, 100, 101]) = false := by decide
    simp only [e_vE_var, e_vE_cst, e_vE_bin, e_vE_neg, e_vE_cmp, e_vE_cmp2, e_vE_and, e_vE_or, e_vE_not, e_vE_ite, e_vE_tup, e_vE_lst, e_vE_fmt, e_vE_js, e_vE_idx, e_vE_sl, e_vE_fld, e_vE_call, e_vE_callK, e_vE_make, e_vE_makeK, e_vE_meth, e_vE_bif, e_vE_bm, e_vE_isi, e_vE_own, e_vEs_nil, e_vEs_cons, e_vJ_nil, e_vJ_cons, e_vAll_nil, e_vAll_cons, e_vEo_no, e_vEo_so, e_vI_of, e_vI_rng1, e_vI_rng2, e_vI_enm, e_vI_zip, e_vTg_nm, e_vTg_fld, e_vTg_sub, e_vTg_tp, e_vS_asg, e_vS_aug, e_vS_augS, e_vS_augF, e_vS_exp, e_vS_ret, e_vS_retN, e_vS_ifs, e_vS_pas, e_vS_brk, e_vS_cont, e_vS_never, e_vSs_nil, e_vSs_cons, e_vS_whl, e_vS_fr, e_vE_lc, e_vE_dct, e_vTgs_nil, e_vTgs_cons, bind_ok, catch_ok, catch_exc, noE_ok, e_vS_rais, e_vS_tr, bind_bad, bind_exc, bind_ask, Pv.bind_assoc, Pv.opt_some, Pv.opt_none, brT_bl, startD, fnR, clo_bad, clo_ask,
 List.map_cons, List.map_nil, List.length_cons, List.length_nil, List.replicate, List.cons_append, List.nil_append, List.append_nil, List.getElem?_cons_zero, List.getElem?_cons_succ, List.getElem?_nil, List.set_cons_zero, List.set_cons_succ,
 vget_zero, vget_succ, vb_add, vb_adds, vb_addt, vb_addl, vb_sub, vb_mul, vb_mull, vb_fdiv, vb_mod, vb_pow, vc_eq, vc_ne, vc_isnon, vc_notnon, vc_lt, vc_le, vc_gt, vc_ge, vo_lt, vo_le, vo_gt, vo_ge, vn_int, vi_tup, vi_lst, vi_str, vs_tup, vs_lst, vf_nd, vf_ref, bf_len_tup, bf_len_lst, bf_len_str, bf_abs, bf_int, bf_tuple_tup, bf_tuple_lst, bf_list_tup, bf_list_lst, bf_str_int, bf_str_str, bf_all, bf_any, mk_f, mk_t, at0, at1, at2, at3, look, ofW, ofWs, vEq_int, vEq_bl, or_ok, and_ok, not_ok, na10, ev_take, Int.reduceLE, Int.reduceLT, Int.reduceToNat, Int.reducePow, Int.reduceAdd, Int.reduceMul, Int.reduceSub, Int.reduceNeg, Nat.reducePow, Nat.reduceLT, Nat.reduceLeDiff, and_self, true_and, and_true, AT_bind, AT_ok, AT_exc, AT_bad, AT_ask, Option.map_some, tgsLen_cons, tgsLen_nil, Nat.reduceAdd, Nat.reduceSub, if_true, if_false, Bool.not_true, Bool.not_false, reduceCtorEq, isNon, ite_true, ite_false, if_pos, e_vI_chr, vc_isin, vc_notin, vc_isfls, vs_str, bf_int_str, bf_list_str, bm_split, bm_join, rc_split, rc_sindex, rc_join, Prod.eta, lmade, ltext, vEq_S ot om, ne, vEq_bl, Option.isSome_none, beq_self_eq_true, Bool.false_eq_true, Bool.not_false, dt']
    exact h _
end
end Lw
set_option maxHeartbeats 4000000
namespace Lw
open PySem Mi Pv Tk
theorem lits {v : V} (m : v ∈ ([.str "", .str "/", .str "-", .str "1/", .str "/2", .str "2/4", .str "-0", .str "0/5", .str "1/-2", .str "1/2/3", .str "+1", .str "1.5", .str "- 1", .str "1/0", .str "3/1"] : List V)) : ∃ cs, v = TS cs ∧ Gd cs := by
  simp only [List.mem_cons, List.not_mem_nil, or_false] at m
  rcases m with rfl | rfl | rfl | rfl | rfl | rfl | rfl | rfl | rfl | rfl | rfl | rfl | rfl | rfl | rfl
  all_goals exact ⟨_, congrArg D.str (Str.ofString_eq_toList _), by decide +kernel, by decide +kernel⟩
theorem gd_len {l : List (List Nat)} : (l.map TS).length = l.length := by simp
section
variable {d : Nat} {P : Fl → Sto → Prop} {E : Nat → List (Nat × V) → Sto → Prop}
theorem turn {s : Sto} {o2 o3 o4 o5 o6 o7 o8 o9 : Option V}
    (h : ∀ (s' : Sto) (o2 o3 o4 o5 o6 o7 o8 o9 : Option V), P (.nx [none, some .drw, o2, o3, o4, o5, o6, o7, o8, o9]) s') :
    AT (vSs (tab D) (ev (tab D) (Bo D) CF WF (d + 8)) CF WF bodyM [none, some .drw, o2, o3, o4, o5, o6, o7, o8, o9] s) P E := by
  unfold bodyM m_0
  dsimp only
  simp only [e_vE_var, e_vE_cst, e_vE_bin, e_vE_neg, e_vE_cmp, e_vE_cmp2, e_vE_and, e_vE_or, e_vE_not, e_vE_ite, e_vE_tup, e_vE_lst, e_vE_fmt, e_vE_js, e_vE_idx, e_vE_sl, e_vE_fld, e_vE_call, e_vE_callK, e_vE_make, e_vE_makeK, e_vE_meth, e_vE_bif, e_vE_bm, e_vE_isi, e_vE_own, e_vEs_nil, e_vEs_cons, e_vJ_nil, e_vJ_cons, e_vAll_nil, e_vAll_cons, e_vEo_no, e_vEo_so, e_vI_of, e_vI_rng1, e_vI_rng2, e_vI_enm, e_vI_zip, e_vTg_nm, e_vTg_fld, e_vTg_sub, e_vTg_tp, e_vS_asg, e_vS_aug, e_vS_augS, e_vS_augF, e_vS_exp, e_vS_ret, e_vS_retN, e_vS_ifs, e_vS_pas, e_vS_brk, e_vS_cont, e_vS_never, e_vSs_nil, e_vSs_cons, e_vS_whl, e_vS_fr, e_vE_lc, e_vE_dct, e_vTgs_nil, e_vTgs_cons, bind_ok, catch_ok, catch_exc, noE_ok, e_vS_rais, e_vS_tr, bind_bad, bind_exc, bind_ask, Pv.bind_assoc, Pv.opt_some, Pv.opt_none, brT_bl, startD, fnR, clo_bad, clo_ask,
 List.map_cons, List.map_nil, List.length_cons, List.length_nil, List.replicate, List.cons_append, List.nil_append, List.append_nil, List.getElem?_cons_zero, List.getElem?_cons_succ, List.getElem?_nil, List.set_cons_zero, List.set_cons_succ,
 vget_zero, vget_succ, vb_add, vb_adds, vb_addt, vb_addl, vb_sub, vb_mul, vb_mull, vb_fdiv, vb_mod, vb_pow, vc_eq, vc_ne, vc_isnon, vc_notnon, vc_lt, vc_le, vc_gt, vc_ge, vo_lt, vo_le, vo_gt, vo_ge, vn_int, vi_tup, vi_lst, vi_str, vs_tup, vs_lst, vf_nd, vf_ref, bf_len_tup, bf_len_lst, bf_len_str, bf_abs, bf_int, bf_tuple_tup, bf_tuple_lst, bf_list_tup, bf_list_lst, bf_str_int, bf_str_str, bf_all, bf_any, mk_f, mk_t, at0, at1, at2, at3, look, ofW, ofWs, vEq_int, vEq_bl, or_ok, and_ok, not_ok, na10, ev_take, Int.reduceLE, Int.reduceLT, Int.reduceToNat, Int.reducePow, Int.reduceAdd, Int.reduceMul, Int.reduceSub, Int.reduceNeg, Nat.reducePow, Nat.reduceLT, Nat.reduceLeDiff, and_self, true_and, and_true, AT_bind, AT_ok, AT_exc, AT_bad, AT_ask, Option.map_some, tgsLen_cons, tgsLen_nil, Nat.reduceAdd, Nat.reduceSub, if_true, if_false, Bool.not_true, Bool.not_false, reduceCtorEq, isNon, ite_true, ite_false, if_pos, e_vI_chr, vc_isin, vc_notin, vc_isfls, vs_str, bf_int_str, bf_list_str, bm_split, bm_join, rc_split, rc_sindex, rc_join, Prod.eta]
  refine f32 fun x lx b1 b2 => ?_
  have c1 := b1.mono (by decide : 98 ≤ 200)
  have c2 := b2.mono (by decide : 31 ≤ 200)
  have c6 := b1.mono (by decide : 98 ≤ 600)
  have c7 := b2.mono (by decide : 31 ≤ 600)
  have e3 : ∀ s, vMake (ev (tab D) (Bo D) CF WF (d + 8)) CF 0 9 [.int x.1, .int x.2] s = .ok (SP x) s := fun s => by
    rw [mk9 (n := 31) (by have := lx.2; omega) (b1.mono (by decide)) b2 (by decide), lo_self lx]
  have okx := txL_ok x
  have lnx := txL_len c1 c2
  have e28 : ∀ s, ev (tab D) (Bo D) CF WF (d + 8) 28 [TS (txL x)] s = .ok (.nd .tup [.str (Str.ofString "made"), .int x.1, .int x.2, TS (txL x)]) s := fun s => by
    rw [f28 okx (by omega)]
    unfold fnd
    rw [tx_rd lx]
  have sm : ∀ s, ev (tab D) (Bo D) CF WF (d + 8) 5 [TS (txL x), TS (txL x)] s = .ok (.bl true) s := fun s => same_str okx
  have sm2 : ∀ s, ev (tab D) (Bo D) CF WF (d + 8) 5 [.nd .tup [.str (Str.ofString "made"), .int x.1, .int x.2, TS (txL x)], .nd .tup [.str (Str.ofString "made"), .int x.1, .int x.2, TS (txL x)]] s = .ok (.bl true) s := fun s => same_made okx
  have md : ([0, 1].contains 2) = false := rfl
  have r3 : rngD 0 3 = [.int 0, .int 1, .int 2] := rfl
  simp only [e_vE_var, e_vE_cst, e_vE_bin, e_vE_neg, e_vE_cmp, e_vE_cmp2, e_vE_and, e_vE_or, e_vE_not, e_vE_ite, e_vE_tup, e_vE_lst, e_vE_fmt, e_vE_js, e_vE_idx, e_vE_sl, e_vE_fld, e_vE_call, e_vE_callK, e_vE_make, e_vE_makeK, e_vE_meth, e_vE_bif, e_vE_bm, e_vE_isi, e_vE_own, e_vEs_nil, e_vEs_cons, e_vJ_nil, e_vJ_cons, e_vAll_nil, e_vAll_cons, e_vEo_no, e_vEo_so, e_vI_of, e_vI_rng1, e_vI_rng2, e_vI_enm, e_vI_zip, e_vTg_nm, e_vTg_fld, e_vTg_sub, e_vTg_tp, e_vS_asg, e_vS_aug, e_vS_augS, e_vS_augF, e_vS_exp, e_vS_ret, e_vS_retN, e_vS_ifs, e_vS_pas, e_vS_brk, e_vS_cont, e_vS_never, e_vSs_nil, e_vSs_cons, e_vS_whl, e_vS_fr, e_vE_lc, e_vE_dct, e_vTgs_nil, e_vTgs_cons, bind_ok, catch_ok, catch_exc, noE_ok, e_vS_rais, e_vS_tr, bind_bad, bind_exc, bind_ask, Pv.bind_assoc, Pv.opt_some, Pv.opt_none, brT_bl, startD, fnR, clo_bad, clo_ask,
 List.map_cons, List.map_nil, List.length_cons, List.length_nil, List.replicate, List.cons_append, List.nil_append, List.append_nil, List.getElem?_cons_zero, List.getElem?_cons_succ, List.getElem?_nil, List.set_cons_zero, List.set_cons_succ,
 vget_zero, vget_succ, vb_add, vb_adds, vb_addt, vb_addl, vb_sub, vb_mul, vb_mull, vb_fdiv, vb_mod, vb_pow, vc_eq, vc_ne, vc_isnon, vc_notnon, vc_lt, vc_le, vc_gt, vc_ge, vo_lt, vo_le, vo_gt, vo_ge, vn_int, vi_tup, vi_lst, vi_str, vs_tup, vs_lst, vf_nd, vf_ref, bf_len_tup, bf_len_lst, bf_len_str, bf_abs, bf_int, bf_tuple_tup, bf_tuple_lst, bf_list_tup, bf_list_lst, bf_str_int, bf_str_str, bf_all, bf_any, mk_f, mk_t, at0, at1, at2, at3, look, ofW, ofWs, vEq_int, vEq_bl, or_ok, and_ok, not_ok, na10, ev_take, Int.reduceLE, Int.reduceLT, Int.reduceToNat, Int.reducePow, Int.reduceAdd, Int.reduceMul, Int.reduceSub, Int.reduceNeg, Nat.reducePow, Nat.reduceLT, Nat.reduceLeDiff, and_self, true_and, and_true, AT_bind, AT_ok, AT_exc, AT_bad, AT_ask, Option.map_some, tgsLen_cons, tgsLen_nil, Nat.reduceAdd, Nat.reduceSub, if_true, if_false, Bool.not_true, Bool.not_false, reduceCtorEq, isNon, ite_true, ite_false, if_pos, e_vI_chr, vc_isin, vc_notin, vc_isfls, vs_str, bf_int_str, bf_list_str, bm_split, bm_join, rc_split, rc_sindex, rc_join, Prod.eta, f31 c6 c7, f30 c6 c7, e3, mf, md, e28, sm, sm2, Bool.false_eq_true, r3, wipeD]
  refine AT_noE ?_
  have z0 : 0 < sizeLine := by unfold sizeLine; decide
  have z1 : 1 < sizeLine := by unfold sizeLine; decide
  have z2 : 2 < sizeLine := by unfold sizeLine; decide
  have z3 : 3 < sizeLine := by unfold sizeLine; decide
  simp only [lcV_cons, lcV_nil, lcS, e_vE_var, e_vE_cst, e_vE_bin, e_vE_neg, e_vE_cmp, e_vE_cmp2, e_vE_and, e_vE_or, e_vE_not, e_vE_ite, e_vE_tup, e_vE_lst, e_vE_fmt, e_vE_js, e_vE_idx, e_vE_sl, e_vE_fld, e_vE_call, e_vE_callK, e_vE_make, e_vE_makeK, e_vE_meth, e_vE_bif, e_vE_bm, e_vE_isi, e_vE_own, e_vEs_nil, e_vEs_cons, e_vJ_nil, e_vJ_cons, e_vAll_nil, e_vAll_cons, e_vEo_no, e_vEo_so, e_vI_of, e_vI_rng1, e_vI_rng2, e_vI_enm, e_vI_zip, e_vTg_nm, e_vTg_fld, e_vTg_sub, e_vTg_tp, e_vS_asg, e_vS_aug, e_vS_augS, e_vS_augF, e_vS_exp, e_vS_ret, e_vS_retN, e_vS_ifs, e_vS_pas, e_vS_brk, e_vS_cont, e_vS_never, e_vSs_nil, e_vSs_cons, e_vS_whl, e_vS_fr, e_vE_lc, e_vE_dct, e_vTgs_nil, e_vTgs_cons, bind_ok, catch_ok, catch_exc, noE_ok, e_vS_rais, e_vS_tr, bind_bad, bind_exc, bind_ask, Pv.bind_assoc, Pv.opt_some, Pv.opt_none, brT_bl, startD, fnR, clo_bad, clo_ask,
 List.map_cons, List.map_nil, List.length_cons, List.length_nil, List.replicate, List.cons_append, List.nil_append, List.append_nil, List.getElem?_cons_zero, List.getElem?_cons_succ, List.getElem?_nil, List.set_cons_zero, List.set_cons_succ,
 vget_zero, vget_succ, vb_add, vb_adds, vb_addt, vb_addl, vb_sub, vb_mul, vb_mull, vb_fdiv, vb_mod, vb_pow, vc_eq, vc_ne, vc_isnon, vc_notnon, vc_lt, vc_le, vc_gt, vc_ge, vo_lt, vo_le, vo_gt, vo_ge, vn_int, vi_tup, vi_lst, vi_str, vs_tup, vs_lst, vf_nd, vf_ref, bf_len_tup, bf_len_lst, bf_len_str, bf_abs, bf_int, bf_tuple_tup, bf_tuple_lst, bf_list_tup, bf_list_lst, bf_str_int, bf_str_str, bf_all, bf_any, mk_f, mk_t, at0, at1, at2, at3, look, ofW, ofWs, vEq_int, vEq_bl, or_ok, and_ok, not_ok, na10, ev_take, Int.reduceLE, Int.reduceLT, Int.reduceToNat, Int.reducePow, Int.reduceAdd, Int.reduceMul, Int.reduceSub, Int.reduceNeg, Nat.reducePow, Nat.reduceLT, Nat.reduceLeDiff, and_self, true_and, and_true, AT_bind, AT_ok, AT_exc, AT_bad, AT_ask, Option.map_some, tgsLen_cons, tgsLen_nil, Nat.reduceAdd, Nat.reduceSub, if_true, if_false, Bool.not_true, Bool.not_false, reduceCtorEq, isNon, ite_true, ite_false, if_pos, e_vI_chr, vc_isin, vc_notin, vc_isfls, vs_str, bf_int_str, bf_list_str, bm_split, bm_join, rc_split, rc_sindex, rc_join, Prod.eta]
  refine f29 okx lnx fun t1 g1 k1 => ?_
  simp only [lcV_cons, lcV_nil, lcS, e_vE_var, e_vE_cst, e_vE_bin, e_vE_neg, e_vE_cmp, e_vE_cmp2, e_vE_and, e_vE_or, e_vE_not, e_vE_ite, e_vE_tup, e_vE_lst, e_vE_fmt, e_vE_js, e_vE_idx, e_vE_sl, e_vE_fld, e_vE_call, e_vE_callK, e_vE_make, e_vE_makeK, e_vE_meth, e_vE_bif, e_vE_bm, e_vE_isi, e_vE_own, e_vEs_nil, e_vEs_cons, e_vJ_nil, e_vJ_cons, e_vAll_nil, e_vAll_cons, e_vEo_no, e_vEo_so, e_vI_of, e_vI_rng1, e_vI_rng2, e_vI_enm, e_vI_zip, e_vTg_nm, e_vTg_fld, e_vTg_sub, e_vTg_tp, e_vS_asg, e_vS_aug, e_vS_augS, e_vS_augF, e_vS_exp, e_vS_ret, e_vS_retN, e_vS_ifs, e_vS_pas, e_vS_brk, e_vS_cont, e_vS_never, e_vSs_nil, e_vSs_cons, e_vS_whl, e_vS_fr, e_vE_lc, e_vE_dct, e_vTgs_nil, e_vTgs_cons, bind_ok, catch_ok, catch_exc, noE_ok, e_vS_rais, e_vS_tr, bind_bad, bind_exc, bind_ask, Pv.bind_assoc, Pv.opt_some, Pv.opt_none, brT_bl, startD, fnR, clo_bad, clo_ask,
 List.map_cons, List.map_nil, List.length_cons, List.length_nil, List.replicate, List.cons_append, List.nil_append, List.append_nil, List.getElem?_cons_zero, List.getElem?_cons_succ, List.getElem?_nil, List.set_cons_zero, List.set_cons_succ,
 vget_zero, vget_succ, vb_add, vb_adds, vb_addt, vb_addl, vb_sub, vb_mul, vb_mull, vb_fdiv, vb_mod, vb_pow, vc_eq, vc_ne, vc_isnon, vc_notnon, vc_lt, vc_le, vc_gt, vc_ge, vo_lt, vo_le, vo_gt, vo_ge, vn_int, vi_tup, vi_lst, vi_str, vs_tup, vs_lst, vf_nd, vf_ref, bf_len_tup, bf_len_lst, bf_len_str, bf_abs, bf_int, bf_tuple_tup, bf_tuple_lst, bf_list_tup, bf_list_lst, bf_str_int, bf_str_str, bf_all, bf_any, mk_f, mk_t, at0, at1, at2, at3, look, ofW, ofWs, vEq_int, vEq_bl, or_ok, and_ok, not_ok, na10, ev_take, Int.reduceLE, Int.reduceLT, Int.reduceToNat, Int.reducePow, Int.reduceAdd, Int.reduceMul, Int.reduceSub, Int.reduceNeg, Nat.reducePow, Nat.reduceLT, Nat.reduceLeDiff, and_self, true_and, and_true, AT_bind, AT_ok, AT_exc, AT_bad, AT_ask, Option.map_some, tgsLen_cons, tgsLen_nil, Nat.reduceAdd, Nat.reduceSub, if_true, if_false, Bool.not_true, Bool.not_false, reduceCtorEq, isNon, ite_true, ite_false, if_pos, e_vI_chr, vc_isin, vc_notin, vc_isfls, vs_str, bf_int_str, bf_list_str, bm_split, bm_join, rc_split, rc_sindex, rc_join, Prod.eta, z0]
  refine f29 okx lnx fun t2 g2 k2 => ?_
  simp only [lcV_cons, lcV_nil, lcS, e_vE_var, e_vE_cst, e_vE_bin, e_vE_neg, e_vE_cmp, e_vE_cmp2, e_vE_and, e_vE_or, e_vE_not, e_vE_ite, e_vE_tup, e_vE_lst, e_vE_fmt, e_vE_js, e_vE_idx, e_vE_sl, e_vE_fld, e_vE_call, e_vE_callK, e_vE_make, e_vE_makeK, e_vE_meth, e_vE_bif, e_vE_bm, e_vE_isi, e_vE_own, e_vEs_nil, e_vEs_cons, e_vJ_nil, e_vJ_cons, e_vAll_nil, e_vAll_cons, e_vEo_no, e_vEo_so, e_vI_of, e_vI_rng1, e_vI_rng2, e_vI_enm, e_vI_zip, e_vTg_nm, e_vTg_fld, e_vTg_sub, e_vTg_tp, e_vS_asg, e_vS_aug, e_vS_augS, e_vS_augF, e_vS_exp, e_vS_ret, e_vS_retN, e_vS_ifs, e_vS_pas, e_vS_brk, e_vS_cont, e_vS_never, e_vSs_nil, e_vSs_cons, e_vS_whl, e_vS_fr, e_vE_lc, e_vE_dct, e_vTgs_nil, e_vTgs_cons, bind_ok, catch_ok, catch_exc, noE_ok, e_vS_rais, e_vS_tr, bind_bad, bind_exc, bind_ask, Pv.bind_assoc, Pv.opt_some, Pv.opt_none, brT_bl, startD, fnR, clo_bad, clo_ask,
 List.map_cons, List.map_nil, List.length_cons, List.length_nil, List.replicate, List.cons_append, List.nil_append, List.append_nil, List.getElem?_cons_zero, List.getElem?_cons_succ, List.getElem?_nil, List.set_cons_zero, List.set_cons_succ,
 vget_zero, vget_succ, vb_add, vb_adds, vb_addt, vb_addl, vb_sub, vb_mul, vb_mull, vb_fdiv, vb_mod, vb_pow, vc_eq, vc_ne, vc_isnon, vc_notnon, vc_lt, vc_le, vc_gt, vc_ge, vo_lt, vo_le, vo_gt, vo_ge, vn_int, vi_tup, vi_lst, vi_str, vs_tup, vs_lst, vf_nd, vf_ref, bf_len_tup, bf_len_lst, bf_len_str, bf_abs, bf_int, bf_tuple_tup, bf_tuple_lst, bf_list_tup, bf_list_lst, bf_str_int, bf_str_str, bf_all, bf_any, mk_f, mk_t, at0, at1, at2, at3, look, ofW, ofWs, vEq_int, vEq_bl, or_ok, and_ok, not_ok, na10, ev_take, Int.reduceLE, Int.reduceLT, Int.reduceToNat, Int.reducePow, Int.reduceAdd, Int.reduceMul, Int.reduceSub, Int.reduceNeg, Nat.reducePow, Nat.reduceLT, Nat.reduceLeDiff, and_self, true_and, and_true, AT_bind, AT_ok, AT_exc, AT_bad, AT_ask, Option.map_some, tgsLen_cons, tgsLen_nil, Nat.reduceAdd, Nat.reduceSub, if_true, if_false, Bool.not_true, Bool.not_false, reduceCtorEq, isNon, ite_true, ite_false, if_pos, e_vI_chr, vc_isin, vc_notin, vc_isfls, vs_str, bf_int_str, bf_list_str, bm_split, bm_join, rc_split, rc_sindex, rc_join, Prod.eta, z1]
  refine f29 okx lnx fun t3 g3 k3 => ?_
  have rc : rcvD (s ++ [(Nd.lst, [TS t1, TS t2, TS t3])]) (.ref s.length) .append = true := by
    unfold rcvD
    dsimp only
    rw [get_last]
  simp only [e_vE_var, e_vE_cst, e_vE_bin, e_vE_neg, e_vE_cmp, e_vE_cmp2, e_vE_and, e_vE_or, e_vE_not, e_vE_ite, e_vE_tup, e_vE_lst, e_vE_fmt, e_vE_js, e_vE_idx, e_vE_sl, e_vE_fld, e_vE_call, e_vE_callK, e_vE_make, e_vE_makeK, e_vE_meth, e_vE_bif, e_vE_bm, e_vE_isi, e_vE_own, e_vEs_nil, e_vEs_cons, e_vJ_nil, e_vJ_cons, e_vAll_nil, e_vAll_cons, e_vEo_no, e_vEo_so, e_vI_of, e_vI_rng1, e_vI_rng2, e_vI_enm, e_vI_zip, e_vTg_nm, e_vTg_fld, e_vTg_sub, e_vTg_tp, e_vS_asg, e_vS_aug, e_vS_augS, e_vS_augF, e_vS_exp, e_vS_ret, e_vS_retN, e_vS_ifs, e_vS_pas, e_vS_brk, e_vS_cont, e_vS_never, e_vSs_nil, e_vSs_cons, e_vS_whl, e_vS_fr, e_vE_lc, e_vE_dct, e_vTgs_nil, e_vTgs_cons, bind_ok, catch_ok, catch_exc, noE_ok, e_vS_rais, e_vS_tr, bind_bad, bind_exc, bind_ask, Pv.bind_assoc, Pv.opt_some, Pv.opt_none, brT_bl, startD, fnR, clo_bad, clo_ask,
 List.map_cons, List.map_nil, List.length_cons, List.length_nil, List.replicate, List.cons_append, List.nil_append, List.append_nil, List.getElem?_cons_zero, List.getElem?_cons_succ, List.getElem?_nil, List.set_cons_zero, List.set_cons_succ,
 vget_zero, vget_succ, vb_add, vb_adds, vb_addt, vb_addl, vb_sub, vb_mul, vb_mull, vb_fdiv, vb_mod, vb_pow, vc_eq, vc_ne, vc_isnon, vc_notnon, vc_lt, vc_le, vc_gt, vc_ge, vo_lt, vo_le, vo_gt, vo_ge, vn_int, vi_tup, vi_lst, vi_str, vs_tup, vs_lst, vf_nd, vf_ref, bf_len_tup, bf_len_lst, bf_len_str, bf_abs, bf_int, bf_tuple_tup, bf_tuple_lst, bf_list_tup, bf_list_lst, bf_str_int, bf_str_str, bf_all, bf_any, mk_f, mk_t, at0, at1, at2, at3, look, ofW, ofWs, vEq_int, vEq_bl, or_ok, and_ok, not_ok, na10, ev_take, Int.reduceLE, Int.reduceLT, Int.reduceToNat, Int.reducePow, Int.reduceAdd, Int.reduceMul, Int.reduceSub, Int.reduceNeg, Nat.reducePow, Nat.reduceLT, Nat.reduceLeDiff, and_self, true_and, and_true, AT_bind, AT_ok, AT_exc, AT_bad, AT_ask, Option.map_some, tgsLen_cons, tgsLen_nil, Nat.reduceAdd, Nat.reduceSub, if_true, if_false, Bool.not_true, Bool.not_false, reduceCtorEq, isNon, ite_true, ite_false, if_pos, e_vI_chr, vc_isin, vc_notin, vc_isfls, vs_str, bf_int_str, bf_list_str, bm_split, bm_join, rc_split, rc_sindex, rc_join, Prod.eta, z2, rc]
  refine one_all (by simp) (by simp) (by simp [clean]) fun v m => ?_
  obtain ⟨t4, rfl, g4, k4⟩ := lits m
  have ap : vBm false .append (.ref s.length) [TS t4] (s ++ [(Nd.lst, [TS t1, TS t2, TS t3])]) = .ok .non (s ++ [(Nd.lst, [t1, t2, t3, t4].map TS)]) := by
    unfold vBm
    dsimp only
    rw [get_last]
    dsimp only
    rw [if_pos (by simpa using z3), set_last]
    rfl
  have sq : seqD (s ++ [(Nd.lst, [t1, t2, t3, t4].map TS)]) (.ref s.length) = some ⟨[t1, t2, t3, t4].map TS, [(s.length, (.lst, [t1, t2, t3, t4].map TS))], false⟩ := by
    unfold seqD
    dsimp only
    rw [get_last]
    dsimp only
    rw [if_pos (flats_TS _)]
  have all4 : ∀ a ∈ [t1, t2, t3, t4], Gd a := by
    intro a ha
    simp only [List.mem_cons, List.not_mem_nil, or_false] at ha
    rcases ha with rfl | rfl | rfl | rfl
    · exact ⟨g1, k1⟩
    · exact ⟨g2, k2⟩
    · exact ⟨g3, k3⟩
    · exact ⟨g4, k4⟩
  have ey : eqbs ([t1, t2, t3, t4].map TS) ([t1, t2, t3, t4].map TS) = true := eqbs_TS _
  have my : ∀ v ∈ [t1, t2, t3, t4].map TS, ∃ cs, Gd cs ∧ v = TS cs := fun v hv => by
    obtain ⟨cs, mc, rfl⟩ := List.mem_map.mp hv
    exact ⟨cs, all4 cs mc, rfl⟩
  rw [ap]
  generalize [t1, t2, t3, t4].map TS = ys at sq ey my
  simp only [e_vE_var, e_vE_cst, e_vE_bin, e_vE_neg, e_vE_cmp, e_vE_cmp2, e_vE_and, e_vE_or, e_vE_not, e_vE_ite, e_vE_tup, e_vE_lst, e_vE_fmt, e_vE_js, e_vE_idx, e_vE_sl, e_vE_fld, e_vE_call, e_vE_callK, e_vE_make, e_vE_makeK, e_vE_meth, e_vE_bif, e_vE_bm, e_vE_isi, e_vE_own, e_vEs_nil, e_vEs_cons, e_vJ_nil, e_vJ_cons, e_vAll_nil, e_vAll_cons, e_vEo_no, e_vEo_so, e_vI_of, e_vI_rng1, e_vI_rng2, e_vI_enm, e_vI_zip, e_vTg_nm, e_vTg_fld, e_vTg_sub, e_vTg_tp, e_vS_asg, e_vS_aug, e_vS_augS, e_vS_augF, e_vS_exp, e_vS_ret, e_vS_retN, e_vS_ifs, e_vS_pas, e_vS_brk, e_vS_cont, e_vS_never, e_vSs_nil, e_vSs_cons, e_vS_whl, e_vS_fr, e_vE_lc, e_vE_dct, e_vTgs_nil, e_vTgs_cons, bind_ok, catch_ok, catch_exc, noE_ok, e_vS_rais, e_vS_tr, bind_bad, bind_exc, bind_ask, Pv.bind_assoc, Pv.opt_some, Pv.opt_none, brT_bl, startD, fnR, clo_bad, clo_ask,
 List.map_cons, List.map_nil, List.length_cons, List.length_nil, List.replicate, List.cons_append, List.nil_append, List.append_nil, List.getElem?_cons_zero, List.getElem?_cons_succ, List.getElem?_nil, List.set_cons_zero, List.set_cons_succ,
 vget_zero, vget_succ, vb_add, vb_adds, vb_addt, vb_addl, vb_sub, vb_mul, vb_mull, vb_fdiv, vb_mod, vb_pow, vc_eq, vc_ne, vc_isnon, vc_notnon, vc_lt, vc_le, vc_gt, vc_ge, vo_lt, vo_le, vo_gt, vo_ge, vn_int, vi_tup, vi_lst, vi_str, vs_tup, vs_lst, vf_nd, vf_ref, bf_len_tup, bf_len_lst, bf_len_str, bf_abs, bf_int, bf_tuple_tup, bf_tuple_lst, bf_list_tup, bf_list_lst, bf_str_int, bf_str_str, bf_all, bf_any, mk_f, mk_t, at0, at1, at2, at3, look, ofW, ofWs, vEq_int, vEq_bl, or_ok, and_ok, not_ok, na10, ev_take, Int.reduceLE, Int.reduceLT, Int.reduceToNat, Int.reducePow, Int.reduceAdd, Int.reduceMul, Int.reduceSub, Int.reduceNeg, Nat.reducePow, Nat.reduceLT, Nat.reduceLeDiff, and_self, true_and, and_true, AT_bind, AT_ok, AT_exc, AT_bad, AT_ask, Option.map_some, tgsLen_cons, tgsLen_nil, Nat.reduceAdd, Nat.reduceSub, if_true, if_false, Bool.not_true, Bool.not_false, reduceCtorEq, isNon, ite_true, ite_false, if_pos, e_vI_chr, vc_isin, vc_notin, vc_isfls, vs_str, bf_int_str, bf_list_str, bm_split, bm_join, rc_split, rc_sindex, rc_join, Prod.eta, sq]
  refine forV_invG (I := fun σ s' => s' = s ++ [(Nd.lst, ys)] ∧ ∃ o6 o7 o8 o9 : Option V, σ = [none, some .drw, o2, some (TW x), some (TS (txL x)), some (.ref s.length), o6, o7, o8, o9]) ?_ ?_ ?_ ⟨rfl, _, _, _, _, rfl⟩
  · rintro σ s' ⟨rfl, _⟩
    unfold grd
    simp only [List.all_cons, List.all_nil, get_last, ey, decide_true, Bool.and_self]
  · rintro σ s' ⟨rfl, o6, o7, o8, o9, rfl⟩
    simp only [e_vE_var, e_vE_cst, e_vE_bin, e_vE_neg, e_vE_cmp, e_vE_cmp2, e_vE_and, e_vE_or, e_vE_not, e_vE_ite, e_vE_tup, e_vE_lst, e_vE_fmt, e_vE_js, e_vE_idx, e_vE_sl, e_vE_fld, e_vE_call, e_vE_callK, e_vE_make, e_vE_makeK, e_vE_meth, e_vE_bif, e_vE_bm, e_vE_isi, e_vE_own, e_vEs_nil, e_vEs_cons, e_vJ_nil, e_vJ_cons, e_vAll_nil, e_vAll_cons, e_vEo_no, e_vEo_so, e_vI_of, e_vI_rng1, e_vI_rng2, e_vI_enm, e_vI_zip, e_vTg_nm, e_vTg_fld, e_vTg_sub, e_vTg_tp, e_vS_asg, e_vS_aug, e_vS_augS, e_vS_augF, e_vS_exp, e_vS_ret, e_vS_retN, e_vS_ifs, e_vS_pas, e_vS_brk, e_vS_cont, e_vS_never, e_vSs_nil, e_vSs_cons, e_vS_whl, e_vS_fr, e_vE_lc, e_vE_dct, e_vTgs_nil, e_vTgs_cons, bind_ok, catch_ok, catch_exc, noE_ok, e_vS_rais, e_vS_tr, bind_bad, bind_exc, bind_ask, Pv.bind_assoc, Pv.opt_some, Pv.opt_none, brT_bl, startD, fnR, clo_bad, clo_ask,
 List.map_cons, List.map_nil, List.length_cons, List.length_nil, List.replicate, List.cons_append, List.nil_append, List.append_nil, List.getElem?_cons_zero, List.getElem?_cons_succ, List.getElem?_nil, List.set_cons_zero, List.set_cons_succ,
 vget_zero, vget_succ, vb_add, vb_adds, vb_addt, vb_addl, vb_sub, vb_mul, vb_mull, vb_fdiv, vb_mod, vb_pow, vc_eq, vc_ne, vc_isnon, vc_notnon, vc_lt, vc_le, vc_gt, vc_ge, vo_lt, vo_le, vo_gt, vo_ge, vn_int, vi_tup, vi_lst, vi_str, vs_tup, vs_lst, vf_nd, vf_ref, bf_len_tup, bf_len_lst, bf_len_str, bf_abs, bf_int, bf_tuple_tup, bf_tuple_lst, bf_list_tup, bf_list_lst, bf_str_int, bf_str_str, bf_all, bf_any, mk_f, mk_t, at0, at1, at2, at3, look, ofW, ofWs, vEq_int, vEq_bl, or_ok, and_ok, not_ok, na10, ev_take, Int.reduceLE, Int.reduceLT, Int.reduceToNat, Int.reducePow, Int.reduceAdd, Int.reduceMul, Int.reduceSub, Int.reduceNeg, Nat.reducePow, Nat.reduceLT, Nat.reduceLeDiff, and_self, true_and, and_true, AT_bind, AT_ok, AT_exc, AT_bad, AT_ask, Option.map_some, tgsLen_cons, tgsLen_nil, Nat.reduceAdd, Nat.reduceSub, if_true, if_false, Bool.not_true, Bool.not_false, reduceCtorEq, isNon, ite_true, ite_false, if_pos, e_vI_chr, vc_isin, vc_notin, vc_isfls, vs_str, bf_int_str, bf_list_str, bm_split, bm_join, rc_split, rc_sindex, rc_join, Prod.eta]
    exact h _ _ _ _ _ _ _ _ _
  · rintro v mv σ s' ⟨rfl, o6, o7, o8, o9, rfl⟩
    obtain ⟨cs, mc, rfl⟩ := my v mv
    have z := inner (d := d) (P := fun fl s' => match fl with
      | .nx σ' => s' = s ++ [(Nd.lst, ys)] ∧ ∃ o6 o7 o8 o9 : Option V, σ' = [none, some .drw, o2, some (TW x), some (TS (txL x)), some (.ref s.length), o6, o7, o8, o9]
      | .ct σ' => s' = s ++ [(Nd.lst, ys)] ∧ ∃ o6 o7 o8 o9 : Option V, σ' = [none, some .drw, o2, some (TW x), some (TS (txL x)), some (.ref s.length), o6, o7, o8, o9]
      | .bk σ' => False
      | .rt d => False) (E := E) (s := s ++ [(Nd.lst, ys)]) (o0 := none) (o1 := some .drw) (o2 := o2) (o3 := some (TW x)) (o4 := some (TS (txL x))) (o5 := some (.ref s.length)) (o6 := o6) (o8 := o8) (o9 := o9) mc fun o8 => ⟨rfl, _, _, _, _, rfl⟩
    rw [e_vTg_nm, bind_ok]
    simp only [List.set_cons_zero, List.set_cons_succ]
    refine AT_mono z (fun fl s' q => ?_) (fun _ _ _ e => e)
    cases fl with
    | nx σ' => exact q
    | ct σ' => exact q
    | bk σ' => exact q.elim
    | rt d => exact q.elim
end
theorem lawOk (a : Addr) (ns : List Int) (hl : ns.length ≤ 63) : Y.F 30 0 [.ref a] (hp0 a (ns.map W.int)) (fun v _ => v = .bl true) noX := by
  have hD : Dr (Bo D) := ⟨rfl, rfl, rfl⟩
  refine law_of (T := tab D) (B := Bo D) (C := CF) (wf := WF) hD (n := 10) (d := 28) (rest := (.cons (.fr (.nm 2) (.rng1 (.cst (.int 8))) bodyM) (.cons (.ret (.cst (.bl true))) .nil))) rfl (by decide) ?_ hl
  rw [← AT_eq]
  simp only [e_vE_var, e_vE_cst, e_vE_bin, e_vE_neg, e_vE_cmp, e_vE_cmp2, e_vE_and, e_vE_or, e_vE_not, e_vE_ite, e_vE_tup, e_vE_lst, e_vE_fmt, e_vE_js, e_vE_idx, e_vE_sl, e_vE_fld, e_vE_call, e_vE_callK, e_vE_make, e_vE_makeK, e_vE_meth, e_vE_bif, e_vE_bm, e_vE_isi, e_vE_own, e_vEs_nil, e_vEs_cons, e_vJ_nil, e_vJ_cons, e_vAll_nil, e_vAll_cons, e_vEo_no, e_vEo_so, e_vI_of, e_vI_rng1, e_vI_rng2, e_vI_enm, e_vI_zip, e_vTg_nm, e_vTg_fld, e_vTg_sub, e_vTg_tp, e_vS_asg, e_vS_aug, e_vS_augS, e_vS_augF, e_vS_exp, e_vS_ret, e_vS_retN, e_vS_ifs, e_vS_pas, e_vS_brk, e_vS_cont, e_vS_never, e_vSs_nil, e_vSs_cons, e_vS_whl, e_vS_fr, e_vE_lc, e_vE_dct, e_vTgs_nil, e_vTgs_cons, bind_ok, catch_ok, catch_exc, noE_ok, e_vS_rais, e_vS_tr, bind_bad, bind_exc, bind_ask, Pv.bind_assoc, Pv.opt_some, Pv.opt_none, brT_bl, startD, fnR, clo_bad, clo_ask,
 List.map_cons, List.map_nil, List.length_cons, List.length_nil, List.replicate, List.cons_append, List.nil_append, List.append_nil, List.getElem?_cons_zero, List.getElem?_cons_succ, List.getElem?_nil, List.set_cons_zero, List.set_cons_succ,
 vget_zero, vget_succ, vb_add, vb_adds, vb_addt, vb_addl, vb_sub, vb_mul, vb_mull, vb_fdiv, vb_mod, vb_pow, vc_eq, vc_ne, vc_isnon, vc_notnon, vc_lt, vc_le, vc_gt, vc_ge, vo_lt, vo_le, vo_gt, vo_ge, vn_int, vi_tup, vi_lst, vi_str, vs_tup, vs_lst, vf_nd, vf_ref, bf_len_tup, bf_len_lst, bf_len_str, bf_abs, bf_int, bf_tuple_tup, bf_tuple_lst, bf_list_tup, bf_list_lst, bf_str_int, bf_str_str, bf_all, bf_any, mk_f, mk_t, at0, at1, at2, at3, look, ofW, ofWs, vEq_int, vEq_bl, or_ok, and_ok, not_ok, na10, ev_take, Int.reduceLE, Int.reduceLT, Int.reduceToNat, Int.reducePow, Int.reduceAdd, Int.reduceMul, Int.reduceSub, Int.reduceNeg, Nat.reducePow, Nat.reduceLT, Nat.reduceLeDiff, and_self, true_and, and_true, AT_bind, AT_ok, AT_exc, AT_bad, AT_ask, Option.map_some, tgsLen_cons, tgsLen_nil, Nat.reduceAdd, Nat.reduceSub, if_true, if_false, Bool.not_true, Bool.not_false, reduceCtorEq, isNon, ite_true, ite_false, if_pos, e_vI_chr, vc_isin, vc_notin, vc_isfls, vs_str, bf_int_str, bf_list_str, bm_split, bm_join, rc_split, rc_sindex, rc_join, Prod.eta]
  refine forV_inv (I := fun σ s => ∃ o2 o3 o4 o5 o6 o7 o8 o9 : Option V, σ = [none, some .drw, o2, o3, o4, o5, o6, o7, o8, o9]) ?_ ?_ ⟨none, none, none, none, none, none, none, none, rfl⟩
  · rintro σ s ⟨o2, o3, o4, o5, o6, o7, o8, o9, rfl⟩
    simp only [e_vE_var, e_vE_cst, e_vE_bin, e_vE_neg, e_vE_cmp, e_vE_cmp2, e_vE_and, e_vE_or, e_vE_not, e_vE_ite, e_vE_tup, e_vE_lst, e_vE_fmt, e_vE_js, e_vE_idx, e_vE_sl, e_vE_fld, e_vE_call, e_vE_callK, e_vE_make, e_vE_makeK, e_vE_meth, e_vE_bif, e_vE_bm, e_vE_isi, e_vE_own, e_vEs_nil, e_vEs_cons, e_vJ_nil, e_vJ_cons, e_vAll_nil, e_vAll_cons, e_vEo_no, e_vEo_so, e_vI_of, e_vI_rng1, e_vI_rng2, e_vI_enm, e_vI_zip, e_vTg_nm, e_vTg_fld, e_vTg_sub, e_vTg_tp, e_vS_asg, e_vS_aug, e_vS_augS, e_vS_augF, e_vS_exp, e_vS_ret, e_vS_retN, e_vS_ifs, e_vS_pas, e_vS_brk, e_vS_cont, e_vS_never, e_vSs_nil, e_vSs_cons, e_vS_whl, e_vS_fr, e_vE_lc, e_vE_dct, e_vTgs_nil, e_vTgs_cons, bind_ok, catch_ok, catch_exc, noE_ok, e_vS_rais, e_vS_tr, bind_bad, bind_exc, bind_ask, Pv.bind_assoc, Pv.opt_some, Pv.opt_none, brT_bl, startD, fnR, clo_bad, clo_ask,
 List.map_cons, List.map_nil, List.length_cons, List.length_nil, List.replicate, List.cons_append, List.nil_append, List.append_nil, List.getElem?_cons_zero, List.getElem?_cons_succ, List.getElem?_nil, List.set_cons_zero, List.set_cons_succ,
 vget_zero, vget_succ, vb_add, vb_adds, vb_addt, vb_addl, vb_sub, vb_mul, vb_mull, vb_fdiv, vb_mod, vb_pow, vc_eq, vc_ne, vc_isnon, vc_notnon, vc_lt, vc_le, vc_gt, vc_ge, vo_lt, vo_le, vo_gt, vo_ge, vn_int, vi_tup, vi_lst, vi_str, vs_tup, vs_lst, vf_nd, vf_ref, bf_len_tup, bf_len_lst, bf_len_str, bf_abs, bf_int, bf_tuple_tup, bf_tuple_lst, bf_list_tup, bf_list_lst, bf_str_int, bf_str_str, bf_all, bf_any, mk_f, mk_t, at0, at1, at2, at3, look, ofW, ofWs, vEq_int, vEq_bl, or_ok, and_ok, not_ok, na10, ev_take, Int.reduceLE, Int.reduceLT, Int.reduceToNat, Int.reducePow, Int.reduceAdd, Int.reduceMul, Int.reduceSub, Int.reduceNeg, Nat.reducePow, Nat.reduceLT, Nat.reduceLeDiff, and_self, true_and, and_true, AT_bind, AT_ok, AT_exc, AT_bad, AT_ask, Option.map_some, tgsLen_cons, tgsLen_nil, Nat.reduceAdd, Nat.reduceSub, if_true, if_false, Bool.not_true, Bool.not_false, reduceCtorEq, isNon, ite_true, ite_false, if_pos, e_vI_chr, vc_isin, vc_notin, vc_isfls, vs_str, bf_int_str, bf_list_str, bm_split, bm_join, rc_split, rc_sindex, rc_join, Prod.eta]
  · rintro x m σ s ⟨o2, o3, o4, o5, o6, o7, o8, o9, rfl⟩
    simp only [e_vE_var, e_vE_cst, e_vE_bin, e_vE_neg, e_vE_cmp, e_vE_cmp2, e_vE_and, e_vE_or, e_vE_not, e_vE_ite, e_vE_tup, e_vE_lst, e_vE_fmt, e_vE_js, e_vE_idx, e_vE_sl, e_vE_fld, e_vE_call, e_vE_callK, e_vE_make, e_vE_makeK, e_vE_meth, e_vE_bif, e_vE_bm, e_vE_isi, e_vE_own, e_vEs_nil, e_vEs_cons, e_vJ_nil, e_vJ_cons, e_vAll_nil, e_vAll_cons, e_vEo_no, e_vEo_so, e_vI_of, e_vI_rng1, e_vI_rng2, e_vI_enm, e_vI_zip, e_vTg_nm, e_vTg_fld, e_vTg_sub, e_vTg_tp, e_vS_asg, e_vS_aug, e_vS_augS, e_vS_augF, e_vS_exp, e_vS_ret, e_vS_retN, e_vS_ifs, e_vS_pas, e_vS_brk, e_vS_cont, e_vS_never, e_vSs_nil, e_vSs_cons, e_vS_whl, e_vS_fr, e_vE_lc, e_vE_dct, e_vTgs_nil, e_vTgs_cons, bind_ok, catch_ok, catch_exc, noE_ok, e_vS_rais, e_vS_tr, bind_bad, bind_exc, bind_ask, Pv.bind_assoc, Pv.opt_some, Pv.opt_none, brT_bl, startD, fnR, clo_bad, clo_ask,
 List.map_cons, List.map_nil, List.length_cons, List.length_nil, List.replicate, List.cons_append, List.nil_append, List.append_nil, List.getElem?_cons_zero, List.getElem?_cons_succ, List.getElem?_nil, List.set_cons_zero, List.set_cons_succ,
 vget_zero, vget_succ, vb_add, vb_adds, vb_addt, vb_addl, vb_sub, vb_mul, vb_mull, vb_fdiv, vb_mod, vb_pow, vc_eq, vc_ne, vc_isnon, vc_notnon, vc_lt, vc_le, vc_gt, vc_ge, vo_lt, vo_le, vo_gt, vo_ge, vn_int, vi_tup, vi_lst, vi_str, vs_tup, vs_lst, vf_nd, vf_ref, bf_len_tup, bf_len_lst, bf_len_str, bf_abs, bf_int, bf_tuple_tup, bf_tuple_lst, bf_list_tup, bf_list_lst, bf_str_int, bf_str_str, bf_all, bf_any, mk_f, mk_t, at0, at1, at2, at3, look, ofW, ofWs, vEq_int, vEq_bl, or_ok, and_ok, not_ok, na10, ev_take, Int.reduceLE, Int.reduceLT, Int.reduceToNat, Int.reducePow, Int.reduceAdd, Int.reduceMul, Int.reduceSub, Int.reduceNeg, Nat.reducePow, Nat.reduceLT, Nat.reduceLeDiff, and_self, true_and, and_true, AT_bind, AT_ok, AT_exc, AT_bad, AT_ask, Option.map_some, tgsLen_cons, tgsLen_nil, Nat.reduceAdd, Nat.reduceSub, if_true, if_false, Bool.not_true, Bool.not_false, reduceCtorEq, isNon, ite_true, ite_false, if_pos, e_vI_chr, vc_isin, vc_notin, vc_isfls, vs_str, bf_int_str, bf_list_str, bm_split, bm_join, rc_split, rc_sindex, rc_join, Prod.eta]
    exact turn (d := 20) fun s' o2 o3 o4 o5 o6 o7 o8 o9 => ⟨_, _, _, _, _, _, _, _, rfl⟩
end Lw
set_option maxHeartbeats 0
namespace Lw
open PySem PySem.Spec PyProof.Rows Mi
abbrev R : PySem.W.OpenRow := PySem.W.OpenLaw.row PySem.Challenge.rw_looptimes_k05_span_texts
abbrev hk : PySem.W.Hook := hookM 5 D
def ob (s : PySem.W.SharedT) : AlM := obsM 5 D (HandSHeadRun.getT s)
theorem ob_eq (s : PySem.W.SharedT) : ob s = hk.obs s.abs := obsM_eq (HandSHeadRun.getT_eq s)
def names : List Str := (["is_integer", "is_figures", "number_of", "LoopError", "BadPart", "BadText", "common_part", "parts_of", "Span", "_law_fresh", "_law_fill", "_law_take", "_law_one", "_law_same", "_law_low", "_law_fraction", "_law_figure", "_law_text", "_law_is_figures", "_law_is_text", "_law_bent", "_law_tried"] : List Str)
theorem run (w : World) : HandSHeadRun.RunEq R (PySem.W.view R.prog [26]) hk ob 10000 names w := by
  intro os
  kernel_rfl
end Lw
open PySem PySem.W PySem.Calls PyProof.Rows in
theorem PySem.Challenge.cw_looptimes_k05_span_texts_holds : PySem.Challenge.rw_looptimes_k05_span_texts.Holds := by
  w_on; o_law
  refine HandSHeadRun.head_any (r := OpenLaw.row PySem.Challenge.rw_looptimes_k05_span_texts) (q := view (OpenLaw.row PySem.Challenge.rw_looptimes_k05_span_texts).prog [26]) (H := Lw.hk) (ob := Lw.ob) (M := 10000) (loose := Lw.names) (d := HandSHeadRun.topDef (OpenLaw.row PySem.Challenge.rw_looptimes_k05_span_texts).prog 26) (kwd := []) Lw.ob_eq
    (by kernel_rfl) (fun s => by kernel_rfl) Lw.run (by kernel_rfl) (by kernel_rfl) (by kernel_rfl) (by rfl) (by first | assumption | decide +kernel) (by decide +kernel) ⟨rfl, rfl, rfl, rfl, rfl, by decide +kernel⟩ ?hw ?hc
  case hw => w_witness2
  case hc =>
    refine L2.walk_ofE (l := PySem.Challenge.rw_looptimes_k05_span_texts) (n := 63) (k := 2 * 30 + 2) (x := "_law_script") (CX := Mi.CXw (OpenLaw.row PySem.Challenge.rw_looptimes_k05_span_texts).prog) rfl (by decide) (by kernel_rfl) ⟨rfl, by decide, by decide⟩ ?F Mi.noCX
    intro w mg fa h Y G hmg0
    obtain ⟨K, KX, c⟩ := Y
    have hmg : mg ("law" : PySem.Str) = some (.ref fa) := by
      have e : (HandSHeadRun.topDef (OpenLaw.row PySem.Challenge.rw_looptimes_k05_span_texts).prog 26).name = ("law" : PySem.Str) := by kernel_rfl
      rw [← e]
      exact hmg0
    exact Mi.facts (Y := Lw.Y) (d := 30) (fl := Lw.fd_0) KX G hmg c Lw.bodies Lw.scopes rfl rfl rfl (.inr ⟨by kernel_rfl, by decide, by kernel_rfl⟩) rfl (List.mem_of_getElem? (i := 0) rfl) (fun _ => rfl) (fun _ _ _ _ _ _ us hl => match us, hl with | [_], _ => rfl) Lw.lawOk
