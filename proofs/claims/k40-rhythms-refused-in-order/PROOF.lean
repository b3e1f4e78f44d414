import PyProof.Rows.All
import Wide.All
import OpenK.AllK
import Wide.FinOn
import HandS.ForMost
import HandS.Gcd
import HandS.IsInst
import HandS.TupAny
import HandS.TupMul
import HandS.Style
import HandS.Wide
import HandS.Zip
import HandS.Conv
import HandS.Lambda
import HandS.EndTab
import HandS.TryMany
import HandS.ExcSuper
import KE.SortKeyHeap
import KE.KExcSuper
import HandS.ExcInit
import HandS.ExcField
import HandS.ExcOwn
import KE.KExcIs
import KE.GoesEnum
import KE.GoesZip
import HandS.Strs
import HandS.SetFor
import HandS.SortInts
import HandS.NoneIn
import KE.KDflt
import PySem.Challenge.RW_sawrounds_k40_rhythms_refused_in_order
set_option Elab.async false
set_option linter.all false
set_option maxRecDepth 100000
set_option exponentiation.threshold 3000
section
set_option maxHeartbeats 4000000
/-! # EvX1: an own error class over a class over ValueError, its __init__ by super().__init__(v); self.f = v -/
namespace EvX
open PySem PySem.Spec L2 PyProof.Rows
/-- the two statements of such an __init__ -/
abbrev iniB (p f : Str) (q : List Pos) : List Stmt := [
  .Expr (.Call (.Attribute (.Call (.Name "super" (q.getD 0 ⟨0, 0, 0, 0⟩)) [] [] (q.getD 1 ⟨0, 0, 0, 0⟩)) "__init__" (q.getD 2 ⟨0, 0, 0, 0⟩)) [.Name p (q.getD 3 ⟨0, 0, 0, 0⟩)] [] (q.getD 4 ⟨0, 0, 0, 0⟩)) (q.getD 5 ⟨0, 0, 0, 0⟩),
  .Assign [.Attribute (.Name "self" (q.getD 6 ⟨0, 0, 0, 0⟩)) f (q.getD 7 ⟨0, 0, 0, 0⟩)] (.Name p (q.getD 8 ⟨0, 0, 0, 0⟩)) (q.getD 9 ⟨0, 0, 0, 0⟩)]
/-- what the written part says of the class at C and of its __init__ at fI -/
structure IniF (prog : Program) (K : PySem.W.Frag) (mg : Str → Option Value) (C fI : Addr) (fd : FuncData) (p f : Str) : Prop where
  oex : OexC K C
  no : PySem.W.findIn K (.ref C) f = some none
  sup : PySem.W.ks_superIn K C C "__init__" = some (some (.builtin "ValueError.__init__"))
  ve : PySem.W.subIn K (.ref C) (.type "ValueError") = some true
  self : PySem.W.mroIn K C (.ref C) = some true
  opq : PySem.W.nsIn K cStatics "thirdparty.any" = some none
  ex : ∃ (oc : Value) (od : Option Addr) (osl : Array (Option Value)) (qual : Str) (params : Arguments) (q : List Pos) (scope : Scope) (dV kV doc pm ct : Value) (an : Option Addr) (cda cc : Addr) (ar : Arg) (ccl cl : Value) (cdd cld : Option Addr) (ccs csl : Array (Option Value)) (vs : Array Value) (file : Str) (tf : Tok),
    fd = PySem.W.ksFn "__init__" qual params (iniB p f q) scope dV kV doc pm an (.ref cda) ct cc ∧ K.lookup fI = some ⟨oc, od, .func fd, osl⟩ ∧ PySem.W.codeIn K (.ref cda) qual = true ∧ (params.posonlyargs ++ params.args).head? = some ar ∧ ar.arg = "self" ∧
    K.lookup cda = some ⟨ccl, cdd, .fields vs, ccs⟩ ∧ vs[2]? = some (.str file tf) ∧ ((prog.main.file : Str) == file) = true ∧ K.lookup cc = some ⟨cl, cld, .cell (some (.ref C)), csl⟩ ∧
    scope.names.lookup ("super" : Str) = some .globalImplicit ∧ scope.names.lookup ("__class__" : Str) = some .free ∧ scope.names.lookup ("self" : Str) = some .local ∧ scope.names.lookup p = some .local ∧ (∀ x ∈ scope.names, x.2 ≠ .cell) ∧
    scope.isCoroutine = false ∧ scope.isGenerator = false ∧ scope.kind = .function ∧ (q.getD 2 ⟨0, 0, 0, 0⟩).endLine = (q.getD 4 ⟨0, 0, 0, 0⟩).line
  top : (prog.main.scope.names.lookup ("super" : Str)).isSome = false
  ms : mg "super" = none
  pd : (p == ("__debug__" : Str)) = false
  ps : p ≠ "self"

/-- its promise: the field is laid -/
def spIni (C : Addr) (f : Str) : Sp := fun vs H Q _ => ∃ (a : Addr) (y : V), vs = [.ref a, y] ∧ H a = some (exo a C none) ∧ ∀ dx, H dx = none → dx ≠ a → Q .non (upd (upd H dx (exd dx [(f, y)])) a (exo a C (some dx)))
section
variable {P : Program} {w : World} {K : PySem.W.Frag} {mg : Str → Option Value} {base : Heap} {C fI : Addr} {p f : Str}
theorem mro_at {h : Heap} {cd : ClassData} {M : Model} (X : K.In h) (hc : PySem.W.clsIn K C = some cd) : PySem.W.Looks M h (mroOf (.ref C)) cd.mro := fun A Q E s k q => wpAny_bind ((PySem.W.looks_clsIn X hc) A _ E s k (wpAny_pure q))

theorem call_line {o : Expr} {apos pos : Pos} {env : PySem.Env} (h : apos.endLine = pos.line) : methodCallPos true o env apos pos = pure pos := by
  unfold methodCallPos
  exact if_pos (by simp [h])
theorem eval_meth {o : Expr} {name : Str} {apos pos : Pos} {env : PySem.Env} {args : List Expr} (hm : methodCallForm (args.length + 0) (backTo pos (starEach args env)) [] = true) (hp : apos.endLine = pos.line) :
    eval (.Call (.Attribute o name apos) args [] pos) env = (do
      let ov ← attributeBase o name env (eval o env)
      standAt apos.atName
      let (f, first) ← holding [ov] (getMethod ov name (do return (← importBound o env).getD true))
      callWith pos f first (backTo pos (starEach args env)) []) := by
  show (do
      let ov ← attributeBase o name env (eval o env)
      standAt apos.atName
      methodCall o name apos pos env ov (args.length + 0) (backTo pos (starEach args env)) []) = _
  unfold methodCall
  rw [hm, call_line hp]
  rfl
theorem ini_ok {fd : FuncData} {CX : CXT} {k : Nat} (F : IniF P K mg C fI fd p f) : FnOk P w K mg base CX (k + 1) fI fd ["self", p] (spIni C f) := by
  obtain ⟨oc, od, osl, qual, params, q, scope, dV, kV, doc, pm, ct, an, cda, cc, ar, ccl, cl, cdd, cld, ccs, csl, vs, file, tf, efd, lk, hcd, har, har2, lcd, hvs, hfile, lcc, n1, n2, n3, n4, n5, n6, n7, n8, n9⟩ := F.ex
  refine ⟨fun vs H Q E h => ?_, fun A outer s H args us vls Q E hr e0 hb hv hs => ?_⟩
  · obtain ⟨a, y, e, _⟩ := h
    rw [e]; rfl
  obtain ⟨a, y, rfl, ha, hq⟩ := hs
  obtain ⟨u, rfl, ry⟩ : ∃ u, us = [.ref a, u] ∧ RelV y u := by
    cases hv with
    | cons r1 hv =>
      cases hv with
      | cons r2 hv =>
        cases hv
        cases r1
        exact ⟨_, rfl, r2⟩
  have kin : K.In s.heap := e0.mod.kin.keeps fun b o e => (e0.bs b o e).1
  obtain ⟨mb, g2, g3⟩ := e0.mod.blt
  obtain ⟨t1, hx⟩ := exo_at e0.hok ha
  obtain ⟨nm, q', N, bs, bm, sn, sub, ab, col, dd, k0, k1, k2, k3, k5, hC, hbm⟩ := F.oex.cls
  have hcl : PySem.W.clsIn K C = some { name := nm, bases := bs, mro := .ref C :: bm, ns := N, qualname := q', hasDict := true, slotNames := sn, subclasses := sub, abstract := ab, collection := col, hasDel := false } := by unfold PySem.W.clsIn; rw [hC] <;> rfl
  subst efd
  have hxC : a ≠ C := fun z => by
    have e := kin _ _ hC
    rw [← z, hx] at e
    cases e
  refine ks_codeAny_call_defAt hr.depth (kin _ _ lk) rfl (e0.mod.nolimit.keeps fun b o e => (e0.bs b o e).1) (PySem.W.codeRec_of kin hcd) rfl hb n5 ?_ (fun h₀ hns k0' => ?_) n6 n7 n8
  · intro z hz
    rcases List.mem_cons.mp hz with rfl | hz
    · exact n3
    · rcases List.mem_cons.mp hz with rfl | hz
      · exact n4
      · simp at hz
  have kin0 : K.In h₀ := kin.keeps k0'
  have keep0 : ∀ b o, base.get? b = some o → h₀.get? b = some o := fun b o e => k0' _ _ (e0.bs b o e).1
  have hx0 := k0' _ _ hx
  have vself : ((["self", p] : List Str).zip [Value.ref a, u]).reverse.lookup ("self" : Str) = some (.ref a) := by
    show List.lookup ("self" : Str) [(p, u), (("self" : Str), Value.ref a)] = _
    rw [List.lookup_cons]
    have : (("self" : Str) == p) = false := by simpa using fun z : ("self" : Str) = p => F.ps z.symm
    rw [this]
    simp [List.lookup]
  have vp : ((["self", p] : List Str).zip [Value.ref a, u]).reverse.lookup p = some u := by
    show List.lookup p [(p, u), (("self" : Str), Value.ref a)] = _
    rw [List.lookup_cons]
    simp
  have kf : ∀ e : PySem.Env, e.scope = scope → interactive e = false := fun e h => by
    unfold interactive
    rw [h, n8]
    rfl
  refine ks_wpAt_execs_cons (ks_wpAt_Expr_any (ks_wpAt_MethodCall (pl := do return (← importBound (.Call (.Name "super" (q.getD 0 ⟨0, 0, 0, 0⟩)) [] [] (q.getD 1 ⟨0, 0, 0, 0⟩)) (callEnv (PySem.W.ksFn "__init__" qual params (iniB p f q) scope dV kV doc pm an (.ref cda) ct cc) s.heap.objs.size fI)).getD true) (ks_wpAt_super_base n1 n2 (by decide) rfl (kin0 _ _ lk) rfl har rfl (kin0 _ _ lcd) rfl hvs hfile F.top ?_) ?_) (kf _ rfl))
  case refine_2 => exact eval_meth rfl n9
  refine PySem.W.ks_loadName_global n8 n1 (Calls.loadGlobal_builtin (e0.mod.glob.keeps keep0) F.ms (g2.keeps keep0) ((g3 "super" (by decide)).trans (by decide +kernel)) ⟨rfl, ?_⟩)
  refine wpAny_loadName_free n8 n2 rfl ⟨_, kin0 _ _ lcc, rfl⟩ ?_
  rw [har2]
  refine wpAny_loadName_local n8 n3 hns vself ?_
  refine ks_wpAny_isType_cls (kin0 _ _ hC) rfl ⟨rfl, ?_⟩
  refine ks_wpAny_call_super (kin0 _ _ hC) rfl hx0 rfl (fun c z => by cases z) (PySem.W.looks_mroIn kin0 F.self) fun h1 e1 k1 => ?_
  have kin1 : K.In h1 := kin0.keeps k1
  have hx1 := k1 _ _ hx0
  have IA : PySem.W.InstAt h1 a { cls := .ref C, dict := none, data := .fields #[.ref t1, .none, .none, .none, .bool false, .none] } C none := ⟨hx1, rfl, rfl, trivial⟩
  refine PySem.W.kxs_getMethod PySem.W.kxs_ValueError e1 (PySem.W.looks_opaque kin1 F.opq) (mro_at kin1 hcl) rfl kin1 ?_ (IA.type.andThen (PySem.W.looks_subIn kin1 F.ve)) hxC (by decide) ?_
  · have e := F.sup
    unfold PySem.W.ks_superIn at e
    rw [hcl] at e
    exact e
  have k2 : ∀ b o, h1.get? b = some o → (h1.push (PySem.W.kxs_mw "ValueError.__init__" a)).get? b = some o := fun b o e => Heap.get?_push_of_some _ e
  have hns2 := (hns.keeps k1).keeps k2
  have hu2 : (h1.push (PySem.W.kxs_mw "ValueError.__init__" a)).get? h1.objs.size = some (PySem.W.kxs_mw "ValueError.__init__" a) := Heap.get?_push_size h1 rfl
  have hx2 := k2 _ _ hx1
  have kin2 := kin1.keeps k2
  have keep2 : ∀ b o, s.heap.get? b = some o → (h1.push (PySem.W.kxs_mw "ValueError.__init__" a)).get? b = some o := fun b o e => k2 _ _ (k1 _ _ (k0' _ _ e))
  generalize h1.push (PySem.W.kxs_mw "ValueError.__init__" a) = h2 at hns2 hu2 hx2 kin2 keep2 ⊢
  refine PySem.W.kxs_callWith (i := "ValueError.__init__") (x := a) rfl (Calls.evalArgs_plain (Calls.spliced_cons (ldc n8 n4 hns2 vp (Calls.spliced_nil ⟨hu2, ?_⟩) F.pd)))
  show wpAny _ _ (call (.ref h1.objs.size) [u]) _ _ _
  have hC2 := kin2 _ _ hC
  refine wpAny_call (codeAny_of_tree ?_)
  show wpAny _ _ (callAny (.ref h1.objs.size) ⟨[u], []⟩) _ _ _
  simp only [callAny]
  refine wpAny_bind (wpAny_load hu2 ?_)
  simp only [PySem.W.kxs_mw, show (Value.type "method-wrapper" == Value.type "method" || Value.type "method-wrapper" == Value.type "builtin_function_or_method" || Value.type "method-wrapper" == Value.type "method-wrapper") = true by decide, if_true]
  refine PySem.W.KFB.if_so (by decide) ?_
  refine wpAny_bind (PySem.W.check_bound_init PySem.F.excBase_ValueError.toExcCallFacts hC2 hx2 rfl ?_)
  refine wpAny_bind (wpAny_pure (wpAny_pure ?_))
  refine ⟨plainId_quiet PySem.F.excBase_ValueError.init.plain _, codeAny_builtin PySem.F.excBase_ValueError.initEntry ?_⟩
  refine PySem.W.exc_init_tree (cls := .ref C) (t0 := t1) (dv := none) (c2 := .none) (c3 := .none) (b4 := .bool false) hx2 (by rw [sizeLine_eq, List.length_singleton]; decide) fun h3 k3 e3 e3' => ?_
  have la : s.heap.objs.size ≠ a := fun z => Nat.lt_irrefl _ (z ▸ Heap.lt_size hx)
  have hns3 : h3.Ns s.heap.objs.size fun x => ((["self", p] : List Str).zip [Value.ref a, u]).reverse.lookup x := by
    obtain ⟨o, es, ep, ho, r⟩ := hns2
    exact ⟨o, es, ep, k3 _ _ la ho, r⟩
  have kin3 : K.In h3 := e0.mod.kin.keeps fun b o e => by
    have e2 := e0.bs b o e
    refine k3 b o (fun z => ?_) (keep2 _ _ e2.1)
    have e4 := e2.2
    rw [z, ha] at e4
    cases e4
  show PySem.wpAt _ _ _ (execs [_] _) _ _ _
  refine ks_wpAt_execs_cons (wpAt_of_wpAny (plainObj_wpAny_Assign_Attribute (ldc n8 n4 hns3 vp (ldc n8 n3 hns3 vself ?_) F.pd)))
  refine PySem.W.set_plain kin3 (ox := PySem.W.excRec (.ref C) h2.objs.size none .none .none (.bool false)) (od := none) ⟨e3, rfl, rfl, trivial⟩ F.oex.sa ?_
  refine PySem.HandSPX.exc_osa kin3 e3 hcl (show PySem.HandSPX.refsVE (.ref C :: bm) = true from hbm) rfl F.no fun h4 tk4 dx k4 dn dne e4 hn4 => ?_
  refine wpAt_of_wpAny (wpAny_execs_nil ?_)
  have sz : s.heap.objs.size ≤ dx := by
    obtain ⟨o, _, _, ho, _⟩ := hns3
    exact Nat.le_trans (Nat.le_of_lt (Heap.lt_size ho)) dn
  have hnd : H dx = none := e0.hok.fresh sz
  have nd : ∀ {b : Addr} {o : Obj}, s.heap.get? b = some o → b ≠ dx := fun {b o} e => Nat.ne_of_lt (Nat.lt_of_lt_of_le (Heap.lt_size e) sz)
  have na : ∀ {b : Addr}, H b = none → b ≠ a := fun {b} n z => by
    rw [z, ha] at n
    cases n
  have kk : ∀ b o, b ≠ a → s.heap.get? b = some o → h4.get? b = some o := fun b o n e => k4 b o n (k3 b o n (keep2 b o e))
  refine ⟨.non, upd (upd H dx (exd dx [(f, y)])) a (exo a C (some dx)), rfl, e0.bare, ?_, ?_, rfl, hq dx hnd dne⟩
  · exact {
      keep := fun b o e n _ _ => kk b o (na n) e
      slot := fun b o e n _ _ => ⟨o.slots, kk b o (na n) e⟩
      free := fun b o e n _ => by rw [upd_ne (na n), upd_ne (nd e)]; exact n
      there := fun b o e _ => by
        by_cases hb : b = a
        · exact ⟨_, by rw [hb]; exact e4⟩
        · exact ⟨o, kk b o hb e⟩
      tups := fun b xs e => by rw [upd_ne (at_ne ha e exo_tup), upd_ne (ne_of_none e hnd)]; exact e
      frzs := fun b o v e => by rw [upd_ne (at_ne ha e exo_frz), upd_ne (ne_of_none e hnd)]; exact e
      tbls := fun b ps e => ⟨#[], by rw [upd_ne (at_ne ha e exo_tbl), upd_ne (ne_of_none e hnd), e]; simp⟩ }
  · intro b o e
    by_cases hb : b = a
    · subst hb
      rw [upd_same] at e
      cases e
      exact exo_ok e4
    · rw [upd_ne hb] at e
      by_cases hd : b = dx
      · subst hd
        rw [upd_same] at e
        cases e
        exact exd_ok hn4 (relO_put (fs := []) ry fun g => True.intro)
      · rw [upd_ne hd] at e
        refine (e0.hok b o e).stay (fun c v hc z => kk c v ?_ z) (fun c hc => ?_) fun c xs hc => ?_
        · rcases hc with hc | hc
          · rw [hc]; exact hb
          · exact at_ne ha hc exo_own
        · rw [upd_ne (at_ne ha hc exo_own), upd_ne (ne_of_none hc hnd)]; exact hc
        · rw [upd_ne (at_ne ha hc exo_tup), upd_ne (ne_of_none hc hnd)]; exact hc
end
end EvX

end
section
set_option maxHeartbeats 4000000
/-! # EvX2: try with several clauses, each with or without a name; isinstance of a caught error that has a dict; raise C(v) -/
namespace EvX
open PySem PySem.Spec L2 PyProof.Rows
/-- a suite's reading: the exception, its class, its dict -/
abbrev SuT := Addr → Value → Option Addr → TS
/-- the ends of a suite whose name goes -/
def offE (i : Nat) (D : Ends) : Ends := { nx := fun z G => D.nx (z.set i none) G, rt := D.rt, bk := fun z G => D.bk (z.set i none) G, ct := fun z G => D.ct (z.set i none) G }
/-- what the clauses wish of an exception, one after another; with a name: in its slot -/
def wHs (K : PySem.W.Frag) (L : Nat) (Wo : WX) (D : Ends) : List (Value × Option Nat × SuT) → WX
  | [] => Wo
  | (c, n, ts) :: r => fun cls d z G => ∃ b, PySem.W.exmOne K cls c = some b ∧
      (b = true → z.length = L → ∀ a, G a = none → match n with
        | some i => ts a cls d (offE i D) (z.set i (some (.ref a))) G
        | none => ts a cls d D z G) ∧ (b = false → wHs K L Wo D r cls d z G)
inductive HdsA (X : Cx) : List ExceptHandler → List (Value × Option Nat × SuT) → Prop
  | nil : HdsA X [] []
  | plain {x : Str} {c : Value} {ts : SuT} {b₀ : Stmt} {su : List Stmt} {p1 p2 : Pos} {hs : List ExceptHandler} {l : List (Value × Option Nat × SuT)} (hc : Names X x c)
      (hsu : ∀ (a : Addr) (oe : Obj) (cls : Value) (d : Option Addr) (pn : List (Addr × Obj)), Zc cls d oe → (∃ vs, oe.data = .fields vs) → PSs (X.suite a ((a, oe) :: pn)) (b₀ :: su) (ts a cls d)) (r : HdsA X hs l) :
      HdsA X (.ExceptHandler (some (.Name x p1)) none (b₀ :: su) p2 :: hs) ((c, none, ts) :: l)
  | named {x n : Str} {i : Nat} {c : Value} {ts : SuT} {b₀ : Stmt} {su : List Stmt} {p1 p2 : Pos} {hs : List ExceptHandler} {l : List (Value × Option Nat × SuT)} (hc : Names X x c) (hi : X.N[i]? = some n) (hl : X.env.kindOf n = some .local)
      (hsu : ∀ (a : Addr) (oe : Obj) (cls : Value) (d : Option Addr) (pn : List (Addr × Obj)), Zc cls d oe → (∃ vs, oe.data = .fields vs) → PSs (X.suite a ((a, oe) :: pn)) (b₀ :: su) (ts a cls d)) (r : HdsA X hs l) :
      HdsA X (.ExceptHandler (some (.Name x p1)) (some n) (b₀ :: su) p2 :: hs) ((c, some i, ts) :: l)
section
variable {X : Cx} {body : List Stmt} {h₀ : ExceptHandler} {hds : List ExceptHandler} {l : List (Value × Option Nat × SuT)} {pos : Pos} {tb : WX → TS} {Wo : WX}
theorem ps_try_hs (hk : X.stack = X.env :: X.outer) (hf : X.env.frame = some X.env.locals) (hN : X.N.Nodup) (tk : Takes X Wo)
    (hb : ∀ (W : WX) (pn : List (Addr × Obj)) (xe : Value → Shared → Prop), Takes (X.tr pn xe) W → PassesOwn (model X.prog X.w) X.A X.env xe → PSs (X.tr pn xe) body (tb W))
    (hh : HdsA X (h₀ :: hds) l) : PS X (.Try body (h₀ :: hds) [] [] pos) fun D z G => tb (wHs X.K X.N.length Wo D l) D z G := by
  refine ⟨fun pins s z G D I h => ?_⟩
  have ok := I.ok
  have fr : X.A.frames = some (X.env :: X.outer) := ok.frames.trans (by rw [hk])
  refine wpAny_Try_except (wpAny_mono ((hb (wHs X.K X.N.length Wo D l) (X.pn ++ pins) (fun e s1 => wpAny (model X.prog X.w) X.A (noteFrame e X.env) (fun _ s2 => wpAny (model X.prog X.w) X.A (setFlight e none) (fun _ s3 => wpAny (model X.prog X.w) X.A (handleBy e X.env (h₀ :: hds)) (SP X pins D) X.xe s3) X.xe s2) X.xe s1) (fun u s' x => ?_) PassesOwn.looking).run [] s z G D (I.toTry _) h) (fun f s1 q => ?_) fun _ _ q => q)
  · obtain ⟨a, B, sI, ps, z1, G1, cls, d, rfl, J0, nb, up, sky, na, os, ag, w⟩ := x
    have J : Inv X pins z1 G1 sI := J0.ofTry ok
    rw [show (X.tr (X.pn ++ pins) _).stack = X.env :: X.outer from hk] at sky
    show wpAny (model X.prog X.w) X.A (noteFrame (.ref a) X.env) _ _ _
    refine Sky.land Zc.steady fr hf sky fun h3 f3 u3 => ?_
    have J3 : Inv X pins z1 G1 { s' with heap := h3 } := J.landed nb f3.1 (up.trans u3) os ag
    obtain ⟨o3, v3, e3, z3, d3⟩ := f3.there
    have off : a ∉ frs (X.env :: X.outer) := fun hm => by
      obtain ⟨_, o', e', nf⟩ := f3.2.2.1.mem hm
      rw [e3] at e'
      cases e'
      exact nf _ d3
    have aL : a ≠ X.env.locals := fun q => off (List.mem_filterMap.mpr ⟨X.env, List.mem_cons_self, by rw [hf, q]⟩)
    have aF : a ∉ X.fs := fun hm => by
      obtain ⟨e, m, q⟩ := List.mem_filterMap.mp hm
      exact off (List.mem_filterMap.mpr ⟨e, List.mem_cons_of_mem _ m, q⟩)
    have S3 := J3.suite e3 d3 na aL aF
    have look : ∀ {x : Str} {c : Value} {np : Pos} {Q : Value → Shared → Prop} {E : Value → Shared → Prop}, Names X x c → Q c { s' with heap := h3 } → wpAny (model X.prog X.w) (X.A.mark (some (.ref a))) (eval (.Name x np) X.env) Q E { s' with heap := h3 } := fun {x c np Q E} hc q => by
      obtain ⟨g1, g2, g3 | ⟨g3, g4, g5⟩⟩ := hc
      · exact ld_glob (X := X.suite a ((a, o3) :: (X.pn ++ pins))) S3 g1 g3 q g2
      · exact ld_blt (X := X.suite a ((a, o3) :: (X.pn ++ pins))) S3 g1 g3 g4 q g5 g2
    have cl : ∀ {c : Value} {b : Bool}, PySem.W.exmOne X.K cls c = some b → _ := fun {c b} hb1 => PySem.W.exm_one (M := model X.prog X.w) J3.kIn (show PySem.W.Looks (model X.prog X.w) h3 (typeOf (.ref a)) cls from fun A Q E s k q => wpAny_typeOf_ref (k _ _ e3) (by rw [z3.1]; exact q)) hb1
    have go : ∀ {hs' : List ExceptHandler} {l' : List (Value × Option Nat × SuT)}, HdsA X hs' l' → wHs X.K X.N.length Wo D l' cls d z1 G1 → wpAny (model X.prog X.w) X.A (handleBy (.ref a) X.env hs') (SP X pins D) X.xe { s' with heap := h3 } := by
      intro hs' l' hk'
      induction hk' with
      | nil =>
        intro w
        refine wpAny_handleBy_nil ?_
        obtain ⟨_, _, _, oe, vs, T, oT, ts', he, hz, hd, h1, _⟩ := id f3
        unfold PySem.passOn
        refine wpAny_bind (wpAny_field he hd h1 ?_)
        rw [if_neg (show ¬ ((Value.ref T == Value.none) = true) from by simp)]
        have fin : wpAny (model X.prog X.w) X.A (setFlight (.ref a) X.env.frame) (fun _ s4 => wpAny (model X.prog X.w) X.A (throw (.ref a) : Sem Flow) (SP X pins D) X.xe s4) X.xe { s' with heap := h3 } := by
          rw [hf]
          exact HandSPX.setFlight_upZ f3 fun h4 f4 u4 => wpAny_throw (tk _ _ ⟨a, B, sI, pins, z1, G1, cls, d, rfl, J, nb, (up.trans u3).trans u4, .inr (.inr (by rw [hk]; exact f4)), na, os, ag, w⟩)
        first | exact wpAny_bind (wpAny_pure (wpAny_bind fin)) | exact wpAny_bind fin
      | plain hc hsu r ih =>
        intro w
        obtain ⟨b, w1, w2, w3⟩ := w
        refine wpAny_handleBy_cons (codeAny_handlers_test (look hc ((cl w1).here ?_))) (by intro q; cases q)
        cases b with
        | false => exact (show wpAny _ X.A (handleBy (.ref a) X.env _) _ _ _ from ih (w3 rfl))
        | true =>
          refine codeAny_handlers_suite (HandSPX.lands_againZ f3 fun h4 f4 u4 => ?_)
          have J4 : Inv X pins z1 G1 { s' with heap := h4 } := J.landed nb f4.1 ((up.trans u3).trans u4) os ag
          obtain ⟨o4, v4, e4, z4, d4⟩ := f4.there
          refine wpAny_mono ((hsu a o4 cls d (X.pn ++ pins) z4 ⟨_, d4⟩).run [] _ _ G1 _ (J4.suite e4 d4 na aL aF) (w2 rfl J.len a na)) (fun f s6 q => ?_) fun _ _ q => False.elim q
          cases f with
          | ret u => obtain ⟨v6, z6, G6, S6, r6, q6⟩ := q; exact ⟨_, _, _, S6.unsuite ok, r6, q6⟩
          | next => obtain ⟨z6, G6, S6, q6⟩ := q; exact ⟨_, _, S6.unsuite ok, q6⟩
          | brk => obtain ⟨z6, G6, S6, q6⟩ := q; exact ⟨_, _, S6.unsuite ok, q6⟩
          | cont => obtain ⟨z6, G6, S6, q6⟩ := q; exact ⟨_, _, S6.unsuite ok, q6⟩
      | @named x n i c ts b₀ su p1 p2 hs2 l2 hc hi hl hsu r ih =>
        intro w
        obtain ⟨b, w1, w2, w3⟩ := w
        refine wpAny_handleBy_cons (codeAny_handlers_test (look hc ((cl w1).here ?_))) (by intro q; cases q)
        cases b with
        | false => exact (show wpAny _ X.A (handleBy (.ref a) X.env hs2) _ _ _ from ih (w3 rfl))
        | true =>
          refine codeAny_handlers_suite_as (HandSPX.lands_againZ f3 fun h4 f4 u4 => ?_)
          have J4 : Inv X pins z1 G1 { s' with heap := h4 } := J.landed nb f4.1 ((up.trans u3).trans u4) os ag
          obtain ⟨o4, v4, e4, z4, d4⟩ := f4.there
          refine store_ok (X := X.suite a ((a, o4) :: (X.pn ++ pins))) (v := .ref a) (J4.suite e4 d4 na aL aF) hN hi (.inl hl) rfl (fun s5 S5 => ?_) (.inr hl)
          refine wpAny_mono ((hsu a o4 cls d (X.pn ++ pins) z4 ⟨_, d4⟩).run [] s5 _ G1 _ S5 (w2 rfl J.len a na)) (fun f s6 q => ?_) fun _ _ q => False.elim q
          have bye : ∀ {z6 : L2.St} {G6 : Hp} {Q : Shared → Prop}, Inv (X.suite a ((a, o4) :: (X.pn ++ pins))) [] z6 G6 s6 → (∀ s7, Inv X pins (z6.set i none) G6 s7 → Q s7) →
              wpAny (model X.prog X.w) X.A (do bindName X.env n .none; unbindBehindTheSuite X.env n p2) (fun _ s7 => Q s7) X.xe s6 := fun {z6 G6 Q} S6 hq => gone_ok (S6.unsuite ok) hN hi hl hq
          cases f with
          | ret u => obtain ⟨v6, z6, G6, S6, r6, q6⟩ := q; exact bye S6 fun s7 J7 => ⟨_, _, _, J7, r6, q6⟩
          | next => obtain ⟨z6, G6, S6, q6⟩ := q; exact bye S6 fun s7 J7 => ⟨_, _, J7, q6⟩
          | brk => obtain ⟨z6, G6, S6, q6⟩ := q; exact bye S6 fun s7 J7 => ⟨_, _, J7, q6⟩
          | cont => obtain ⟨z6, G6, S6, q6⟩ := q; exact bye S6 fun s7 J7 => ⟨_, _, J7, q6⟩
    exact go hh w
  · cases f with
    | next => obtain ⟨z1, G1, J1, q1⟩ := q; exact wpAny_execs_nil ⟨z1, G1, J1.ofTry ok, q1⟩
    | brk => obtain ⟨z1, G1, J1, q1⟩ := q; exact ⟨z1, G1, J1.ofTry ok, q1⟩
    | cont => obtain ⟨z1, G1, J1, q1⟩ := q; exact ⟨z1, G1, J1.ofTry ok, q1⟩
    | ret u => obtain ⟨v1, z1, G1, J1, r1, q1⟩ := q; exact ⟨v1, z1, G1, J1.ofTry ok, r1, q1⟩
end
/-! ### isinstance of the error that a suite holds, with a dict or without -/
structure IsF (K : PySem.W.Frag) (C : Addr) : Prop where
  cl : (PySem.W.clsIn K C).isSome = true
  ga : PySem.W.findIn K (.ref C) "__getattribute__" = some (some (.builtin "BaseException.__getattribute__"))
  gt : PySem.W.findIn K (.ref C) "__getattr__" = some none
  be : PySem.W.subIn K (.ref C) (.type "BaseException") = some true
  ca : PySem.W.findIn K (.ref C) "__class__" = some (some (.builtin "object.__class__"))
  gs : PySem.W.specialIn K (.builtin "object.__class__") "__get__" = some (some (.builtin "getset_descriptor.__get__"))
  tk : PySem.W.takesIn K (.builtin "object.__class__") = some true
  ob : PySem.W.mroIn K C (.type "object") = some true
def rIsX (K : PySem.W.Frag) (C a : Addr) (d : Option Addr) : List V → Hp → VK → Prop := fun xs G Q => ∃ (c : V) (cv : Value) (b : Bool), xs = [.ref a, c] ∧ (∀ u, RelV c u → u = cv) ∧ (∀ x, d = some x → ∃ fs, G x = some (.xd fs)) ∧ PySem.W.kitOne K (.ref C) cv = some b ∧ Q (.bl b) G
theorem call_isX {X : Cx} {a C : Addr} {d : Option Addr} {oe : Obj} {pn : List (Addr × Obj)} (F : IsF X.K C) (hz : Zc (.ref C) d oe) (hf : ∃ vs, oe.data = .fields vs) : CallR (X.suite a ((a, oe) :: pn)) (.builtin "isinstance") (rIsX X.K C a d) := by
  intro pins s z G xs us Q I r h
  obtain ⟨c, cv, b, rfl, hcv, hd, e, q⟩ := h
  cases r with
  | cons rx rr =>
    cases rr with
    | cons rt rr =>
      cases rr
      cases rx
      cases hcv _ rt
      obtain ⟨e1, _⟩ := I.pin (a, oe) (List.mem_append.mpr (.inl List.mem_cons_self))
      obtain ⟨vs, hv⟩ := hf
      obtain ⟨oc, od, oda, osl⟩ := oe
      obtain ⟨h1, h2⟩ := hz
      dsimp only at h1 h2 hv
      subst h1 h2 hv
      obtain ⟨ox, J⟩ : ∃ ox, PySem.W.InstAt s.heap a ⟨.ref C, od, .fields vs, osl⟩ C ox := by
        cases od with
        | none => exact ⟨none, e1, rfl, rfl, trivial⟩
        | some x =>
          obtain ⟨fs, ho⟩ := hd x rfl
          obtain ⟨mA, ⟨o, _, _, e2, _⟩, _⟩ := (show ObjOk _ _ _ _ x (.xd fs) from I.hok x _ ho)
          exact ⟨some o, e1, rfl, rfl, e2⟩
      exact PySem.W.kia_one (PySem.W.kitx_exc F.cl F.ga F.gt F.be F.ca F.gs F.tk F.ob) I.kIn J e (fun z => nomatch z) fun tk => ⟨.bl b, G, I.kept (t' := tk) fun _ _ z => z, rfl, q⟩
/-! ### raise C(v) -/
theorem pmk_sup {X : Cx} {x p f : Str} {C fI : Addr} {fd : FuncData} {e : Expr} {ta : TA} {p1 pos : Pos} (F : IniF X.prog X.K X.mg C fI fd p f) (iC : PySem.W.findIn X.K (.ref C) "__init__" = some (some (.ref fI))) (tI : PySem.W.typeIn X.K (.ref fI) = some (.type "function"))
    (hb : ∀ u v : Value, bindArgs fd ⟨[u, v], []⟩ = pure ([("self", u), (p, v)] : List (Str × Value))) (hr : Room 2 X.A) (hg : Gl X x) (hm : X.mg x = some (.ref C)) (ha : PA X [e] ta) (hdb : (x == ("__debug__" : Str)) = false) (he : starEach [e] X.env = (false, eval e X.env) :: starEach [] X.env) :
    PMk X (.Call (.Name x p1) [e] [] pos) (tMkO C (spIni C f) [] ta) := by
  have bd : Binds X.K fd ["self", p] [] := Binds.all fun us hl => by
    match us, hl with
    | [u, v], _ => exact hb u v
  exact pmk_oex (X := X) (CX := L2.CX X.prog X.w) (ds := []) (dvs := []) (p := p1) (pos := pos) F.oex iC tI (ini_ok (k := 0) F) hr bd .nil (fun _ _ _ _ _ _ _ h => by
    obtain ⟨_, _, _, _, _, _, _, _, _, _, _, _, z⟩ := h
    exact z.elim) hg hm ha hdb he (by rfl)
theorem mkO_of {C : Addr} {f : Str} {y : V} {G : Hp} {Q : XK} (h : ∀ d, G d = none → Q (.ref C) (some d) (upd G d (.xd [(f, y)]))) : [y].length ≤ 1000 ∧ ∀ a, G a = none → spIni C f (.ref a :: ([y] ++ [])) (upd G a (exo a C none))
    (fun v G2 => v = .non ∧ ∃ (d : Addr) (fs : List (Str × V)), G2 a = some (exo a C (some d)) ∧ G2 d = some (exd d fs) ∧ G d = none ∧ Q (.ref C) (some d) (upd (del G2 a) d (.xd fs))) (fun _ _ _ => False) := by
  refine ⟨by rw [List.length_singleton]; decide, fun a ha => ⟨a, y, rfl, upd_same, fun dx hd ne => ⟨rfl, dx, [(f, y)], upd_same, by rw [upd_ne ne, upd_same], ?_, ?_⟩⟩⟩
  · rw [upd_ne ne] at hd
    exact hd
  · have hd' : G dx = none := by rw [upd_ne ne] at hd; exact hd
    have e : upd (del (upd (upd (upd G a (exo a C none)) dx (exd dx [(f, y)])) a (exo a C (some dx))) a) dx (HO.xd [(f, y)]) = upd G dx (.xd [(f, y)]) := by
      funext b
      by_cases q : b = dx
      · rw [q, upd_same, upd_same]
      · rw [upd_ne q, upd_ne q]
        by_cases q2 : b = a
        · rw [q2, del_same, ha]
        · rw [del_ne q2, upd_ne q2, upd_ne q, upd_ne q2]
    rw [e]
    exact h dx hd'
/-! ### raise C() of a class without an own __init__ -/
end EvX

end
section
set_option maxHeartbeats 4000000
/-! # Ev0: an evaluator in plain Lean for the part of Python that the laws use -/
namespace Ev
open PySem

abbrev D := PyData
/-- the state of the law's draws: the cells, what is left of their digits, how many draws there were -/
structure DS where
  cells : List Int
  lefts : List Int
  cnt : Int
/-- an exception: its class, its fields -/
inductive Ex where
  | mk (c : Str) (fs : List (Str × D))
inductive R (α : Type) where
  | ok (a : α) (s : Option DS)
  | exc (x : Ex) (s : Option DS)
  | stuck
abbrev M (α : Type) : Type := Option DS → R α
def ret {α : Type} (a : α) : M α := fun s => .ok a s
def bnd {α β : Type} (m : M α) (f : α → M β) : M β := fun s => match m s with
  | .ok a s' => f a s'
  | .exc x s' => .exc x s'
  | .stuck => .stuck
def stk {α : Type} : M α := fun _ => .stuck
def lft {α : Type} : Option α → M α
  | some a => ret a
  | none => stk
/-- what is wanted of a run: an answer, or an exception that is wanted -/
def wpR {α : Type} (r : R α) (Q : α → Option DS → Prop) : Prop := match r with
  | .ok a s => Q a s
  | .exc _ _ => False
  | .stuck => False
theorem wpR_bnd {α β : Type} {m : M α} {f : α → M β} {s : Option DS} {Q : β → Option DS → Prop} : wpR (bnd m f s) Q ↔ wpR (m s) fun a s' => wpR (f a s') Q := by
  unfold bnd wpR
  cases m s <;> simp
theorem wpR_mono {α : Type} {r : R α} {Q Q' : α → Option DS → Prop} (h : wpR r Q) (i : ∀ a s, Q a s → Q' a s) : wpR r Q' := by
  unfold wpR at *
  cases r <;> simp_all
theorem wpR_lft {α : Type} {o : Option α} {s : Option DS} {Q : α → Option DS → Prop} (h : wpR (lft o s) Q) : ∃ a, o = some a ∧ Q a s := by
  cases o with
  | none => exact h.elim
  | some a => exact ⟨a, rfl, h⟩
theorem wpR_ret {α : Type} {a : α} {s : Option DS} {Q : α → Option DS → Prop} (h : wpR (ret a s) Q) : Q a s := h
theorem wpR_ok {α : Type} {r : R α} {Q : α → Option DS → Prop} (h : wpR r Q) : ∃ a s, r = .ok a s ∧ Q a s := by
  cases r with
  | ok a s => exact ⟨a, s, rfl, h⟩
  | exc x s => exact h.elim
  | stuck => exact h.elim

/-- the same where an exception may be wanted: E is what is wanted of it -/
def wpX {α : Type} (E : Ex → Option DS → Prop) (r : R α) (Q : α → Option DS → Prop) : Prop := match r with
  | .ok a s => Q a s
  | .exc x s => E x s
  | .stuck => False
abbrev ExF : Ex → Option DS → Prop := fun _ _ => False
abbrev ExT : Ex → Option DS → Prop := fun _ _ => True
theorem wpX_F {α : Type} {r : R α} {Q : α → Option DS → Prop} : wpX ExF r Q ↔ wpR r Q := by cases r <;> exact Iff.rfl
theorem wpX_bnd {α β : Type} {E : Ex → Option DS → Prop} {m : M α} {f : α → M β} {s : Option DS} {Q : β → Option DS → Prop} : wpX E (bnd m f s) Q ↔ wpX E (m s) fun a s' => wpX E (f a s') Q := by
  unfold bnd wpX
  cases m s <;> simp
theorem wpX_lft {α : Type} {E : Ex → Option DS → Prop} {o : Option α} {s : Option DS} {Q : α → Option DS → Prop} (h : wpX E (lft o s) Q) : ∃ a, o = some a ∧ Q a s := by
  cases o with
  | none => exact h.elim
  | some a => exact ⟨a, rfl, h⟩
theorem wpX_ret {α : Type} {E : Ex → Option DS → Prop} {a : α} {s : Option DS} {Q : α → Option DS → Prop} (h : wpX E (ret a s) Q) : Q a s := h
theorem wpX_cases {α : Type} {E : Ex → Option DS → Prop} {r : R α} {Q : α → Option DS → Prop} (h : wpX E r Q) : (∃ a s, r = .ok a s ∧ Q a s) ∨ ∃ x s, r = .exc x s ∧ E x s := by
  cases r with
  | ok a s => exact .inl ⟨a, s, rfl, h⟩
  | exc x s => exact .inr ⟨x, s, rfl, h⟩
  | stuck => exact h.elim
/-- no exception is let out -/
def nox {α : Type} (m : M α) : M α := fun s => match m s with
  | .ok a s' => .ok a s'
  | .exc _ _ => .stuck
  | .stuck => .stuck
theorem wpX_nox {α : Type} {E : Ex → Option DS → Prop} {m : M α} {s : Option DS} {Q : α → Option DS → Prop} : wpX E (nox m s) Q ↔ wpX ExF (m s) Q := by
  unfold nox wpX
  cases m s <;> simp
theorem wpR_nox {α : Type} {m : M α} {s : Option DS} {Q : α → Option DS → Prop} : wpR (nox m s) Q ↔ wpR (m s) Q := by
  unfold nox wpR
  cases m s <;> simp
theorem nox_ret {α : Type} {a : α} : nox (ret a) = ret a := (rfl)

/-! ### the operations on data -/
inductive Bo where
  | add | sub | mul | fdiv | mod | pow
  deriving DecidableEq
inductive Co where
  | eq | ne | lt | le | gt | ge | is | isnot | isin | notin
  deriving DecidableEq
inductive Bi where
  | abs | gcd | int | len | list | tuple | max2 | min2 | max1 | min1 | sum | repr
  deriving DecidableEq
def mulOk (a b : Int) : Bool := !((decide (Builtin.Int.intBits a > shortFactorBits) && decide (Builtin.Int.intBits b > shortFactorBits) && Builtin.Int.intTooBig (Builtin.Int.intBits a + Builtin.Int.intBits b)))
def divOk (a b : Int) : Bool := !(Builtin.divisionGoesByPylong a b)
def powOk (a b : Int) : Bool := decide (0 ≤ b) && decide (b ≤ 1000000) && decide (a.natAbs < 2 ^ 64)
def lenOk (n : Nat) : Bool := decide (n ≤ sizeLine)
def repOk (n : Nat) (k : Int) : Bool := decide (-(2 ^ 63) ≤ k) && decide (k < 2 ^ 63) && decide (n * k.toNat ≤ sizeLine)
def repT (n : Nat) (k : Int) : Bool := decide (n ≠ 0) && decide (2 ≤ k) && decide (k ≤ 1000) && decide (n ≤ 1000)
def binD : Bo → D → D → Option D
  | .add, .int a, .int b => some (.int (a + b))
  | .add, .list a, .list b => if lenOk (a.length + b.length) then some (.list (a ++ b)) else none
  | .add, .tuple a, .tuple b => if lenOk (a.length + b.length) then some (.tuple (a ++ b)) else none
  | .sub, .int a, .int b => some (.int (a - b))
  | .mul, .int a, .int b => if mulOk a b then some (.int (a * b)) else none
  | .mul, .list a, .int k => if repOk a.length k then some (.list (List.replicate k.toNat a).flatten) else none
  | .mul, .tuple a, .int k => if repT a.length k then some (.tuple (List.replicate k.toNat a).flatten) else none
  | .fdiv, .int a, .int b => if b != 0 && divOk a b then some (.int (a.fdiv b)) else none
  | .mod, .int a, .int b => if b != 0 then some (.int (a.fmod b)) else none
  | .pow, .int a, .int b => if powOk a b then some (.int (a ^ b.toNat)) else none
  | _, _, _ => none
def isNone : D → Bool
  | .none => true
  | _ => false
def intsOf : List D → Option (List Int)
  | [] => some []
  | .int i :: r => (intsOf r).map (i :: ·)
  | _ :: _ => none
/-- whether an integer is among some -/
def inD (a : Int) : D → Option Bool
  | .list ds => (intsOf ds).map fun js => decide (a ∈ js)
  | .tuple ds => (intsOf ds).map fun js => decide (a ∈ js)
  | _ => none
def cmpD : Co → D → D → Option Bool
  | .eq, a, b => if SeqAt.shaped a && SeqAt.shaped b then some (PyData.eqv a b) else none
  | .ne, a, b => if SeqAt.shaped a && SeqAt.shaped b then some (!PyData.eqv a b) else none
  | .lt, .int a, .int b => some (decide (a < b))
  | .le, .int a, .int b => some (decide (a ≤ b))
  | .gt, .int a, .int b => some (decide (b < a))
  | .ge, .int a, .int b => some (decide (b ≤ a))
  | .is, a, .none => some (isNone a)
  | .isnot, a, .none => some (!isNone a)
  | .is, .bool a, .bool b => some (decide (a = b))
  | .isnot, .bool a, .bool b => some (!decide (a = b))
  | .isin, .int a, y => inD a y
  | .notin, .int a, y => (inD a y).map (!·)
  | _, _, _ => none
def negD : D → Option D
  | .int i => some (.int (-i))
  | _ => none
def asB : D → Option Bool
  | .bool b => some b
  | _ => none
def asI : D → Option Int
  | .int i => some i
  | _ => none
def asL : D → Option (List D)
  | .list xs => some xs
  | _ => none
def asSeq : D → Option (List D)
  | .list xs => some xs
  | .tuple xs => some xs
  | _ => none
def ixD : D → D → Option D
  | .list xs, .int i => L2.atI xs i
  | .tuple xs, .int i => L2.atI xs i
  | _, _ => none
def cutA {α : Type} (xs : List α) (lo hi : Option Int) : List α := (xs.drop (HT.sIx xs.length 0 lo)).take (HT.sIx xs.length xs.length hi - HT.sIx xs.length 0 lo)
def revD : D → Option D
  | .list xs => some (.list xs.reverse)
  | _ => none
def slD (x : D) (lo hi : Option Int) : Option D := match x with
  | .list xs => some (.list (cutA xs lo hi))
  | .tuple xs => some (.tuple (cutA xs lo hi))
  | _ => none
def insS (x : Int) : List Int → List Int
  | [] => [x]
  | y :: ys => if x < y then x :: y :: ys else if x = y then y :: ys else y :: insS x ys
/-- the integers of a row, each once, the least first -/
def dd : List Int → List Int
  | [] => []
  | x :: xs => insS x (dd xs)
def insL (x : Int) : List Int → List Int
  | [] => [x]
  | y :: ys => if x ≤ y then x :: y :: ys else y :: insL x ys
/-- a row of integers, the least first -/
def srt : List Int → List Int
  | [] => []
  | x :: xs => insL x (srt xs)
def ssetD : D → Option D
  | .tuple xs => (intsOf xs).bind fun ns => if decide (ns.length < 4000) && decide ((dd ns).length < 64) then some (.list ((dd ns).map .int)) else none
  | _ => none
def srtD : D → Option D
  | .list xs => (intsOf xs).map fun ns => .list ((srt ns).map .int)
  | _ => none
/-- the greatest, the least of some integers, the first one given -/
def maxI (x : Int) (xs : List Int) : Int := xs.foldl (fun a b => if a < b then b else a) x
def minI (x : Int) (xs : List Int) : Int := xs.foldl (fun a b => if b < a then b else a) x
def maxD (xs : List D) : Option D := match intsOf xs with
  | some (i :: is) => some (.int (maxI i is))
  | _ => none
def minD (xs : List D) : Option D := match intsOf xs with
  | some (i :: is) => some (.int (minI i is))
  | _ => none
def sumD (xs : List D) : Option D := (intsOf xs).map fun is => .int is.sum
def reprOk (d : D) : Bool := d.showable && !d.hasDict && decide (d.depth ≤ 64) && decide (d.shown.length ≤ sizeLine)
def biD : Bi → List D → Option D
  | .abs, [.int i] => some (.int (if i < 0 then -i else i))
  | .gcd, [.int a, .int b] => some (.int ((Nat.gcd a.natAbs b.natAbs : Nat) : Int))
  | .int, [.int i] => some (.int i)
  | .int, [.bool b] => some (.int (if b then 1 else 0))
  | .len, [.list xs] => some (.int xs.length)
  | .len, [.tuple xs] => some (.int xs.length)
  | .list, [.list xs] => some (.list xs)
  | .list, [.tuple xs] => some (.list xs)
  | .tuple, [.list xs] => some (.tuple xs)
  | .tuple, [.tuple xs] => some (.tuple xs)
  | .max2, [.int i, .int j] => some (.int (if j > i then j else i))
  | .min2, [.int i, .int j] => some (.int (if j < i then j else i))
  | .max1, [.list xs] => maxD xs
  | .max1, [.tuple xs] => maxD xs
  | .min1, [.list xs] => minD xs
  | .min1, [.tuple xs] => minD xs
  | .sum, [.list xs] => sumD xs
  | .sum, [.tuple xs] => sumD xs
  | .repr, [d] => if reprOk d then some (.str d.shown) else none
  | _, _ => none
inductive Ty where
  | int | bool | str | tuple | list
  deriving DecidableEq
/-- an empty dict as a value among others -/
abbrev empD : D := .dict [(.bool true, .none)]
def isEmp : List (D × D) → Bool
  | [(.bool true, .none)] => true
  | _ => false
def isiD : Ty → D → Option Bool
  | _, .dict ps => if isEmp ps then some false else none
  | .int, .int _ => some true
  | .int, .bool _ => some true
  | .bool, .bool _ => some true
  | .str, .str _ => some true
  | .tuple, .tuple _ => some true
  | .list, .list _ => some true
  | _, _ => some false

/-! ### the syntax, without places -/
/-- what an except suite makes of the error that it holds -/
inductive He where
  | k (x : Str)
  | fld (f : Str)
  | isi (c : Str)
  deriving DecidableEq
inductive Hv where
  | tup (es : List He)
  | k (d : D)
  | ife (c : Str) (a b : D)
inductive Su where
  | set (i : Nat) (v : Hv)
  | ret (d : D)
structure Hd where
  c : Str
  n : Option Nat
  su : Su
/-- a def that hears what a function without parameters tells -/
inductive Wr where
  | tup (x : Str)
  | lst
  deriving DecidableEq
structure HDef where
  name : Str
  N : List Str
  pre : Bool
  wr : Wr
  hs : List Hd
mutual
inductive Tg where
  | n (i : Nat)
  | t (ts : Tgs)
inductive Tgs where
  | nil
  | cons (t : Tg) (ts : Tgs)
end
mutual
inductive E where
  | v (i : Nat)
  | k (d : D)
  | g (i : Nat)
  | bin (o : Bo) (a b : E)
  | neg (a : E)
  | not (a : E)
  | and (a : E) (es : Es)
  | or (a : E) (es : Es)
  | cmp (c : Co) (a b : E)
  | chain (c c' : Co) (a b e : E)
  | ife (c a b : E)
  | tup (es : Es)
  | lst (es : Es)
  | ix (a i : E)
  | sl (a lo hi : E)
  | no
  | call (j : Nat) (es : Es) (ks : Ks)
  | bi (f : Bi) (es : Es)
  | isi (t : Ty) (a : E)
  | lc (tg : Tg) (it : It) (c e : E)
  | dAt (i : Nat)
  | dLen (i : Nat)
  | dCell (i k : Nat)
  | dLeft (i k : Nat)
  | scr (i : Nat)
  | rev (a : E)
  | emp
  | lrg (a b : E)
  | lrg1 (a : E)
  | callL (j : Nat) (es : Es)
  | sset (a : E)
  | skey (a : E) (fr : List Nat) (i : Nat) (b : E)
  | srt (a : E)
  | heard (j : Nat) (fr : List Nat) (e : E)
  | fn (j : Nat)
  | callV (i : Nat) (es : Es)
  | callW (i : Nat) (es : Es) (ps : List Str) (ks : Ks)
inductive Es where
  | nil
  | cons (e : E) (es : Es)
inductive Ks where
  | nil
  | cons (j : Nat) (e : E) (ks : Ks)
inductive It where
  | e (a : E)
  | r1 (a : E)
  | r2 (a b : E)
  | r3 (a b c : E)
  | zip (a b : E)
  | enum (a : E)
end
mutual
inductive S where
  | asg (tg : Tg) (e : E)
  | asgO (i : Nat) (e : E)
  | par (is : List Nat) (bs : List Bool) (es : Es)
  | put (i : Nat) (k e : E)
  | app (i : Nat) (e : E)
  | ext (i : Nat) (e : E)
  | ex (e : E)
  | ret (e : E)
  | ife (c : E) (a b : Ss)
  | whl (c : E) (b : Ss)
  | for_ (tg : Tg) (it : It) (b : Ss)
  | brk
  | raise
  | rse (c : Str) (f : Str) (e : E)
  | rse0 (c : Str)
  | try_ (b : S) (hs : List Hd)
  | frz (i : Nat)
  | doc
  | dAt (i : Nat) (e : E)
  | dLeft (i k : Nat) (e : E)
  | dRet (i : Nat) (e : E)
inductive Ss where
  | nil
  | cons (s : S) (ss : Ss)
end

/-! ### what it does -/
def isNo : E → Bool
  | .no => true
  | _ => false
abbrev Env := List (Option D)
def getv (env : Env) (i : Nat) : Option D := match env[i]? with
  | some (some d) => some d
  | _ => none
mutual
def asgT : Tg → D → Env → Option Env
  | .n i, x, env => some (env.set i (some x))
  | .t ts, .tuple xs, env => asgTs ts xs env
  | .t ts, .list xs, env => asgTs ts xs env
  | .t _, _, _ => none
def asgTs : Tgs → List D → Env → Option Env
  | .nil, [], env => some env
  | .cons t ts, x :: xs, env => (asgT t x env).bind (asgTs ts xs)
  | .nil, _ :: _, _ => none
  | .cons _ _, [], _ => none
end
/-- the slots that a function made here may read -/
def pick (fr : List Nat) : Nat → Env → Env
  | _, [] => []
  | j, x :: xs => (if fr.contains j then x else none) :: pick fr (j + 1) xs
/-- the keys of some integers, one after another -/
def keysM (f : Int → M D) : List Int → M (List Int)
  | [] => ret []
  | n :: ns => bnd (nox (f n)) fun d => bnd (lft (asI d)) fun k => bnd (keysM f ns) fun ks => ret (k :: ks)
/-- sorted by the keys -/
def srtK (ks ns : List Int) : List Int := ((ks.zip ns).mergeSort fun a b => decide (a.1 ≤ b.1)).map (·.2)
structure Fn where
  name : Str
  ps : List Str
  kws : List (Nat × List Nat)
  m : List D → M D
/-- what a def's body may name: the module's defs, its constants -/
structure Tb where
  fs : List Fn
  cs : List (Str × D)
  hs : List HDef
/-- whether an error of the class c is one of the class d: all are beneath the first of the package's -/
def subc (c d : Str) : Bool := decide (c = d) || decide (d = "SawError")
def heD (c : Str) (fs : List (Str × D)) : He → Option D
  | .k x => some (.str x)
  | .fld f => fs.lookup f
  | .isi d => if subc c d then some (.bool true) else none
def heDs (c : Str) (fs : List (Str × D)) : List He → Option (List D)
  | [] => some []
  | e :: es => (heD c fs e).bind fun d => (heDs c fs es).map (d :: ·)
def hvD : Ex → Hv → Option D
  | .mk c fs, .tup es => (heDs c fs es).map .tuple
  | _, .k d => some d
  | .mk c _, .ife d a _ => if subc c d then some a else none
/-- the function with a name, as a value -/
abbrev fnTok (x : Str) : D := .dict [(.bool false, .str x)]
def fnOf (o : Option D) (fs : List Fn) : Option Fn := match o with
  | some (.dict [(.bool false, .str x)]) => fs.find? fun f => decide (f.name = x)
  | _ => none
def kwFind {α : Type} (j : Nat) : List (Nat × α) → Option α
  | [] => none
  | (i, d) :: r => if i = j then some d else kwFind j r
/-- what is given by name, from the place n on -/
def kwRow {α : Type} (kv : List (Nat × α)) : Nat → Nat → Option (List α)
  | _, 0 => some []
  | n, k + 1 => (kwFind n kv).bind fun x => (kwRow kv (n + 1) k).map (x :: ·)
/-- the arguments in the parameters' order -/
def argsOf {α : Type} (n : Nat) (xs : List α) (kv : List (Nat × α)) : Option (List α) :=
  if xs.length + kv.length = n then (kwRow kv xs.length kv.length).map (xs ++ ·) else none
def lcL (f : D → M (Option D)) : List D → M (List D)
  | [] => ret []
  | x :: xs => bnd (nox (f x)) fun o => bnd (lcL f xs) fun ys => ret (match o with | some y => y :: ys | none => ys)
def rngOk (i : Int) : Bool := decide (-(2 ^ 62) ≤ i) && decide (i < 2 ^ 62)
def rngD (lo hi : Int) : List D := (List.range (hi - lo).toNat).map fun i => .int (lo + (i : Nat))
def rngDn (hi lo : Int) : List D := (List.range (hi - lo).toNat).map fun i => .int (hi + (i : Nat) * (-1))
def lrgD (x y : D) : Option D := (asI x).bind fun i => (asI y).bind fun j => if rngOk i && rngOk j && lenOk (j - i).toNat then some (.list (rngD i j)) else none
def zipD : List D → List D → List D
  | x :: xs, y :: ys => .tuple [x, y] :: zipD xs ys
  | _, _ => []
def enumD : Nat → List D → List D
  | _, [] => []
  | n, x :: xs => .tuple [.int (n : Nat), x] :: enumD (n + 1) xs
/-- a script, as its token -/
def scrD : List Int → D
  | [] => .dict [(.none, .none)]
  | n :: ns => .dict ((n :: ns).map fun n => (.int n, .none))
def keysI : List (D × D) → Option (List Int)
  | [] => some []
  | (.int n, _) :: r => (keysI r).map (n :: ·)
  | _ :: _ => none
def unscr : D → Option (List Int)
  | .dict [(.none, .none)] => some []
  | .dict ((.int n, _) :: r) => (keysI r).map (n :: ·)
  | _ => none
def onDS {α : Type} (d : Option D) (f : DS → Option α) : M α := fun ds => match d, ds with
  | some (.dict []), some s => (match f s with
    | some a => .ok a (some s)
    | none => .stuck)
  | _, _ => .stuck
def upDS {α : Type} (d : Option D) (a : α) (f : DS → Option DS) : M α := fun ds => match d, ds with
  | some (.dict []), some s => (match f s with
    | some s' => .ok a (some s')
    | none => .stuck)
  | _, _ => .stuck
def mkDS {α : Type} (a : α) (c l : Option (List Int)) : M α := fun ds => match c, l, ds with
  | some c, some l, none => .ok a (some ⟨c, l, 0⟩)
  | _, _, _ => .stuck
def orZero (ns : List Int) : List Int := if ns.isEmpty then [0] else ns
mutual
/-- no list in it -/
def noL : D → Bool
  | .none => true
  | .bool _ => true
  | .int _ => true
  | .str _ => true
  | .tuple ds => noLs ds
  | _ => false
def noLs : List D → Bool
  | [] => true
  | d :: ds => noL d && noLs ds
end
/-- what the first clause that takes an error makes of it -/
def handV : List Hd → Ex → Option (Option Nat × Su)
  | [], _ => none
  | h :: r, .mk c fs => if subc c h.c then some (h.n, h.su) else handV r (.mk c fs)
def wrD : Wr → D → D
  | .tup x, d => .tuple [.str x, d]
  | .lst, d => .list [d]
def hearD (h : HDef) (m : M D) : M D := fun s => match m s with
  | .ok d s' => .ok (wrD h.wr d) s'
  | .exc x s' => (match handV h.hs x with
    | some (_, .set _ v) => (match hvD x v with
      | some d => .ok d s'
      | none => .stuck)
    | _ => .stuck)
  | .stuck => .stuck
def kjs : Ks → List Nat
  | .nil => []
  | .cons j _ ks => j :: kjs ks
def esL : Es → Nat
  | .nil => 0
  | .cons _ es => esL es + 1
mutual
def evE (ft : Tb) : E → Env → M D
  | .v i, env => lft (getv env i)
  | .k d, _ => ret d
  | .g i, _ => lft ((ft.cs[i]?).map (·.2))
  | .bin o a b, env => bnd (evE ft a env) fun x => bnd (evE ft b env) fun y => lft (binD o x y)
  | .neg a, env => bnd (evE ft a env) fun x => lft (negD x)
  | .not a, env => bnd (evE ft a env) fun x => lft ((asB x).map fun b => .bool (!b))
  | .and a es, env => bnd (evE ft a env) fun x => evAnd ft es x env
  | .or a es, env => bnd (evE ft a env) fun x => evOr ft es x env
  | .cmp c a b, env => bnd (evE ft a env) fun x => bnd (evE ft b env) fun y => lft ((cmpD c x y).map .bool)
  | .chain c c' a b e, env => bnd (evE ft a env) fun x => bnd (evE ft b env) fun y => bnd (lft (cmpD c x y)) fun t => if t then bnd (evE ft e env) fun z => lft ((cmpD c' y z).map .bool) else ret (.bool false)
  | .ife c a b, env => bnd (evE ft c env) fun x => bnd (lft (asB x)) fun t => if t then evE ft a env else evE ft b env
  | .tup es, env => bnd (evEs ft es env) fun xs => lft (if lenOk xs.length then some (.tuple xs) else none)
  | .lst es, env => bnd (evEs ft es env) fun xs => lft (if lenOk xs.length then some (.list xs) else none)
  | .ix a i, env => bnd (evE ft a env) fun x => bnd (evE ft i env) fun y => lft (ixD x y)
  | .sl a lo hi, env => bnd (evE ft a env) fun x => bnd (if isNo lo then ret none else bnd (evE ft lo env) fun y => lft ((asI y).map some)) fun l => bnd (if isNo hi then ret none else bnd (evE ft hi env) fun y => lft ((asI y).map some)) fun h => lft (slD x l h)
  | .rev a, env => bnd (evE ft a env) fun x => lft (revD x)
  | .emp, _ => ret empD
  | .lrg a b, env => bnd (evE ft a env) fun x => bnd (evE ft b env) fun y => lft (lrgD x y)
  | .lrg1 a, env => bnd (evE ft a env) fun x => lft (lrgD (.int 0) x)
  | .callL j es, env => bnd (evEs ft es env) fun xs => match ft.fs[j]? with
    | some f => bnd (nox (bnd (lft (argsOf f.ps.length xs [])) f.m)) fun d => lft (if noL d then some d else none)
    | none => stk
  | .heard j fr e, env => match ft.hs[j]? with
    | some h => hearD h (evE ft e (pick fr 0 env))
    | none => stk
  | .fn j, _ => lft ((ft.fs[j]?).map fun f => fnTok f.name)
  | .callV i es, env => match fnOf (getv env i) ft.fs with
    | some f => bnd (evEs ft es env) fun xs => bnd (lft (argsOf f.ps.length xs [])) f.m
    | none => stk
  | .callW i es ps ks, env => match fnOf (getv env i) ft.fs with
    | some f => if f.ps = ps ∧ (esL es, kjs ks) ∈ f.kws then bnd (evEs ft es env) fun xs => bnd (evKs ft ks env) fun kv => bnd (lft (argsOf f.ps.length xs kv)) f.m else stk
    | none => stk
  | .sset a, env => bnd (evE ft a env) fun x => lft (ssetD x)
  | .srt a, env => bnd (evE ft a env) fun x => lft (srtD x)
  | .skey a fr i b, env => bnd (evE ft a env) fun x => bnd (lft ((asL x).bind intsOf)) fun ns => bnd (keysM (fun n => evE ft b ((pick fr 0 env).set i (some (.int n)))) ns) fun ks => lft (if lenOk ns.length then some (.list ((srtK ks ns).map .int)) else none)
  | .no, _ => stk
  | .call j es ks, env => bnd (evEs ft es env) fun xs => bnd (evKs ft ks env) fun kv => match ft.fs[j]? with
    | some f => bnd (lft (argsOf f.ps.length xs kv)) f.m
    | none => stk
  | .bi f es, env => bnd (evEs ft es env) fun xs => lft (biD f xs)
  | .isi t a, env => bnd (evE ft a env) fun x => lft ((isiD t x).map .bool)
  | .lc tg it c e, env => bnd (evIt ft it env) fun xs => bnd (lcL (fun x => bnd (lft (asgT tg x env)) fun env' => bnd (if isNo c then ret true else bnd (evE ft c env') fun y => lft (asB y)) fun t => if t then bnd (evE ft e env') fun y => ret (some y) else ret none) xs) fun ys => lft (if lenOk xs.length then some (.list ys) else none)
  | .dAt i, env => onDS (getv env i) fun s => some (.int s.cnt)
  | .dLen i, env => onDS (getv env i) fun s => some (.int s.cells.length)
  | .dCell i k, env => bnd (lft ((getv env k).bind asI)) fun n => onDS (getv env i) fun s => (L2.atI s.cells n).map .int
  | .dLeft i k, env => bnd (lft ((getv env k).bind asI)) fun n => onDS (getv env i) fun s => (L2.atI s.lefts n).map .int
  | .scr i, env => lft (((getv env i).bind unscr).map fun ns => .list ((orZero ns).map .int))
def evAnd (ft : Tb) : Es → D → Env → M D
  | .nil, x, _ => ret x
  | .cons e es, x, env => bnd (lft (asB x)) fun t => if t then bnd (evE ft e env) fun y => evAnd ft es y env else ret (.bool false)
def evOr (ft : Tb) : Es → D → Env → M D
  | .nil, x, _ => ret x
  | .cons e es, x, env => bnd (lft (asB x)) fun t => if t then ret (.bool true) else bnd (evE ft e env) fun y => evOr ft es y env
def evEs (ft : Tb) : Es → Env → M (List D)
  | .nil, _ => ret []
  | .cons e es, env => bnd (evE ft e env) fun x => bnd (evEs ft es env) fun xs => ret (x :: xs)
def evKs (ft : Tb) : Ks → Env → M (List (Nat × D))
  | .nil, _ => ret []
  | .cons j e ks, env => bnd (evE ft e env) fun x => bnd (evKs ft ks env) fun xs => ret ((j, x) :: xs)
def evIt (ft : Tb) : It → Env → M (List D)
  | .e a, env => bnd (evE ft a env) fun x => lft (asSeq x)
  | .r1 a, env => bnd (evE ft a env) fun x => bnd (lft (asI x)) fun i => lft (if rngOk i then some (rngD 0 i) else none)
  | .r2 a b, env => bnd (evE ft a env) fun x => bnd (evE ft b env) fun y => bnd (lft (asI x)) fun i => bnd (lft (asI y)) fun j => lft (if rngOk i && rngOk j then some (rngD i j) else none)
  | .r3 a b c, env => bnd (evE ft a env) fun x => bnd (evE ft b env) fun y => bnd (evE ft c env) fun z => bnd (lft (asI x)) fun i => bnd (lft (asI y)) fun j => bnd (lft (asI z)) fun k => lft (if rngOk i && rngOk j && decide (k = -1) then some (rngDn i j) else none)
  | .zip a b, env => bnd (evE ft a env) fun x => bnd (evE ft b env) fun y => match x, y with
    | .list xs, .list ys => ret (zipD xs ys)
    | .tuple xs, .tuple ys => ret (zipD xs ys)
    | .list xs, .tuple ys => ret (zipD xs ys)
    | .tuple xs, .list ys => ret (zipD xs ys)
    | _, _ => stk
  | .enum a, env => bnd (evE ft a env) fun x => bnd (lft (asSeq x)) fun xs => ret (enumD 0 xs)
end
def evT (ft : Tb) (e : E) (env : Env) : M Bool := bnd (evE ft e env) fun x => lft (asB x)

inductive Fl where
  | nx (env : Env)
  | bk (env : Env)
  | rt (d : D)
def whlL (c : Env → M Bool) (b : Env → M Fl) : Nat → Env → M Fl
  | 0, _ => stk
  | n + 1, env => bnd (c env) fun t => if t then bnd (b env) fun f => match f with
    | .nx e => whlL c b n e
    | .bk e => ret (.nx e)
    | .rt d => ret (.rt d) else ret (.nx env)
/-- stores, one after another -/
def stE : List Nat → List D → Env → Env
  | i :: is, x :: xs, env => stE is xs (env.set i (some x))
  | _, _, env => env
def forL (b : D → Env → M Fl) : List D → Env → M Fl
  | [], env => ret (.nx env)
  | x :: xs, env => bnd (b x env) fun f => match f with
    | .nx e => forL b xs e
    | .bk e => ret (.nx e)
    | .rt d => ret (.rt d)
def offN (n : Option Nat) (env : Env) : Env := match n with
  | some i => env.set i none
  | none => env
def tryD (m : M Fl) (hs : List Hd) (env : Env) : M Fl := fun s => match m s with
  | .exc x s' => (match handV hs x with
    | some (n, .set i v) => (match hvD x v with
      | some d => .ok (.nx (offN n (env.set i (some d)))) s'
      | none => .stuck)
    | some (_, .ret d) => .ok (.rt d) s'
    | none => .exc x s')
  | .ok a s' => .ok a s'
  | .stuck => .stuck
mutual
def evS (ft : Tb) (F : Nat) : S → Env → M Fl
  | .asg tg e, env => bnd (evE ft e env) fun x => bnd (lft (asgT tg x env)) fun env' => ret (.nx env')
  | .asgO i e, env => bnd (evE ft e env) fun x => bnd (lft (asL x)) fun xs => ret (.nx (env.set i (some (.list xs))))
  | .par is _ es, env => bnd (evEs ft es env) fun xs => ret (.nx (stE is xs env))
  | .put i k e, env => bnd (evE ft e env) fun x => bnd (lft ((getv env i).bind asL)) fun xs => bnd (evE ft k env) fun j => lft (((asI j).bind (L2.ixN xs.length)).map fun m => .nx (env.set i (some (.list (xs.set m x)))))
  | .app i e, env => bnd (lft ((getv env i).bind asL)) fun xs => bnd (evE ft e env) fun x => lft (if lenOk (xs.length + 1) then some (.nx (env.set i (some (.list (xs ++ [x]))))) else none)
  | .ext i e, env => bnd (lft ((getv env i).bind asL)) fun xs => bnd (evE ft e env) fun x => bnd (lft (asL x)) fun ys => lft (if lenOk (xs.length + ys.length) then some (.nx (env.set i (some (.list (xs ++ ys))))) else none)
  | .ex e, env => bnd (evE ft e env) fun _ => ret (.nx env)
  | .ret e, env => bnd (evE ft e env) fun x => ret (.rt x)
  | .ife c a b, env => bnd (evT ft c env) fun t => if t then evSs ft F a env else evSs ft F b env
  | .whl c b, env => whlL (evT ft c) (fun env => evSs ft F b env) F env
  | .for_ tg it b, env => bnd (evIt ft it env) fun xs => forL (fun x env => bnd (lft (asgT tg x env)) fun env' => evSs ft F b env') xs env
  | .brk, env => ret (.bk env)
  | .raise, _ => stk
  | .rse c f e, env => bnd (evE ft e env) fun d => fun s => .exc (.mk c [(f, d)]) s
  | .rse0 c, _ => fun s => .exc (.mk c []) s
  | .try_ b hs, env => tryD (evS ft F b env) hs env
  | .frz _, env => ret (.nx env)
  | .doc, env => ret (.nx env)
  | .dAt i e, env => bnd (evE ft e env) fun x => upDS (getv env i) (.nx env) fun s => (asI x).map fun k => { s with cnt := k }
  | .dLeft i k e, env => bnd (evE ft e env) fun x => bnd (lft ((getv env k).bind asI)) fun n => upDS (getv env i) (.nx env) fun s => (asI x).bind fun y => (L2.ixN s.lefts.length n).map fun m => { s with lefts := s.lefts.set m y }
  | .dRet i e, env => bnd (nox (evE ft e env)) fun y => mkDS (.rt (.dict [])) (((getv env i).bind asL).bind intsOf) ((asL y).bind intsOf)
def evSs (ft : Tb) (F : Nat) : Ss → Env → M Fl
  | .nil, env => ret (.nx env)
  | .cons s ss, env => bnd (evS ft F s env) fun f => match f with
    | .nx env' => evSs ft F ss env'
    | .bk env' => ret (.bk env')
    | .rt d => ret (.rt d)
end
def endD : Fl → M D
  | .rt d => ret d
  | .nx _ => ret .none
  | .bk _ => stk
/-- a def: its slots, its body -/
def run (ft : Tb) (F : Nat) (n : Nat) (b : Ss) (args : List D) : M D := bnd (evSs ft F b (args.map some ++ List.replicate (n - args.length) none)) endD
end Ev

end
section
set_option maxHeartbeats 4000000
/-! # Ev1: how the evaluator's data lie in the abstract heap -/
namespace Ev
open PySem PySem.Spec L2

/-- the three objects of the draws -/
structure DA where
  d : Addr
  c : Addr
  l : Addr
/-- the tables of code objects of the defs that make functions as they run -/
class TabsC where
  tabs : List (Addr × Str)
  fa : Str → Option Addr
  xcs : List (Str × Option Str)
variable [TabsC]
def notDA (r : Option DA) (a : Addr) : Prop := (∀ x, r = some x → a ≠ x.d ∧ a ≠ x.c ∧ a ≠ x.l) ∧ ∀ p ∈ TabsC.tabs, a ≠ p.1
def DrOk0 (ds : Option DS) (G : Hp) (r : Option DA) (H : Hp) : Prop := match r, ds with
  | none, none => True
  | some x, some s => H x.d = some (.dK [(.inr "cells", .ref x.c), (.inr "lefts", .ref x.l), (.inr "at", .int s.cnt)]) ∧ H x.c = some (.lst (s.cells.map V.int)) ∧ H x.l = some (.lst (s.lefts.map V.int)) ∧ x.c ≠ x.l ∧ G x.d = none ∧ G x.c = none ∧ G x.l = none
  | _, _ => False
def DrOk (ds : Option DS) (G : Hp) (r : Option DA) (H : Hp) : Prop := DrOk0 ds G r H ∧ LamX.Tabs TabsC.tabs H ∧ ∀ p ∈ TabsC.tabs, G p.1 = none
theorem DrOk.apart {ds : Option DS} {G : Hp} {r : Option DA} {H : Hp} (h : DrOk ds G r H) {a : Addr} {o : HO} (e : G a = some o) : notDA r a := by
  obtain ⟨h, _, t⟩ := h
  refine ⟨fun x hx => ?_, fun p hp => ne_of_none e (t p hp)⟩
  subst hx
  cases ds with
  | none => exact h.elim
  | some s =>
    obtain ⟨_, _, _, _, n1, n2, n3⟩ := h
    exact ⟨ne_of_none e n1, ne_of_none e n2, ne_of_none e n3⟩
theorem DrOk.live {ds : Option DS} {G : Hp} {r : Option DA} {H : Hp} (h : DrOk ds G r H) {a : Addr} (e : ¬ notDA r a) : H a ≠ none := by
  intro z
  apply e
  obtain ⟨h, t, _⟩ := h
  refine ⟨fun x hx => ?_, fun p hp => ?_⟩
  · subst hx
    cases ds with
    | none => exact h.elim
    | some s =>
      obtain ⟨m1, m2, m3, _⟩ := h
      exact ⟨fun q => (by rw [q, m1] at z; cases z), fun q => (by rw [q, m2] at z; cases z), fun q => (by rw [q, m3] at z; cases z)⟩
  · obtain ⟨ps, h1, _⟩ := t p hp
    intro q
    rw [q, h1] at z; cases z
theorem DrOk.tab {ds : Option DS} {G : Hp} {r : Option DA} {H : Hp} (_h : DrOk ds G r H) {p : Addr × Str} (hp : p ∈ TabsC.tabs) : ¬ notDA r p.1 := fun n => n.2 p hp rfl
theorem DrOk.mono {ds : Option DS} {G G' : Hp} {r : Option DA} {H H' : Hp} (h : DrOk ds G r H) (k : ∀ b o, (¬ notDA r b ∨ ∃ c q, o = LamX.CodeO c q) → H b = some o → H' b = some o) (f : ∀ b, G' b ≠ none → G b ≠ none ∨ H b = none) : DrOk ds G' r H' := by
  obtain ⟨h, t, tg⟩ := h
  have out : ∀ (a : Addr) (o : HO), H a = some o → G a = none → G' a = none := fun a o e n => by
    cases q : G' a with
    | none => rfl
    | some u =>
      rcases f a (by rw [q]; simp) with z | z
      · exact absurd n z
      · rw [e] at z; cases z
  have tt : LamX.Tabs TabsC.tabs H' ∧ ∀ p ∈ TabsC.tabs, G' p.1 = none := by
    refine ⟨fun p hp => ?_, fun p hp => ?_⟩
    · obtain ⟨ps, h1, h2, h3⟩ := t p hp
      refine ⟨ps, k _ _ (.inl fun n => n.2 p hp rfl) h1, h2, fun pos cv hc => ?_⟩
      obtain ⟨c, e1, e2⟩ := h3 pos cv hc
      exact ⟨c, e1, k _ _ (.inr ⟨_, _, rfl⟩) e2⟩
    · obtain ⟨ps, h1, _⟩ := t p hp
      exact out _ _ h1 (tg p hp)
  refine ⟨?_, tt⟩
  cases r with
  | none =>
    cases ds with
    | none => trivial
    | some s => exact h.elim
  | some x =>
    cases ds with
    | none => exact h.elim
    | some s =>
      obtain ⟨m1, m2, m3, ne, n1, n2, n3⟩ := h
      exact ⟨k _ _ (.inl fun z => (z.1 x rfl).1 rfl) m1, k _ _ (.inl fun z => (z.1 x rfl).2.1 rfl) m2, k _ _ (.inl fun z => (z.1 x rfl).2.2 rfl) m3, ne, out _ _ m1 n1, out _ _ m2 n2, out _ _ m3 n3⟩

theorem DrOk.part {ds : Option DS} {G G' : Hp} {r : Option DA} {H : Hp} (h : DrOk ds G r H) (f : ∀ b, ¬ notDA r b → G b = none → G' b = none) : DrOk ds G' r H := by
  obtain ⟨h, t, tg⟩ := h
  refine ⟨?_, t, fun p hp => f _ (fun n => n.2 p hp rfl) (tg p hp)⟩
  cases r with
  | none =>
    cases ds with
    | none => trivial
    | some s => exact h.elim
  | some x =>
    cases ds with
    | none => exact h.elim
    | some s =>
      obtain ⟨m1, m2, m3, ne, n1, n2, n3⟩ := h
      exact ⟨m1, m2, m3, ne, f _ (fun z => (z.1 x rfl).1 rfl) n1, f _ (fun z => (z.1 x rfl).2.1 rfl) n2, f _ (fun z => (z.1 x rfl).2.2 rfl) n3⟩
theorem tabs_upd {T : List (Addr × Str)} {H : Hp} {a : Addr} {o0 o : HO} (t : LamX.Tabs T H) (e : H a = some o0) (n1 : ∀ ps, o0 ≠ .tbl ps) (n2 : ∀ c q, o0 ≠ LamX.CodeO c q) : LamX.Tabs T (upd H a o) := fun p hp => by
  obtain ⟨ps, h1, h2, h3⟩ := t p hp
  have ne : p.1 ≠ a := fun z => by rw [z, e] at h1; exact n1 ps (Option.some.inj h1)
  refine ⟨ps, by rw [upd_ne ne]; exact h1, h2, fun pos cv hc => ?_⟩
  obtain ⟨c, e1, e2⟩ := h3 pos cv hc
  have nc : c ≠ a := fun z => by rw [z, e] at e2; exact n2 _ _ (Option.some.inj e2)
  exact ⟨c, e1, by rw [upd_ne nc]; exact e2⟩
theorem lst_code {xs : List V} (c : Addr) (q : Str) : HO.lst xs ≠ LamX.CodeO c q := fun z => by
  unfold LamX.CodeO at z
  cases z
theorem dk_code {xs : List (Key × V)} (c : Addr) (q : Str) : HO.dK xs ≠ LamX.CodeO c q := fun z => by
  unfold LamX.CodeO at z
  cases z
mutual
/-- v is the datum d, its objects in the part G of the heap or in the written part -/
inductive Dq (K : PySem.W.Frag) (G : Hp) (r : Option DA) : V → D → Prop
  | non : Dq K G r .non .none
  | bl (b : Bool) : Dq K G r (.bl b) (.bool b)
  | int (i : Int) : Dq K G r (.int i) (.int i)
  | str (x : Str) : Dq K G r (.str x) (.str x)
  | lst {a : Addr} {xs : List V} {ds : List D} : G a = some (.lst xs) → DqAll K G r xs ds → Dq K G r (.ref a) (.list ds)
  | tup {a : Addr} {xs : List V} {ds : List D} : SqT K G a xs → DqAll K G r xs ds → Dq K G r (.ref a) (.tuple ds)
  | drw {x : DA} : r = some x → Dq K G r (.ref x.d) (.dict [])
  | scr {a : Addr} {n : Int} {ns : List Int} : SqL K G a ((n :: ns).map V.int) → Dq K G r (.ref a) (.dict ((n :: ns).map fun n => (.int n, .none)))
  | scr0 {a : Addr} : SqL K G a [] → Dq K G r (.ref a) (.dict [(.none, .none)])
  | emp {a : Addr} : G a = some (.dK []) → Dq K G r (.ref a) (.dict [(.bool true, .none)])
  | fnv {a : Addr} {x : Str} : TabsC.fa x = some a → Dq K G r (.ref a) (.dict [(.bool false, .str x)])
inductive DqAll (K : PySem.W.Frag) (G : Hp) (r : Option DA) : List V → List D → Prop
  | nil : DqAll K G r [] []
  | cons {v : V} {vs : List V} {d : D} {ds : List D} : Dq K G r v d → DqAll K G r vs ds → DqAll K G r (v :: vs) (d :: ds)
end
section
variable {K : PySem.W.Frag} {G G' : Hp} {r r' : Option DA}
theorem SqT.more {a : Addr} {xs : List V} (g : Same G G') (h : SqT K G a xs) : SqT K G' a xs := by
  rcases h with (h | ⟨o, h⟩) | h
  · exact .inl (.inl (g _ _ h))
  · exact .inl (.inr ⟨o, g _ _ h⟩)
  · exact .inr h
mutual
theorem Dq.more (g : Same G G') (e : r = none ∨ r' = r) : ∀ (d : D) (v : V), Dq K G r v d → Dq K G' r' v d
  | .none, _, .non => .non
  | .bool _, _, .bl b => .bl b
  | .int _, _, .int i => .int i
  | .str _, _, .str x => .str x
  | .list ds, _, .lst h t => .lst (g _ _ h) (DqAll.more g e ds _ t)
  | .tuple ds, _, .tup h t => .tup (SqT.more g h) (DqAll.more g e ds _ t)
  | .dict _, _, .drw (x := x) hx => .drw (by
      rcases e with z | z
      · rw [z] at hx; cases hx
      · rw [z]; exact hx)
  | .dict _, _, .scr h => .scr (g.seq h)
  | .dict _, _, .scr0 h => .scr0 (g.seq h)
  | .dict _, _, .emp h => .emp (g _ _ h)
  | .dict _, _, .fnv h => .fnv h
theorem DqAll.more (g : Same G G') (e : r = none ∨ r' = r) : ∀ (ds : List D) (vs : List V), DqAll K G r vs ds → DqAll K G' r' vs ds
  | [], _, .nil => .nil
  | d :: ds, _, .cons h t => .cons (Dq.more g e d _ h) (DqAll.more g e ds _ t)
end
theorem DqAll.length : ∀ {vs : List V} {ds : List D}, DqAll K G r vs ds → vs.length = ds.length
  | _, _, .nil => rfl
  | _, _, .cons _ t => by rw [List.length_cons, List.length_cons, DqAll.length t]
theorem DqAll.get : ∀ {vs : List V} {ds : List D} {i : Nat} {d : D}, DqAll K G r vs ds → ds[i]? = some d → ∃ v, vs[i]? = some v ∧ Dq K G r v d
  | _, _, _, _, .nil, e => by simp at e
  | _, _, 0, _, .cons h t, e => by simp at e; subst e; exact ⟨_, rfl, h⟩
  | _, _, i + 1, d, .cons h t, e => by
    obtain ⟨v, h1, h2⟩ := DqAll.get (i := i) (d := d) t (by simpa using e)
    exact ⟨v, by simpa using h1, h2⟩
theorem DqAll.append : ∀ {vs ws : List V} {ds es : List D}, DqAll K G r vs ds → DqAll K G r ws es → DqAll K G r (vs ++ ws) (ds ++ es)
  | _, _, _, _, .nil, q => q
  | _, _, _, _, .cons h t, q => .cons h (DqAll.append t q)
theorem DqAll.drop : ∀ {vs : List V} {ds : List D} (n : Nat), DqAll K G r vs ds → DqAll K G r (vs.drop n) (ds.drop n)
  | _, _, 0, q => q
  | _, _, _ + 1, .nil => .nil
  | _, _, n + 1, .cons _ t => DqAll.drop n t
theorem DqAll.take : ∀ {vs : List V} {ds : List D} (n : Nat), DqAll K G r vs ds → DqAll K G r (vs.take n) (ds.take n)
  | _, _, 0, _ => .nil
  | _, _, _ + 1, .nil => .nil
  | _, _, n + 1, .cons h t => .cons h (DqAll.take n t)
theorem DqAll.rep {vs : List V} {ds : List D} (q : DqAll K G r vs ds) : ∀ k, DqAll K G r (List.replicate k vs).flatten (List.replicate k ds).flatten
  | 0 => .nil
  | k + 1 => by
    rw [List.replicate_succ, List.replicate_succ, List.flatten_cons, List.flatten_cons]
    exact q.append (q.rep k)
theorem DqAll.rev : ∀ {vs : List V} {ds : List D}, DqAll K G r vs ds → DqAll K G r vs.reverse ds.reverse
  | _, _, .nil => .nil
  | _, _, .cons h t => by
    rw [List.reverse_cons, List.reverse_cons]
    exact (DqAll.rev t).append (.cons h .nil)
theorem DqAll.cut {vs : List V} {ds : List D} (q : DqAll K G r vs ds) (lo hi : Option Int) : DqAll K G r (cutV vs lo hi) (cutA ds lo hi) := by
  unfold cutV cutA
  rw [q.length]
  exact (q.drop _).take _
theorem DqAll.at {vs : List V} {ds : List D} {i : Int} {d : D} (q : DqAll K G r vs ds) (e : atI ds i = some d) : ∃ v, atI vs i = some v ∧ Dq K G r v d := by
  unfold atI at e ⊢
  rw [q.length]
  cases h : ixN ds.length i with
  | none => rw [h] at e; cases e
  | some j =>
    rw [h] at e
    exact q.get e
theorem DqAll.ints : ∀ {vs : List V} {ds : List D} {is : List Int}, DqAll K G r vs ds → intsOf ds = some is → vs = is.map V.int
  | _, _, _, .nil, e => by
    simp [intsOf] at e
    subst e; rfl
  | _, _, is, .cons h t, e => by
    cases h with
    | int i =>
      simp only [intsOf, Option.map_eq_some_iff] at e
      obtain ⟨js, e1, rfl⟩ := e
      rw [DqAll.ints t e1]
      rfl
    | _ => simp [intsOf] at e
end

/-! ### what a run does to the heap -/
structure Nx (G : Hp) (r : Option DA) (H : Hp) (ds' : Option DS) (G' : Hp) (r' : Option DA) (H' : Hp) : Prop where
  g : Same G G'
  e : r = none ∨ r' = r
  h : ∀ b o, notDA r b → H b = some o → H' b = some o
  k : ∀ b, H b ≠ none → H' b ≠ none
  f : ∀ b, G' b ≠ none → G b ≠ none ∨ H b = none
  n : ∀ b, ¬ notDA r' b → ¬ notDA r b ∨ H b = none
  s : Same G' H'
  d : DrOk ds' G' r' H'
section
variable {ds ds1 ds2 : Option DS} {G G1 G2 H H1 H2 : Hp} {r r1 r2 : Option DA}
theorem Nx.refl (s : Same G H) (d : DrOk ds G r H) : Nx G r H ds G r H := ⟨Same.refl G, .inr rfl, fun _ _ _ e => e, fun _ e => e, fun _ e => .inl e, fun _ e => .inl e, s, d⟩
theorem notDA.trans (e : r = none ∨ r1 = r) {b : Addr} (n : ¬ notDA r b) : ¬ notDA r1 b := by
  rcases e with z | z
  · exact fun m => n ⟨fun x hx => (by rw [z] at hx; cases hx), m.2⟩
  · rw [z]; exact n
theorem Nx.trans (a : Nx G r H ds1 G1 r1 H1) (b : Nx G1 r1 H1 ds2 G2 r2 H2) : Nx G r H ds2 G2 r2 H2 where
  g := a.g.trans b.g
  e := by
    rcases a.e with z | z
    · exact .inl z
    · rcases b.e with y | y
      · exact .inl (by rw [← z]; exact y)
      · exact .inr (y.trans z)
  h := fun c o n e => by
    have e1 := a.h c o n e
    by_cases q : notDA r1 c
    · exact b.h c o q e1
    · rcases a.n c q with z | z
      · exact absurd n z
      · rw [e] at z; cases z
  k := fun c e => b.k c (a.k c e)
  f := fun c e => by
    rcases b.f c e with z | z
    · exact a.f c z
    · by_cases q : H c = none
      · exact .inr q
      · exact absurd z (a.k c q)
  n := fun c e => by
    rcases b.n c e with z | z
    · exact a.n c z
    · by_cases q : H c = none
      · exact .inr q
      · exact absurd z (a.k c q)
  s := b.s
  d := b.d
/-- a new object, taken up among the data -/
theorem Nx.new {p : Addr} {o : HO} (s : Same G H) (d : DrOk ds G r H) (n : H p = none) : Nx G r H ds (upd G p o) r (upd H p o) where
  g := fun b u e => by rw [upd_ne (ne_of_none (s _ _ e) n)]; exact e
  e := .inr rfl
  h := fun b u _ e => by rw [upd_ne (ne_of_none e n)]; exact e
  k := fun b e => by
    by_cases q : b = p
    · subst q; exact absurd n e
    · rw [upd_ne q]; exact e
  f := fun b e => by
    by_cases q : b = p
    · subst q; exact .inr n
    · rw [upd_ne q] at e; exact .inl e
  n := fun b e => .inl e
  s := fun b u e => by
    by_cases q : b = p
    · subst q; rw [upd_same] at e ⊢; exact e
    · rw [upd_ne q] at e ⊢; exact s _ _ e
  d := d.mono (fun b u _ e => by rw [upd_ne (ne_of_none e n)]; exact e) fun b e => by
    by_cases q : b = p
    · subst q; exact .inr n
    · rw [upd_ne q] at e; exact .inl e
/-- a new object that is not taken up -/
theorem Nx.apart {p : Addr} {o : HO} (s : Same G H) (d : DrOk ds G r H) (n : H p = none) : Nx G r H ds G r (upd H p o) where
  g := Same.refl G
  e := .inr rfl
  h := fun b u _ e => by rw [upd_ne (ne_of_none e n)]; exact e
  k := fun b e => by
    by_cases q : b = p
    · subst q; exact absurd n e
    · rw [upd_ne q]; exact e
  f := fun b e => .inl e
  n := fun b e => .inl e
  s := fun b u e => by rw [upd_ne (ne_of_none (s _ _ e) n)]; exact s _ _ e
  d := d.mono (fun b u _ e => by rw [upd_ne (ne_of_none e n)]; exact e) fun b e => .inl e
end

/-- a list's operand: its object may be one's own -/
def DqL (K : PySem.W.Frag) (G : Hp) (r : Option DA) (H : Hp) (v : V) (ds : List D) : Prop := ∃ a xs, v = .ref a ∧ H a = some (.lst xs) ∧ DqAll K G r xs ds ∧ notDA r a
def DqO (K : PySem.W.Frag) (G : Hp) (r : Option DA) (H : Hp) (v : V) (d : D) : Prop := Dq K G r v d ∨ ∃ ds, d = .list ds ∧ DqL K G r H v ds
/-- the state of a def's run: its slots σ are the environment's data; the slots in own hold lists that nobody else holds -/
structure Sim (K : PySem.W.Frag) (O : List Nat) (env : Env) (ds : Option DS) (G : Hp) (r : Option DA) (σ : St) (H : Hp) : Prop where
  sub : Same G H
  len : σ.length = env.length
  var : ∀ i d, i ∉ O → env[i]? = some (some d) → ∃ v, σ[i]? = some (some v) ∧ Dq K G r v d
  own : ∀ i d, i ∈ O → env[i]? = some (some d) → ∃ a xs ds, d = .list ds ∧ σ[i]? = some (some (V.ref a)) ∧ H a = some (.lst xs) ∧ DqAll K G r xs ds ∧ notDA r a ∧ G a = none
  sep : ∀ (i j : Nat) (a : Addr), i ∈ O → j ∈ O → i ≠ j → σ[i]? = some (some (V.ref a)) → σ[j]? = some (some (V.ref a)) → env[i]? = some none ∨ env[j]? = some none
  drw : DrOk ds G r H
section
variable {K : PySem.W.Frag} {own : List Nat} {env : Env} {ds ds1 : Option DS} {G G1 H H1 : Hp} {r r1 : Option DA} {σ : St}
theorem Nx.notDA (a : Nx G r H ds1 G1 r1 H1) {b : Addr} {o : HO} (n : Ev.notDA r b) (e : H b = some o) : Ev.notDA r1 b := by
  refine Classical.byContradiction fun q => ?_
  rcases a.n b q with z | z
  · exact z n
  · rw [e] at z; cases z
theorem Nx.sim (a : Nx G r H ds1 G1 r1 H1) (S : Sim K own env ds G r σ H) : Sim K own env ds1 G1 r1 σ H1 where
  sub := a.s
  len := S.len
  var := fun i d hi e => by
    obtain ⟨v, h1, h2⟩ := S.var i d hi e
    exact ⟨v, h1, h2.more a.g a.e⟩
  own := fun i d hi e => by
    obtain ⟨b, xs, es, e1, e2, e3, e4, e5, e6⟩ := S.own i d hi e
    refine ⟨b, xs, es, e1, e2, a.h b _ e5 e3, e4.more a.g a.e, a.notDA e5 e3, ?_⟩
    cases q : G1 b with
    | none => rfl
    | some u =>
      rcases a.f b (by rw [q]; simp) with z | z
      · exact absurd e6 z
      · rw [e3] at z; cases z
  sep := S.sep
  drw := a.d
theorem DqL.more {v : V} {es : List D} (h : DqL K G r H v es) (a : Nx G r H ds1 G1 r1 H1) : DqL K G1 r1 H1 v es := by
  obtain ⟨b, xs, e1, e2, e3, e4⟩ := h
  exact ⟨b, xs, e1, a.h b _ e4 e2, e3.more a.g a.e, a.notDA e4 e2⟩
theorem DqO.more {v : V} {d : D} (h : DqO K G r H v d) (a : Nx G r H ds1 G1 r1 H1) : DqO K G1 r1 H1 v d := by
  rcases h with h | ⟨es, e, h⟩
  · exact .inl (h.more a.g a.e)
  · exact .inr ⟨es, e, h.more a⟩
theorem DqO.list {v : V} {es : List D} (h : DqO K G r H v (.list es)) (s : Same G H) (d : DrOk ds G r H) : DqL K G r H v es := by
  rcases h with h | ⟨fs, e, h⟩
  · cases h with
    | lst e q => exact ⟨_, _, rfl, s _ _ e, q, d.apart e⟩
  · cases e; exact h
mutual
theorem Dq.dp (s : Same G H) : ∀ (d : D) (v : V), Dq K G r v d → d.hasDict = false → Dp K H v d
  | .none, _, .non, _ => .non
  | .bool _, _, .bl b, _ => .bl b
  | .int _, _, .int i, _ => .int i
  | .str _, _, .str x, _ => .str x
  | .list es, _, .lst h t, n => .lst (.inl (.inl (s _ _ h))) (DqAll.dp s es _ t (by simpa [PyData.hasDict] using n))
  | .tuple es, _, .tup h t, n => .tup (SqT.more s h) (DqAll.dp s es _ t (by simpa [PyData.hasDict] using n))
  | .dict _, _, _, n => by simp [PyData.hasDict] at n
theorem DqAll.dp (s : Same G H) : ∀ (es : List D) (vs : List V), DqAll K G r vs es → PyData.hasDictAll es = false → DpAll K H vs es
  | [], _, .nil, _ => .nil
  | d :: es, _, .cons h t, n => by
    have n' : d.hasDict = false ∧ PyData.hasDictAll es = false := by simpa [PyData.hasDictAll] using n
    exact .cons (Dq.dp s d _ h n'.1) (DqAll.dp s es _ t n'.2)
end
theorem DqO.dp {v : V} {d : D} (h : DqO K G r H v d) (s : Same G H) (n : d.hasDict = false) : Dp K H v d := by
  rcases h with h | ⟨es, e, b, xs, e1, e2, e3, _⟩
  · exact h.dp s d v n
  · subst e e1
    exact .lst (.inl (.inl e2)) (e3.dp s es xs (by simpa [PyData.hasDict] using n))
end
end Ev

end
section
set_option maxHeartbeats 4000000
/-! # Ev2: constructs one by one: what the evaluator answers, the model answers -/
namespace Ev
open PySem PySem.Spec L2
variable [TabsC]

/-! ### what is known of a def's body from its text -/
structure Cz where
  N : List Str
  sc : Scope
  fnn : Str → Bool
  fns : List (Str × List Str × List (Nat × List Nat))
  cns : List Str
  gcd : Bool
  own : List Nat
  lam : Bool
  xcs : List (Str × Option Str)
  hns : List HDef
def vis (C : Cz) (x : Str) : Bool := match C.sc.names.lookup x with
  | some .local => true
  | some .cell => true
  | some .free => true
  | _ => false
def loc (C : Cz) (x : Str) : Bool := match C.sc.names.lookup x with
  | some .local => true
  | some .cell => C.fnn x
  | _ => false
def gl (C : Cz) (x : Str) : Bool := match C.sc.names.lookup x with
  | some .globalImplicit => true
  | _ => false
def dn (x : Str) : Bool := !(x == ("__debug__" : Str)) && !(x == ("__classdict__" : Str))
def nmV (C : Cz) (i : Nat) (x : Str) : Bool := decide (C.N[i]? = some x) && (vis C x && dn x)
def nmL (C : Cz) (i : Nat) (x : Str) : Bool := decide (C.N[i]? = some x) && loc C x
def nst : Expr → Bool
  | .Starred _ _ => false
  | _ => true
def plx : Expr → Bool
  | .Slice _ _ _ _ => false
  | _ => true
/-! ### the look at a suite -/
def mHe (C : Cz) (n : Option Nat) (hc : Str) : He → Expr → Bool
  | .k x, e => match e with
    | .Constant (.str y) _ _ => decide (x = y)
    | _ => false
  | .fld f, e => match e with
    | .Attribute (.Name y _) g _ => decide (f = g) && ((match n with | some j => nmV C j y | none => false) && C.xcs.contains (hc, some f))
    | _ => false
  | .isi d, e => match e with
    | .Call (.Name l _) [.Name y _, .Name d' _] [] _ => decide (l = "isinstance") && (gl C l && (decide (d' = d) && (gl C d && ((match n with | some j => nmV C j y | none => false) && C.xcs.any fun p => decide (p.1 = d)))))
    | _ => false
def mHes (C : Cz) (n : Option Nat) (hc : Str) : List He → List Expr → Bool
  | [], [] => true
  | h :: hs, e :: es => mHe C n hc h e && mHes C n hc hs es
  | _, _ => false
def kD : D → Const → Bool
  | .none, .none => true
  | .bool b, .bool c => b == c
  | .str x, .str y => decide (x = y)
  | _, _ => false
def mHv (C : Cz) (n : Option Nat) (hc : Str) : Hv → Expr → Bool
  | .tup hs, e => match e with
    | .Tuple es _ _ => mHes C n hc hs es && decide (hs.length < 100)
    | _ => false
  | .k d, e => match e with
    | .Constant c _ _ => kD d c
    | _ => false
  | .ife d a b, e => match e with
    | .IfExp t (.Constant ca _ _) _ _ => mHe C n hc (.isi d) t && kD a ca
    | _ => false
def mSu (C : Cz) (n : Option Nat) (hc : Str) : Su → List Stmt → Bool
  | .set i v, ss => match ss with
    | [.Assign [.Name x _] e _] => decide (C.N[i]? = some x) && (loc C x && (mHv C n hc v e && (decide (n ≠ some i) && !(C.own.contains i))))
    | _ => false
  | .ret d, ss => match ss with
    | [.Return (some (.Constant c _ _)) _] => kD d c
    | _ => false
def mHd (C : Cz) (h : Hd) : ExceptHandler → Bool
  | .ExceptHandler (some (.Name x _)) y ss _ => decide (x = h.c) && (gl C x && ((C.xcs.any fun p => decide (p.1 = x)) && ((match h.n, y with
    | none, none => true
    | some j, some y => decide (C.N[j]? = some y) && (decide (C.sc.names.lookup y = some .local) && !(C.own.contains j))
    | _, _ => false) && mSu C h.n h.c h.su ss)))
  | _ => false
def mHds (C : Cz) : List Hd → List ExceptHandler → Bool
  | [], [] => true
  | h :: hs, e :: es => mHd C h e && mHds C hs es
  | _, _ => false

def scB (N ps : List Str) (sc : Scope) : Bool := (sc.kind == .function) && (!sc.isCoroutine && (!sc.isGenerator && (decide N.Nodup && (decide (N.take ps.length = ps) && (ps.all (fun x => sc.names.lookup x == some .local || sc.names.lookup x == some .cell) && sc.names.all fun y => y.2 != .free)))))
theorem scB_ok {N ps : List Str} {sc : Scope} (h : scB N ps sc = true) : FnScope N ps sc := by
  simp only [scB, Bool.and_eq_true, decide_eq_true_eq, Bool.not_eq_true', List.all_eq_true, Bool.or_eq_true, beq_iff_eq, bne_iff_ne] at h
  obtain ⟨h1, h2, h3, h4, h5, h6, h7⟩ := h
  exact ⟨h1, h2, h3, h4, h5, h6, h7⟩
/-! ### a hearing def's text -/
def mWr (C : Cz) : Wr → Expr → Bool
  | .tup x, e => match e with
    | .Tuple [.Constant (.str y) _ _, .Call (.Name a _) [] [] _] _ _ => decide (x = y) && nmV C 0 a
    | _ => false
  | .lst, e => match e with
    | .List [.Call (.Name a _) [] [] _] _ => nmV C 0 a
    | _ => false
def mHr (C : Cz) (h : HDef) : List Stmt → Bool
  | [.Try [.Assign [.Name r _] e _] (e1 :: es) [] [] _, .Return (some (.Name r2 _)) _] => decide (C.N[1]? = some r) && (loc C r && (decide (r2 = r) && (nmV C 1 r && (mWr C h.wr e && (mHds C h.hs (e1 :: es) && h.hs.all fun d => match d.su with | .set i _ => decide (i = 1) | _ => false)))))
  | _ => false
def mHear (C : Cz) (h : HDef) (ss : List Stmt) : Bool := if h.pre then (match ss with
    | .Assign [.Name r _] (.Constant .none _ _) _ :: ss => decide (C.N[1]? = some r) && (loc C r && mHr C h ss)
    | _ => false) else mHr C h ss
/-- the look at a hearing def -/
def hcz (h : HDef) (sc : Scope) (xcs : List (Str × Option Str)) : Cz := ⟨h.N, sc, fun _ => true, [], [], false, [], false, xcs, []⟩
def ckH (h : HDef) (xcs : List (Str × Option Str)) (st : Stmt) : Bool := scB h.N (h.N.take 1) (defScope st) && (decide (1 < h.N.length) && mHear (hcz h (defScope st) xcs) h (defBody st))
/-! ### exceptions -/
/-- the fields of an error, as its dict has them -/
def FsR (K : PySem.W.Frag) (G : Hp) (r : Option DA) (vs : List (Str × V)) (fs : List (Str × D)) : Prop := vs.map (·.1) = fs.map (·.1) ∧ DqAll K G r (vs.map (·.2)) (fs.map (·.2))
/-- the error, its class, its dict -/
def ExV (K : PySem.W.Frag) (mg : Str → Option Value) (G : Hp) (r : Option DA) (H : Hp) : Ex → Value → Option Addr → Prop
  | .mk c fs, cls, d => (∃ o, (c, o) ∈ TabsC.xcs ∧ o = (fs.map (·.1)).head? ∧ fs.length ≤ 1) ∧ (∃ C : Addr, mg c = some (.ref C) ∧ cls = .ref C) ∧ match fs with
    | [] => d = none
    | fs => ∃ (dd : Addr) (vs : List (Str × V)), d = some dd ∧ H dd = some (.xd vs) ∧ FsR K G r vs fs
/-- the least that a context's wish takes -/
def wXp (X : Cx) : WX := fun cls d σ H => ∀ (u : Value) (s' : Shared), XE X (fun c e τ G => c = cls ∧ e = d ∧ τ = σ ∧ G = H) u s' → X.xe u s'
theorem takes_wX {X : Cx} : Takes X (wXp X) := fun u s' x => by
  obtain ⟨a, B, sI, ps, z, G, cls, d, e1, e2, e3, e4, e5, e6, e7, e8, w⟩ := x
  exact w u s' ⟨a, B, sI, ps, z, G, cls, d, e1, e2, e3, e4, e5, e6, e7, e8, rfl, rfl, rfl, rfl⟩
theorem le_wX {X : Cx} {W : WX} (tk : Takes X W) {cls : Value} {d : Option Addr} {σ : St} {H : Hp} (w : W cls d σ H) : wXp X cls d σ H := fun u s' x => by
  obtain ⟨a, B, sI, ps, z, G, c, e, e1, e2, e3, e4, e5, e6, e7, e8, rfl, rfl, rfl, rfl⟩ := x
  exact tk u s' ⟨a, B, sI, ps, _, _, _, _, e1, e2, e3, e4, e5, e6, e7, e8, w⟩
/-- what is wanted of an exception -/
def EX (X : Cx) (σ : St) (G : Hp) (r : Option DA) (H : Hp) : Ex → Option DS → Prop := fun x ds' => ∀ cls d G' r' H', Nx G r H ds' G' r' H' → ExV X.K X.mg G' r' H' x cls d → wXp X cls d σ H'
theorem EX.up {X : Cx} {σ : St} {G G1 H H1 : Hp} {r r1 : Option DA} {ds1 : Option DS} (n : Nx G r H ds1 G1 r1 H1) : ∀ x s, EX X σ G r H x s → EX X σ G1 r1 H1 x s := fun x s h cls d G' r' H' n' v => h cls d G' r' H' (n.trans n') v
theorem wpX_mono {α : Type} {E E' : Ex → Option DS → Prop} {r : R α} {Q Q' : α → Option DS → Prop} (h : wpX E r Q) (i : ∀ a s, Q a s → Q' a s) (j : ∀ x s, E x s → E' x s := by first | exact fun _ _ h => h | exact fun _ _ _ => trivial | (apply EXs.to; assumption) | (apply EX.up; assumption) | (apply EX.up; apply Nx.trans <;> assumption) | exact fun _ _ h => False.elim h) : wpX E' r Q' := by
  unfold wpX at *
  cases r with
  | ok a s => exact i _ _ h
  | exc x s => exact j _ _ h
  | stuck => exact h
/-- a def that may be called -/
structure FnG (P : Program) (w : World) (K : PySem.W.Frag) (mg : Str → Option Value) (base : Heap) (k : Nat) (f : Addr) (fd : FuncData) (fn : Fn) : Prop where
  run : ∀ (A : Around) (outer : List PySem.Env) (s : Shared) (H : Hp) (args : Args) (us : List Value) (vs : List V) (Q : VK) (E : XK) (xs : List D) (ds : Option DS) (G : Hp) (r : Option DA),
    Room k A → A.guards = some [] → Env0 P w K mg base A outer s H → BindsTo s fd args (fn.ps.zip us) → Vals vs us → xs.length = fn.ps.length → Same G H → DrOk ds G r H → DqAll K G r vs xs →
    wpX (fun x ds' => ∀ cls d G' r' H', Nx G r H ds' G' r' H' → ExV K mg G' r' H' x cls d → E cls d H') (fn.m xs ds) (fun d ds' => ∀ v G' r' H', Nx G r H ds' G' r' H' → Dq K G' r' v d → Q v H') →
    codeAny (model P w) A (.call (.ref f) args) (fun res s' => match res with
      | .ok (.ret u) => CE outer P w H s Q u s'
      | .error e => CX P w outer H s E e s'
      | _ => False) s
/-- how calls of it bind: by place, by the names that are told -/
structure FnB (K : PySem.W.Frag) (fd : FuncData) (fn : Fn) : Prop where
  pos : ∀ (s : Shared) (us : List Value), us.length = fn.ps.length → BindsTo s fd ⟨us, []⟩ (fn.ps.zip us)
  kw : ∀ (n : Nat) (js : List Nat), (n, js) ∈ fn.kws → ∀ (s : Shared) (us ws as : List Value), us.length = n → ws.length = js.length → argsOf fn.ps.length us (js.zip ws) = some as →
    BindsTo s fd ⟨us, (js.map fun j => fn.ps.getD j "").zip ws⟩ (fn.ps.zip as)
structure FnH (X : Cx) (fn : Fn) : Prop where
  ex : ∃ k f fd, Room k X.A ∧ FnG X.prog X.w X.K X.mg X.base k f fd fn ∧ FnB X.K fd fn ∧ X.mg fn.name = some (.ref f) ∧ PySem.W.keepIn X.K (.ref f) = true
def bnames : List Str := ["abs", "int", "len", "list", "tuple", "max", "min", "sum", "repr", "isinstance", "range", "zip", "enumerate", "bool", "str", "sorted", "set", "super"]
/-- what is known of the errors' classes -/
structure XcF (P : Program) (K : PySem.W.Frag) (mg : Str → Option Value) (p : Str × Option Str) (C : Addr) : Prop where
  ad : mg p.1 = some (.ref C)
  dbg : (p.1 == ("__debug__" : Str)) = false
  isf : EvX.IsF K C
  xf : XfC K C
  no : ∀ f, p.2 = some f → PySem.W.findIn K (.ref C) f = some none
  ini : ∀ f, p.2 = some f → ∃ (fI : Addr) (fd : FuncData) (q : Str), EvX.IniF P K mg C fI fd q f ∧ PySem.W.findIn K (.ref C) "__init__" = some (some (.ref fI)) ∧ PySem.W.typeIn K (.ref fI) = some (.type "function") ∧
    ∀ u v : Value, bindArgs fd ⟨[u, v], []⟩ = pure ([("self", u), (q, v)] : List (Str × Value))
  out : ∀ q ∈ TabsC.xcs, ∀ C' : Addr, mg q.1 = some (.ref C') → PySem.W.exmOne K (.ref C) (.ref C') = some (subc p.1 q.1) ∧ PySem.W.kitOne K (.ref C) (.ref C') = some (subc p.1 q.1)
/-- a hearing def -/
structure HdF (K : PySem.W.Frag) (mg : Str → Option Value) (h : HDef) : Prop where
  ex : ∃ (g : Addr) (fd : FuncData) (st : Stmt) (xcs : List (Str × Option Str)), mg h.name = some (.ref g) ∧ PySem.W.keepIn K (.ref g) = true ∧ Fun K h.name h.name st g fd ∧ L2.Binds K fd (h.N.take 1) [] ∧ ckH h xcs st = true ∧ ∀ p ∈ xcs, p ∈ TabsC.xcs
/-- the context is such a def's body, or a comprehension's block within it -/
structure XOk (C : Cz) (T : Tb) (X : Cx) : Prop where
  N : X.N = C.N
  nd : C.N.Nodup
  sc : X.env.scope = C.sc
  calm : X.calm = true
  po : PassesOwn (model X.prog X.w) X.A X.env X.xe
  fnn : ∀ x, C.fnn x = true → X.fn x = true
  grd : X.A.guards = some []
  room : Room 0 X.A
  fns : C.fns = T.fs.map fun f => (f.name, f.ps, f.kws)
  cns : C.cns = T.cs.map (·.1)
  bl : ∀ x ∈ bnames, X.mg x = none
  gcd : C.gcd = true → X.mg "gcd" = some (.builtin "math.gcd")
  cs : ∀ (i : Nat) (x : Str) (d : D), T.cs[i]? = some (x, d) → ∃ u v, X.mg x = some u ∧ RelV v u ∧ ∀ G r, Dq X.K G r v d
  fs : ∀ (j : Nat) (f : Fn), T.fs[j]? = some f → FnH X f
  fa : ∀ x a, TabsC.fa x = some a ↔ X.mg x = some (.ref a)
  xcs : ∀ p ∈ C.xcs, p ∈ TabsC.xcs
  xc : ∀ p ∈ TabsC.xcs, ∃ C : Addr, XcF X.prog X.K X.mg p C
  room2 : C.xcs ≠ [] → Room 2 X.A ∧ X.stack = X.env :: X.outer ∧ X.env.frame = some X.env.locals
  hns : C.hns = T.hs
  hs : ∀ h ∈ T.hs, HdF X.K X.mg h
  lam : C.lam = true → Room 4 X.A ∧ (∃ c P, X.env.code = .ref c ∧ LamX.TabB X.base X.mg c P ∧ (P, X.env.qual ++ "<lambda>") ∈ TabsC.tabs ∧ ∀ p ∈ TabsC.tabs, p.1 = P → p.2 = X.env.qual ++ "<lambda>") ∧
    ∀ (j : Nat) (f : Fn), T.fs[j]? = some f → ∃ k a fd, Room (k + 4) X.A ∧ FnG X.prog X.w X.K X.mg X.base k a fd f ∧ FnB X.K fd f ∧ X.mg f.name = some (.ref a) ∧ PySem.W.keepIn X.K (.ref a) = true

/-! ### judgements -/
section
variable (C : Cz) (X : Cx)
def SE (x : Expr) (f : Env → M D) : Prop := ∃ t : TE, PE X x t ∧ ∀ (env : Env) (ds : Option DS) (G : Hp) (r : Option DA) (σ : St) (H : Hp) (Q : VK), Sim X.K C.own env ds G r σ H →
  wpX (EX X σ G r H) (f env ds) (fun d ds' => ∀ v G' r' H', Nx G r H ds' G' r' H' → Dq X.K G' r' v d → Q v H') → t σ H Q
def SO (x : Expr) (f : Env → M D) : Prop := ∃ t : TE, PE X x t ∧ ∀ (env : Env) (ds : Option DS) (G : Hp) (r : Option DA) (σ : St) (H : Hp) (Q : VK), Sim X.K C.own env ds G r σ H →
  wpX (EX X σ G r H) (f env ds) (fun d ds' => ∀ v G' r' H', Nx G r H ds' G' r' H' → DqO X.K G' r' H' v d → Q v H') → t σ H Q
/-- a new list -/
def SR (x : Expr) (f : Env → M D) : Prop := ∃ t : TE, PE X x t ∧ ∀ (env : Env) (ds : Option DS) (G : Hp) (r : Option DA) (σ : St) (H : Hp) (Q : VK), Sim X.K C.own env ds G r σ H →
  wpX (EX X σ G r H) (f env ds) (fun d ds' => ∃ es, d = .list es ∧ ∀ p ys G' r' H', Nx G r H ds' G' r' H' → H' p = none → DqAll X.K G' r' ys es → Q (.ref p) (upd H' p (.lst ys))) → t σ H Q
def ST (x : Expr) (f : Env → M Bool) : Prop := ∃ t : TT, PT X x t ∧ ∀ (env : Env) (ds : Option DS) (G : Hp) (r : Option DA) (σ : St) (H : Hp) (Q : Bool → Hp → Prop), Sim X.K C.own env ds G r σ H →
  wpX (EX X σ G r H) (f env ds) (fun b ds' => ∀ G' r' H', Nx G r H ds' G' r' H' → Q b H') → t σ H Q
def SA (xs : List Expr) (f : Env → M (List D)) : Prop := ∃ t : TA, PA X xs t ∧ ∀ (env : Env) (ds : Option DS) (G : Hp) (r : Option DA) (σ : St) (H : Hp) (Q : List V → Hp → Prop), Sim X.K C.own env ds G r σ H →
  wpX (EX X σ G r H) (f env ds) (fun es ds' => ∀ vs G' r' H', Nx G r H ds' G' r' H' → DqAll X.K G' r' vs es → Q vs H') → t σ H Q
inductive DqOs (K : PySem.W.Frag) (G : Hp) (r : Option DA) (H : Hp) : List V → List D → Prop
  | nil : DqOs K G r H [] []
  | cons {v : V} {vs : List V} {d : D} {ds : List D} : DqO K G r H v d → DqOs K G r H vs ds → DqOs K G r H (v :: vs) (d :: ds)
def SAO (xs : List Expr) (f : Env → M (List D)) : Prop := ∃ t : TA, PA X xs t ∧ ∀ (env : Env) (ds : Option DS) (G : Hp) (r : Option DA) (σ : St) (H : Hp) (Q : List V → Hp → Prop), Sim X.K C.own env ds G r σ H →
  wpX (EX X σ G r H) (f env ds) (fun es ds' => ∀ vs G' r' H', Nx G r H ds' G' r' H' → DqOs X.K G' r' H' vs es → Q vs H') → t σ H Q
/-- a keyword list: the values in order, with the places that they are for -/
def SK (ks : List Keyword) (js : List Nat) (f : Env → M (List (Nat × D))) : Prop := ∃ t : TA, PK X ks t ∧ ∀ (env : Env) (ds : Option DS) (G : Hp) (r : Option DA) (σ : St) (H : Hp) (Q : List V → Hp → Prop), Sim X.K C.own env ds G r σ H →
  wpX (EX X σ G r H) (f env ds) (fun kv ds' => ∃ es, kv = js.zip es ∧ es.length = js.length ∧ ∀ vs G' r' H', Nx G r H ds' G' r' H' → DqAll X.K G' r' vs es → Q vs H') → t σ H Q
end
section
variable {C : Cz} {T : Tb} {X : Cx} {x y z : Expr} {f g h : Env → M D} {pos : Pos}
theorem SE.o (a : SE C X x f) : SO C X x f := by
  obtain ⟨t, p, q⟩ := a
  exact ⟨t, p, fun env ds G r σ H Q S w => q env ds G r σ H Q S (wpX_mono w fun d ds' k v G' r' H' n e => k v G' r' H' n (.inl e))⟩
theorem SR.e (a : SR C X x f) (hf : ∀ env ds, wpX ExT (f env ds) (fun _ _ => True) → wpX ExT (f env ds) fun d _ => ∃ es, d = .list es) : SE C X x f := by
  obtain ⟨t, p, q⟩ := a
  refine ⟨t, p, fun env ds G r σ H Q S w => q env ds G r σ H Q S ?_⟩
  have w2 := hf env ds (wpX_mono w fun _ _ _ => trivial)
  rcases wpX_cases w with ⟨d, ds', e, k⟩ | ⟨x, ds', e, k⟩
  · rw [e] at w2 ⊢
    obtain ⟨es, rfl⟩ := w2
    refine ⟨es, rfl, fun p ys G' r' H' n hp hq => ?_⟩
    have n2 := Nx.new (o := .lst ys) n.s n.d hp
    exact k _ _ _ _ (n.trans n2) (.lst upd_same (hq.more n2.g n2.e))
  · rw [e]; exact k
theorem getv_some {env : Env} {i : Nat} {d : D} (h : getv env i = some d) : env[i]? = some (some d) := by
  unfold getv at h
  split at h
  · rename_i d' e; rw [e]; cases h; rfl
  · cases h
theorem Sim.get {K : PySem.W.Frag} {O : List Nat} {env : Env} {ds : Option DS} {G H : Hp} {r : Option DA} {σ : St} (S : Sim K O env ds G r σ H) {i : Nat} {d : D} (h : getv env i = some d) : ∃ v, σ[i]? = some (some v) ∧ DqO K G r H v d := by
  have e := getv_some h
  by_cases hi : i ∈ O
  · obtain ⟨a, xs, es, e1, e2, e3, e4, e5, e6⟩ := S.own i d hi e
    exact ⟨.ref a, e2, .inr ⟨es, e1, a, xs, rfl, e3, e4, e5⟩⟩
  · obtain ⟨v, h1, h2⟩ := S.var i d hi e
    exact ⟨v, h1, .inl h2⟩
theorem nmV_ok {i : Nat} {n : Str} (h : XOk C T X) (m : nmV C i n = true) : PE X (.Name n pos) (tVar i) := by
  simp only [nmV, Bool.and_eq_true, decide_eq_true_eq] at m
  obtain ⟨m1, m2, m3⟩ := m
  have hv : Vis X.env.scope n := by
    rw [h.sc]
    unfold vis at m2
    unfold Vis
    split at m2
    · exact .inl (by assumption)
    · exact .inr (.inl (by assumption))
    · exact .inr (.inr (by assumption))
    · cases m2
  simp only [dn, Bool.and_eq_true, Bool.not_eq_true'] at m3
  exact pe_var (by rw [h.N]; exact m1) hv m3.1 m3.2
theorem so_v {i : Nat} {n : Str} (h : XOk C T X) (m : nmV C i n = true) : SO C X (.Name n pos) fun env => lft (getv env i) := by
  refine ⟨tVar i, nmV_ok h m, fun env ds G r σ H Q S w => ?_⟩
  obtain ⟨d, e, k⟩ := wpX_lft w
  obtain ⟨v, h1, h2⟩ := S.get e
  exact ⟨v, h1, k v G r H (Nx.refl S.sub S.drw) h2⟩
theorem se_v {i : Nat} {n : Str} (h : XOk C T X) (m : nmV C i n = true) (o : i ∉ C.own) : SE C X (.Name n pos) fun env => lft (getv env i) := by
  refine ⟨tVar i, nmV_ok h m, fun env ds G r σ H Q S w => ?_⟩
  obtain ⟨d, e, k⟩ := wpX_lft w
  obtain ⟨v, h1, h2⟩ := S.var i d o (getv_some e)
  exact ⟨v, h1, k v G r H (Nx.refl S.sub S.drw) h2⟩
theorem se_k {d : D} {v : V} (p : PE X x (tC v)) (q : ∀ G r, Dq X.K G r v d) : SE C X x fun _ => ret d :=
  ⟨tC v, p, fun env ds G r σ H Q S w => wpX_ret w v G r H (Nx.refl S.sub S.drw) (q G r)⟩
theorem gl_ok {n : Str} (h : XOk C T X) (m : gl C n = true) : Gl X n := by
  unfold gl at m
  show X.env.scope.names.lookup n = _
  rw [h.sc]
  split at m
  · assumption
  · cases m
theorem se_g {i : Nat} {n : Str} (h : XOk C T X) (m : decide (C.cns[i]? = some n) = true) (m2 : gl C n = true) (m3 : dn n = true) : SE C X (.Name n pos) fun _ => lft ((T.cs[i]?).map (·.2)) := by
  have e := of_decide_eq_true m
  rw [h.cns, List.getElem?_map] at e
  cases q : T.cs[i]? with
  | none => rw [q] at e; cases e
  | some p =>
    obtain ⟨a, d⟩ := p
    rw [q] at e
    have ea : a = n := by simpa using e
    subst ea
    obtain ⟨u, v, h1, h2, h3⟩ := h.cs i a d q
    simp only [dn, Bool.and_eq_true, Bool.not_eq_true'] at m3
    exact se_k (pe_glob (gl_ok h m2) h1 h2 m3.1) h3

/-! ### operators -/
abbrev RH (X : Cx) (r2 : R2) (g : D → D → Option D) : Prop := ∀ {a b d : D} {v u : V} {ds : Option DS} {G H : Hp} {r : Option DA} {Q : VK}, Same G H → DrOk ds G r H → DqO X.K G r H v a → DqO X.K G r H u b → g a b = some d →
  (∀ v' G' r' H', Nx G r H ds G' r' H' → Dq X.K G' r' v' d → Q v' H') → r2 v u H Q
theorem seq2 {r2 : R2} {k : D → D → Option D} {ta tb : TE} (hr : RH X r2 k)
    (qa : ∀ (env : Env) (ds : Option DS) (G : Hp) (r : Option DA) (σ : St) (H : Hp) (Q : VK), Sim X.K C.own env ds G r σ H → wpX (EX X σ G r H) (f env ds) (fun d ds' => ∀ v G' r' H', Nx G r H ds' G' r' H' → DqO X.K G' r' H' v d → Q v H') → ta σ H Q)
    (qb : ∀ (env : Env) (ds : Option DS) (G : Hp) (r : Option DA) (σ : St) (H : Hp) (Q : VK), Sim X.K C.own env ds G r σ H → wpX (EX X σ G r H) (g env ds) (fun d ds' => ∀ v G' r' H', Nx G r H ds' G' r' H' → DqO X.K G' r' H' v d → Q v H') → tb σ H Q)
    (env : Env) (ds : Option DS) (G : Hp) (r : Option DA) (σ : St) (H : Hp) (Q : VK) (S : Sim X.K C.own env ds G r σ H)
    (w : wpX (EX X σ G r H) (bnd (f env) (fun a => bnd (g env) fun b => lft (k a b)) ds) (fun d ds' => ∀ v G' r' H', Nx G r H ds' G' r' H' → Dq X.K G' r' v d → Q v H')) : tOp r2 ta tb σ H Q := by
  refine qa env ds G r σ H _ S (wpX_mono (wpX_bnd.mp w) fun a ds1 w1 v G1 r1 H1 n1 h1 => ?_)
  refine qb env ds1 G1 r1 σ H1 _ (n1.sim S) (wpX_mono (wpX_bnd.mp w1) fun b ds2 w2 u G2 r2 H2 n2 h2 => ?_)
  obtain ⟨d, e, w3⟩ := wpX_lft w2
  exact hr n2.s n2.d (h1.more n2) h2 e fun v' G' r' H' n3 h3 => w3 v' G' r' H' ((n1.trans n2).trans n3) h3
theorem se_op {op : Operator} {r2 : R2} {k : D → D → Option D} (ho : OpR X (binaryOp op) r2) (hr : RH X r2 k) (a : SO C X x f) (b : SO C X y g) : SE C X (.BinOp x op y pos) fun env => bnd (f env) fun a => bnd (g env) fun b => lft (k a b) := by
  obtain ⟨ta, pa, qa⟩ := a
  obtain ⟨tb, pb, qb⟩ := b
  exact ⟨tOp r2 ta tb, pe_op ho pa pb, seq2 hr qa qb⟩
theorem se_cmp {op : CmpOp} {r2 : R2} {k : D → D → Option D} (ho : OpR X (compareOp op) r2) (hr : RH X r2 k) (hm : behindInMarks op y = false) (a : SO C X x f) (b : SO C X y g) :
    SE C X (.Compare x [op] [y] pos) fun env => bnd (f env) fun a => bnd (g env) fun b => lft (k a b) := by
  obtain ⟨ta, pa, qa⟩ := a
  obtain ⟨tb, pb, qb⟩ := b
  exact ⟨tOp r2 ta tb, pe_cmpR ho pa pb hm, seq2 hr qa qb⟩
theorem se_ix {r2 : R2} {k : D → D → Option D} (ho : IxR X r2) (hr : RH X r2 k) (hp : PlainIx y) (a : SO C X x f) (b : SO C X y g) : SE C X (.Subscript x y pos) fun env => bnd (f env) fun a => bnd (g env) fun b => lft (k a b) := by
  obtain ⟨ta, pa, qa⟩ := a
  obtain ⟨tb, pb, qb⟩ := b
  exact ⟨tOp r2 ta tb, pe_ix ho pa pb hp, seq2 hr qa qb⟩
end
end Ev

end
section
set_option maxHeartbeats 4000000
/-! # Ev3: operators, comparisons, subscripts, displays -/
namespace Ev
open PySem PySem.Spec L2
variable [TabsC]
section
variable {K : PySem.W.Frag} {G H : Hp} {r : Option DA} {ds : Option DS} {v : V}
theorem DqO.int {i : Int} (h : DqO K G r H v (.int i)) : v = .int i := by
  rcases h with h | ⟨_, e, _⟩
  · cases h; rfl
  · cases e
theorem DqO.bl {b : Bool} (h : DqO K G r H v (.bool b)) : v = .bl b := by
  rcases h with h | ⟨_, e, _⟩
  · cases h; rfl
  · cases e
theorem DqO.str {x : Str} (h : DqO K G r H v (.str x)) : v = .str x := by
  rcases h with h | ⟨_, e, _⟩
  · cases h; rfl
  · cases e
theorem DqO.non (h : DqO K G r H v .none) : v = .non := by
  rcases h with h | ⟨_, e, _⟩
  · cases h; rfl
  · cases e
theorem DqO.tup {es : List D} (h : DqO K G r H v (.tuple es)) : ∃ a xs, v = .ref a ∧ SqT K G a xs ∧ DqAll K G r xs es := by
  rcases h with h | ⟨_, e, _⟩
  · cases h with
    | tup h q => exact ⟨_, _, rfl, h, q⟩
  · cases e
theorem DqO.nonI {d : D} (h : DqO K G r H v d) : decide (v = V.non) = isNone d := by
  rcases h with h | ⟨_, e, a, xs, rfl, _⟩
  · cases h <;> rfl
  · subst e; rfl
/-- a result that a rule hands on: a value without an object, or a new one -/
theorem Nx.lst {p : Addr} {ys : List V} {es : List D} (s : Same G H) (d : DrOk ds G r H) (n : H p = none) (q : DqAll K G r ys es) : Nx G r H ds (upd G p (.lst ys)) r (upd H p (.lst ys)) ∧ Dq K (upd G p (.lst ys)) r (.ref p) (.list es) := by
  have k := Nx.new (o := HO.lst ys) s d n
  exact ⟨k, .lst upd_same (q.more k.g k.e)⟩
theorem Nx.tup {p : Addr} {ys : List V} {es : List D} (s : Same G H) (d : DrOk ds G r H) (n : H p = none) (q : DqAll K G r ys es) : Nx G r H ds (upd G p (.tup ys)) r (upd H p (.tup ys)) ∧ Dq K (upd G p (.tup ys)) r (.ref p) (.tuple es) := by
  have k := Nx.new (o := HO.tup ys) s d n
  exact ⟨k, .tup (.inl (.inl upd_same)) (q.more k.g k.e)⟩
theorem lenOk_of {n : Nat} (h : lenOk n = true) : n ≤ sizeLine := of_decide_eq_true h
end
/-- the raw form: a list that is made -/
abbrev RHR (X : Cx) (r2 : R2) (g : D → D → Option D) : Prop := ∀ {a b : D} {es : List D} {v u : V} {ds : Option DS} {G H : Hp} {r : Option DA} {Q : VK}, Same G H → DrOk ds G r H → DqO X.K G r H v a → DqO X.K G r H u b → g a b = some (.list es) →
  (∀ p ys, H p = none → DqAll X.K G r ys es → Q (.ref p) (upd H p (.lst ys))) → r2 v u H Q

section
variable {X : Cx}
/-! ### binary operators -/
def boOp : Bo → Operator
  | .add => .Add
  | .sub => .Sub
  | .mul => .Mult
  | .fdiv => .FloorDiv
  | .mod => .Mod
  | .pow => .Pow
def rMulM : R2 := rI (fun i j => mulOk i j = true) fun i j => .int (i * j)
def rDivM : R2 := rI (fun i j => j ≠ 0 ∧ divOk i j = true) fun i j => .int (i.fdiv j)
theorem mulOk_fit {i j : Int} (h : mulOk i j = true) : IntMulOk i j := by
  unfold IntMulOk
  unfold mulOk at h
  intro z
  rw [z] at h
  cases h
theorem op_mulM : OpR X (binaryOp .Mult) rMulM := opI fun _ _ _ _ _ _ _ hc q => PyProof.Rows.mul_int q (mulOk_fit hc)
theorem op_divM : OpR X (binaryOp .FloorDiv) rDivM := opI fun i j _ _ _ _ _ hc q => PyProof.Rows.floordiv_int hc.1 q (.inl (by
  have h2 := hc.2
  unfold divOk at h2
  simpa using h2))
def boR (K : PySem.W.Frag) : Bo → R2
  | .add => fun x y H Q => rI0 (fun i j => .int (i + j)) x y H Q ∨ (rCat x y H Q ∨ rCatA K x y H Q)
  | .sub => rI0 fun i j => .int (i - j)
  | .mul => fun x y H Q => rMulM x y H Q ∨ (rRep x y H Q ∨ rRepT K x y H Q)
  | .fdiv => rDivM
  | .mod => rI (fun _ j => j ≠ 0) fun i j => .int (i.fmod j)
  | .pow => rI CPow fun i j => .int (i ^ j.toNat)
theorem boR_ok : ∀ o : Bo, OpR X (binaryOp (boOp o)) (boR X.K o)
  | .add => op_add.or (op_cat.or op_catA)
  | .sub => op_sub
  | .mul => op_mulM.or (op_rep.or op_repT)
  | .fdiv => op_divM
  | .mod => op_modN
  | .pow => op_pow
theorem bo_list (o : Bo) : RHR X (boR X.K o) (binD o) := by
  intro a b es v u ds G H r Q s d ha hb e k
  unfold binD at e
  split at e
  · cases e
  · split at e
    · rename_i xs ys hz
      cases e
      obtain ⟨p, vs, rfl, e1, q1, n1⟩ := ha.list s d
      obtain ⟨p2, ws, rfl, e2, q2, n2⟩ := hb.list s d
      exact .inr (.inl ⟨_, _, vs, ws, rfl, rfl, e1, e2, by rw [q1.length, q2.length]; exact lenOk_of hz, fun p hp => k p _ hp (q1.append q2)⟩)
    · cases e
  · split at e <;> cases e
  · cases e
  · split at e <;> cases e
  · split at e
    · rename_i xs j hz
      cases e
      obtain ⟨p, vs, rfl, e1, q1, n1⟩ := ha.list s d
      cases hb.int
      simp only [repOk, Bool.and_eq_true, decide_eq_true_eq] at hz
      exact .inr (.inl ⟨_, _, vs, rfl, rfl, e1, hz.1.1, hz.1.2, by rw [q1.length]; exact hz.2, fun p hp => k p _ hp (q1.rep _)⟩)
    · cases e
  · split at e <;> cases e
  · split at e <;> cases e
  · split at e <;> cases e
  · split at e <;> cases e
  · cases e
theorem bo_hr (o : Bo) : RH X (boR X.K o) (binD o) := by
  intro a b z v u ds G H r Q s d ha hb e k
  have key : ∀ es, z = .list es → boR X.K o v u H Q := fun es ez => by
    subst ez
    refine bo_list o s d ha hb e fun p ys hp hq => ?_
    obtain ⟨n, m⟩ := Nx.lst s d hp hq
    exact k _ _ _ _ n m
  have done : ∀ {v' : V}, Dq X.K G r v' z → Q v' H := fun {v'} m => k v' G r H (Nx.refl s d) m
  unfold binD at e
  split at e
  · cases e; cases ha.int; cases hb.int
    exact .inl ⟨_, _, rfl, rfl, done (.int _)⟩
  · split at e
    · cases e; exact key _ rfl
    · cases e
  · split at e
    · rename_i xs ys hz
      cases e
      obtain ⟨p, vs, rfl, e1, q1⟩ := ha.tup
      obtain ⟨p2, ws, rfl, e2, q2⟩ := hb.tup
      refine .inr (.inr ⟨_, _, vs, ws, rfl, rfl, SqT.more s e1, SqT.more s e2, by rw [q1.length, q2.length]; exact lenOk_of hz, fun ez => ?_, fun _ ez => ?_, fun _ _ p hp => ?_⟩)
      · subst ez
        cases q1
        exact done (.tup e2 (by simpa using q2))
      · subst ez
        cases q2
        exact done (.tup e1 (by simpa using q1))
      · obtain ⟨n, m⟩ := Nx.tup s d hp (q1.append q2)
        exact k _ _ _ _ n m
    · cases e
  · cases e; cases ha.int; cases hb.int
    exact ⟨_, _, rfl, rfl, done (.int _)⟩
  · split at e
    · rename_i i j hz
      cases e; cases ha.int; cases hb.int
      exact .inl ⟨_, _, rfl, rfl, hz, done (.int _)⟩
    · cases e
  · split at e
    · cases e; exact key _ rfl
    · cases e
  · split at e
    · rename_i xs j hz
      cases e
      obtain ⟨p, vs, rfl, e1, q1⟩ := ha.tup
      cases hb.int
      simp only [repT, Bool.and_eq_true, decide_eq_true_eq] at hz
      refine .inr (.inr ⟨_, _, vs, rfl, rfl, SqT.more s e1, fun ez => ?_, hz.1.1.2, hz.1.2, by rw [q1.length]; exact hz.2, fun p hp => ?_⟩)
      · subst ez
        cases q1
        exact hz.1.1.1 rfl
      · obtain ⟨n, m⟩ := Nx.tup s d hp (q1.rep _)
        exact k _ _ _ _ n m
    · cases e
  · split at e
    · rename_i i j hz
      cases e; cases ha.int; cases hb.int
      simp only [Bool.and_eq_true, bne_iff_ne, ne_eq] at hz
      exact ⟨_, _, rfl, rfl, hz, done (.int _)⟩
    · cases e
  · split at e
    · rename_i i j hz
      cases e; cases ha.int; cases hb.int
      simp only [bne_iff_ne, ne_eq] at hz
      exact ⟨_, _, rfl, rfl, hz, done (.int _)⟩
    · cases e
  · split at e
    · rename_i i j hz
      cases e; cases ha.int; cases hb.int
      simp only [powOk, Bool.and_eq_true, decide_eq_true_eq] at hz
      exact ⟨_, _, rfl, rfl, ⟨hz.1.1, hz.1.2, hz.2⟩, done (.int _)⟩
    · cases e
  · cases e

/-! ### comparisons -/
def coOp : Co → CmpOp
  | .eq => .Eq
  | .ne => .NotEq
  | .lt => .Lt
  | .le => .LtE
  | .gt => .Gt
  | .ge => .GtE
  | .is => .Is
  | .isnot => .IsNot
  | .isin => .In
  | .notin => .NotIn
def coR (K : PySem.W.Frag) : Co → R2
  | .eq => rEqD K
  | .ne => rNeD K
  | .lt => rI0 fun i j => .bl (decide (i < j))
  | .le => rI0 fun i j => .bl (decide (i ≤ j))
  | .gt => rI0 fun i j => .bl (decide (j < i))
  | .ge => rI0 fun i j => .bl (decide (j ≤ i))
  | .is => fun x y H Q => (y = .non ∧ Q (.bl (decide (x = .non))) H) ∨ rIsB x y H Q
  | .isnot => fun x y H Q => (y = .non ∧ Q (.bl (!decide (x = .non))) H) ∨ rNotB x y H Q
  | .isin => rIn K false
  | .notin => rIn K true
theorem coR_ok (hu : X.A.units + 64 < cLine) : ∀ o : Co, OpR X (compareOp (coOp o)) (coR X.K o)
  | .eq => op_eqD hu
  | .ne => op_neD hu
  | .lt => op_lt
  | .le => op_le
  | .gt => op_gt
  | .ge => op_ge
  | .is => op_isN.or op_isBl
  | .isnot => op_notN.or op_notBl
  | .isin => op_in_seq
  | .notin => op_notIn_seq
theorem shaped_nd {d : D} (h : SeqAt.shaped d = true) : d.hasDict = false := PyData.hasDict_of_canLay d (SeqAt.canLay_of_shaped h)
theorem flat_ints : ∀ (js : List Int), (js.map V.int).all flatV = true
  | [] => rfl
  | j :: js => by rw [List.map_cons, List.all_cons, flat_ints js]; rfl
theorem inV_ints {i : Int} : ∀ {js : List Int}, inV (.int i) (js.map V.int) = decide (i ∈ js)
  | [] => rfl
  | j :: js => by
    have ih := inV_ints (i := i) (js := js)
    unfold inV at ih ⊢
    rw [List.map_cons, List.any_cons, ih]
    show ((j == i) || _) = _
    by_cases c : i = j
    · subst c; simp
    · have c' : ¬ j = i := fun e => c e.symm
      simp [c, c']
theorem in_raw {i : Int} {b : D} {t : Bool} {u : V} {G H : Hp} {r : Option DA} (s : Same G H) (hb : DqO X.K G r H u b) (e : inD i b = some t) :
    ∃ (p : Addr) (us : List V) (js : List Int), u = .ref p ∧ (SqL X.K H p us ∨ SqT X.K H p us) ∧ us = js.map V.int ∧ decide (i ∈ js) = t := by
  unfold inD at e
  split at e
  · obtain ⟨js, e1, e2⟩ := Option.map_eq_some_iff.mp e
    rcases hb with hb | ⟨ds, ed, p, xs, e3, e4, e5, _⟩
    · cases hb with
      | lst e' ha => exact ⟨_, _, js, rfl, .inl (.inl (.inl (s _ _ e'))), ha.ints e1, e2⟩
    · cases ed
      exact ⟨p, xs, js, e3, .inl (.inl (.inl e4)), e5.ints e1, e2⟩
  · obtain ⟨js, e1, e2⟩ := Option.map_eq_some_iff.mp e
    rcases hb with hb | ⟨ds, ed, _⟩
    · cases hb with
      | tup e' ha => exact ⟨_, _, js, rfl, .inr (SqT.more s e'), ha.ints e1, e2⟩
    · cases ed
  · cases e
/-- a comparison's answer, in any form that it is asked in -/
theorem co_raw (o : Co) {a b : D} {t : Bool} {v u : V} {ds : Option DS} {G H : Hp} {r : Option DA} {Q : VK} (s : Same G H) (ha : DqO X.K G r H v a) (hb : DqO X.K G r H u b) (e : cmpD o a b = some t) (k : Q (.bl t) H) : coR X.K o v u H Q := by
  unfold cmpD at e
  split at e
  · split at e
    · rename_i hz
      cases e
      simp only [Bool.and_eq_true] at hz
      exact ⟨_, _, ha.dp s (shaped_nd hz.1), hb.dp s (shaped_nd hz.2), hz.1, hz.2, k⟩
    · cases e
  · split at e
    · rename_i hz
      cases e
      simp only [Bool.and_eq_true] at hz
      exact ⟨_, _, ha.dp s (shaped_nd hz.1), hb.dp s (shaped_nd hz.2), hz.1, hz.2, k⟩
    · cases e
  · cases e; cases ha.int; cases hb.int; exact ⟨_, _, rfl, rfl, k⟩
  · cases e; cases ha.int; cases hb.int; exact ⟨_, _, rfl, rfl, k⟩
  · cases e; cases ha.int; cases hb.int; exact ⟨_, _, rfl, rfl, k⟩
  · cases e; cases ha.int; cases hb.int; exact ⟨_, _, rfl, rfl, k⟩
  · cases e; cases hb.non; exact .inl ⟨rfl, by rw [ha.nonI]; exact k⟩
  · cases e; cases hb.non; exact .inl ⟨rfl, by rw [ha.nonI]; exact k⟩
  · cases e; cases ha.bl; cases hb.bl; exact .inr ⟨_, _, rfl, rfl, k⟩
  · cases e; cases ha.bl; cases hb.bl; exact .inr ⟨_, _, rfl, rfl, k⟩
  · cases ha.int
    obtain ⟨p, us, js, e1, e2, e3, e4⟩ := in_raw s hb e
    refine ⟨p, us, e1, e2, rfl, by rw [e3]; exact flat_ints js, ?_⟩
    rw [e3, inV_ints, e4]
    exact k
  · cases ha.int
    obtain ⟨t', e0, e5⟩ := Option.map_eq_some_iff.mp e
    obtain ⟨p, us, js, e1, e2, e3, e4⟩ := in_raw s hb e0
    refine ⟨p, us, e1, e2, rfl, by rw [e3]; exact flat_ints js, ?_⟩
    rw [e3, inV_ints, e4]
    subst e5
    exact k
  · cases e
theorem co_hr (o : Co) : RH X (coR X.K o) (fun a b => (cmpD o a b).map .bool) := by
  intro a b z v u ds G H r Q s d ha hb e k
  obtain ⟨t, e1, rfl⟩ := Option.map_eq_some_iff.mp e
  exact co_raw (ds := ds) o s ha hb e1 (k _ G r H (Nx.refl s d) (.bl t))

/-! ### subscripts, slices -/
def ixR (K : PySem.W.Frag) : R2 := fun x y H Q => rIxL K x y H Q ∨ rIxT K x y H Q
theorem ix_hr : RH X (ixR X.K) ixD := by
  intro a b z v u ds G H r Q s d ha hb e k
  unfold ixD at e
  split at e
  · cases hb.int
    obtain ⟨p, vs, rfl, e1, q1, n1⟩ := ha.list s d
    obtain ⟨w, h1, h2⟩ := q1.at e
    exact .inl ⟨_, vs, _, w, rfl, rfl, .inl (.inl e1), h1, k w G r H (Nx.refl s d) h2⟩
  · cases hb.int
    obtain ⟨p, vs, rfl, e1, q1⟩ := ha.tup
    obtain ⟨w, h1, h2⟩ := q1.at e
    exact .inr ⟨_, vs, _, w, rfl, rfl, SqT.more s e1, h1, k w G r H (Nx.refl s d) h2⟩
  · cases e
theorem plx_ok {b : Expr} (h : plx b = true) : PlainIx b := by
  intro o i
  cases b <;> first | rfl | cases h
end
end Ev

end
section
set_option maxHeartbeats 4000000
/-! # Ev4: not, and, or, conditional expressions, displays, slices -/
namespace Ev
open PySem PySem.Spec L2
variable [TabsC]
section
variable {C : Cz} {T : Tb} {X : Cx} {x y z : Expr} {xs : List Expr} {f g h : Env → M D} {pos : Pos}
theorem se_neg (a : SE C X x f) : SE C X (.UnaryOp .USub x pos) fun env => bnd (f env) fun a => lft (negD a) := by
  obtain ⟨t, p, q⟩ := a
  refine ⟨_, pe_un un_neg p, fun env ds G r σ H Q S w => ?_⟩
  refine q env ds G r σ H _ S (wpX_mono (wpX_bnd.mp w) fun a ds1 w1 v G1 r1 H1 n1 h1 => ?_)
  obtain ⟨d, e, w2⟩ := wpX_lft w1
  unfold negD at e
  split at e
  · cases e; cases h1
    exact ⟨_, rfl, w2 _ _ _ _ n1 (.int _)⟩
  · cases e
theorem asB_some {d : D} {b : Bool} (h : asB d = some b) : d = .bool b := by
  unfold asB at h
  split at h
  · cases h; rfl
  · cases h
theorem asI_some {d : D} {b : Int} (h : asI d = some b) : d = .int b := by
  unfold asI at h
  split at h
  · cases h; rfl
  · cases h
theorem asL_some {d : D} {b : List D} (h : asL d = some b) : d = .list b := by
  unfold asL at h
  split at h
  · cases h; rfl
  · cases h
theorem se_not (a : SE C X x f) : SE C X (.UnaryOp .Not x pos) fun env => bnd (f env) fun a => lft ((asB a).map fun b => .bool (!b)) := by
  obtain ⟨t, p, q⟩ := a
  refine ⟨_, pe_not p, fun env ds G r σ H Q S w => ?_⟩
  refine q env ds G r σ H _ S (wpX_mono (wpX_bnd.mp w) fun a ds1 w1 v G1 r1 H1 n1 h1 => ?_)
  obtain ⟨d, e, w2⟩ := wpX_lft w1
  obtain ⟨b, e1, rfl⟩ := Option.map_eq_some_iff.mp e
  cases asB_some e1
  cases h1
  exact ⟨_, rfl, w2 _ _ _ _ n1 (.bl _)⟩

/-! ### tests -/
abbrev asBool (f : Env → M D) : Env → M Bool := fun env => bnd (f env) fun x => lft (asB x)
def leafT : Expr → Bool
  | .UnaryOp .Not _ _ => false
  | .BoolOp _ _ _ => false
  | .IfExp _ _ _ _ => false
  | .Compare _ _ _ _ => false
  | _ => true
theorem leafT_ok (hl : leafT x = true) : ∀ whole, isTrue x X.env whole = (do let v ← whole; standAt x.pos; holding [v] (truthy v)) := by
  intro whole
  cases x with
  | UnaryOp op a p => cases op <;> first | rfl | cases hl
  | BoolOp => cases hl
  | IfExp => cases hl
  | Compare => cases hl
  | _ => rfl
theorem st_leaf (hl : leafT x = true) (a : SE C X x f) : ST C X x (asBool f) := by
  obtain ⟨t, p, q⟩ := a
  refine ⟨_, pt_val p (leafT_ok hl), fun env ds G r σ H Q S w => ?_⟩
  refine q env ds G r σ H _ S (wpX_mono (wpX_bnd.mp w) fun a ds1 w1 v G1 r1 H1 n1 h1 => ?_)
  obtain ⟨b, e, w2⟩ := wpX_lft w1
  cases asB_some e
  cases h1
  exact ⟨_, rfl, w2 _ _ _ n1⟩
theorem st_cmp {o : Co} (hu : X.A.units + 64 < cLine) (hm : behindInMarks (coOp o) y = false) (a : SO C X x f) (b : SO C X y g) :
    ST C X (.Compare x [coOp o] [y] pos) (asBool fun env => bnd (f env) fun a => bnd (g env) fun b => lft ((cmpD o a b).map .bool)) := by
  obtain ⟨ta, pa, qa⟩ := a
  obtain ⟨tb, pb, qb⟩ := b
  refine ⟨_, pt_cmpR (coR_ok hu o) pa pb hm, fun env ds G r σ H Q S w => ?_⟩
  refine qa env ds G r σ H _ S (wpX_mono (wpX_bnd.mp (wpX_bnd.mp w)) fun a ds1 w1 v G1 r1 H1 n1 h1 => ?_)
  refine qb env ds1 G1 r1 σ H1 _ (n1.sim S) (wpX_mono (wpX_bnd.mp w1) fun b ds2 w2 u G2 r2 H2 n2 h2 => ?_)
  obtain ⟨d, e, w3⟩ := wpX_lft w2
  obtain ⟨t, e1, rfl⟩ := Option.map_eq_some_iff.mp e
  obtain ⟨t', e2, w4⟩ := wpX_lft w3
  cases e2
  exact co_raw (ds := ds2) o n2.s (h1.more n2) h2 e1 ⟨_, rfl, w4 _ _ _ (n1.trans n2)⟩
theorem st_not (a : ST C X x (asBool f)) : ST C X (.UnaryOp .Not x pos) (asBool fun env => bnd (f env) fun a => lft ((asB a).map fun b => .bool (!b))) := by
  obtain ⟨t, p, q⟩ := a
  refine ⟨_, pt_not p, fun env ds G r σ H Q S w => ?_⟩
  refine q env ds G r σ H _ S (wpX_bnd.mpr (wpX_mono (wpX_bnd.mp (wpX_bnd.mp w)) fun a ds1 w1 => ?_))
  obtain ⟨d, e, w2⟩ := wpX_lft w1
  obtain ⟨b, e1, rfl⟩ := Option.map_eq_some_iff.mp e
  obtain ⟨b', e2, w3⟩ := wpX_lft w2
  cases e2
  rw [e1]
  exact fun G' r' H' n => w3 G' r' H' n
theorem se_ife (c : ST C X x (asBool f)) (a : SE C X y g) (b : SE C X z h) : SE C X (.IfExp x y z pos) fun env => bnd (f env) fun x => bnd (lft (asB x)) fun t => if t then g env else h env := by
  obtain ⟨tc, pc, qc⟩ := c
  obtain ⟨ta, pa, qa⟩ := a
  obtain ⟨tb, pb, qb⟩ := b
  refine ⟨_, pe_ifExp pc pa pb, fun env ds G r σ H Q S w => ?_⟩
  refine qc env ds G r σ H _ S (wpX_bnd.mpr (wpX_mono (wpX_bnd.mp w) fun d ds1 w1 => ?_))
  obtain ⟨t, e, w2⟩ := wpX_lft (wpX_bnd.mp w1)
  rw [e]
  intro G1 r1 H1 n1
  cases t with
  | true => exact qa env ds1 G1 r1 σ H1 _ (n1.sim S) (wpX_mono w2 fun d ds3 k v G' r' H' n2 m => k v G' r' H' (n1.trans n2) m)
  | false => exact qb env ds1 G1 r1 σ H1 _ (n1.sim S) (wpX_mono w2 fun d ds3 k v G' r' H' n2 m => k v G' r' H' (n1.trans n2) m)
def tIfT (t : TT) (ta tb : TT) : TT := fun σ H Q => t σ H fun c H1 => if c = true then ta σ H1 Q else tb σ H1 Q
theorem pt_ifE {tc ta tb : TT} (hc : PT X x tc) (ha : PT X y ta) (hb : PT X z tb) : PT X (.IfExp x y z pos) (tIfT tc ta tb) := by
  refine ⟨fun pins s σ H Q I w => ?_⟩
  refine PyProof.Rows.isTrue_IfExp (thn (hc.run pins s σ H _ I w) fun d s1 q => ?_)
  obtain ⟨H1, I1, q1⟩ := q
  cases d with
  | true => exact ha.run pins s1 σ H1 Q I1 q1
  | false => exact hb.run pins s1 σ H1 Q I1 q1
theorem st_ife (c : ST C X x (asBool f)) (a : ST C X y (asBool g)) (b : ST C X z (asBool h)) : ST C X (.IfExp x y z pos) (asBool fun env => bnd (f env) fun x => bnd (lft (asB x)) fun t => if t then g env else h env) := by
  obtain ⟨tc, pc, qc⟩ := c
  obtain ⟨ta, pa, qa⟩ := a
  obtain ⟨tb, pb, qb⟩ := b
  refine ⟨_, pt_ifE pc pa pb, fun env ds G r σ H Q S w => ?_⟩
  refine qc env ds G r σ H _ S (wpX_bnd.mpr (wpX_mono (wpX_bnd.mp (wpX_bnd.mp w)) fun d ds1 w1 => ?_))
  obtain ⟨t, e, w2⟩ := wpX_lft (wpX_bnd.mp w1)
  rw [e]
  intro G1 r1 H1 n1
  cases t with
  | true => exact qa env ds1 G1 r1 σ H1 _ (n1.sim S) (wpX_bnd.mpr (wpX_mono w2 fun d ds3 k => wpX_mono k fun b ds4 k' G' r' H' n2 => k' G' r' H' (n1.trans n2)))
  | false => exact qb env ds1 G1 r1 σ H1 _ (n1.sim S) (wpX_bnd.mpr (wpX_mono w2 fun d ds3 k => wpX_mono k fun b ds4 k' G' r' H' n2 => k' G' r' H' (n1.trans n2)))

/-! ### and, or -/
theorem se_and1 (a : SE C X x f) : SE C X (.BoolOp .And [x] pos) fun env => bnd (f env) fun a => ret a := by
  obtain ⟨t, p, q⟩ := a
  exact ⟨_, pe_one p, fun env ds G r σ H Q S w => q env ds G r σ H Q S (wpX_mono (wpX_bnd.mp w) fun d ds' k => k)⟩
theorem se_or1 (a : SE C X x f) : SE C X (.BoolOp .Or [x] pos) fun env => bnd (f env) fun a => ret a := by
  obtain ⟨t, p, q⟩ := a
  exact ⟨_, pe_one p, fun env ds G r σ H Q S w => q env ds G r σ H Q S (wpX_mono (wpX_bnd.mp w) fun d ds' k => k)⟩
theorem se_andS (a : SE C X x f) (b : SE C X (.BoolOp .And (y :: xs) pos) g) : SE C X (.BoolOp .And (x :: y :: xs) pos) fun env => bnd (f env) fun a => bnd (lft (asB a)) fun t => if t then g env else ret (.bool false) := by
  obtain ⟨ta, pa, qa⟩ := a
  obtain ⟨tb, pb, qb⟩ := b
  refine ⟨_, pe_and pa pb, fun env ds G r σ H Q S w => ?_⟩
  refine qa env ds G r σ H _ S (wpX_mono (wpX_bnd.mp w) fun d ds1 w1 v G1 r1 H1 n1 h1 => ?_)
  obtain ⟨t, e, w2⟩ := wpX_lft (wpX_bnd.mp w1)
  cases asB_some e
  cases h1
  refine ⟨_, rfl, ?_⟩
  cases t with
  | true => exact qb env ds1 G1 r1 σ H1 _ (n1.sim S) (wpX_mono w2 fun d ds3 k v G' r' H' n2 m => k v G' r' H' (n1.trans n2) m)
  | false => exact wpX_ret w2 _ _ _ _ n1 (.bl _)
theorem se_orS (a : SE C X x f) (b : SE C X (.BoolOp .Or (y :: xs) pos) g) : SE C X (.BoolOp .Or (x :: y :: xs) pos) fun env => bnd (f env) fun a => bnd (lft (asB a)) fun t => if t then ret (.bool true) else g env := by
  obtain ⟨ta, pa, qa⟩ := a
  obtain ⟨tb, pb, qb⟩ := b
  refine ⟨_, pe_or pa pb, fun env ds G r σ H Q S w => ?_⟩
  refine qa env ds G r σ H _ S (wpX_mono (wpX_bnd.mp w) fun d ds1 w1 v G1 r1 H1 n1 h1 => ?_)
  obtain ⟨t, e, w2⟩ := wpX_lft (wpX_bnd.mp w1)
  cases asB_some e
  cases h1
  refine ⟨_, rfl, ?_⟩
  cases t with
  | true => exact wpX_ret w2 _ _ _ _ n1 (.bl _)
  | false => exact qb env ds1 G1 r1 σ H1 _ (n1.sim S) (wpX_mono w2 fun d ds3 k v G' r' H' n2 m => k v G' r' H' (n1.trans n2) m)
def SW (C : Cz) (X : Cx) (x : Expr) (f : Env → M Bool) : Prop := ∃ t : TT, PW X x t ∧ ∀ (env : Env) (ds : Option DS) (G : Hp) (r : Option DA) (σ : St) (H : Hp) (Q : Bool → Hp → Prop), Sim X.K C.own env ds G r σ H →
  wpX (EX X σ G r H) (f env ds) (fun b ds' => ∀ G' r' H', Nx G r H ds' G' r' H' → Q b H') → t σ H Q
theorem SW.st {F : Env → M Bool} (a : SW C X x F) : ST C X x F := by
  obtain ⟨t, p, q⟩ := a
  exact ⟨t, p.pt, q⟩
theorem sw_and1 (a : ST C X x (asBool f)) : SW C X (.BoolOp .And [x] pos) (asBool fun env => bnd (f env) fun a => ret a) := by
  obtain ⟨t, p, q⟩ := a
  exact ⟨_, pw_and1 p, fun env ds G r σ H Q S w => q env ds G r σ H Q S (wpX_bnd.mpr (wpX_mono (wpX_bnd.mp (wpX_bnd.mp w)) fun d ds' k => k))⟩
theorem sw_or1 (a : ST C X x (asBool f)) : SW C X (.BoolOp .Or [x] pos) (asBool fun env => bnd (f env) fun a => ret a) := by
  obtain ⟨t, p, q⟩ := a
  exact ⟨_, pw_or1 p, fun env ds G r σ H Q S w => q env ds G r σ H Q S (wpX_bnd.mpr (wpX_mono (wpX_bnd.mp (wpX_bnd.mp w)) fun d ds' k => k))⟩
theorem sw_andS (a : ST C X x (asBool f)) (b : SW C X (.BoolOp .And (y :: xs) pos) (asBool g)) : SW C X (.BoolOp .And (x :: y :: xs) pos) (asBool fun env => bnd (f env) fun a => bnd (lft (asB a)) fun t => if t then g env else ret (.bool false)) := by
  obtain ⟨ta, pa, qa⟩ := a
  obtain ⟨tb, pb, qb⟩ := b
  refine ⟨_, pw_and pa pb, fun env ds G r σ H Q S w => ?_⟩
  refine qa env ds G r σ H _ S (wpX_bnd.mpr (wpX_mono (wpX_bnd.mp (wpX_bnd.mp w)) fun d ds1 w1 => ?_))
  obtain ⟨t, e, w2⟩ := wpX_lft (wpX_bnd.mp w1)
  rw [e]
  intro G1 r1 H1 n1
  cases t with
  | true => exact qb env ds1 G1 r1 σ H1 _ (n1.sim S) (wpX_bnd.mpr (wpX_mono w2 fun d ds3 k => wpX_mono k fun b ds4 k' G' r' H' n2 => k' G' r' H' (n1.trans n2)))
  | false => exact w2 _ _ _ n1
theorem sw_orS (a : ST C X x (asBool f)) (b : SW C X (.BoolOp .Or (y :: xs) pos) (asBool g)) : SW C X (.BoolOp .Or (x :: y :: xs) pos) (asBool fun env => bnd (f env) fun a => bnd (lft (asB a)) fun t => if t then ret (.bool true) else g env) := by
  obtain ⟨ta, pa, qa⟩ := a
  obtain ⟨tb, pb, qb⟩ := b
  refine ⟨_, pw_or pa pb, fun env ds G r σ H Q S w => ?_⟩
  refine qa env ds G r σ H _ S (wpX_bnd.mpr (wpX_mono (wpX_bnd.mp (wpX_bnd.mp w)) fun d ds1 w1 => ?_))
  obtain ⟨t, e, w2⟩ := wpX_lft (wpX_bnd.mp w1)
  rw [e]
  intro G1 r1 H1 n1
  cases t with
  | true => exact w2 _ _ _ n1
  | false => exact qb env ds1 G1 r1 σ H1 _ (n1.sim S) (wpX_bnd.mpr (wpX_mono w2 fun d ds3 k => wpX_mono k fun b ds4 k' G' r' H' n2 => k' G' r' H' (n1.trans n2)))

/-! ### chains -/
theorem chain_raw {o o' : Co} {ta tb tc : TE}
    (qa : ∀ (env : Env) (ds : Option DS) (G : Hp) (r : Option DA) (σ : St) (H : Hp) (Q : VK), Sim X.K C.own env ds G r σ H → wpX (EX X σ G r H) (f env ds) (fun d ds' => ∀ v G' r' H', Nx G r H ds' G' r' H' → DqO X.K G' r' H' v d → Q v H') → ta σ H Q)
    (qb : ∀ (env : Env) (ds : Option DS) (G : Hp) (r : Option DA) (σ : St) (H : Hp) (Q : VK), Sim X.K C.own env ds G r σ H → wpX (EX X σ G r H) (g env ds) (fun d ds' => ∀ v G' r' H', Nx G r H ds' G' r' H' → DqO X.K G' r' H' v d → Q v H') → tb σ H Q)
    (qc : ∀ (env : Env) (ds : Option DS) (G : Hp) (r : Option DA) (σ : St) (H : Hp) (Q : VK), Sim X.K C.own env ds G r σ H → wpX (EX X σ G r H) (h env ds) (fun d ds' => ∀ v G' r' H', Nx G r H ds' G' r' H' → DqO X.K G' r' H' v d → Q v H') → tc σ H Q)
    (env : Env) (ds : Option DS) (G : Hp) (r : Option DA) (σ : St) (H : Hp) (Q : VK) (S : Sim X.K C.own env ds G r σ H)
    (w : wpX (EX X σ G r H) (bnd (f env) (fun a => bnd (g env) fun b => bnd (lft (cmpD o a b)) fun t => if t then bnd (h env) fun c => lft ((cmpD o' b c).map PyData.bool) else ret (PyData.bool false)) ds)
      (fun d ds' => ∀ b G' r' H', d = PyData.bool b → Nx G r H ds' G' r' H' → Q (.bl b) H')) : tChain (coR X.K o) (coR X.K o') ta tb tc σ H Q := by
  refine qa env ds G r σ H _ S (wpX_mono (wpX_bnd.mp w) fun a ds1 w1 v G1 r1 H1 n1 h1 => ?_)
  refine qb env ds1 G1 r1 σ H1 _ (n1.sim S) (wpX_mono (wpX_bnd.mp w1) fun b ds2 w2 u G2 r2 H2 n2 h2 => ?_)
  obtain ⟨t, e, w3⟩ := wpX_lft (wpX_bnd.mp w2)
  have n12 := n1.trans n2
  refine co_raw (ds := ds2) o n2.s (h1.more n2) h2 e ⟨_, rfl, ?_⟩
  cases t with
  | false => exact wpX_ret w3 _ _ _ _ rfl n12
  | true =>
    refine qc env ds2 G2 r2 σ H2 _ (n12.sim S) (wpX_mono (wpX_bnd.mp w3) fun c ds3 w4 u' G3 r3 H3 n3 h3 => ?_)
    obtain ⟨d, e4, w5⟩ := wpX_lft w4
    obtain ⟨t', e5, rfl⟩ := Option.map_eq_some_iff.mp e4
    exact co_raw (ds := ds3) o' n3.s (h2.more n3) h3 e5 (w5 _ _ _ _ rfl (n12.trans n3))
theorem se_chain {o o' : Co} (hu : X.A.units + 64 < cLine) (hm : lastMarks [coOp o, coOp o'] [y, z] = false) (a : SO C X x f) (b : SO C X y g) (c : SO C X z h) :
    SE C X (.Compare x [coOp o, coOp o'] [y, z] pos) fun env => bnd (f env) fun a => bnd (g env) fun b => bnd (lft (cmpD o a b)) fun t => if t then bnd (h env) fun c => lft ((cmpD o' b c).map .bool) else ret (.bool false) := by
  obtain ⟨ta, pa, qa⟩ := a
  obtain ⟨tb, pb, qb⟩ := b
  obtain ⟨tc, pc, qc⟩ := c
  refine ⟨_, pe_chain (coR_ok hu o) (coR_ok hu o') pa pb pc hm, fun env ds G r σ H Q S w => ?_⟩
  refine chain_raw qa qb qc env ds G r σ H Q S (wpX_mono w fun d ds' k b G' r' H' e n => ?_)
  subst e
  exact k _ _ _ _ n (.bl b)
theorem st_chain {o o' : Co} (hu : X.A.units + 64 < cLine) (hm : lastMarks [coOp o, coOp o'] [y, z] = false) (a : SO C X x f) (b : SO C X y g) (c : SO C X z h) :
    ST C X (.Compare x [coOp o, coOp o'] [y, z] pos) (asBool fun env => bnd (f env) fun a => bnd (g env) fun b => bnd (lft (cmpD o a b)) fun t => if t then bnd (h env) fun c => lft ((cmpD o' b c).map .bool) else ret (.bool false)) := by
  obtain ⟨ta, pa, qa⟩ := a
  obtain ⟨tb, pb, qb⟩ := b
  obtain ⟨tc, pc, qc⟩ := c
  refine ⟨_, pt_chain (coR_ok hu o) (coR_ok hu o') pa pb pc hm, fun env ds G r σ H Q S w => ?_⟩
  refine chain_raw qa qb qc env ds G r σ H _ S (wpX_mono (wpX_bnd.mp w) fun d ds' k b G' r' H' e n => ?_)
  subst e
  obtain ⟨b', e', k'⟩ := wpX_lft k
  cases e'
  exact ⟨_, rfl, k' _ _ _ n⟩
end
end Ev

end
section
set_option maxHeartbeats 4000000
/-! # Ev5: argument lists, displays, slices, calls of built-ins -/
namespace Ev
open PySem PySem.Spec L2
variable [TabsC]
section
variable {C : Cz} {T : Tb} {X : Cx} {x y z : Expr} {xs : List Expr} {f g h : Env → M D} {F : Env → M (List D)} {pos p1 p2 p3 : Pos}
/-! ### argument lists -/
theorem star_ns (e : nst x = true) (es : List Expr) (env : PySem.Env) : starEach (x :: es) env = (false, eval x env) :: starEach es env := by
  cases x <;> first | rfl | cases e
def nsts : List Expr → Bool
  | [] => true
  | x :: xs => nst x && nsts xs
theorem nsts_plain {es : List Expr} (h : nsts es = true) (env : PySem.Env) (pos : Pos) : (backTo pos (starEach es env)).any (·.1) = false := by
  induction es with
  | nil => rfl
  | cons x es ih =>
    simp only [nsts, Bool.and_eq_true] at h
    rw [star_ns h.1]
    have e := ih h.2
    unfold backTo at e ⊢
    simp only [List.map_cons, List.any_cons, Bool.false_or]
    exact e
theorem sa_nil : SA C X [] fun _ => ret [] := ⟨_, pa_nil, fun env ds G r σ H Q S w => wpX_ret w _ _ _ _ (Nx.refl S.sub S.drw) .nil⟩
theorem sa_cons (hn : nst x = true) (a : SE C X x f) (b : SA C X xs F) : SA C X (x :: xs) fun env => bnd (f env) fun d => bnd (F env) fun ds => ret (d :: ds) := by
  obtain ⟨ta, pa, qa⟩ := a
  obtain ⟨tb, pb, qb⟩ := b
  refine ⟨_, pa_cons pa pb (star_ns hn _ _), fun env ds G r σ H Q S w => ?_⟩
  refine qa env ds G r σ H _ S (wpX_mono (wpX_bnd.mp w) fun a ds1 w1 v G1 r1 H1 n1 h1 => ?_)
  refine qb env ds1 G1 r1 σ H1 _ (n1.sim S) (wpX_mono (wpX_bnd.mp w1) fun b ds2 w2 u G2 r2 H2 n2 h2 => ?_)
  exact wpX_ret w2 _ _ _ _ (n1.trans n2) (.cons (h1.more n2.g n2.e) h2)
theorem so_nil : SAO C X [] fun _ => ret [] := ⟨_, pa_nil, fun env ds G r σ H Q S w => wpX_ret w _ _ _ _ (Nx.refl S.sub S.drw) .nil⟩
theorem DqOs.more {K : PySem.W.Frag} {G G1 H H1 : Hp} {r r1 : Option DA} {ds1 : Option DS} {vs : List V} {es : List D} (h : DqOs K G r H vs es) (n : Nx G r H ds1 G1 r1 H1) : DqOs K G1 r1 H1 vs es := by
  induction h with
  | nil => exact .nil
  | cons a _ ih => exact .cons (a.more n) ih
theorem so_cons (hn : nst x = true) (a : SO C X x f) (b : SAO C X xs F) : SAO C X (x :: xs) fun env => bnd (f env) fun d => bnd (F env) fun ds => ret (d :: ds) := by
  obtain ⟨ta, pa, qa⟩ := a
  obtain ⟨tb, pb, qb⟩ := b
  refine ⟨_, pa_cons pa pb (star_ns hn _ _), fun env ds G r σ H Q S w => ?_⟩
  refine qa env ds G r σ H _ S (wpX_mono (wpX_bnd.mp w) fun a ds1 w1 v G1 r1 H1 n1 h1 => ?_)
  refine qb env ds1 G1 r1 σ H1 _ (n1.sim S) (wpX_mono (wpX_bnd.mp w1) fun b ds2 w2 u G2 r2 H2 n2 h2 => ?_)
  exact wpX_ret w2 _ _ _ _ (n1.trans n2) (.cons (h1.more n2) h2)
/-! ### displays -/
theorem se_tup {k : Nat} (a : SA C X xs F) : SE C X (.Tuple xs k pos) fun env => bnd (F env) fun ds => lft (if lenOk ds.length then some (.tuple ds) else none) := by
  obtain ⟨t, p, q⟩ := a
  refine ⟨_, pe_tup p, fun env ds G r σ H Q S w => ?_⟩
  refine q env ds G r σ H _ S (wpX_mono (wpX_bnd.mp w) fun es ds1 w1 vs G1 r1 H1 n1 h1 => ?_)
  obtain ⟨d, e, w2⟩ := wpX_lft w1
  split at e
  · rename_i hz
    cases e
    refine ⟨by rw [h1.length]; exact lenOk_of hz, fun p hp => ?_⟩
    obtain ⟨n, m⟩ := Nx.tup n1.s n1.d hp h1
    exact w2 _ _ _ _ (n1.trans n) m
  · cases e
theorem sr_lst (a : SA C X xs F) : SR C X (.List xs pos) fun env => bnd (F env) fun ds => lft (if lenOk ds.length then some (.list ds) else none) := by
  obtain ⟨t, p, q⟩ := a
  refine ⟨_, pe_lst p, fun env ds G r σ H Q S w => ?_⟩
  refine q env ds G r σ H _ S (wpX_mono (wpX_bnd.mp w) fun es ds1 w1 vs G1 r1 H1 n1 h1 => ?_)
  obtain ⟨d, e, es', e2, k⟩ := wpX_lft w1
  split at e
  · rename_i hz
    cases e
    cases e2
    exact ⟨by rw [h1.length]; exact lenOk_of hz, fun p hp => k p _ _ _ _ n1 hp h1⟩
  · cases e
theorem sr_op {op : Operator} {r2 : R2} {k : D → D → Option D} (ho : OpR X (binaryOp op) r2) (hr : RHR X r2 k) (a : SO C X x f) (b : SO C X y g) : SR C X (.BinOp x op y pos) fun env => bnd (f env) fun a => bnd (g env) fun b => lft (k a b) := by
  obtain ⟨ta, pa, qa⟩ := a
  obtain ⟨tb, pb, qb⟩ := b
  refine ⟨_, pe_op ho pa pb, fun env ds G r σ H Q S w => ?_⟩
  refine qa env ds G r σ H _ S (wpX_mono (wpX_bnd.mp w) fun a ds1 w1 v G1 r1 H1 n1 h1 => ?_)
  refine qb env ds1 G1 r1 σ H1 _ (n1.sim S) (wpX_mono (wpX_bnd.mp w1) fun b ds2 w2 u G2 r2 H2 n2 h2 => ?_)
  obtain ⟨d, e, es, e2, w3⟩ := wpX_lft w2
  subst e2
  exact hr n2.s n2.d (h1.more n2) h2 e fun p ys hp hq => w3 p ys _ _ _ (n1.trans n2) hp hq

/-! ### slices -/
def SP' (C : Cz) (X : Cx) (x : Option Expr) (f : Env → M (Option Int)) : Prop := ∃ t : TO, PO X x t ∧ ∀ (env : Env) (ds : Option DS) (G : Hp) (r : Option DA) (σ : St) (H : Hp) (Q : Option Int → Hp → Prop), Sim X.K C.own env ds G r σ H →
  wpX (EX X σ G r H) (f env ds) (fun b ds' => ∀ G' r' H', Nx G r H ds' G' r' H' → Q b H') → t σ H Q
theorem sp_none : SP' C X none fun _ => ret none := ⟨_, po_none, fun env ds G r σ H Q S w => wpX_ret w _ _ _ (Nx.refl S.sub S.drw)⟩
theorem sp_some (a : SE C X x f) : SP' C X (some x) fun env => bnd (f env) fun y => lft ((asI y).map some) := by
  obtain ⟨t, p, q⟩ := a
  refine ⟨_, po_some p, fun env ds G r σ H Q S w => ?_⟩
  refine q env ds G r σ H _ S (wpX_mono (wpX_bnd.mp w) fun a ds1 w1 v G1 r1 H1 n1 h1 => ?_)
  obtain ⟨d, e, w2⟩ := wpX_lft w1
  obtain ⟨i, e1, rfl⟩ := Option.map_eq_some_iff.mp e
  cases asI_some e1
  cases h1
  exact ⟨_, rfl, w2 _ _ _ n1⟩
def slR (K : PySem.W.Frag) : V → Option Int → Option Int → Hp → VK → Prop := fun x lo hi H Q => rSlL K x lo hi H Q ∨ rSlA K x lo hi H Q
theorem slR_ok : SlR X (slR X.K) := sl_list.or sl_tupA
theorem sIx_all {α : Type} (xs : List α) (lo hi : Option Int) (h : HT.sIx xs.length 0 lo = 0 ∧ HT.sIx xs.length xs.length hi = xs.length) : cutA xs lo hi = xs := by
  unfold cutA
  rw [h.1, h.2]
  simp
theorem sl_raw {a b : D} {lo hi : Option Int} {v : V} {ds : Option DS} {G H : Hp} {r : Option DA} {Q : VK} (s : Same G H) (d : DrOk ds G r H) (ha : DqO X.K G r H v a) (e : slD a lo hi = some b)
    (kL : ∀ es, b = .list es → ∀ p ys, H p = none → DqAll X.K G r ys es → Q (.ref p) (upd H p (.lst ys))) (kT : ∀ es, b = .tuple es → ∀ v' G' r' H', Nx G r H ds G' r' H' → Dq X.K G' r' v' b → Q v' H') : slR X.K v lo hi H Q := by
  unfold slD at e
  split at e
  · cases e
    obtain ⟨p, vs, rfl, e1, q1, n1⟩ := ha.list s d
    exact .inl ⟨_, vs, rfl, .inl (.inl e1), fun p hp => kL _ rfl p _ hp (q1.cut lo hi)⟩
  · cases e
    obtain ⟨p, vs, rfl, e1, q1⟩ := ha.tup
    refine .inr ⟨_, vs, rfl, SqT.more s e1, fun z => ?_, fun z p hp => ?_⟩
    · rw [q1.length] at z
      refine kT _ rfl _ _ _ _ (Nx.refl s d) ?_
      rw [sIx_all _ lo hi z]
      exact .tup e1 q1
    · obtain ⟨n, m⟩ := Nx.tup s d hp (q1.cut lo hi)
      exact kT _ rfl _ _ _ _ n m
  · cases e
theorem slD_form {a b : D} {lo hi : Option Int} (e : slD a lo hi = some b) : (∃ es, b = .list es) ∨ ∃ es, b = .tuple es := by
  unfold slD at e
  split at e
  · cases e; exact .inl ⟨_, rfl⟩
  · cases e; exact .inr ⟨_, rfl⟩
  · cases e
section
variable {lo hi : Option Expr} {fl fh : Env → M (Option Int)}
theorem se_sl (a : SO C X x f) (b : SP' C X lo fl) (c : SP' C X hi fh) : SE C X (.Subscript x (.Slice lo hi none p2) pos) fun env => bnd (f env) fun a => bnd (fl env) fun l => bnd (fh env) fun h => lft (slD a l h) := by
  obtain ⟨ta, pa, qa⟩ := a
  obtain ⟨tb, pb, qb⟩ := b
  obtain ⟨tc, pc, qc⟩ := c
  refine ⟨_, pe_slice slR_ok pa pb pc, fun env ds G r σ H Q S w => ?_⟩
  refine qa env ds G r σ H _ S (wpX_mono (wpX_bnd.mp w) fun a ds1 w1 v G1 r1 H1 n1 h1 => ?_)
  refine qb env ds1 G1 r1 σ H1 _ (n1.sim S) (wpX_mono (wpX_bnd.mp w1) fun b ds2 w2 G2 r2 H2 n2 => ?_)
  refine qc env ds2 G2 r2 σ H2 _ ((n1.trans n2).sim S) (wpX_mono (wpX_bnd.mp w2) fun c ds3 w3 G3 r3 H3 n3 => ?_)
  obtain ⟨d, e, w4⟩ := wpX_lft w3
  have n := (n1.trans n2).trans n3
  refine sl_raw n.s n.d ((h1.more n2).more n3) e (fun es ez p ys hp hq => ?_) fun es ez v' G' r' H' n' m => w4 _ _ _ _ (n.trans n') m
  subst ez
  obtain ⟨n', m⟩ := Nx.lst n.s n.d hp hq
  exact w4 _ _ _ _ (n.trans n') m
theorem sr_sl (a : SO C X x f) (b : SP' C X lo fl) (c : SP' C X hi fh) : SR C X (.Subscript x (.Slice lo hi none p2) pos) fun env => bnd (f env) fun a => bnd (fl env) fun l => bnd (fh env) fun h => lft (slD a l h) := by
  obtain ⟨ta, pa, qa⟩ := a
  obtain ⟨tb, pb, qb⟩ := b
  obtain ⟨tc, pc, qc⟩ := c
  refine ⟨_, pe_slice slR_ok pa pb pc, fun env ds G r σ H Q S w => ?_⟩
  refine qa env ds G r σ H _ S (wpX_mono (wpX_bnd.mp w) fun a ds1 w1 v G1 r1 H1 n1 h1 => ?_)
  refine qb env ds1 G1 r1 σ H1 _ (n1.sim S) (wpX_mono (wpX_bnd.mp w1) fun b ds2 w2 G2 r2 H2 n2 => ?_)
  refine qc env ds2 G2 r2 σ H2 _ ((n1.trans n2).sim S) (wpX_mono (wpX_bnd.mp w2) fun c ds3 w3 G3 r3 H3 n3 => ?_)
  obtain ⟨d, e, es, ed, w4⟩ := wpX_lft w3
  have n := (n1.trans n2).trans n3
  subst ed
  refine sl_raw n.s n.d ((h1.more n2).more n3) e (fun es' ez p ys hp hq => ?_) fun es' ez => by cases ez
  cases ez
  exact w4 p ys _ _ _ n hp hq
end
section
variable {k : Nat} {q1 q2 q3 : Pos}
theorem se_rev (a : SO C X x f) : SE C X (.Subscript x (.Slice none none (some (.UnaryOp .USub (.Constant (.int 1) k q1) q2)) q3) pos) fun env => bnd (f env) fun a => lft (revD a) := by
  obtain ⟨ta, pa, qa⟩ := a
  refine ⟨_, pe_revL pa, fun env ds G r σ H Q S w => ?_⟩
  refine qa env ds G r σ H _ S (wpX_mono (wpX_bnd.mp w) fun a ds1 w1 v G1 r1 H1 n1 h1 => ?_)
  obtain ⟨d, e, w4⟩ := wpX_lft w1
  unfold revD at e
  split at e
  · cases e
    obtain ⟨p, vs, rfl, e1, q1, _⟩ := h1.list n1.s n1.d
    refine ⟨_, vs, rfl, .inl (.inl e1), fun p hp => ?_⟩
    obtain ⟨n', m⟩ := Nx.lst n1.s n1.d hp q1.rev
    exact w4 _ _ _ _ (n1.trans n') m
  · cases e
theorem sr_rev (a : SO C X x f) : SR C X (.Subscript x (.Slice none none (some (.UnaryOp .USub (.Constant (.int 1) k q1) q2)) q3) pos) fun env => bnd (f env) fun a => lft (revD a) := by
  obtain ⟨ta, pa, qa⟩ := a
  refine ⟨_, pe_revL pa, fun env ds G r σ H Q S w => ?_⟩
  refine qa env ds G r σ H _ S (wpX_mono (wpX_bnd.mp w) fun a ds1 w1 v G1 r1 H1 n1 h1 => ?_)
  obtain ⟨d, e, es, ed, w4⟩ := wpX_lft w1
  subst ed
  unfold revD at e
  split at e
  · cases e
    obtain ⟨p, vs, rfl, e1, q1, _⟩ := h1.list n1.s n1.d
    exact ⟨_, vs, rfl, .inl (.inl e1), fun p hp => w4 p _ _ _ _ n1 hp q1.rev⟩
  · cases e
end
end
section
variable {C : Cz} {T : Tb} {X : Cx} {x y : Expr} {f g : Env → M D} {p pos p1 p2 : Pos}
theorem se_emp : SE C X (.Dict [] [] pos) fun _ => ret empD := by
  refine ⟨_, pe_dnewK, fun env ds G r σ H Q S w => fun p hp => ?_⟩
  have k := Nx.new (o := HO.dK []) S.sub S.drw hp
  exact wpX_ret w _ _ _ _ k (.emp upd_same)
theorem lrgD_ok {a b d : D} (e : lrgD a b = some d) : ∃ i j : Int, a = .int i ∧ b = .int j ∧ d = .list (rngD i j) ∧ RgOk i j ∧ (j - i).toNat ≤ sizeLine := by
  unfold lrgD at e
  obtain ⟨i, e1, e0⟩ := Option.bind_eq_some_iff.mp e
  obtain ⟨j, e2, e3⟩ := Option.bind_eq_some_iff.mp e0
  cases asI_some e1
  cases asI_some e2
  clear e e0
  split at e3
  · rename_i h
    cases e3
    simp only [Bool.and_eq_true] at h
    obtain ⟨⟨h1, h2⟩, h3⟩ := h
    unfold rngOk at h1 h2
    simp only [Bool.and_eq_true, decide_eq_true_eq] at h1 h2
    have l := lenOk_of h3
    refine ⟨i, j, rfl, rfl, rfl, ⟨h1.1, h1.2, h2.1, h2.2, ?_⟩, l⟩
    rw [sizeLine_eq] at l
    omega
  · cases e3
theorem rg_all {K : PySem.W.Frag} {G : Hp} {r : Option DA} (i j : Int) : DqAll K G r (rgV i j) (rngD i j) := by
  unfold rgV rngD
  generalize List.range (j - i).toNat = l
  induction l with
  | nil => exact .nil
  | cons n l ih => exact .cons (.int _) ih
theorem se_lrg (hc : X.calm = true) (hg : Gl X "list") (hm : X.mg "list" = none) (hg2 : Gl X "range") (hm2 : X.mg "range" = none) (nx : nst x = true) (ny : nst y = true) (a : SE C X x f) (b : SE C X y g) :
    SE C X (.Call (.Name "list" p1) [.Call (.Name "range" p2) [x, y] [] pos] [] p) fun env => bnd (f env) fun x => bnd (g env) fun y => lft (lrgD x y) := by
  obtain ⟨ta, pa, qa⟩ := a
  obtain ⟨tb, pb, qb⟩ := b
  refine ⟨_, pe_listRg hc hg hm (prg_2 hg2 hm2 pa pb (star_ns nx _ _) (star_ns ny _ _) (nsts_plain (es := [y]) (by simp [nsts, ny]) X.env pos)), fun env ds G r σ H Q S w => ?_⟩
  refine qa env ds G r σ H _ S (wpX_mono (wpX_bnd.mp w) fun a ds1 w1 v G1 r1 H1 n1 h1 => ?_)
  refine qb env ds1 G1 r1 σ H1 _ (n1.sim S) (wpX_mono (wpX_bnd.mp w1) fun b ds2 w2 u G2 r2 H2 n2 h2 => ?_)
  obtain ⟨d, e, w3⟩ := wpX_lft w2
  obtain ⟨i, j, rfl, rfl, rfl, ok, _⟩ := lrgD_ok e
  cases h1
  cases h2
  have n := n1.trans n2
  refine ⟨i, j, rfl, rfl, ok, fun q hq => ?_⟩
  obtain ⟨n', m⟩ := Nx.lst n.s n.d hq (rg_all i j)
  exact w3 _ _ _ _ (n.trans n') m
theorem se_lrg1 (hc : X.calm = true) (hg : Gl X "list") (hm : X.mg "list" = none) (hg2 : Gl X "range") (hm2 : X.mg "range" = none) (nx : nst x = true) (a : SE C X x f) :
    SE C X (.Call (.Name "list" p1) [.Call (.Name "range" p2) [x] [] pos] [] p) fun env => bnd (f env) fun x => lft (lrgD (.int 0) x) := by
  obtain ⟨ta, pa, qa⟩ := a
  refine ⟨_, pe_listRg hc hg hm (prg_1 hg2 hm2 pa (star_ns nx _ _)), fun env ds G r σ H Q S w => ?_⟩
  refine qa env ds G r σ H _ S (wpX_mono (wpX_bnd.mp w) fun a ds1 w1 v G1 r1 H1 n1 h1 => ?_)
  obtain ⟨d, e, w3⟩ := wpX_lft w1
  obtain ⟨i, j, e1, rfl, rfl, ok, _⟩ := lrgD_ok e
  cases e1
  cases h1
  refine ⟨j, rfl, ok, fun q hq => ?_⟩
  obtain ⟨n', m⟩ := Nx.lst n1.s n1.d hq (rg_all 0 j)
  exact w3 _ _ _ _ (n1.trans n') m
end
end Ev

end
section
set_option maxHeartbeats 4000000
/-! # Ev6: calls of built-ins by values -/
namespace Ev
open PySem PySem.Spec L2
variable [TabsC]

/-! ### walks over a tuple of integers -/
section
variable {prog : Program} {w : World} {A : Around} {E : Value → Shared → Prop} {s : Shared} {l : Addr} {xs : Array (Int × Tok)}
theorem iter_intTup {Q : Value → Shared → Prop} (hl : s.heap.IsTuple l (intItems xs))
    (h : ∀ s2 : Shared, s2 = { s with heap := s.heap.push { cls := .type "tuple_iterator", data := .fields #[.ref l, .int 0 0] } } → (s2.heap.IsTupleIter s.heap.objs.size l 0 ∧ s2.heap.IsTuple l (intItems xs)) →
      (∀ b ∈ [s.heap.objs.size, l], b < s2.heap.objs.size) → l ≠ s.heap.objs.size → (∀ b o, s.heap.get? b = some o → s2.heap.get? b = some o) → Q (.ref s.heap.objs.size) s2) : wpAny (model prog w) A (pyIter (.ref l)) Q E s := by
  obtain ⟨o, ho, hc, n, hd⟩ := id hl
  have hlt : l < s.heap.objs.size := Heap.lt_size ho
  refine wpAny_pyIter_tuple hl (h _ rfl ⟨⟨_, Heap.get?_push_size _ rfl, rfl, rfl⟩, ⟨o, Heap.get?_push_of_some _ ho, hc, n, hd⟩⟩ (fun b hb => ?_) (Nat.ne_of_lt hlt) fun b o e => Heap.get?_push_of_some _ e)
  have hs : (s.heap.push { cls := .type "tuple_iterator", data := .fields #[.ref l, .int 0 0] }).objs.size = s.heap.objs.size + 1 := Heap.size_push ..
  have hb' : b = s.heap.objs.size ∨ b = l := by simpa using hb
  show b < (s.heap.push { cls := .type "tuple_iterator", data := .fields #[.ref l, .int 0 0] }).objs.size
  rw [hs]
  have hlt' : (l : Nat) < s.heap.objs.size := hlt
  rcases hb' with z | z
  · rw [z]; exact Nat.lt_succ_self _
  · rw [z]; exact Nat.lt_succ_of_lt hlt'
theorem new_kept {h2 h' : Heap} {I : Addr} (k : ∀ b o, s.heap.get? b = some o → h2.get? b = some o) (hI : s.heap.objs.size ≤ I) (hk : ∀ b o, b ∉ [I] → h2.get? b = some o → h'.get? b = some o) : ∀ b o, s.heap.get? b = some o → h'.get? b = some o := fun b o e => by
  refine hk b o (fun hm => ?_) (k b o e)
  have hb : b = I := by simpa using hm
  have := Heap.lt_size e
  rw [hb] at this
  exact absurd (Nat.lt_of_lt_of_le this hI) (Nat.lt_irrefl _)
theorem sum_intTup {Q : Value → Shared → Prop} (hh : A.handled = none) (hl : s.heap.IsTuple l (intItems xs))
    (h : ∀ h' tk t', (∀ b o, s.heap.get? b = some o → h'.get? b = some o) → Q (.int (preSum (numAt xs) xs.size) t') { s with heap := h', toks := tk }) : wpAny (model prog w) A (call (.builtin "sum") [.ref l]) Q E s := by
  refine call_sum_walkG (iter_intTup hl fun s2 e st hfp hlI k => ?_)
  subst e
  refine ⟨_, _, _, _, _, _, numAt xs, rfl, Walks.tuple (A := A.in1) hh _ l hlI (intItems xs), st, hfp, (fun _ _ => intItems_at), fun h' tk t' hk => ?_⟩
  have := h h' tk t' (new_kept k (Nat.le_refl _) hk)
  simpa [intItems] using this
theorem max_intTup {Q : Value → Shared → Prop} (hh : A.handled = none) (hl : s.heap.IsTuple l (intItems xs)) (hne : 0 < xs.size)
    (h : ∀ v h' tk, (intItems xs)[argBest (fun i j => decide (numAt xs i > numAt xs j)) (xs.size - 1)]? = some v → (∀ b o, s.heap.get? b = some o → h'.get? b = some o) → Q v { s with heap := h', toks := tk }) : wpAny (model prog w) A (call (.builtin "max") [.ref l]) Q E s := by
  refine call_max_walk (iter_intTup hl fun s2 e st hfp hlI k => ?_)
  subst e
  refine ⟨_, _, _, _, _, _, _, rfl, Walks.tuple (A := A.in1) hh _ l hlI (intItems xs), st, hfp, by simpa [intItems] using hne, CmpOf.ints_gt (numAt xs) (fun _ _ => intItems_at), fun v h' tk hP hk => ?_⟩
  exact h v h' tk (by simpa [intItems] using hP) (new_kept k (Nat.le_refl _) hk)
theorem min_intTup {Q : Value → Shared → Prop} (hh : A.handled = none) (hl : s.heap.IsTuple l (intItems xs)) (hne : 0 < xs.size)
    (h : ∀ v h' tk, (intItems xs)[argBest (fun i j => decide (numAt xs i < numAt xs j)) (xs.size - 1)]? = some v → (∀ b o, s.heap.get? b = some o → h'.get? b = some o) → Q v { s with heap := h', toks := tk }) : wpAny (model prog w) A (call (.builtin "min") [.ref l]) Q E s := by
  refine call_min_walk (iter_intTup hl fun s2 e st hfp hlI k => ?_)
  subst e
  refine ⟨_, _, _, _, _, _, _, rfl, Walks.tuple (A := A.in1) hh _ l hlI (intItems xs), st, hfp, by simpa [intItems] using hne, CmpOf.ints_lt (numAt xs) (fun _ _ => intItems_at), fun v h' tk hP hk => ?_⟩
  exact h v h' tk (by simpa [intItems] using hP) (new_kept k (Nat.le_refl _) hk)
end
section
variable {X : Cx}
def rSumT (K : PySem.W.Frag) : List V → Hp → VK → Prop := fun vs H Q => ∃ (a : Addr) (ns : List Int), vs = [V.ref a] ∧ SqT K H a (ns.map V.int) ∧ Q (.int ns.sum) H
def rMaxT (K : PySem.W.Frag) : List V → Hp → VK → Prop := fun vs H Q => ∃ (a : Addr) (ns : List Int), vs = [V.ref a] ∧ SqT K H a (ns.map V.int) ∧ 0 < ns.length ∧ ∀ m, m ∈ ns → (∀ y, y ∈ ns → y ≤ m) → Q (.int m) H
def rMinT (K : PySem.W.Frag) : List V → Hp → VK → Prop := fun vs H Q => ∃ (a : Addr) (ns : List Int), vs = [V.ref a] ∧ SqT K H a (ns.map V.int) ∧ 0 < ns.length ∧ ∀ m, m ∈ ns → (∀ y, y ∈ ns → m ≤ y) → Q (.int m) H
theorem cr_sumT (hc : X.calm = true) : CallR X (.builtin "sum") (rSumT X.K) := by
  intro pins s σ H vs us Q I r h
  obtain ⟨a, ns, rfl, hs, q⟩ := h
  obtain ⟨its, rv, hl, _⟩ := I.tuple hs
  rw [Vals.ref1 r]
  have hi := rv.ints
  obtain ⟨xs, e⟩ := hi.allInts.items
  have hn : numsOf (intItems xs).toList = ns := by rw [← e]; exact hi.numsOf
  rw [nums_intItems] at hn
  have hl' : s.heap.IsTuple a its.toArray := hl
  rw [e] at hl'
  refine sum_intTup (I.ok.hd hc) hl' fun h' tk t' hk => ?_
  rw [preSum_eq, List.take_of_length_le (by simp), hn]
  exact ⟨.int _, H, I.kept hk, ⟨_, rfl⟩, q⟩
theorem cr_maxT (hc : X.calm = true) : CallR X (.builtin "max") (rMaxT X.K) := by
  intro pins s σ H vs us Q I r h
  obtain ⟨a, ns, rfl, hs, hne, q⟩ := h
  obtain ⟨its, rv, hl, _⟩ := I.tuple hs
  rw [Vals.ref1 r]
  have hi := rv.ints
  obtain ⟨xs, e⟩ := hi.allInts.items
  have hn : numsOf (intItems xs).toList = ns := by rw [← e]; exact hi.numsOf
  rw [nums_intItems] at hn
  subst hn
  have hl' : s.heap.IsTuple a its.toArray := hl
  rw [e] at hl'
  refine max_intTup (I.ok.hd hc) hl' (by simpa using hne) fun v h' tk hv hk => ?_
  obtain ⟨t, rfl⟩ := intItems_at hv
  obtain ⟨h1, h2⟩ := argBest_gt (numAt xs) (xs.size - 1)
  have hz : 0 < xs.size := by simpa using hne
  refine ⟨.int _, H, I.kept hk, ⟨_, rfl⟩, q _ ?_ fun y hy => ?_⟩
  · rw [numAt_eq]; exact PySem.getD_mem (by rw [List.length_map, Array.length_toList]; omega)
  · obtain ⟨j, hj, rfl⟩ := mem_getD hy
    rw [List.length_map, Array.length_toList] at hj
    rw [← numAt_eq]; exact h2 j (by omega)
theorem cr_minT (hc : X.calm = true) : CallR X (.builtin "min") (rMinT X.K) := by
  intro pins s σ H vs us Q I r h
  obtain ⟨a, ns, rfl, hs, hne, q⟩ := h
  obtain ⟨its, rv, hl, _⟩ := I.tuple hs
  rw [Vals.ref1 r]
  have hi := rv.ints
  obtain ⟨xs, e⟩ := hi.allInts.items
  have hn : numsOf (intItems xs).toList = ns := by rw [← e]; exact hi.numsOf
  rw [nums_intItems] at hn
  subst hn
  have hl' : s.heap.IsTuple a its.toArray := hl
  rw [e] at hl'
  refine min_intTup (I.ok.hd hc) hl' (by simpa using hne) fun v h' tk hv hk => ?_
  obtain ⟨t, rfl⟩ := intItems_at hv
  obtain ⟨h1, h2⟩ := argBest_lt (numAt xs) (xs.size - 1)
  have hz : 0 < xs.size := by simpa using hne
  refine ⟨.int _, H, I.kept hk, ⟨_, rfl⟩, q _ ?_ fun y hy => ?_⟩
  · rw [numAt_eq]; exact PySem.getD_mem (by rw [List.length_map, Array.length_toList]; omega)
  · obtain ⟨j, hj, rfl⟩ := mem_getD hy
    rw [List.length_map, Array.length_toList] at hj
    rw [← numAt_eq]; exact h2 j (by omega)
theorem cr_repr (hg : X.A.guards = some []) (hu : X.A.units + 66 < cLine) : CallR X (.builtin "repr") (fun vs H Q => ∃ v d, vs = [v] ∧ Dp X.K H v d ∧ reprOk d = true ∧ Q (.str d.shown) H) := by
  intro pins s σ H vs us Q I r h
  obtain ⟨v, d, rfl, hd, ok, q⟩ := h
  obtain ⟨u, rfl, ru⟩ := vals1 r
  simp only [reprOk, Bool.and_eq_true, Bool.not_eq_true', decide_eq_true_eq] at ok
  obtain ⟨⟨⟨o1, o2⟩, o3⟩, o4⟩ := ok
  obtain ⟨as, rd⟩ := Dp.reads I d v u hd ru
  cases hd with
  | non => cases ru; exact P.repr_of_none ⟨.str _, H, I.tok _, ⟨_, rfl⟩, q⟩
  | bl b => cases ru; exact P.repr_of_bool ⟨.str _, H, I.tok _, ⟨_, rfl⟩, q⟩
  | int i =>
    obtain ⟨t, rfl⟩ := ru
    exact P.repr_of_int (by simpa [PyData.showable] using o1) ⟨.str _, H, I.tok _, ⟨_, rfl⟩, q⟩
  | str x =>
    obtain ⟨t, rfl⟩ := ru
    exact P.repr_of_str ⟨.str _, H, I.tok _, ⟨_, rfl⟩, q⟩ (by simpa [PyData.shown] using o4)
  | lst hs ha =>
    cases ru
    refine repr_of_reads' rd o1 (PyData.noDict_hsm o2) hg (by omega) (fun _ _ e => e) (fun h' u tk hk => ⟨.str _, H, I.kept hk, ⟨_, rfl⟩, q⟩) o4
  | tup hs ha =>
    cases ru
    refine repr_of_reads' rd o1 (PyData.noDict_hsm o2) hg (by omega) (fun _ _ e => e) (fun h' u tk hk => ⟨.str _, H, I.kept hk, ⟨_, rfl⟩, q⟩) o4
end
end Ev

end
section
set_option maxHeartbeats 4000000
/-! # Ev7: the built-ins of Bi, isinstance, own defs -/
namespace Ev
open PySem PySem.Spec L2
variable [TabsC]
section
variable {X : Cx}
theorem CallR.or {f : Value} {r r' : List V → Hp → VK → Prop} (h : CallR X f r) (h' : CallR X f r') : CallR X f (fun xs H Q => r xs H Q ∨ r' xs H Q) := by
  intro pins s σ H xs us Q I rv q
  rcases q with q | q
  · exact h pins s σ H xs us Q I rv q
  · exact h' pins s σ H xs us Q I rv q
def biN : Bi → Str
  | .abs => "abs"
  | .gcd => "gcd"
  | .int => "int"
  | .len => "len"
  | .list => "list"
  | .tuple => "tuple"
  | .max2 => "max"
  | .min2 => "min"
  | .max1 => "max"
  | .min1 => "min"
  | .sum => "sum"
  | .repr => "repr"
def biV : Bi → Value
  | .abs => .builtin "abs"
  | .gcd => .builtin "math.gcd"
  | .int => .type "int"
  | .len => .builtin "len"
  | .list => .type "list"
  | .tuple => .type "tuple"
  | .max2 => .builtin "max"
  | .min2 => .builtin "min"
  | .max1 => .builtin "max"
  | .min1 => .builtin "min"
  | .sum => .builtin "sum"
  | .repr => .builtin "repr"
def biR (K : PySem.W.Frag) : Bi → List V → Hp → VK → Prop
  | .abs => fun xs H Q => ∃ i, xs = [.int i] ∧ Q (.int (if i < 0 then -i else i)) H
  | .gcd => rGcd
  | .int => fun xs H Q => (∃ i, xs = [.int i] ∧ Q (.int i) H) ∨ ∃ k, xs = [.bl k] ∧ Q (.int (if k then 1 else 0)) H
  | .len => fun xs H Q => ∃ p ys, xs = [.ref p] ∧ (SqL K H p ys ∨ SqT K H p ys) ∧ Q (.int ys.length) H
  | .list => fun xs H Q => ∃ p ys, xs = [.ref p] ∧ (SqL K H p ys ∨ SqT K H p ys) ∧ ∀ l, H l = none → Q (.ref l) (upd H l (.lst ys))
  | .tuple => fun xs H Q => ∃ p ys, xs = [.ref p] ∧ ((SqL K H p ys ∧ ∀ l, H l = none → Q (.ref l) (upd H l (.tup ys))) ∨ (SqT K H p ys ∧ Q (.ref p) H))
  | .max2 => fun xs H Q => ∃ i j, xs = [.int i, .int j] ∧ Q (.int (if j > i then j else i)) H
  | .min2 => fun xs H Q => ∃ i j, xs = [.int i, .int j] ∧ Q (.int (if j < i then j else i)) H
  | .max1 => fun xs H Q => rMax K xs H Q ∨ rMaxT K xs H Q
  | .min1 => fun xs H Q => rMin K xs H Q ∨ rMinT K xs H Q
  | .sum => fun xs H Q => rSum K xs H Q ∨ rSumT K xs H Q
  | .repr => fun vs H Q => ∃ v d, vs = [v] ∧ Dp K H v d ∧ reprOk d = true ∧ Q (.str d.shown) H
theorem biR_ok (hc : X.calm = true) (hg : X.A.guards = some []) (hu : X.A.units + 66 < cLine) : ∀ b : Bi, CallR X (biV b) (biR X.K b)
  | .abs => call_abs
  | .gcd => cr_gcd
  | .int => call_int1
  | .len => call_len_seq
  | .list => call_list_of
  | .tuple => call_tuple_of
  | .max2 => call_max2 hc
  | .min2 => call_min2 hc
  | .max1 => (cr_max hc).or (cr_maxT hc)
  | .min1 => (cr_min hc).or (cr_minT hc)
  | .sum => (cr_sum hc).or (cr_sumT hc)
  | .repr => cr_repr hg hu
/-! ### least and greatest by folds -/
theorem maxI_ge : ∀ (xs : List Int) (x : Int), x ≤ maxI x xs ∧ (maxI x xs = x ∨ maxI x xs ∈ xs) ∧ ∀ y ∈ xs, y ≤ maxI x xs
  | [], x => ⟨Int.le_refl x, .inl rfl, fun y hy => by cases hy⟩
  | z :: zs, x => by
    have h := maxI_ge zs (if x < z then z else x)
    have e : maxI x (z :: zs) = maxI (if x < z then z else x) zs := rfl
    rw [e]
    obtain ⟨h1, h2, h3⟩ := h
    by_cases c : x < z
    · rw [if_pos c] at *
      refine ⟨by omega, ?_, fun y hy => ?_⟩
      · rcases h2 with q | q
        · exact .inr (by rw [q]; exact List.mem_cons_self)
        · exact .inr (List.mem_cons_of_mem _ q)
      · rcases List.mem_cons.mp hy with q | q
        · rw [q]; exact h1
        · exact h3 y q
    · rw [if_neg c] at *
      refine ⟨h1, ?_, fun y hy => ?_⟩
      · rcases h2 with q | q
        · exact .inl q
        · exact .inr (List.mem_cons_of_mem _ q)
      · rcases List.mem_cons.mp hy with q | q
        · rw [q]; omega
        · exact h3 y q
theorem minI_le : ∀ (xs : List Int) (x : Int), minI x xs ≤ x ∧ (minI x xs = x ∨ minI x xs ∈ xs) ∧ ∀ y ∈ xs, minI x xs ≤ y
  | [], x => ⟨Int.le_refl x, .inl rfl, fun y hy => by cases hy⟩
  | z :: zs, x => by
    have h := minI_le zs (if z < x then z else x)
    have e : minI x (z :: zs) = minI (if z < x then z else x) zs := rfl
    rw [e]
    obtain ⟨h1, h2, h3⟩ := h
    by_cases c : z < x
    · rw [if_pos c] at *
      refine ⟨by omega, ?_, fun y hy => ?_⟩
      · rcases h2 with q | q
        · exact .inr (by rw [q]; exact List.mem_cons_self)
        · exact .inr (List.mem_cons_of_mem _ q)
      · rcases List.mem_cons.mp hy with q | q
        · rw [q]; exact h1
        · exact h3 y q
    · rw [if_neg c] at *
      refine ⟨h1, ?_, fun y hy => ?_⟩
      · rcases h2 with q | q
        · exact .inl q
        · exact .inr (List.mem_cons_of_mem _ q)
      · rcases List.mem_cons.mp hy with q | q
        · rw [q]; omega
        · exact h3 y q
theorem max_is {ns : List Int} {x m : Int} {xs : List Int} (e : ns = x :: xs) (h1 : m ∈ ns) (h2 : ∀ y, y ∈ ns → y ≤ m) : m = maxI x xs := by
  subst e
  obtain ⟨a, b, c⟩ := maxI_ge xs x
  have l : m ≤ maxI x xs := by
    rcases List.mem_cons.mp h1 with q | q
    · rw [q]; exact a
    · exact c m q
  have u : maxI x xs ≤ m := by
    rcases b with q | q
    · rw [q]; exact h2 x List.mem_cons_self
    · exact h2 _ (List.mem_cons_of_mem _ q)
  omega
theorem min_is {ns : List Int} {x m : Int} {xs : List Int} (e : ns = x :: xs) (h1 : m ∈ ns) (h2 : ∀ y, y ∈ ns → m ≤ y) : m = minI x xs := by
  subst e
  obtain ⟨a, b, c⟩ := minI_le xs x
  have l : minI x xs ≤ m := by
    rcases List.mem_cons.mp h1 with q | q
    · rw [q]; exact a
    · exact c m q
  have u : m ≤ minI x xs := by
    rcases b with q | q
    · rw [q]; exact h2 x List.mem_cons_self
    · exact h2 _ (List.mem_cons_of_mem _ q)
  omega
section
variable {K : PySem.W.Frag} {G H : Hp} {r : Option DA} {ds : Option DS} {vs : List V}
theorem DqOs.one {d : D} (h : DqOs K G r H vs [d]) : ∃ v, vs = [v] ∧ DqO K G r H v d := by
  cases h with
  | cons a b => cases b; exact ⟨_, rfl, a⟩
theorem DqOs.two {d e : D} (h : DqOs K G r H vs [d, e]) : ∃ v u, vs = [v, u] ∧ DqO K G r H v d ∧ DqO K G r H u e := by
  cases h with
  | cons a b =>
    obtain ⟨u, rfl, q⟩ := b.one
    exact ⟨_, u, rfl, a, q⟩
end
/-- what a built-in answers -/
theorem bi_raw (b : Bi) {es : List D} {d : D} {vs : List V} {ds : Option DS} {G H : Hp} {r : Option DA} {Q : VK} (s : Same G H) (dr : DrOk ds G r H) (ha : DqOs X.K G r H vs es) (e : biD b es = some d)
    (kL : ∀ fs, b = .list → d = .list fs → ∀ p ys, H p = none → DqAll X.K G r ys fs → Q (.ref p) (upd H p (.lst ys))) (k : b ≠ .list → ∀ v' G' r' H', Nx G r H ds G' r' H' → Dq X.K G' r' v' d → Q v' H') : biR X.K b vs H Q := by
  have done : ∀ {v' : V}, b ≠ .list → Dq X.K G r v' d → Q v' H := fun {v'} n m => k n v' G r H (Nx.refl s dr) m
  unfold biD at e
  split at e
  · cases e; obtain ⟨v, rfl, q⟩ := ha.one; cases q.int
    exact ⟨_, rfl, done (by decide) (.int _)⟩
  · cases e; obtain ⟨v, u, rfl, q, q2⟩ := ha.two; cases q.int; cases q2.int
    exact ⟨_, _, rfl, done (by decide) (.int _)⟩
  · cases e; obtain ⟨v, rfl, q⟩ := ha.one; cases q.int
    exact .inl ⟨_, rfl, done (by decide) (.int _)⟩
  · cases e; obtain ⟨v, rfl, q⟩ := ha.one; cases q.bl
    exact .inr ⟨_, rfl, done (by decide) (.int _)⟩
  · cases e; obtain ⟨v, rfl, q⟩ := ha.one; obtain ⟨p, ws, rfl, e1, q1, n1⟩ := q.list s dr
    exact ⟨_, ws, rfl, .inl (.inl (.inl e1)), by rw [q1.length]; exact done (by decide) (.int _)⟩
  · cases e; obtain ⟨v, rfl, q⟩ := ha.one; obtain ⟨p, ws, rfl, e1, q1⟩ := q.tup
    exact ⟨_, ws, rfl, .inr (SqT.more s e1), by rw [q1.length]; exact done (by decide) (.int _)⟩
  · cases e; obtain ⟨v, rfl, q⟩ := ha.one; obtain ⟨p, ws, rfl, e1, q1, n1⟩ := q.list s dr
    exact ⟨_, ws, rfl, .inl (.inl (.inl e1)), fun l hl => kL _ rfl rfl l _ hl q1⟩
  · cases e; obtain ⟨v, rfl, q⟩ := ha.one; obtain ⟨p, ws, rfl, e1, q1⟩ := q.tup
    exact ⟨_, ws, rfl, .inr (SqT.more s e1), fun l hl => kL _ rfl rfl l _ hl q1⟩
  · cases e; obtain ⟨v, rfl, q⟩ := ha.one; obtain ⟨p, ws, rfl, e1, q1, n1⟩ := q.list s dr
    refine ⟨_, ws, rfl, .inl ⟨.inl (.inl e1), fun l hl => ?_⟩⟩
    obtain ⟨n, m⟩ := Nx.tup s dr hl q1
    exact k (by decide) _ _ _ _ n m
  · cases e; obtain ⟨v, rfl, q⟩ := ha.one; obtain ⟨p, ws, rfl, e1, q1⟩ := q.tup
    exact ⟨_, ws, rfl, .inr ⟨SqT.more s e1, done (by decide) (.tup e1 q1)⟩⟩
  · cases e; obtain ⟨v, u, rfl, q, q2⟩ := ha.two; cases q.int; cases q2.int
    exact ⟨_, _, rfl, done (by decide) (.int _)⟩
  · cases e; obtain ⟨v, u, rfl, q, q2⟩ := ha.two; cases q.int; cases q2.int
    exact ⟨_, _, rfl, done (by decide) (.int _)⟩
  · obtain ⟨v, rfl, q⟩ := ha.one; obtain ⟨p, ws, rfl, e1, q1, n1⟩ := q.list s dr
    unfold maxD at e
    split at e
    · rename_i i is ez
      cases e
      have ew := q1.ints ez
      subst ew
      refine .inl ⟨_, _, rfl, .inl (.inl e1), by simp, fun m h1 h2 => ?_⟩
      rw [max_is rfl h1 h2]
      exact done (by decide) (.int _)
    · cases e
  · obtain ⟨v, rfl, q⟩ := ha.one; obtain ⟨p, ws, rfl, e1, q1⟩ := q.tup
    unfold maxD at e
    split at e
    · rename_i i is ez
      cases e
      have ew := q1.ints ez
      subst ew
      refine .inr ⟨_, _, rfl, SqT.more s e1, by simp, fun m h1 h2 => ?_⟩
      rw [max_is rfl h1 h2]
      exact done (by decide) (.int _)
    · cases e
  · obtain ⟨v, rfl, q⟩ := ha.one; obtain ⟨p, ws, rfl, e1, q1, n1⟩ := q.list s dr
    unfold minD at e
    split at e
    · rename_i i is ez
      cases e
      have ew := q1.ints ez
      subst ew
      refine .inl ⟨_, _, rfl, .inl (.inl e1), by simp, fun m h1 h2 => ?_⟩
      rw [min_is rfl h1 h2]
      exact done (by decide) (.int _)
    · cases e
  · obtain ⟨v, rfl, q⟩ := ha.one; obtain ⟨p, ws, rfl, e1, q1⟩ := q.tup
    unfold minD at e
    split at e
    · rename_i i is ez
      cases e
      have ew := q1.ints ez
      subst ew
      refine .inr ⟨_, _, rfl, SqT.more s e1, by simp, fun m h1 h2 => ?_⟩
      rw [min_is rfl h1 h2]
      exact done (by decide) (.int _)
    · cases e
  · obtain ⟨v, rfl, q⟩ := ha.one; obtain ⟨p, ws, rfl, e1, q1, n1⟩ := q.list s dr
    unfold sumD at e
    obtain ⟨is, ez, rfl⟩ := Option.map_eq_some_iff.mp e
    have ew := q1.ints ez
    subst ew
    exact .inl ⟨_, _, rfl, .inl (.inl e1), done (by decide) (.int _)⟩
  · obtain ⟨v, rfl, q⟩ := ha.one; obtain ⟨p, ws, rfl, e1, q1⟩ := q.tup
    unfold sumD at e
    obtain ⟨is, ez, rfl⟩ := Option.map_eq_some_iff.mp e
    have ew := q1.ints ez
    subst ew
    exact .inr ⟨_, _, rfl, SqT.more s e1, done (by decide) (.int _)⟩
  · obtain ⟨v, rfl, q⟩ := ha.one
    split at e
    · rename_i ok
      cases e
      have ok' := ok
      simp only [reprOk, Bool.and_eq_true, Bool.not_eq_true', decide_eq_true_eq] at ok'
      have nd := ok'.1.1.2
      exact ⟨_, _, rfl, q.dp s nd, ok, done (by decide) (.str _)⟩
    · cases e
  · cases e
end
section
variable {C : Cz} {T : Tb} {X : Cx} {x : Expr} {xs : List Expr} {F : Env → M (List D)} {pos p : Pos}
theorem bi_boot : ∀ b : Bi, b ≠ .gcd → biN b ∈ bnames ∧ bootBuiltins (biN b) = some (biV b) ∧ biN b ≠ "__name__" ∧ (biN b == ("__debug__" : Str)) = false := by
  intro b hb
  cases b <;> first | exact absurd rfl hb | decide +kernel
theorem pe_bi (h : XOk C T X) (b : Bi) (hq : b = .gcd → C.gcd = true) (hg : gl C (biN b) = true) (hn : nsts (x :: xs) = true) {t : TA} (pa : PA X (x :: xs) t) : PE X (.Call (.Name (biN b) p) (x :: xs) [] pos) (tCB (biR X.K b) t) := by
  have hu : X.A.units + 66 < cLine := by have := h.room.un; omega
  have hc := biR_ok (X := X) h.calm h.grd hu b
  have hn2 : nst x = true ∧ nsts xs = true := by simpa [nsts] using hn
  have he := star_ns hn2.1 xs X.env
  have hpl := nsts_plain hn2.2 X.env pos
  by_cases hb : b = .gcd
  · subst hb
    exact pe_callBfun hc (gl_ok h hg) (h.gcd (hq rfl)) pa (by decide +kernel) he hpl
  · obtain ⟨h1, h2, h3, h4⟩ := bi_boot b hb
    have hm := h.bl _ h1
    cases b with
    | gcd => exact absurd rfl hb
    | int => exact pe_callTy hc (gl_ok h hg) hm h2 pa h3 h4 he hpl
    | list => exact pe_callTy hc (gl_ok h hg) hm h2 pa h3 h4 he hpl
    | tuple => exact pe_callTy hc (gl_ok h hg) hm h2 pa h3 h4 he hpl
    | _ => exact pe_callB hc (gl_ok h hg) hm h2 pa h3 h4 he hpl
theorem se_bi (h : XOk C T X) (b : Bi) (hq : b = .gcd → C.gcd = true) (hb : b ≠ .list) (hg : gl C (biN b) = true) (hn : nsts (x :: xs) = true) (a : SAO C X (x :: xs) F) : SE C X (.Call (.Name (biN b) p) (x :: xs) [] pos) fun env => bnd (F env) fun es => lft (biD b es) := by
  obtain ⟨t, pa, q⟩ := a
  refine ⟨_, pe_bi h b hq hg hn pa, fun env ds G r σ H Q S w => ?_⟩
  refine q env ds G r σ H _ S (wpX_mono (wpX_bnd.mp w) fun es ds1 w1 vs G1 r1 H1 n1 h1 => ?_)
  obtain ⟨d, e, w2⟩ := wpX_lft w1
  exact bi_raw b n1.s n1.d h1 e (fun fs hb' => absurd hb' hb) fun _ v' G' r' H' n m => w2 v' G' r' H' (n1.trans n) m
theorem sr_bi (h : XOk C T X) (hg : gl C (biN .list) = true) (hn : nsts (x :: xs) = true) (a : SAO C X (x :: xs) F) : SR C X (.Call (.Name (biN .list) p) (x :: xs) [] pos) fun env => bnd (F env) fun es => lft (biD .list es) := by
  obtain ⟨t, pa, q⟩ := a
  refine ⟨_, pe_bi h .list (fun z => by cases z) hg hn pa, fun env ds G r σ H Q S w => ?_⟩
  refine q env ds G r σ H _ S (wpX_mono (wpX_bnd.mp w) fun es ds1 w1 vs G1 r1 H1 n1 h1 => ?_)
  obtain ⟨d, e, fs, ed, w2⟩ := wpX_lft w1
  exact bi_raw .list n1.s n1.d h1 e (fun fs' _ ed' p ys hp hq => by
    rw [ed] at ed'
    cases ed'
    exact w2 p ys _ _ _ n1 hp hq) fun hb => absurd rfl hb
end
end Ev

end
section
set_option maxHeartbeats 4000000
/-! # Ev8: isinstance; calls of own defs, by place and by name -/
namespace Ev
open PySem PySem.Spec L2
variable [TabsC]
def tyN : Ty → String
  | .int => "int"
  | .bool => "bool"
  | .str => "str"
  | .tuple => "tuple"
  | .list => "list"
/-- the name of a datum's type -/
def dTy : D → Option String
  | .none => some "NoneType"
  | .bool _ => some "bool"
  | .int _ => some "int"
  | .str _ => some "str"
  | .list _ => some "list"
  | .tuple _ => some "tuple"
  | .dict ps => if isEmp ps then some "dict" else none
theorem isiD_kit {t : Ty} {d : D} {b : Bool} (e : isiD t d = some b) : ∃ n, dTy d = some n ∧ kitB n (tyN t) = some b := by
  cases d with
  | dict ps =>
    have e' : (if isEmp ps then some false else none) = some b := e
    have f' : dTy (.dict ps) = if isEmp ps then some "dict" else none := rfl
    by_cases z : isEmp ps = true
    · rw [if_pos z] at e' f'
      cases e'
      refine ⟨_, f', ?_⟩
      cases t <;> decide +kernel
    · rw [if_neg z] at e'
      cases e'
  | _ => cases t <;> (cases e <;> exact ⟨_, rfl, by decide +kernel⟩)
section
variable {K : PySem.W.Frag} {G H : Hp} {r : Option DA}
theorem DqO.tyx {v : V} {d : D} {n : String} (h : DqO K G r H v d) (s : Same G H) (e : dTy d = some n) : TyX K H v (.type n) := by
  cases d with
  | none => cases e; cases h.non; exact .base .non
  | bool b => cases e; cases h.bl; exact .base (.bl b)
  | int i => cases e; cases h.int; exact .base (.int i)
  | str x => cases e; cases h.str; exact .base (.str x)
  | list es =>
    cases e
    rcases h with h | ⟨fs, ef, a, xs, rfl, e2, _⟩
    · cases h with
      | lst e q => exact .base (.lst (s _ _ e))
    · exact .base (.lst e2)
  | tuple es =>
    cases e
    obtain ⟨a, xs, rfl, h1, h2⟩ := h.tup
    rcases h1 with (h1 | ⟨o, h1⟩) | ⟨o, its, m, h1, h2, _⟩
    · exact .base (.tup (s _ _ h1))
    · exact .fTuple (s _ _ h1)
    · exact .kTuple h1 h2
  | dict ps =>
    have e' : (if isEmp ps then some "dict" else none) = some n := e
    by_cases z : isEmp ps = true
    · rw [if_pos z] at e'
      cases e'
      rcases h with h | ⟨es, z2, _⟩
      · cases h with
        | emp q => exact .base (.dK (s _ _ q))
        | drw => exact absurd z (by decide)
        | scr0 => exact absurd z (by decide)
        | fnv => exact absurd z (by
            intro y
            unfold isEmp at y
            split at y
            · rename_i w
              simp at w
            · cases y)
        | scr => exact absurd z (by
            intro y
            unfold isEmp at y
            split at y
            · rename_i w
              simp at w
            · cases y)
      · cases z2
    · rw [if_neg z] at e'
      cases e'
end
section
variable {C : Cz} {T : Tb} {X : Cx} {x : Expr} {xs : List Expr} {f : Env → M D} {F : Env → M (List D)} {pos p p2 : Pos}
theorem ty_boot : ∀ t : Ty, (Str.ofString (tyN t)) ∈ bnames ∧ bootBuiltins (Str.ofString (tyN t)) = some (.type (tyN t)) ∧ Str.ofString (tyN t) ≠ "__name__" ∧ (Str.ofString (tyN t) == ("__debug__" : Str)) = false := by
  intro t
  cases t <;> decide +kernel
theorem isi_raw {t : Ty} (h : XOk C T X) (hg : gl C "isinstance" = true) (hg2 : gl C (Str.ofString (tyN t)) = true) (hn : nst x = true) {ta : TE} (pa : PE X x ta) :
    PE X (.Call (.Name "isinstance" p) [x, .Name (Str.ofString (tyN t)) p2] [] pos) (tCB (rIsi X.K) (tCons ta (tCons (tC (.ty (tyN t))) tNil))) := by
  obtain ⟨h1, h2, h3, h4⟩ := ty_boot t
  have pt : PE X (.Name (Str.ofString (tyN t)) p2) (tC (.ty (tyN t))) := pe_bltn (gl_ok h hg2) (h.bl _ h1) h2 rfl h3 h4
  exact pe_callB call_isi (gl_ok h hg) (h.bl _ (by decide +kernel)) (by decide +kernel) (pa_cons pa (pa_cons pt pa_nil) (star_ns hn _ _)) (by decide +kernel) (by decide +kernel) (star_ns hn _ _) (nsts_plain (es := [.Name (Str.ofString (tyN t)) p2]) rfl X.env pos)
theorem se_isi {t : Ty} (h : XOk C T X) (hg : gl C "isinstance" = true) (hg2 : gl C (Str.ofString (tyN t)) = true) (hn : nst x = true) (a : SO C X x f) :
    SE C X (.Call (.Name "isinstance" p) [x, .Name (Str.ofString (tyN t)) p2] [] pos) fun env => bnd (f env) fun x => lft ((isiD t x).map .bool) := by
  obtain ⟨ta, pa, q⟩ := a
  refine ⟨_, isi_raw h hg hg2 hn pa, fun env ds G r σ H Q S w => ?_⟩
  refine q env ds G r σ H _ S (wpX_mono (wpX_bnd.mp w) fun a ds1 w1 v G1 r1 H1 n1 h1 => ?_)
  obtain ⟨d, e, w2⟩ := wpX_lft w1
  obtain ⟨b, e1, rfl⟩ := Option.map_eq_some_iff.mp e
  obtain ⟨n, e2, e3⟩ := isiD_kit e1
  exact ⟨v, .ty (tyN t), .type n, .type (tyN t), b, rfl, .ty _, h1.tyx n1.s e2, kit_ty e3, w2 _ _ _ _ n1 (.bl b)⟩

/-! ### own defs -/
/-- what a call hands over -/
def spG (X : Cx) (σ : St) (fn : Fn) (vs : List V) (H : Hp) (Q : VK) : Prop := ∃ (xs : List D) (ds : Option DS) (G : Hp) (r : Option DA), xs.length = fn.ps.length ∧ Same G H ∧ DrOk ds G r H ∧ DqAll X.K G r vs xs ∧
  wpX (EX X σ G r H) (fn.m xs ds) (fun d ds' => ∀ v G' r' H', Nx G r H ds' G' r' H' → Dq X.K G' r' v d → Q v H')
theorem fn_run {k : Nat} {a : Addr} {fd : FuncData} {fn : Fn} {pins : List (Addr × Obj)} {s : Shared} {σ : St} {H : Hp} {Q : VK} {args : Args} {us : List Value} {vs : List V} (grd : X.A.guards = some []) (room : Room k X.A)
    (g : FnG X.prog X.w X.K X.mg X.base k a fd fn) (b : BindsTo s fd args (fn.ps.zip us)) (rv : Vals vs us) (I : L2.Inv X pins σ H s) (sp : spG X σ fn vs H Q) :
    wpAny (model X.prog X.w) X.A (call (.ref a) args.pos args.kw) (EP X pins σ Q) X.xe s := by
  obtain ⟨xs, ds, G, r, l, sm, dr, q, w⟩ := sp
  refine wpAny_call (codeAny_mono (g.run X.A X.stack s H args us vs Q (WE (wXp X) σ) xs ds G r room grd I.env0 b rv l sm dr q w) fun res s' hq => ?_)
  match res, hq with
  | .ok (.ret u), hq => exact I.after hq
  | .error e, hq => exact passAt takes_wX σ pins H s e s' I hq
def tCallG (X : Cx) (fn : Fn) (t : TA) : TE := fun σ H Q => t σ H fun vs H1 => spG X σ fn vs H1 Q
theorem pe_callG {fn : Fn} {t : TA} {n : Str} (h : XOk C T X) (hf : FnH X fn) (en : n = fn.name) (hg : gl C n = true) (hd : (n == ("__debug__" : Str)) = false) (hn : nsts (x :: xs) = true) (pa : PA X (x :: xs) t) : PE X (.Call (.Name n p) (x :: xs) [] pos) (tCallG X fn t) := by
  subst en
  obtain ⟨k, a, fd, room, g, b, m, kp⟩ := hf.ex
  refine ⟨fun pins s σ H Q I w => wpAny_Call_Name_kw (ld_glob I (gl_ok h hg) m ?_ hd)⟩
  have fin : ∀ {us : List Value} {vs : List V} {s1 : Shared} {H1 : Hp}, L2.Inv X pins σ H1 s1 → Vals vs us → spG X σ fn vs H1 Q → wpAny (model X.prog X.w) X.A (call (.ref a) us) (EP X pins σ Q) X.xe s1 := fun {us vs s1 H1} I1 rv sp => by
    have l : us.length = fn.ps.length := by
      obtain ⟨ys, _, _, _, l, _, _, q, _⟩ := id sp
      rw [← rv.length, q.length, l]
    exact fn_run (args := ⟨us, []⟩) h.grd room g (b.pos s1 us l) rv I1 sp
  have hn2 : nst x = true ∧ nsts xs = true := by simpa [nsts] using hn
  refine PySem.W.callWith_K (h₀ := X.base) I.ok.mod.kin kp ?_ (star_ns hn2.1 xs X.env) (nsts_plain hn2.2 X.env pos)
  exact thn (pa.run pos pins s σ H _ I w) fun us s1 q => by
    obtain ⟨vs, H1, I1, rv, sp⟩ := q
    exact ⟨I1.kIn, fin I1 rv sp⟩
theorem pe_callG0 {fn : Fn} {n : Str} (h : XOk C T X) (hf : FnH X fn) (en : n = fn.name) (hg : gl C n = true) (hd : (n == ("__debug__" : Str)) = false) : PE X (.Call (.Name n p) [] [] pos) fun σ H Q => spG X σ fn [] H Q := by
  subst en
  obtain ⟨k, a, fd, room, g, b, m, kp⟩ := hf.ex
  refine ⟨fun pins s σ H Q I sp => wpAny_Call_Name_kw (ld_glob I (gl_ok h hg) m ?_ hd)⟩
  refine PySem.W.callWith_K0 I.kIn kp ?_
  have l : ([] : List Value).length = fn.ps.length := by
    obtain ⟨ys, _, _, _, l, _, _, q, _⟩ := id sp
    have := q.length
    simp at this ⊢
    omega
  exact fn_run (args := ⟨[], []⟩) h.grd room g (b.pos s [] l) .nil I sp
theorem argsOf_nil {α : Type} {n : Nat} {xs as : List α} (e : argsOf n xs [] = some as) : as = xs ∧ xs.length = n := by
  unfold argsOf at e
  split at e
  · rename_i h
    simp [kwRow] at e
    exact ⟨e.symm, by simpa using h⟩
  · cases e
/-- f(e, ..) -/
theorem se_call {fn : Fn} {n : Str} (h : XOk C T X) (hf : FnH X fn) (en : n = fn.name) (hg : gl C n = true) (hd : (n == ("__debug__" : Str)) = false) (hn : nsts (x :: xs) = true) (a : SA C X (x :: xs) F) :
    SE C X (.Call (.Name n p) (x :: xs) [] pos) fun env => bnd (F env) fun ys => bnd (ret []) fun kv => bnd (lft (argsOf fn.ps.length ys kv)) fn.m := by
  obtain ⟨t, pa, q⟩ := a
  refine ⟨_, pe_callG h hf en hg hd hn pa, fun env ds G r σ H Q S w => ?_⟩
  refine q env ds G r σ H _ S (wpX_mono (wpX_bnd.mp w) fun es ds1 w1 vs G1 r1 H1 n1 h1 => ?_)
  obtain ⟨as, e, w2⟩ := wpX_lft (wpX_bnd.mp w1)
  obtain ⟨rfl, l⟩ := argsOf_nil e
  exact ⟨as, ds1, G1, r1, l, n1.s, n1.d, h1, wpX_mono w2 fun d ds' k v G' r' H' n2 m => k v G' r' H' (n1.trans n2) m⟩

/-! ### a call to which one's own lists are lent -/
theorem SqT.less {K : PySem.W.Frag} {G G3 : Hp} {a : Addr} {xs : List V} (k : ∀ b, G3 b = G b ∨ ∃ ys, G b = some (.lst ys)) (h : SqT K G a xs) : SqT K G3 a xs := by
  have at_ : ∀ b o, G b = some o → (∀ ys, o ≠ .lst ys) → G3 b = some o := fun b o e n => by
    rcases k b with z | ⟨ys, z⟩
    · rw [z]; exact e
    · rw [z] at e; cases e; exact absurd rfl (n ys)
  rcases h with (h | ⟨o, h⟩) | h
  · exact .inl (.inl (at_ _ _ h fun ys z => by cases z))
  · exact .inl (.inr ⟨o, at_ _ _ h fun ys z => by cases z⟩)
  · exact .inr h
mutual
theorem Dq.less {K : PySem.W.Frag} {G G3 : Hp} {r : Option DA} (k : ∀ b, G3 b = G b ∨ ∃ ys, G b = some (.lst ys)) : ∀ (d : D) (v : V), Dq K G r v d → noL d = true → Dq K G3 r v d
  | .none, _, .non, _ => .non
  | .bool _, _, .bl b, _ => .bl b
  | .int _, _, .int i, _ => .int i
  | .str _, _, .str x, _ => .str x
  | .list ds, _, .lst h t, n => by simp [noL] at n
  | .tuple ds, _, .tup h t, n => .tup (SqT.less k h) (DqAll.less k ds _ t (by simpa [noL] using n))
  | .dict _, _, _, n => by simp [noL] at n
theorem DqAll.less {K : PySem.W.Frag} {G G3 : Hp} {r : Option DA} (k : ∀ b, G3 b = G b ∨ ∃ ys, G b = some (.lst ys)) : ∀ (ds : List D) (vs : List V), DqAll K G r vs ds → noLs ds = true → DqAll K G3 r vs ds
  | [], _, .nil, _ => .nil
  | d :: ds, _, .cons h t, n => by
    have n' : noL d = true ∧ noLs ds = true := by simpa [noLs] using n
    exact .cons (Dq.less k d _ h n'.1) (DqAll.less k ds _ t n'.2)
end
/-- the part of the heap in which the lent lists are data -/
structure Lent (K : PySem.W.Frag) (G : Hp) (r : Option DA) (H : Hp) (vs : List V) (ds : List D) (G2 : Hp) : Prop where
  q : DqAll K G2 r vs ds
  g : Same G G2
  s : Same G2 H
  l : ∀ b, G b = none → G2 b ≠ none → (∃ ys, H b = some (.lst ys)) ∧ notDA r b
theorem DqOs.lent {K : PySem.W.Frag} {G H : Hp} {r : Option DA} {vs : List V} {ds : List D} (h : DqOs K G r H vs ds) (s : Same G H) : ∃ G2, Lent K G r H vs ds G2 := by
  induction h with
  | nil => exact ⟨G, .nil, Same.refl G, s, fun b e n => absurd e n⟩
  | @cons v vs d ds a _ ih =>
    obtain ⟨G2, L⟩ := ih
    rcases a with a | ⟨es, rfl, p, xs, rfl, e2, e3, e4⟩
    · exact ⟨G2, .cons (a.more L.g (.inr rfl)) L.q, L.g, L.s, L.l⟩
    · have g3 : Same G2 (upd G2 p (.lst xs)) := fun b o e => by
        by_cases z : b = p
        · subst z
          have := L.s _ _ e
          rw [e2] at this
          cases this
          exact upd_same
        · rw [upd_ne z]; exact e
      refine ⟨upd G2 p (.lst xs), .cons (.lst upd_same (e3.more (L.g.trans g3) (.inr rfl))) (L.q.more g3 (.inr rfl)), L.g.trans g3, fun b o e => ?_, fun b e n => ?_⟩
      · by_cases z : b = p
        · subst z; rw [upd_same] at e; cases e; exact e2
        · rw [upd_ne z] at e; exact L.s _ _ e
      · by_cases z : b = p
        · subst z; exact ⟨⟨xs, e2⟩, e4⟩
        · rw [upd_ne z] at n; exact L.l b e n
theorem Lent.drw {K : PySem.W.Frag} {G H G2 : Hp} {r : Option DA} {vs : List V} {es : List D} {ds : Option DS} (L : Lent K G r H vs es G2) (d : DrOk ds G r H) : DrOk ds G2 r H :=
  d.part fun a n e => by
    cases q : G2 a with
    | none => rfl
    | some o => exact absurd (L.l a e (by rw [q]; simp)).2 n
open Classical in
/-- the lent lists taken back -/
noncomputable def back (G G2 G' : Hp) : Hp := fun b => if G b = none ∧ G2 b ≠ none then none else G' b
theorem Lent.back {K : PySem.W.Frag} {G H G2 G' H' : Hp} {r r' : Option DA} {vs : List V} {es : List D} {ds' : Option DS} (L : Lent K G r H vs es G2) (n : Nx G2 r H ds' G' r' H') : Nx G r H ds' (Ev.back G G2 G') r' H' := by
  have sub : ∀ b o, Ev.back G G2 G' b = some o → G' b = some o := fun b o e => by
    unfold Ev.back at e
    split at e
    · cases e
    · exact e
  refine ⟨fun b o e => ?_, n.e, n.h, n.k, fun b e => ?_, n.n, fun b o e => n.s _ _ (sub b o e), ?_⟩
  · unfold Ev.back
    rw [if_neg fun z => by rw [e] at z; cases z.1]
    exact n.g _ _ (L.g _ _ e)
  · unfold Ev.back at e
    split at e
    · exact absurd rfl e
    · rename_i c
      rcases n.f b e with z | z
      · by_cases w : G b = none
        · exact absurd ⟨w, z⟩ c
        · exact .inl w
      · exact .inr z
  · have d := n.d
    have none_ : ∀ a, G' a = none → Ev.back G G2 G' a = none := fun a e => by
      unfold Ev.back
      split
      · rfl
      · exact e
    exact d.part fun a _ e => none_ a e
theorem Lent.less {K : PySem.W.Frag} {G H G2 G' H' : Hp} {r r' : Option DA} {vs : List V} {es : List D} {ds' : Option DS} (L : Lent K G r H vs es G2) (n : Nx G2 r H ds' G' r' H') (b : Addr) : Ev.back G G2 G' b = G' b ∨ ∃ ys, G' b = some (.lst ys) := by
  unfold Ev.back
  split
  · rename_i c
    obtain ⟨⟨ys, e⟩, _⟩ := L.l b c.1 c.2
    cases q : G2 b with
    | none => exact absurd q c.2
    | some o =>
      have := L.s _ _ q
      rw [e] at this
      cases this
      exact .inr ⟨ys, n.g _ _ q⟩
  · exact .inl rfl
theorem se_callL {fn : Fn} {n : Str} (h : XOk C T X) (hf : FnH X fn) (en : n = fn.name) (hg : gl C n = true) (hd : (n == ("__debug__" : Str)) = false) (hn : nsts (x :: xs) = true) (a : SAO C X (x :: xs) F) :
    SE C X (.Call (.Name n p) (x :: xs) [] pos) fun env => bnd (F env) fun ys => bnd (nox (bnd (lft (argsOf fn.ps.length ys [])) fn.m)) fun d => lft (if noL d then some d else none) := by
  obtain ⟨t, pa, q⟩ := a
  refine ⟨_, pe_callG h hf en hg hd hn pa, fun env ds G r σ H Q S w => ?_⟩
  refine q env ds G r σ H _ S (wpX_mono (wpX_bnd.mp w) fun es ds1 w1 vs G1 r1 H1 n1 h1 => ?_)
  obtain ⟨as, e, w2⟩ := wpX_lft (wpX_bnd.mp (wpX_nox.mp (wpX_bnd.mp w1)))
  obtain ⟨rfl, l⟩ := argsOf_nil e
  obtain ⟨G2, L⟩ := h1.lent n1.s
  refine ⟨as, ds1, G2, r1, l, L.s, L.drw n1.d, L.q, wpX_mono w2 (fun d ds' k v G' r' H' n2 m => ?_) fun _ _ z => False.elim z⟩
  obtain ⟨d', e', k'⟩ := wpX_lft k
  split at e'
  · rename_i hz
    cases e'
    exact k' v _ r' H' (n1.trans (L.back n2)) (Dq.less (L.less n2) d v m hz)
  · cases e'
theorem se_call0 {fn : Fn} {n : Str} (h : XOk C T X) (hf : FnH X fn) (en : n = fn.name) (hg : gl C n = true) (hd : (n == ("__debug__" : Str)) = false) :
    SE C X (.Call (.Name n p) [] [] pos) fun env => bnd (ret []) fun ys => bnd (ret []) fun kv => bnd (lft (argsOf fn.ps.length ys kv)) fn.m := by
  refine ⟨_, pe_callG0 h hf en hg hd, fun env ds G r σ H Q S w => ?_⟩
  have w1 : wpX (EX X σ G r H) (bnd (lft (argsOf fn.ps.length [] [])) fn.m ds) _ := w
  obtain ⟨as, e, w2⟩ := wpX_lft (wpX_bnd.mp w1)
  obtain ⟨rfl, l⟩ := argsOf_nil e
  exact ⟨[], ds, G, r, l, S.sub, S.drw, .nil, wpX_mono w2 fun d ds' k v G' r' H' n2 m => k v G' r' H' n2 m⟩
/-! ### by name -/
theorem sk_nil : SK C X [] [] fun _ => ret [] := ⟨_, pk_nil, fun env ds G r σ H Q S w => by
  obtain ⟨es, _, l, k⟩ := wpX_ret w
  cases es with
  | nil => exact k _ _ _ _ (Nx.refl S.sub S.drw) .nil
  | cons => cases l⟩
theorem sk_cons {ks : List Keyword} {js : List Nat} {j : Nat} {nm : Option Str} {kp : Pos} {g : Env → M (List (Nat × D))} (a : SE C X x f) (b : SK C X ks js g) : SK C X (⟨nm, x, kp⟩ :: ks) (j :: js) fun env => bnd (f env) fun d => bnd (g env) fun kv => ret ((j, d) :: kv) := by
  obtain ⟨ta, pa, qa⟩ := a
  obtain ⟨tb, pb, qb⟩ := b
  refine ⟨_, pk_cons pa pb, fun env ds G r σ H Q S w => ?_⟩
  refine qa env ds G r σ H _ S (wpX_mono (wpX_bnd.mp w) fun d ds1 w1 v G1 r1 H1 n1 h1 => ?_)
  refine qb env ds1 G1 r1 σ H1 _ (n1.sim S) (wpX_mono (wpX_bnd.mp w1) fun kv ds2 w2 => ?_)
  obtain ⟨es, ek, l, k⟩ := wpX_ret w2
  cases es with
  | nil => cases l
  | cons e es =>
    have ek' : (j, d) = (j, e) ∧ kv = js.zip es := by simpa [List.zip_cons_cons] using ek
    obtain ⟨e1, e2⟩ := ek'
    cases e1
    exact ⟨es, e2, by simpa using l, fun vs G' r' H' n2 h2 => k _ _ _ _ (n1.trans n2) (.cons (h1.more n2.g n2.e) h2)⟩
section
variable {α β : Type} {Rl : α → β → Prop}
theorem kwFind_rel {j : Nat} : ∀ {js : List Nat} {zs : List α} {es : List β} {e : β}, Paired Rl zs es → kwFind j (js.zip es) = some e → ∃ z, kwFind j (js.zip zs) = some z ∧ Rl z e
  | [], _, _, _, _, h => by simp [kwFind] at h
  | _ :: _, _, _, _, .nil, h => by simp [kwFind] at h
  | i :: js, z :: zs, e :: es, e', .cons q t, h => by
    simp only [List.zip_cons_cons, kwFind] at h ⊢
    by_cases c : i = j
    · rw [if_pos c] at h ⊢
      cases h
      exact ⟨z, rfl, q⟩
    · rw [if_neg c] at h ⊢
      exact kwFind_rel t h
theorem kwRow_rel {js : List Nat} {zs : List α} {es : List β} (q : Paired Rl zs es) : ∀ (k n : Nat) {as : List β}, kwRow (js.zip es) n k = some as → ∃ bs, kwRow (js.zip zs) n k = some bs ∧ Paired Rl bs as
  | 0, n, as, h => by
    simp [kwRow] at h
    subst h
    exact ⟨[], rfl, .nil⟩
  | k + 1, n, as, h => by
    simp only [kwRow, Option.bind_eq_some_iff, Option.map_eq_some_iff] at h
    obtain ⟨e, h1, r, h2, rfl⟩ := h
    obtain ⟨z, h3, h4⟩ := kwFind_rel q h1
    obtain ⟨bs, h5, h6⟩ := kwRow_rel q k (n + 1) h2
    refine ⟨z :: bs, ?_, .cons h4 h6⟩
    simp [kwRow, h3, h5]
theorem Paired.app {xs : List α} {ys : List β} {xs' : List α} {ys' : List β} (a : Paired Rl xs ys) (b : Paired Rl xs' ys') : Paired Rl (xs ++ xs') (ys ++ ys') := by
  induction a with
  | nil => exact b
  | cons q _ ih => exact .cons q ih
theorem argsOf_rel {n : Nat} {js : List Nat} {xs : List α} {ys : List β} {zs : List α} {es as : List β} (q : Paired Rl xs ys) (q2 : Paired Rl zs es) (e : argsOf n ys (js.zip es) = some as) : ∃ bs, argsOf n xs (js.zip zs) = some bs ∧ Paired Rl bs as := by
  unfold argsOf at e ⊢
  have l1 := Paired.length q
  have l2 := Paired.length q2
  have l3 : (js.zip zs).length = (js.zip es).length := by rw [List.length_zip, List.length_zip, l2]
  rw [l1, l3]
  split at e
  · obtain ⟨r, e1, rfl⟩ := Option.map_eq_some_iff.mp e
    obtain ⟨bs, h1, h2⟩ := kwRow_rel q2 _ _ e1
    rename_i hc
    rw [if_pos hc]
    refine ⟨xs ++ bs, ?_, Paired.app q h2⟩
    rw [h1]
    rfl
  · cases e
theorem argsOf_len {n : Nat} {xs as : List α} {kv : List (Nat × α)} (e : argsOf n xs kv = some as) : as.length = n := by
  unfold argsOf at e
  split at e
  · rename_i hc
    obtain ⟨r, e1, rfl⟩ := Option.map_eq_some_iff.mp e
    have : ∀ (k n : Nat) (r : List α), kwRow kv n k = some r → r.length = k := fun k => by
      induction k with
      | zero => intro n r h; simp [kwRow] at h; subst h; rfl
      | succ k ih =>
        intro n r h
        simp only [kwRow, Option.bind_eq_some_iff, Option.map_eq_some_iff] at h
        obtain ⟨e, _, r', h2, rfl⟩ := h
        rw [List.length_cons, ih _ _ h2]
    rw [List.length_append, this _ _ _ e1]
    exact hc
  · cases e
end
theorem dqP {K : PySem.W.Frag} {G : Hp} {r : Option DA} {vs : List V} {es : List D} : DqAll K G r vs es ↔ Paired (Dq K G r) vs es := by
  constructor
  · intro h
    induction es generalizing vs with
    | nil => cases h; exact .nil
    | cons e es ih =>
      cases h with
      | cons a b => exact .cons a (ih b)
  · intro h
    induction h with
    | nil => exact .nil
    | cons a _ ih => exact .cons a ih
def tCallKG (X : Cx) (fn : Fn) (n : Nat) (js : List Nat) (t tk : TA) : TE := fun σ H Q => t σ H fun vs H1 => tk σ H1 fun zs H2 => vs.length = n ∧ zs.length = js.length ∧ ∃ bs, argsOf fn.ps.length vs (js.zip zs) = some bs ∧ spG X σ fn bs H2 Q
def kwN (ks : List Keyword) : Option (List Str) := match ks with
  | [] => some []
  | ⟨some n, _, _⟩ :: ks => (kwN ks).map (n :: ·)
  | ⟨none, _, _⟩ :: _ => none
theorem kwN_ok {env : PySem.Env} {pos : Pos} : ∀ {ks : List Keyword} {ns : List Str}, kwN ks = some ns → (backToKw pos (keywordEach ks env)).all (·.1.isSome) = true ∧ (backToKw pos (keywordEach ks env)).filterMap (·.1) = ns ∧ (backToKw pos (keywordEach ks env)).any (·.1.isNone) = false
  | [], ns, h => by simp [kwN] at h; subst h; exact ⟨rfl, rfl, rfl⟩
  | ⟨none, _, _⟩ :: _, ns, h => by simp [kwN] at h
  | ⟨some n, e, q⟩ :: ks, ns, h => by
    simp only [kwN, Option.map_eq_some_iff] at h
    obtain ⟨ms, h1, rfl⟩ := h
    obtain ⟨a, b, c⟩ := kwN_ok (env := env) (pos := pos) h1
    have ek : backToKw pos (keywordEach (⟨some n, e, q⟩ :: ks) env) = (some n, do let v ← eval e env; standAt pos; pure v) :: backToKw pos (keywordEach ks env) := rfl
    rw [ek]
    refine ⟨?_, ?_, ?_⟩
    · simp only [List.all_cons, Option.isSome_some, Bool.true_and]; exact a
    · simp only [List.filterMap_cons]; rw [b]
    · simp only [List.any_cons, Option.isNone_some, Bool.false_or]; exact c
theorem pe_callKG {fn : Fn} {t tk : TA} {n : Str} {ks : List Keyword} {m : Nat} {js : List Nat} (h : XOk C T X) (hf : FnH X fn) (en : n = fn.name) (hg : gl C n = true) (hd : (n == ("__debug__" : Str)) = false) (hn : nsts xs = true) (hm : (m, js) ∈ fn.kws)
    (hks : kwN ks = some (js.map fun j => fn.ps.getD j "")) (hxs : xs = [] → t = tNil) (pa : PA X xs t) (pk : PK X ks tk) : PE X (.Call (.Name n p) xs ks pos) (tCallKG X fn m js t tk) := by
  subst en
  obtain ⟨k, a, fd, room, g, b, mg, kp⟩ := hf.ex
  obtain ⟨k1, k2, k3⟩ := kwN_ok (env := X.env) (pos := pos) hks
  refine ⟨fun pins s σ H Q I w => wpAny_Call_Name_kw (ld_glob I (gl_ok h hg) mg ?_ hd)⟩
  have fin : ∀ {us ws : List Value} {vs zs : List V} {s1 : Shared} {H1 : Hp}, L2.Inv X pins σ H1 s1 → Vals vs us → Vals zs ws → (vs.length = m ∧ zs.length = js.length ∧ ∃ bs, argsOf fn.ps.length vs (js.zip zs) = some bs ∧ spG X σ fn bs H1 Q) →
      wpAny (model X.prog X.w) X.A (call (.ref a) us (((backToKw pos (keywordEach ks X.env)).filterMap (·.1)).zip ws)) (EP X pins σ Q) X.xe s1 := fun {us ws vs zs s1 H1} I1 rv rz sp => by
    obtain ⟨l1, l2, bs, e, sp⟩ := sp
    have sym : ∀ {xs : List V} {ys : List Value}, Paired RelV xs ys → Paired (fun u v => RelV v u) ys xs := fun {xs ys} z => by
      induction z with
      | nil => exact .nil
      | cons a _ ih => exact .cons a ih
    have sym2 : ∀ {xs : List V} {ys : List Value}, Paired (fun u v => RelV v u) ys xs → Paired RelV xs ys := fun {xs ys} z => by
      induction z with
      | nil => exact .nil
      | cons a _ ih => exact .cons a ih
    obtain ⟨as, e2, ra⟩ := argsOf_rel (Rl := fun u v => RelV v u) (sym rv) (sym rz) e
    have lu : us.length = m := by rw [← rv.length]; exact l1
    have lw : ws.length = js.length := by rw [← rz.length]; exact l2
    rw [k2]
    exact fn_run (args := ⟨us, (js.map fun j => fn.ps.getD j "").zip ws⟩) h.grd room g (b.kw m js hm s1 us ws as lu lw e2) (sym2 ra) I1 sp
  cases xs with
  | nil =>
    cases hxs rfl
    refine PySem.W.callWith_KW0 (h₀ := X.base) I.ok.mod.kin kp k1 ?_ (by rw [k3]; rfl)
    exact thn (pk.run pos pins s σ H _ I w) fun ws s2 q => by
      obtain ⟨zs, H2, I2, rz, sp⟩ := q
      exact ⟨I2.kIn, fin (us := []) (vs := []) I2 .nil rz sp⟩
  | cons x xs =>
    have hn2 : nst x = true ∧ nsts xs = true := by simpa [nsts] using hn
    refine PySem.W.callWith_KW (h₀ := X.base) I.ok.mod.kin kp k1 ?_ (by rw [k3, nsts_plain hn X.env pos]; rfl) (star_ns hn2.1 xs X.env)
    refine thn (pa.run pos pins s σ H _ I w) fun us s1 q => ?_
    obtain ⟨vs, H1, I1, rv, w1⟩ := q
    exact thn (pk.run pos pins s1 σ H1 _ I1 w1) fun ws s2 q => by
      obtain ⟨zs, H2, I2, rz, sp⟩ := q
      exact ⟨I2.kIn, fin I2 rv rz sp⟩
theorem se_callK {fn : Fn} {n : Str} {ks : List Keyword} {m : Nat} {js : List Nat} {gk : Env → M (List (Nat × D))} (h : XOk C T X) (hf : FnH X fn) (en : n = fn.name) (hg : gl C n = true) (hd : (n == ("__debug__" : Str)) = false) (hn : nsts xs = true) (hm : (m, js) ∈ fn.kws)
    (hks : kwN ks = some (js.map fun j => fn.ps.getD j "")) (hl : ∀ env ds, wpX ExT (F env ds) (fun _ _ => True) → wpX ExT (F env ds) fun ys _ => ys.length = m) (hl2 : ∀ env ds, wpX ExT (gk env ds) (fun _ _ => True) → wpX ExT (gk env ds) fun kv _ => ∃ es, kv = js.zip es ∧ es.length = js.length)
    (a : xs ≠ [] → SA C X xs F) (a0 : xs = [] → F = fun _ => ret []) (b : SK C X ks js gk) :
    SE C X (.Call (.Name n p) xs ks pos) fun env => bnd (F env) fun ys => bnd (gk env) fun kv => bnd (lft (argsOf fn.ps.length ys kv)) fn.m := by
  have a' : ∃ t : TA, (xs = [] → t = tNil) ∧ PA X xs t ∧ ∀ (env : Env) (ds : Option DS) (G : Hp) (r : Option DA) (σ : St) (H : Hp) (Q : List V → Hp → Prop), Sim X.K C.own env ds G r σ H →
      wpX (EX X σ G r H) (F env ds) (fun es ds' => ∀ vs G' r' H', Nx G r H ds' G' r' H' → DqAll X.K G' r' vs es → Q vs H') → t σ H Q := by
    by_cases c : xs = []
    · subst c
      rw [a0 rfl]
      exact ⟨tNil, fun _ => rfl, pa_nil, fun env ds G r σ H Q S w => wpX_ret w _ _ _ _ (Nx.refl S.sub S.drw) .nil⟩
    · obtain ⟨t, pa, q⟩ := a c
      exact ⟨t, fun z => absurd z c, pa, q⟩
  obtain ⟨t, ht, pa, q⟩ := a'
  obtain ⟨tk, pk, qk⟩ := b
  refine ⟨_, pe_callKG h hf en hg hd hn hm hks ht pa pk, fun env ds G r σ H Q S w => ?_⟩
  have w0 := wpX_bnd.mp w
  rcases wpX_cases w0 with ⟨ys, ds1, e1, w1⟩ | ⟨x1, s1, e1, w1⟩
  rotate_left
  · refine q env ds G r σ H _ S ?_
    rw [e1]
    exact w1
  have l1 := hl env ds (by rw [e1]; trivial)
  rw [e1] at l1
  refine q env ds G r σ H _ S ?_
  rw [e1]
  intro vs G1 r1 H1 n1 h1
  rcases wpX_cases (wpX_bnd.mp w1) with ⟨kv, ds2, e2, w2⟩ | ⟨x2, s2, e2, w2⟩
  rotate_left
  · refine qk env ds1 G1 r1 σ H1 _ (n1.sim S) ?_
    rw [e2]
    exact EX.up n1 _ _ w2
  have l2 := hl2 env ds1 (by rw [e2]; trivial)
  rw [e2] at l2
  obtain ⟨es, rfl, le⟩ := l2
  refine qk env ds1 G1 r1 σ H1 _ (n1.sim S) ?_
  rw [e2]
  refine ⟨es, rfl, le, fun zs G2 r2 H2 n2 h2 => ?_⟩
  obtain ⟨as, ea, w3⟩ := wpX_lft (wpX_bnd.mp w2)
  have h1' := h1.more n2.g n2.e
  obtain ⟨bs, eb, hb⟩ := argsOf_rel (dqP.mp h1') (dqP.mp h2) ea
  refine ⟨by rw [h1.length]; exact l1, by rw [h2.length]; exact le, bs, eb, as, ds2, G2, r2, argsOf_len ea, n2.s, n2.d, dqP.mpr hb, ?_⟩
  exact wpX_mono w3 fun d ds' k v G' r' H' n3 m => k v G' r' H' ((n1.trans n2).trans n3) m
end
end Ev

end
section
set_option maxHeartbeats 4000000
/-! # EvI: enumerate over a tuple -/
namespace Ev
open PySem PySem.Spec L2
variable [TabsC]
theorem meets_enum1 {v : Value} {o : Obj} {H : Heap → Prop} (B : Begins v o H) :
    Meets (Builtin.«enumerate.__new__» ⟨[.type "enumerate", v], []⟩) (fun _ R s => H s.heap ∧
      R (.ok (.ret (.ref (s.heap.push o).objs.size))) { s with heap := (s.heap.push o).push { cls := .type "enumerate", data := .fields #[.none, .bool false, .ref s.heap.objs.size, rawInt 0, .none, .none] } }) :=
  .of_wp fun prog w A R s h => by
    obtain ⟨hp, g, d, tk, os⟩ := s
    obtain ⟨hv, h⟩ := h
    have sub := sub_enumerate
    have it : ∀ {A' : Around} {E : Value → Shared → Prop} {Q : Value → Shared → Prop}, Q (.ref hp.objs.size) ⟨hp.push o, g, d, tk, os⟩ → wpAny (model prog w) A' (pyIter v) Q E ⟨hp, g, d, tk, os⟩ := fun q => B.iter prog w _ _ ⟨hp, g, d, tk, os⟩ _ hv q
    wp_walk
    refine wpAny_stack_any fun st => wpAny_pure ?_
    split
    · rename_i c _ _ _ _ _
      cases (c == Value.type "enumerate")
      · wp_walk using it
        exact ⟨_, rfl, h⟩
      · wp_walk using it
        exact ⟨_, rfl, h⟩
    · wp_walk using it
      exact ⟨_, rfl, h⟩
section
variable {prog : Program} {w : World} {A : Around} {E : Value → Shared → Prop} {s : Shared}
theorem enum1 {v : Value} {o : Obj} {H : Heap → Prop} {Q : Value → Shared → Prop} (B : Begins v o H) (hv : H s.heap)
    (k : ∀ h', IsEnum h' (s.heap.objs.size + 1) s.heap.objs.size 0 .none → h'.get? s.heap.objs.size = some o → (∀ b u, s.heap.get? b = some u → h'.get? b = some u) → Q (.ref (s.heap.objs.size + 1)) { s with heap := h' }) :
    wpAny (model prog w) A (call (.type "enumerate") [v]) Q E s := by
  refine callType_new F.called_enumerate (by decide) (F.typeCall_enumerate_1 _) (F.newCall_enumerate_1 _) (fun obj => F.args_object_init_2 obj _) F.entry_enumerate_new (meets_enum1 B) ⟨hv, ?_⟩
  have sz : (s.heap.push o).objs.size = s.heap.objs.size + 1 := Heap.size_push ..
  show _ ∧ _
  rw [sz]
  have en : IsEnum ((s.heap.push o).push { cls := .type "enumerate", data := .fields #[.none, .bool false, .ref s.heap.objs.size, rawInt 0, .none, .none] }) (s.heap.objs.size + 1) s.heap.objs.size 0 .none := by
    have z := Heap.get?_push_size (s.heap.push o) (o := { cls := .type "enumerate", data := .fields #[.none, .bool false, .ref s.heap.objs.size, rawInt 0, .none, .none] }) rfl
    rw [sz] at z
    exact z
  exact ⟨⟨_, en, rfl⟩, k _ en (Heap.get?_push_of_some _ (Heap.get?_push_size _ B.free)) fun b u x => Heap.get?_push_of_some _ (Heap.get?_push_of_some _ x)⟩
end
section
variable {prog : Program} {w : World} {A : Around} {E : Value → Shared → Prop} {s : Shared}
theorem next_end {e it l : Addr} {i : Nat} {items : Array Value} {old : Value} {Q : Option Value → Shared → Prop} (hh : A.handled = none) (he : IsEnum s.heap e it i old) (hit : s.heap.IsTupleIter it l i) (hl : s.heap.IsTuple l items) (hx : items[i]? = none)
    (k : ∀ h', Heap.ExtBut it s.heap h' → Q none { s with heap := h' }) : wpAny (model prog w) A (pyNext (.ref e)) Q E s := by
  have ty : s.TypeIs (.ref e) "enumerate" := ⟨_, he, rfl⟩
  unfold pyNext
  refine wpAny_bind (wpAny_attempt (wpAny_callSpecial?_slot (name := Str.ofString "__next__") ty F.slot_enumerate_next (wpAny_call_entry F.slot_enumerate_next ty F.entry_enumerate_next ?_ (F.args_enumerate_next_1 _))))
  show wpAny _ _ (field (.ref e) 2 >>= _) _ _ _
  refine wpAny_bind (wpAny_field he rfl (x := .ref it) rfl ?_)
  refine wpAny_bind (wpAny_nextOf_tuple_end hh hit hl hx fun h' x eb hx' => ?_)
  obtain ⟨o, ho, hcl⟩ := hx'
  exact wpAny_bind (wpAny_isInstance (T := "StopIteration") (b := true) ⟨o, ho, hcl⟩ isSubtype_stop (wpAny_pure (k _ eb)))
end
/-- the tuple at a, each item in a new pair -/
def IteT (K : PySem.W.Frag) (a : Addr) : L2.It :=
  ⟨fun i H => ∃ (xs : List V) (x : V), SqT K H a xs ∧ xs[i]? = some x, fun i H v H' => ∃ p x, v = .ref p ∧ H p = none ∧ H' = upd H p (.tup [.int (i : Nat), x]) ∧ ∀ xs, SqT K H a xs → xs[i]? = some x, fun i H => ∃ xs : List V, SqT K H a xs ∧ xs.length ≤ i⟩
theorem turn_enumT {P : Program} {w : World} {K : PySem.W.Frag} {elts : List Expr} {kk : Nat} {tpos : Pos} (a e it : Addr) :
    Turn P w K (.Tuple elts kk tpos) (IteT K a) [e, it] e (fun i h => (∃ old, IsEnum h e it ((i : Nat) : Int) old) ∧ h.IsTupleIter it a i ∧ e ≠ it) where
  mem := by simp
  obj := by
    rintro i h ⟨⟨old, he⟩, ⟨o, ho, hc, hd⟩, _⟩ b hb
    rcases (show b = e ∨ b = it by simpa using hb) with rfl | rfl
    · exact ⟨_, he, fun v q => nomatch q⟩
    · exact ⟨o, ho, fun v q => by rw [hd] at q; cases q⟩
  keep := by
    rintro i h h' ⟨⟨old, he⟩, hi, ne⟩ k
    exact ⟨⟨old, k e (by simp) _ he⟩, hi.at fun o q => k it (by simp) o q, ne⟩
  item := by
    intro X hP hw hK hc i pins s σ H E I hf st hg
    subst hP hw hK
    obtain ⟨⟨old, he⟩, hit, ne⟩ := st
    obtain ⟨xs, x, hq, hx⟩ := hg
    obtain ⟨its, rv, p, hz⟩ := I.tuple hq
    obtain ⟨u, hu, ru⟩ := rv.get hx
    have lte : e < s.heap.objs.size := Heap.lt_size he
    have lti : it < s.heap.objs.size := by obtain ⟨_, q, _⟩ := hit; exact Heap.lt_size q
    have pa : s.heap.IsTuple a its.toArray := p
    have nea : e ≠ a := by
      rintro rfl
      obtain ⟨o, ho, hcl, _⟩ := pa
      have he' : s.heap.get? e = some _ := he
      rw [ho] at he'
      cases he'
      have z : Value.type "enumerate" = Value.type "tuple" := hcl
      simp at z
    have nia : a ≠ it := by
      rintro rfl
      obtain ⟨o, ho, hcl, _⟩ := pa
      obtain ⟨o2, ho2, hcl2, _⟩ := hit
      rw [ho] at ho2
      cases ho2
      rw [hcl] at hcl2
      simp at hcl2
    have hlt : i < its.toArray.size := by
      have := (List.getElem?_eq_some_iff.mp hu).1
      simpa using this
    refine wpAny_pyNext_enum_itemD (Draws.tuple (A := X.A.in1) (I.ok.hd hc) it a nia its.toArray) he ⟨hit, pa⟩ hlt ne (by simp [ne, nea]) fun y h' tk hy ho st' hT hsz hk => ?_
    have ey : y = u := by
      have hy' : its.toArray[i]? = some y := hy
      have hu' : its.toArray[i]? = some u := by simpa using hu
      rw [hu'] at hy'
      exact (Option.some.inj hy').symm
    subst ey
    refine ⟨_, rfl, wpAny_letOwnedTupleGo_enum (s := { s with heap := h', toks := tk + 1 }) ho fun h'' he' sb => ?_⟩
    have hT2 : h''.get? s.heap.objs.size = some { cls := .type "tuple", data := .seq #[.int i tk, y] } := (sb.2 _ (Nat.ne_of_gt lte)).trans hT
    have new : ObjOk X.prog X.w (upd H s.heap.objs.size (.tup [.int (i : Nat), x])) h'' s.heap.objs.size (.tup [.int (i : Nat), x]) :=
      ⟨by show 2 ≤ sizeLine; decide, [.int i tk, y], .cons ⟨_, rfl⟩ (.cons ru .nil), ⟨_, hT2, rfl, _, rfl⟩⟩
    have I1 : L2.Inv X pins σ (upd H s.heap.objs.size (.tup [.int (i : Nat), x])) { s with heap := h'', toks := tk + 1 } :=
      I.turnedNew (ch := [e, it]) (fun b ob hb q => (sb.2 b (fun z => hb (by simp [z]))).trans (hk b ob (fun z => hb (by simp [z])) (fun z => hb (by simp [z])) q)) hf (Nat.le_refl _) new
    refine ⟨.ref s.heap.objs.size, _, I1, rfl, ⟨_, x, rfl, I.hok.fresh (Nat.le_refl _), rfl, fun ys hy => by rw [I.tuple_inj hy hq]; exact hx⟩, ⟨⟨y, ?_⟩, st'.1.at fun o q => (sb.2 it (Ne.symm ne)).trans q, ne⟩, fun b hb => ?_⟩
    · have e1 : ((i + 1 : Nat) : Int) = (i : Int) + 1 := by omega
      rw [e1]; exact he'
    · have lb : b < s.heap.objs.size := by
        rcases (show b = e ∨ b = it by simpa using hb) with rfl | rfl
        · exact lte
        · exact lti
      rw [upd_ne (Nat.ne_of_lt lb)]
      exact (hf b hb).1
  done := by
    intro X hP hw hK hc i pins s σ H E I hf st hg
    subst hP hw hK
    obtain ⟨⟨old, he⟩, hit, ne⟩ := st
    obtain ⟨xs, hq, hx⟩ := hg
    obtain ⟨its, rv, p, hz⟩ := I.tuple hq
    obtain ⟨f0, f1, f2, f3, f4, f5⟩ := hf it (by simp)
    have hl := rv.length
    refine next_end (I.ok.hd hc) he hit (show s.heap.IsTuple a its.toArray from p) (by simp; omega) fun h' eb => ⟨rfl, I.turned (t' := s.toks) (fun b o hb q => eb b o hb q) f0 f1 f3 f4 f5⟩
  self := fun A i s Q E st h => let ⟨⟨_, he⟩, _⟩ := st; wpAny_pyIter_enum he h
def iEnumT (K : PySem.W.Frag) (ta : TA) : TI := fun σ H R => ta σ H fun vs H1 => ∃ a xs, vs = [.ref a] ∧ SqT K H1 a xs ∧ R (IteT K a) H1
theorem pi_enumT {X : Cx} {e : Expr} {ta : TA} {p pos tpos : Pos} {elts : List Expr} {kk : Nat} (hg : Gl X "enumerate") (hm : X.mg "enumerate" = none) (ha : PA X [e] ta) (hs : starEach [e] X.env = [(false, eval e X.env)]) :
    PI X (.Tuple elts kk tpos) (.Call (.Name "enumerate" p) [e] [] pos) (iEnumT X.K ta) := by
  refine ⟨fun pins s σ H R I h => ?_⟩
  refine PyProof.Rows.Call_ (ld_blt I hg hm (by decide +kernel) (PyProof.Rows.callWith_type1 (T := "enumerate") (thn (ha.run pos pins s σ H _ I h) fun us s1 ⟨vs, H1, I1, r1, q1⟩ => ?_) hs rfl))
  obtain ⟨a, xs, rfl, hq, q⟩ := q1
  cases r1 with
  | cons r rr =>
    cases rr
    cases r
    obtain ⟨its, rv, p', hz⟩ := I1.tuple hq
    refine enum1 (begins_tuple a its.toArray) (show s1.heap.IsTuple a its.toArray from p') fun h' he ho hk => wpAny_pyIter_enum he ?_
    have I2 : L2.Inv X pins σ H1 { s1 with heap := h' } := I1.kept (t' := s1.toks) hk
    refine ⟨s1.heap.objs.size + 1, [s1.heap.objs.size + 1, s1.heap.objs.size], _, _, H1, rfl, I2, turn_enumT a (s1.heap.objs.size + 1) s1.heap.objs.size, ⟨⟨.none, he⟩, ⟨_, ho, rfl, rfl⟩, Nat.succ_ne_self _⟩, fun b hb => ?_, q⟩
    have le : s1.heap.objs.size ≤ b := by
      rcases (show b = s1.heap.objs.size + 1 ∨ b = s1.heap.objs.size by simpa using hb) with rfl | rfl
      · exact Nat.le_add_right _ _
      · exact Nat.le_refl _
    exact I1.fpOk le (I1.hok.fresh le)
end Ev

end
section
set_option maxHeartbeats 4000000
/-! # EvZ: zip over a list and a tuple -/
namespace Ev
open PySem PySem.Spec L2
variable [TabsC]
def SqB (p : Bool) (K : PySem.W.Frag) (H : Hp) (a : Addr) (xs : List V) : Prop := match p with
  | true => SqT K H a xs
  | false => SqL K H a xs
def HqB (p : Bool) (h : Heap) (a : Addr) (its : Array Value) : Prop := match p with
  | true => h.IsTuple a its
  | false => h.IsList a its
def StB (p : Bool) (h : Heap) (i a : Addr) (k : Nat) : Prop := match p with
  | true => h.IsTupleIter i a k
  | false => h.IsListIter i a k
def objB (p : Bool) (a : Addr) : Obj := match p with
  | true => { cls := .type "tuple_iterator", data := .fields #[.ref a, .int 0 0] }
  | false => { cls := .type "list_iterator", data := .fields #[.ref a, .int 0 0] }
theorem begB (p : Bool) (a : Addr) (its : Array Value) : Begins (.ref a) (objB p a) (fun h => HqB p h a its) := by
  cases p
  · exact begins_list a its
  · exact begins_tuple a its
theorem drwB {prog : Program} {w : World} {A : Around} (hd : A.handled = none) (p : Bool) (i a : Addr) (ne : a ≠ i) (its : Array Value) :
    PySem.Draws prog w A i [i, a] its.size (fun k v => its[k]? = some v) (fun k h => StB p h i a k ∧ HqB p h a its) := by
  cases p
  · exact Draws.list hd i a ne its
  · exact Draws.tuple hd i a ne its
theorem StB.live {p : Bool} {h : Heap} {i a : Addr} {k : Nat} (s : StB p h i a k) : ∃ o, h.get? i = some o ∧ ∀ v : Option Value, o.data ≠ .cell v := by
  cases p
  · obtain ⟨o, ho, hc, hd⟩ := s
    exact ⟨o, ho, fun v q => by rw [hd] at q; cases q⟩
  · obtain ⟨o, ho, hc, hd⟩ := s
    exact ⟨o, ho, fun v q => by rw [hd] at q; cases q⟩
theorem StB.at {p : Bool} {h h' : Heap} {i a : Addr} {k : Nat} (s : StB p h i a k) (e : ∀ o, h.get? i = some o → h'.get? i = some o) : StB p h' i a k := by
  cases p
  · obtain ⟨o, ho, hc, hd⟩ := s
    exact ⟨o, e _ ho, hc, hd⟩
  · obtain ⟨o, ho, hc, hd⟩ := s
    exact ⟨o, e _ ho, hc, hd⟩
theorem SqB.read {X : Cx} {pins : List (Addr × Obj)} {σ : St} {H : Hp} {s : Shared} (I : L2.Inv X pins σ H s) {p : Bool} {a : Addr} {xs : List V} (h : SqB p X.K H a xs) :
    ∃ its : List Value, Vals xs its ∧ HqB p s.heap a its.toArray ∧ xs.length ≤ sizeLine := by
  cases p
  · obtain ⟨its, rv, q, hz⟩ := I.list h
    exact ⟨its, rv, q.isList, hz⟩
  · obtain ⟨its, rv, q, hz⟩ := I.tuple h
    exact ⟨its, rv, q, hz⟩
theorem SqB.inj {X : Cx} {pins : List (Addr × Obj)} {σ : St} {H : Hp} {s : Shared} (I : L2.Inv X pins σ H s) {p : Bool} {a : Addr} {xs ys : List V} (h : SqB p X.K H a xs) (h' : SqB p X.K H a ys) : xs = ys := by
  cases p
  · exact I.list_inj h h'
  · exact I.tuple_inj h h'
theorem HqB.lt {p : Bool} {h : Heap} {a : Addr} {its : Array Value} (q : HqB p h a its) : a < h.objs.size := by
  cases p
  · obtain ⟨o, ho, _⟩ := q; exact Heap.lt_size ho
  · obtain ⟨o, ho, _⟩ := q; exact Heap.lt_size ho
theorem ad (x y : Nat) (h : x ≠ y) : x ≠ y := h
theorem nm2 (x y z : Nat) (h1 : x ≠ y) (h2 : x ≠ z) : ¬ x ∈ [y, z] := by simp [h1, h2]
theorem zsep (a b n : Nat) (la : a < n) (lb : b < n) : ZipSep2 (n + 4) (n + 2) (n + 3) n (n + 1) [n, a] [n + 1, b] where
  TIz := Nat.ne_of_lt (by omega)
  TOz := Nat.ne_of_lt (by omega)
  TITO := Nat.ne_of_lt (by omega)
  TIi1 := Nat.ne_of_gt (by omega)
  mem1 := by simp
  zf1 := nm2 _ _ _ (by omega) (by omega)
  Tf1 := nm2 _ _ _ (by omega) (by omega)
  TIi2 := Nat.ne_of_gt (by omega)
  mem2 := by simp
  zf2 := nm2 _ _ _ (by omega) (by omega)
  Tf2 := nm2 _ _ _ (by omega) (by omega)
  sep1_2 := nm2 _ _ _ (by omega) (by omega)
  sep2_1 := nm2 _ _ _ (by omega) (by omega)
/-- two rows walked side by side, each item in a new pair -/
def ItM (K : PySem.W.Frag) (p q : Bool) (a b : Addr) : L2.It :=
  ⟨fun i H => ∃ xs ys x y, SqB p K H a xs ∧ SqB q K H b ys ∧ xs[i]? = some x ∧ ys[i]? = some y,
   fun i H v H' => ∃ T x y, v = .ref T ∧ H T = none ∧ H' = upd H T (.tup [x, y]) ∧ (∀ xs, SqB p K H a xs → xs[i]? = some x) ∧ ∀ ys, SqB q K H b ys → ys[i]? = some y,
   fun i H => ∃ xs ys : List V, SqB p K H a xs ∧ SqB q K H b ys ∧ i ≤ xs.length ∧ i ≤ ys.length ∧ (i = xs.length ∨ i = ys.length)⟩
theorem turn_zipM {P : Program} {w : World} {K : PySem.W.Frag} {elts : List Expr} {kk : Nat} {tpos : Pos} (p q : Bool) (a b n : Nat) (la : a < n) (lb : b < n) :
    Turn P w K (.Tuple elts kk tpos) (ItM K p q a b) [n + 4, n + 2, n + 3, n, n + 1] (n + 4) (fun i h => IsZip h (n + 4) (n + 2) (n + 3) .none ∧ IsTupOf2 h (n + 2) (.ref n) (.ref (n + 1)) ∧ (∃ x y, IsTupOf2 h (n + 3) x y) ∧ StB p h n a i ∧ StB q h (n + 1) b i) where
  mem := by simp
  obj := by
    rintro i h ⟨hz, hp, ⟨x, y, ho⟩, s1, s2⟩ c hc
    rcases (show c = n + 4 ∨ c = n + 2 ∨ c = n + 3 ∨ c = n ∨ c = n + 1 by simpa using hc) with rfl | rfl | rfl | rfl | rfl
    · exact ⟨_, hz, fun v q => nomatch q⟩
    · exact ⟨_, hp, fun v q => nomatch q⟩
    · exact ⟨_, ho, fun v q => nomatch q⟩
    · exact s1.live
    · exact s2.live
  keep := by
    rintro i h h' ⟨hz, hp, ⟨x, y, ho⟩, s1, s2⟩ k
    exact ⟨k _ (by simp) _ hz, k _ (by simp) _ hp, ⟨x, y, k _ (by simp) _ ho⟩, s1.at fun o e => k _ (by simp) o e, s2.at fun o e => k _ (by simp) o e⟩
  item := by
    intro X hP hw hK hc i pins s σ H E I hf st hg
    subst hP hw hK
    obtain ⟨hz, hp, ⟨x0, y0, ho⟩, s1, s2⟩ := st
    obtain ⟨xs, ys, x, y, hq1, hq2, hx, hy⟩ := hg
    obtain ⟨its, rv, p1, z1⟩ := hq1.read I
    obtain ⟨jts, rw', p2, z2⟩ := hq2.read I
    obtain ⟨u, hu, ru⟩ := rv.get hx
    obtain ⟨v, hv, rw2⟩ := rw'.get hy
    have l1 : i < its.toArray.size := by
      have := (List.getElem?_eq_some_iff.mp hu).1
      simpa using this
    have l2 : i < jts.toArray.size := by
      have := (List.getElem?_eq_some_iff.mp hv).1
      simpa using this
    have lz : n + 4 < s.heap.objs.size := Heap.lt_size hz
    have sep := zsep a b n la lb
    refine wpAny_pyNext_zipD2_item sep (drwB (A := X.A.in1) (I.ok.hd hc) p n a (Nat.ne_of_lt la) its.toArray) (drwB (A := X.A.in1) (I.ok.hd hc) q (n + 1) b (Nat.ne_of_lt (Nat.lt_succ_of_lt lb)) jts.toArray) hz hp ho ⟨s1, p1⟩ ⟨s2, p2⟩ l1 l2 fun x1 x2 h' tk e1 e2 hz' ho' t1 t2 hT hsz hk => ?_
    have f1 : x1 = u := by
      have : its.toArray[i]? = some u := by simpa using hu
      rw [this] at e1
      exact (Option.some.inj e1).symm
    have f2 : x2 = v := by
      have : jts.toArray[i]? = some v := by simpa using hv
      rw [this] at e2
      exact (Option.some.inj e2).symm
    subst f1 f2
    refine ⟨_, rfl, wpAny_letOwnedTupleGo_zip (s := { s with heap := h', toks := tk }) hz' fun h'' hz'' sb => ?_⟩
    have hT2 : h''.get? s.heap.objs.size = some { cls := .type "tuple", data := .seq #[x1, x2] } := (sb.2 _ (Nat.ne_of_gt lz)).trans hT
    have new : ObjOk X.prog X.w (upd H s.heap.objs.size (.tup [x, y])) h'' s.heap.objs.size (.tup [x, y]) :=
      ⟨by show 2 ≤ sizeLine; decide, [x1, x2], .cons ru (.cons rw2 .nil), ⟨_, hT2, rfl, _, rfl⟩⟩
    have I1 : L2.Inv X pins σ (upd H s.heap.objs.size (.tup [x, y])) { s with heap := h'', toks := tk } :=
      I.turnedNew (ch := [n + 4, n + 2, n + 3, n, n + 1]) (fun c ob hb e => (sb.2 c (fun z => hb (by simp [z]))).trans (hk c ob (fun z => hb (by simp [z])) (fun z => hb (by simp [z])) (fun z => hb (by simp [z])) (fun z => hb (by simp [z])) e)) hf (Nat.le_refl _) new
    have hp' : IsTupOf2 h'' (n + 2) (.ref n) (.ref (n + 1)) := (sb.2 _ (ad _ _ (by omega))).trans (hk _ _ (ad _ _ (by omega)) (ad _ _ (by omega)) (ad _ _ (by omega)) (ad _ _ (by omega)) hp)
    refine ⟨.ref s.heap.objs.size, _, I1, rfl, ⟨_, x, y, rfl, I.hok.fresh (Nat.le_refl _), rfl, fun zs h => by rw [SqB.inj I h hq1]; exact hx, fun zs h => by rw [SqB.inj I h hq2]; exact hy⟩, ⟨hz'', hp', ⟨x1, x2, (sb.2 _ (ad _ _ (by omega))).trans ho'⟩, t1.1.at fun o e => (sb.2 _ (ad _ _ (by omega))).trans e, t2.1.at fun o e => (sb.2 _ (ad _ _ (by omega))).trans e⟩, fun c hc => ?_⟩
    have lc : c < s.heap.objs.size := by
      rcases (show c = n + 4 ∨ c = n + 2 ∨ c = n + 3 ∨ c = n ∨ c = n + 1 by simpa using hc) with rfl | rfl | rfl | rfl | rfl <;> exact Nat.lt_of_le_of_lt (by omega) lz
    rw [upd_ne (Nat.ne_of_lt lc)]
    exact (hf c hc).1
  done := by
    intro X hP hw hK hc i pins s σ H E I hf st hg
    subst hP hw hK
    obtain ⟨hz, hp, ⟨x0, y0, ho⟩, s1, s2⟩ := st
    obtain ⟨xs, ys, hq1, hq2, b1, b2, b3⟩ := hg
    obtain ⟨its, rv, p1, z1⟩ := hq1.read I
    obtain ⟨jts, rw', p2, z2⟩ := hq2.read I
    have g1 := rv.length
    have g2 := rw'.length
    have sep := zsep a b n la lb
    refine wpAny_pyNext_zipD2_end sep (drwB (A := X.A.in1) (I.ok.hd hc) p n a (Nat.ne_of_lt la) its.toArray) (drwB (A := X.A.in1) (I.ok.hd hc) q (n + 1) b (Nat.ne_of_lt (Nat.lt_succ_of_lt lb)) jts.toArray) hz hp ho ⟨s1, p1⟩ ⟨s2, p2⟩ (by simp; omega) (by simp; omega) (by simp; omega) fun h' tk hk => ⟨rfl, I.turnedL (ch := [n + 4, n + 2, n + 3, n, n + 1]) (fun c o hb e => hk c o (fun z => hb (by simp [z])) (fun z => hb (by simp [z])) (fun z => hb (by simp [z])) (fun z => hb (by simp [z])) e) hf⟩
  self := fun A i s Q E st h => wpAny_pyIter_zip st.1 h
theorem call_zipM {prog : Program} {w : World} {A : Around} {E : Value → Shared → Prop} {s : Shared} {p q : Bool} {a b : Addr} {xs ys : Array Value} {Q : Value → Shared → Prop} (h1 : HqB p s.heap a xs) (h2 : HqB q s.heap b ys)
    (k : ∀ h', IsZip h' (s.heap.objs.size + 4) (s.heap.objs.size + 2) (s.heap.objs.size + 3) .none → IsTupOf2 h' (s.heap.objs.size + 2) (.ref s.heap.objs.size) (.ref (s.heap.objs.size + 1)) → IsTupOf2 h' (s.heap.objs.size + 3) .none .none →
      StB p h' s.heap.objs.size a 0 → StB q h' (s.heap.objs.size + 1) b 0 → (∀ c o, s.heap.get? c = some o → h'.get? c = some o) → Q (.ref (s.heap.objs.size + 4)) { s with heap := h' }) :
    wpAny (model prog w) A (call (.type "zip") [.ref a, .ref b]) Q E s := by
  refine callType_new F.called_zip (by decide) (F.typeCall_zip_2 _ _) (F.newCall_zip_2 _ _) (fun obj => F.args_object_init_3 obj _ _) F.entry_zip_new (meets_zip_newB2 (begB p a xs) (begB q b ys)) ⟨⟨h1, h2⟩, ?_⟩
  have f1 : (objB p a).isFreed = false := (begB p a xs).free
  have f2 : (objB q b).isFreed = false := (begB q b ys).free
  generalize e1 : objB p a = o1 at *
  generalize e2 : objB q b = o2 at *
  have z1 : (s.heap.push o1).objs.size = s.heap.objs.size + 1 := Heap.size_push ..
  have z2 : ((s.heap.push o1).push o2).objs.size = s.heap.objs.size + 2 := by rw [Heap.size_push, z1]
  have z3 : (gzT2 s.heap o1 o2).objs.size = s.heap.objs.size + 3 := by unfold gzT2; rw [Heap.size_push, z2]
  have z4 : (gzO2 s.heap o1 o2).objs.size = s.heap.objs.size + 4 := by unfold gzO2; rw [Heap.size_push, z3]
  have g4 : (gzZ2 s.heap o1 o2).get? (s.heap.objs.size + 4) = some { cls := .type "zip", data := .fields #[.none, .bool false, .bool false, .ref (s.heap.objs.size + 2), .ref (s.heap.objs.size + 3)] } := by
    have := Heap.get?_push_size (gzO2 s.heap o1 o2) (o := { cls := .type "zip", data := .fields #[.none, .bool false, .bool false, .ref ((s.heap.push o1).push o2).objs.size, .ref (gzT2 s.heap o1 o2).objs.size] }) rfl
    rw [z4, z2, z3] at this
    unfold gzZ2
    rw [z2, z3]
    exact this
  have g3 : (gzO2 s.heap o1 o2).get? (s.heap.objs.size + 3) = some { cls := .type "tuple", data := .seq #[.none, .none] } := by
    have := Heap.get?_push_size (gzT2 s.heap o1 o2) (o := { cls := .type "tuple", data := .seq #[.none, .none] }) rfl
    rw [z3] at this
    exact this
  have g2 : (gzT2 s.heap o1 o2).get? (s.heap.objs.size + 2) = some { cls := .type "tuple", data := .seq #[.ref s.heap.objs.size, .ref (s.heap.objs.size + 1)] } := by
    have := Heap.get?_push_size ((s.heap.push o1).push o2) (o := { cls := .type "tuple", data := .seq #[.ref s.heap.objs.size, .ref (s.heap.push o1).objs.size] }) rfl
    rw [z2, z1] at this
    unfold gzT2
    rw [z1]
    exact this
  have g1 : ((s.heap.push o1).push o2).get? (s.heap.objs.size + 1) = some o2 := by
    have := Heap.get?_push_size (s.heap.push o1) (o := o2) f2
    rw [z1] at this
    exact this
  have g0 : (s.heap.push o1).get? s.heap.objs.size = some o1 := Heap.get?_push_size _ f1
  have k3 : ∀ c o, (gzO2 s.heap o1 o2).get? c = some o → (gzZ2 s.heap o1 o2).get? c = some o := fun c o e => Heap.get?_push_of_some _ e
  have k2 : ∀ c o, (gzT2 s.heap o1 o2).get? c = some o → (gzZ2 s.heap o1 o2).get? c = some o := fun c o e => k3 c o (Heap.get?_push_of_some _ e)
  have k1 : ∀ c o, ((s.heap.push o1).push o2).get? c = some o → (gzZ2 s.heap o1 o2).get? c = some o := fun c o e => k2 c o (Heap.get?_push_of_some _ e)
  have k0 : ∀ c o, s.heap.get? c = some o → (gzZ2 s.heap o1 o2).get? c = some o := fun c o e => k1 c o (Heap.get?_push_of_some _ (Heap.get?_push_of_some _ e))
  have s1 : StB p (gzZ2 s.heap o1 o2) s.heap.objs.size a 0 := by
    have := k1 _ _ (Heap.get?_push_of_some o2 g0)
    subst e1
    cases p
    · exact ⟨_, this, rfl, rfl⟩
    · exact ⟨_, this, rfl, rfl⟩
  have s2 : StB q (gzZ2 s.heap o1 o2) (s.heap.objs.size + 1) b 0 := by
    have := k1 _ _ g1
    subst e2
    cases q
    · exact ⟨_, this, rfl, rfl⟩
    · exact ⟨_, this, rfl, rfl⟩
  show _ ∧ _
  rw [z4]
  exact ⟨⟨_, g4, rfl⟩, k _ g4 (k2 _ _ g2) (k3 _ _ g3) s1 s2 k0⟩
def iZipM (K : PySem.W.Frag) (ta : TA) : TI := fun σ H R => ta σ H fun vs H1 => ∃ a b p q xs ys, vs = [.ref a, .ref b] ∧ SqB p K H1 a xs ∧ SqB q K H1 b ys ∧ R (ItM K p q a b) H1
theorem pi_zipM {X : Cx} {e e2 : Expr} {ta : TA} {p pos tpos : Pos} {elts : List Expr} {kk : Nat} (hg : Gl X "zip") (hm : X.mg "zip" = none) (ha : PA X [e, e2] ta)
    (hs : starEach [e, e2] X.env = (false, eval e X.env) :: starEach [e2] X.env) (hs2 : ((backTo pos (starEach [e2] X.env)).any fun x => x.1) = false) :
    PI X (.Tuple elts kk tpos) (.Call (.Name "zip" p) [e, e2] [] pos) (iZipM X.K ta) := by
  refine ⟨fun pins s σ H R I h => ?_⟩
  refine PyProof.Rows.Call_ (ld_blt I hg hm (by decide +kernel) (PyProof.Rows.callWith_type1 (T := "zip") (thn (ha.run pos pins s σ H _ I h) fun us s1 ⟨vs, H1, I1, r1, q1⟩ => ?_) hs hs2))
  obtain ⟨a, b, p, q, xs, ys, rfl, h1, h2, qq⟩ := q1
  cases r1 with
  | cons r rr =>
    cases rr with
    | cons r' rr =>
      cases rr
      cases r
      cases r'
      obtain ⟨its, rv, p1, hz⟩ := h1.read I1
      obtain ⟨jts, rw', p2, hz'⟩ := h2.read I1
      refine call_zipM p1 p2 fun h' hz hT hO t1 t2 hk => wpAny_pyIter_zip hz ?_
      have I2 : L2.Inv X pins σ H1 { s1 with heap := h' } := I1.kept (t' := s1.toks) hk
      refine ⟨s1.heap.objs.size + 4, [s1.heap.objs.size + 4, s1.heap.objs.size + 2, s1.heap.objs.size + 3, s1.heap.objs.size, s1.heap.objs.size + 1], _, _, H1, rfl, I2, turn_zipM p q a b s1.heap.objs.size p1.lt p2.lt, ⟨hz, hT, ⟨_, _, hO⟩, t1, t2⟩, fun c hc => ?_, qq⟩
      have le : s1.heap.objs.size ≤ c := by
        rcases (show c = s1.heap.objs.size + 4 ∨ c = s1.heap.objs.size + 2 ∨ c = s1.heap.objs.size + 3 ∨ c = s1.heap.objs.size ∨ c = s1.heap.objs.size + 1 by simpa using hc) with rfl | rfl | rfl | rfl | rfl
        · exact Nat.le_add_right _ _
        · exact Nat.le_add_right _ _
        · exact Nat.le_add_right _ _
        · exact Nat.le_refl _
        · exact Nat.le_add_right _ _
      exact I1.fpOk le (I1.hok.fresh le)
end Ev

end
section
set_option maxHeartbeats 4000000
/-! # EvY: sorted(set(ints)), sorted(ints) -/
namespace Ev
open PySem PySem.Spec L2
variable [TabsC]
theorem mem_insS {x z : Int} : ∀ {ys : List Int}, z ∈ insS x ys ↔ z = x ∨ z ∈ ys
  | [] => by simp [insS]
  | y :: ys => by
    unfold insS
    split
    · simp
    · split
      · rename_i e; subst e; simp
      · simp only [List.mem_cons, mem_insS (ys := ys)]
        constructor
        · rintro (h | h | h) <;> simp [h]
        · rintro (h | h | h) <;> simp [h]
theorem mem_dd {z : Int} : ∀ {xs : List Int}, z ∈ dd xs ↔ z ∈ xs
  | [] => Iff.rfl
  | x :: xs => by rw [dd, mem_insS, mem_dd (xs := xs), List.mem_cons]
theorem insS_sorted {x : Int} : ∀ {ys : List Int}, ys.Pairwise (· < ·) → (insS x ys).Pairwise (· < ·)
  | [], _ => by simp [insS]
  | y :: ys, h => by
    have h' := List.pairwise_cons.mp h
    unfold insS
    split
    · rename_i c
      refine List.pairwise_cons.mpr ⟨fun z hz => ?_, h⟩
      rcases List.mem_cons.mp hz with rfl | hz
      · exact c
      · exact Int.lt_trans c (h'.1 z hz)
    · split
      · exact h
      · rename_i c1 c2
        refine List.pairwise_cons.mpr ⟨fun z hz => ?_, insS_sorted h'.2⟩
        rcases mem_insS.mp hz with rfl | hz
        · omega
        · exact h'.1 z hz
theorem dd_sorted : ∀ (xs : List Int), (dd xs).Pairwise (· < ·)
  | [] => List.Pairwise.nil
  | x :: xs => insS_sorted (dd_sorted xs)
theorem sorted_uniq : ∀ {xs ys : List Int}, xs.Pairwise (· < ·) → ys.Pairwise (· < ·) → (∀ z, z ∈ xs ↔ z ∈ ys) → xs = ys
  | [], [], _, _, _ => rfl
  | [], y :: ys, _, _, h => by have := (h y).mpr (by simp); simp at this
  | x :: xs, [], _, _, h => by have := (h x).mp (by simp); simp at this
  | x :: xs, y :: ys, p, q, h => by
    have p' := List.pairwise_cons.mp p
    have q' := List.pairwise_cons.mp q
    have e : x = y := by
      have h1 := (h x).mp (by simp)
      have h2 := (h y).mpr (by simp)
      rcases List.mem_cons.mp h1 with z | z
      · exact z
      · rcases List.mem_cons.mp h2 with w | w
        · exact w.symm
        · have a := q'.1 x z
          have b := p'.1 y w
          omega
    subst e
    rw [sorted_uniq p'.2 q'.2 fun z => ?_]
    constructor
    · intro hz
      rcases List.mem_cons.mp ((h z).mp (List.mem_cons_of_mem _ hz)) with w | w
      · have := p'.1 z hz; omega
      · exact w
    · intro hz
      rcases List.mem_cons.mp ((h z).mpr (List.mem_cons_of_mem _ hz)) with w | w
      · have := q'.1 z hz; omega
      · exact w
theorem insL_perm {x : Int} : ∀ {ys : List Int}, (insL x ys).Perm (x :: ys)
  | [] => List.Perm.refl _
  | y :: ys => by
    unfold insL
    split
    · exact List.Perm.refl _
    · exact (List.Perm.cons y insL_perm).trans (List.Perm.swap x y ys)
theorem srt_perm : ∀ (xs : List Int), (srt xs).Perm xs
  | [] => List.Perm.refl _
  | x :: xs => insL_perm.trans (List.Perm.cons x (srt_perm xs))
theorem insL_sorted {x : Int} : ∀ {ys : List Int}, ys.Pairwise (· ≤ ·) → (insL x ys).Pairwise (· ≤ ·)
  | [], _ => by simp [insL]
  | y :: ys, h => by
    have h' := List.pairwise_cons.mp h
    unfold insL
    split
    · rename_i c
      refine List.pairwise_cons.mpr ⟨fun z hz => ?_, h⟩
      rcases List.mem_cons.mp hz with rfl | hz
      · exact c
      · exact Int.le_trans c (h'.1 z hz)
    · rename_i c
      refine List.pairwise_cons.mpr ⟨fun z hz => ?_, insL_sorted h'.2⟩
      rcases List.mem_cons.mp (insL_perm.mem_iff.mp hz) with rfl | hz
      · omega
      · exact h'.1 z hz
theorem srt_sorted : ∀ (xs : List Int), (srt xs).Pairwise (· ≤ ·)
  | [] => List.Pairwise.nil
  | x :: xs => insL_sorted (srt_sorted xs)
theorem srt_uniq {xs ys : List Int} (p : ys.Perm xs) (q : ys.Pairwise (· ≤ ·)) : ys = srt xs :=
  List.Perm.eq_of_pairwise (fun a b _ _ h1 h2 => Int.le_antisymm h1 h2) q (srt_sorted xs) (p.trans (srt_perm xs).symm)
theorem lt_nodup {xs : List Int} (h : xs.Pairwise (· < ·)) : xs.Nodup := h.imp fun h e => by omega
theorem nodup_len : ∀ {xs ys : List Int}, xs.Nodup → ys.Nodup → (∀ z, z ∈ xs ↔ z ∈ ys) → xs.length = ys.length
  | [], [], _, _, _ => rfl
  | [], y :: ys, _, _, h => by have := (h y).mpr (by simp); simp at this
  | x :: xs, ys, p, q, h => by
    have p' := List.nodup_cons.mp p
    have hx := (h x).mp (by simp)
    have pe := List.perm_cons_erase hx
    have l : ys.length = (ys.erase x).length + 1 := by rw [pe.length_eq]; rfl
    rw [l, List.length_cons, nodup_len p'.2 (q.erase x) fun z => ?_]
    rw [q.mem_erase_iff]
    constructor
    · intro hz
      exact ⟨fun e => p'.1 (by rw [← e]; exact hz), (h z).mp (List.mem_cons_of_mem _ hz)⟩
    · rintro ⟨ne, hz⟩
      rcases List.mem_cons.mp ((h z).mpr hz) with w | w
      · exact absurd w ne
      · exact w
def rSetI (K : PySem.W.Frag) (w : World) : List V → Hp → VK → Prop := fun xs H Q => ∃ (l : Addr) (ns : List Int), xs = [V.ref l] ∧ SqT K H l (ns.map V.int) ∧ ns.length + 1 < scanBound ∧ ∀ a, H a = none → Q (.ref a) (upd H a (SetO w a (fun j => decide (j ∈ ns)) (dd ns).length))
theorem cr_setI {X : Cx} (hc : X.calm = true) : CallR X (.type "set") (rSetI X.K X.w) := by
  rintro pins s σ H xs us Q I rv ⟨l, ns, rfl, h1, h2, k⟩
  cases rv with
  | cons r rr =>
    cases rr
    cases r
    obtain ⟨its, rv, p, hz⟩ := I.tuple h1
    refine call_set_tupI ns (I.ok.hd hc) (show s.heap.IsTuple l its.toArray from p) (RZ.intsAre_vals (by simpa using rv)) h2 fun h' tk c hs hle hk => ?_
    have ec : c = (dd ns).length := by
      obtain ⟨o, es, ep, t, _, _, _, _, nd, mem, _, _, sz, _⟩ := hs
      rw [← sz, ← Array.length_toList, ← List.length_map (f := keyOf)]
      refine nodup_len nd (lt_nodup (dd_sorted ns)) fun z => ?_
      rw [← mem z, mem_dd]
      simp
    subst ec
    have I1 := I.turnedNew (ch := []) (T := s.heap.objs.size) (ob := SetO X.w s.heap.objs.size (fun j => decide (j ∈ ns)) (dd ns).length) (t' := tk) (fun b o _ e => hk b o e) (fun b z => nomatch z) (Nat.le_refl _) (show ObjOk _ _ _ _ _ (.ext _) from by unfold ObjOk; exact ⟨hs, (by obtain ⟨o, es, ep, t, ho, _⟩ := hs; exact ⟨o, ho⟩), fun h1 h2 q k => SetR.at q k⟩)
    exact ⟨.ref s.heap.objs.size, _, I1, rfl, k _ (I.hok.fresh (Nat.le_refl _))⟩
theorem ints_all {K : PySem.W.Frag} {G : Hp} {r : Option DA} : ∀ (ns : List Int), DqAll K G r (ns.map V.int) (ns.map .int)
  | [] => .nil
  | n :: ns => .cons (.int n) (ints_all ns)
section
variable {C : Cz} {T : Tb} {X : Cx} {x y z : Expr} {f g h : Env → M D} {p pos p1 p2 : Pos}
theorem se_sset (hc : X.calm = true) (hg : Gl X "sorted") (hm : X.mg "sorted" = none) (hg2 : Gl X "set") (hm2 : X.mg "set" = none) (nx : nst x = true) (a : SE C X x f) :
    SE C X (.Call (.Name "sorted" p1) [.Call (.Name "set" p2) [x] [] pos] [] p) fun env => bnd (f env) fun x => lft (ssetD x) := by
  obtain ⟨t, pa, q⟩ := sa_cons nx a (F := fun _ => ret []) sa_nil
  have hs := star_ns nx [] X.env
  have pe2 : PE X (.Call (.Name "set" p2) [x] [] pos) (tCB (rSetI X.K X.w) t) := pe_callTy (cr_setI hc) hg2 hm2 (by decide +kernel) pa (by decide +kernel) (by decide +kernel) hs (by rfl)
  refine ⟨_, pe_callB (cr_sortedSet hc) hg hm (by decide +kernel) (pa_cons pe2 pa_nil) (by decide +kernel) (by decide +kernel) (by rfl) (by rfl), fun env ds G r σ H Q S w => ?_⟩
  refine q env ds G r σ H _ S (wpX_bnd.mpr (wpX_mono (wpX_bnd.mp w) fun d ds1 w2 => ?_))
  intro vs G1 r1 H1 n1 h1
  cases h1 with
  | cons h1 h2 =>
    cases h2
    obtain ⟨d', e, w3⟩ := wpX_lft w2
    unfold ssetD at e
    split at e
    · obtain ⟨ns, e1, e2⟩ := Option.bind_eq_some_iff.mp e
      split at e2
      · rename_i hz
        cases e2
        simp only [Bool.and_eq_true, decide_eq_true_eq] at hz
        cases h1 with
        | tup e' ha =>
          have hv := ha.ints e1
          subst hv
          refine ⟨_, ns, rfl, SqT.more n1.s e', by unfold scanBound; omega, fun a0 ha0 => ?_⟩
          refine ⟨a0, _, _, rfl, upd_same, hz.2, fun ns' p0 hp1 hp2 hp3 hp4 => ?_⟩
          have en : ns' = dd ns := sorted_uniq hp1 (dd_sorted ns) fun k => by rw [hp2 k, mem_dd]; simp
          subst en
          have na := Nx.apart (o := SetO X.w a0 (fun j => decide (j ∈ ns)) (dd ns).length) n1.s n1.d ha0
          obtain ⟨n', m⟩ := Nx.lst na.s na.d hp4 (ints_all (dd ns))
          exact w3 _ _ _ _ ((n1.trans na).trans n') m
      · cases e2
    · cases e
theorem se_srt (hg : Gl X "sorted") (hm : X.mg "sorted" = none) (nx : nst x = true) (a : SO C X x f) :
    SE C X (.Call (.Name "sorted" p1) [x] [] p) fun env => bnd (f env) fun x => lft (srtD x) := by
  obtain ⟨t, pa, q⟩ := so_cons nx a (F := fun _ => ret []) so_nil
  have hs := star_ns nx [] X.env
  refine ⟨_, pe_callB cr_sortedI hg hm (by decide +kernel) pa (by decide +kernel) (by decide +kernel) hs (by rfl), fun env ds G r σ H Q S w => ?_⟩
  refine q env ds G r σ H _ S (wpX_bnd.mpr (wpX_mono (wpX_bnd.mp w) fun d ds1 w2 => ?_))
  intro vs G1 r1 H1 n1 h1
  cases h1 with
  | cons h1 h2 =>
    cases h2
    obtain ⟨d', e, w3⟩ := wpX_lft w2
    unfold srtD at e
    split at e
    · obtain ⟨ns, e1, e2⟩ := Option.map_eq_some_iff.mp e
      subst e2
      obtain ⟨p0, us, rfl, e3, q1, _⟩ := h1.list n1.s n1.d
      have hv := q1.ints e1
      subst hv
      refine ⟨_, ns, rfl, .inl (.inl e3), fun ns' p0 hp1 hp2 hp4 => ?_⟩
      have en := srt_uniq hp1 hp2
      subst en
      obtain ⟨n', m⟩ := Nx.lst n1.s n1.d hp4 (ints_all (srt ns))
      exact w3 _ _ _ _ (n1.trans n') m
    · cases e
end
end Ev

end
section
set_option maxHeartbeats 4000000
/-! # Ev9: targets, what is walked, comprehensions -/
namespace Ev
open PySem PySem.Spec L2
variable [TabsC]

/-! ### targets -/
mutual
def tgS : Tg → List Nat
  | .n i => [i]
  | .t ts => tgsS ts
def tgsS : Tgs → List Nat
  | .nil => []
  | .cons t ts => tgS t ++ tgsS ts
end
mutual
/-- the target is that text, of names that may be stored here and are no list of one's own -/
def mTg (C : Cz) : Tg → Expr → Bool
  | .n i, x => match x with
    | .Name y _ => nmL C i y && !(C.own.contains i)
    | _ => false
  | .t ts, x => match x with
    | .Tuple xs _ _ => mTgs C ts xs
    | _ => false
def mTgs (C : Cz) : Tgs → List Expr → Bool
  | .nil, xs => xs.isEmpty
  | .cons t ts, xs => match xs with
    | x :: xs => mTg C t x && mTgs C ts xs
    | [] => false
end
/-- what a store of data has done to the slots -/
structure Upd (K : PySem.W.Frag) (G : Hp) (r : Option DA) (is : List Nat) (env env' : Env) (σ σ' : St) : Prop where
  l1 : σ'.length = σ.length
  l2 : env'.length = env.length
  out : ∀ i, i ∉ is → σ'[i]? = σ[i]? ∧ env'[i]? = env[i]?
  inn : ∀ i d, i ∈ is → env'[i]? = some (some d) → ∃ v, σ'[i]? = some (some v) ∧ Dq K G r v d
theorem Upd.refl {K : PySem.W.Frag} {G : Hp} {r : Option DA} {env : Env} {σ : St} : Upd K G r [] env env σ σ := ⟨rfl, rfl, fun _ _ => ⟨rfl, rfl⟩, fun _ _ h => by cases h⟩
theorem Upd.trans {K : PySem.W.Frag} {G : Hp} {r : Option DA} {is js : List Nat} {e1 e2 e3 : Env} {s1 s2 s3 : St} (a : Upd K G r is e1 e2 s1 s2) (b : Upd K G r js e2 e3 s2 s3) : Upd K G r (is ++ js) e1 e3 s1 s3 := by
  refine ⟨b.l1.trans a.l1, b.l2.trans a.l2, fun i hi => ?_, fun i d hi e => ?_⟩
  · have h1 : i ∉ is := fun z => hi (List.mem_append_left _ z)
    have h2 : i ∉ js := fun z => hi (List.mem_append_right _ z)
    exact ⟨(b.out i h2).1.trans (a.out i h1).1, (b.out i h2).2.trans (a.out i h1).2⟩
  · by_cases hj : i ∈ js
    · exact b.inn i d hj e
    · have ha : i ∈ is := (List.mem_append.mp hi).resolve_right hj
      obtain ⟨o1, o2⟩ := b.out i hj
      rw [o2] at e
      rw [o1]
      exact a.inn i d ha e
section
variable {K : PySem.W.Frag} {O : List Nat} {env env' : Env} {ds : Option DS} {G H : Hp} {r : Option DA} {σ σ' : St} {is : List Nat}
theorem Sim.upd (S : Sim K O env ds G r σ H) (u : Upd K G r is env env' σ σ') (h : ∀ i ∈ is, i ∉ O) : Sim K O env' ds G r σ' H where
  sub := S.sub
  len := by rw [u.l1, u.l2]; exact S.len
  var := fun i d hi e => by
    by_cases hm : i ∈ is
    · exact u.inn i d hm e
    · obtain ⟨o1, o2⟩ := u.out i hm
      rw [o2] at e
      rw [o1]
      exact S.var i d hi e
  own := fun i d hi e => by
    have hm : i ∉ is := fun z => h i z hi
    obtain ⟨o1, o2⟩ := u.out i hm
    rw [o2] at e
    rw [o1]
    exact S.own i d hi e
  sep := fun i j a hi hj hn e1 e2 => by
    have hm : i ∉ is := fun z => h i z hi
    have hm2 : j ∉ is := fun z => h j z hj
    rw [(u.out i hm).1] at e1
    rw [(u.out j hm2).1] at e2
    rw [(u.out i hm).2, (u.out j hm2).2]
    exact S.sep i j a hi hj hn e1 e2
  drw := S.drw
end
section
variable {C : Cz} {T : Tb} {X : Cx}
theorem nmL_ok {i : Nat} {n : Str} {pos : Pos} (h : XOk C T X) (m : nmL C i n = true) : PG X (.Name n pos) (gName i) := by
  simp only [nmL, Bool.and_eq_true, decide_eq_true_eq] at m
  obtain ⟨m1, m2⟩ := m
  unfold loc at m2
  split at m2
  · rename_i e
    have e' : X.env.scope.names.lookup n = some .local := by rw [h.sc]; exact e
    exact pg_name (by rw [h.N]; exact h.nd) (by rw [h.N]; exact m1) (.inl e') (.inr e')
  · rename_i e
    have e' : X.env.scope.names.lookup n = some .cell := by rw [h.sc]; exact e
    exact pg_name (by rw [h.N]; exact h.nd) (by rw [h.N]; exact m1) (.inr e') (.inl (h.fnn _ m2))
  · cases m2
theorem nmL_lt {i : Nat} {n : Str} (m : nmL C i n = true) : i < C.N.length := by
  simp only [nmL, Bool.and_eq_true, decide_eq_true_eq] at m
  exact (List.getElem?_eq_some_iff.mp m.1).1
def tgsL : Tgs → Nat
  | .nil => 0
  | .cons _ ts => tgsL ts + 1
theorem asgTs_len : ∀ {ts : Tgs} {es : List D} {env env' : Env}, asgTs ts es env = some env' → es.length = tgsL ts
  | .nil, [], _, _, _ => rfl
  | .nil, _ :: _, _, _, h => by simp [asgTs] at h
  | .cons _ _, [], _, _, h => by simp [asgTs] at h
  | .cons t ts, e :: es, env, env', h => by
    simp only [asgTs, Option.bind_eq_some_iff] at h
    obtain ⟨env1, _, h2⟩ := h
    rw [List.length_cons, asgTs_len h2, tgsL]
theorem mTg_ns {t : Tg} {x : Expr} (m : mTg C t x = true) : nst x = true := by
  cases t <;> cases x <;> first | rfl | (simp [mTg] at m)
theorem mTgs_len : ∀ {ts : Tgs} {xs : List Expr}, mTgs C ts xs = true → xs.length = tgsL ts ∧ nsts xs = true
  | .nil, xs, m => by
    cases xs with
    | nil => exact ⟨rfl, rfl⟩
    | cons => simp [mTgs] at m
  | .cons t ts, xs, m => by
    cases xs with
    | nil => simp [mTgs] at m
    | cons x xs =>
      simp only [mTgs, Bool.and_eq_true] at m
      obtain ⟨l, n⟩ := mTgs_len m.2
      exact ⟨by rw [List.length_cons, l, tgsL], by simp [nsts, mTg_ns m.1, n]⟩
theorem asg_ns {x : Expr} (e : nst x = true) (es : List Expr) (env : PySem.Env) : assignEach (x :: es) env = (false, assign x env) :: assignEach es env := by
  cases x <;> first | rfl | cases e
theorem asg_all : ∀ {es : List Expr}, nsts es = true → ∀ env : PySem.Env, (assignEach es env).length = es.length ∧ (assignEach es env).findIdx? (·.1) = none
  | [], _, _ => ⟨rfl, rfl⟩
  | x :: xs, h, env => by
    simp only [nsts, Bool.and_eq_true] at h
    obtain ⟨a, b⟩ := asg_all h.2 env
    rw [asg_ns h.1]
    refine ⟨by rw [List.length_cons, List.length_cons, a], ?_⟩
    rw [List.findIdx?_cons]
    simp [b]
theorem pg_or2 {X : Cx} {x : Expr} {t u : TG} (a : PG X x t) (b : PG X x u) : PG X x fun v σ H Q => t v σ H Q ∨ u v σ H Q :=
  ⟨fun pins s σ H v w Q I r hw => hw.elim (a.run pins s σ H v w Q I r) (b.run pins s σ H v w Q I r)⟩
mutual
theorem sg (h : XOk C T X) : ∀ (t : Tg) (x : Expr), mTg C t x = true → (∀ i ∈ tgS t, i ∉ C.own) ∧ ∃ g, PG X x g ∧ ∀ (v : V) (d : D) (env env' : Env) (G H : Hp) (r : Option DA) (σ : St) (Q : St → Hp → Prop), Same G H → σ.length = env.length → Dq X.K G r v d → asgT t d env = some env' →
    (∀ σ', Upd X.K G r (tgS t) env env' σ σ' → Q σ' H) → g v σ H Q
  | .n i, x, m => by
    cases x with
    | Name n pos =>
      simp only [mTg, Bool.and_eq_true, Bool.not_eq_true'] at m
      have hi : i ∉ C.own := by simpa using m.2
      refine ⟨fun j hj => ?_, gName i, nmL_ok h m.1, fun v d env env' G H r σ Q s l1 hd e k => ?_⟩
      · have e : j = i := by simpa [tgS] using hj
        rw [e]; exact hi
      · simp only [asgT, Option.some.injEq] at e
        subst e
        refine k _ ⟨by simp, by simp, fun j hj => ?_, fun j d' hj e' => ?_⟩
        · have ne : i ≠ j := fun z => hj (by rw [z]; simp [tgS])
          exact ⟨List.getElem?_set_ne ne, List.getElem?_set_ne ne⟩
        · have e : j = i := by simpa [tgS] using hj
          subst e
          have lt : j < env.length := by
            have z := (List.getElem?_eq_some_iff.mp e').1
            rwa [List.length_set] at z
          rw [List.getElem?_set_self lt] at e'
          cases e'
          exact ⟨v, List.getElem?_set_self (by rw [l1]; exact lt), hd⟩
    | _ => simp [mTg] at m
  | .t ts, x, m => by
    cases x with
    | Tuple xs kk pos =>
      have m' : mTgs C ts xs = true := by simpa [mTg] using m
      obtain ⟨ho, u, pu, q⟩ := sgs h ts xs m'
      obtain ⟨ml, mn⟩ := mTgs_len m'
      obtain ⟨a1, a2⟩ := asg_all mn X.env
      refine ⟨ho, fun v σ H Q => gTup X.K xs.length u v σ H Q ∨ gUnl X.K xs.length u v σ H Q, pg_or2 (pg_tup h.calm pu a1 a2) (pg_unl h.calm pu a1 a2), fun v d env env' G H r σ Q s l1 hd e k => ?_⟩
      cases d with
      | tuple es =>
        cases hd with
        | tup hs ha =>
          have e2 : asgTs ts es env = some env' := by simpa [asgT] using e
          exact .inl ⟨_, _, rfl, SqT.more s hs, by rw [ha.length, asgTs_len e2, ml], q _ es env env' G H r σ Q s l1 ha e2 k⟩
      | list es =>
        cases hd with
        | lst hs ha =>
          have e2 : asgTs ts es env = some env' := by simpa [asgT] using e
          exact .inr ⟨_, _, rfl, .inl (.inl (s _ _ hs)), by rw [ha.length, asgTs_len e2, ml], q _ es env env' G H r σ Q s l1 ha e2 k⟩
      | _ => simp [asgT] at e
    | _ => simp [mTg] at m
theorem sgs (h : XOk C T X) : ∀ (ts : Tgs) (xs : List Expr), mTgs C ts xs = true → (∀ i ∈ tgsS ts, i ∉ C.own) ∧ ∃ u, PGs X xs u ∧ ∀ (vs : List V) (es : List D) (env env' : Env) (G H : Hp) (r : Option DA) (σ : St) (Q : St → Hp → Prop), Same G H → σ.length = env.length → DqAll X.K G r vs es → asgTs ts es env = some env' →
    (∀ σ', Upd X.K G r (tgsS ts) env env' σ σ' → Q σ' H) → u vs σ H Q
  | .nil, xs, m => by
    cases xs with
    | nil =>
      refine ⟨fun i hi => by simp [tgsS] at hi, gNil, pgs_nil, fun vs es env env' G H r σ Q s l1 hd e k => ?_⟩
      cases es with
      | nil =>
        cases hd
        simp only [asgTs, Option.some.injEq] at e
        subst e
        exact ⟨rfl, k σ Upd.refl⟩
      | cons => simp [asgTs] at e
    | cons => simp [mTgs] at m
  | .cons t ts, xs, m => by
    cases xs with
    | nil => simp [mTgs] at m
    | cons x xs =>
      simp only [mTgs, Bool.and_eq_true] at m
      obtain ⟨ho1, g, pg, q1⟩ := sg h t x m.1
      obtain ⟨ho2, u, pu, q2⟩ := sgs h ts xs m.2
      refine ⟨fun i hi => ?_, gCons g u, pgs_cons pg pu (by rw [asg_ns (mTg_ns m.1)]; rfl), fun vs es env env' G H r σ Q s l1 hd e k => ?_⟩
      · have hi' : i ∈ tgS t ∨ i ∈ tgsS ts := by simpa [tgsS] using hi
        rcases hi' with z | z
        · exact ho1 i z
        · exact ho2 i z
      · cases es with
        | nil => simp [asgTs] at e
        | cons d es =>
          cases hd with
          | cons h1 h2 =>
            simp only [asgTs, Option.bind_eq_some_iff] at e
            obtain ⟨env1, e1, e2⟩ := e
            refine ⟨_, _, rfl, q1 _ d env env1 G H r σ _ s l1 h1 e1 fun σ1 u1 => q2 _ es env1 env' G H r σ1 Q s (by rw [u1.l1, u1.l2]; exact l1) h2 e2 fun σ' u2 => k σ' ?_⟩
            have z := u1.trans u2
            simpa [tgsS] using z
end
end

/-! ### what is walked -/
section
variable {K : PySem.W.Frag} {G G' H H' : Hp} {r r' : Option DA} {ds ds' : Option DS}
def LB (K : PySem.W.Frag) (G : Hp) (LI : Addr → List V → Prop) (p : Bool) (a : Addr) (vs : List V) : Prop := match p with
  | true => SqT K G a vs
  | false => LI a vs
/-- the data that an iterator walks; LI tells where a list's object stands -/
inductive Wk (K : PySem.W.Frag) (G : Hp) (r : Option DA) (LI : Addr → List V → Prop) : L2.It → List D → Prop
  | lst {a : Addr} {vs : List V} {es : List D} : LI a vs → DqAll K G r vs es → Wk K G r LI (Itl K a) es
  | tup {a : Addr} {vs : List V} {es : List D} : SqT K G a vs → DqAll K G r vs es → Wk K G r LI (Itt K a) es
  | rng (lo : Int) (n : Nat) : Wk K G r LI (Itr lo n) ((List.range n).map fun i => .int (lo + (i : Nat)))
  | rngc (lo c : Int) (n : Nat) : Wk K G r LI (Itc lo c n) ((List.range n).map fun i => .int (lo + (i : Nat) * c))
  | zipM {p q : Bool} {a b : Addr} {vs ws : List V} {es fs : List D} : LB K G LI p a vs → LB K G LI q b ws → DqAll K G r vs es → DqAll K G r ws fs → Wk K G r LI (ItM K p q a b) (zipD es fs)
  | enm {a : Addr} {vs : List V} {es : List D} : LI a vs → DqAll K G r vs es → Wk K G r LI (Ite K a) (enumD 0 es)
  | enmT {a : Addr} {vs : List V} {es : List D} : SqT K G a vs → DqAll K G r vs es → Wk K G r LI (IteT K a) (enumD 0 es)
abbrev LIo (r : Option DA) (H : Hp) : Addr → List V → Prop := fun a vs => H a = some (.lst vs) ∧ notDA r a
abbrev LIs (G : Hp) : Addr → List V → Prop := fun a vs => G a = some (.lst vs)
theorem LB.map {LI LI' : Addr → List V → Prop} {p : Bool} {a : Addr} {vs : List V} (h : LB K G LI p a vs) (g : Same G G') (l : ∀ a vs, LI a vs → LI' a vs) : LB K G' LI' p a vs := by
  cases p
  · exact l _ _ h
  · exact SqT.more g h
theorem Wk.map {LI LI' : Addr → List V → Prop} {J : L2.It} {es : List D} (h : Wk K G r LI J es) (g : Same G G') (e : r = none ∨ r' = r) (l : ∀ a vs, LI a vs → LI' a vs) : Wk K G' r' LI' J es := by
  cases h with
  | lst a q => exact .lst (l _ _ a) (q.more g e)
  | tup a q => exact .tup (SqT.more g a) (q.more g e)
  | rng lo n => exact .rng lo n
  | rngc lo c n => exact .rngc lo c n
  | zipM a b q q' => exact .zipM (a.map g l) (b.map g l) (q.more g e) (q'.more g e)
  | enm a q => exact .enm (l _ _ a) (q.more g e)
  | enmT a q => exact .enmT (SqT.more g a) (q.more g e)
theorem Wk.nx {J : L2.It} {es : List D} (h : Wk K G r (LIo r H) J es) (n : Nx G r H ds' G' r' H') : Wk K G' r' (LIo r' H') J es :=
  h.map n.g n.e fun a vs l => ⟨n.h a _ l.2 l.1, n.notDA l.2 l.1⟩
theorem zipD_len : ∀ (es fs : List D), (zipD es fs).length = min es.length fs.length
  | [], _ => by simp [zipD]
  | _ :: _, [] => by simp [zipD]
  | e :: es, f :: fs => by
    simp only [zipD, List.length_cons, zipD_len es fs]
    omega
theorem zipD_get : ∀ (es fs : List D) (i : Nat) (d : D), (zipD es fs)[i]? = some d → ∃ x y, es[i]? = some x ∧ fs[i]? = some y ∧ d = .tuple [x, y]
  | [], _, _, _, h => by simp [zipD] at h
  | _ :: _, [], _, _, h => by simp [zipD] at h
  | e :: es, f :: fs, 0, d, h => by
    simp [zipD] at h
    exact ⟨e, f, rfl, rfl, h.symm⟩
  | e :: es, f :: fs, i + 1, d, h => by
    obtain ⟨x, y, h1, h2, h3⟩ := zipD_get es fs i d (by simpa [zipD] using h)
    exact ⟨x, y, by simpa using h1, by simpa using h2, h3⟩
theorem enumD_len : ∀ (n : Nat) (es : List D), (enumD n es).length = es.length
  | _, [] => rfl
  | n, e :: es => by simp only [enumD, List.length_cons, enumD_len (n + 1) es]
theorem enumD_get : ∀ (n : Nat) (es : List D) (i : Nat) (d : D), (enumD n es)[i]? = some d → ∃ x, es[i]? = some x ∧ d = .tuple [.int ((n + i : Nat) : Int), x]
  | _, [], _, _, h => by simp [enumD] at h
  | n, e :: es, 0, d, h => by
    simp [enumD] at h
    exact ⟨e, rfl, by rw [← h]; rfl⟩
  | n, e :: es, i + 1, d, h => by
    obtain ⟨x, h1, h2⟩ := enumD_get (n + 1) es i d (by simpa [enumD] using h)
    refine ⟨x, by simpa using h1, ?_⟩
    rw [h2]
    have : n + 1 + i = n + (i + 1) := by omega
    rw [this]
theorem Sq_at {a : Addr} {vs : List V} (l : H a = some (.lst vs)) : SqL K H a vs := .inl (.inl l)
theorem LB.sq {p : Bool} {a : Addr} {vs : List V} (h : LB K G (LIo r H) p a vs) (s : Same G H) : SqB p K H a vs := by
  cases p
  · exact Sq_at h.1
  · exact SqT.more s h
theorem Wk.go {J : L2.It} {es : List D} {i : Nat} (h : Wk K G r (LIo r H) J es) (s : Same G H) (hi : i < es.length) : J.go i H := by
  cases h with
  | lst a q =>
    obtain ⟨v, e, _⟩ := q.get (List.getElem?_eq_getElem hi)
    exact ⟨_, v, Sq_at a.1, e⟩
  | tup a q =>
    obtain ⟨v, e, _⟩ := q.get (List.getElem?_eq_getElem hi)
    exact ⟨_, v, SqT.more s a, e⟩
  | rng lo n => exact (by simpa using hi : i < n)
  | rngc lo c n => exact (by simpa using hi : i < n)
  | zipM a b q q' =>
    rw [zipD_len] at hi
    obtain ⟨v, e, _⟩ := q.get (List.getElem?_eq_getElem (show i < _ by omega))
    obtain ⟨v', e', _⟩ := q'.get (List.getElem?_eq_getElem (show i < _ by omega))
    exact ⟨_, _, v, v', a.sq s, b.sq s, e, e'⟩
  | enm a q =>
    rw [enumD_len] at hi
    obtain ⟨v, e, _⟩ := q.get (List.getElem?_eq_getElem hi)
    exact ⟨_, v, Sq_at a.1, e⟩
  | enmT a q =>
    rw [enumD_len] at hi
    obtain ⟨v, e, _⟩ := q.get (List.getElem?_eq_getElem hi)
    exact ⟨_, v, SqT.more s a, e⟩
theorem Wk.stop {J : L2.It} {es : List D} {i : Nat} (h : Wk K G r (LIo r H) J es) (s : Same G H) (hi : es.length ≤ i) (hi' : i ≤ es.length) : J.stop i H := by
  cases h with
  | lst a q => exact ⟨_, Sq_at a.1, by rw [q.length]; exact hi⟩
  | tup a q => exact ⟨_, SqT.more s a, by rw [q.length]; exact hi⟩
  | rng lo n => exact (by simpa using hi : n ≤ i)
  | rngc lo c n => exact (by simpa using hi : n ≤ i)
  | zipM a b q q' =>
    rw [zipD_len] at hi hi'
    have l1 := q.length
    have l2 := q'.length
    exact ⟨_, _, a.sq s, b.sq s, by omega, by omega, by omega⟩
  | enm a q =>
    rw [enumD_len] at hi
    exact ⟨_, Sq_at a.1, by rw [q.length]; exact hi⟩
  | enmT a q =>
    rw [enumD_len] at hi
    exact ⟨_, SqT.more s a, by rw [q.length]; exact hi⟩
theorem Wk.yld {J : L2.It} {es : List D} {i : Nat} {x : V} {d : D} (h : Wk K G r (LIo r H) J es) (s : Same G H) (dr : DrOk ds G r H) (e : es[i]? = some d) (y : J.yld i H x H') : ∃ G', Nx G r H ds G' r H' ∧ Dq K G' r x d := by
  cases h with
  | lst a q =>
    obtain ⟨rfl, k⟩ := y
    obtain ⟨v, e1, e2⟩ := q.get e
    have z := (k _ (Sq_at a.1)).symm.trans e1
    cases z
    exact ⟨G, Nx.refl s dr, e2⟩
  | tup a q =>
    obtain ⟨rfl, k⟩ := y
    obtain ⟨v, e1, e2⟩ := q.get e
    have z := (k _ (SqT.more s a)).symm.trans e1
    cases z
    exact ⟨G, Nx.refl s dr, e2⟩
  | rng lo n =>
    obtain ⟨rfl, rfl⟩ := y
    rw [List.getElem?_map] at e
    obtain ⟨j, ej, rfl⟩ := Option.map_eq_some_iff.mp e
    obtain ⟨hj, ej2⟩ := List.getElem?_eq_some_iff.mp ej
    have ej' : j = i := by rw [← ej2]; simp
    subst ej'
    exact ⟨G, Nx.refl s dr, .int _⟩
  | rngc lo c n =>
    obtain ⟨rfl, rfl⟩ := y
    rw [List.getElem?_map] at e
    obtain ⟨j, ej, rfl⟩ := Option.map_eq_some_iff.mp e
    obtain ⟨hj, ej2⟩ := List.getElem?_eq_some_iff.mp ej
    have ej' : j = i := by rw [← ej2]; simp
    subst ej'
    exact ⟨G, Nx.refl s dr, .int _⟩
  | zipM a b q q' =>
    obtain ⟨t, u, w, rfl, nt, rfl, k1, k2⟩ := y
    obtain ⟨d1, d2, e1, e2, rfl⟩ := zipD_get _ _ _ _ e
    obtain ⟨v1, f1, g1⟩ := q.get e1
    obtain ⟨v2, f2, g2⟩ := q'.get e2
    have z1 := (k1 _ (a.sq s)).symm.trans f1
    have z2 := (k2 _ (b.sq s)).symm.trans f2
    cases z1; cases z2
    obtain ⟨n, m⟩ := Nx.tup s dr nt (DqAll.cons g1 (.cons g2 .nil))
    exact ⟨_, n, m⟩
  | enm a q =>
    obtain ⟨t, u, rfl, nt, rfl, k1⟩ := y
    obtain ⟨d1, e1, rfl⟩ := enumD_get _ _ _ _ e
    obtain ⟨v1, f1, g1⟩ := q.get e1
    have z1 := (k1 _ (Sq_at a.1)).symm.trans f1
    cases z1
    obtain ⟨n, m⟩ := Nx.tup s dr nt (DqAll.cons (.int ((0 + i : Nat) : Int)) (.cons g1 .nil))
    rw [Nat.zero_add] at m n
    exact ⟨_, n, by simpa using m⟩
  | enmT a q =>
    obtain ⟨t, u, rfl, nt, rfl, k1⟩ := y
    obtain ⟨d1, e1, rfl⟩ := enumD_get _ _ _ _ e
    obtain ⟨v1, f1, g1⟩ := q.get e1
    have z1 := (k1 _ (SqT.more s a)).symm.trans f1
    cases z1
    obtain ⟨n, m⟩ := Nx.tup s dr nt (DqAll.cons (.int ((0 + i : Nat) : Int)) (.cons g1 .nil))
    rw [Nat.zero_add] at m n
    exact ⟨_, n, by simpa using m⟩
end
end Ev

end
section
set_option maxHeartbeats 4000000
/-! # Ev10: iterators of loops, list comprehensions -/
namespace Ev
open PySem PySem.Spec L2
variable [TabsC]
section
variable {C : Cz} {T : Tb} {X : Cx} {x y z : Expr} {f g : Env → M D} {tg : Expr} {pos p tpos : Pos} {elts : List Expr} {kk : Nat}
theorem PI.or {iter : Expr} {w1 w2 : TI} (a : PI X tg iter w1) (b : PI X tg iter w2) : PI X tg iter fun σ H R => w1 σ H R ∨ w2 σ H R := by
  refine ⟨fun pins s σ H R I h => ?_⟩
  rcases h with h | h
  · exact a.run pins s σ H R I h
  · exact b.run pins s σ H R I h
def SIs (C : Cz) (X : Cx) (tg iter : Expr) (f : Env → M (List D)) : Prop := ∃ wi : TI, PI X tg iter wi ∧ ∀ (env : Env) (ds : Option DS) (G : Hp) (r : Option DA) (σ : St) (H : Hp) (R : L2.It → Hp → Prop), Sim X.K C.own env ds G r σ H →
  wpX (EX X σ G r H) (f env ds) (fun xs ds' => ∀ J G' r' H', Nx G r H ds' G' r' H' → Wk X.K G' r' (LIs G') J xs → R J H') → wi σ H R
def SIo (C : Cz) (X : Cx) (tg iter : Expr) (f : Env → M (List D)) : Prop := ∃ wi : TI, PI X tg iter wi ∧ ∀ (env : Env) (ds : Option DS) (G : Hp) (r : Option DA) (σ : St) (H : Hp) (R : L2.It → Hp → Prop), Sim X.K C.own env ds G r σ H →
  wpX (EX X σ G r H) (f env ds) (fun xs ds' => ∀ J G' r' H', Nx G r H ds' G' r' H' → Wk X.K G' r' (LIo r' H') J xs → R J H') → wi σ H R
theorem asSeq_some {d : D} {xs : List D} (h : asSeq d = some xs) : d = .list xs ∨ d = .tuple xs := by
  unfold asSeq at h
  split at h
  · cases h; exact .inl rfl
  · cases h; exact .inr rfl
  · cases h
theorem sis_e (a : SE C X x f) : SIs C X tg x fun env => bnd (f env) fun x => lft (asSeq x) := by
  obtain ⟨t, pa, q⟩ := a
  refine ⟨_, PI.or (pi_list pa) (pi_tup pa), fun env ds G r σ H R S w => ?_⟩
  rcases wpX_cases (wpX_bnd.mp w) with ⟨d, ds1, e1, w1⟩ | ⟨x9, s9, e9, w9⟩
  rotate_left
  · refine .inl (q env ds G r σ H _ S ?_)
    rw [e9]
    exact w9
  obtain ⟨xs, e2, w2⟩ := wpX_lft w1
  rcases asSeq_some e2 with z | z
  · subst z
    refine .inl (q env ds G r σ H _ S ?_)
    rw [e1]
    intro v G1 r1 H1 n1 h1
    cases h1 with
    | lst e ha => exact ⟨_, rfl, ⟨_, Sq_at (n1.s _ _ e)⟩, w2 _ _ _ _ n1 (.lst e ha)⟩
  · subst z
    refine .inr (q env ds G r σ H _ S ?_)
    rw [e1]
    intro v G1 r1 H1 n1 h1
    cases h1 with
    | tup e ha => exact ⟨_, rfl, ⟨_, SqT.more n1.s e⟩, w2 _ _ _ _ n1 (.tup e ha)⟩
theorem sio_e (a : SO C X x f) : SIo C X tg x fun env => bnd (f env) fun x => lft (asSeq x) := by
  obtain ⟨t, pa, q⟩ := a
  refine ⟨_, PI.or (pi_list pa) (pi_tup pa), fun env ds G r σ H R S w => ?_⟩
  rcases wpX_cases (wpX_bnd.mp w) with ⟨d, ds1, e1, w1⟩ | ⟨x9, s9, e9, w9⟩
  rotate_left
  · refine .inl (q env ds G r σ H _ S ?_)
    rw [e9]
    exact w9
  obtain ⟨xs, e2, w2⟩ := wpX_lft w1
  rcases asSeq_some e2 with z | z
  · subst z
    refine .inl (q env ds G r σ H _ S ?_)
    rw [e1]
    intro v G1 r1 H1 n1 h1
    obtain ⟨a, vs, rfl, e, ha, nd⟩ := h1.list n1.s n1.d
    exact ⟨_, rfl, ⟨_, Sq_at e⟩, w2 _ _ _ _ n1 (.lst ⟨e, nd⟩ ha)⟩
  · subst z
    refine .inr (q env ds G r σ H _ S ?_)
    rw [e1]
    intro v G1 r1 H1 n1 h1
    obtain ⟨a, vs, rfl, e, ha⟩ := h1.tup
    exact ⟨_, rfl, ⟨_, SqT.more n1.s e⟩, w2 _ _ _ _ n1 (.tup e ha)⟩
theorem rngOk_some {i : Int} (h : rngOk i = true) : -(2 ^ 62) ≤ i ∧ i < 2 ^ 62 := by
  simpa [rngOk] using h
theorem wk_rng {K : PySem.W.Frag} {G : Hp} {r : Option DA} {LI : Addr → List V → Prop} (i j : Int) : Wk K G r LI (Itr i (j - i).toNat) (rngD i j) := .rng i (j - i).toNat
/-- range(n), range(a, b): R J H' for whatever tells of lists -/
theorem rng1 (h : XOk C T X) (hg : gl C "range" = true) (hn : nst x = true) (a : SE C X x f) : ∃ wi : TI, PI X tg (.Call (.Name "range" p) [x] [] pos) wi ∧ ∀ (env : Env) (ds : Option DS) (G : Hp) (r : Option DA) (σ : St) (H : Hp) (R : L2.It → Hp → Prop), Sim X.K C.own env ds G r σ H →
    wpX (EX X σ G r H) (bnd (f env) (fun x => bnd (lft (asI x)) fun i => lft (if rngOk i then some (rngD 0 i) else none)) ds) (fun xs ds' => ∀ J G' r' H', Nx G r H ds' G' r' H' → (∀ LI, Wk X.K G' r' LI J xs) → R J H') → wi σ H R := by
  obtain ⟨t, pa, q⟩ := sa_cons hn a (F := fun _ => ret []) sa_nil
  refine ⟨_, pi_range1 (gl_ok h hg) (h.bl _ (by decide +kernel)) pa (star_ns hn [] X.env), fun env ds G r σ H R S w => ?_⟩
  refine q env ds G r σ H _ S (wpX_bnd.mpr (wpX_mono (wpX_bnd.mp w) fun d ds1 w1 => ?_))
  intro vs G1 r1 H1 n1 h1
  obtain ⟨i, e, w2⟩ := wpX_lft (wpX_bnd.mp w1)
  cases asI_some e
  obtain ⟨xs, e2, w3⟩ := wpX_lft w2
  split at e2
  · rename_i ok
    cases e2
    obtain ⟨o1, o2⟩ := rngOk_some ok
    cases h1 with
    | cons h1 h2 =>
      cases h2
      cases h1
      refine ⟨_, rfl, o1, o2, w3 _ _ _ _ n1 fun LI => ?_⟩
      have z := wk_rng (K := X.K) (G := G1) (r := r1) (LI := LI) 0 i
      rwa [Int.sub_zero] at z
  · cases e2
theorem rng2 (h : XOk C T X) (hg : gl C "range" = true) (hn : nst x = true) (hn2 : nst y = true) (a : SE C X x f) (b : SE C X y g) : ∃ wi : TI, PI X tg (.Call (.Name "range" p) [x, y] [] pos) wi ∧ ∀ (env : Env) (ds : Option DS) (G : Hp) (r : Option DA) (σ : St) (H : Hp) (R : L2.It → Hp → Prop), Sim X.K C.own env ds G r σ H →
    wpX (EX X σ G r H) (bnd (f env) (fun x => bnd (g env) fun y => bnd (lft (asI x)) fun i => bnd (lft (asI y)) fun j => lft (if rngOk i && rngOk j then some (rngD i j) else none)) ds) (fun xs ds' => ∀ J G' r' H', Nx G r H ds' G' r' H' → (∀ LI, Wk X.K G' r' LI J xs) → R J H') → wi σ H R := by
  obtain ⟨t, pa, q⟩ := sa_cons hn a (sa_cons hn2 b (F := fun _ => ret []) sa_nil)
  refine ⟨_, pi_range2 (gl_ok h hg) (h.bl _ (by decide +kernel)) pa (by rw [star_ns hn, star_ns hn2]; rfl) (star_ns hn2 [] X.env), fun env ds G r σ H R S w => ?_⟩
  refine q env ds G r σ H _ S (wpX_bnd.mpr (wpX_mono (wpX_bnd.mp w) fun d ds1 w1 => wpX_bnd.mpr (wpX_bnd.mpr (wpX_mono (wpX_bnd.mp w1) fun d2 ds2 w2 => ?_))))
  intro vs G1 r1 H1 n1 h1
  obtain ⟨i, e, w3⟩ := wpX_lft (wpX_bnd.mp w2)
  cases asI_some e
  obtain ⟨j, e', w4⟩ := wpX_lft (wpX_bnd.mp w3)
  cases asI_some e'
  obtain ⟨xs, e2, w5⟩ := wpX_lft w4
  split at e2
  · rename_i ok
    cases e2
    simp only [Bool.and_eq_true] at ok
    obtain ⟨o1, o2⟩ := rngOk_some ok.1
    obtain ⟨o3, o4⟩ := rngOk_some ok.2
    cases h1 with
    | cons h1 h2 =>
      cases h2 with
      | cons h2 h3 =>
        cases h3
        cases h1
        cases h2
        exact ⟨_, _, rfl, ⟨o1, o2, o3, o4⟩, w5 _ _ _ _ n1 fun LI => wk_rng _ _⟩
  · cases e2
theorem rng3 {z : Expr} {k : Env → M D} (h : XOk C T X) (hg : gl C "range" = true) (hn : nst x = true) (hn2 : nst y = true) (hn3 : nst z = true) (a : SE C X x f) (b : SE C X y g) (c : SE C X z k) : ∃ wi : TI, PI X tg (.Call (.Name "range" p) [x, y, z] [] pos) wi ∧ ∀ (env : Env) (ds : Option DS) (G : Hp) (r : Option DA) (σ : St) (H : Hp) (R : L2.It → Hp → Prop), Sim X.K C.own env ds G r σ H →
    wpX (EX X σ G r H) (bnd (f env) (fun x => bnd (g env) fun y => bnd (k env) fun z => bnd (lft (asI x)) fun i => bnd (lft (asI y)) fun j => bnd (lft (asI z)) fun k => lft (if rngOk i && rngOk j && decide (k = -1) then some (rngDn i j) else none)) ds) (fun xs ds' => ∀ J G' r' H', Nx G r H ds' G' r' H' → (∀ LI, Wk X.K G' r' LI J xs) → R J H') → wi σ H R := by
  obtain ⟨t, pa, q⟩ := sa_cons hn a (sa_cons hn2 b (sa_cons hn3 c (F := fun _ => ret []) sa_nil))
  refine ⟨_, pi_range3 (gl_ok h hg) (h.bl _ (by decide +kernel)) pa (by rw [star_ns hn]) (nsts_plain (es := [y, z]) (by simp [nsts, hn2, hn3]) X.env pos), fun env ds G r σ H R S w => ?_⟩
  refine q env ds G r σ H _ S (wpX_bnd.mpr (wpX_mono (wpX_bnd.mp w) fun d ds1 w1 => wpX_bnd.mpr (wpX_bnd.mpr (wpX_mono (wpX_bnd.mp w1) fun d2 ds2 w2 => wpX_bnd.mpr (wpX_bnd.mpr (wpX_mono (wpX_bnd.mp w2) fun d3 ds3 w3 => ?_))))))
  intro vs G1 r1 H1 n1 h1
  obtain ⟨i, e, w4⟩ := wpX_lft (wpX_bnd.mp w3)
  cases asI_some e
  obtain ⟨j, e', w5⟩ := wpX_lft (wpX_bnd.mp w4)
  cases asI_some e'
  obtain ⟨l, e'', w6⟩ := wpX_lft (wpX_bnd.mp w5)
  cases asI_some e''
  obtain ⟨xs, e2, w7⟩ := wpX_lft w6
  split at e2
  · rename_i ok
    cases e2
    simp only [Bool.and_eq_true, decide_eq_true_eq] at ok
    obtain ⟨⟨ok1, ok2⟩, rfl⟩ := ok
    obtain ⟨o1, o2⟩ := rngOk_some ok1
    obtain ⟨o3, o4⟩ := rngOk_some ok2
    cases h1 with
    | cons h1 h2 =>
      cases h2 with
      | cons h2 h3 =>
        cases h3 with
        | cons h3 h4 =>
          cases h4
          cases h1
          cases h2
          cases h3
          exact ⟨_, _, _, _, rfl, RgC.neg o1 o2 o3 o4, w7 _ _ _ _ n1 fun LI => .rngc _ _ _⟩
  · cases e2
theorem sis_zip (h : XOk C T X) (hg : gl C "zip" = true) (hn : nst x = true) (hn2 : nst y = true) (a : SE C X x f) (b : SE C X y g) : SIs C X (.Tuple elts kk tpos) (.Call (.Name "zip" p) [x, y] [] pos) fun env => bnd (f env) fun x => bnd (g env) fun y => match x, y with
    | .list xs, .list ys => ret (zipD xs ys)
    | .tuple xs, .tuple ys => ret (zipD xs ys)
    | .list xs, .tuple ys => ret (zipD xs ys)
    | .tuple xs, .list ys => ret (zipD xs ys)
    | _, _ => stk := by
  obtain ⟨t, pa, q⟩ := sa_cons hn a (sa_cons hn2 b (F := fun _ => ret []) sa_nil)
  refine ⟨_, pi_zipM (gl_ok h hg) (h.bl _ (by decide +kernel)) pa (star_ns hn [y] X.env) (nsts_plain (es := [y]) (by simp [nsts, hn2]) X.env pos), fun env ds G r σ H R S w => ?_⟩
  refine q env ds G r σ H _ S (wpX_bnd.mpr (wpX_mono (wpX_bnd.mp w) fun d ds1 w1 => wpX_bnd.mpr (wpX_bnd.mpr (wpX_mono (wpX_bnd.mp w1) fun d2 ds2 w2 => ?_))))
  intro vs G1 r1 H1 n1 h1
  cases h1 with
  | cons h1 h2 =>
    cases h2 with
    | cons h2 h3 =>
      cases h3
      split at w2
      · cases h1 with
        | lst e ha =>
          cases h2 with
          | lst e' ha' => exact ⟨_, _, false, false, _, _, rfl, Sq_at (n1.s _ _ e), Sq_at (n1.s _ _ e'), wpX_ret w2 _ _ _ _ n1 (.zipM (p := false) (q := false) e e' ha ha')⟩
      · cases h1 with
        | tup e ha =>
          cases h2 with
          | tup e' ha' => exact ⟨_, _, true, true, _, _, rfl, SqT.more n1.s e, SqT.more n1.s e', wpX_ret w2 _ _ _ _ n1 (.zipM (p := true) (q := true) e e' ha ha')⟩
      · cases h1 with
        | lst e ha =>
          cases h2 with
          | tup e' ha' => exact ⟨_, _, false, true, _, _, rfl, Sq_at (n1.s _ _ e), SqT.more n1.s e', wpX_ret w2 _ _ _ _ n1 (.zipM (p := false) (q := true) e e' ha ha')⟩
      · cases h1 with
        | tup e ha =>
          cases h2 with
          | lst e' ha' => exact ⟨_, _, true, false, _, _, rfl, SqT.more n1.s e, Sq_at (n1.s _ _ e'), wpX_ret w2 _ _ _ _ n1 (.zipM (p := true) (q := false) e e' ha ha')⟩
      · exact w2.elim
theorem sio_zip (h : XOk C T X) (hg : gl C "zip" = true) (hn : nst x = true) (hn2 : nst y = true) (a : SO C X x f) (b : SO C X y g) : SIo C X (.Tuple elts kk tpos) (.Call (.Name "zip" p) [x, y] [] pos) fun env => bnd (f env) fun x => bnd (g env) fun y => match x, y with
    | .list xs, .list ys => ret (zipD xs ys)
    | .tuple xs, .tuple ys => ret (zipD xs ys)
    | .list xs, .tuple ys => ret (zipD xs ys)
    | .tuple xs, .list ys => ret (zipD xs ys)
    | _, _ => stk := by
  obtain ⟨t, pa, q⟩ := so_cons hn a (so_cons hn2 b (F := fun _ => ret []) so_nil)
  refine ⟨_, pi_zipM (gl_ok h hg) (h.bl _ (by decide +kernel)) pa (star_ns hn [y] X.env) (nsts_plain (es := [y]) (by simp [nsts, hn2]) X.env pos), fun env ds G r σ H R S w => ?_⟩
  refine q env ds G r σ H _ S (wpX_bnd.mpr (wpX_mono (wpX_bnd.mp w) fun d ds1 w1 => wpX_bnd.mpr (wpX_bnd.mpr (wpX_mono (wpX_bnd.mp w1) fun d2 ds2 w2 => ?_))))
  intro vs G1 r1 H1 n1 h1
  cases h1 with
  | cons h1 h2 =>
    cases h2 with
    | cons h2 h3 =>
      cases h3
      split at w2
      · obtain ⟨a, us, rfl, e, ha, nd⟩ := h1.list n1.s n1.d
        obtain ⟨a', us', rfl, e', ha', nd'⟩ := h2.list n1.s n1.d
        exact ⟨_, _, false, false, _, _, rfl, Sq_at e, Sq_at e', wpX_ret w2 _ _ _ _ n1 (.zipM (p := false) (q := false) ⟨e, nd⟩ ⟨e', nd'⟩ ha ha')⟩
      · obtain ⟨a, us, rfl, e, ha⟩ := h1.tup
        obtain ⟨a', us', rfl, e', ha'⟩ := h2.tup
        exact ⟨_, _, true, true, _, _, rfl, SqT.more n1.s e, SqT.more n1.s e', wpX_ret w2 _ _ _ _ n1 (.zipM (p := true) (q := true) e e' ha ha')⟩
      · obtain ⟨a, us, rfl, e, ha, nd⟩ := h1.list n1.s n1.d
        obtain ⟨a', us', rfl, e', ha'⟩ := h2.tup
        exact ⟨_, _, false, true, _, _, rfl, Sq_at e, SqT.more n1.s e', wpX_ret w2 _ _ _ _ n1 (.zipM (p := false) (q := true) ⟨e, nd⟩ e' ha ha')⟩
      · obtain ⟨a, us, rfl, e, ha⟩ := h1.tup
        obtain ⟨a', us', rfl, e', ha', nd'⟩ := h2.list n1.s n1.d
        exact ⟨_, _, true, false, _, _, rfl, SqT.more n1.s e, Sq_at e', wpX_ret w2 _ _ _ _ n1 (.zipM (p := true) (q := false) e ⟨e', nd'⟩ ha ha')⟩
      · exact w2.elim
theorem sis_enum (h : XOk C T X) (hg : gl C "enumerate" = true) (hn : nst x = true) (a : SE C X x f) : SIs C X (.Tuple elts kk tpos) (.Call (.Name "enumerate" p) [x] [] pos) fun env => bnd (f env) fun x => bnd (lft (asSeq x)) fun xs => ret (enumD 0 xs) := by
  obtain ⟨t, pa, q⟩ := sa_cons hn a (F := fun _ => ret []) sa_nil
  refine ⟨_, PI.or (pi_enum (gl_ok h hg) (h.bl _ (by decide +kernel)) pa (star_ns hn [] X.env)) (pi_enumT (gl_ok h hg) (h.bl _ (by decide +kernel)) pa (star_ns hn [] X.env)), fun env ds G r σ H R S w => ?_⟩
  rcases wpX_cases (wpX_bnd.mp w) with ⟨d, ds1, e1, w1⟩ | ⟨x9, s9, e9, w9⟩
  rotate_left
  · refine .inl (q env ds G r σ H _ S (wpX_bnd.mpr ?_))
    rw [e9]
    exact w9
  obtain ⟨xs, e, w2⟩ := wpX_lft (wpX_bnd.mp w1)
  have go : ∀ (Q : List V → Hp → Prop), (∀ v G1 r1 H1, Nx G r H ds1 G1 r1 H1 → Dq X.K G1 r1 v d → Q [v] H1) → t σ H Q := fun Q k => by
    refine q env ds G r σ H Q S (wpX_bnd.mpr ?_)
    rw [e1]
    intro vs G1 r1 H1 n1 h1
    cases h1 with
    | cons h1 h2 =>
      cases h2
      exact k _ _ _ _ n1 h1
  rcases asSeq_some e with z | z
  · subst z
    refine .inl (go _ fun v G1 r1 H1 n1 h1 => ?_)
    cases h1 with
    | lst e ha => exact ⟨_, _, rfl, Sq_at (n1.s _ _ e), wpX_ret w2 _ _ _ _ n1 (.enm e ha)⟩
  · subst z
    refine .inr (go _ fun v G1 r1 H1 n1 h1 => ?_)
    cases h1 with
    | tup e ha => exact ⟨_, _, rfl, SqT.more n1.s e, wpX_ret w2 _ _ _ _ n1 (.enmT e ha)⟩
theorem sio_enum (h : XOk C T X) (hg : gl C "enumerate" = true) (hn : nst x = true) (a : SO C X x f) : SIo C X (.Tuple elts kk tpos) (.Call (.Name "enumerate" p) [x] [] pos) fun env => bnd (f env) fun x => bnd (lft (asSeq x)) fun xs => ret (enumD 0 xs) := by
  obtain ⟨t, pa, q⟩ := so_cons hn a (F := fun _ => ret []) so_nil
  refine ⟨_, PI.or (pi_enum (gl_ok h hg) (h.bl _ (by decide +kernel)) pa (star_ns hn [] X.env)) (pi_enumT (gl_ok h hg) (h.bl _ (by decide +kernel)) pa (star_ns hn [] X.env)), fun env ds G r σ H R S w => ?_⟩
  rcases wpX_cases (wpX_bnd.mp w) with ⟨d, ds1, e1, w1⟩ | ⟨x9, s9, e9, w9⟩
  rotate_left
  · refine .inl (q env ds G r σ H _ S (wpX_bnd.mpr ?_))
    rw [e9]
    exact w9
  obtain ⟨xs, e, w2⟩ := wpX_lft (wpX_bnd.mp w1)
  have go : ∀ (Q : List V → Hp → Prop), (∀ v G1 r1 H1, Nx G r H ds1 G1 r1 H1 → DqO X.K G1 r1 H1 v d → Q [v] H1) → t σ H Q := fun Q k => by
    refine q env ds G r σ H Q S (wpX_bnd.mpr ?_)
    rw [e1]
    intro vs G1 r1 H1 n1 h1
    cases h1 with
    | cons h1 h2 =>
      cases h2
      exact k _ _ _ _ n1 h1
  rcases asSeq_some e with z | z
  · subst z
    refine .inl (go _ fun v G1 r1 H1 n1 h1 => ?_)
    obtain ⟨a, us, rfl, e, ha, nd⟩ := h1.list n1.s n1.d
    exact ⟨_, _, rfl, Sq_at e, wpX_ret w2 _ _ _ _ n1 (.enm ⟨e, nd⟩ ha)⟩
  · subst z
    refine .inr (go _ fun v G1 r1 H1 n1 h1 => ?_)
    obtain ⟨a, us, rfl, e, ha⟩ := h1.tup
    exact ⟨_, _, rfl, SqT.more n1.s e, wpX_ret w2 _ _ _ _ n1 (.enmT e ha)⟩
end
end Ev

end
section
set_option maxHeartbeats 4000000
/-! # Ev11: list comprehensions -/
namespace Ev
open PySem PySem.Spec L2
variable [TabsC]
def Cz.blk (C : Cz) (scope : Scope) : Cz := { C with sc := relS scope C.sc, fnn := fun x => scope.names.lookup x == some .cell, lam := false, xcs := [] }
abbrev bX (X : Cx) (scope : Scope) (s : Shared) (Hb : Hp) (Cc : Addr) (cl : List (Str × Addr)) (fp : List Addr) : Cx := X.blk s Hb scope (compEnvC scope cl Cc X.env) fp
theorem XOk.blk {C : Cz} {T : Tb} {X : Cx} (h : XOk C T X) (scope : Scope) (s : Shared) (Hb : Hp) (Cc : Addr) (cl : List (Str × Addr)) (fp : List Addr) : XOk (C.blk scope) T (bX X scope s Hb Cc cl fp) where
  N := h.N
  nd := h.nd
  sc := by
    show relS scope X.env.scope = relS scope C.sc
    rw [h.sc]
  calm := h.calm
  po := PassesOwn.never
  fa := h.fa
  xcs := fun p hp => by cases hp
  xc := h.xc
  room2 := fun z => absurd rfl z
  hns := h.hns
  hs := h.hs
  fnn := fun x e => e
  grd := h.grd
  room := h.room
  fns := h.fns
  cns := h.cns
  bl := h.bl
  gcd := h.gcd
  cs := h.cs
  fs := fun j f e => ⟨(h.fs j f e).ex⟩
  lam := fun e => by cases e
def STs (C : Cz) (X : Cx) (ifs : List Expr) (f : Env → M Bool) : Prop := ∃ t : TT, PTs X ifs t ∧ ∀ (env : Env) (ds : Option DS) (G : Hp) (r : Option DA) (σ : St) (H : Hp) (Q : Bool → Hp → Prop), Sim X.K C.own env ds G r σ H →
  wpX (EX X σ G r H) (f env ds) (fun b ds' => ∀ G' r' H', Nx G r H ds' G' r' H' → Q b H') → t σ H Q
theorem sts_nil {C : Cz} {X : Cx} : STs C X [] fun _ => ret true := ⟨_, pts_nil, fun env ds G r σ H Q S w => wpX_ret w _ _ _ (Nx.refl S.sub S.drw)⟩
theorem sts_one {C : Cz} {X : Cx} {x : Expr} {f : Env → M Bool} (a : ST C X x f) : STs C X [x] f := by
  obtain ⟨t, p, q⟩ := a
  exact ⟨t, pts_one p, q⟩

theorem lcL_nx {f : D → M (Option D)} {x : Ex} {s' : Option DS} : ∀ (xs : List D) (s : Option DS), lcL f xs s ≠ .exc x s'
  | [], s => by
    unfold lcL ret
    simp
  | y :: xs, s => by
    unfold lcL bnd nox
    cases f y s with
    | ok a s1 =>
      dsimp only
      cases q : lcL f xs s1 with
      | ok b s2 => dsimp only; unfold ret; simp
      | exc z s2 => exact absurd q (lcL_nx xs s1)
      | stuck => simp
    | exc z s2 => simp
    | stuck => simp

/-! ### the heap without one object -/
def del (H : Hp) (p : Addr) : Hp := fun b => if b = p then none else H b
theorem del_same {H : Hp} {p : Addr} : del H p p = none := if_pos rfl
theorem del_ne {H : Hp} {p b : Addr} (h : b ≠ p) : del H p b = H b := if_neg h
theorem upd_del {H : Hp} {p : Addr} {o : HO} : upd (del H p) p o = upd H p o := by
  funext b
  by_cases h : b = p
  · subst h; rw [upd_same, upd_same]
  · rw [upd_ne h, upd_ne h, del_ne h]
theorem upd_self {H : Hp} {p : Addr} {o : HO} (e : H p = some o) : upd H p o = H := by
  funext b
  by_cases h : b = p
  · subst h; rw [upd_same, e]
  · rw [upd_ne h]
theorem Nx.drop {G H G' H' : Hp} {r r' : Option DA} {ds' : Option DS} {p : Addr} {o : HO} (n : Nx G r (upd H p o) ds' G' r' H') (hp : H p = none) (hn : Ev.notDA r p) (hg : G p = none) (no : ∀ c q, o ≠ LamX.CodeO c q) :
    Nx G r H ds' G' r' (del H' p) ∧ H' p = some o ∧ G' p = none := by
  have e : H' p = some o := n.h p o hn upd_same
  have g' : G' p = none := by
    cases q : G' p with
    | none => rfl
    | some u =>
      rcases n.f p (by rw [q]; simp) with z | z
      · exact absurd hg z
      · rw [upd_same] at z; cases z
  have nd : Ev.notDA r' p := n.notDA hn upd_same
  refine ⟨⟨n.g, n.e, fun b u hb q => ?_, fun b q => ?_, fun b q => ?_, fun b q => ?_, fun b u q => ?_, ?_⟩, e, g'⟩
  · have ne : b ≠ p := ne_of_none q hp
    rw [del_ne ne]
    exact n.h b u hb (by rw [upd_ne ne]; exact q)
  · have ne : b ≠ p := fun z => by rw [z] at q; exact q hp
    rw [del_ne ne]
    exact n.k b (by rw [upd_ne ne]; exact q)
  · have ne : b ≠ p := fun z => by rw [z] at q; exact q g'
    have := n.f b q
    rwa [upd_ne ne] at this
  · have ne : b ≠ p := fun z => by rw [z] at q; exact q nd
    have := n.n b q
    rwa [upd_ne ne] at this
  · have ne : b ≠ p := ne_of_none q g'
    rw [del_ne ne]
    exact n.s b u q
  · exact n.d.mono (fun b u hb q => by
      have ne : b ≠ p := fun z => by
        rcases hb with hb | ⟨c, y, hb⟩
        · rw [z] at hb; exact hb nd
        · rw [z, e] at q
          exact no c y ((Option.some.inj q).trans hb)
      rw [del_ne ne]; exact q) fun b q => .inl q

theorem wipe_in {τ : St} {i : Nat} : ∀ {is : List Nat}, i ∈ is → i < τ.length → (wipe τ is)[i]? = some none
  | [], h, _ => by cases h
  | j :: js, h, ht => by
    unfold wipe
    by_cases hj : j = i
    · subst hj
      rw [List.getElem?_set_self (by rw [wipe_length]; exact ht)]
    · rw [List.getElem?_set_ne hj]
      exact wipe_in ((List.mem_cons.mp h).resolve_left fun z => hj z.symm) ht
theorem wipe_eq {σ σ' : St} {is : List Nat} (l : σ'.length = σ.length) (h : ∀ i, i ∉ is → σ'[i]? = σ[i]?) : wipe σ' is = wipe σ is := by
  apply List.ext_getElem?
  intro i
  by_cases hi : i ∈ is
  · by_cases ht : i < σ.length
    · rw [wipe_in hi ht, wipe_in hi (by rw [l]; exact ht)]
    · rw [List.getElem?_eq_none (by rw [wipe_length]; omega), List.getElem?_eq_none (by rw [wipe_length]; omega)]
  · rw [wipe_out hi, wipe_out hi, h i hi]

/-! ### the comprehension -/
section
variable {C : Cz} {T : Tb} {X : Cx} {xt xi xe : Expr} {ifs : List Expr} {scope : Scope} {pos : Pos} {own : List (Str × Nat)} {tg : Tg} {fi : Env → M (List D)} {fc : Env → M Bool} {fe : Env → M D}
/-- what a reading does, where a new list is its value -/
def SpR (C : Cz) (X : Cx) (t : TE) (f : Env → M D) : Prop := ∀ (env : Env) (ds : Option DS) (G : Hp) (r : Option DA) (σ : St) (H : Hp) (Q : VK), Sim X.K C.own env ds G r σ H →
  wpX (EX X σ G r H) (f env ds) (fun d ds' => ∃ es, d = .list es ∧ ∀ p ys G' r' H', Nx G r H ds' G' r' H' → H' p = none → DqAll X.K G' r' ys es → Q (.ref p) (upd H' p (.lst ys))) → t σ H Q
abbrev lcF (tg : Tg) (fc : Env → M Bool) (fe : Env → M D) (env : Env) : D → M (Option D) := fun x => bnd (lft (asgT tg x env)) fun env' => bnd (fc env') fun t => if t then bnd (fe env') fun y => ret (some y) else ret none
theorem lc_parts (h : XOk C T X) (hi : SIo C X xt xi fi) (ok : blkC C.N C.sc scope own = true) (hown : own.map (·.2) = tgS tg) (ht : mTg (C.blk scope) tg xt = true)
    (hc : ∀ X', XOk (C.blk scope) T X' → STs (C.blk scope) X' ifs fc) (he : ∀ X', XOk (C.blk scope) T X' → SE (C.blk scope) X' xe fe) :
    ∃ (wi : TI) (tG : TG) (tC : TT) (tE : TE), PI X xt xi wi ∧ BlkOk X.N X.env.scope scope own ∧ (∀ s Hb Cc cl fp, PG (bX X scope s Hb Cc cl fp) xt tG) ∧ (∀ s Hb Cc cl fp, PTs (bX X scope s Hb Cc cl fp) ifs tC) ∧ (∀ s Hb Cc cl fp, PE (bX X scope s Hb Cc cl fp) xe tE) ∧
      SpR C X (tLc wi tG tC tE (own.map (·.2))) fun env => bnd (fi env) fun xs => bnd (lcL (lcF tg fc fe env) xs) fun ys => lft (if lenOk xs.length then some (.list ys) else none) := by
  obtain ⟨wi, pi, qi⟩ := hi
  -- the readings, for every block at once
  have G1 := fun s Hb Cc cl fp => (sg (h.blk scope s Hb Cc cl fp) tg xt ht).2
  have C1 := fun s Hb Cc cl fp => hc _ (h.blk scope s Hb Cc cl fp)
  have E1 := fun s Hb Cc cl fp => he _ (h.blk scope s Hb Cc cl fp)
  have hown' : ∀ i ∈ tgS tg, i ∉ C.own := by
    by_cases ne : Nonempty Shared
    · obtain ⟨s⟩ := ne
      exact (sg (h.blk scope s (fun _ => none) 0 [] []) tg xt ht).1
    · exact fun i _ _ => ne ⟨X.s_0⟩
  let tG : TG := fun v σ H Q => ∀ s Hb Cc cl fp, (G1 s Hb Cc cl fp).choose v σ H Q
  let tC : TT := fun σ H Q => ∀ s Hb Cc cl fp, (C1 s Hb Cc cl fp).choose σ H Q
  let tE : TE := fun σ H Q => ∀ s Hb Cc cl fp, (E1 s Hb Cc cl fp).choose σ H Q
  have pG : ∀ s Hb Cc cl fp, PG (bX X scope s Hb Cc cl fp) xt tG := fun s Hb Cc cl fp => ⟨fun pins s' σ H v u Q I r w => (G1 s Hb Cc cl fp).choose_spec.1.run pins s' σ H v u Q I r (w s Hb Cc cl fp)⟩
  have pC : ∀ s Hb Cc cl fp, PTs (bX X scope s Hb Cc cl fp) ifs tC := fun s Hb Cc cl fp => ⟨fun pins s' σ H Q I w => (C1 s Hb Cc cl fp).choose_spec.1.run pins s' σ H Q I (w s Hb Cc cl fp)⟩
  have pE : ∀ s Hb Cc cl fp, PE (bX X scope s Hb Cc cl fp) xe tE := fun s Hb Cc cl fp => ⟨fun pins s' σ H Q I w => (E1 s Hb Cc cl fp).choose_spec.1.run pins s' σ H Q I (w s Hb Cc cl fp)⟩
  have hN : X.N.Nodup := by rw [h.N]; exact h.nd
  have okB : BlkOk X.N X.env.scope scope own := by
    rw [h.N, h.sc]
    exact blkOk_by ok
  refine ⟨wi, tG, tC, tE, pi, okB, pG, pC, pE, fun env ds G r σ H Q S w => ?_⟩
  rw [hown]
  refine qi env ds G r σ H _ S (wpX_mono (wpX_bnd.mp w) fun xs ds1 w1 J G1' r1 H1 n1 wk1 L hL => ?_)
  -- what is wanted at the end
  have w2 : wpX (EX X σ G r H) (lcL (lcF tg fc fe env) xs ds1) fun ys ds' => xs.length ≤ sizeLine ∧ ∀ p zs G' r' H', Nx G r H ds' G' r' H' → H' p = none → DqAll X.K G' r' zs ys → Q (.ref p) (upd H' p (.lst zs)) := by
    refine wpX_mono (wpX_bnd.mp w1) fun ys ds' w2 => ?_
    obtain ⟨d, e, fs, ed, k⟩ := wpX_lft w2
    split at e
    · rename_i hz
      cases e
      cases ed
      exact ⟨lenOk_of hz, k⟩
    · cases e
  have hz : xs.length ≤ sizeLine := by
    rcases wpX_cases w2 with ⟨_, _, _, k⟩ | ⟨x9, s9, e9, _⟩
    · exact k.1
    · exact absurd e9 (lcL_nx _ _)
  let P : Nat → Hp → Prop := fun i Hc => ∃ (ds2 : Option DS) (G2 : Hp) (r2 : Option DA) (H2 : Hp) (acc : List V) (es : List D), Hc = upd H2 L (.lst acc) ∧ H2 L = none ∧ Nx G r H ds2 G2 r2 H2 ∧ acc.length ≤ i ∧ DqAll X.K G2 r2 acc es ∧ Wk X.K G2 r2 (LIo r2 H2) J xs ∧
    wpX (EX X σ G r H) (lcL (lcF tg fc fe env) (xs.drop i) ds2) fun ys ds' => ∀ p zs G' r' H', Nx G r H ds' G' r' H' → H' p = none → DqAll X.K G' r' zs (es ++ ys) → Q (.ref p) (upd H' p (.lst zs))
  have P0 : P 0 (upd H1 L (.lst [])) := ⟨ds1, G1', r1, H1, [], [], rfl, hL, n1, Nat.le_refl _, .nil, wk1, wpX_mono w2 fun ys ds' k => k.2⟩
  -- a turn's end
  have turn : ∀ (i : Nat) (Hc : Hp), i ≤ xs.length → P i Hc → (J.stop i Hc ∧ Q (.ref L) Hc) ∨ (J.go i Hc ∧ i < xs.length ∧ ∀ x H', J.yld i Hc x H' → tG x (wipe σ (tgS tg)) H' fun σ2 H2 => wipe σ2 (tgS tg) = wipe σ (tgS tg) ∧ tC σ2 H2 fun b H3 =>
      if b = true then tE σ2 H3 fun y H4 => ∃ acc, H4 L = some (.lst acc) ∧ acc.length < sizeLine ∧ P (i + 1) (upd H4 L (.lst (acc ++ [y]))) else P (i + 1) H3) := by
    rintro i Hc hi ⟨ds2, G2, r2, H2, acc, es, rfl, hL2, n2, hl2, ha, wk, w3⟩
    have na : Nx G2 r2 H2 ds2 G2 r2 (upd H2 L (.lst acc)) := Nx.apart n2.s n2.d hL2
    have wk' := wk.nx na
    have ndL : notDA r2 L := Classical.byContradiction fun q => n2.d.live q hL2
    have gL : G2 L = none := by
      cases q : G2 L with
      | none => rfl
      | some u => rw [n2.s _ _ q] at hL2; cases hL2
    by_cases hlt : i < xs.length
    · refine .inr ⟨wk'.go na.s hlt, hlt, fun x H' y => ?_⟩
      have ex : xs[i]? = some xs[i] := List.getElem?_eq_getElem hlt
      obtain ⟨G3, n3, hx⟩ := wk'.yld na.s na.d ex y
      rw [List.drop_eq_getElem_cons hlt] at w3
      have w4 := wpX_bnd.mp (wpX_nox.mp (wpX_bnd.mp w3))
      obtain ⟨env', ee, w5⟩ := wpX_lft w4
      have S3 : Sim X.K C.own env ds2 G3 r2 σ H' := n3.sim (na.sim (n2.sim S))
      intro s Hb Cc cl fp
      refine (G1 s Hb Cc cl fp).choose_spec.2 x _ env env' G3 H' r2 (wipe σ (tgS tg)) _ n3.s (by rw [wipe_length]; exact S.len) hx ee fun σ2 u2 => ?_
      have u3 : Upd X.K G3 r2 (tgS tg) env env' σ σ2 := ⟨by rw [u2.l1, wipe_length], u2.l2, fun j hj => ⟨by rw [(u2.out j hj).1, wipe_out hj], (u2.out j hj).2⟩, u2.inn⟩
      have S4 : Sim X.K C.own env' ds2 G3 r2 σ2 H' := S3.upd u3 hown'
      refine ⟨wipe_eq u3.l1 fun j hj => (u3.out j hj).1, ?_⟩
      intro s Hb Cc cl fp
      refine (C1 s Hb Cc cl fp).choose_spec.2 env' ds2 G3 r2 σ2 H' _ S4 (wpX_mono (wpX_bnd.mp w5) fun b ds4 w6 G4 r4 H4 n4 => ?_)
      have n34 := na.trans (n3.trans n4)
      cases b with
      | true =>
        show tE σ2 H4 _
        intro s Hb Cc cl fp
        refine (E1 s Hb Cc cl fp).choose_spec.2 env' ds4 G4 r4 σ2 H4 _ (n4.sim S4) (wpX_mono (wpX_bnd.mp w6) fun d ds5 w7 v G5 r5 H5 n5 hv => ?_)
        have w8 := wpX_bnd.mp (wpX_ret w7)
        obtain ⟨n6, e6, g6⟩ := ((n3.trans n4).trans n5).drop hL2 ndL gL lst_code
        have n7 := n2.trans n6
        refine ⟨acc, e6, by omega, ds5, G5, r5, del H5 L, acc ++ [v], es ++ [d], upd_del.symm, del_same, n7, by rw [List.length_append, List.length_singleton]; omega, (ha.more n6.g n6.e).append (.cons hv .nil), wk.nx n6, ?_⟩
        refine wpX_mono w8 fun ys ds' k p zs G' r' H' n hp hq => wpX_ret k p zs G' r' H' n hp ?_
        rwa [List.append_assoc] at hq
      | false =>
        show P (i + 1) H4
        have w8 := wpX_bnd.mp (wpX_ret w6)
        obtain ⟨n6, e6, g6⟩ := (n3.trans n4).drop hL2 ndL gL lst_code
        have n7 := n2.trans n6
        refine ⟨ds4, G4, r4, del H4 L, acc, es, by rw [upd_del, upd_self e6], del_same, n7, by omega, ha.more n6.g n6.e, wk.nx n6, ?_⟩
        exact wpX_mono w8 fun ys ds' k p zs G' r' H' n hp hq => wpX_ret k p zs G' r' H' n hp hq
    · have ei : xs.length ≤ i := by omega
      refine .inl ⟨wk'.stop na.s ei hi, ?_⟩
      rw [List.drop_of_length_le ei] at w3
      exact wpX_ret w3 L acc G2 r2 H2 n2 hL2 (by simpa using ha)
  refine ⟨fun i m Hc => m = xs.length - i ∧ i ≤ xs.length ∧ P i Hc, ⟨xs.length, by omega, Nat.zero_le _, P0⟩, ?_⟩
  rintro i m Hc ⟨rfl, hi, p⟩
  rcases turn i Hc hi p with q | ⟨q1, hlt, q2⟩
  · exact .inl q
  · exact .inr ⟨q1, P (i + 1), fun H' p' => ⟨xs.length - (i + 1), by omega, rfl, hlt, p'⟩, q2⟩
theorem sr_lc (h : XOk C T X) (hi : SIo C X xt xi fi) (hs : ∀ x, foldedSetIterable xi X.env x = pure x) (ok : blkC C.N C.sc scope own = true) (hown : own.map (·.2) = tgS tg) (ht : mTg (C.blk scope) tg xt = true)
    (hc : ∀ X', XOk (C.blk scope) T X' → STs (C.blk scope) X' ifs fc) (he : ∀ X', XOk (C.blk scope) T X' → SE (C.blk scope) X' xe fe) :
    SR C X (.ListComp xe [⟨xt, xi, ifs, 0⟩] scope pos) fun env => bnd (fi env) fun xs => bnd (lcL (lcF tg fc fe env) xs) fun ys => lft (if lenOk xs.length then some (.list ys) else none) := by
  obtain ⟨wi, tG, tC, tE, pi, okB, pG, pC, pE, q⟩ := lc_parts h hi ok hown ht hc he
  have hN : X.N.Nodup := by rw [h.N]; exact h.nd
  exact ⟨_, pe_lc h.calm hN pi okB pG pC pE hs, q⟩
/-- its store in a name, when that goes before the clean-up -/
theorem lc_set {i : Nat} {y : Str} {py spos : Pos} (h : XOk C T X) (hi : SIo C X xt xi fi) (hs : ∀ x, foldedSetIterable xi X.env x = pure x) (ok : blkC C.N C.sc scope own = true) (hown : own.map (·.2) = tgS tg) (ht : mTg (C.blk scope) tg xt = true)
    (hc : ∀ X', XOk (C.blk scope) T X' → STs (C.blk scope) X' ifs fc) (he : ∀ X', XOk (C.blk scope) T X' → SE (C.blk scope) X' xe fe) (hy : X.N[i]? = some y) (hyl : X.env.scope.names.lookup y = some .local)
    (hsw : swapsWith (.ListComp xe [⟨xt, xi, ifs, 0⟩] scope pos) (some (.Name y py)) spos.line X.env = pure true) :
    ∃ t : TE, PS X (.Assign [.Name y py] (.ListComp xe [⟨xt, xi, ifs, 0⟩] scope pos) spos) (tAsg t (gName i)) ∧ SpR C X t fun env => bnd (fi env) fun xs => bnd (lcL (lcF tg fc fe env) xs) fun ys => lft (if lenOk xs.length then some (.list ys) else none) := by
  obtain ⟨wi, tG, tC, tE, pi, okB, pG, pC, pE, q⟩ := lc_parts h hi ok hown ht hc he
  have hN : X.N.Nodup := by rw [h.N]; exact h.nd
  exact ⟨_, ps_setLc h.calm hN hy hyl hsw pi okB pG pC pE hs, q⟩
end
end Ev

end
section
set_option maxHeartbeats 8000000
/-! # EvK: sorted(.., key=f): the model's walk, f's calls one after another -/
namespace Ev
open PySem PySem.Spec L2
theorem dataLe_int {β : Type} (f : β → Int) (x y : β) : PySem.W.dataLe false (fun p => PyData.int (f p)) x y = decide (f x ≤ f y) := by
  unfold PySem.W.dataLe PySem.W.sortLe
  have e : (PyProof.Rows.listOrd PyProof.Rows.itemOrd).blt (PySem.W.keyToks (.int (f y))) (PySem.W.keyToks (.int (f x))) = decide (f y < f x) := by
    show PyProof.Rows.lexLt PyProof.Rows.itemOrd [Sum.inl (f y)] [Sum.inl (f x)] = _
    by_cases h : f y < f x
    · simp [PyProof.Rows.lexLt, PyProof.Rows.itemLt, h]
    · simp [PyProof.Rows.lexLt, PyProof.Rows.itemLt, h]
  show cond false _ (!_) = _
  rw [cond_false, e]
  by_cases h : f y < f x
  · simp [h]
  · simp [h]; omega
section
variable {X : Cx} {pins : List (Addr × Obj)} {σ : St} {H : Hp} {s s' : Shared}
/-- addresses that a running frame has nothing to do with -/
structure Far (X : Cx) (pins : List (Addr × Obj)) (b : Addr) : Prop where
  sz : X.s_0.heap.objs.size ≤ b
  l : b ≠ X.env.locals
  c : ∀ x c, X.env.cells.lookup x = some c → c ≠ b
  p : ∀ p ∈ X.pn ++ pins, p.1 ≠ b
  f : b ∉ frs X.stack
theorem far_of (I : Inv X pins σ H s) {b : Addr} (hb : s.heap.objs.size ≤ b) : Far X pins b := by
  have l : X.env.locals ≠ b := Nat.ne_of_lt (Nat.lt_of_lt_of_le I.lt hb)
  refine ⟨Nat.le_trans I.sz hb, l.symm, fun x c e => ?_, fun p hp => ?_, fun z => ?_⟩
  · obtain ⟨v, o, ho, _⟩ := I.cell x c e
    exact Nat.ne_of_lt (Nat.lt_of_lt_of_le (Heap.lt_size ho) hb)
  · exact Nat.ne_of_lt (Nat.lt_of_lt_of_le (Heap.lt_size (I.pin p hp).1) hb)
  · rcases List.mem_cons.mp (I.stkSub b z) with e | e
    · exact l e.symm
    · exact I.nofs hb e
theorem far_ch {ch : List Addr} (h : ∀ b ∈ ch, Far X pins b) : ∀ b ∈ ch, (b ∈ X.ex ∨ X.s_0.heap.objs.size ≤ b) ∧ b ≠ X.env.locals ∧ (∀ x c, X.env.cells.lookup x = some c → c ≠ b) ∧ ∀ p ∈ X.pn ++ pins, p.1 ≠ b :=
  fun b hb => ⟨.inr (h b hb).sz, (h b hb).l, (h b hb).c, (h b hb).p⟩
/-- objects that are not tracked are changed -/
theorem inv_poke (I : Inv X pins σ H s) (ch : List Addr) (hch : ∀ b ∈ ch, Far X pins b) (os : s'.os = s.os) (bare : PyProof.Rows.AllBare s'.gens) (nt : ∀ b ∈ ch, H b = none) (k : ∀ b o, b ∉ ch → s.heap.get? b = some o → s'.heap.get? b = some o) : Inv X pins σ H s' := by
  refine I.call' (ch := ch) os ⟨fun b o e _ _ hc => k b o hc e, fun b o e _ _ hc => ⟨o.slots, k b o hc e⟩, fun b o _ n _ => n, fun b o e hc => ⟨o, k b o hc e⟩, fun _ _ e => e, fun _ _ _ e => e, fun b ps e => ⟨#[], by simpa using e⟩⟩ ?_ bare (far_ch hch)
  intro b o e
  refine (I.hok b o e).stay (fun c u hc q => k c u (fun z => ?_) q) (fun _ q => q) fun _ _ q => q
  have n := nt c z
  rcases hc with y | y
  · rw [y, e] at n; cases n
  · rw [y] at n; cases n
/-- an object that is there is tracked from now on -/
theorem inv_track (I : Inv X pins σ H s) {a : Addr} {o : HO} (ha : Far X pins a) (nt : H a = none) (new : ObjOk X.prog X.w (upd H a o) s.heap a o) : Inv X pins σ (upd H a o) s := by
  refine I.call' (ch := [a]) rfl ⟨fun b u e _ _ _ => e, fun b u e _ _ _ => ⟨u.slots, e⟩, fun b u _ n hc => ?_, fun b u e _ => ⟨u, e⟩, fun b xs e => ?_, fun b u v e => ?_, fun b ps e => ⟨#[], ?_⟩⟩ ?_ I.bare (far_ch fun b hb => ?_)
  · rw [upd_ne (fun z => hc (by rw [z]; exact List.mem_singleton.mpr rfl))]; exact n
  · rw [upd_ne (ne_of_none e nt)]; exact e
  · rw [upd_ne (ne_of_none e nt)]; exact e
  · rw [upd_ne (ne_of_none e nt)]; simpa using e
  · intro b u e
    by_cases z : b = a
    · subst z
      rw [upd_same] at e
      cases e
      exact new
    · rw [upd_ne z] at e
      exact (I.hok b u e).stay (fun _ _ _ q => q) (fun c q => by rw [upd_ne (ne_of_none q nt)]; exact q) fun c xs q => by rw [upd_ne (ne_of_none q nt)]; exact q
  · rw [List.mem_singleton.mp hb]; exact ha
theorem vals_snoc {vs : List V} {us : List Value} {v : V} {u : Value} (h : Vals vs us) (r : RelV v u) : Vals (vs ++ [v]) (us ++ [u]) := by
  induction h with
  | nil => exact .cons r .nil
  | cons a _ ih => exact .cons a ih
theorem reads_ints {h : Heap} : ∀ {ks : List Int} {us : List Value}, Vals (ks.map V.int) us → PySem.W.EachIs (fun v d => ∃ as, PySem.Reads h v d as) us (ks.map PyData.int)
  | [], _, .nil => .nil
  | _ :: _, _, .cons r t => by
    obtain ⟨tk, rfl⟩ := r
    exact .cons ⟨[], by constructor⟩ (reads_ints t)
theorem each_ints : ∀ {ks ns : List Int} {us : List Value}, Vals (ns.map V.int) us → ks.length = ns.length → PySem.W.EachIs (fun v (p : Int × Int) => RelV (.int p.2) v) us (ks.zip ns)
  | [], [], _, .nil, _ => .nil
  | [], _ :: _, _, _, l => by simp at l
  | _ :: _, [], _, _, l => by simp at l
  | k :: ks, n :: ns, _, .cons r t, l => .cons r (each_ints t (by simpa using l))
theorem vals_each {ps : List (Int × Int)} {us : List Value} (h : PySem.W.EachIs (fun v (p : Int × Int) => RelV (.int p.2) v) us ps) : Vals (ps.map fun p => V.int p.2) us := by
  induction h with
  | nil => exact .nil
  | cons r _ ih => exact .cons r ih
/-- the calls' end, and the sorting -/
theorem sort_end {A : Around} {a kS : Addr} {kA : Array Value} {ks ns : List Int} {us : List Value} {e e1 : Nat} {P : PySem.Fin → Shared → Prop} {E : Value → Shared → Prop} {prog : Program} {w : World} (hu : A.units + 4 < cLine)
    (nk : s.heap.get? kS = some (PyProof.Rows.seqObj "list" kA e)) (na : s.heap.get? a = some (PyProof.Rows.seqObj "list" #[] e1)) (hka : kS ≠ a) (hk : Vals (ks.map V.int) kA.toList) (hv : Vals (ns.map V.int) us) (hl : ks.length = ns.length) (hz : ns.length ≤ sizeLine)
    (h : ∀ h' tk c out, (∀ b o, b ≠ a → b ≠ kS → s.heap.get? b = some o → h'.get? b = some o) → h'.get? a = some (PyProof.Rows.seqObj "list" (List.toArray out) c) → Vals ((srtK ks ns).map V.int) out → P (.done (.ret .none)) { s with heap := h', toks := tk }) :
    wpAny (model prog w) A (PyProof.Rows.ksk_end a false us.toArray e1 (.ref kS) kA) P E s := by
  have lu : us.length = ns.length := by have := hv.length; simpa using this.symm
  have lk : kA.size = ks.length := by have := hk.length; rw [List.length_map, Array.length_toList] at this; exact this.symm
  have reads := reads_ints (h := s.heap) hk
  have al : PySem.W.AllAlike (ks.map PyData.int) := fun d hd d' hd' => by
    obtain ⟨i, _, rfl⟩ := List.mem_map.mp hd
    obtain ⟨j, _, rfl⟩ := List.mem_map.mp hd'
    rfl
  have so : PySem.W.Sortable (ks.map PyData.int) := .inr fun d hd => by
    obtain ⟨i, _, rfl⟩ := List.mem_map.mp hd
    refine ⟨?_, ?_⟩
    · intro z; cases z
    · intro xs z; cases z
  have S := PySem.W.SortsAt.data (prog := prog) (w := w) (A := A) (s := s) reads al so fun d hd => by
    obtain ⟨i, _, rfl⟩ := List.mem_map.mp hd
    show A.units + 0 < _
    omega
  refine PySem.W.keyH_end (b := false) (h₁ := PySem.W.hideAll s.heap [kS]) (fun b o _ q => PySem.W.of_hideAll _ q) (PySem.W.hideAll_none _ (List.mem_singleton.mpr rfl)) nk na hka S (by rw [lk, lu, hl]) (by rw [lu]; exact hz) fun h' tk c kp ha => ?_
  have ko : PySem.W.KeyedOut false (ks.map PyData.int) us _ := ⟨s.heap, kA.toList, al, rfl, reads⟩
  have e1 : (ks.zip ns).map (fun p => PyData.int p.1) = ks.map PyData.int := by
    have q : (ks.zip ns).map Prod.fst = ks := List.map_fst_zip (by omega)
    conv => rhs; rw [← q, List.map_map]
    rfl
  have ko' : PySem.W.KeyedOut false ((ks.zip ns).map fun p => PyData.int p.1) us (PySem.W.sortVals (PySem.W.dataKind s.heap (ks.map PyData.int)) false kA.toList us) := by
    rw [e1]; exact ko
  have hR := each_ints hv hl
  have out := PySem.W.keyedOut_each (fun p : Int × Int => PyData.int p.1) ko' hR
  refine h h' tk c _ (fun b o h1 h2 q => kp b o h1 (PySem.W.hideAll_get _ q (by simpa using h2))) ha ?_
  have e2 : PySem.W.dataLe false (fun p : Int × Int => PyData.int p.1) = fun a b => decide (a.1 ≤ b.1) := by
    funext a b
    exact dataLe_int (fun p : Int × Int => p.1) a b
  rw [e2] at out
  have z := vals_each out
  unfold srtK
  rw [List.map_map]
  exact z
/-- sorted(l, key=f), l a list of integers, f called on one after another -/
theorem sort_keys {l : Addr} {us : List Value} {ns : List Int} {f : Addr} {Q : VK} (I : Inv X pins σ H s) (hl : s.heap.IsList l us.toArray) (hv : Vals (ns.map V.int) us) (hz : ns.length ≤ sizeLine) (hu : X.A.units + 64 < cLine)
    (P : Nat → List Int → Hp → Prop) (p0 : P 0 [] H)
    (turn : ∀ (i : Nat) (n : Int) (ks : List Int) (H' : Hp) (s' : Shared) (u : Value), ns[i]? = some n → Inv X pins σ H' s' → (∀ b o, s.heap.get? b = some o → H b = none → b ∉ frs X.stack → s'.heap.get? b = some o ∧ H' b = none) → P i ks H' → RelV (.int n) u →
      wpAny (model X.prog X.w) X.A.in1.in1 (call (.ref f) [u]) (fun v s'' => CE X.stack X.prog X.w H' s' (fun y H2 => ∃ k, y = .int k ∧ P (i + 1) (ks ++ [k]) H2) v s'') (fun _ _ => False) s')
    (fin : ∀ (ks : List Int) (H' : Hp) (p : Addr), P ns.length ks H' → ks.length = ns.length → H' p = none → Q (.ref p) (upd H' p (.lst ((srtK ks ns).map V.int)))) :
    wpAny (model X.prog X.w) X.A (call (.builtin "sorted") [.ref l] [(Str.ofString "key", .ref f)]) (EP X pins σ Q) X.xe s := by
  have lu : us.length = ns.length := by have := hv.length; simpa using this.symm
  refine PySem.W.sorted_of_sort hl (by rw [lu]; exact hz) (PyProof.Rows.ksk_s1 _ _) (fun x => PyProof.Rows.ksk_l1 (.ref x) _) fun E' => ?_
  rw [PyProof.Rows.ksk_t1]
  have c1 := PySem.W.copyHeap_at s.heap us
  have old1 : ∀ b o, s.heap.get? b = some o → (PySem.W.copyHeap s.heap us).get? b = some o ∧ b ≠ s.heap.objs.size + 1 := fun b o e => ⟨PySem.W.copyHeap_old e, Nat.ne_of_lt (Nat.lt_succ_of_lt (Heap.lt_size e))⟩
  generalize ea : s.heap.objs.size + 1 = a at c1 old1 ⊢
  have fa : Far X pins a := far_of I (by omega)
  obtain ⟨e1, c2⟩ : ∃ e1, ((PySem.W.copyHeap s.heap us).update a (Obj.mapSeq fun _ => (#[] : Array Value))).get? a = some (PyProof.Rows.seqObj "list" #[] e1) := ⟨_, PyProof.Rows.get?_update_seq c1 fun _ => #[]⟩
  have old2 : ∀ b o, s.heap.get? b = some o → ((PySem.W.copyHeap s.heap us).update a (Obj.mapSeq fun _ => (#[] : Array Value))).get? b = some o := fun b o e => by
    rw [Heap.get?_update_ne _ _ _ _ (old1 b o e).2]; exact (old1 b o e).1
  generalize eh : (PySem.W.copyHeap s.heap us).update a (Obj.mapSeq fun _ => (#[] : Array Value)) = h2 at c2 old2
  unfold PyProof.Rows.ksk_tree
  refine wpAny_bind (PyProof.Rows.listItems_at c1 rfl (wpAny_bind (PyProof.Rows.listUpdate_at c1 rfl ?_ (by rw [List.size_toArray, lu]; exact hz) (Nat.zero_le _))))
  show wpAny _ _ _ _ _ { s with heap := (PySem.W.copyHeap s.heap us).update a (Obj.mapSeq fun _ => (#[] : Array Value)) }
  rw [eh]
  refine wpAny_bind (PyProof.Rows.seqEpoch_at c2 rfl (wpAny_bind (wpAny_newTuple ?_ (by show us.length ≤ _; rw [lu]; exact hz))))
  refine wpAny_bind (wpAny_newList (wpAny_holding ?_) (Nat.zero_le _))
  have a2 : a < h2.objs.size := Heap.lt_size c2
  have s2 : s.heap.objs.size ≤ h2.objs.size := by omega
  have c3 : ((h2.push { cls := .type "tuple", data := .seq us.toArray }).push { cls := .type "list", data := .seq (List.toArray []) }).get? a = some (PyProof.Rows.seqObj "list" #[] e1) := Heap.get?_push_of_some _ (Heap.get?_push_of_some _ c2)
  have old3 : ∀ b o, s.heap.get? b = some o → ((h2.push { cls := .type "tuple", data := .seq us.toArray }).push { cls := .type "list", data := .seq (List.toArray []) }).get? b = some o := fun b o e => Heap.get?_push_of_some _ (Heap.get?_push_of_some _ (old2 b o e))
  have kk : (h2.push { cls := .type "tuple", data := .seq us.toArray }).objs.size = h2.objs.size + 1 := PyProof.Rows.size_push' ..
  have k3 : ((h2.push { cls := .type "tuple", data := .seq us.toArray }).push { cls := .type "list", data := .seq (List.toArray []) }).get? (h2.push { cls := .type "tuple", data := .seq us.toArray }).objs.size = some (PyProof.Rows.seqObj "list" #[] 0) := Heap.get?_push_size _ rfl
  show wpAny _ _ _ _ _ { s with heap := (h2.push { cls := .type "tuple", data := .seq us.toArray }).push { cls := .type "list", data := .seq (List.toArray []) } }
  have ka : (h2.push { cls := .type "tuple", data := .seq us.toArray }).objs.size ≠ a := by rw [kk]; omega
  have fk : Far X pins (h2.push { cls := .type "tuple", data := .seq us.toArray }).objs.size := far_of I (by rw [kk]; omega)
  have nk : H (h2.push { cls := .type "tuple", data := .seq us.toArray }).objs.size = none := I.hok.fresh (by rw [kk]; omega)
  have na : H a = none := I.hok.fresh (by omega)
  have zk : s.heap.objs.size ≤ (h2.push { cls := .type "tuple", data := .seq us.toArray }).objs.size := by rw [kk]; omega
  generalize (h2.push { cls := .type "tuple", data := .seq us.toArray }).objs.size = kS at k3 ka fk nk zk ⊢
  generalize (h2.push { cls := .type "tuple", data := .seq us.toArray }).push { cls := .type "list", data := .seq (List.toArray []) } = h3 at c3 old3 k3 ⊢
  have I3 : Inv X pins σ H { s with heap := h3, toks := s.toks } := I.kept old3
  unfold PyProof.Rows.ksk_rest
  refine wpAny_bind (wpAny_rule ?_)
  rw [List.forIn_toArray]
  refine wpAny_bind (PyProof.Rows.ksk_fold (fun i s' => ∃ (H' : Hp) (ks : List Int) (kA : Array Value) (e : Nat), Inv X pins σ H' s' ∧ (∀ b o, h3.get? b = some o → H b = none → b ∉ frs X.stack → b ≠ kS → s'.heap.get? b = some o ∧ H' b = none) ∧ s'.heap.get? kS = some (PyProof.Rows.seqObj "list" kA e) ∧ H' kS = none ∧
    P i ks H' ∧ Vals (ks.map V.int) kA.toList ∧ ks.length = i) us 0 { s with heap := h3 } ⟨H, [], #[], 0, I3, fun b o e n _ _ => ⟨e, n⟩, k3, nk, p0, .nil, rfl⟩ ?step ?done)
  case step =>
    rintro j x s' hx ⟨H', ks, kA, e, I', old, k', n', p', v', l'⟩
    simp only [Nat.zero_add] at p' l' ⊢
    have hj : j < us.length := (List.getElem?_eq_some_iff.mp hx).1
    obtain ⟨n, hn⟩ : ∃ n, ns[j]? = some n := ⟨_, List.getElem?_eq_getElem (by omega)⟩
    have rx : RelV (.int n) x := by
      obtain ⟨u, hu1, hu2⟩ := hv.get (i := j) (by rw [List.getElem?_map, hn]; rfl)
      rw [hx] at hu1
      cases hu1
      exact hu2
    refine wpAny_bind (wpAny_attempt (wpAny_mono (turn j n ks H' s' x hn I' (fun b o q w1 w2 => old b o (old3 b o q) w1 w2 fun z => ?_) p' rx) (fun v s'' q => ?_) fun _ _ z => z.elim))
    · have lz := Heap.lt_size q
      rw [z] at lz
      exact absurd (Nat.lt_of_lt_of_le lz zk) (Nat.lt_irrefl _)
    · obtain ⟨w', H2, os, bare, un, hok, r, k, rfl, pk⟩ := q
      obtain ⟨tk, rfl⟩ := r
      have I2 : Inv X pins σ H2 s'' := I'.call' (ch := []) os un hok bare fun b z => absurd z (by simp)
      have k2 := un.keep _ _ k' n' fk.f (by simp)
      have n2 := un.free _ _ k' n' (by simp)
      have zA : kA.size ≤ ns.length := by
        have q1 := v'.length
        have q2 : ks.length = kA.size := by rw [← Array.length_toList, ← q1, List.length_map]
        rw [← q2, l', ← lu]
        exact Nat.le_of_lt hj
      obtain ⟨e2, ke⟩ : ∃ e2, (s''.heap.update kS (Obj.mapSeq (·.push (Value.int k tk)))).get? kS = some (PyProof.Rows.seqObj "list" (kA.push (.int k tk)) e2) := ⟨_, PyProof.Rows.get?_update_seq k2 (·.push (Value.int k tk))⟩
      refine wpAny_bind (PyProof.Rows.listUpdate_at k2 rfl (wpAny_pure ⟨rfl, H2, ks ++ [k], kA.push (.int k tk), e2, ?_, fun b o q w1 w2 w3 => ?_, ke, n2, pk, ?_, by simp [l']⟩) (Nat.le_trans zA hz) (by rw [Array.size_push]; omega))
      · exact inv_poke I2 [kS] (fun b hb => by rw [List.mem_singleton.mp hb]; exact fk) rfl I2.bare (fun b hb => by rw [List.mem_singleton.mp hb]; exact n2) fun b o hb q => by
          rw [Heap.get?_update_ne _ _ _ _ (fun z => hb (List.mem_singleton.mpr z))]; exact q
      · obtain ⟨q1, q2⟩ := old b o q w1 w2 w3
        exact ⟨by rw [Heap.get?_update_ne _ _ _ _ w3]; exact un.keep _ _ q1 q2 w2 (by simp), un.free _ _ q1 q2 (by simp)⟩
      · rw [List.map_append, Array.toList_push]
        exact vals_snoc v' ⟨tk, rfl⟩
  case done =>
    rintro s' ⟨H', ks, kA, e, I', old, k', n', p', v', l'⟩
    rw [Nat.zero_add, lu] at p' l'
    obtain ⟨ca, ha⟩ := old a _ c3 na fa.f (Ne.symm ka)
    refine wpAny_bind (PyProof.Rows.listItems_at k' rfl (sort_end (by show X.A.units + 1 + 1 + 4 < _; omega) k' ca ka v' hv l' hz fun h' tk c out kp hc vo => ⟨rfl, .ref a, _, ?_, rfl, fin ks H' a p' l' ha⟩))
    have I4 : Inv X pins σ H' { s' with heap := h', toks := tk } := inv_poke I' [a, kS] (fun b hb => ?_) rfl I'.bare (fun b hb => ?_) fun b o hb q => kp b o (fun z => hb (by simp [z])) (fun z => hb (by simp [z])) q
    · refine inv_track I4 fa ha ⟨?_, out, c, vo, hc⟩
      rw [List.length_map]
      unfold srtK
      rw [List.length_map, List.length_mergeSort, List.length_zip]
      omega
    · rcases List.mem_cons.mp hb with z | z
      · rw [z]; exact fa
      · rw [List.mem_singleton.mp z]; exact fk
    · rcases List.mem_cons.mp hb with z | z
      · rw [z]; exact ha
      · rw [List.mem_singleton.mp z]; exact n'
end
end Ev

end
section
set_option maxHeartbeats 8000000
/-! # EvT: functions that are made as a def runs: lambda x: .. -/
namespace Ev
open PySem PySem.Spec L2
variable [TabsC]
section
variable {X : Cx} {pins : List (Addr × Obj)} {σ : St} {H : Hp} {s : Shared}
abbrev lamQ (X : Cx) : Str := X.env.qual ++ "<lambda>"
abbrev lamF (X : Cx) (params : Arguments) (body : Expr) (scope : Scope) (pm : Value) (c' : Addr) (ctv : Value) : Obj := PySem.W.kla_obj "<lambda>" (lamQ X) params body scope (cloFrom X.env.cells scope.names []) pm c' ctv
/-- the heap when a function was made: its code object is new in the table, or was there -/
def Mk (P : Addr) (q : Str) (H H1 : Hp) : Prop := H1 = H ∨ ∃ ps more c', H P = some (.tbl ps) ∧ H c' = none ∧ c' ≠ P ∧ H1 = upd (upd H P (.tbl (ps ++ more))) c' (LamX.CodeO c' q)
theorem among_new {a b : Int} {t u : Tok} {c : Value} {pos : Pos} {cv : Value} : ∀ (l : List Value), TriplesOk l → codeAmong pos (l ++ [.int a t, .int b u, c]) = some cv → codeAmong pos l = some cv ∨ cv = c := by
  intro l h hc
  fun_induction TriplesOk l with
  | case1 =>
    rw [List.nil_append] at hc
    unfold codeAmong at hc
    by_cases z : (a == (pos.line : Int) && b == (pos.col : Int)) = true
    · rw [if_pos z] at hc
      cases hc; exact .inr rfl
    · rw [if_neg z] at hc
      simp [codeAmong] at hc
  | case2 i t1 j t2 x r ih =>
    rw [List.cons_append, List.cons_append, List.cons_append] at hc
    unfold codeAmong at hc ⊢
    by_cases z : (i == (pos.line : Int) && j == (pos.col : Int)) = true
    · rw [if_pos z] at hc ⊢
      exact .inl hc
    · rw [if_neg z] at hc ⊢
      exact ih h hc
  | case3 l h1 h2 => exact h.elim
theorem lam_new {c P : Addr} {params : Arguments} {body : Expr} {scope : Scope} {pos : Pos} {E : Value → Shared → Prop} {Q : Value → Shared → Prop} (I : Inv X pins σ H s) (TB : LamX.TabB X.base X.mg c P) (hc : X.env.code = .ref c)
    (ht : LamX.TabS H P (lamQ X)) (hd : defaultsOf params X.env = ([], [])) (hf : ∀ y ∈ scope.names, y.2 = .free → ∃ c, X.env.cells.lookup y.1 = some c)
    (h : ∀ (f c' : Addr) (pm ctv : Value) (H1 : Hp) (s' : Shared), Inv X pins σ H1 s' → Mk P (lamQ X) H H1 → LamX.TabS H1 P (lamQ X) → s'.heap.get? f = some (lamF X params body scope pm c' ctv) → H1 f = none → f ∉ frs X.stack → H1 c' = some (LamX.CodeO c' (lamQ X)) → Q (.ref f) s') :
    wpAny (model X.prog X.w) X.A (eval (.Lambda params body scope pos) X.env) Q E s := by
  obtain ⟨ps, hP, tr, all⟩ := ht
  have bP : s.heap.BuiltinsAt X.mg P := TB.bm.keeps I.bk
  have oP : s.heap.get? P = some { cls := .none, data := .fields ps } := I.hok P _ hP
  have nf : ∀ f, s.heap.objs.size ≤ f → f ∉ frs X.stack := fun f hf => (far_of I hf).f
  refine PySem.W.kla_eval hd ?_
  cases am : codeAmong pos ps.toList with
  | some cv =>
    obtain ⟨c', rfl, hco⟩ := all pos cv am
    refine PySem.W.kla_makeFunctionHit (mg := X.mg) (c := c) (P := P) (ps := ps) (closure_ok hf) I.ok.glob (I.mod.glob.keeps I.bk) hc (TB.code.keeps I.bk) oP tr am bP fun ctv h' tk ex sz => ?_
    refine h h'.objs.size c' _ ctv H _ (I.kept (t' := tk) fun b o e => Heap.get?_push_of_some _ (ex b o e)) (.inl rfl) ⟨ps, hP, tr, all⟩ (Heap.get?_push_size _ rfl) (I.hok.fresh sz) (nf _ sz) hco
  | none =>
    refine PySem.W.kla_makeFunction (mg := X.mg) (c := c) (P := P) (ps := ps) (closure_ok hf) I.ok.glob (I.mod.glob.keeps I.bk) hc (TB.code.keeps I.bk) oP tr am TB.gP bP fun c' ctv h' tk ex ge lt rec tab => ?_
    obtain ⟨c2, oc, vs, t, e2, hoc, hdc, hvc⟩ := rec
    cases e2
    have sz : s.heap.objs.size ≤ h'.objs.size := Nat.le_trans ge (Nat.le_of_lt lt)
    have n1 : H c' = none := I.hok.fresh ge
    have cP : c' ≠ P := fun z => by rw [z, hP] at n1; cases n1
    have J := LamX.inv_table (t' := tk) (more := #[rawInt pos.line, rawInt pos.col, .ref c']) (h' := h'.push (lamF X params body scope ((X.mg "__name__").getD .none) c' ctv)) I hP
      (fun b o hb e => Heap.get?_push_of_some _ (ex b o hb e)) (Heap.get?_push_of_some _ tab) ge ⟨oc, vs, t, Heap.get?_push_of_some _ hoc, hdc, hvc⟩
    refine h h'.objs.size c' _ ctv _ _ J (.inr ⟨ps, _, c', hP, n1, cP, rfl⟩) ⟨_, by rw [upd_ne (Ne.symm cP)]; exact upd_same, ?_, fun p cv hcv => ?_⟩ (Heap.get?_push_size _ rfl) ?_ (nf _ sz) upd_same
    · simpa using PySem.TriplesOk_snoc _ _ _ _ tr
    · have hcv' : codeAmong p (ps.toList ++ [rawInt pos.line, rawInt pos.col, .ref c']) = some cv := by simpa using hcv
      rcases among_new _ tr hcv' with z | z
      · obtain ⟨d, e1, e2⟩ := all p cv z
        have nd : d ≠ P := fun y => by rw [y, hP] at e2; cases e2
        exact ⟨d, e1, by rw [upd_ne (ne_of_none e2 n1), upd_ne nd]; exact e2⟩
      · exact ⟨c', z, upd_same⟩
    · rw [upd_ne (Nat.ne_of_gt lt), upd_ne (Nat.ne_of_gt (Nat.lt_of_lt_of_le (Heap.lt_size oP) sz))]
      exact I.hok.fresh sz
theorem Mk.keep {P : Addr} {q : Str} {H H1 : Hp} (m : Mk P q H H1) {b : Addr} {o : HO} (hb : b ≠ P) (e : H b = some o) : H1 b = some o := by
  rcases m with rfl | ⟨ps, more, c', h1, h2, h3, rfl⟩
  · exact e
  · rw [upd_ne (ne_of_none e h2), upd_ne hb]; exact e
theorem nx_mk {P : Addr} {q : Str} {G H H1 : Hp} {r : Option DA} {ds : Option DS} (sm : Same G H) (d : DrOk ds G r H) (m : Mk P q H H1) (t : LamX.TabS H1 P q) (hp : (P, q) ∈ TabsC.tabs) (hu : ∀ p ∈ TabsC.tabs, p.1 = P → p.2 = q) : Nx G r H ds G r H1 := by
  obtain ⟨ps0, hP, _⟩ := d.2.1 (P, q) hp
  have ne : ∀ {b : Addr} {o : HO}, H b = some o → (∀ ps, o ≠ .tbl ps) → b ≠ P := fun e n z => by rw [z, hP] at e; exact n _ (Option.some.inj e).symm
  have gP : G P = none := d.2.2 _ hp
  have ss : Same G H1 := fun b o e => m.keep (ne_of_none e gP) (sm _ _ e)
  refine ⟨Same.refl G, .inr rfl, fun b o n e => m.keep (fun z => n.2 _ hp z) e, fun b e => ?_, fun b e => .inl e, fun b e => .inl e, ss, ?_, fun p hq => ?_, d.2.2⟩
  · by_cases z : b = P
    · obtain ⟨ps, e1, _⟩ := t
      rw [z, e1]; simp
    · obtain ⟨o, eo⟩ := Option.ne_none_iff_exists'.mp e
      rw [m.keep z eo]; simp
  · have dd := d.1
    cases r with
    | none =>
      cases ds with
      | none => trivial
      | some s => exact dd.elim
    | some x =>
      cases ds with
      | none => exact dd.elim
      | some s =>
        obtain ⟨m1, m2, m3, nn, n1, n2, n3⟩ := dd
        exact ⟨m.keep (ne m1 fun _ z => by cases z) m1, m.keep (ne m2 fun _ z => by cases z) m2, m.keep (ne m3 fun _ z => by cases z) m3, nn, n1, n2, n3⟩
  · by_cases z : p.1 = P
    · rw [hu p hq z, z]; exact t
    · obtain ⟨ps, e1, e2, e3⟩ := d.2.1 p hq
      refine ⟨ps, m.keep z e1, e2, fun pos cv hc => ?_⟩
      obtain ⟨c, e4, e5⟩ := e3 pos cv hc
      exact ⟨c, e4, m.keep (ne e5 fun _ z => LamX.codeO_ne _ z) e5⟩
/-! ### a lambda with one parameter, called -/
structure LamS1 (sc scope : Scope) (a : Str) : Prop where
  kind : scope.kind = .function
  co : scope.isCoroutine = false
  gen : scope.isGenerator = false
  par : scope.names.lookup a = some .local
  own : ∀ y ∈ scope.names, y.2 ≠ .cell ∧ (y.2 = .local → y.1 = a)
  free : ∀ y ∈ scope.names, y.2 = .free → sc.names.lookup y.1 = some .cell ∨ sc.names.lookup y.1 = some .free
def lamS1B (sc scope : Scope) (a : Str) : Bool :=
  decide (scope.kind = .function) && (!scope.isCoroutine && (!scope.isGenerator && (decide (scope.names.lookup a = some .local) && scope.names.all fun y => !decide (y.2 = .cell) && ((!decide (y.2 = .local) || decide (y.1 = a)) && (!decide (y.2 = .free) || (decide (sc.names.lookup y.1 = some .cell) || decide (sc.names.lookup y.1 = some .free)))))))
theorem lamS1_by {sc scope : Scope} {a : Str} (h : lamS1B sc scope a = true) : LamS1 sc scope a := by
  simp only [lamS1B, Bool.and_eq_true, Bool.or_eq_true, Bool.not_eq_true', decide_eq_true_eq, decide_eq_false_iff_not, List.all_eq_true] at h
  obtain ⟨h1, h2, h3, h4, h5⟩ := h
  refine ⟨h1, h2, h3, h4, fun y hy => ⟨(h5 y hy).1, fun e => ?_⟩, fun y hy e => ?_⟩
  · rcases (h5 y hy).2.1 with z | z
    · exact absurd e z
    · exact z
  · rcases (h5 y hy).2.2 with z | z
    · exact absurd e z
    · exact z
theorem LamS1.has {scope : Scope} {a : Str} (L : LamS1 X.env.scope scope a) (ok : X.Ok) : ∀ y ∈ scope.names, y.2 = .free → ∃ c, X.env.cells.lookup y.1 = some c := fun y hy e => by
  rcases L.free y hy e with z | z
  · exact ok.has y.1 (.inl z)
  · exact ok.has y.1 (.inr z)
theorem lam_inv {A : Around} {E : XK} {scope : Scope} {f c' : Addr} {h₁ : Heap} {tk : Nat} {a : Str} {i : Nat} {v : V} {u : Value} (I : Inv X pins σ H s) (L : LamS1 X.env.scope scope a) (hA : A.frames = X.A.frames) (hd : A.handled = none)
    (hN : X.N.Nodup) (hi : X.N[i]? = some a) (hv : RelV v u) (ns : h₁.Ns s.heap.objs.size fun y => [(a, u)].reverse.lookup y) (kp : ∀ b o, s.heap.get? b = some o → h₁.get? b = some o) :
    Inv (LamX.lamCx X A X.stack s H E scope f c') [] (σ.set i (some v)) H { s with heap := h₁, toks := tk } := by
  have e0 := I.env0
  have fr := L.has I.ok
  have out : ∀ {y c}, (cloFrom X.env.cells scope.names []).lookup y = some c → X.env.cells.lookup y = some c := fun {y c} e => by
    rcases cloFrom_mem (PySem.mem_of_lookup e) with hm | ⟨h1, h2⟩
    · cases hm
    · obtain ⟨c1, q⟩ := fr _ h1 rfl
      rw [h2, show X.env.cells.lookup y = some c1 from q]
      simp [show X.env.cells.lookup y = some c1 from q]
  have inn : ∀ {y}, scope.names.lookup y = some .free → ∃ c, (cloFrom X.env.cells scope.names []).lookup y = some c := fun {y} hl =>
    mem_lookup (cloFrom_has (cells := X.env.cells) (acc := []) (PySem.mem_of_lookup hl))
  have cell : ∀ {c : Addr} {w : Option Value}, s.heap.IsCell c w → h₁.IsCell c w := fun {c w} ⟨o, h1, h2⟩ => ⟨o, kp _ _ h1, h2⟩
  have nox : ∀ b : Addr, b ∉ (LamX.lamCx X A X.stack s H E scope f c').ex := fun b z => absurd (show b ∈ ([] : List Addr) from z) (by simp)
  refine ⟨⟨e0.mod, L.kind, rfl, rfl, Nat.le_refl _, fun y z c e1 e2 => I.ok.inj y z c (out e1) (out e2), fun y hy => ?_, fun y c z _ => ?_, fun _ => hd, Around.frames_deeper (by rw [hA]; exact e0.frames), .inr ⟨rfl, rfl⟩, fun b z => absurd z (nox b), e0.bs, e0.bsz, fun b _ _ => nox b, fun b z => absurd z (nox b), e0.funs, e0.frf⟩,
    rfl, e0.bare, Un.kept kp, ⟨_, ns, fun j y w e1 e2 e3 => ?_⟩, fun y c e => ?_, e0.hok.fresh (Nat.le_refl _), fun y c e => ?_, fun q hq => absurd (show q ∈ ([] : List (Addr × Obj)) ++ [] from hq) (by simp), e0.hok.kept kp, by rw [List.length_set]; exact I.len⟩
  · rcases (hy : scope.names.lookup y = some .cell ∨ scope.names.lookup y = some .free) with q | q
    · exact absurd rfl (L.own _ (PySem.mem_of_lookup q)).1
    · exact inn q
  · cases (z : false = true)
  · have e1 : X.N[j]? = some y := e1
    by_cases ij : j = i
    · subst ij
      rw [hi] at e1
      cases e1
      have lt : j < σ.length := by
        have := (List.getElem?_eq_some_iff.mp e2).1
        rwa [List.length_set] at this
      rw [List.getElem?_set_self lt] at e2
      cases e2
      exact ⟨u, hv, .inl ⟨L.par, by simp [List.lookup]⟩⟩
    · rw [List.getElem?_set_ne (Ne.symm ij)] at e2
      have ya : y ≠ a := fun z => by
        subst z
        exact ij ((List.getElem?_inj (List.getElem?_eq_some_iff.mp e1).1 hN).mp (e1.trans hi.symm))
      rcases (e3 : Vis scope y) with q | q | q
      · exact absurd ((L.own _ (PySem.mem_of_lookup q)).2 rfl) ya
      · exact absurd rfl (L.own _ (PySem.mem_of_lookup q)).1
      · obtain ⟨m, hn, hl⟩ := I.loc
        have vis : Vis X.env.scope y := (L.free _ (PySem.mem_of_lookup q) rfl).elim (fun z => .inr (.inl z)) fun z => .inr (.inr z)
        obtain ⟨w', r, k⟩ := hl j y w e1 e2 vis
        obtain ⟨c2, h2⟩ := inn q
        refine ⟨w', r, .inr ⟨.inr q, c2, h2, ?_⟩⟩
        rcases k with ⟨k', _⟩ | ⟨_, c3, e', z⟩
        · rcases L.free _ (PySem.mem_of_lookup q) rfl with k2 | k2
          · have k3 : X.env.kindOf y = some .cell := k2
            rw [k3] at k'; cases k'
          · have k3 : X.env.kindOf y = some .free := k2
            rw [k3] at k'; cases k'
        · rw [out h2] at e'
          cases e'
          exact cell z
  · obtain ⟨w', z⟩ := I.cell y c (out e)
    exact ⟨w', cell z⟩
  · exact I.freeC y c (out e)
/-- its call -/
theorem lam_call {A : Around} {scope : Scope} {f c' : Addr} {a : Str} {i k : Nat} {v : V} {u pm ctv : Value} {params : Arguments} {body : Expr} {tb : TE} {Q : VK} (I : Inv X pins σ H s) (L : LamS1 X.env.scope scope a) (hA : A.frames = X.A.frames) (hr : Room (k + 1) A)
    (hN : X.N.Nodup) (hi : X.N[i]? = some a) (hv : RelV v u) (hf : s.heap.get? f = some (lamF X params body scope pm c' ctv)) (hc : H c' = some (LamX.CodeO c' (lamQ X)))
    (hb : bindArgs (PySem.W.kla_fn "<lambda>" (lamQ X) params body scope (cloFrom X.env.cells scope.names []) pm (.ref c') ctv) ⟨[u], []⟩ = pure [(a, u)])
    (hbody : ∀ (s1 : Shared), PE (LamX.lamCx X A X.stack s1 H E0 scope f c').nox body tb) (w : tb (σ.set i (some v)) H Q) :
    wpAny (model X.prog X.w) A (call (.ref f) [u]) (fun y s' => CE X.stack X.prog X.w H s Q y s') (fun _ _ => False) s := by
  obtain ⟨⟨oc, vs, t, hoc, hdc, hvc⟩, _, _⟩ := I.hok c' _ hc
  have rc : codeAny (model X.prog X.w) A (.call (.ref f) ⟨[u], []⟩) (fun r s' => match r with
      | .ok (.ret y) => CE X.stack X.prog X.w H s Q y s'
      | _ => False) s := by
    refine PySem.W.kla_callFunE hr.depth hf rfl L.co L.gen rfl ⟨c', oc, vs, t, rfl, hoc, hdc, hvc⟩ ?_
    rw [hb]
    refine wpAny_pure (wpAny_newFunctionEnv (fun y hy => (L.own y hy).1) (fun y hy => ?_) (fun h₁ hns hsb => ⟨I.nolimit.fresh _ hsb, ?_⟩) L.kind)
    · rw [List.mem_singleton.mp hy]; exact L.par
    have kp : ∀ b o, s.heap.get? b = some o → h₁.get? b = some o := fun b o e => hsb.extBut b o (Nat.ne_of_lt (Heap.lt_size e)) (Heap.get?_push_of_some _ e)
    have J := lam_inv (A := A) (E := E0) (f := f) (c' := c') (tk := s.toks + 1) I L hA hr.hd hN hi hv hns kp
    show codeAny _ _ (.expr body (LamX.lamEnv X scope s.heap.objs.size f c')) _ _
    refine PySem.W.kla_codeExpr (wpAny_mono (((hbody s).run [] _ _ H Q (J.wish _) w)) (fun y s' hq => ?_) fun e s' hq => ?_)
    · obtain ⟨w', H', J', rv, q⟩ := hq
      have J2 := J'.unwish
      exact ⟨w', H', J2.os, J2.bare, J2.base, J2.hok, rv, q⟩
    · exact False.elim hq
  refine wpAny_call (codeAny_mono rc fun r s' hq => ?_)
  cases r with
  | error e => exact hq.elim
  | ok fl =>
    cases fl with
    | ret y => exact hq
    | next => exact hq.elim
    | brk => exact hq.elim
    | cont => exact hq.elim
end
end Ev

end
section
set_option maxHeartbeats 8000000
/-! # EvU: sorted(x, key=lambda a: e) -/
namespace Ev
open PySem PySem.Spec L2
variable [TabsC]
/-- within a function that is made here -/
def Cz.lm (C : Cz) (scope : Scope) : Cz := { C with sc := scope, fnn := fun _ => false, own := [], lam := false, xcs := [] }
section
variable {C : Cz} {T : Tb} {X : Cx}
theorem XOk.lm (h : XOk C T X) (l : C.lam = true) (scope : Scope) (s1 : Shared) (H : Hp) (f c' : Addr) : XOk (C.lm scope) T (LamX.lamCx X X.A.in1.in1 X.stack s1 H E0 scope f c').nox where
  N := h.N
  nd := h.nd
  sc := rfl
  calm := rfl
  po := PassesOwn.never
  fa := h.fa
  xcs := fun p hp => by cases hp
  xc := h.xc
  room2 := fun z => absurd rfl z
  hns := h.hns
  hs := h.hs
  fnn := fun x e => by cases e
  grd := h.grd
  room := ((((h.lam l).1.in1).in1).deeper _).mono (by decide)
  fns := h.fns
  cns := h.cns
  bl := h.bl
  gcd := h.gcd
  cs := h.cs
  fs := fun j f e => by
    obtain ⟨k, a, fd, hr, r⟩ := (h.lam l).2.2 j f e
    exact ⟨k, a, fd, (((hr.in1).in1).deeper _).mono (by omega), r⟩
  lam := fun e => by cases e
theorem keysM_nx {f : Int → M D} {x : Ex} {s' : Option DS} : ∀ (xs : List Int) (s : Option DS), keysM f xs s ≠ .exc x s'
  | [], s => by
    unfold keysM ret
    simp
  | y :: xs, s => by
    unfold keysM bnd nox
    cases f y s with
    | ok a s1 =>
      dsimp only
      cases asI a with
      | none => unfold lft stk; simp
      | some k =>
        unfold lft ret
        dsimp only
        cases q : keysM f xs s1 with
        | ok b s2 => simp
        | exc z s2 => exact absurd q (keysM_nx xs s1)
        | stuck => simp
    | exc z s2 => simp
    | stuck => simp
theorem pick_len (fr : List Nat) : ∀ (j : Nat) (env : Env), (pick fr j env).length = env.length
  | _, [] => rfl
  | j, x :: xs => by rw [pick, List.length_cons, List.length_cons, pick_len fr (j + 1) xs]
theorem pick_get (fr : List Nat) : ∀ (j : Nat) (env : Env) (n : Nat) (d : D), (pick fr j env)[n]? = some (some d) → (j + n) ∈ fr ∧ env[n]? = some (some d)
  | _, [], _, _, e => by simp [pick] at e
  | j, x :: xs, 0, d, e => by
    rw [pick] at e
    by_cases c : fr.contains j = true
    · rw [if_pos c] at e
      exact ⟨by simpa using c, by simpa using e⟩
    · rw [if_neg c] at e
      simp at e
  | j, x :: xs, n + 1, d, e => by
    rw [pick, List.getElem?_cons_succ] at e
    obtain ⟨a, b⟩ := pick_get fr (j + 1) xs n d e
    exact ⟨by rw [show j + (n + 1) = j + 1 + n by omega]; exact a, by simpa using b⟩
/-- what a function made here knows of the slots -/
theorem Sim.lam {O : List Nat} {env : Env} {ds : Option DS} {G H : Hp} {r : Option DA} {σ : St} {K : PySem.W.Frag} (S : Sim K O env ds G r σ H) {fr : List Nat} (ho : ∀ j ∈ fr, j ∉ O) (i : Nat) (n : Int) : Sim K [] ((pick fr 0 env).set i (some (.int n))) ds G r (σ.set i (some (.int n))) H where
  sub := S.sub
  len := by rw [List.length_set, List.length_set, pick_len]; exact S.len
  var := fun j d _ e => by
    by_cases ij : i = j
    · subst ij
      have lt : i < (pick fr 0 env).length := by
        have := (List.getElem?_eq_some_iff.mp e).1
        rwa [List.length_set] at this
      rw [List.getElem?_set_self lt] at e
      cases e
      exact ⟨.int n, List.getElem?_set_self (by rw [S.len, ← pick_len fr 0 env]; exact lt), .int n⟩
    · rw [List.getElem?_set_ne ij] at e ⊢
      obtain ⟨a, b⟩ := pick_get fr 0 env j d e
      rw [Nat.zero_add] at a
      exact S.var j d (ho j a) b
  own := fun j d hj => by simp at hj
  sep := fun j k a hj => by simp at hj
  drw := S.drw
theorem Mk.seq {P b : Addr} {q : Str} {H H1 : Hp} {K : PySem.W.Frag} {xs : List V} (m : Mk P q H H1) (t : LamX.TabS H P q) (h : SqL K H b xs) : SqL K H1 b xs := by
  obtain ⟨ps, hP, _⟩ := t
  have ne : ∀ {c : Addr} {o : HO}, H c = some o → (∀ ps, o ≠ .tbl ps) → c ≠ P := fun e n z => by rw [z, hP] at e; exact n _ (Option.some.inj e).symm
  rcases h with (h | ⟨o, h⟩) | h
  · exact .inl (.inl (m.keep (ne h fun _ z => by cases z) h))
  · exact .inl (.inr ⟨o, m.keep (ne h fun _ z => by cases z) h⟩)
  · exact .inr h
/-- a code object is none of the draws', nor a table -/
theorem DrOk.code {ds : Option DS} {G H : Hp} {r : Option DA} (d : DrOk ds G r H) {b c : Addr} {q : Str} (e : H b = some (LamX.CodeO c q)) : ¬ ¬ notDA r b := fun n => n (by
  obtain ⟨dd, t, _⟩ := d
  refine ⟨fun x hx => ?_, fun p hp z => ?_⟩
  · subst hx
    cases ds with
    | none => exact dd.elim
    | some s =>
      obtain ⟨m1, m2, m3, _⟩ := dd
      refine ⟨fun z => ?_, fun z => ?_, fun z => ?_⟩
      · rw [z, m1] at e; exact dk_code _ _ (Option.some.inj e)
      · rw [z, m2] at e; exact lst_code _ _ (Option.some.inj e)
      · rw [z, m3] at e; exact lst_code _ _ (Option.some.inj e)
  · obtain ⟨ps, h1, _⟩ := t p hp
    rw [z, h1] at e
    exact LamX.codeO_ne _ (Option.some.inj e).symm)
/-- what is asked of the walked list, at the heap behind it -/
def SkW (K : PySem.W.Frag) (P : Addr) (q : Str) (tb : TE) (i : Nat) (σ : St) (Q : VK) (v : V) (H1 : Hp) : Prop :=
  ∃ (b : Addr) (ns : List Int), v = .ref b ∧ SqL K H1 b (ns.map V.int) ∧ ns.length ≤ sizeLine ∧ LamX.TabS H1 P q ∧ ∀ H2, Mk P q H1 H2 → LamX.TabS H2 P q → ∃ J : Nat → List Int → Hp → Prop, J 0 [] H2 ∧
    (∀ j n ks H', ns[j]? = some n → J j ks H' → tb (σ.set i (some (.int n))) H' fun y H3 => ∃ k, y = .int k ∧ J (j + 1) (ks ++ [k]) H3) ∧ (∀ j ks H' b', J j ks H' → H2 b' = some (LamX.CodeO b' q) → H' b' = some (LamX.CodeO b' q)) ∧
    ∀ ks H' p, J ns.length ks H' → ks.length = ns.length → H' p = none → Q (.ref p) (upd H' p (.lst ((srtK ks ns).map V.int)))
def lamNm (a : Str) : Bool := decide (a = "phase") || (decide (a = "one") || decide (a = "step"))
theorem lam_bind {a : Str} (h : lamNm a = true) {ap : Pos} {q : Str} {body : Expr} {scope : Scope} {cl : List (Str × Addr)} {pm cv ctv u : Value} :
    bindArgs (PySem.W.kla_fn "<lambda>" q ⟨[], [⟨a, none, ap⟩], none, [], [], none, []⟩ body scope cl pm cv ctv) ⟨[u], []⟩ = pure [(a, u)] := by
  simp only [lamNm, Bool.or_eq_true, decide_eq_true_eq] at h
  rcases h with h | h | h <;> subst h <;> rfl
theorem se_skey {p lpos kp pos ap : Pos} {xa body : Expr} {scope : Scope} {a : Str} {i : Nat} {fr : List Nat} {fa fb : Env → M D} (h : XOk C T X) (l : C.lam = true) (hg : gl C "sorted" = true) (hns : nst xa = true) (ha : SE C X xa fa)
    (L : lamS1B C.sc scope a = true) (hi : C.N[i]? = some a) (hm : lamNm a = true) (ho : ∀ j ∈ fr, j ∉ C.own) (hb : ∀ X', XOk (C.lm scope) T X' → SE (C.lm scope) X' body fb) :
    SE C X (.Call (.Name "sorted" p) [xa] [⟨some "key", .Lambda ⟨[], [⟨a, none, ap⟩], none, [], [], none, []⟩ body scope lpos, kp⟩] pos) fun env => bnd (fa env) fun x => bnd (lft ((asL x).bind intsOf)) fun ns => bnd (keysM (fun n => fb ((pick fr 0 env).set i (some (.int n)))) ns) fun ks => lft (if lenOk ns.length then some (.list ((srtK ks ns).map .int)) else none) := by
  obtain ⟨ta, pa, qa⟩ := ha
  obtain ⟨r4, ⟨c, P, hc, TB, hP, hU⟩, _⟩ := h.lam l
  have B := fun s1 H0 f c' => hb _ (h.lm l scope s1 H0 f c')
  let tb : TE := fun σ H Q => ∀ s1 H0 f c', (B s1 H0 f c').choose σ H Q
  have pb : ∀ s1 H0 f c', PE (LamX.lamCx X X.A.in1.in1 X.stack s1 H0 E0 scope f c').nox body tb := fun s1 H0 f c' => ⟨fun pins s' σ H Q I w => (B s1 H0 f c').choose_spec.1.run pins s' σ H Q I (w s1 H0 f c')⟩
  have Ls : LamS1 X.env.scope scope a := by rw [h.sc]; exact lamS1_by L
  have hN : X.N.Nodup := by rw [h.N]; exact h.nd
  have hi' : X.N[i]? = some a := by rw [h.N]; exact hi
  have hu : X.A.units + 64 < cLine := h.room.units
  refine ⟨fun σ H Q => ta σ H (SkW X.K P (lamQ X) tb i σ Q), ?_, ?_⟩
  · refine ⟨fun pins s σ H Q I w => ?_⟩
    have bs : bootBuiltins "sorted" = some (.builtin "sorted") := by decide +kernel
    refine wpAny_Call_Name_kw (ld_blt I (gl_ok h hg) (h.bl _ (by decide +kernel)) bs ?_ (by decide +kernel) (by decide +kernel))
    have hs := star_ns hns [] X.env
    refine PyProof.Rows.callWith_kw (thn ((pa_cons pa pa_nil (hs := hs)).run pos pins s σ H (fun vs H1 => match vs with
      | [v] => SkW X.K P (lamQ X) tb i σ Q v H1
      | _ => False) I w) fun us s1 ⟨vs, H1, I1, rv, w0⟩ => ?_) (by rw [hs]; rfl) (by rw [hs]; rfl)
    dsimp only at w0
    split at w0
    · rename_i v
      obtain ⟨b, ns, rfl, hl, hz, tt, w1⟩ := w0
      obtain ⟨u, rfl⟩ : ∃ u, us = [u] := by
        cases rv with
        | cons _ t => cases t; exact ⟨_, rfl⟩
      cases rv with
      | cons ru _ =>
      obtain rfl : u = Value.ref b := ru
      show wpAny _ _ (evalAll [do let v ← eval (.Lambda ⟨[], [⟨a, none, ap⟩], none, [], [], none, []⟩ body scope lpos) X.env; standAt pos; pure v]) _ _ _
      refine wpAny_evalAll_cons (wpAny_bind (lam_new I1 TB hc tt rfl (Ls.has I1.ok) fun f c' pm ctv H2 s2 I2 mk t2 hf nf nfr hco => wpAny_bind (wpAny_standAt (wpAny_pure (wpAny_evalAll_nil ?_)))))
      obtain ⟨J, j0, jt, jc, jf⟩ := w1 H2 mk t2
      obtain ⟨its, rl, pl, _⟩ := I2.list (mk.seq tt hl)
      show wpAny _ _ (call (.builtin "sorted") [.ref b] [(Str.ofString "key", .ref f)]) _ _ _
      refine sort_keys I2 pl.isList rl hz hu J j0 (fun j n ks H' s' u hn I' old pj ru => ?_) jf
      exact lam_call (A := X.A.in1.in1) (k := 0) I' Ls rfl (((r4.in1).in1).mono (by decide)) hN hi' ru (old f _ hf nf nfr).1 (jc _ _ _ _ pj hco) (lam_bind hm) (fun s1 => pb s1 H' f c') (jt j n ks H' hn pj)
    · exact w0.elim
  · intro env ds G r σ H Q S w
    refine qa env ds G r σ H _ S (wpX_mono (wpX_bnd.mp w) fun d ds1 w1 v G1 r1 H1 n1 h1 => ?_)
    obtain ⟨ns, e, w2⟩ := wpX_lft (wpX_bnd.mp w1)
    obtain ⟨es, e1, e2⟩ := Option.bind_eq_some_iff.mp e
    cases asL_some e1
    cases h1 with
    | lst hb1 ha1 =>
    rename_i b xs
    have hv := ha1.ints e2
    subst hv
    have S1 := n1.sim S
    have w3 : wpX (EX X σ G r H) (keysM (fun n => fb ((pick fr 0 env).set i (some (.int n)))) ns ds1) fun ks ds' => ns.length ≤ sizeLine ∧ ∀ v G' r' H', Nx G r H ds' G' r' H' → Dq X.K G' r' v (.list ((srtK ks ns).map .int)) → Q v H' := by
      refine wpX_mono (wpX_bnd.mp w2) fun ks ds' w4 => ?_
      obtain ⟨d, e, k⟩ := wpX_lft w4
      split at e
      · rename_i hz
        cases e
        exact ⟨lenOk_of hz, k⟩
      · cases e
    have hz : ns.length ≤ sizeLine := by
      rcases wpX_cases w3 with ⟨_, _, _, k⟩ | ⟨x9, s9, e9, _⟩
      · exact k.1
      · exact absurd e9 (keysM_nx _ _)
    refine ⟨b, ns, rfl, .inl (.inl (n1.s _ _ hb1)), hz, n1.d.2.1 _ hP, fun H2 mk t2 => ?_⟩
    have n2 := nx_mk n1.s n1.d mk t2 hP hU
    refine ⟨fun j ks H' => j = ks.length ∧ ∃ (ds' : Option DS) (G' : Hp) (r' : Option DA), Nx G1 r1 H2 ds' G' r' H' ∧ wpX (EX X σ G r H) (keysM (fun n => fb ((pick fr 0 env).set i (some (.int n)))) (ns.drop j) ds') fun ks' ds'' => ∀ v G' r' H', Nx G r H ds'' G' r' H' → Dq X.K G' r' v (.list ((srtK (ks ++ ks') ns).map .int)) → Q v H',
      ⟨rfl, ds1, G1, r1, Nx.refl n2.s n2.d, wpX_mono w3 fun ks' ds'' k => k.2⟩, ?_, ?_, ?_⟩
    · rintro j n ks H' hn ⟨rfl, ds', G', r', n3, w4⟩ s1 H0 f c'
      have lt := (List.getElem?_eq_some_iff.mp hn).1
      have S3 := (n3.sim (n2.sim S1)).lam ho i n
      rw [List.drop_eq_getElem_cons lt, show ns[ks.length] = n from by rw [List.getElem?_eq_getElem lt] at hn; exact Option.some.inj hn] at w4
      refine (B s1 H0 f c').choose_spec.2 _ ds' G' r' _ H' _ S3 (wpX_mono (wpX_nox.mp (wpX_bnd.mp w4)) fun d ds2 w5 v G2 r2 H2' n4 h4 => ?_)
      obtain ⟨k, e3, w6⟩ := wpX_lft (wpX_bnd.mp w5)
      cases asI_some e3
      cases h4
      refine ⟨k, rfl, by simp, ds2, G2, r2, n3.trans n4, ?_⟩
      rw [show ks.length + 1 = ks.length + 1 from rfl]
      refine wpX_mono (wpX_bnd.mp w6) fun ks' ds'' w7 => ?_
      have w8 := wpX_ret w7
      intro v G'' r'' H'' n5 q5
      exact w8 v G'' r'' H'' n5 (by rw [List.append_assoc] at q5; exact q5)
    · rintro j ks H' b' ⟨_, ds', G', r', n3, _⟩ e3
      refine n3.h b' _ (Classical.byContradiction fun z => ?_) e3
      exact n2.d.code e3 z
    · rintro ks H' p ⟨el, ds', G', r', n3, w4⟩ lk hp
      rw [List.drop_eq_nil_of_le (by omega)] at w4
      have w5 := wpX_ret w4
      rw [List.append_nil] at w5
      have all := (n1.trans n2).trans n3
      obtain ⟨n6, m6⟩ := Nx.lst all.s all.d hp (ints_all (srtK ks ns))
      exact w5 _ _ _ _ (all.trans n6) m6
end
end Ev

end
section
set_option maxHeartbeats 8000000
/-! # EvD: the law's script and its draws: what is read -/
namespace Ev
open PySem PySem.Spec L2
variable [TabsC]
section
variable {K : PySem.W.Frag} {O : List Nat} {env : Env} {ds : Option DS} {G H : Hp} {r : Option DA} {σ : St}
theorem onDS_ok {α : Type} {E : Ex → Option DS → Prop} {d : Option D} {f : DS → Option α} {Q : α → Option DS → Prop} (h : wpX E (onDS d f ds) Q) : d = some (.dict []) ∧ ∃ s a, ds = some s ∧ f s = some a ∧ Q a ds := by
  unfold onDS at h
  split at h
  · rename_i s
    split at h
    · rename_i a e
      exact ⟨rfl, s, a, rfl, e, h⟩
    · exact h.elim
  · exact h.elim
theorem upDS_ok {α : Type} {E : Ex → Option DS → Prop} {d : Option D} {a : α} {f : DS → Option DS} {Q : α → Option DS → Prop} (h : wpX E (upDS d a f ds) Q) : d = some (.dict []) ∧ ∃ s s', ds = some s ∧ f s = some s' ∧ Q a (some s') := by
  unfold upDS at h
  split at h
  · rename_i s
    split at h
    · rename_i s' e
      exact ⟨rfl, s, s', rfl, e, h⟩
    · exact h.elim
  · exact h.elim
theorem Sim.draws {s : DS} (S : Sim K O env (some s) G r σ H) {i : Nat} (h : getv env i = some (.dict [])) : ∃ x, r = some x ∧ σ[i]? = some (some (V.ref x.d)) ∧
    H x.d = some (.dK [(.inr "cells", .ref x.c), (.inr "lefts", .ref x.l), (.inr "at", .int s.cnt)]) ∧ H x.c = some (.lst (s.cells.map V.int)) ∧ H x.l = some (.lst (s.lefts.map V.int)) := by
  obtain ⟨v, h1, h2⟩ := S.get h
  rcases h2 with h2 | ⟨es, e, _⟩
  · have d := S.drw
    cases h2 with
    | drw hx =>
      subst hx
      obtain ⟨⟨m1, m2, m3, _⟩, _⟩ := d
      exact ⟨_, rfl, h1, m1, m2, m3⟩
  · cases e
end
section
variable {C : Cz} {T : Tb} {X : Cx} {x : Expr} {f : Env → M D} {i : Nat} {n : Str} {p p1 p2 p3 pos pos' : Pos} {j : Nat}
theorem hu1 (h : XOk C T X) : X.A.units + 1 < cLine := Nat.lt_of_le_of_lt (Nat.add_le_add_left (by decide : 1 ≤ 64) _) h.room.units
theorem dget {x : DA} {s : DS} {H : Hp} (m : H x.d = some (.dK [(.inr "cells", .ref x.c), (.inr "lefts", .ref x.l), (.inr "at", .int s.cnt)])) :
    DGet H x.d (.str "cells") (some (.ref x.c)) ∧ DGet H x.d (.str "lefts") (some (.ref x.l)) ∧ DGet H x.d (.str "at") (some (.int s.cnt)) :=
  ⟨DGet.k (k := .inr "cells") m, DGet.k (k := .inr "lefts") m, DGet.k (k := .inr "at") m⟩
theorem pe_key (h : XOk C T X) (m : nmV C i n = true) (y : Str) : PE X (.Subscript (.Name n p) (.Constant (.str y) j p1) pos) (tDGet (tVar i) (tC (.str y))) := pe_dget (hu1 h) (nmV_ok h m) pe_str fun _ _ => rfl
theorem se_dAt (h : XOk C T X) (m : nmV C i n = true) : SE C X (.Subscript (.Name n p) (.Constant (.str "at") j p1) pos) fun env => onDS (getv env i) fun s => some (.int s.cnt) := by
  refine ⟨_, pe_key h m "at", fun env ds G r σ H Q S w => ?_⟩
  obtain ⟨e, s, a, rfl, ea, k⟩ := onDS_ok w
  cases ea
  obtain ⟨x, rfl, h1, m1, m2, m3⟩ := S.draws e
  exact ⟨_, h1, _, _, rfl, (dget m1).2.2, k _ _ _ _ (Nx.refl S.sub S.drw) (.int _)⟩
theorem se_dLen (h : XOk C T X) (m : nmV C i n = true) (hg : gl C "len" = true) : SE C X (.Call (.Name "len" p2) [.Subscript (.Name n p) (.Constant (.str "cells") j p1) pos] [] pos') fun env => onDS (getv env i) fun s => some (.int s.cells.length) := by
  refine ⟨_, pe_callB call_len_seq (gl_ok h hg) (h.bl _ (by decide +kernel)) PySem.boot_len (pa_cons (pe_key h m "cells") pa_nil), fun env ds G r σ H Q S w => ?_⟩
  obtain ⟨e, s, a, rfl, ea, k⟩ := onDS_ok w
  cases ea
  obtain ⟨x, rfl, h1, m1, m2, m3⟩ := S.draws e
  refine ⟨_, h1, _, _, rfl, (dget m1).1, _, _, rfl, .inl (Sq_at m2), ?_⟩
  rw [List.length_map]
  exact k _ _ _ _ (Nx.refl S.sub S.drw) (.int _)
theorem at_map {ns : List Int} {k a : Int} (e : atI ns k = some a) : atI (ns.map V.int) k = some (.int a) := by
  unfold atI at e ⊢
  rw [List.length_map]
  cases h : ixN ns.length k with
  | none => rw [h] at e; cases e
  | some j =>
    rw [h] at e
    show (ns.map V.int)[j]? = _
    have e' : ns[j]? = some a := e
    rw [List.getElem?_map, e']
    rfl
theorem so_int {k : Nat} {d : Int} {K : PySem.W.Frag} {O : List Nat} {env : Env} {ds : Option DS} {G H : Hp} {r : Option DA} {σ : St} (S : Sim K O env ds G r σ H) (e : (getv env k).bind asI = some d) : σ[k]? = some (some (V.int d)) := by
  obtain ⟨a, e1, e2⟩ := Option.bind_eq_some_iff.mp e
  cases asI_some e2
  obtain ⟨v, h1, h2⟩ := S.get e1
  rcases h2 with h2 | ⟨es, z, _⟩
  · cases h2; exact h1
  · cases z
theorem se_dCell {k : Nat} {y : Str} {p5 : Pos} (h : XOk C T X) (m : nmV C i n = true) (m2 : nmV C k y = true) : SE C X (.Subscript (.Subscript (.Name n p) (.Constant (.str "cells") j p1) pos) (.Name y p5) pos') fun env => bnd (lft ((getv env k).bind asI)) fun n => onDS (getv env i) fun s => (atI s.cells n).map .int := by
  refine ⟨_, pe_ix ix_list (pe_key h m "cells") (nmV_ok h m2) (fun _ _ => rfl), fun env ds G r σ H Q S w => ?_⟩
  obtain ⟨d, e1, w1⟩ := wpX_lft (wpX_bnd.mp w)
  obtain ⟨e, s, a, rfl, ea, k'⟩ := onDS_ok w1
  obtain ⟨c, ec, rfl⟩ := Option.map_eq_some_iff.mp ea
  obtain ⟨x, rfl, h1, m1, m2, m3⟩ := S.draws e
  exact ⟨_, h1, _, _, rfl, (dget m1).1, _, so_int S e1, _, _, _, _, rfl, rfl, Sq_at m2, at_map ec, k' _ _ _ _ (Nx.refl S.sub S.drw) (.int _)⟩
theorem se_dLeft {k : Nat} {y : Str} {p5 : Pos} (h : XOk C T X) (m : nmV C i n = true) (m2 : nmV C k y = true) : SE C X (.Subscript (.Subscript (.Name n p) (.Constant (.str "lefts") j p1) pos) (.Name y p5) pos') fun env => bnd (lft ((getv env k).bind asI)) fun n => onDS (getv env i) fun s => (atI s.lefts n).map .int := by
  refine ⟨_, pe_ix ix_list (pe_key h m "lefts") (nmV_ok h m2) (fun _ _ => rfl), fun env ds G r σ H Q S w => ?_⟩
  obtain ⟨d, e1, w1⟩ := wpX_lft (wpX_bnd.mp w)
  obtain ⟨e, s, a, rfl, ea, k'⟩ := onDS_ok w1
  obtain ⟨c, ec, rfl⟩ := Option.map_eq_some_iff.mp ea
  obtain ⟨x, rfl, h1, m1, m2, m3⟩ := S.draws e
  exact ⟨_, h1, _, _, rfl, (dget m1).2.1, _, so_int S e1, _, _, _, _, rfl, rfl, Sq_at m3, at_map ec, k' _ _ _ _ (Nx.refl S.sub S.drw) (.int _)⟩

/-! ### the script -/
omit [TabsC] in
theorem keysI_map (ns : List Int) : keysI (ns.map fun n => (.int n, .none)) = some ns := by
  induction ns with
  | nil => rfl
  | cons n ns ih => rw [List.map_cons, keysI, ih]; rfl
omit [TabsC] in
theorem unscr_scrD (ns : List Int) : unscr (scrD ns) = some ns := by
  cases ns with
  | nil => rfl
  | cons n ns =>
    show (keysI (ns.map fun n => (.int n, .none))).map (n :: ·) = _
    rw [keysI_map]; rfl
/-- the script's object -/
theorem Sim.script {K : PySem.W.Frag} {O : List Nat} {env : Env} {ds : Option DS} {G H : Hp} {r : Option DA} {σ : St} {ns : List Int} (S : Sim K O env ds G r σ H) {i : Nat} (h : (getv env i).bind unscr = some ns) : ∃ a, σ[i]? = some (some (V.ref a)) ∧ SqL K H a (ns.map V.int) := by
  obtain ⟨d, e1, e2⟩ := Option.bind_eq_some_iff.mp h
  obtain ⟨v, h1, h2⟩ := S.get e1
  rcases h2 with h2 | ⟨es, z, _⟩
  · cases h2 with
    | drw hx => cases e2
    | scr hs =>
      rename_i a m ms
      have e3 : unscr (scrD (m :: ms)) = some ns := e2
      rw [unscr_scrD] at e3
      cases e3
      exact ⟨_, h1, S.sub.seq hs⟩
    | scr0 hs =>
      have e3 : ns = [] := by
        have : unscr (scrD []) = some ns := e2
        rw [unscr_scrD] at this
        exact (Option.some.inj this).symm
      subst e3
      exact ⟨_, h1, S.sub.seq hs⟩
    | _ => cases e2
  · subst z; cases e2
theorem eqv_nil (ns : List Int) : PyData.eqv (.list (ns.map .int)) (.list []) = ns.isEmpty := by
  cases ns <;> rfl
theorem dp_ints {K : PySem.W.Frag} {H : Hp} : ∀ ns : List Int, DpAll K H (ns.map V.int) (ns.map PyData.int)
  | [] => .nil
  | n :: ns => .cons (.int n) (dp_ints ns)
theorem dq_ints {K : PySem.W.Frag} {G : Hp} {r : Option DA} : ∀ ns : List Int, DqAll K G r (ns.map V.int) (ns.map PyData.int)
  | [] => .nil
  | n :: ns => .cons (.int n) (dq_ints ns)
theorem sr_scr {p4 p5 p6 p7 : Pos} {k : Nat} (h : XOk C T X) (m : nmV C i n = true) (hg : gl C "list" = true) :
    SR C X (.IfExp (.Compare (.Name n p) [.NotEq] [.List [] p1] p2) (.Call (.Name "list" p3) [.Name n p4] [] p5) (.List [.Constant (.int 0) k p6] p7) pos) fun env => lft (((getv env i).bind unscr).map fun ns => .list ((orZero ns).map .int)) := by
  have hu : X.A.units + 64 < cLine := h.room.units
  refine ⟨_, pe_ifExp (pt_cmpR (coR_ok hu .ne) (nmV_ok h m) (pe_lst pa_nil) (nomark _ (by decide) (by decide))) (pe_callTy call_list_of (gl_ok h hg) (h.bl _ (by decide +kernel)) (by decide +kernel) (pa_cons (nmV_ok h m) pa_nil)) (pe_lst (pa_cons pe_int pa_nil)), fun env ds G r σ H Q S w => ?_⟩
  obtain ⟨d, e, es, rfl, k⟩ := wpX_lft w
  obtain ⟨ns, e1, e2⟩ := Option.map_eq_some_iff.mp e
  cases e2
  obtain ⟨a, h1, h2⟩ := S.script e1
  refine ⟨_, h1, Nat.zero_le _, fun o no => ?_⟩
  have na : Nx G r H ds G r (upd H o (.lst [])) := Nx.apart S.sub S.drw no
  have sm : Same H (upd H o (.lst [])) := fun b u q => by rw [upd_ne (ne_of_none q no)]; exact q
  have h3 : SqL X.K (upd H o (.lst [])) a (ns.map V.int) := sm.seq h2
  refine ⟨_, _, .lst h3 (dp_ints ns), .lst (.inl (.inl upd_same)) .nil, PySem.W.shaped_ints ns, PySem.W.shaped_ints [], ?_⟩
  rw [eqv_nil]
  refine ⟨_, rfl, ?_⟩
  cases ns with
  | nil =>
    refine ⟨(by decide), fun p hp => ?_⟩
    exact k p [.int 0] G r _ na hp (.cons (.int 0) .nil)
  | cons n ns =>
    refine ⟨_, h1, _, _, rfl, .inl h3, fun p hp => ?_⟩
    exact k p _ G r _ na hp (dq_ints (n :: ns))
end
end Ev

end
section
set_option maxHeartbeats 8000000
/-! # EvH: except suites -/
namespace Ev
open PySem PySem.Spec L2
variable [TabsC]
/-! ### its elements -/
section
variable {C : Cz} {T : Tb} {X : Cx}
theorem pe_off {e : Expr} : PE X e fun _ _ _ => False := ⟨fun _ _ _ _ _ _ h => h.elim⟩
theorem XcF.one {p q : Str × Option Str} {A B : Addr} (a : XcF X.prog X.K X.mg p A) (b : XcF X.prog X.K X.mg q B) (e : p.1 = q.1) : A = B := by
  have h := a.ad
  rw [e, b.ad] at h
  cases h
  rfl
/-- an expression of a suite, for whatever error it holds -/
def SuE (X : Cx) (a : Addr) (cls : Value) (d : Option Addr) (e : Expr) (t : TE) : Prop := ∀ (oe : Obj) (pn : List (Addr × Obj)), Zc cls d oe → (∃ vs, oe.data = .fields vs) → PE (X.suite a ((a, oe) :: pn)) e t
/-- what its reading does -/
def SuR (X : Cx) (n : Option Nat) (x : Ex) (a : Addr) (cls : Value) (d : Option Addr) (t : TE) (z : Option D) : Prop := ∀ (G : Hp) (r : Option DA) (σ : St) (H : Hp) (Q : VK) (y : D), ExV X.K X.mg G r H x cls d → Same G H → (∀ j, n = some j → σ[j]? = some (some (V.ref a))) → z = some y →
  (∀ v, Dq X.K G r v y → Q v H) → t σ H Q
theorem kD_ok {d : D} {c : Const} {j : Nat} {p : Pos} (h : kD d c = true) : ∃ v, (∀ Y : Cx, PE Y (.Constant c j p) (tC v)) ∧ ∀ K G r, Dq K G r v d := by
  unfold kD at h
  split at h
  · exact ⟨.non, fun _ => pe_non, fun _ _ _ => .non⟩
  · rename_i b c'
    have e : b = c' := by simpa using h
    subst e
    exact ⟨.bl b, fun _ => pe_bl, fun _ _ _ => .bl b⟩
  · have e := of_decide_eq_true h
    subst e
    exact ⟨.str _, fun _ => pe_str, fun _ _ _ => .str _⟩
  · cases h
theorem suVar {i : Nat} {n : Str} {pos : Pos} {a : Addr} {pn : List (Addr × Obj)} (h : XOk C T X) (m : nmV C i n = true) : PE (X.suite a pn) (.Name n pos) (tVar i) := by
  simp only [nmV, Bool.and_eq_true, decide_eq_true_eq] at m
  obtain ⟨m1, m2, m3⟩ := m
  have hv : Vis X.env.scope n := by
    rw [h.sc]
    unfold vis at m2
    unfold Vis
    split at m2
    · exact .inl (by assumption)
    · exact .inr (.inl (by assumption))
    · exact .inr (.inr (by assumption))
    · cases m2
  simp only [dn, Bool.and_eq_true, Bool.not_eq_true'] at m3
  exact pe_var (X := X.suite a pn) (by show X.N[i]? = _; rw [h.N]; exact m1) hv m3.1 m3.2
theorem isi_in {d : Str} {c : Str} {o : Option Str} {A B : Addr} (h : XOk C T X) (a : XcF X.prog X.K X.mg (c, o) A) (hd : ∃ p ∈ TabsC.xcs, p.1 = d) (b : X.mg d = some (.ref B)) : PySem.W.kitOne X.K (.ref A) (.ref B) = some (subc c d) := by
  obtain ⟨p, hp, rfl⟩ := hd
  exact (a.out p hp B b).2
theorem su_isi {d : Str} {n : Option Nat} {hc : Str} {e : Expr} {x : Ex} {a : Addr} {cls : Value} {dd : Option Addr} (h : XOk C T X) (m : mHe C n hc (.isi d) e = true) :
    ∃ t, SuE X a cls dd e t ∧ ∀ (G : Hp) (r : Option DA) (σ : St) (H : Hp) (Q : VK), ExV X.K X.mg G r H x cls dd → (∀ j, n = some j → σ[j]? = some (some (V.ref a))) → (∀ c fs, x = .mk c fs → Q (.bl (subc c d)) H) → t σ H Q := by
  simp only [mHe] at m
  split at m
  · rename_i l p1 y p2 d' p3 pos
    simp only [Bool.and_eq_true, decide_eq_true_eq, List.any_eq_true] at m
    obtain ⟨rfl, m2, rfl, m4, m5, p, hp, hp2⟩ := m
    cases n with
    | none => cases m5
    | some j =>
      obtain ⟨Cd, fd⟩ := h.xc p (h.xcs p hp)
      by_cases q : ∃ (c : Str × Option Str) (A : Addr), c ∈ TabsC.xcs ∧ XcF X.prog X.K X.mg c A ∧ cls = .ref A
      · obtain ⟨c, A, hA, fA, rfl⟩ := q
        have bl : bootBuiltins "isinstance" = some (.builtin "isinstance") := by decide +kernel
        have gd : X.mg d' = some (.ref Cd) := by rw [← hp2]; exact fd.ad
        have dbg : (d' == ("__debug__" : Str)) = false := by rw [← hp2]; exact fd.dbg
        refine ⟨_, fun oe pn hz hf => pe_callB (X := X.suite a ((a, oe) :: pn)) (EvX.call_isX fA.isf hz hf) (gl_ok (X := X) h m2) (h.bl _ (by decide +kernel)) bl (pa_cons (suVar h m5) (pa_cons (pe_glob (X := X.suite a ((a, oe) :: pn)) (v := .ref Cd) (gl_ok (X := X) h m4) gd rfl dbg) pa_nil)), ?_⟩
        intro G r σ H Q ev hs k
        obtain ⟨c', fs⟩ := x
        obtain ⟨⟨o, ho, _⟩, ⟨C2, e1, e2⟩, e3⟩ := ev
        cases e2
        obtain ⟨A2, f2⟩ := h.xc _ ho
        have eA := f2.ad
        rw [e1] at eA
        cases eA
        refine ⟨.ref a, hs j rfl, .ref Cd, .ref Cd, subc c' d', rfl, fun u hu => hu, fun z ez => ?_, isi_in h f2 ⟨p, h.xcs p hp, hp2⟩ gd, ?_⟩
        · cases fs with
          | nil => rw [e3] at ez; cases ez
          | cons f fs =>
            obtain ⟨z2, vs, e4, e5, _⟩ := e3
            rw [e4] at ez
            cases ez
            exact ⟨vs, e5⟩
        · exact k c' fs rfl
      · refine ⟨_, fun _ _ _ _ => pe_off, fun G r σ H Q ev _ _ => q ?_⟩
        obtain ⟨c', fs⟩ := x
        obtain ⟨⟨o, ho, _⟩, ⟨C2, e1, e2⟩, e3⟩ := ev
        obtain ⟨A, fA⟩ := h.xc _ ho
        have eA := fA.ad
        rw [e1] at eA
        cases eA
        exact ⟨_, _, ho, fA, e2⟩
  · cases m
theorem su_he {e0 : He} {n : Option Nat} {hc : Str} {e : Expr} {x : Ex} {a : Addr} {cls : Value} {dd : Option Addr} (h : XOk C T X) (m : mHe C n hc e0 e = true) :
    ∃ t, SuE X a cls dd e t ∧ ∀ (G : Hp) (r : Option DA) (σ : St) (H : Hp) (Q : VK) (y : D), ExV X.K X.mg G r H x cls dd → (∀ j, n = some j → σ[j]? = some (some (V.ref a))) → (∀ c fs, x = .mk c fs → heD c fs e0 = some y) → (∀ v, Dq X.K G r v y → Q v H) → t σ H Q := by
  cases e0 with
  | k z =>
    simp only [mHe] at m
    split at m
    · have e := of_decide_eq_true m
      subst e
      refine ⟨tC (.str z), fun _ _ _ _ => pe_str, fun G r σ H Q y ev _ hy k => k _ ?_⟩
      obtain ⟨c, fs⟩ := x
      cases hy c fs rfl
      exact .str _
    · cases m
  | isi d =>
    obtain ⟨t, p, q⟩ := su_isi (x := x) (a := a) (cls := cls) (dd := dd) h m
    refine ⟨t, p, fun G r σ H Q y ev hs hy k => q G r σ H Q ev hs fun c fs e => k _ ?_⟩
    have z : (if subc c d = true then some (PyData.bool true) else none) = some y := hy c fs e
    split at z
    · rename_i hs2
      cases z
      rw [hs2]
      exact .bl true
    · cases z
  | fld f =>
    simp only [mHe] at m
    split at m
    · rename_i y p1 g p2
      simp only [Bool.and_eq_true, decide_eq_true_eq] at m
      obtain ⟨rfl, m2, m3⟩ := m
      cases n with
      | none => cases m2
      | some j =>
        by_cases q : ∃ (c : Str × Option Str) (A : Addr), c ∈ TabsC.xcs ∧ XcF X.prog X.K X.mg c A ∧ cls = .ref A ∧ c.2 = some f
        · obtain ⟨c, A, hA, fA, rfl, hf2⟩ := q
          refine ⟨_, fun oe pn hz hf => pe_xf (X := X) fA.xf (fA.no f hf2) hz hf (suVar h m2), ?_⟩
          intro G r σ H Q z ev hs hy k
          obtain ⟨c', fs⟩ := x
          obtain ⟨⟨o, ho, e0, l1⟩, ⟨C2, e1, e2⟩, e3⟩ := ev
          cases e2
          have hz : fs.lookup f = some z := hy c' fs rfl
          match fs, l1, hz, e3 with
          | [(g, u)], _, hz, e3 =>
            obtain ⟨z2, vs, e4, e5, e6, e7⟩ := e3
            have eg : f = g ∧ u = z := by
              simp only [List.lookup] at hz
              split at hz
              · rename_i w
                exact ⟨by simpa using w, by simpa using hz⟩
              · cases hz
            obtain ⟨rfl, rfl⟩ := eg
            match vs, e6, e7 with
            | [(g', v)], e6, e7 =>
              have e8 : g' = f := by simpa using e6
              subst e8
              cases e7 with
              | cons hv _ => exact ⟨.ref a, hs j rfl, rfl, rfl, z2, [(g', v)], v, e4, e5, by simp [List.lookup], k v hv⟩
        · refine ⟨_, fun _ _ _ _ => pe_off, fun G r σ H Q z ev _ hy _ => q ?_⟩
          obtain ⟨c', fs⟩ := x
          obtain ⟨⟨o, ho, e0, l1⟩, ⟨C2, e1, e2⟩, e3⟩ := ev
          obtain ⟨A, fA⟩ := h.xc _ ho
          have eA := fA.ad
          rw [e1] at eA
          cases eA
          refine ⟨_, _, ho, fA, e2, ?_⟩
          have hz : fs.lookup f = some z := hy c' fs rfl
          match fs, l1, hz, e0 with
          | [(g, u)], _, hz, e0 =>
            simp only [List.lookup] at hz
            split at hz
            · rename_i w
              have w' : f = g := by simpa using w
              rw [e0, w']
              rfl
            · cases hz
    · cases m
/-- a row of them -/
theorem su_hes {n : Option Nat} {hc : Str} {x : Ex} {a : Addr} {cls : Value} {dd : Option Addr} (h : XOk C T X) : ∀ {hs : List He} {es : List Expr}, mHes C n hc hs es = true →
    ∃ t : TA, (∀ (oe : Obj) (pn : List (Addr × Obj)), Zc cls dd oe → (∃ vs, oe.data = .fields vs) → PA (X.suite a ((a, oe) :: pn)) es t) ∧ ∀ (G : Hp) (r : Option DA) (σ : St) (H : Hp) (Q : List V → Hp → Prop) (ys : List D), ExV X.K X.mg G r H x cls dd → (∀ j, n = some j → σ[j]? = some (some (V.ref a))) → (∀ c fs, x = .mk c fs → heDs c fs hs = some ys) → (∀ vs, DqAll X.K G r vs ys → Q vs H) → t σ H Q
  | [], [], _ => by
    refine ⟨tNil, fun _ _ _ _ => pa_nil, fun G r σ H Q ys _ _ hy k => k [] ?_⟩
    obtain ⟨c, fs⟩ := x
    cases hy c fs rfl
    exact .nil
  | e0 :: hs, e :: es, m => by
    simp only [mHes, Bool.and_eq_true] at m
    obtain ⟨t, p, q⟩ := su_he (x := x) (a := a) (cls := cls) (dd := dd) h m.1
    obtain ⟨u, p2, q2⟩ := su_hes (x := x) (a := a) (cls := cls) (dd := dd) h m.2
    have ns : nst e = true := by
      have m1 := m.1
      cases e0 <;> (simp only [mHe] at m1; split at m1 <;> first | rfl | cases m1)
    refine ⟨tCons t u, fun oe pn hz hf => pa_cons (p oe pn hz hf) (p2 oe pn hz hf) (star_ns ns es _), fun G r σ H Q ys ev hs' hy k => ?_⟩
    obtain ⟨c, fs⟩ := x
    have hy' := hy c fs rfl
    simp only [heDs, Option.bind_eq_some_iff, Option.map_eq_some_iff] at hy'
    obtain ⟨y, e1, ys', e2, rfl⟩ := hy'
    refine q G r σ H _ y ev hs' (fun c' fs' e => by cases e; exact e1) fun v hv => ?_
    exact q2 G r σ H _ ys' ev hs' (fun c' fs' e => by cases e; exact e2) fun vs hvs => k (v :: vs) (.cons hv hvs)
  | [], _ :: _, m => by simp [mHes] at m
  | _ :: _, [], m => by simp [mHes] at m
/-- what a suite makes -/
theorem su_hv {v : Hv} {n : Option Nat} {hc : Str} {e : Expr} {x : Ex} {a : Addr} {cls : Value} {dd : Option Addr} (h : XOk C T X) (m : mHv C n hc v e = true) :
    ∃ t, SuE X a cls dd e t ∧ ∀ (ds : Option DS) (G : Hp) (r : Option DA) (σ : St) (H : Hp) (Q : VK) (y : D), ExV X.K X.mg G r H x cls dd → Same G H → DrOk ds G r H → (∀ j, n = some j → σ[j]? = some (some (V.ref a))) → hvD x v = some y →
      (∀ u G' r' H', Nx G r H ds G' r' H' → Dq X.K G' r' u y → Q u H') → t σ H Q := by
  cases v with
  | tup hs =>
    simp only [mHv] at m
    split at m
    · simp only [Bool.and_eq_true, decide_eq_true_eq] at m
      obtain ⟨t, p, q⟩ := su_hes (x := x) (a := a) (cls := cls) (dd := dd) h m.1
      refine ⟨_, fun oe pn hz hf => pe_tup (p oe pn hz hf), fun ds G r σ H Q y ev sm dr hs' hy k => ?_⟩
      obtain ⟨c, fs⟩ := x
      obtain ⟨ys, e1, rfl⟩ := Option.map_eq_some_iff.mp (show (heDs c fs hs).map PyData.tuple = some y from hy)
      refine q G r σ H _ ys ev hs' (fun c' fs' e => by cases e; exact e1) fun vs hvs => ⟨?_, fun p hp => ?_⟩
      · have ln : ∀ {l : List He} {zs : List D}, heDs c fs l = some zs → zs.length = l.length := by
          intro l
          induction l with
          | nil => intro zs z; cases z; rfl
          | cons b l ih =>
            intro zs z
            simp only [heDs, Option.bind_eq_some_iff, Option.map_eq_some_iff] at z
            obtain ⟨_, _, _, z2, rfl⟩ := z
            simp [ih z2]
        rw [hvs.length, ln e1, sizeLine_eq]
        omega
      · obtain ⟨n1, d1⟩ := Nx.tup sm dr hp hvs
        exact k _ _ _ _ n1 d1
    · cases m
  | k d =>
    simp only [mHv] at m
    split at m
    · obtain ⟨u, p, q⟩ := kD_ok m
      refine ⟨tC u, fun _ _ _ _ => p _, fun ds G r σ H Q y ev sm dr _ hy k => ?_⟩
      have e : d = y := by
        obtain ⟨c, fs⟩ := x
        exact Option.some.inj hy
      subst e
      exact k _ _ _ _ (Nx.refl sm dr) (q _ _ _)
    · cases m
  | ife d b b' =>
    simp only [mHv] at m
    split at m
    · rename_i tst ca j p1 p2 p3
      simp only [Bool.and_eq_true] at m
      obtain ⟨t, p, q⟩ := su_isi (x := x) (a := a) (cls := cls) (dd := dd) h m.1
      obtain ⟨u, pu, qu⟩ := kD_ok (j := j) (p := p1) m.2
      have hl : leafT tst = true := by
        have m1 := m.1
        simp only [mHe] at m1
        split at m1 <;> first | rfl | cases m1
      refine ⟨_, fun oe pn hz hf => pe_ifExp (pt_val (p oe pn hz hf) fun w => leafT_ok hl w) (pu _) (pe_off (e := p2)), fun ds G r σ H Q y ev sm dr hs' hy k => ?_⟩
      refine q G r σ H _ ev hs' fun c fs e => ?_
      subst e
      have z : (if subc c d = true then some b else none) = some y := hy
      split at z
      · rename_i hs2
        cases z
        refine ⟨true, by rw [hs2], ?_⟩
        exact k _ _ _ _ (Nx.refl sm dr) (qu _ _ _)
      · cases z
    · cases m
/-! ### the clauses -/
def offS (n : Option Nat) (σ : St) : St := match n with
  | some j => σ.set j none
  | none => σ
/-- what the clauses owe -/
def HdW (X : Cx) (hs : List Hd) (Wo : WX) (D : Ends) (x : Ex) (cls : Value) (dd : Option Addr) (ds : Option DS) (G : Hp) (r : Option DA) (σ : St) (H : Hp) : Prop := match handV hs x with
  | some (n, .set i v) => σ.length = X.N.length → ∃ y, hvD x v = some y ∧ ∀ u G' r' H', Nx G r H ds G' r' H' → Dq X.K G' r' u y → D.nx (offS n (σ.set i (some u))) H'
  | some (_, .ret d) => ∀ u, Dq X.K G r u d → D.rt u H
  | none => Wo cls dd σ H
theorem loc_ok {x : Str} (h : XOk C T X) (l : loc C x = true) : Loc X.env.scope x ∧ (X.fn x = true ∨ X.env.scope.names.lookup x = some .local) := by
  unfold loc at l
  unfold L2.Loc
  rw [h.sc]
  split at l
  · exact ⟨.inl (by assumption), .inr (by assumption)⟩
  · exact ⟨.inr (by assumption), .inl (h.fnn _ l)⟩
  · cases l
def SuW (X : Cx) (su : Su) (D : Ends) (x : Ex) (ds : Option DS) (G : Hp) (r : Option DA) (σ : St) (H : Hp) : Prop := match su with
  | .set i v => ∃ y, hvD x v = some y ∧ ∀ u G' r' H', Nx G r H ds G' r' H' → Dq X.K G' r' u y → D.nx (σ.set i (some u)) H'
  | .ret d => ∀ u, Dq X.K G r u d → D.rt u H
/-- one suite's reading -/
theorem su_ok {su : Su} {n : Option Nat} {hc : Str} {ss : List Stmt} (h : XOk C T X) (m : mSu C n hc su ss = true) (a : Addr) (cls : Value) (dd : Option Addr) :
    ∃ t : TS, (∀ (oe : Obj) (pn : List (Addr × Obj)), Zc cls dd oe → (∃ vs, oe.data = .fields vs) → PSs (X.suite a ((a, oe) :: pn)) ss t) ∧ ∀ (x : Ex) (D : Ends) (ds : Option DS) (G : Hp) (r : Option DA) (σ : St) (H : Hp), ExV X.K X.mg G r H x cls dd → Same G H → DrOk ds G r H → (∀ j, n = some j → σ[j]? = some (some (V.ref a))) →
      SuW X su D x ds G r σ H → t D σ H := by
  cases su with
  | set i v =>
    simp only [mSu] at m
    split at m
    · rename_i y p1 e p2
      simp only [Bool.and_eq_true, decide_eq_true_eq] at m
      obtain ⟨m1, m2, m3, _, _⟩ := m
      obtain ⟨l1, l2⟩ := loc_ok h m2
      have hx : ∀ x : Ex, ∃ t, SuE X a cls dd e t ∧ _ := fun x => su_hv (v := v) (n := n) (x := x) (a := a) (cls := cls) (dd := dd) h m3
      refine ⟨tAsg (fun σ H Q => ∃ x, (hx x).choose σ H Q) (gName i), fun oe pn hz hf => pss_one (ps_set (X := X.suite a ((a, oe) :: pn)) (by show X.N.Nodup; rw [h.N]; exact h.nd) (by show X.N[i]? = _; rw [h.N]; exact m1) l1 ⟨fun pins s σ H Q I w => ?_⟩ ?_ l2), ?_⟩
      · obtain ⟨x, w⟩ := w
        exact ((hx x).choose_spec.1 oe pn hz hf).run pins s σ H Q I w
      · unfold mHv at m3
        cases v <;> (simp only at m3; split at m3 <;> first | rfl | cases m3)
      · intro x D ds G r σ H ev sm dr hs hw
        obtain ⟨y, hy, k⟩ := hw
        exact ⟨x, (hx x).choose_spec.2 ds G r σ H _ y ev sm dr hs hy fun u G' r' H' n1 d1 => k u G' r' H' n1 d1⟩
    · cases m
  | ret d =>
    simp only [mSu] at m
    split at m
    · obtain ⟨u, p, q⟩ := kD_ok m
      exact ⟨_, fun oe pn _ _ => pss_one (ps_ret (p _)), fun x D ds G r σ H _ _ _ _ k => k _ (q _ _ _)⟩
    · cases m
theorem hds_ok (h : XOk C T X) : ∀ {hs : List Hd} {es : List ExceptHandler}, mHds C hs es = true →
    ∃ l, EvX.HdsA X es l ∧ ∀ (Wo : WX) (D : Ends) (x : Ex) (cls : Value) (dd : Option Addr) (ds : Option DS) (G : Hp) (r : Option DA) (σ : St) (H : Hp), ExV X.K X.mg G r H x cls dd → Same G H → DrOk ds G r H → HdW X hs Wo D x cls dd ds G r σ H → EvX.wHs X.K X.N.length Wo D l cls dd σ H
  | [], [], _ => ⟨[], .nil, fun Wo D x cls dd ds G r σ H _ _ _ w => by
    obtain ⟨c, fs⟩ := x
    exact w⟩
  | hd :: hs, e :: es, m => by
    simp only [mHds, Bool.and_eq_true] at m
    obtain ⟨l, p, q⟩ := hds_ok h m.2
    have m1 := m.1
    unfold mHd at m1
    split at m1
    · rename_i x p1 y ss p2
      simp only [Bool.and_eq_true, decide_eq_true_eq, List.any_eq_true] at m1
      obtain ⟨ex, hg, ⟨pc, hpc, epc⟩, hn, hsu⟩ := m1
      obtain ⟨Ch, fh⟩ := h.xc pc (h.xcs pc hpc)
      have nm : Names X x (.ref Ch) := ⟨gl_ok h hg, by rw [← epc]; exact fh.dbg, .inl (by rw [← epc]; exact fh.ad)⟩
      have su := fun a cls dd => su_ok (n := hd.n) (hc := hd.c) (su := hd.su) (ss := ss) h hsu a cls dd
      let ts : EvX.SuT := fun a cls dd => (su a cls dd).choose
      have ps : ∀ (a : Addr) (oe : Obj) (cls : Value) (d : Option Addr) (pn : List (Addr × Obj)), Zc cls d oe → (∃ vs, oe.data = .fields vs) → PSs (X.suite a ((a, oe) :: pn)) ss (ts a cls d) := fun a oe cls d pn hz hf => (su a cls d).choose_spec.1 oe pn hz hf
      have ne : ∃ b₀ s2, ss = b₀ :: s2 := by
        cases ss with
        | nil =>
          cases hv : hd.su <;> (rw [hv] at hsu; simp [mSu] at hsu)
        | cons b r => exact ⟨b, r, rfl⟩
      obtain ⟨b₀, s2, rfl⟩ := ne
      have off : ∀ {j i : Nat} {u : V} {a : Addr} {σ : St}, j ≠ i → ((σ.set j (some (.ref a))).set i (some u)).set j none = (σ.set i (some u)).set j none := fun {j i u a σ} ne => by
        rw [List.set_comm _ _ (Ne.symm ne), List.set_comm _ _ (Ne.symm ne), List.set_set, List.set_comm _ _ ne]
      have go : ∀ (Wo : WX) (D : Ends) (z : Ex) (cls : Value) (dd : Option Addr) (ds : Option DS) (G : Hp) (r : Option DA) (σ : St) (H : Hp), ExV X.K X.mg G r H z cls dd → Same G H → DrOk ds G r H → HdW X (hd :: hs) Wo D z cls dd ds G r σ H →
          ∃ b, PySem.W.exmOne X.K cls (.ref Ch) = some b ∧ (b = true → σ.length = X.N.length → ∀ a, ∀ σ1 D1, (∀ j, hd.n = some j → σ1[j]? = some (some (V.ref a))) → (∀ i u G', hd.n ≠ some i → D.nx (offS hd.n (σ.set i (some u))) G' → D1.nx (σ1.set i (some u)) G') → (D1.rt = D.rt) → ts a cls dd D1 σ1 H) ∧ (b = false → EvX.wHs X.K X.N.length Wo D l cls dd σ H) := by
        intro Wo D z cls dd ds G r σ H ev sm dr w
        obtain ⟨c, fs⟩ := z
        have ev' := ev
        obtain ⟨⟨o, ho, _⟩, ⟨C2, e1, e2⟩, e3⟩ := ev'
        obtain ⟨A, fA⟩ := h.xc _ ho
        have eA := fA.ad
        rw [e1] at eA
        cases eA
        subst e2
        have sub := (fA.out pc (h.xcs pc hpc) Ch fh.ad).1
        have ec : pc.1 = hd.c := epc.trans ex
        rw [ec] at sub
        refine ⟨_, sub, fun hb hln a σ1 D1 hs1 hnx hrt => ?_, fun hb => ?_⟩
        · refine (su a _ dd).choose_spec.2 (.mk c fs) D1 ds G r σ1 H ev sm dr hs1 ?_
          unfold HdW at w
          unfold handV at w
          rw [if_pos hb] at w
          unfold SuW
          cases hv : hd.su with
          | set i v =>
            rw [hv] at w hsu
            obtain ⟨y, hy, k⟩ := w hln
            have ni : hd.n ≠ some i := by
              simp only [mSu] at hsu
              split at hsu
              · simp only [Bool.and_eq_true, decide_eq_true_eq] at hsu
                exact hsu.2.2.2.1
              · cases hsu
            exact ⟨y, hy, fun u G' r' H' n1 d1 => hnx i u H' ni (k u G' r' H' n1 d1)⟩
          | ret d =>
            rw [hv] at w
            rw [hrt]
            exact w
        · refine q Wo D (.mk c fs) _ dd ds G r σ H ev sm dr ?_
          unfold HdW at w ⊢
          unfold handV at w
          rw [if_neg (by rw [hb]; exact Bool.false_ne_true)] at w
          exact w
      cases hy : hd.n with
      | none =>
        rw [hy] at hn
        cases y with
        | some _ => cases hn
        | none =>
          refine ⟨(.ref Ch, none, ts) :: l, .plain nm ps p, fun Wo D z cls dd ds G r σ H ev sm dr w => ?_⟩
          obtain ⟨b, g1, g2, g3⟩ := go Wo D z cls dd ds G r σ H ev sm dr w
          refine ⟨b, g1, fun hb hl a _ => g2 hb hl a σ D (fun j e => by rw [hy] at e; cases e) (fun i u G' _ k => by rw [hy] at k; exact k) rfl, g3⟩
      | some j =>
        rw [hy] at hn
        cases y with
        | none => cases hn
        | some y =>
          simp only [Bool.and_eq_true, decide_eq_true_eq] at hn
          obtain ⟨n1, n2, n3⟩ := hn
          refine ⟨(.ref Ch, some j, ts) :: l, .named nm (by rw [h.N]; exact n1) (by show X.env.scope.names.lookup y = _; rw [h.sc]; exact n2) ps p, fun Wo D z cls dd ds G r σ H ev sm dr w => ?_⟩
          obtain ⟨b, g1, g2, g3⟩ := go Wo D z cls dd ds G r σ H ev sm dr w
          refine ⟨b, g1, fun hb hl a _ => g2 hb hl a _ _ (fun j' e => ?_) (fun i u G' ni k => ?_) rfl, g3⟩
          · rw [hy] at e
            cases e
            refine List.getElem?_set_self ?_
            rw [hl, h.N]
            exact (List.getElem?_eq_some_iff.mp n1).1
          · rw [hy] at k ni
            show D.nx (((σ.set j (some (.ref a))).set i (some u)).set j none) G'
            rw [off fun e => ni (by rw [e])]
            exact k
    · cases m1
  | [], _ :: _, m => by simp [mHds] at m
  | _ :: _, [], m => by simp [mHds] at m
end
end Ev

end
section
set_option maxHeartbeats 8000000
/-! # EvH2: a def that hears a function without parameters -/
namespace Ev
open PySem PySem.Spec L2
variable [TabsC]
section
variable {C : Cz} {T : Tb} {X : Cx}
/-- within such a function -/
theorem XOk.lm0 (h : XOk C T X) (l : C.lam = true) (scope : Scope) (e : PySem.Env) (s1 : Shared) (H : Hp) (E : XK) (f c' : Addr) : XOk (C.lm scope) T (LamX.lamCx X (X.A.deeper e) (e :: X.stack) s1 H E scope f c') where
  N := h.N
  nd := h.nd
  sc := rfl
  calm := rfl
  po := passes_of rfl
  fa := h.fa
  xcs := fun p hp => by cases hp
  xc := h.xc
  room2 := fun z => absurd rfl z
  hns := h.hns
  hs := h.hs
  fnn := fun x e => by cases e
  grd := h.grd
  room := (((h.lam l).1.deeper _).deeper _).mono (by decide)
  fns := h.fns
  cns := h.cns
  bl := h.bl
  gcd := h.gcd
  cs := h.cs
  fs := fun j f e => by
    obtain ⟨k, a, fd, hr, r⟩ := (h.lam l).2.2 j f e
    exact ⟨k, a, fd, ((hr.deeper _).deeper _).mono (by omega), r⟩
  lam := fun e => by cases e
/-- within the hearing def -/
theorem XOk.hr (h : XOk C T X) (l : C.lam = true) {hd : HDef} {xcs : List (Str × Option Str)} {sc : Scope} {x : Str} {g : Addr} {cdv : Value} {s : Shared} {H : Hp} (S : FnScope hd.N (hd.N.take 1) sc) (hx : ∀ p ∈ xcs, p ∈ TabsC.xcs) :
    XOk (hcz hd sc xcs) ⟨[], [], []⟩ (cxOf CX0 X.prog X.w X.K X.mg X.base hd.N x sc g cdv X.A X.stack s H E0).nox where
  N := rfl
  nd := S.nd
  sc := rfl
  calm := rfl
  po := PassesOwn.never
  fa := h.fa
  xcs := hx
  xc := h.xc
  room2 := fun _ => ⟨((h.lam l).1.deeper _).mono (by decide), rfl, rfl⟩
  hns := rfl
  hs := fun _ z => by cases z
  fnn := fun x e => rfl
  grd := h.grd
  room := ((h.lam l).1.deeper _).mono (by decide)
  fns := rfl
  cns := rfl
  bl := h.bl
  gcd := fun z => by cases z
  cs := fun i x d e => by cases e
  fs := fun j f e => by cases e
  lam := fun e => by cases e
/-- the lambda's reading, for whoever calls it -/
abbrev LamR := XK → TE
/-- the call within the try -/
theorem act {scope : Scope} {f c' : Addr} {pm ctv cdg : Value} {body : Expr} {tb : LamR} {Ng : List Str} {qg : Str} {sg : Scope} {g : Addr} {pins : List (Addr × Obj)} {σ : L2.St} {s : Shared} {H : Hp} {k : Nat} {a : Str} {pn : List (Addr × Obj)} {xe : Value → Shared → Prop} {W : WX} {E : XK} {p1 p2 : Pos}
    (I : L2.Inv X pins σ H s) (L : LamX.LamS X.env.scope scope) (hf : s.heap.get? f = some (PySem.W.kla_obj "<lambda>" (X.env.qual ++ "<lambda>") ⟨[], [], none, [], [], none, []⟩ body scope (cloFrom X.env.cells scope.names []) pm c' ctv)) (hfn : H f = none) (hfr : f ∉ frs X.stack)
    (tk : Takes ((cxOf CX0 X.prog X.w X.K X.mg X.base Ng qg sg g cdg X.A X.stack s H E0).nox.tr pn xe) W) (hW : ∀ cls d σ' H', E cls d H' → W cls d σ' H') (hr : Room (k + 1) (X.A.deeper (PyProof.Rows.envOfC qg sg s.heap.objs.size g cdg)))
    (hbody : ∀ (s1 : Shared) (H1 : Hp), PE (LamX.lamCx X (X.A.deeper (PyProof.Rows.envOfC qg sg s.heap.objs.size g cdg)) (PyProof.Rows.envOfC qg sg s.heap.objs.size g cdg :: X.stack) s1 H1 E scope f c') body (tb E)) (hN : Ng[0]? = some a) (hv : Vis sg a) (hd : (a == ("__debug__" : Str)) = false) (hcd : (a == ("__classdict__" : Str)) = false) :
    PE ((cxOf CX0 X.prog X.w X.K X.mg X.base Ng qg sg g cdg X.A X.stack s H E0).nox.tr pn xe) (.Call (.Name a p1) [] [] p2) fun z G Q => z[0]? = some (some (.ref f)) ∧ G c' = some (LamX.CodeO c' (X.env.qual ++ "<lambda>")) ∧ tb E σ G Q := by
  refine ⟨fun ps s0 z G Q I0 h => ?_⟩
  obtain ⟨h1, h2, h3⟩ := h
  refine wpAny_Call_Name_kw (thn ((pe_var (pos := p1) (i := 0) (X := (cxOf CX0 X.prog X.w X.K X.mg X.base Ng qg sg g cdg X.A X.stack s H E0).nox.tr pn xe) hN hv hd hcd).run ps s0 z G (fun v G1 => v = .ref f ∧ G1 = G) I0 ⟨.ref f, h1, rfl, rfl⟩) fun u s1 ⟨v, G1, I1, r1, q1⟩ => ?_)
  obtain ⟨e1, e2⟩ := q1
  subst e1
  rw [e2] at I1
  obtain rfl : u = Value.ref f := r1
  have of1 := I1.base.keep f _ hf hfn hfr (fun y => nomatch (show f ∈ ([] : List Addr) from y))
  refine PySem.W.callWith_F0 ⟨_, _, _, _, of1⟩ ?_
  have un : Un (frs X.stack) [] H G s.heap s1.heap := I1.base
  obtain ⟨⟨oc, vs, t, hoc, hdc, hvc⟩, _, _⟩ := I1.hok c' _ h2
  have rc : codeAny (model X.prog X.w) (X.A.deeper (PyProof.Rows.envOfC qg sg s.heap.objs.size g cdg)) (.call (.ref f) ⟨[], []⟩) (CR (L2.CX X.prog X.w) (PyProof.Rows.envOfC qg sg s.heap.objs.size g cdg :: X.stack) X.prog X.w G s1 Q E) s1 := by
    refine PySem.W.kla_callFunE hr.depth of1 rfl L.co L.gen rfl ⟨c', oc, vs, t, rfl, hoc, hdc, hvc⟩ ?_
    refine wpAny_mono (Q := fun b s' => b = [] ∧ s' = s1) (E := fun _ _ => False) (wpAny_pure ⟨rfl, rfl⟩) (fun b s' hb => ?_) fun _ _ y => y.elim
    rw [hb.1, hb.2]
    refine wpAny_newFunctionEnv (fun y hy => (L.own y hy).2) (fun y hy => absurd hy (by simp)) (fun h₁ hns hsb => ⟨I1.nolimit.fresh _ hsb, ?_⟩) L.kind
    show codeAny _ _ (.expr body (LamX.lamEnv X scope s1.heap.objs.size f c')) _ _
    have kp : ∀ b o, s1.heap.get? b = some o → h₁.get? b = some o := fun b o e => hsb.extBut b o (Nat.ne_of_lt (Heap.lt_size e)) (Heap.get?_push_of_some _ e)
    have J := LamX.lam_start2 (A := X.A.deeper (PyProof.Rows.envOfC qg sg s.heap.objs.size g cdg)) (outer := PyProof.Rows.envOfC qg sg s.heap.objs.size g cdg :: X.stack) (E := E) (f := f) (c' := c') (tk := s1.toks + ([] : List (Str × Value)).length) I L I1.env0 hr.hd un hns kp
    refine PySem.W.kla_codeExpr (wpAny_mono ((hbody s1 G).run [] _ _ G Q J h3) (fun v s' hq => ?_) fun e s' hq => hq)
    obtain ⟨w', H', J', rv, q⟩ := hq
    exact ⟨w', H', J'.os, J'.bare, J'.base, J'.hok, rv, q⟩
  refine wpAny_call (codeAny_mono rc fun r s' hq => ?_)
  cases r with
  | error e => exact (passes_call tk hW) ps z G s1 e s' I1 hq
  | ok fl =>
    cases fl with
    | ret u => exact I1.after hq
    | next => exact False.elim hq
    | brk => exact False.elim hq
    | cont => exact False.elim hq
/-- what a call owes to the wish E -/
def EC (X : Cx) (E : XK) (G : Hp) (r : Option DA) (H : Hp) : Ex → Option DS → Prop := fun x ds' => ∀ cls d G' r' H', Nx G r H ds' G' r' H' → ExV X.K X.mg G' r' H' x cls d → E cls d H'
def tWr (w : Wr) (t : TE) : TE := match w with
  | .tup x => tTup (tCons (tC (.str x)) (tCons t tNil))
  | .lst => tLst (tCons t tNil)
theorem wr_ok {Z Z' : Cx} {C0 : Cz} {T0 : Tb} {w : Wr} {e : Expr} {t : TE} (h : XOk C0 T0 Z) (m : mWr C0 w e = true) (p : ∀ (a : Str) (p1 p2 : Pos), nmV C0 0 a = true → PE Z' (.Call (.Name a p1) [] [] p2) t) : PE Z' e (tWr w t) := by
  cases w with
  | tup x =>
    simp only [mWr] at m
    split at m
    · simp only [Bool.and_eq_true, decide_eq_true_eq] at m
      obtain ⟨rfl, m2⟩ := m
      exact pe_tup (pa_cons pe_str (pa_cons (p _ _ _ m2) pa_nil))
    · cases m
  | lst =>
    simp only [mWr] at m
    split at m
    · exact pe_lst (pa_cons (p _ _ _ m) pa_nil)
    · cases m
theorem wr_nl {C0 : Cz} {w : Wr} {e : Expr} (m : mWr C0 w e = true) (tg : Option Expr) (l : Nat) (env : PySem.Env) : swapsWith e tg l env = pure false := by
  cases w with
  | tup x =>
    simp only [mWr] at m
    split at m
    · rfl
    · exact absurd m Bool.false_ne_true
  | lst =>
    simp only [mWr] at m
    split at m
    · rfl
    · exact absurd m Bool.false_ne_true
theorem mHds_n {C0 : Cz} : ∀ {hs : List Hd} {es : List ExceptHandler}, mHds C0 hs es = true → ∀ h ∈ hs, ∀ i v, h.su = .set i v → h.n ≠ some i
  | [], _, _, h, hm, _, _, _ => by simp at hm
  | b :: hs, [], m, _, _, _, _, _ => by simp [mHds] at m
  | b :: hs, e :: es, m, h, hm, i, v, e0 => by
    simp only [mHds, Bool.and_eq_true] at m
    rcases List.mem_cons.mp hm with rfl | hm
    · have m1 := m.1
      unfold mHd at m1
      split at m1
      · simp only [Bool.and_eq_true] at m1
        have m2 := m1.2.2.2.2
        rw [e0] at m2
        simp only [mSu] at m2
        split at m2
        · simp only [Bool.and_eq_true, decide_eq_true_eq] at m2
          exact m2.2.2.2.1
        · exact absurd m2 Bool.false_ne_true
      · exact absurd m1 Bool.false_ne_true
    · exact mHds_n m.2 h hm i v e0
theorem wr_do {w : Wr} {t : TE} {K : PySem.W.Frag} {G H : Hp} {r : Option DA} {σ : L2.St} {Q : VK} {d : D} {ds' : Option DS} (ht : (∀ Q' : VK, (∀ v G' r' H', Nx G r H ds' G' r' H' → Dq K G' r' v d → Q' v H') → t σ H Q')) (k : ∀ v G' r' H', Nx G r H ds' G' r' H' → Dq K G' r' v (wrD w d) → Q v H') : tWr w t σ H Q := by
  cases w with
  | tup x =>
    refine ht _ fun v G' r' H' n hv => ⟨by rw [sizeLine_eq]; simp, fun p hp => ?_⟩
    obtain ⟨n2, d2⟩ := Nx.tup (K := K) (es := [.str x, d]) n.s n.d hp (.cons (.str x) (.cons hv .nil))
    exact k _ _ _ _ (n.trans n2) d2
  | lst =>
    refine ht _ fun v G' r' H' n hv => ⟨by rw [sizeLine_eq]; simp, fun p hp => ?_⟩
    obtain ⟨n2, d2⟩ := Nx.lst (K := K) (es := [d]) n.s n.d hp (.cons hv .nil)
    exact k _ _ _ _ (n.trans n2) d2
/-- the try and the return -/
theorem hr_body {Z : Cx} {hd : HDef} {sc : Scope} {xcs : List (Str × Option Str)} {ss : List Stmt} {tc : XK → TE} (h : XOk (hcz hd sc xcs) ⟨[], [], []⟩ Z) (hk : Z.stack = Z.env :: Z.outer) (hf : Z.env.frame = some Z.env.locals) (m : mHr (hcz hd sc xcs) hd ss = true) (l1 : 1 < hd.N.length)
    (act : ∀ (W : WX) (pn : List (Addr × Obj)) (xe : Value → Shared → Prop) (E : XK), Takes (Z.tr pn xe) W → (∀ cls d σ' H', E cls d H' → W cls d σ' H') → ∀ (a : Str) (p1 p2 : Pos), nmV (hcz hd sc xcs) 0 a = true → PE (Z.tr pn xe) (.Call (.Name a p1) [] [] p2) (tc E)) :
    ∃ t, PSs Z ss t ∧ ∀ (Q : VK) (ds : Option DS) (G : Hp) (r : Option DA) (σ : L2.St) (H : Hp) (c : M D), σ.length = Z.N.length → Same G H → DrOk ds G r H →
      (∀ (E : XK) (Q' : VK), wpX (EC Z E G r H) (c ds) (fun d ds' => ∀ v G' r' H', Nx G r H ds' G' r' H' → Dq Z.K G' r' v d → Q' v H') → tc E σ H Q') →
      wpX ExF (hearD hd c ds) (fun d ds' => ∀ v G' r' H', Nx G r H ds' G' r' H' → Dq Z.K G' r' v d → Q v H') → t { nx := fun _ H' => Q .non H', rt := Q } σ H := by
  unfold mHr at m
  split at m
  · rename_i r p1 e p2 e1 es p3 r2 p4 p5
    simp only [Bool.and_eq_true, decide_eq_true_eq, List.all_eq_true] at m
    obtain ⟨m1, m2, rfl, m4, m5, m6, m7⟩ := m
    obtain ⟨l, hl, hq⟩ := hds_ok h m6
    obtain ⟨lo1, lo2⟩ := loc_ok h m2
    have hN : Z.N.Nodup := by rw [h.N]; exact h.nd
    have h1 : Z.N[1]? = some r2 := by rw [h.N]; exact m1
    refine ⟨_, pss_cons (EvX.ps_try_hs (Wo := fun _ _ _ _ => False) (tb := fun W D σ H => ∃ E : XK, (∀ cls d σ' H', E cls d H' → W cls d σ' H') ∧ tAsg (tWr hd.wr (tc E)) (gName 1) D σ H) hk hf hN LamX.takes0 (fun W pn xe tk po => ⟨fun pins s σ H D I w => ?_⟩) hl) (pss_one (ps_ret (nmV_ok h m4))), ?_⟩
    · obtain ⟨E, hE, w⟩ := w
      exact (pss_one (ps_set (X := Z.tr pn xe) (pos := p2) hN h1 lo1 (wr_ok h m5 (act W pn xe E tk hE)) (wr_nl m5 _ _ _) lo2)).run pins s σ H D I w
    · intro Q ds G rr σ H c hlen sm dr hc w
      refine ⟨fun cls d H' => ∀ σ', EvX.wHs Z.K Z.N.length (fun _ _ _ _ => False) { nx := tRet (tVar 1) { nx := fun _ H' => Q .non H', rt := Q }, rt := Q } l cls d σ' H', fun cls d σ' H' e => e σ', ?_⟩
      have at1 : ∀ {τ : L2.St} {u : V}, τ.length = Z.N.length → (τ.set 1 (some u))[1]? = some (some u) := fun {τ u} e => List.getElem?_set_self (by rw [e, h.N]; exact l1)
      unfold hearD at w
      cases q : c ds with
      | ok d ds' =>
        rw [q] at w
        refine wr_do (K := Z.K) (fun Q' k => hc _ Q' ?_) fun v G' r' H' n hv => ⟨v, at1 hlen, w v G' r' H' n hv⟩
        rw [q]
        exact k
      | stuck => rw [q] at w; exact w.elim
      | exc x ds' =>
        rw [q] at w
        have fin : ∀ (Q' : VK), tc (fun cls d H' => ∀ σ', EvX.wHs Z.K Z.N.length (fun _ _ _ _ => False) { nx := tRet (tVar 1) { nx := fun _ H' => Q .non H', rt := Q }, rt := Q } l cls d σ' H') σ H Q' := fun Q' => hc _ Q' (by
          rw [q]
          intro cls d G' r' H' n ev σ'
          refine hq _ _ x cls d ds' G' r' σ' H' ev n.s n.d ?_
          unfold HdW
          dsimp only at w
          split at w
          · rename_i n' i v e2
            have hv : ∃ hd' ∈ hd.hs, hd'.n = n' ∧ hd'.su = .set i v := by
              obtain ⟨cn, fs⟩ := x
              have go : ∀ l : List Hd, handV l (.mk cn fs) = some (n', .set i v) → ∃ hd' ∈ l, hd'.n = n' ∧ hd'.su = .set i v := by
                intro l
                induction l with
                | nil => intro z; cases z
                | cons b l ih =>
                  intro z
                  unfold handV at z
                  split at z
                  · obtain ⟨z1, z2⟩ := Prod.mk.inj (Option.some.inj z)
                    exact ⟨b, List.mem_cons_self, z1, z2⟩
                  · obtain ⟨k, hk, r⟩ := ih z
                    exact ⟨k, List.mem_cons_of_mem _ hk, r⟩
              exact go _ e2
            obtain ⟨hd', hm, rfl, e3⟩ := hv
            have i1 : i = 1 := by
              have := m7 hd' hm
              rw [e3] at this
              exact of_decide_eq_true this
            subst i1
            rw [e2]
            intro hl'
            split at w
            · rename_i y ey
              refine ⟨y, ey, fun u G2 r2' H2 n2 hu => ?_⟩
              have n1 : hd'.n ≠ some 1 := mHds_n m6 hd' hm 1 v e3
              refine ⟨u, ?_, w u G2 r2' H2 (n.trans n2) hu⟩
              unfold offS
              cases en : hd'.n with
              | none => exact at1 hl'
              | some j =>
                show ((σ'.set 1 (some u)).set j none)[1]? = _
                rw [List.getElem?_set_ne (fun z => n1 (by rw [en, z]))]
                exact at1 hl'
            · exact w.elim
          · exact w.elim)
        cases hw : hd.wr with
        | tup x' => exact fin _
        | lst => exact fin _
  · cases m
theorem hearD_nx {h : HDef} {m : M D} {s s' : Option DS} {x : Ex} : hearD h m s ≠ .exc x s' := by
  unfold hearD
  cases m s with
  | ok a t => simp
  | stuck => simp
  | exc y t =>
    dsimp only
    split
    · split <;> simp
    · simp
theorem Sim.lam0 {O : List Nat} {env : Env} {ds : Option DS} {G H : Hp} {r : Option DA} {σ : L2.St} {K : PySem.W.Frag} (S : Sim K O env ds G r σ H) {fr : List Nat} (ho : ∀ j ∈ fr, j ∉ O) : Sim K [] (pick fr 0 env) ds G r σ H where
  sub := S.sub
  len := by rw [pick_len]; exact S.len
  var := fun j d _ e => by
    obtain ⟨a, b⟩ := pick_get fr 0 env j d e
    rw [Nat.zero_add] at a
    exact S.var j d (ho j a) b
  own := fun j d hj => by simp at hj
  sep := fun j k a hj => by simp at hj
  drw := S.drw
def tHear (X : Cx) (hd : HDef) (P : Addr) (tb : LamR) : TE := fun σ H Q => LamX.TabS H P (lamQ X) ∧ ∀ H1, Mk P (lamQ X) H H1 → LamX.TabS H1 P (lamQ X) → ∃ (c : M D) (ds : Option DS) (G : Hp) (r : Option DA), Same G H1 ∧ DrOk ds G r H1 ∧
  wpX ExF (hearD hd c ds) (fun d ds' => ∀ v G' r' H', Nx G r H1 ds' G' r' H' → Dq X.K G' r' v d → Q v H') ∧
  ∀ (E : XK) (Q' : VK), wpX (EC X E G r H1) (c ds) (fun d ds' => ∀ v G' r' H', Nx G r H1 ds' G' r' H' → Dq X.K G' r' v d → Q' v H') → tb E σ H1 Q'
theorem pe_hear {p lpos pos : Pos} {n : Str} {body : Expr} {scope : Scope} {hd : HDef} {tb : LamR} {P c : Addr} (h : XOk C T X) (l : C.lam = true) (hf : HdF X.K X.mg hd) (en : n = hd.name) (hg : gl C n = true) (hdb : (n == ("__debug__" : Str)) = false)
    (L : LamX.LamS X.env.scope scope) (TB : LamX.TabB X.base X.mg c P) (hc : X.env.code = .ref c)
    (pb : ∀ (e : PySem.Env) (s1 : Shared) (H1 : Hp) (E : XK) (f c' : Addr), PE (LamX.lamCx X (X.A.deeper e) (e :: X.stack) s1 H1 E scope f c') body (tb E)) :
    PE X (.Call (.Name n p) [.Lambda ⟨[], [], none, [], [], none, []⟩ body scope lpos] [] pos) (tHear X hd P tb) := by
  subst en
  obtain ⟨g, fd, st, xcs, mg, kp, F, bd, ck, hx⟩ := hf.ex
  obtain ⟨oc, od, kV, doc, pmv, an, cdv, ct, osl, rfl, lk, hcd⟩ := F.ex
  simp only [ckH, Bool.and_eq_true, decide_eq_true_eq] at ck
  obtain ⟨ck1, ck2, ck3⟩ := ck
  have S := scB_ok ck1
  refine ⟨fun pins s σ H Q I w => ?_⟩
  obtain ⟨tt, w⟩ := w
  refine wpAny_Call_Name_kw (ld_glob I (gl_ok h hg) mg ?_ hdb)
  refine PySem.W.callWith_K (h₀ := X.base) I.ok.mod.kin kp ?_ (by rfl) (by rfl)
  show wpAny _ _ (spliced ((false, eval (.Lambda ⟨[], [], none, [], [], none, []⟩ body scope lpos) X.env) :: backTo pos (starEach [] X.env))) _ _ s
  refine Calls.spliced_cons (lam_new I TB hc tt rfl (L.has I.ok) fun f c' pm ctv H1 s' I1 mk t1 hof nf nfr hco => ?_)
  refine Calls.spliced_nil ⟨I1.kIn, ?_⟩
  obtain ⟨cm, ds, G, r, sm, dr, w1, w2⟩ := w H1 mk t1
  have tk1 : (hd.N.take 1).length = 1 := by rw [List.length_take]; omega
  obtain ⟨a, rest, eN⟩ : ∃ a rest, hd.N = a :: rest := by
    cases q : hd.N with
    | nil => rw [q] at ck2; simp at ck2
    | cons a rest => exact ⟨a, rest, rfl⟩
  have rc : codeAny (model X.prog X.w) X.A (.call (.ref g) ⟨[.ref f], []⟩) (CR CX0 X.stack X.prog X.w H1 s' Q E0) s' := by
    refine LamX.run_ofS (k := 3) (N := hd.N) (ps := hd.N.take 1) (us := [.ref f]) (vs := [.ref f]) lk hcd S (h.lam l).1 I1.env0 (by
      have b := bd s' [.ref f] I1.kIn (by rw [tk1]; rfl)
      rwa [List.append_nil] at b) (.cons rfl .nil) (by rw [tk1]; rfl) fun hr' => ?_
    have hZ := XOk.hr (s := s') (H := H1) (x := hd.name) (g := g) (cdv := cdv) h l S hx
    have act' : ∀ (W : WX) (pn : List (Addr × Obj)) (xe : Value → Shared → Prop) (E : XK), Takes ((cxOf CX0 X.prog X.w X.K X.mg X.base hd.N hd.name (defScope st) g cdv X.A X.stack s' H1 E0).nox.tr pn xe) W → (∀ cls d σ' H', E cls d H' → W cls d σ' H') → ∀ (a : Str) (p1 p2 : Pos), nmV (hcz hd (defScope st) xcs) 0 a = true →
        PE ((cxOf CX0 X.prog X.w X.K X.mg X.base hd.N hd.name (defScope st) g cdv X.A X.stack s' H1 E0).nox.tr pn xe) (.Call (.Name a p1) [] [] p2) (fun z G Q => z[0]? = some (some (.ref f)) ∧ G c' = some (LamX.CodeO c' (X.env.qual ++ "<lambda>")) ∧ tb E σ G Q) := by
      intro W pn xe E tk hW a p1 p2 m
      simp only [nmV, Bool.and_eq_true, decide_eq_true_eq] at m
      obtain ⟨m1, m2, m3⟩ := m
      simp only [dn, Bool.and_eq_true, Bool.not_eq_true'] at m3
      have hv : Vis (defScope st) a := by
        unfold vis at m2
        unfold Vis
        split at m2
        · exact .inl (by assumption)
        · exact .inr (.inl (by assumption))
        · exact .inr (.inr (by assumption))
        · cases m2
      exact act (k := 2) (pm := pm) (ctv := ctv) I1 L hof nf nfr tk hW hr' (fun s1 H2 => pb _ s1 H2 E f c') m1 hv m3.1 m3.2
    have fin : ∀ {ss : List Stmt} (σ1 : L2.St), mHr (hcz hd (defScope st) xcs) hd ss = true → ∃ t, PSs (cxOf CX0 X.prog X.w X.K X.mg X.base hd.N hd.name (defScope st) g cdv X.A X.stack s' H1 E0).nox ss t ∧ (σ1.length = hd.N.length → σ1[0]? = some (some (.ref f)) → t { nx := fun _ H' => Q .non H', rt := Q } σ1 H1) := fun {ss} σ1 m => by
      obtain ⟨t, p1, q1⟩ := hr_body hZ rfl rfl m ck2 act'
      exact ⟨t, p1, fun e1 e2 => q1 Q ds G r σ1 H1 cm e1 sm dr (fun E Q' k => ⟨e2, hco, w2 E Q' k⟩) w1⟩
    have s0 : (L2.start hd.N [V.ref f])[0]? = some (some (.ref f)) := rfl
    have sl : (L2.start hd.N [V.ref f]).length = hd.N.length := by
      unfold L2.start
      rw [List.length_append, List.length_map, List.length_replicate]
      simp
      omega
    unfold mHear at ck3
    split at ck3
    · split at ck3
      · rename_i r0 p1 j p2 p3 ss e0
        simp only [Bool.and_eq_true, decide_eq_true_eq] at ck3
        obtain ⟨c1, c2, c3⟩ := ck3
        obtain ⟨lo1, lo2⟩ := loc_ok hZ c2
        obtain ⟨t, p4, q4⟩ := fin ((L2.start hd.N [V.ref f]).set 1 (some .non)) c3
        rw [e0]
        refine ⟨_, (pss_cons (ps_set (pos := p3) hZ.nd c1 lo1 (pe_non (j := j) (pos := p2)) rfl lo2) p4).nox, ?_⟩
        exact q4 (by rw [List.length_set]; exact sl) (by rw [List.getElem?_set_ne (by decide)]; exact s0)
      · cases ck3
    · obtain ⟨t, p4, q4⟩ := fin (L2.start hd.N [V.ref f]) ck3
      exact ⟨t, p4.nox, q4 sl s0⟩
  refine wpAny_call (codeAny_mono rc fun r s2 hq => ?_)
  cases r with
  | error e => exact (show False from hq).elim
  | ok fl =>
    cases fl with
    | ret u => exact I1.after hq
    | next => exact False.elim hq
    | brk => exact False.elim hq
    | cont => exact False.elim hq
theorem se_heard {p lpos pos : Pos} {n : Str} {body : Expr} {scope : Scope} {hd : HDef} {fr : List Nat} {fb : Env → M D} (h : XOk C T X) (l : C.lam = true) (hf : HdF X.K X.mg hd) (en : n = hd.name) (hg : gl C n = true) (hdb : (n == ("__debug__" : Str)) = false)
    (L : LamX.lamSB C.sc scope = true) (ho : ∀ j ∈ fr, j ∉ C.own) (hb : ∀ X', XOk (C.lm scope) T X' → SE (C.lm scope) X' body fb) :
    SE C X (.Call (.Name n p) [.Lambda ⟨[], [], none, [], [], none, []⟩ body scope lpos] [] pos) fun env => hearD hd (fb (pick fr 0 env)) := by
  obtain ⟨r4, ⟨c, P, hc, TB, hP, hU⟩, _⟩ := h.lam l
  have B := fun e s1 H1 E f c' => hb _ (h.lm0 l scope e s1 H1 E f c')
  let tb : LamR := fun E σ H Q => ∀ e s1 H1 f c', (B e s1 H1 E f c').choose σ H Q
  have pb : ∀ (e : PySem.Env) (s1 : Shared) (H1 : Hp) (E : XK) (f c' : Addr), PE (LamX.lamCx X (X.A.deeper e) (e :: X.stack) s1 H1 E scope f c') body (tb E) := fun e s1 H1 E f c' => ⟨fun pins s σ H Q I w => (B e s1 H1 E f c').choose_spec.1.run pins s σ H Q I (w e s1 H1 f c')⟩
  refine ⟨_, pe_hear h l hf en hg hdb (by rw [h.sc]; exact LamX.lamS_by L) TB hc pb, fun env ds G r σ H Q S w => ?_⟩
  refine ⟨S.drw.2.1 _ hP, fun H1 mk t1 => ?_⟩
  have n := nx_mk S.sub S.drw mk t1 hP hU
  refine ⟨fb (pick fr 0 env), ds, G, r, n.s, n.d, ?_, fun E Q' k e s1 HZ f c' => ?_⟩
  · rcases wpX_cases w with ⟨d, ds', e, k⟩ | ⟨x, s9, e, _⟩
    · rw [show hearD hd (fb (pick fr 0 env)) ds = .ok d ds' from e]
      exact fun v G' r' H' n2 q => k v G' r' H' (n.trans n2) q
    · exact absurd e hearD_nx
  · refine (B e s1 HZ E f c').choose_spec.2 (pick fr 0 env) ds G r σ H1 Q' ((n.sim S).lam0 ho) (wpX_mono k (fun _ _ z => z) fun x s z cls d G' r' H' n2 v => ?_)
    exact le_wX (takes_of rfl rfl rfl rfl) (z cls d G' r' H' n2 v)
/-! ### functions as values -/
theorem se_fn {fn : Fn} {n : Str} {pos : Pos} (h : XOk C T X) (hf : FnH X fn) (en : n = fn.name) (hg : gl C n = true) (hdb : (n == ("__debug__" : Str)) = false) : SE C X (.Name n pos) fun _ => ret (fnTok fn.name) := by
  subst en
  obtain ⟨k, a, fd, room, g, b, m, kp⟩ := hf.ex
  exact se_k (pe_glob (gl_ok h hg) m (v := .ref a) rfl hdb) fun G r => .fnv ((h.fa _ _).mpr m)
def tCallV (X : Cx) (T : Tb) (i : Nat) (t : TA) : TE := fun σ H Q => ∃ (fn : Fn) (a : Addr), fn ∈ T.fs ∧ X.mg fn.name = some (.ref a) ∧ σ[i]? = some (some (V.ref a)) ∧ t σ H fun vs H1 => spG X σ fn vs H1 Q
theorem pe_callVG {i : Nat} {x : Expr} {xs : List Expr} {n : Str} {t : TA} {p pos : Pos} (h : XOk C T X) (m : nmV C i n = true) (hn : nsts (x :: xs) = true) (pa : PA X (x :: xs) t) : PE X (.Call (.Name n p) (x :: xs) [] pos) (tCallV X T i t) := by
  refine ⟨fun pins s σ H Q I w => ?_⟩
  obtain ⟨fn, a, hm, mg, hs, w⟩ := w
  obtain ⟨j, hj⟩ := List.getElem?_of_mem hm
  obtain ⟨k, a', fd, room, g, b, mg', kp⟩ := (h.fs j fn hj).ex
  rw [mg] at mg'
  cases mg'
  refine wpAny_Call_Name_kw (thn ((nmV_ok (pos := p) h m).run pins s σ H (fun v H1 => v = .ref a ∧ H1 = H) I ⟨.ref a, hs, rfl, rfl⟩) fun u s1 ⟨v, H1, I1, r1, q1⟩ => ?_)
  obtain ⟨e1, e2⟩ := q1
  subst e1
  rw [e2] at I1
  obtain rfl : u = Value.ref a := r1
  have hn2 : nst x = true ∧ nsts xs = true := by simpa [nsts] using hn
  refine PySem.W.callWith_K (h₀ := X.base) I1.ok.mod.kin kp ?_ (star_ns hn2.1 xs X.env) (nsts_plain hn2.2 X.env pos)
  refine thn (pa.run pos pins s1 σ H _ I1 w) fun us s2 q => ?_
  obtain ⟨vs, H2, I2, rv, sp⟩ := q
  have l : us.length = fn.ps.length := by
    obtain ⟨ys, _, _, _, l, _, _, q, _⟩ := id sp
    rw [← rv.length, q.length, l]
  exact ⟨I2.kIn, fn_run (args := ⟨us, []⟩) h.grd room g (b.pos s2 us l) rv I2 sp⟩
theorem se_callV {i : Nat} {x : Expr} {xs : List Expr} {n : Str} {F : Env → M (List D)} {p pos : Pos} (h : XOk C T X) (m : nmV C i n = true) (hi : i ∉ C.own) (hn : nsts (x :: xs) = true) (a : SA C X (x :: xs) F) :
    SE C X (.Call (.Name n p) (x :: xs) [] pos) fun env => match fnOf (getv env i) T.fs with
      | some f => bnd (F env) fun ys => bnd (lft (argsOf f.ps.length ys [])) f.m
      | none => stk := by
  obtain ⟨t, pa, q⟩ := a
  refine ⟨_, pe_callVG h m hn pa, fun env ds G r σ H Q S w => ?_⟩
  dsimp only at w
  cases e : fnOf (getv env i) T.fs with
  | none => rw [e] at w; exact w.elim
  | some f =>
    rw [e] at w
    dsimp only at w
    unfold fnOf at e
    split at e
    · rename_i z y e0
      have fm := List.mem_of_find?_eq_some e
      have fn : f.name = y := by simpa using List.find?_some e
      obtain ⟨v, hv, dv⟩ := S.var i _ hi (getv_some e0)
      cases dv with
      | fnv hfa =>
        rename_i a
        refine ⟨f, a, fm, by rw [fn]; exact (h.fa _ _).mp hfa, hv, ?_⟩
        refine q env ds G r σ H _ S (wpX_mono (wpX_bnd.mp w) fun es ds1 w1 vs G1 r1 H1 n1 h1 => ?_)
        obtain ⟨as, e1, w2⟩ := wpX_lft (wpX_bnd.mp w1)
        obtain ⟨rfl, l⟩ := argsOf_nil e1
        exact ⟨as, ds1, G1, r1, l, n1.s, n1.d, h1, wpX_mono w2 fun d ds' k v G' r' H' n2 m => k v G' r' H' (n1.trans n2) m⟩
    · cases e
def tCallW (X : Cx) (T : Tb) (i : Nat) (ps : List Str) (m : Nat) (js : List Nat) (t tk : TA) : TE := fun σ H Q => ∃ (fn : Fn) (a : Addr), fn ∈ T.fs ∧ fn.ps = ps ∧ (m, js) ∈ fn.kws ∧ X.mg fn.name = some (.ref a) ∧ σ[i]? = some (some (V.ref a)) ∧ tCallKG X fn m js t tk σ H Q
theorem pe_callW {i : Nat} {xs : List Expr} {n : Str} {t tk : TA} {ks : List Keyword} {ps : List Str} {m : Nat} {js : List Nat} {p pos : Pos} (h : XOk C T X) (mv : nmV C i n = true) (hn : nsts xs = true) (hks : kwN ks = some (js.map fun j => ps.getD j "")) (hxs : xs = [] → t = tNil) (pa : PA X xs t) (pk : PK X ks tk) :
    PE X (.Call (.Name n p) xs ks pos) (tCallW X T i ps m js t tk) := by
  refine ⟨fun pins s σ H Q I w => ?_⟩
  obtain ⟨fn, a, hm0, eps, hm, mg, hs, w⟩ := w
  subst eps
  obtain ⟨j, hj⟩ := List.getElem?_of_mem hm0
  obtain ⟨k, a', fd, room, g, b, mg', kp⟩ := (h.fs j fn hj).ex
  rw [mg] at mg'
  cases mg'
  obtain ⟨k1, k2, k3⟩ := kwN_ok (env := X.env) (pos := pos) hks
  refine wpAny_Call_Name_kw (thn ((nmV_ok (pos := p) h mv).run pins s σ H (fun v H1 => v = .ref a ∧ H1 = H) I ⟨.ref a, hs, rfl, rfl⟩) fun u s1 ⟨v, H1, I1, r1, q1⟩ => ?_)
  obtain ⟨e1, e2⟩ := q1
  subst e1
  rw [e2] at I1
  obtain rfl : u = Value.ref a := r1
  have fin : ∀ {us ws : List Value} {vs zs : List V} {s1 : Shared} {H1 : Hp}, L2.Inv X pins σ H1 s1 → Vals vs us → Vals zs ws → (vs.length = m ∧ zs.length = js.length ∧ ∃ bs, argsOf fn.ps.length vs (js.zip zs) = some bs ∧ spG X σ fn bs H1 Q) →
      wpAny (model X.prog X.w) X.A (call (.ref a) us (((backToKw pos (keywordEach ks X.env)).filterMap (·.1)).zip ws)) (EP X pins σ Q) X.xe s1 := fun {us ws vs zs s1 H1} I1 rv rz sp => by
    obtain ⟨l1, l2, bs, e, sp⟩ := sp
    have sym : ∀ {xs : List V} {ys : List Value}, Paired RelV xs ys → Paired (fun u v => RelV v u) ys xs := fun {xs ys} z => by
      induction z with
      | nil => exact .nil
      | cons a _ ih => exact .cons a ih
    have sym2 : ∀ {xs : List V} {ys : List Value}, Paired (fun u v => RelV v u) ys xs → Paired RelV xs ys := fun {xs ys} z => by
      induction z with
      | nil => exact .nil
      | cons a _ ih => exact .cons a ih
    obtain ⟨as, e2, ra⟩ := argsOf_rel (Rl := fun u v => RelV v u) (sym rv) (sym rz) e
    have lu : us.length = m := by rw [← rv.length]; exact l1
    have lw : ws.length = js.length := by rw [← rz.length]; exact l2
    rw [k2]
    exact fn_run (args := ⟨us, (js.map fun j => fn.ps.getD j "").zip ws⟩) h.grd room g (b.kw m js hm s1 us ws as lu lw e2) (sym2 ra) I1 sp
  cases xs with
  | nil =>
    cases hxs rfl
    refine PySem.W.callWith_KW0 (h₀ := X.base) I1.ok.mod.kin kp k1 ?_ (by rw [k3]; rfl)
    exact thn (pk.run pos pins s1 σ H _ I1 w) fun ws s2 q => by
      obtain ⟨zs, H2, I2, rz, sp⟩ := q
      exact ⟨I2.kIn, fin (us := []) (vs := []) I2 .nil rz sp⟩
  | cons x xs =>
    have hn2 : nst x = true ∧ nsts xs = true := by simpa [nsts] using hn
    refine PySem.W.callWith_KW (h₀ := X.base) I1.ok.mod.kin kp k1 ?_ (by rw [k3, nsts_plain hn X.env pos]; rfl) (star_ns hn2.1 xs X.env)
    refine thn (pa.run pos pins s1 σ H _ I1 w) fun us s2 q => ?_
    obtain ⟨vs, H2, I2, rv, w1⟩ := q
    exact thn (pk.run pos pins s2 σ H2 _ I2 w1) fun ws s3 q => by
      obtain ⟨zs, H3, I3, rz, sp⟩ := q
      exact ⟨I3.kIn, fin I3 rv rz sp⟩
theorem se_callW {i : Nat} {xs : List Expr} {n : Str} {ks : List Keyword} {ps : List Str} {m : Nat} {js : List Nat} {F : Env → M (List D)} {gk : Env → M (List (Nat × D))} {p pos : Pos} (h : XOk C T X) (mv : nmV C i n = true) (hi : i ∉ C.own) (hn : nsts xs = true)
    (hks : kwN ks = some (js.map fun j => ps.getD j "")) (hl : ∀ env ds, wpX ExT (F env ds) (fun _ _ => True) → wpX ExT (F env ds) fun ys _ => ys.length = m) (hl2 : ∀ env ds, wpX ExT (gk env ds) (fun _ _ => True) → wpX ExT (gk env ds) fun kv _ => ∃ es, kv = js.zip es ∧ es.length = js.length)
    (a : xs ≠ [] → SA C X xs F) (a0 : xs = [] → F = fun _ => ret []) (b : SK C X ks js gk) :
    SE C X (.Call (.Name n p) xs ks pos) fun env => match fnOf (getv env i) T.fs with
      | some f => if f.ps = ps ∧ (m, js) ∈ f.kws then bnd (F env) fun ys => bnd (gk env) fun kv => bnd (lft (argsOf f.ps.length ys kv)) f.m else stk
      | none => stk := by
  have a' : ∃ t : TA, (xs = [] → t = tNil) ∧ PA X xs t ∧ ∀ (env : Env) (ds : Option DS) (G : Hp) (r : Option DA) (σ : L2.St) (H : Hp) (Q : List V → Hp → Prop), Sim X.K C.own env ds G r σ H →
      wpX (EX X σ G r H) (F env ds) (fun es ds' => ∀ vs G' r' H', Nx G r H ds' G' r' H' → DqAll X.K G' r' vs es → Q vs H') → t σ H Q := by
    by_cases c : xs = []
    · subst c
      rw [a0 rfl]
      exact ⟨tNil, fun _ => rfl, pa_nil, fun env ds G r σ H Q S w => wpX_ret w _ _ _ _ (Nx.refl S.sub S.drw) .nil⟩
    · obtain ⟨t, pa, q⟩ := a c
      exact ⟨t, fun z => absurd z c, pa, q⟩
  obtain ⟨t, ht, pa, q⟩ := a'
  obtain ⟨tk, pk, qk⟩ := b
  refine ⟨_, pe_callW (T := T) (ps := ps) (m := m) h mv hn hks ht pa pk, fun env ds G r σ H Q S w => ?_⟩
  dsimp only at w
  cases e : fnOf (getv env i) T.fs with
  | none => rw [e] at w; exact w.elim
  | some fn =>
  rw [e] at w
  dsimp only at w
  by_cases cc : fn.ps = ps ∧ (m, js) ∈ fn.kws
  rotate_left
  · rw [if_neg cc] at w
    exact w.elim
  rw [if_pos cc] at w
  unfold fnOf at e
  split at e
  rotate_left
  · cases e
  rename_i z0 y0 e0
  have fm := List.mem_of_find?_eq_some e
  have fnn : fn.name = y0 := by simpa using List.find?_some e
  obtain ⟨v, hv, dv⟩ := S.var i _ hi (getv_some e0)
  cases dv with
  | fnv hfa =>
  rename_i ad
  refine ⟨fn, ad, fm, cc.1, cc.2, by rw [fnn]; exact (h.fa _ _).mp hfa, hv, ?_⟩
  have w0 := wpX_bnd.mp w
  rcases wpX_cases w0 with ⟨ys, ds1, e1, w1⟩ | ⟨x1, s1, e1, w1⟩
  rotate_left
  · refine q env ds G r σ H _ S ?_
    rw [e1]
    exact w1
  have l1 := hl env ds (by rw [e1]; trivial)
  rw [e1] at l1
  refine q env ds G r σ H _ S ?_
  rw [e1]
  intro vs G1 r1 H1 n1 h1
  rcases wpX_cases (wpX_bnd.mp w1) with ⟨kv, ds2, e2, w2⟩ | ⟨x2, s2, e2, w2⟩
  rotate_left
  · refine qk env ds1 G1 r1 σ H1 _ (n1.sim S) ?_
    rw [e2]
    exact EX.up n1 _ _ w2
  have l2 := hl2 env ds1 (by rw [e2]; trivial)
  rw [e2] at l2
  obtain ⟨es, rfl, le⟩ := l2
  refine qk env ds1 G1 r1 σ H1 _ (n1.sim S) ?_
  rw [e2]
  refine ⟨es, rfl, le, fun zs G2 r2 H2 n2 h2 => ?_⟩
  obtain ⟨as, ea, w3⟩ := wpX_lft (wpX_bnd.mp w2)
  have h1' := h1.more n2.g n2.e
  obtain ⟨bs, eb, hb⟩ := argsOf_rel (dqP.mp h1') (dqP.mp h2) ea
  refine ⟨by rw [h1.length]; exact l1, by rw [h2.length]; exact le, bs, eb, as, ds2, G2, r2, argsOf_len ea, n2.s, n2.d, dqP.mpr hb, ?_⟩
  exact wpX_mono w3 fun d ds' k v G' r' H' n3 m => k v G' r' H' ((n1.trans n2).trans n3) m
end
end Ev

end
section
set_option maxHeartbeats 8000000
/-! # EvV: a hearing def that gets a lambda with a default -/
namespace Ev
open PySem PySem.Spec L2
variable [TabsC]
/-- lambda y=i: .. -/
abbrev pD (y : Str) (p0 : Pos) (i : Int) (j : Nat) (p1 : Pos) : Arguments := ⟨[], [⟨y, none, p0⟩], none, [], [], none, [.Constant (.int i) j p1]⟩
section
variable {X : Cx} {pins : List (Addr × Obj)} {σ : St} {H HZ : Hp} {s s1 : Shared}
abbrev lamFD (X : Cx) (params : Arguments) (body : Expr) (scope : Scope) (t : Addr) (doc pm : Value) (c' : Addr) (ctv : Value) : Obj := PySem.W.kdv_obj "<lambda>" (lamQ X) params (.expr body) scope (cloFrom X.env.cells scope.names []) (.ref t) doc pm c' ctv
theorem lam_newD {c P : Addr} {y : Str} {p0 p1 : Pos} {i : Int} {j : Nat} {body : Expr} {scope : Scope} {pos : Pos} {Q : Value → Shared → Prop} (I : Inv X pins σ H s) (TB : LamX.TabB X.base X.mg c P) (hc : X.env.code = .ref c)
    (ht : LamX.TabS H P (lamQ X)) (hf : ∀ y ∈ scope.names, y.2 = .free → ∃ c, X.env.cells.lookup y.1 = some c)
    (h : ∀ (f c' t : Addr) (u doc pm ctv : Value) (H1 : Hp) (s' : Shared), Inv X pins σ H1 s' → Mk P (lamQ X) H H1 → LamX.TabS H1 P (lamQ X) → s'.heap.get? f = some (lamFD X (pD y p0 i j p1) body scope t doc pm c' ctv) → H1 f = none → f ∉ frs X.stack → s'.heap.get? t = some (PySem.W.kdv_tup [u]) → H1 t = none → t ∉ frs X.stack → H1 c' = some (LamX.CodeO c' (lamQ X)) → Q (.ref f) s') :
    wpAny (model X.prog X.w) X.A (eval (.Lambda (pD y p0 i j p1) body scope pos) X.env) Q X.xe s := by
  refine PySem.W.kdv_lam rfl rfl (PySem.W.kdv_all1 (wpAny_mono ((pe_int (X := X) (i := i) (j := j) (pos := p1)).run pins s σ H (fun v H1 => v = .int i ∧ H1 = H) I ⟨rfl, rfl⟩) (fun u s0 hq => ?_) fun e s' hq => ?_))
  · obtain ⟨v, H0, I0, r0, q1, q2⟩ := hq
    rw [q2] at I0
    clear q1 q2 r0
    refine PySem.W.kdv_all0 ?_
    rw [makeFunction_eq]
    simp only [List.zip_nil_right, List.filterMap_nil, List.isEmpty_nil, List.isEmpty_cons, if_true, pure_bind, Bool.false_eq_true, if_false]
    refine wpAny_bind (wpAny_newTextTuple ?_)
    obtain ⟨ps, hP, tr, all⟩ := ht
    have nf : ∀ f, s0.heap.objs.size ≤ f → f ∉ frs X.stack := fun f hf => (far_of I0 hf).f
    have nt : H s0.heap.objs.size = none := I0.hok.fresh (Nat.le_refl _)
    have I1 : Inv X pins σ H { s0 with heap := s0.heap.push (PySem.W.kdv_tup [u]) } := I0.kept (t' := s0.toks) fun b o e => Heap.get?_push_of_some _ e
    have ot : (s0.heap.push (PySem.W.kdv_tup [u])).get? s0.heap.objs.size = some (PySem.W.kdv_tup [u]) := Heap.get?_push_size _ rfl
    have tfr := nf s0.heap.objs.size (Nat.le_refl _)
    generalize ht0 : s0.heap.objs.size = t at *
    have e2 : ({ s0 with heap := s0.heap.push (PySem.W.kdv_tup [u]) } : Shared).heap = s0.heap.push (PySem.W.kdv_tup [u]) := rfl
    generalize hs2 : ({ s0 with heap := s0.heap.push (PySem.W.kdv_tup [u]) } : Shared) = s2 at *
    rw [← e2] at ot
    have bP : s2.heap.BuiltinsAt X.mg P := TB.bm.keeps I1.bk
    have oP : s2.heap.get? P = some { cls := .none, data := .fields ps } := I1.hok P _ hP
    have nf2 : ∀ f, s2.heap.objs.size ≤ f → f ∉ frs X.stack := fun f hf => (far_of I1 hf).f
    have tP : t ≠ P := fun z => by rw [z, hP] at nt; cases nt
    cases am : codeAmong pos ps.toList with
    | some cv =>
      obtain ⟨c', rfl, hco⟩ := all pos cv am
      refine PySem.W.kdv_makeTailHit (mg := X.mg) (c := c) (P := P) (ps := ps) (closure_ok hf) I1.ok.glob (I1.mod.glob.keeps I1.bk) hc (TB.code.keeps I1.bk) oP tr am bP fun ctv doc h' tk ex sz => ?_
      refine h h'.objs.size c' t u doc _ ctv H _ (I1.kept (t' := tk) fun b o e => Heap.get?_push_of_some _ (ex b o e)) (.inl rfl) ⟨ps, hP, tr, all⟩ (Heap.get?_push_size _ rfl) (I1.hok.fresh sz) (nf2 _ sz) (Heap.get?_push_of_some _ (ex _ _ ot)) nt tfr hco
    | none =>
      refine PySem.W.kdv_makeTail (mg := X.mg) (c := c) (P := P) (ps := ps) (closure_ok hf) I1.ok.glob (I1.mod.glob.keeps I1.bk) hc (TB.code.keeps I1.bk) oP tr am TB.gP bP fun c' ctv doc h' tk ex ge lt rec tab => ?_
      obtain ⟨c2, oc, vs, tq, e3, hoc, hdc, hvc⟩ := rec
      cases e3
      have sz : s2.heap.objs.size ≤ h'.objs.size := Nat.le_trans ge (Nat.le_of_lt lt)
      have n1 : H c' = none := I1.hok.fresh ge
      have cP : c' ≠ P := fun z => by rw [z, hP] at n1; cases n1
      have ct : t ≠ c' := fun z => by
        have := Heap.lt_size ot
        rw [z] at this
        exact Nat.lt_irrefl _ (Nat.lt_of_lt_of_le this ge)
      have J := LamX.inv_table (t' := tk) (more := #[rawInt pos.line, rawInt pos.col, .ref c']) (h' := h'.push (lamFD X (pD y p0 i j p1) body scope t doc ((X.mg "__name__").getD .none) c' ctv)) I1 hP
        (fun b o hb e => Heap.get?_push_of_some _ (ex b o hb e)) (Heap.get?_push_of_some _ tab) ge ⟨oc, vs, tq, Heap.get?_push_of_some _ hoc, hdc, hvc⟩
      refine h h'.objs.size c' t u doc _ ctv _ _ J (.inr ⟨ps, _, c', hP, n1, cP, rfl⟩) ⟨_, by rw [upd_ne (Ne.symm cP)]; exact upd_same, ?_, fun p cv hcv => ?_⟩ (Heap.get?_push_size _ rfl) ?_ (nf2 _ sz) (Heap.get?_push_of_some _ (ex _ _ tP ot)) ?_ tfr upd_same
      · simpa using PySem.TriplesOk_snoc _ _ _ _ tr
      · have hcv' : codeAmong p (ps.toList ++ [rawInt pos.line, rawInt pos.col, .ref c']) = some cv := by simpa using hcv
        rcases among_new _ tr hcv' with z | z
        · obtain ⟨d, e1, e2⟩ := all p cv z
          have nd : d ≠ P := fun y => by rw [y, hP] at e2; cases e2
          exact ⟨d, e1, by rw [upd_ne (ne_of_none e2 n1), upd_ne nd]; exact e2⟩
        · exact ⟨c', z, upd_same⟩
      · rw [upd_ne (Nat.ne_of_gt lt), upd_ne (Nat.ne_of_gt (Nat.lt_of_lt_of_le (Heap.lt_size oP) sz))]
        exact I1.hok.fresh sz
      · rw [upd_ne ct, upd_ne tP]
        exact nt
  · exact hq
/-- entered from the hearing def -/
theorem lam_startD {A : Around} {outer : List PySem.Env} {E : XK} {scope : Scope} {f c' : Addr} {h₁ : Heap} {tk : Nat} {a : Str} {u : Value} (I : Inv X pins σ H s) (L : LamS1 X.env.scope scope a) (nN : a ∉ X.N) (e0 : Env0 X.prog X.w X.K X.mg X.base A outer s1 HZ) (hd : A.handled = none)
    (un : Un (frs X.stack) [] H HZ s.heap s1.heap) (hns : h₁.Ns s1.heap.objs.size fun y => [(a, u)].reverse.lookup y) (kp : ∀ b o, s1.heap.get? b = some o → h₁.get? b = some o) :
    Inv (LamX.lamCx X A outer s1 HZ E scope f c') [] σ HZ { s1 with heap := h₁, toks := tk } := by
  have hfree := L.has I.ok
  have cm : ∀ {y c}, (cloFrom X.env.cells scope.names []).lookup y = some c → X.env.cells.lookup y = some c := fun {y c} e => by
    rcases cloFrom_mem (PySem.mem_of_lookup e) with hm | ⟨h1, h2⟩
    · cases hm
    · obtain ⟨c1, hc⟩ := hfree _ h1 rfl
      have hc : X.env.cells.lookup y = some c1 := hc
      have e2 : c = c1 := by
        rw [h2, hc] <;> rfl
      rw [e2]
      exact hc
  have look : ∀ {y}, scope.names.lookup y = some .free → ∃ c, (cloFrom X.env.cells scope.names []).lookup y = some c := fun {y} hl => by
    have hy : (y, NameKind.free) ∈ scope.names := PySem.mem_of_lookup hl
    exact mem_lookup (cloFrom_has (cells := X.env.cells) (acc := []) hy)
  have cellK : ∀ {c : Addr} {v : Option Value}, H c = none → s.heap.IsCell c v → h₁.IsCell c v := fun {c v} n ⟨o, ho, hd⟩ => by
    obtain ⟨sl, q⟩ := un.any ho n (by simp)
    exact ⟨_, kp _ _ q, hd⟩
  have noA : ∀ b : Addr, b ∉ (LamX.lamCx X A outer s1 HZ E scope f c').ex := fun b z => absurd (show b ∈ ([] : List Addr) from z) (by simp)
  refine ⟨⟨e0.mod, L.kind, rfl, rfl, Nat.le_refl _, fun y z c e1 e2 => I.ok.inj y z c (cm e1) (cm e2), fun y hy => ?_, fun y c z _ => ?_, fun _ => hd, Around.frames_deeper e0.frames, .inr ⟨rfl, rfl⟩, fun b z => absurd z (noA b), e0.bs, e0.bsz, fun b _ _ => noA b,
      fun b z => absurd z (noA b), e0.funs, e0.frf⟩,
    rfl, e0.bare, Un.kept kp, ⟨_, hns, fun i y v e1 e2 e3 => ?_⟩, fun y c e => ?_, e0.hok.fresh (Nat.le_refl _), fun y c e => ?_, fun q hq => absurd (show q ∈ ([] : List (Addr × Obj)) ++ [] from hq) (by simp), e0.hok.kept kp, I.len⟩
  · have hy : scope.names.lookup y = some .cell ∨ scope.names.lookup y = some .free := hy
    rcases hy with hy | hy
    · exact absurd rfl (L.own _ (PySem.mem_of_lookup hy)).1
    · exact look hy
  · have z : false = true := z
    cases z
  · have e3 : Vis scope y := e3
    have e1 : X.N[i]? = some y := e1
    rcases e3 with k | k | k
    · have := (L.own _ (PySem.mem_of_lookup k)).2 rfl
      exact absurd (List.mem_of_getElem? (by rw [← this]; exact e1)) nN
    · exact absurd rfl (L.own _ (PySem.mem_of_lookup k)).1
    · obtain ⟨m, hn, hl⟩ := I.loc
      have hvis : Vis X.env.scope y := (L.free _ (PySem.mem_of_lookup k) rfl).elim (fun k => .inr (.inl k)) (fun k => .inr (.inr k))
      obtain ⟨w', r, q⟩ := hl i y v e1 e2 hvis
      obtain ⟨c2, h2⟩ := look k
      refine ⟨w', r, .inr ⟨.inr k, c2, h2, ?_⟩⟩
      have c1 := cm h2
      rcases q with ⟨k', _⟩ | ⟨_, c3, e', z⟩
      · have k' : X.env.scope.names.lookup y = some .local := k'
        rcases L.free _ (PySem.mem_of_lookup k) rfl with k2 | k2 <;> rw [show X.env.scope.names.lookup y = _ from k2] at k' <;> cases k'
      · rw [c1] at e'
        cases e'
        exact cellK (I.freeC y _ c1) z
  · obtain ⟨w', z⟩ := I.cell y c (cm e)
    exact ⟨w', cellK (I.freeC y c (cm e)) z⟩
  · obtain ⟨v, o, ho, hd⟩ := I.cell y c (cm e)
    exact un.free c o ho (I.freeC y c (cm e)) (by simp)
end
section
variable {C : Cz} {T : Tb} {X : Cx}
/-- the call within the try -/
theorem actD {scope : Scope} {f c' : Addr} {t : Addr} {u0 doc pm ctv cdg : Value} {y : Str} {p0' p1' : Pos} {di : Int} {dj : Nat} {body : Expr} {tb : LamR} {Ng : List Str} {qg : Str} {sg : Scope} {g : Addr} {pins : List (Addr × Obj)} {σ : L2.St} {s : Shared} {H : Hp} {k : Nat} {a : Str} {pn : List (Addr × Obj)} {xe : Value → Shared → Prop} {W : WX} {E : XK} {p1 p2 : Pos}
    (I : L2.Inv X pins σ H s) (hy : y = ("x" : Str) ∨ y = ("y" : Str)) (L : LamS1 X.env.scope scope y) (nN : y ∉ X.N) (hf : s.heap.get? f = some (lamFD X (pD y p0' di dj p1') body scope t doc pm c' ctv)) (hfn : H f = none) (hfr : f ∉ frs X.stack) (htt : s.heap.get? t = some (PySem.W.kdv_tup [u0])) (htn : H t = none) (htr : t ∉ frs X.stack)
    (tk : Takes ((cxOf CX0 X.prog X.w X.K X.mg X.base Ng qg sg g cdg X.A X.stack s H E0).nox.tr pn xe) W) (hW : ∀ cls d σ' H', E cls d H' → W cls d σ' H') (hr : Room (k + 1) (X.A.deeper (PyProof.Rows.envOfC qg sg s.heap.objs.size g cdg)))
    (hbody : ∀ (s1 : Shared) (H1 : Hp), PE (LamX.lamCx X (X.A.deeper (PyProof.Rows.envOfC qg sg s.heap.objs.size g cdg)) (PyProof.Rows.envOfC qg sg s.heap.objs.size g cdg :: X.stack) s1 H1 E scope f c') body (tb E)) (hN : Ng[0]? = some a) (hv : Vis sg a) (hd : (a == ("__debug__" : Str)) = false) (hcd : (a == ("__classdict__" : Str)) = false) :
    PE ((cxOf CX0 X.prog X.w X.K X.mg X.base Ng qg sg g cdg X.A X.stack s H E0).nox.tr pn xe) (.Call (.Name a p1) [] [] p2) fun z G Q => z[0]? = some (some (.ref f)) ∧ G c' = some (LamX.CodeO c' (X.env.qual ++ "<lambda>")) ∧ tb E σ G Q := by
  refine ⟨fun ps s0 z G Q I0 h => ?_⟩
  obtain ⟨h1, h2, h3⟩ := h
  refine wpAny_Call_Name_kw (thn ((pe_var (pos := p1) (i := 0) (X := (cxOf CX0 X.prog X.w X.K X.mg X.base Ng qg sg g cdg X.A X.stack s H E0).nox.tr pn xe) hN hv hd hcd).run ps s0 z G (fun v G1 => v = .ref f ∧ G1 = G) I0 ⟨.ref f, h1, rfl, rfl⟩) fun u s1 ⟨v, G1, I1, r1, q1⟩ => ?_)
  obtain ⟨e1, e2⟩ := q1
  subst e1
  rw [e2] at I1
  obtain rfl : u = Value.ref f := r1
  have of1 := I1.base.keep f _ hf hfn hfr (fun y => nomatch (show f ∈ ([] : List Addr) from y))
  have ot1 := I1.base.keep t _ htt htn htr (fun y => nomatch (show t ∈ ([] : List Addr) from y))
  refine PySem.W.callWith_F0 ⟨_, _, _, _, of1⟩ ?_
  have un : Un (frs X.stack) [] H G s.heap s1.heap := I1.base
  obtain ⟨⟨oc, vs, t9, hoc, hdc, hvc⟩, _, _⟩ := I1.hok c' _ h2
  have rc : codeAny (model X.prog X.w) (X.A.deeper (PyProof.Rows.envOfC qg sg s.heap.objs.size g cdg)) (.call (.ref f) ⟨[], []⟩) (CR (L2.CX X.prog X.w) (PyProof.Rows.envOfC qg sg s.heap.objs.size g cdg :: X.stack) X.prog X.w G s1 Q E) s1 := by
    refine PySem.W.kla_callFunE hr.depth of1 rfl L.co L.gen rfl ⟨c', oc, vs, t9, rfl, hoc, hdc, hvc⟩ ?_
    have bt : BindsTo s1 (PySem.W.kdv_fn "<lambda>" (lamQ X) (pD y p0' di dj p1') (.expr body) scope (cloFrom X.env.cells scope.names []) (.ref t) doc pm (.ref c') ctv) ⟨[], []⟩ [(y, u0)] := by
      rcases hy with rfl | rfl
      · exact BindsTo.of_defaults (binds := [(("x" : Str), u0)]) rfl ot1 rfl rfl rfl
      · exact BindsTo.of_defaults (binds := [(("y" : Str), u0)]) rfl ot1 rfl rfl rfl
    refine bt _ _ _ _ ?_
    refine wpAny_newFunctionEnv (fun z hz => (L.own z hz).1) (fun z hz => ?_) (fun h₁ hns hsb => ⟨I1.nolimit.fresh _ hsb, ?_⟩) L.kind
    · rw [List.mem_singleton.mp hz]; exact L.par
    show codeAny _ _ (.expr body (LamX.lamEnv X scope s1.heap.objs.size f c')) _ _
    have kp : ∀ b o, s1.heap.get? b = some o → h₁.get? b = some o := fun b o e => hsb.extBut b o (Nat.ne_of_lt (Heap.lt_size e)) (Heap.get?_push_of_some _ e)
    have J := lam_startD (A := X.A.deeper (PyProof.Rows.envOfC qg sg s.heap.objs.size g cdg)) (outer := PyProof.Rows.envOfC qg sg s.heap.objs.size g cdg :: X.stack) (E := E) (f := f) (c' := c') (tk := s1.toks + ([(y, u0)] : List (Str × Value)).length) I L nN I1.env0 hr.hd un hns kp
    refine PySem.W.kla_codeExpr (wpAny_mono ((hbody s1 G).run [] _ _ G Q J h3) (fun v s' hq => ?_) fun e s' hq => hq)
    obtain ⟨w', H', J', rv, q⟩ := hq
    exact ⟨w', H', J'.os, J'.bare, J'.base, J'.hok, rv, q⟩
  refine wpAny_call (codeAny_mono rc fun r s' hq => ?_)
  cases r with
  | error e => exact (passes_call tk hW) ps z G s1 e s' I1 hq
  | ok fl =>
    cases fl with
    | ret u => exact I1.after hq
    | next => exact False.elim hq
    | brk => exact False.elim hq
    | cont => exact False.elim hq
theorem pe_hearD {y : Str} {p0' p1' : Pos} {di : Int} {dj : Nat} {p lpos pos : Pos} {n : Str} {body : Expr} {scope : Scope} {hd : HDef} {tb : LamR} {P c : Addr} (h : XOk C T X) (l : C.lam = true) (hf : HdF X.K X.mg hd) (en : n = hd.name) (hg : gl C n = true) (hdb : (n == ("__debug__" : Str)) = false)
    (hy : y = ("x" : Str) ∨ y = ("y" : Str)) (L : LamS1 X.env.scope scope y) (nN : y ∉ X.N) (TB : LamX.TabB X.base X.mg c P) (hc : X.env.code = .ref c)
    (pb : ∀ (e : PySem.Env) (s1 : Shared) (H1 : Hp) (E : XK) (f c' : Addr), PE (LamX.lamCx X (X.A.deeper e) (e :: X.stack) s1 H1 E scope f c') body (tb E)) :
    PE X (.Call (.Name n p) [.Lambda (pD y p0' di dj p1') body scope lpos] [] pos) (tHear X hd P tb) := by
  subst en
  obtain ⟨g, fd, st, xcs, mg, kp, F, bd, ck, hx⟩ := hf.ex
  obtain ⟨oc, od, kV, doc, pmv, an, cdv, ct, osl, rfl, lk, hcd⟩ := F.ex
  simp only [ckH, Bool.and_eq_true, decide_eq_true_eq] at ck
  obtain ⟨ck1, ck2, ck3⟩ := ck
  have S := scB_ok ck1
  refine ⟨fun pins s σ H Q I w => ?_⟩
  obtain ⟨tt, w⟩ := w
  refine wpAny_Call_Name_kw (ld_glob I (gl_ok h hg) mg ?_ hdb)
  refine PySem.W.callWith_K (h₀ := X.base) I.ok.mod.kin kp ?_ (by rfl) (by rfl)
  show wpAny _ _ (spliced ((false, eval (.Lambda (pD y p0' di dj p1') body scope lpos) X.env) :: backTo pos (starEach [] X.env))) _ _ s
  refine Calls.spliced_cons (lam_newD I TB hc tt (L.has I.ok) fun f c' tu u0 doc pm ctv H1 s' I1 mk t1 hof nf nfr htt htn htr hco => ?_)
  refine Calls.spliced_nil ⟨I1.kIn, ?_⟩
  obtain ⟨cm, ds, G, r, sm, dr, w1, w2⟩ := w H1 mk t1
  have tk1 : (hd.N.take 1).length = 1 := by rw [List.length_take]; omega
  obtain ⟨a, rest, eN⟩ : ∃ a rest, hd.N = a :: rest := by
    cases q : hd.N with
    | nil => rw [q] at ck2; simp at ck2
    | cons a rest => exact ⟨a, rest, rfl⟩
  have rc : codeAny (model X.prog X.w) X.A (.call (.ref g) ⟨[.ref f], []⟩) (CR CX0 X.stack X.prog X.w H1 s' Q E0) s' := by
    refine LamX.run_ofS (k := 3) (N := hd.N) (ps := hd.N.take 1) (us := [.ref f]) (vs := [.ref f]) lk hcd S (h.lam l).1 I1.env0 (by
      have b := bd s' [.ref f] I1.kIn (by rw [tk1]; rfl)
      rwa [List.append_nil] at b) (.cons rfl .nil) (by rw [tk1]; rfl) fun hr' => ?_
    have hZ := XOk.hr (s := s') (H := H1) (x := hd.name) (g := g) (cdv := cdv) h l S hx
    have act' : ∀ (W : WX) (pn : List (Addr × Obj)) (xe : Value → Shared → Prop) (E : XK), Takes ((cxOf CX0 X.prog X.w X.K X.mg X.base hd.N hd.name (defScope st) g cdv X.A X.stack s' H1 E0).nox.tr pn xe) W → (∀ cls d σ' H', E cls d H' → W cls d σ' H') → ∀ (a : Str) (p1 p2 : Pos), nmV (hcz hd (defScope st) xcs) 0 a = true →
        PE ((cxOf CX0 X.prog X.w X.K X.mg X.base hd.N hd.name (defScope st) g cdv X.A X.stack s' H1 E0).nox.tr pn xe) (.Call (.Name a p1) [] [] p2) (fun z G Q => z[0]? = some (some (.ref f)) ∧ G c' = some (LamX.CodeO c' (X.env.qual ++ "<lambda>")) ∧ tb E σ G Q) := by
      intro W pn xe E tk hW a p1 p2 m
      simp only [nmV, Bool.and_eq_true, decide_eq_true_eq] at m
      obtain ⟨m1, m2, m3⟩ := m
      simp only [dn, Bool.and_eq_true, Bool.not_eq_true'] at m3
      have hv : Vis (defScope st) a := by
        unfold vis at m2
        unfold Vis
        split at m2
        · exact .inl (by assumption)
        · exact .inr (.inl (by assumption))
        · exact .inr (.inr (by assumption))
        · cases m2
      exact actD (k := 2) (pm := pm) (ctv := ctv) I1 hy L nN hof nf nfr htt htn htr tk hW hr' (fun s1 H2 => pb _ s1 H2 E f c') m1 hv m3.1 m3.2
    have fin : ∀ {ss : List Stmt} (σ1 : L2.St), mHr (hcz hd (defScope st) xcs) hd ss = true → ∃ t, PSs (cxOf CX0 X.prog X.w X.K X.mg X.base hd.N hd.name (defScope st) g cdv X.A X.stack s' H1 E0).nox ss t ∧ (σ1.length = hd.N.length → σ1[0]? = some (some (.ref f)) → t { nx := fun _ H' => Q .non H', rt := Q } σ1 H1) := fun {ss} σ1 m => by
      obtain ⟨t, p1, q1⟩ := hr_body hZ rfl rfl m ck2 act'
      exact ⟨t, p1, fun e1 e2 => q1 Q ds G r σ1 H1 cm e1 sm dr (fun E Q' k => ⟨e2, hco, w2 E Q' k⟩) w1⟩
    have s0 : (L2.start hd.N [V.ref f])[0]? = some (some (.ref f)) := rfl
    have sl : (L2.start hd.N [V.ref f]).length = hd.N.length := by
      unfold L2.start
      rw [List.length_append, List.length_map, List.length_replicate]
      simp
      omega
    unfold mHear at ck3
    split at ck3
    · split at ck3
      · rename_i r0 p1 j p2 p3 ss e0
        simp only [Bool.and_eq_true, decide_eq_true_eq] at ck3
        obtain ⟨c1, c2, c3⟩ := ck3
        obtain ⟨lo1, lo2⟩ := loc_ok hZ c2
        obtain ⟨t, p4, q4⟩ := fin ((L2.start hd.N [V.ref f]).set 1 (some .non)) c3
        rw [e0]
        refine ⟨_, (pss_cons (ps_set (pos := p3) hZ.nd c1 lo1 (pe_non (j := j) (pos := p2)) rfl lo2) p4).nox, ?_⟩
        exact q4 (by rw [List.length_set]; exact sl) (by rw [List.getElem?_set_ne (by decide)]; exact s0)
      · cases ck3
    · obtain ⟨t, p4, q4⟩ := fin (L2.start hd.N [V.ref f]) ck3
      exact ⟨t, p4.nox, q4 sl s0⟩
  refine wpAny_call (codeAny_mono rc fun r s2 hq => ?_)
  cases r with
  | error e => exact (show False from hq).elim
  | ok fl =>
    cases fl with
    | ret u => exact I1.after hq
    | next => exact False.elim hq
    | brk => exact False.elim hq
    | cont => exact False.elim hq
theorem se_heardD {y : Str} {p0' p1' : Pos} {di : Int} {dj : Nat} {p lpos pos : Pos} {n : Str} {body : Expr} {scope : Scope} {hd : HDef} {fr : List Nat} {fb : Env → M D} (h : XOk C T X) (l : C.lam = true) (hf : HdF X.K X.mg hd) (en : n = hd.name) (hg : gl C n = true) (hdb : (n == ("__debug__" : Str)) = false)
    (hy : y = ("x" : Str) ∨ y = ("y" : Str)) (L : lamS1B C.sc scope y = true) (nN : y ∉ C.N) (ho : ∀ j ∈ fr, j ∉ C.own) (hb : ∀ X', XOk (C.lm scope) T X' → SE (C.lm scope) X' body fb) :
    SE C X (.Call (.Name n p) [.Lambda (pD y p0' di dj p1') body scope lpos] [] pos) fun env => hearD hd (fb (pick fr 0 env)) := by
  obtain ⟨r4, ⟨c, P, hc, TB, hP, hU⟩, _⟩ := h.lam l
  have B := fun e s1 H1 E f c' => hb _ (h.lm0 l scope e s1 H1 E f c')
  let tb : LamR := fun E σ H Q => ∀ e s1 H1 f c', (B e s1 H1 E f c').choose σ H Q
  have pb : ∀ (e : PySem.Env) (s1 : Shared) (H1 : Hp) (E : XK) (f c' : Addr), PE (LamX.lamCx X (X.A.deeper e) (e :: X.stack) s1 H1 E scope f c') body (tb E) := fun e s1 H1 E f c' => ⟨fun pins s σ H Q I w => (B e s1 H1 E f c').choose_spec.1.run pins s σ H Q I (w e s1 H1 f c')⟩
  refine ⟨_, pe_hearD h l hf en hg hdb hy (by rw [h.sc]; exact lamS1_by L) (by rw [h.N]; exact nN) TB hc pb, fun env ds G r σ H Q S w => ?_⟩
  refine ⟨S.drw.2.1 _ hP, fun H1 mk t1 => ?_⟩
  have n := nx_mk S.sub S.drw mk t1 hP hU
  refine ⟨fb (pick fr 0 env), ds, G, r, n.s, n.d, ?_, fun E Q' k e s1 HZ f c' => ?_⟩
  · rcases wpX_cases w with ⟨d, ds', e, k⟩ | ⟨x, s9, e, _⟩
    · rw [show hearD hd (fb (pick fr 0 env)) ds = .ok d ds' from e]
      exact fun v G' r' H' n2 q => k v G' r' H' (n.trans n2) q
    · exact absurd e hearD_nx
  · refine (B e s1 HZ E f c').choose_spec.2 (pick fr 0 env) ds G r σ H1 Q' ((n.sim S).lam0 ho) (wpX_mono k (fun _ _ z => z) fun x s z cls d G' r' H' n2 v => ?_)
    exact le_wX (takes_of rfl rfl rfl rfl) (z cls d G' r' H' n2 v)
end
end Ev

end
section
set_option maxHeartbeats 8000000
/-! # Ev12: the look at an expression, and that the evaluator is right where the look says yes -/
namespace Ev
open PySem PySem.Spec L2
variable [TabsC]
def mV (C : Cz) : E → Expr → Bool
  | .v i, .Name n _ => nmV C i n
  | _, _ => false
def opB (o : Bo) (op : Operator) : Bool := decide (boOp o = op)
def coB (o : Co) (op : CmpOp) : Bool := decide (coOp o = op)
def kB : D → Const → Bool
  | .none, .none => true
  | .bool b, .bool c => b == c
  | .int i, .int j => i == j
  | .str x, .str y => decide (x = y)
  | _, _ => false
def notSet : Expr → Bool
  | .Set _ _ _ => false
  | _ => true
def isTup : Expr → Bool
  | .Tuple _ _ _ => true
  | _ => false
/-- the names that a target stores, with their places -/
def tgN (C : Cz) (is : List Nat) : List (Str × Nat) := is.map fun i => (C.N.getD i "", i)
mutual
def mE (C : Cz) : E → Expr → Bool
  | .v i, x => match x with
    | .Name n _ => nmV C i n && !(C.own.contains i)
    | _ => false
  | .k d, x => match x with
    | .Constant c _ _ => kB d c
    | _ => false
  | .g i, x => match x with
    | .Name n _ => decide (C.cns[i]? = some n) && (gl C n && dn n)
    | _ => false
  | .bin o a b, x => match x with
    | .BinOp xa op xb _ => opB o op && ((mV C a xa || mE C a xa) && (mV C b xb || mE C b xb))
    | _ => false
  | .neg a, x => match x with
    | .UnaryOp .USub xa _ => mE C a xa
    | _ => false
  | .not a, x => match x with
    | .UnaryOp .Not xa _ => mE C a xa
    | _ => false
  | .and a es, x => match x with
    | .BoolOp .And (xa :: xs) _ => mE C a xa && mEs C es xs
    | _ => false
  | .or a es, x => match x with
    | .BoolOp .Or (xa :: xs) _ => mE C a xa && mEs C es xs
    | _ => false
  | .cmp o a b, x => match x with
    | .Compare xa [op] [xb] _ => coB o op && (notSet xb && ((mV C a xa || mE C a xa) && (mV C b xb || mE C b xb)))
    | _ => false
  | .chain o o' a b c, x => match x with
    | .Compare xa [op, op'] [xb, xc] _ => coB o op && (coB o' op' && (notSet xc && ((mV C a xa || mE C a xa) && ((mV C b xb || mE C b xb) && (mV C c xc || mE C c xc)))))
    | _ => false
  | .ife c a b, x => match x with
    | .IfExp xc xa xb _ => mE C c xc && (mE C a xa && mE C b xb)
    | _ => false
  | .tup es, x => match x with
    | .Tuple xs _ _ => mEs C es xs
    | _ => false
  | .lst es, x => match x with
    | .List xs _ => mEs C es xs
    | _ => false
  | .ix a i, x => match x with
    | .Subscript xa xi _ => (mV C a xa || mE C a xa) && (mE C i xi && plx xi)
    | _ => false
  | .sl a lo hi, x => match x with
    | .Subscript xa (.Slice xl xh none _) _ => (mV C a xa || mE C a xa) && ((match xl with
      | none => isNo lo
      | some xl => !(isNo lo) && mE C lo xl) && (match xh with
      | none => isNo hi
      | some xh => !(isNo hi) && mE C hi xh))
    | _ => false
  | .rev a, x => match x with
    | .Subscript xa (.Slice none none (some (.UnaryOp .USub (.Constant (.int i) _ _) _)) _) _ => decide (i = 1) && (mV C a xa || mE C a xa)
    | _ => false
  | .emp, x => match x with
    | .Dict [] [] _ => true
    | _ => false
  | .lrg a b, x => match x with
    | .Call (.Name l _) [.Call (.Name n _) [xa, xb] [] _] [] _ => decide (l = "list") && (decide (n = "range") && (gl C l && (gl C n && (nst xa && (nst xb && (mE C a xa && mE C b xb))))))
    | _ => false
  | .lrg1 a, x => match x with
    | .Call (.Name l _) [.Call (.Name n _) [xa] [] _] [] _ => decide (l = "list") && (decide (n = "range") && (gl C l && (gl C n && (nst xa && mE C a xa))))
    | _ => false
  | .callL j es, x => match x with
    | .Call (.Name n _) xs [] _ => (match C.fns[j]? with
      | some (y, ps, pat) => decide (y = n) && (gl C n && (dn n && (mOs C es xs && !(xs.isEmpty))))
      | none => false)
    | _ => false
  | .sset a, x => match x with
    | .Call (.Name l _) [.Call (.Name n _) [xa] [] _] [] _ => decide (l = "sorted") && (decide (n = "set") && (gl C l && (gl C n && (nst xa && mE C a xa))))
    | _ => false
  | .srt a, x => match x with
    | .Call (.Name l _) [xa] [] _ => decide (l = "sorted") && (gl C l && (nst xa && mE C a xa))
    | _ => false
  | .skey a fr i b, x => match x with
    | .Call (.Name l _) [xa] [⟨some kn, .Lambda ⟨[], [⟨y, none, _⟩], none, [], [], none, []⟩ xb scope _, _⟩] _ => decide (l = "sorted") && (decide (kn = "key") && (C.lam && (gl C l && (nst xa && (lamNm y && (decide (C.N[i]? = some y) && (lamS1B C.sc scope y && (fr.all (fun j => !(C.own.contains j)) && (mE C a xa && mE (C.lm scope) b xb)))))))))
    | _ => false
  | .heard j fr e, x => match x with
    | .Call (.Name n _) [.Lambda ⟨[], [], none, [], [], none, []⟩ xb scope _] [] _ => (match C.hns[j]? with
      | some hd => decide (hd.name = n) && (gl C n && (dn n && (C.lam && (LamX.lamSB C.sc scope && (fr.all (fun k => !(C.own.contains k)) && mE (C.lm scope) e xb)))))
      | none => false)
    | .Call (.Name n _) [.Lambda ⟨[], [⟨y, none, _⟩], none, [], [], none, [.Constant (.int _) _ _]⟩ xb scope _] [] _ => (match C.hns[j]? with
      | some hd => decide (hd.name = n) && (gl C n && (dn n && (C.lam && ((decide (y = "x") || decide (y = "y")) && (lamS1B C.sc scope y && (!(C.N.contains y) && (fr.all (fun k => !(C.own.contains k)) && mE (C.lm scope) e xb)))))))
      | none => false)
    | _ => false
  | .fn j, x => match x with
    | .Name n _ => (match C.fns[j]? with
      | some (y, ps, pat) => decide (y = n) && (gl C n && dn n)
      | none => false)
    | _ => false
  | .callV i es, x => match x with
    | .Call (.Name n _) xs [] _ => nmV C i n && (!(C.own.contains i) && (mEs C es xs && !(xs.isEmpty)))
    | _ => false
  | .callW i es ps ks, x => match x with
    | .Call (.Name n _) xs (k0 :: k1) _ => nmV C i n && (!(C.own.contains i) && (mEs C es xs && mKs C ps ks (k0 :: k1)))
    | _ => false
  | .no, _ => false
  | .call j es ks, x => match x with
    | .Call (.Name n _) xs kws _ => (match C.fns[j]? with
      | some (y, ps, pat) => decide (y = n) && (gl C n && (dn n && (mEs C es xs && (mKs C ps ks kws && ((match kws with
        | [] => true
        | _ :: _ => pat.contains (esL es, kjs ks)))))))
      | none => false)
    | _ => false
  | .bi f es, x => match x with
    | .Call (.Name n _) xs [] _ => decide (biN f = n) && (gl C n && ((decide (f = .gcd) → C.gcd) && (mOs C es xs && !(xs.isEmpty))))
    | _ => false
  | .isi t a, x => match x with
    | .Call (.Name n _) [xa, .Name y _] [] _ => decide (n = "isinstance") && (decide (y = Str.ofString (tyN t)) && (gl C n && (gl C y && ((mV C a xa || mE C a xa) && nst xa))))
    | _ => false
  | .lc tg it c e, x => match x with
    | .ListComp xe [⟨xt, xi, ifs, an⟩] scope _ => decide (an = 0) && (notSet xi && (blkC C.N C.sc scope (tgN C (tgS tg)) && (mTg (C.blk scope) tg xt && (mItO C it xt xi && ((match ifs with
      | [] => isNo c
      | [xc] => !(isNo c) && mE (C.blk scope) c xc
      | _ => false) && mE (C.blk scope) e xe)))))
    | _ => false
  | .dAt i, x => match x with
    | .Subscript (.Name n _) (.Constant (.str y) _ _) _ => decide (y = "at") && nmV C i n
    | _ => false
  | .dLen i, x => match x with
    | .Call (.Name l _) [.Subscript (.Name n _) (.Constant (.str y) _ _) _] [] _ => decide (l = "len") && (decide (y = "cells") && (nmV C i n && gl C l))
    | _ => false
  | .dCell i k, x => match x with
    | .Subscript (.Subscript (.Name n _) (.Constant (.str y) _ _) _) (.Name m _) _ => decide (y = "cells") && (nmV C i n && nmV C k m)
    | _ => false
  | .dLeft i k, x => match x with
    | .Subscript (.Subscript (.Name n _) (.Constant (.str y) _ _) _) (.Name m _) _ => decide (y = "lefts") && (nmV C i n && nmV C k m)
    | _ => false
  | .scr i, x => match x with
    | .IfExp (.Compare (.Name n _) [.NotEq] [.List [] _] _) (.Call (.Name l _) [.Name m _] [] _) (.List [.Constant (.int z) _ _] _) _ => decide (n = m) && (decide (z = 0) && (decide (l = "list") && (nmV C i n && gl C l)))
    | _ => false
def mEs (C : Cz) : Es → List Expr → Bool
  | .nil, xs => xs.isEmpty
  | .cons e es, xs => match xs with
    | x :: xs => nst x && (mE C e x && mEs C es xs)
    | [] => false
def mOs (C : Cz) : Es → List Expr → Bool
  | .nil, xs => xs.isEmpty
  | .cons e es, xs => match xs with
    | x :: xs => nst x && ((mV C e x || mE C e x) && mOs C es xs)
    | [] => false
def mKs (C : Cz) (ps : List Str) : Ks → List Keyword → Bool
  | .nil, ks => ks.isEmpty
  | .cons j e ks, xs => match xs with
    | ⟨some n, x, _⟩ :: xs => decide (n = ps.getD j "") && (mE C e x && mKs C ps ks xs)
    | _ => false
def mItO (C : Cz) : It → Expr → Expr → Bool
  | .e a, _, x => mV C a x || mE C a x
  | .r1 a, _, x => match x with
    | .Call (.Name n _) [xa] [] _ => decide (n = "range") && (gl C n && (nst xa && mE C a xa))
    | _ => false
  | .r2 a b, _, x => match x with
    | .Call (.Name n _) [xa, xb] [] _ => decide (n = "range") && (gl C n && (nst xa && (mE C a xa && (nst xb && mE C b xb))))
    | _ => false
  | .r3 a b c, _, x => match x with
    | .Call (.Name n _) [xa, xb, xc] [] _ => decide (n = "range") && (gl C n && (nst xa && (mE C a xa && (nst xb && (mE C b xb && (nst xc && mE C c xc))))))
    | _ => false
  | .zip a b, xt, x => match x with
    | .Call (.Name n _) [xa, xb] [] _ => isTup xt && (decide (n = "zip") && (gl C n && (nst xa && ((mV C a xa || mE C a xa) && (nst xb && (mV C b xb || mE C b xb))))))
    | _ => false
  | .enum a, xt, x => match x with
    | .Call (.Name n _) [xa] [] _ => isTup xt && (decide (n = "enumerate") && (gl C n && (nst xa && (mV C a xa || mE C a xa))))
    | _ => false
end
def mItS (C : Cz) : It → Expr → Expr → Bool
  | .e a, _, x => mE C a x
  | .r1 a, _, x => match x with
    | .Call (.Name n _) [xa] [] _ => decide (n = "range") && (gl C n && (nst xa && mE C a xa))
    | _ => false
  | .r2 a b, _, x => match x with
    | .Call (.Name n _) [xa, xb] [] _ => decide (n = "range") && (gl C n && (nst xa && (mE C a xa && (nst xb && mE C b xb))))
    | _ => false
  | .r3 a b c, _, x => match x with
    | .Call (.Name n _) [xa, xb, xc] [] _ => decide (n = "range") && (gl C n && (nst xa && (mE C a xa && (nst xb && (mE C b xb && (nst xc && mE C c xc))))))
    | _ => false
  | .zip a b, xt, x => match x with
    | .Call (.Name n _) [xa, xb] [] _ => isTup xt && (decide (n = "zip") && (gl C n && (nst xa && (mE C a xa && (nst xb && mE C b xb)))))
    | _ => false
  | .enum a, xt, x => match x with
    | .Call (.Name n _) [xa] [] _ => isTup xt && (decide (n = "enumerate") && (gl C n && (nst xa && mE C a xa)))
    | _ => false
/-- the forms that make a list -/
def freshE : E → Bool
  | .bin _ _ _ => true
  | .lst _ => true
  | .sl _ _ _ => true
  | .rev _ => true
  | .lc _ _ _ _ => true
  | .bi .list _ => true
  | .scr _ => true
  | _ => false
section
variable {C : Cz} {T : Tb} {X : Cx} {x : Expr}
theorem SE.cg {f g : Env → M D} (a : SE C X x f) (e : ∀ env, g env = f env) : SE C X x g := by
  have : g = f := funext e
  rw [this]; exact a
theorem ST.cg {f g : Env → M Bool} (a : ST C X x f) (e : ∀ env, g env = f env) : ST C X x g := by
  have : g = f := funext e
  rw [this]; exact a
theorem SR.cg {f g : Env → M D} (a : SR C X x f) (e : ∀ env, g env = f env) : SR C X x g := by
  have : g = f := funext e
  rw [this]; exact a
theorem SA.cg {xs : List Expr} {f g : Env → M (List D)} (a : SA C X xs f) (e : ∀ env, g env = f env) : SA C X xs g := by
  have : g = f := funext e
  rw [this]; exact a
theorem SAO.cg {xs : List Expr} {f g : Env → M (List D)} (a : SAO C X xs f) (e : ∀ env, g env = f env) : SAO C X xs g := by
  have : g = f := funext e
  rw [this]; exact a
theorem so_of {e : E} (h : XOk C T X) (m : (mV C e x || mE C e x) = true) (ih : mE C e x = true → SE C X x (evE T e)) : SO C X x (evE T e) := by
  by_cases c : mV C e x = true
  · unfold mV at c
    split at c
    · rename_i i n p
      have z := so_v (pos := p) h c
      have q : (evE T (E.v i)) = fun env => lft (getv env i) := by funext env; simp only [evE]
      rw [q]; exact z
    · cases c
  · have : mE C e x = true := by
      rw [Bool.or_eq_true] at m
      exact m.resolve_left c
    exact (ih this).o
theorem notSet_ok {e : Expr} (h : notSet e = true) (env : PySem.Env) : ∀ v, foldedSetIterable e env v = pure v := by
  intro v
  cases e <;> first | rfl | cases h
theorem opB_ok {o : Bo} {op : Operator} (h : opB o op = true) : boOp o = op := of_decide_eq_true h
theorem coB_ok {o : Co} {op : CmpOp} (h : coB o op = true) : coOp o = op := of_decide_eq_true h
theorem co_mark (o : Co) {y : Expr} (h : notSet y = true) : behindInMarks (coOp o) y = false := by
  cases y <;> first | rfl | cases h
theorem co_marks (o o' : Co) (y : Expr) {z : Expr} (h : notSet z = true) : lastMarks [coOp o, coOp o'] [y, z] = false := by
  show behindInMarks (coOp o') z = false
  exact co_mark o' h
end
end Ev

end
section
set_option maxHeartbeats 16000000
/-! # Ev13: the evaluator is right at every expression that the look takes -/
namespace Ev
open PySem PySem.Spec L2
variable [TabsC]
section
variable {C : Cz} {T : Tb} {X : Cx} {x : Expr}
theorem tgN_snd (C : Cz) (is : List Nat) : (tgN C is).map (·.2) = is := by
  unfold tgN
  rw [List.map_map]
  induction is with
  | nil => rfl
  | cons i is ih => rw [List.map_cons, ih]; rfl
theorem se_kB {d : D} {c : Const} {j : Nat} {pos : Pos} (m : kB d c = true) : SE C X (.Constant c j pos) fun _ => ret d := by
  unfold kB at m
  split at m
  · exact se_k pe_non fun G r => .non
  · rw [beq_iff_eq] at m; subst m; exact se_k pe_bl fun G r => .bl _
  · rw [beq_iff_eq] at m; subst m; exact se_k pe_int fun G r => .int _
  · have e := of_decide_eq_true m; subst e; exact se_k pe_str fun G r => .str _
  · cases m
theorem leaf3 {f : Env → M D} {e : E} (hl : leafT x = true) (hf : freshE e = false) (a : SE C X x f) : SE C X x f ∧ ST C X x (asBool f) ∧ (freshE e = true → SR C X x f) :=
  ⟨a, st_leaf hl a, fun z => by rw [hf] at z; cases z⟩
theorem bi_form {es : List D} {d : D} (e : biD .list es = some d) : ∃ fs, d = .list fs := by
  unfold biD at e
  split at e <;> first | (cases e; exact ⟨_, rfl⟩) | (rename_i z; cases z) | (cases e)
theorem fresh3 {f : Env → M D} {e : E} (hl : leafT x = true) (a : SR C X x f) (hf : ∀ env ds, wpX ExT (f env ds) (fun _ _ => True) → wpX ExT (f env ds) fun d _ => ∃ es, d = .list es) : SE C X x f ∧ ST C X x (asBool f) ∧ (freshE e = true → SR C X x f) :=
  ⟨a.e hf, st_leaf hl (a.e hf), fun _ => a⟩
theorem evEs_len : ∀ (es : Es) (env : Env) (ds : Option DS), wpX ExT (evEs T es env ds) (fun _ _ => True) → wpX ExT (evEs T es env ds) fun ys _ => ys.length = esL es
  | .nil, env, ds, _ => by simp only [evEs]; rfl
  | .cons e es, env, ds, w => by
    simp only [evEs] at w ⊢
    refine wpX_bnd.mpr (wpX_mono (wpX_bnd.mp w) fun d ds1 w1 => ?_)
    rcases wpX_cases (wpX_bnd.mp w1) with ⟨ys, ds2, e2, _⟩ | ⟨x2, s2, e2, _⟩
    rotate_left
    · refine wpX_bnd.mpr ?_
      rw [e2]
      trivial
    have z := evEs_len es env ds1 (by rw [e2]; trivial)
    refine wpX_bnd.mpr ?_
    rw [e2] at z ⊢
    show (d :: ys).length = _
    rw [List.length_cons, z, esL]
theorem evKs_js : ∀ (ks : Ks) (env : Env) (ds : Option DS), wpX ExT (evKs T ks env ds) (fun _ _ => True) → wpX ExT (evKs T ks env ds) fun kv _ => ∃ es, kv = (kjs ks).zip es ∧ es.length = (kjs ks).length
  | .nil, env, ds, _ => by simp only [evKs]; exact ⟨[], rfl, rfl⟩
  | .cons j e ks, env, ds, w => by
    simp only [evKs] at w ⊢
    refine wpX_bnd.mpr (wpX_mono (wpX_bnd.mp w) fun d ds1 w1 => ?_)
    rcases wpX_cases (wpX_bnd.mp w1) with ⟨kv, ds2, e2, _⟩ | ⟨x2, s2, e2, _⟩
    rotate_left
    · refine wpX_bnd.mpr ?_
      rw [e2]
      trivial
    have z := evKs_js ks env ds1 (by rw [e2]; trivial)
    refine wpX_bnd.mpr ?_
    rw [e2] at z ⊢
    obtain ⟨es, q, l⟩ := z
    exact ⟨d :: es, by rw [q]; rfl, by rw [List.length_cons, l]; rfl⟩
theorem scr3 {i : Nat} (s1 : SR C X x (evE T (.scr i))) : SE C X x (evE T (.scr i)) ∧ ST C X x (asBool (evE T (.scr i))) ∧ (freshE (.scr i) = true → SR C X x (evE T (.scr i))) := by
  have hf : ∀ env ds, wpX ExT (evE T (.scr i) env ds) (fun _ _ => True) → wpX ExT (evE T (.scr i) env ds) fun d _ => ∃ es, d = .list es := fun env ds w => by
    simp only [evE] at w ⊢
    obtain ⟨d, e, _⟩ := wpX_lft w
    rw [e]
    obtain ⟨ns, _, rfl⟩ := Option.map_eq_some_iff.mp e
    exact ⟨_, rfl⟩
  refine ⟨s1.e hf, ⟨fun _ _ _ => False, ⟨fun _ _ _ _ _ _ z => z.elim⟩, fun env ds G r σ H Q S w => ?_⟩, fun _ => s1⟩
  have w0 := wpX_bnd.mp w
  have w9 := w0
  simp only [evE] at w9
  obtain ⟨d, e, w1⟩ := wpX_lft w9
  obtain ⟨ns, _, rfl⟩ := Option.map_eq_some_iff.mp e
  exact w1.elim
end
section
variable {T : Tb}
mutual
theorem sndE : ∀ (e : E) (C : Cz) (X : Cx) (x : Expr), XOk C T X → mE C e x = true → SE C X x (evE T e) ∧ ST C X x (asBool (evE T e)) ∧ (freshE e = true → SR C X x (evE T e))
  | .v i, C, X, x, h, m => by
    cases x with
    | Name n pos =>
      simp only [mE, Bool.and_eq_true, Bool.not_eq_true'] at m
      exact leaf3 rfl rfl ((se_v h m.1 (by simpa using m.2)).cg fun env => by simp only [evE])
    | _ => cases m
  | .k d, C, X, x, h, m => by
    cases x with
    | Constant c j pos => exact leaf3 rfl rfl ((se_kB (by simpa only [mE] using m)).cg fun env => by simp only [evE])
    | _ => cases m
  | .g i, C, X, x, h, m => by
    cases x with
    | Name n pos =>
      simp only [mE, Bool.and_eq_true] at m
      exact leaf3 rfl rfl ((se_g h m.1 m.2.1 m.2.2).cg fun env => by simp only [evE])
    | _ => cases m
  | .bin o a b, C, X, x, h, m => by
    cases x with
    | BinOp xa op xb pos =>
      simp only [mE, Bool.and_eq_true] at m
      obtain ⟨m1, m2, m3⟩ := m
      have e := opB_ok m1
      subst e
      have sa := so_of h m2 fun z => (sndE a C X xa h z).1
      have sb := so_of h m3 fun z => (sndE b C X xb h z).1
      have s1 : SE C X (.BinOp xa (boOp o) xb pos) (evE T (.bin o a b)) := (se_op (boR_ok o) (bo_hr o) sa sb).cg fun env => by simp only [evE]
      exact ⟨s1, st_leaf rfl s1, fun _ => (sr_op (boR_ok o) (bo_list o) sa sb).cg fun env => by simp only [evE]⟩
    | _ => cases m
  | .neg a, C, X, x, h, m => by
    cases x with
    | UnaryOp op xa pos =>
      cases op with
      | USub => exact leaf3 rfl rfl ((se_neg (sndE a C X xa h (by simpa only [mE] using m)).1).cg fun env => by simp only [evE])
      | _ => cases m
    | _ => cases m
  | .not a, C, X, x, h, m => by
    cases x with
    | UnaryOp op xa pos =>
      cases op with
      | Not =>
        have z := sndE a C X xa h (by simpa only [mE] using m)
        exact ⟨(se_not z.1).cg fun env => by simp only [evE], (st_not z.2.1).cg fun env => by simp only [evE, asBool], fun z => by cases z⟩
      | _ => cases m
    | _ => cases m
  | .and a es, C, X, x, h, m => by
    cases x with
    | BoolOp op vs pos =>
      cases op with
      | And =>
        cases vs with
        | nil => cases m
        | cons xa xs =>
          simp only [mE, Bool.and_eq_true] at m
          have z := sndE a C X xa h m.1
          have q := sndAnd es C X xs h m.2 xa (evE T a) pos z.1 z.2.1
          exact ⟨q.1.cg fun env => by simp only [evE], q.2.st.cg fun env => by simp only [evE, asBool], fun z => by cases z⟩
      | _ => cases m
    | _ => cases m
  | .or a es, C, X, x, h, m => by
    cases x with
    | BoolOp op vs pos =>
      cases op with
      | Or =>
        cases vs with
        | nil => cases m
        | cons xa xs =>
          simp only [mE, Bool.and_eq_true] at m
          have z := sndE a C X xa h m.1
          have q := sndOr es C X xs h m.2 xa (evE T a) pos z.1 z.2.1
          exact ⟨q.1.cg fun env => by simp only [evE], q.2.st.cg fun env => by simp only [evE, asBool], fun z => by cases z⟩
      | _ => cases m
    | _ => cases m
  | .cmp o a b, C, X, x, h, m => by
    have hu : X.A.units + 64 < cLine := h.room.units
    cases x with
    | Compare xa ops cs pos =>
      simp only [mE] at m
      split at m
      · rename_i _ xa' op xb p' e
        cases e
        simp only [Bool.and_eq_true] at m
        obtain ⟨m1, mn, m2, m3⟩ := m
        have e := coB_ok m1
        subst e
        have sa := so_of h m2 fun z => (sndE a C X _ h z).1
        have sb := so_of h m3 fun z => (sndE b C X _ h z).1
        exact ⟨(se_cmp (coR_ok hu o) (co_hr o) (co_mark o mn) sa sb).cg fun env => by simp only [evE], (st_cmp hu (co_mark o mn) sa sb).cg fun env => by simp only [evE, asBool], fun z => by cases z⟩
      · cases m
    | _ => cases m
  | .chain o o' a b c, C, X, x, h, m => by
    have hu : X.A.units + 64 < cLine := h.room.units
    cases x with
    | Compare xa ops cs pos =>
      simp only [mE] at m
      split at m
      · rename_i _ xa' op op' xb xc p' e
        cases e
        simp only [Bool.and_eq_true] at m
        obtain ⟨m1, m1', mn, m2, m3, m4⟩ := m
        have e := coB_ok m1
        have e' := coB_ok m1'
        subst e e'
        have sa := so_of h m2 fun z => (sndE a C X _ h z).1
        have sb := so_of h m3 fun z => (sndE b C X _ h z).1
        have sc := so_of h m4 fun z => (sndE c C X _ h z).1
        exact ⟨(se_chain hu (co_marks o o' _ mn) sa sb sc).cg fun env => by simp only [evE], (st_chain hu (co_marks o o' _ mn) sa sb sc).cg fun env => by simp only [evE, asBool], fun z => by cases z⟩
      · cases m
    | _ => cases m
  | .ife c a b, C, X, x, h, m => by
    cases x with
    | IfExp xc xa xb pos =>
      simp only [mE, Bool.and_eq_true] at m
      obtain ⟨m1, m2, m3⟩ := m
      have zc := sndE c C X xc h m1
      have za := sndE a C X xa h m2
      have zb := sndE b C X xb h m3
      exact ⟨(se_ife zc.2.1 za.1 zb.1).cg fun env => by simp only [evE], (st_ife zc.2.1 za.2.1 zb.2.1).cg fun env => by simp only [evE, asBool], fun z => by cases z⟩
    | _ => cases m
  | .tup es, C, X, x, h, m => by
    cases x with
    | Tuple xs k pos => exact leaf3 rfl rfl ((se_tup (sndEs es C X xs h (by simpa only [mE] using m)).1).cg fun env => by simp only [evE])
    | _ => cases m
  | .lst es, C, X, x, h, m => by
    cases x with
    | List xs pos =>
      refine fresh3 rfl ((sr_lst (sndEs es C X xs h (by simpa only [mE] using m)).1).cg fun env => by simp only [evE]) fun env ds w => ?_
      simp only [evE] at w ⊢
      refine wpX_bnd.mpr (wpX_mono (wpX_bnd.mp w) fun ys ds1 w1 => ?_)
      obtain ⟨d, e, _⟩ := wpX_lft w1
      rw [e]
      split at e
      · cases e; exact ⟨_, rfl⟩
      · cases e
    | _ => cases m
  | .ix a i, C, X, x, h, m => by
    cases x with
    | Subscript xa xi pos =>
      simp only [mE, Bool.and_eq_true] at m
      obtain ⟨m1, m2, m3⟩ := m
      have sa := so_of h m1 fun z => (sndE a C X xa h z).1
      have si := (sndE i C X xi h m2).1
      exact leaf3 rfl rfl ((se_ix (ix_list.or ix_tup) ix_hr (plx_ok m3) sa si.o).cg fun env => by simp only [evE])
    | _ => cases m
  | .sl a lo hi, C, X, x, h, m => by
    cases x with
    | Subscript xa xi pos =>
      simp only [mE] at m
      split at m
      · rename_i _ xa' xl xh p' p2 e
        cases e
        simp only [Bool.and_eq_true] at m
        obtain ⟨m1, m2, m3⟩ := m
        have sa := so_of h m1 fun z => (sndE a C X _ h z).1
        have sl : SP' C X xl fun env => if isNo lo then ret none else bnd (evE T lo env) fun y => lft ((asI y).map some) := by
          cases xl with
          | none =>
            have q : isNo lo = true := m2
            simp only [q, if_true]
            exact sp_none
          | some z =>
            have q : isNo lo = false ∧ mE C lo z = true := by simpa using m2
            simp only [q.1, Bool.false_eq_true, if_false]
            exact sp_some (sndE lo C X z h q.2).1
        have sh : SP' C X xh fun env => if isNo hi then ret none else bnd (evE T hi env) fun y => lft ((asI y).map some) := by
          cases xh with
          | none =>
            have q : isNo hi = true := m3
            simp only [q, if_true]
            exact sp_none
          | some z =>
            have q : isNo hi = false ∧ mE C hi z = true := by simpa using m3
            simp only [q.1, Bool.false_eq_true, if_false]
            exact sp_some (sndE hi C X z h q.2).1
        have s1 : SE C X _ (evE T (.sl a lo hi)) := (se_sl (pos := pos) (p2 := p') sa sl sh).cg fun env => by simp only [evE]
        exact ⟨s1, st_leaf rfl s1, fun _ => (sr_sl (pos := pos) (p2 := p') sa sl sh).cg fun env => by simp only [evE]⟩
      · cases m
    | _ => cases m
  | .rev a, C, X, x, h, m => by
    cases x with
    | Subscript xa xi pos =>
      simp only [mE] at m
      split at m
      · rename_i e
        cases e
        simp only [Bool.and_eq_true, decide_eq_true_eq] at m
        obtain ⟨m0, m1⟩ := m
        subst m0
        have sa := so_of h m1 fun z => (sndE a C X _ h z).1
        exact ⟨(se_rev sa).cg fun env => by simp only [evE], st_leaf rfl ((se_rev sa).cg fun env => by simp only [evE]), fun _ => (sr_rev sa).cg fun env => by simp only [evE]⟩
      · cases m
    | _ => cases m
  | .emp, C, X, x, h, m => by
    cases x with
    | Dict ks vs pos =>
      simp only [mE] at m
      split at m
      · rename_i e
        cases e
        exact leaf3 rfl rfl (se_emp.cg fun env => by simp only [evE])
      · cases m
    | _ => cases m
  | .lrg a b, C, X, x, h, m => by
    cases x with
    | Call fx xs kws pos =>
      simp only [mE] at m
      split at m
      · rename_i e
        cases e
        simp only [Bool.and_eq_true, decide_eq_true_eq] at m
        obtain ⟨m1, m2, m3, m4, m5, m6, m7, m8⟩ := m
        subst m1 m2
        exact leaf3 rfl rfl ((se_lrg h.calm (gl_ok h m3) (h.bl _ (by decide +kernel)) (gl_ok h m4) (h.bl _ (by decide +kernel)) m5 m6 (sndE a C X _ h m7).1 (sndE b C X _ h m8).1).cg fun env => by simp only [evE])
      · cases m
    | _ => cases m
  | .lrg1 a, C, X, x, h, m => by
    cases x with
    | Call fx xs kws pos =>
      simp only [mE] at m
      split at m
      · rename_i e
        cases e
        simp only [Bool.and_eq_true, decide_eq_true_eq] at m
        obtain ⟨m1, m2, m3, m4, m5, m7⟩ := m
        subst m1 m2
        exact leaf3 rfl rfl ((se_lrg1 h.calm (gl_ok h m3) (h.bl _ (by decide +kernel)) (gl_ok h m4) (h.bl _ (by decide +kernel)) m5 (sndE a C X _ h m7).1).cg fun env => by simp only [evE])
      · cases m
    | _ => cases m
  | .skey a fr i b, C, X, x, h, m => by
    cases x with
    | Call fx xs kws pos =>
      simp only [mE] at m
      split at m
      · rename_i e
        cases e
        simp only [Bool.and_eq_true, decide_eq_true_eq] at m
        obtain ⟨m1, m2, m3, m4, m5, m6, m7, m8, m9, m10, m11⟩ := m
        subst m1 m2
        refine leaf3 rfl rfl ((se_skey (fa := evE T a) (fb := evE T b) h m3 m4 m5 (sndE a C X _ h m10).1 m8 m7 m6 (fun j hj => ?_) fun X' h' => (sndE b (C.lm _) X' _ h' m11).1).cg fun env => by simp only [evE] <;> rfl)
        have := List.all_eq_true.mp m9 j hj
        simpa using this
      · cases m
    | _ => cases m
  | .sset a, C, X, x, h, m => by
    cases x with
    | Call fx xs kws pos =>
      simp only [mE] at m
      split at m
      · rename_i e
        cases e
        simp only [Bool.and_eq_true, decide_eq_true_eq] at m
        obtain ⟨m1, m2, m3, m4, m5, m7⟩ := m
        subst m1 m2
        exact leaf3 rfl rfl ((se_sset h.calm (gl_ok h m3) (h.bl _ (by decide +kernel)) (gl_ok h m4) (h.bl _ (by decide +kernel)) m5 (sndE a C X _ h m7).1).cg fun env => by simp only [evE])
      · cases m
    | _ => cases m
  | .srt a, C, X, x, h, m => by
    cases x with
    | Call fx xs kws pos =>
      simp only [mE] at m
      split at m
      · rename_i e
        cases e
        simp only [Bool.and_eq_true, decide_eq_true_eq] at m
        obtain ⟨m1, m3, m5, m7⟩ := m
        subst m1
        exact leaf3 rfl rfl ((se_srt (gl_ok h m3) (h.bl _ (by decide +kernel)) m5 (sndE a C X _ h m7).1.o).cg fun env => by simp only [evE])
      · cases m
    | _ => cases m
  | .no, C, X, x, h, m => by cases x <;> cases m
  | .heard j fr e, C, X, x, h, m => by
    cases x with
    | Call fx xs kws pos =>
      simp only [mE] at m
      split at m
      · rename_i e0
        cases e0
        rw [h.hns] at m
        cases q : T.hs[j]? with
        | none => rw [q] at m; cases m
        | some hd =>
          rw [q] at m
          simp only [Bool.and_eq_true, decide_eq_true_eq] at m
          obtain ⟨m1, m2, m3, m4, m5, m6, m7⟩ := m
          simp only [dn, Bool.and_eq_true, Bool.not_eq_true'] at m3
          refine leaf3 rfl rfl ((se_heard (fb := evE T e) (fr := fr) h m4 (h.hs _ (List.mem_of_getElem? q)) m1.symm m2 m3.1 m5 (fun k hk => ?_) fun X' h' => (sndE e (C.lm _) X' _ h' m7).1).cg fun env => by simp only [evE, q])
          have := List.all_eq_true.mp m6 k hk
          simpa using this
      · rename_i e0
        cases e0
        rw [h.hns] at m
        cases q : T.hs[j]? with
        | none => rw [q] at m; cases m
        | some hd =>
          rw [q] at m
          simp only [Bool.and_eq_true, Bool.or_eq_true, decide_eq_true_eq, Bool.not_eq_true'] at m
          obtain ⟨m1, m2, m3, m4, m8, m5, m9, m6, m7⟩ := m
          simp only [dn, Bool.and_eq_true, Bool.not_eq_true'] at m3
          refine leaf3 rfl rfl ((se_heardD (fb := evE T e) (fr := fr) h m4 (h.hs _ (List.mem_of_getElem? q)) m1.symm m2 m3.1 m8 m5 (by simpa using m9) (fun k hk => ?_) fun X' h' => (sndE e (C.lm _) X' _ h' m7).1).cg fun env => by simp only [evE, q])
          have := List.all_eq_true.mp m6 k hk
          simpa using this
      · cases m
    | _ => cases m
  | .fn j, C, X, x, h, m => by
    cases x with
    | Name n pos =>
      simp only [mE] at m
      rw [h.fns, List.getElem?_map] at m
      cases q : T.fs[j]? with
      | none => rw [q] at m; cases m
      | some fn =>
        rw [q] at m
        simp only [Option.map_some, Bool.and_eq_true, decide_eq_true_eq] at m
        obtain ⟨m1, m2, m3⟩ := m
        simp only [dn, Bool.and_eq_true, Bool.not_eq_true'] at m3
        exact leaf3 rfl rfl ((se_fn h (h.fs j fn q) m1.symm m2 m3.1).cg fun env => by simp only [evE, q] <;> rfl)
    | _ => cases m
  | .callV i es, C, X, x, h, m => by
    cases x with
    | Call fx xs kws pos =>
      simp only [mE] at m
      split at m
      · rename_i e0
        cases e0
        simp only [Bool.and_eq_true] at m
        obtain ⟨m1, m2, m3, m4⟩ := m
        have sx := sndEs es C X xs h m3
        have hi : i ∉ C.own := by simpa using m2
        cases xs with
        | nil => cases m4
        | cons y ys => exact leaf3 rfl rfl ((se_callV h m1 hi sx.2 sx.1).cg fun env => by simp only [evE] <;> rfl)
      · cases m
    | _ => cases m
  | .callW i es ps ks, C, X, x, h, m => by
    cases x with
    | Call fx xs kws pos =>
      simp only [mE] at m
      split at m
      · rename_i k0 k1 pos0 e0
        cases e0
        simp only [Bool.and_eq_true] at m
        obtain ⟨m1, m2, m3, m4⟩ := m
        have sx := sndEs es C X xs h m3
        have hi : i ∉ C.own := by simpa using m2
        have sk := sndKs ks ps C X (k0 :: k1) h m4
        refine leaf3 rfl rfl ((se_callW h m1 hi sx.2 sk.2 (evEs_len es) (evKs_js ks) (fun _ => sx.1) (fun z => ?_) sk.1).cg fun env => by simp only [evE] <;> rfl)
        subst z
        cases es with
        | nil => funext env; simp only [evEs]
        | cons => cases m3
      · cases m
    | _ => cases m
  | .callL j es, C, X, x, h, m => by
    cases x with
    | Call fx xs kws pos =>
      simp only [mE] at m
      split at m
      · rename_i e0
        cases e0
        rw [h.fns, List.getElem?_map] at m
        cases q : T.fs[j]? with
        | none => rw [q] at m; cases m
        | some fn =>
          rw [q] at m
          simp only [Option.map_some, Bool.and_eq_true, decide_eq_true_eq] at m
          obtain ⟨m1, m2, m3, m4, m5⟩ := m
          have hf := h.fs j fn q
          simp only [dn, Bool.and_eq_true, Bool.not_eq_true'] at m3
          have sx := sndOs es C X xs h m4
          cases xs with
          | nil => cases m5
          | cons y ys => exact leaf3 rfl rfl ((se_callL h hf m1.symm m2 m3.1 sx.2 sx.1).cg fun env => by simp only [evE, q])
      · cases m
    | _ => cases m
  | .call j es ks, C, X, x, h, m => by
    cases x with
    | Call fx xs kws pos =>
      cases fx with
      | Name n p =>
        simp only [mE] at m
        rw [h.fns, List.getElem?_map] at m
        cases q : T.fs[j]? with
        | none => rw [q] at m; cases m
        | some fn =>
          rw [q] at m
          simp only [Option.map_some, Bool.and_eq_true, decide_eq_true_eq] at m
          obtain ⟨m1, m2, m3, m4, m5, m6⟩ := m
          have hf := h.fs j fn q
          simp only [dn, Bool.and_eq_true, Bool.not_eq_true'] at m3
          have sx := sndEs es C X xs h m4
          cases kws with
          | nil =>
            have ek : ks = .nil := by cases ks with
              | nil => rfl
              | cons => cases m5
            subst ek
            cases xs with
            | nil =>
              have el : es = .nil := by cases es with
                | nil => rfl
                | cons => cases m4
              subst el
              exact leaf3 rfl rfl ((se_call0 h hf m1.symm m2 m3.1).cg fun env => by simp only [evE, evEs, evKs, q])
            | cons y ys =>
              exact leaf3 rfl rfl ((se_call h hf m1.symm m2 m3.1 sx.2 sx.1).cg fun env => by simp only [evE, evKs, q])
          | cons k0 k1 =>
            have hm : (esL es, kjs ks) ∈ fn.kws := by simpa using m6
            have sk := sndKs ks fn.ps C X (k0 :: k1) h m5
            refine leaf3 rfl rfl ((se_callK h hf m1.symm m2 m3.1 sx.2 hm sk.2 (evEs_len es) (evKs_js ks) (fun _ => sx.1) (fun z => ?_) sk.1).cg fun env => by simp only [evE, q])
            subst z
            cases es with
            | nil => funext env; simp only [evEs]
            | cons => cases m4
      | _ => cases m
    | _ => cases m
  | .bi f es, C, X, x, h, m => by
    cases x with
    | Call fx xs kws pos =>
      cases fx with
      | Name n p =>
        cases kws with
        | nil =>
          simp only [mE, Bool.and_eq_true, decide_eq_true_eq] at m
          obtain ⟨m1, m2, m3, m4, m5⟩ := m
          subst m1
          have sx := sndOs es C X xs h m4
          cases xs with
          | nil => cases m5
          | cons y ys =>
            by_cases c : f = .list
            · subst c
              refine fresh3 rfl ((sr_bi h m2 sx.2 sx.1).cg fun env => by simp only [evE]) fun env ds w => ?_
              simp only [evE] at w ⊢
              refine wpX_bnd.mpr (wpX_mono (wpX_bnd.mp w) fun zs ds1 w1 => ?_)
              obtain ⟨d, e, _⟩ := wpX_lft w1
              rw [e]
              exact bi_form e
            · refine leaf3 rfl (by cases f <;> first | rfl | exact absurd rfl c) ((se_bi h f (fun z => ?_) c m2 sx.2 sx.1).cg fun env => by simp only [evE])
              simpa [z] using m3
        | cons => cases m
      | _ => cases m
    | _ => cases m
  | .isi t a, C, X, x, h, m => by
    cases x with
    | Call fx xs kws pos =>
      simp only [mE] at m
      split at m
      · rename_i _ n p xa y p2 pos' e
        cases e
        simp only [Bool.and_eq_true, decide_eq_true_eq] at m
        obtain ⟨m1, m2, m3, m4, m5, m6⟩ := m
        subst m1 m2
        have sa := so_of h m5 fun z => (sndE a C X _ h z).1
        exact leaf3 rfl rfl ((se_isi h m3 m4 m6 sa).cg fun env => by simp only [evE])
      · cases m
    | _ => cases m
  | .lc tg it c e, C, X, x, h, m => by
    cases x with
    | ListComp xe gs scope pos =>
      simp only [mE] at m
      split at m
      · rename_i _ xe' xt xi ifs an scope' pos' eq
        cases eq
        simp only [Bool.and_eq_true, decide_eq_true_eq] at m
        obtain ⟨m0, m1, m2, m3, m4, m5, m6⟩ := m
        subst m0
        have si := sndItO it C X xt xi h m4
        have sc : ∀ X', XOk (C.blk scope) T X' → STs (C.blk scope) X' ifs fun env => if isNo c then ret true else bnd (evE T c env) fun y => lft (asB y) := fun X' h' => by
          cases ifs with
          | nil =>
            have q : isNo c = true := m5
            simp only [q, if_true]
            exact sts_nil
          | cons xc r =>
            cases r with
            | nil =>
              have q : isNo c = false ∧ mE (C.blk scope) c xc = true := by simpa using m5
              simp only [q.1, Bool.false_eq_true, if_false]
              exact sts_one (sndE c (C.blk scope) X' xc h' q.2).2.1
            | cons => cases m5
        have s1 := sr_lc (pos := pos) h si (notSet_ok m1 X.env) m2 (tgN_snd C (tgS tg)) m3 sc fun X' h' => (sndE e (C.blk scope) X' xe h' m6).1
        refine fresh3 rfl (s1.cg fun env => by simp only [evE, lcF]) fun env ds w => ?_
        simp only [evE] at w ⊢
        refine wpX_bnd.mpr (wpX_mono (wpX_bnd.mp w) fun zs ds1 w1 => ?_)
        refine wpX_bnd.mpr (wpX_mono (wpX_bnd.mp w1) fun ys ds2 w2 => ?_)
        obtain ⟨d, e, _⟩ := wpX_lft w2
        rw [e]
        split at e
        · cases e; exact ⟨_, rfl⟩
        · cases e
      · cases m
    | _ => cases m
  | .dAt i, C, X, x, h, m => by
    simp only [mE] at m
    split at m
    · simp only [Bool.and_eq_true, decide_eq_true_eq] at m
      obtain ⟨m1, m2⟩ := m
      subst m1
      exact leaf3 rfl rfl ((se_dAt h m2).cg fun env => by simp only [evE])
    · cases m
  | .dLen i, C, X, x, h, m => by
    simp only [mE] at m
    split at m
    · simp only [Bool.and_eq_true, decide_eq_true_eq] at m
      obtain ⟨m1, m2, m3, m4⟩ := m
      subst m1 m2
      exact leaf3 rfl rfl ((se_dLen h m3 m4).cg fun env => by simp only [evE])
    · cases m
  | .dCell i k, C, X, x, h, m => by
    simp only [mE] at m
    split at m
    · simp only [Bool.and_eq_true, decide_eq_true_eq] at m
      obtain ⟨m1, m2, m3⟩ := m
      subst m1
      exact leaf3 rfl rfl ((se_dCell h m2 m3).cg fun env => by simp only [evE])
    · cases m
  | .dLeft i k, C, X, x, h, m => by
    simp only [mE] at m
    split at m
    · simp only [Bool.and_eq_true, decide_eq_true_eq] at m
      obtain ⟨m1, m2, m3⟩ := m
      subst m1
      exact leaf3 rfl rfl ((se_dLeft h m2 m3).cg fun env => by simp only [evE])
    · cases m
  | .scr i, C, X, x, h, m => by
    simp only [mE] at m
    split at m
    · simp only [Bool.and_eq_true, decide_eq_true_eq] at m
      obtain ⟨m1, m2, m3, m4, m5⟩ := m
      subst m1 m2 m3
      exact scr3 ((sr_scr h m4 m5).cg fun env => by simp only [evE])
    · cases m
theorem sndAnd : ∀ (es : Es) (C : Cz) (X : Cx) (xs : List Expr), XOk C T X → mEs C es xs = true → ∀ (xa : Expr) (f : Env → M D) (pos : Pos), SE C X xa f → ST C X xa (asBool f) →
    SE C X (.BoolOp .And (xa :: xs) pos) (fun env => bnd (f env) fun x => evAnd T es x env) ∧ SW C X (.BoolOp .And (xa :: xs) pos) (asBool fun env => bnd (f env) fun x => evAnd T es x env)
  | .nil, C, X, xs, h, m, xa, f, pos, a, b => by
    cases xs with
    | nil =>
      have e : (fun env => bnd (f env) fun x => evAnd T .nil x env) = fun env => bnd (f env) fun x => ret x := by funext env; simp only [evAnd]
      rw [e]
      exact ⟨se_and1 a, sw_and1 b⟩
    | cons => cases m
  | .cons e es, C, X, xs, h, m, xa, f, pos, a, b => by
    cases xs with
    | nil => cases m
    | cons y ys =>
      simp only [mEs, Bool.and_eq_true] at m
      obtain ⟨m1, m2, m3⟩ := m
      have z := sndE e C X y h m2
      have q := sndAnd es C X ys h m3 y (evE T e) pos z.1 z.2.1
      have e : (fun env => bnd (f env) fun x => evAnd T (.cons e es) x env) = fun env => bnd (f env) fun x => bnd (lft (asB x)) fun t => if t then bnd (evE T e env) fun y => evAnd T es y env else ret (.bool false) := by funext env; simp only [evAnd]
      rw [e]
      exact ⟨se_andS a q.1, sw_andS b q.2⟩
theorem sndOr : ∀ (es : Es) (C : Cz) (X : Cx) (xs : List Expr), XOk C T X → mEs C es xs = true → ∀ (xa : Expr) (f : Env → M D) (pos : Pos), SE C X xa f → ST C X xa (asBool f) →
    SE C X (.BoolOp .Or (xa :: xs) pos) (fun env => bnd (f env) fun x => evOr T es x env) ∧ SW C X (.BoolOp .Or (xa :: xs) pos) (asBool fun env => bnd (f env) fun x => evOr T es x env)
  | .nil, C, X, xs, h, m, xa, f, pos, a, b => by
    cases xs with
    | nil =>
      have e : (fun env => bnd (f env) fun x => evOr T .nil x env) = fun env => bnd (f env) fun x => ret x := by funext env; simp only [evOr]
      rw [e]
      exact ⟨se_or1 a, sw_or1 b⟩
    | cons => cases m
  | .cons e es, C, X, xs, h, m, xa, f, pos, a, b => by
    cases xs with
    | nil => cases m
    | cons y ys =>
      simp only [mEs, Bool.and_eq_true] at m
      obtain ⟨m1, m2, m3⟩ := m
      have z := sndE e C X y h m2
      have q := sndOr es C X ys h m3 y (evE T e) pos z.1 z.2.1
      have e : (fun env => bnd (f env) fun x => evOr T (.cons e es) x env) = fun env => bnd (f env) fun x => bnd (lft (asB x)) fun t => if t then ret (.bool true) else bnd (evE T e env) fun y => evOr T es y env := by funext env; simp only [evOr]
      rw [e]
      exact ⟨se_orS a q.1, sw_orS b q.2⟩
theorem sndEs : ∀ (es : Es) (C : Cz) (X : Cx) (xs : List Expr), XOk C T X → mEs C es xs = true → SA C X xs (evEs T es) ∧ nsts xs = true
  | .nil, C, X, xs, h, m => by
    cases xs with
    | nil => exact ⟨sa_nil.cg fun env => by simp only [evEs], rfl⟩
    | cons => cases m
  | .cons e es, C, X, xs, h, m => by
    cases xs with
    | nil => cases m
    | cons y ys =>
      simp only [mEs, Bool.and_eq_true] at m
      obtain ⟨m1, m2, m3⟩ := m
      have z := sndE e C X y h m2
      have q := sndEs es C X ys h m3
      exact ⟨(sa_cons m1 z.1 q.1).cg fun env => by simp only [evEs], by simp [nsts, m1, q.2]⟩
theorem sndOs : ∀ (es : Es) (C : Cz) (X : Cx) (xs : List Expr), XOk C T X → mOs C es xs = true → SAO C X xs (evEs T es) ∧ nsts xs = true
  | .nil, C, X, xs, h, m => by
    cases xs with
    | nil => exact ⟨so_nil.cg fun env => by simp only [evEs], rfl⟩
    | cons => cases m
  | .cons e es, C, X, xs, h, m => by
    cases xs with
    | nil => cases m
    | cons y ys =>
      simp only [mOs, Bool.and_eq_true] at m
      obtain ⟨m1, m2, m3⟩ := m
      have z := so_of h m2 fun z => (sndE e C X y h z).1
      have q := sndOs es C X ys h m3
      exact ⟨(so_cons m1 z q.1).cg fun env => by simp only [evEs], by simp [nsts, m1, q.2]⟩
theorem sndKs : ∀ (ks : Ks) (ps : List Str) (C : Cz) (X : Cx) (xs : List Keyword), XOk C T X → mKs C ps ks xs = true → SK C X xs (kjs ks) (evKs T ks) ∧ kwN xs = some ((kjs ks).map fun j => ps.getD j "")
  | .nil, ps, C, X, xs, h, m => by
    cases xs with
    | nil =>
      have e : evKs T .nil = fun _ => ret [] := by funext env; simp only [evKs]
      rw [e]
      exact ⟨sk_nil, rfl⟩
    | cons => cases m
  | .cons j e ks, ps, C, X, xs, h, m => by
    cases xs with
    | nil => cases m
    | cons y ys =>
      obtain ⟨nm, y, kp⟩ := y
      cases nm with
      | none => cases m
      | some n =>
        simp only [mKs, Bool.and_eq_true, decide_eq_true_eq] at m
        obtain ⟨m1, m2, m3⟩ := m
        have z := sndE e C X y h m2
        have q := sndKs ks ps C X ys h m3
        have e : evKs T (.cons j e ks) = fun env => bnd (evE T e env) fun d => bnd (evKs T ks env) fun kv => ret ((j, d) :: kv) := by funext env; simp only [evKs]
        rw [e]
        refine ⟨sk_cons z.1 q.1, ?_⟩
        simp only [kwN, q.2, kjs, List.map_cons, m1, Option.map_some]
theorem sndItO : ∀ (it : It) (C : Cz) (X : Cx) (xt x : Expr), XOk C T X → mItO C it xt x = true → SIo C X xt x (evIt T it)
  | .e a, C, X, xt, x, h, m => by
    have z := so_of h (by simpa only [mItO] using m) fun z => (sndE a C X x h z).1
    have e : evIt T (.e a) = fun env => bnd (evE T a env) fun x => lft (asSeq x) := by funext env; simp only [evIt]
    rw [e]
    exact sio_e z
  | .r1 a, C, X, xt, x, h, m => by
    simp only [mItO] at m
    split at m
    · rename_i _ n p xa pos
      simp only [Bool.and_eq_true, decide_eq_true_eq] at m
      obtain ⟨m1, m2, m3, m4⟩ := m
      subst m1
      have e : evIt T (.r1 a) = fun env => bnd (evE T a env) fun x => bnd (lft (asI x)) fun i => lft (if rngOk i then some (rngD 0 i) else none) := by funext env; simp only [evIt]
      rw [e]
      obtain ⟨wi, pi, q⟩ := rng1 (tg := xt) (p := p) (pos := pos) h m2 m3 (sndE a C X xa h m4).1
      exact ⟨wi, pi, fun env ds G r σ H R S w => q env ds G r σ H R S (wpX_mono w fun xs ds' k J G' r' H' n wk => k J G' r' H' n (wk _))⟩
    · cases m
  | .r2 a b, C, X, xt, x, h, m => by
    simp only [mItO] at m
    split at m
    · rename_i _ n p xa xb pos
      simp only [Bool.and_eq_true, decide_eq_true_eq] at m
      obtain ⟨m1, m2, m3, m4, m5, m6⟩ := m
      subst m1
      have e : evIt T (.r2 a b) = fun env => bnd (evE T a env) fun x => bnd (evE T b env) fun y => bnd (lft (asI x)) fun i => bnd (lft (asI y)) fun j => lft (if rngOk i && rngOk j then some (rngD i j) else none) := by funext env; simp only [evIt]
      rw [e]
      obtain ⟨wi, pi, q⟩ := rng2 (tg := xt) (p := p) (pos := pos) h m2 m3 m5 (sndE a C X xa h m4).1 (sndE b C X xb h m6).1
      exact ⟨wi, pi, fun env ds G r σ H R S w => q env ds G r σ H R S (wpX_mono w fun xs ds' k J G' r' H' n wk => k J G' r' H' n (wk _))⟩
    · cases m
  | .r3 a b c, C, X, xt, x, h, m => by
    simp only [mItO] at m
    split at m
    · rename_i _ n p xa xb xc pos
      simp only [Bool.and_eq_true, decide_eq_true_eq] at m
      obtain ⟨m1, m2, m3, m4, m5, m6, m7, m8⟩ := m
      subst m1
      have e : evIt T (.r3 a b c) = fun env => bnd (evE T a env) fun x => bnd (evE T b env) fun y => bnd (evE T c env) fun z => bnd (lft (asI x)) fun i => bnd (lft (asI y)) fun j => bnd (lft (asI z)) fun k => lft (if rngOk i && rngOk j && decide (k = -1) then some (rngDn i j) else none) := by funext env; simp only [evIt]
      rw [e]
      obtain ⟨wi, pi, q⟩ := rng3 (tg := xt) (p := p) (pos := pos) h m2 m3 m5 m7 (sndE a C X xa h m4).1 (sndE b C X xb h m6).1 (sndE c C X xc h m8).1
      exact ⟨wi, pi, fun env ds G r σ H R S w => q env ds G r σ H R S (wpX_mono w fun xs ds' k J G' r' H' n wk => k J G' r' H' n (wk _))⟩
    · cases m
  | .zip a b, C, X, xt, x, h, m => by
    simp only [mItO] at m
    split at m
    · rename_i _ n p xa xb pos
      simp only [Bool.and_eq_true, decide_eq_true_eq] at m
      obtain ⟨m0, m1, m2, m3, m4, m5, m6⟩ := m
      subst m1
      cases xt with
      | Tuple elts kk tpos =>
        have sa := so_of h m4 fun z => (sndE a C X xa h z).1
        have sb := so_of h m6 fun z => (sndE b C X xb h z).1
        have e : evIt T (.zip a b) = fun env => bnd (evE T a env) fun x => bnd (evE T b env) fun y => match x, y with
          | .list xs, .list ys => ret (zipD xs ys)
          | .tuple xs, .tuple ys => ret (zipD xs ys)
          | .list xs, .tuple ys => ret (zipD xs ys)
          | .tuple xs, .list ys => ret (zipD xs ys)
          | _, _ => stk := by funext env; simp only [evIt] <;> rfl
        rw [e]
        exact sio_zip h m2 m3 m5 sa sb
      | _ => cases m0
    · cases m
  | .enum a, C, X, xt, x, h, m => by
    simp only [mItO] at m
    split at m
    · rename_i _ n p xa pos
      simp only [Bool.and_eq_true, decide_eq_true_eq] at m
      obtain ⟨m0, m1, m2, m3, m4⟩ := m
      subst m1
      cases xt with
      | Tuple elts kk tpos =>
        have sa := so_of h m4 fun z => (sndE a C X xa h z).1
        have e : evIt T (.enum a) = fun env => bnd (evE T a env) fun x => bnd (lft (asSeq x)) fun xs => ret (enumD 0 xs) := by funext env; simp only [evIt]
        rw [e]
        exact sio_enum h m2 m3 sa
      | _ => cases m0
    · cases m
end
theorem sndItS (it : It) (C : Cz) (X : Cx) (xt x : Expr) (h : XOk C T X) (m : mItS C it xt x = true) : SIs C X xt x (evIt T it) := by
  cases it with
  | e a =>
    have z := (sndE a C X x h (by simpa only [mItS] using m)).1
    have e : evIt T (.e a) = fun env => bnd (evE T a env) fun x => lft (asSeq x) := by funext env; simp only [evIt]
    rw [e]
    exact sis_e z
  | r1 a =>
    simp only [mItS] at m
    split at m
    · rename_i _ n p xa pos
      simp only [Bool.and_eq_true, decide_eq_true_eq] at m
      obtain ⟨m1, m2, m3, m4⟩ := m
      subst m1
      have e : evIt T (.r1 a) = fun env => bnd (evE T a env) fun x => bnd (lft (asI x)) fun i => lft (if rngOk i then some (rngD 0 i) else none) := by funext env; simp only [evIt]
      rw [e]
      obtain ⟨wi, pi, q⟩ := rng1 (tg := xt) (p := p) (pos := pos) h m2 m3 (sndE a C X xa h m4).1
      exact ⟨wi, pi, fun env ds G r σ H R S w => q env ds G r σ H R S (wpX_mono w fun xs ds' k J G' r' H' n wk => k J G' r' H' n (wk _))⟩
    · cases m
  | r2 a b =>
    simp only [mItS] at m
    split at m
    · rename_i _ n p xa xb pos
      simp only [Bool.and_eq_true, decide_eq_true_eq] at m
      obtain ⟨m1, m2, m3, m4, m5, m6⟩ := m
      subst m1
      have e : evIt T (.r2 a b) = fun env => bnd (evE T a env) fun x => bnd (evE T b env) fun y => bnd (lft (asI x)) fun i => bnd (lft (asI y)) fun j => lft (if rngOk i && rngOk j then some (rngD i j) else none) := by funext env; simp only [evIt]
      rw [e]
      obtain ⟨wi, pi, q⟩ := rng2 (tg := xt) (p := p) (pos := pos) h m2 m3 m5 (sndE a C X xa h m4).1 (sndE b C X xb h m6).1
      exact ⟨wi, pi, fun env ds G r σ H R S w => q env ds G r σ H R S (wpX_mono w fun xs ds' k J G' r' H' n wk => k J G' r' H' n (wk _))⟩
    · cases m
  | r3 a b c =>
    simp only [mItS] at m
    split at m
    · rename_i _ n p xa xb xc pos
      simp only [Bool.and_eq_true, decide_eq_true_eq] at m
      obtain ⟨m1, m2, m3, m4, m5, m6, m7, m8⟩ := m
      subst m1
      have e : evIt T (.r3 a b c) = fun env => bnd (evE T a env) fun x => bnd (evE T b env) fun y => bnd (evE T c env) fun z => bnd (lft (asI x)) fun i => bnd (lft (asI y)) fun j => bnd (lft (asI z)) fun k => lft (if rngOk i && rngOk j && decide (k = -1) then some (rngDn i j) else none) := by funext env; simp only [evIt]
      rw [e]
      obtain ⟨wi, pi, q⟩ := rng3 (tg := xt) (p := p) (pos := pos) h m2 m3 m5 m7 (sndE a C X xa h m4).1 (sndE b C X xb h m6).1 (sndE c C X xc h m8).1
      exact ⟨wi, pi, fun env ds G r σ H R S w => q env ds G r σ H R S (wpX_mono w fun xs ds' k J G' r' H' n wk => k J G' r' H' n (wk _))⟩
    · cases m
  | zip a b =>
    simp only [mItS] at m
    split at m
    · rename_i _ n p xa xb pos
      simp only [Bool.and_eq_true, decide_eq_true_eq] at m
      obtain ⟨m0, m1, m2, m3, m4, m5, m6⟩ := m
      subst m1
      cases xt with
      | Tuple elts kk tpos =>
        have e : evIt T (.zip a b) = fun env => bnd (evE T a env) fun x => bnd (evE T b env) fun y => match x, y with
          | .list xs, .list ys => ret (zipD xs ys)
          | .tuple xs, .tuple ys => ret (zipD xs ys)
          | .list xs, .tuple ys => ret (zipD xs ys)
          | .tuple xs, .list ys => ret (zipD xs ys)
          | _, _ => stk := by funext env; simp only [evIt] <;> rfl
        rw [e]
        exact sis_zip h m2 m3 m5 (sndE a C X xa h m4).1 (sndE b C X xb h m6).1
      | _ => cases m0
    · cases m
  | enum a =>
    simp only [mItS] at m
    split at m
    · rename_i _ n p xa pos
      simp only [Bool.and_eq_true, decide_eq_true_eq] at m
      obtain ⟨m0, m1, m2, m3, m4⟩ := m
      subst m1
      cases xt with
      | Tuple elts kk tpos =>
        have e : evIt T (.enum a) = fun env => bnd (evE T a env) fun x => bnd (lft (asSeq x)) fun xs => ret (enumD 0 xs) := by funext env; simp only [evIt]
        rw [e]
        exact sis_enum h m2 m3 (sndE a C X xa h m4).1
      | _ => cases m0
    · cases m
end
end Ev

end
section
set_option maxHeartbeats 8000000
/-! # Ev14: statements -/
namespace Ev
open PySem PySem.Spec L2
variable [TabsC]

/-- the data region only grows, the draws stay -/
structure Lk (G : Hp) (r : Option DA) (G' : Hp) (r' : Option DA) : Prop where
  g : Same G G'
  e : r = none ∨ r' = r
theorem Lk.refl {G : Hp} {r : Option DA} : Lk G r G r := ⟨Same.refl G, .inr rfl⟩
theorem Lk.trans {G1 G2 G3 : Hp} {r1 r2 r3 : Option DA} (a : Lk G1 r1 G2 r2) (b : Lk G2 r2 G3 r3) : Lk G1 r1 G3 r3 := by
  refine ⟨a.g.trans b.g, ?_⟩
  rcases a.e with z | z
  · exact .inl z
  · rcases b.e with y | y
    · exact .inl (z.symm.trans y)
    · exact .inr (y.trans z)
theorem Nx.lk {ds' : Option DS} {G G' H H' : Hp} {r r' : Option DA} (n : Nx G r H ds' G' r' H') : Lk G r G' r' := ⟨n.g, n.e⟩
/-- how it was at the def's entry -/
structure Gh where
  G : Hp
  r : Option DA
  H : Hp
/-- the state within a def: the own lists are newer than its entry -/
structure Sm (K : PySem.W.Frag) (Z : Gh) (O : List Nat) (env : Env) (ds : Option DS) (G : Hp) (r : Option DA) (σ : St) (H : Hp) : Prop where
  sim : Sim K O env ds G r σ H
  nx : Nx Z.G Z.r Z.H ds G r H
  fr : ∀ i d a, i ∈ O → env[i]? = some (some d) → σ[i]? = some (some (V.ref a)) → Z.H a = none
def addO (i : Nat) (O : List Nat) : List Nat := if O.contains i then O else i :: O
theorem mem_addO {i j : Nat} {O : List Nat} : j ∈ addO i O ↔ j = i ∨ j ∈ O := by
  unfold addO
  split
  · rename_i h
    have h' : i ∈ O := by simpa using h
    constructor
    · exact .inr
    · rintro (z | z)
      · rw [z]; exact h'
      · exact z
  · simp
section
variable {K : PySem.W.Frag} {Z : Gh} {O : List Nat} {env : Env} {ds ds1 : Option DS} {G G1 H H1 : Hp} {r r1 : Option DA} {σ : St}
theorem Sm.go (S : Sm K Z O env ds G r σ H) (n : Nx G r H ds1 G1 r1 H1) : Sm K Z O env ds1 G1 r1 σ H1 := ⟨n.sim S.sim, S.nx.trans n, S.fr⟩
theorem Sm.newer (S : Sm K Z O env ds G r σ H) {p : Addr} (h : H p = none) : Z.H p = none := by
  cases q : Z.H p with
  | none => rfl
  | some u => exact absurd h (S.nx.k p (by rw [q]; simp))
theorem Sm.updS (S : Sm K Z O env ds G r σ H) {is : List Nat} {env' : Env} {σ' : St} (u : Upd K G r is env env' σ σ') (h : ∀ i ∈ is, i ∉ O) : Sm K Z O env' ds G r σ' H := by
  refine ⟨S.sim.upd u h, S.nx, fun i d a hi e1 e2 => ?_⟩
  have hm : i ∉ is := fun z => h i z hi
  rw [(u.out i hm).2] at e1
  rw [(u.out i hm).1] at e2
  exact S.fr i d a hi e1 e2
/-- no own slot holds that object -/
def Sm.Free (O : List Nat) (env : Env) (σ : St) (p : Addr) : Prop := ∀ (j : Nat) (d : D), j ∈ O → env[j]? = some (some d) → σ[j]? ≠ some (some (V.ref p))
theorem Sm.free (S : Sm K Z O env ds G r σ H) {p : Addr} (h : H p = none) : Sm.Free O env σ p := by
  intro j d hj e1 e2
  obtain ⟨a, xs, es, _, e4, e5, _⟩ := S.sim.own j d hj e1
  rw [e2] at e4
  cases e4
  rw [h] at e5
  cases e5
theorem Sm.setD (S : Sm K Z O env ds G r σ H) {i : Nat} {v : V} {d : D} (hi : i ∉ O) (h : Dq K G r v d) : Sm K Z O (env.set i (some d)) ds G r (σ.set i (some v)) H := by
  have l := S.sim.len
  refine S.updS (is := [i]) ⟨by simp, by simp, fun j hj => ?_, fun j d' hj e => ?_⟩ fun j hj => by
    have e : j = i := by simpa using hj
    rw [e]; exact hi
  · have ne : i ≠ j := fun z => hj (by simp [z])
    exact ⟨List.getElem?_set_ne ne, List.getElem?_set_ne ne⟩
  · have ej : j = i := by simpa using hj
    subst ej
    have lt : j < env.length := by
      have z := (List.getElem?_eq_some_iff.mp e).1
      rwa [List.length_set] at z
    rw [List.getElem?_set_self lt] at e
    cases e
    exact ⟨v, List.getElem?_set_self (by rw [l]; exact lt), h⟩
theorem get_set {α : Type} {l : List α} {i j : Nat} {x y : α} (h : (l.set i x)[j]? = some y) : (j = i ∧ y = x ∧ i < l.length) ∨ (j ≠ i ∧ l[j]? = some y) := by
  by_cases e : j = i
  · subst e
    have lt : j < l.length := by
      have z := (List.getElem?_eq_some_iff.mp h).1
      rwa [List.length_set] at z
    rw [List.getElem?_set_self lt] at h
    cases h
    exact .inl ⟨rfl, rfl, lt⟩
  · rw [List.getElem?_set_ne (Ne.symm e)] at h
    exact .inr ⟨e, h⟩
theorem set_ne {α : Type} {l : List α} {i j : Nat} {x : α} (h : j ≠ i) : (l.set i x)[j]? = l[j]? := List.getElem?_set_ne (Ne.symm h)
theorem Sm.setO (S : Sm K Z O env ds G r σ H) {i : Nat} {p : Addr} {ys : List V} {es : List D} (f : Sm.Free O env σ p) (h1 : H p = some (.lst ys)) (h2 : DqAll K G r ys es) (h3 : Ev.notDA r p) (h4 : G p = none) (h5 : Z.H p = none) :
    Sm K Z (addO i O) (env.set i (some (.list es))) ds G r (σ.set i (some (V.ref p))) H := by
  have l := S.sim.len
  refine ⟨⟨S.sim.sub, by simp [l], fun j d hj e => ?_, fun j d hj e => ?_, fun j j' a hj hj' hn e1 e2 => ?_, S.sim.drw⟩, S.nx, fun j d a hj e1 e2 => ?_⟩
  · have hj' : j ≠ i ∧ j ∉ O := by
      rw [mem_addO] at hj
      exact ⟨fun z => hj (.inl z), fun z => hj (.inr z)⟩
    rw [set_ne hj'.1] at e ⊢
    exact S.sim.var j d hj'.2 e
  · rcases get_set e with ⟨rfl, q, lt⟩ | ⟨ne, q⟩
    · cases q
      exact ⟨p, ys, es, rfl, List.getElem?_set_self (by rw [l]; exact lt), h1, h2, h3, h4⟩
    · rw [set_ne ne]
      exact S.sim.own j d ((mem_addO.mp hj).resolve_left ne) q
  · rcases get_set e1 with ⟨rfl, q, lt⟩ | ⟨ne, q⟩
    · rcases get_set e2 with ⟨rfl, q', lt'⟩ | ⟨ne', q'⟩
      · exact absurd rfl hn
      · cases q
        have hO := (mem_addO.mp hj').resolve_left ne'
        rw [set_ne ne']
        have lt2 := (List.getElem?_eq_some_iff.mp q').1
        rw [l] at lt2
        cases w : env[j'] with
        | none => exact .inr (by rw [List.getElem?_eq_getElem lt2, w])
        | some d => exact absurd q' (f j' d hO (by rw [List.getElem?_eq_getElem lt2, w]))
    · rw [set_ne ne]
      have hO := (mem_addO.mp hj).resolve_left ne
      rcases get_set e2 with ⟨rfl, q', lt'⟩ | ⟨ne', q'⟩
      · cases q'
        have lt2 := (List.getElem?_eq_some_iff.mp q).1
        rw [l] at lt2
        cases w : env[j] with
        | none => exact .inl (by rw [List.getElem?_eq_getElem lt2, w])
        | some d => exact absurd q (f j d hO (by rw [List.getElem?_eq_getElem lt2, w]))
      · rw [set_ne ne']
        exact S.sim.sep j j' a hO ((mem_addO.mp hj').resolve_left ne') hn q q'
  · rcases get_set e2 with ⟨rfl, q, lt⟩ | ⟨ne, q⟩
    · cases q; exact h5
    · rw [set_ne ne] at e1
      exact S.fr j d a ((mem_addO.mp hj).resolve_left ne) e1 q
/-- an own list is written -/
theorem Sm.wr (S : Sm K Z O env ds G r σ H) {i : Nat} {a : Addr} {d : D} {ys : List V} {es : List D} (hi : i ∈ O) (e1 : env[i]? = some (some d)) (e2 : σ[i]? = some (some (V.ref a))) (h : DqAll K G r ys es) :
    Sm K Z O (env.set i (some (.list es))) ds G r σ (upd H a (.lst ys)) := by
  obtain ⟨a', xs', es', _, e4, e5, _, e7, e8⟩ := S.sim.own i d hi e1
  rw [e2] at e4
  cases e4
  have hz := S.fr i d a hi e1 e2
  have drw : DrOk ds G r (upd H a (.lst ys)) := S.sim.drw.mono (fun b u hb q => by
    have ne : b ≠ a := fun z => by
      rcases hb with hb | ⟨c, y, hb⟩
      · rw [z] at hb; exact hb e7
      · rw [z, e5] at q
        exact lst_code c y ((Option.some.inj q).trans hb)
    rw [upd_ne ne]; exact q) fun b q => .inl q
  have same : Same G (upd H a (.lst ys)) := fun b u q => by
    rw [upd_ne (ne_of_none q e8)]
    exact S.sim.sub _ _ q
  have sepa : ∀ (j : Nat) (d' : D), j ∈ O → j ≠ i → env[j]? = some (some d') → σ[j]? ≠ some (some (V.ref a)) := fun j d' hj ne q q2 => by
    rcases S.sim.sep i j a hi hj (Ne.symm ne) e2 q2 with z | z
    · rw [e1] at z; cases z
    · rw [q] at z; cases z
  refine ⟨⟨same, by simp [S.sim.len], fun j d' hj e => ?_, fun j d' hj e => ?_, fun j j' b hj hj' hn q1 q2 => ?_, drw⟩, ⟨S.nx.g, S.nx.e, fun b u hb q => ?_, fun b q => ?_, fun b q => S.nx.f b q, fun b q => S.nx.n b q, same, drw⟩, fun j d' b hj q1 q2 => ?_⟩
  · have ne : j ≠ i := fun z => hj (by rw [z]; exact hi)
    rw [set_ne ne] at e
    exact S.sim.var j d' hj e
  · rcases get_set e with ⟨rfl, q, lt⟩ | ⟨ne, q⟩
    · cases q
      exact ⟨a, ys, es, rfl, e2, upd_same, h, e7, e8⟩
    · obtain ⟨b, xs, fs, f1, f2, f3, f4, f5, f6⟩ := S.sim.own j d' hj q
      refine ⟨b, xs, fs, f1, f2, ?_, f4, f5, f6⟩
      have nb : b ≠ a := fun z => sepa j d' hj ne q (by rw [← z]; exact f2)
      rw [upd_ne nb]; exact f3
  · by_cases c1 : j = i
    · subst c1
      by_cases c2 : j' = j
      · exact absurd c2.symm hn
      · rw [e2] at q1
        cases q1
        rcases S.sim.sep j j' a hi hj' hn e2 q2 with z | z
        · rw [e1] at z; cases z
        · rw [set_ne c2]; exact .inr z
    · by_cases c2 : j' = i
      · subst c2
        rw [e2] at q2
        cases q2
        rcases S.sim.sep j j' a hj hi hn q1 e2 with z | z
        · rw [set_ne c1]; exact .inl z
        · rw [e1] at z; cases z
      · rw [set_ne c1, set_ne c2]
        exact S.sim.sep j j' b hj hj' hn q1 q2
  · have ne : b ≠ a := ne_of_none q hz
    rw [upd_ne ne]; exact S.nx.h b u hb q
  · by_cases c : b = a
    · rw [c, upd_same]; simp
    · rw [upd_ne c]; exact S.nx.k b q
  · by_cases c : j = i
    · subst c; exact S.fr j d b hj e1 q2
    · rw [set_ne c] at q1
      exact S.fr j d' b hj q1 q2
/-- an own list is given to the data -/
theorem Sm.frz (S : Sm K Z O env ds G r σ H) (i : Nat) : ∃ G', Lk G r G' r ∧ Sm K Z (O.filter fun j => j != i) env ds G' r σ H := by
  have mem : ∀ {j}, j ∈ (O.filter fun j => j != i) ↔ j ∈ O ∧ j ≠ i := by
    intro j; simp
  by_cases c : i ∈ O ∧ ∃ d, env[i]? = some (some d)
  · obtain ⟨hi, d, e1⟩ := c
    obtain ⟨a, xs, es, rfl, e2, e3, e4, e5, e6⟩ := S.sim.own i d hi e1
    have hz := S.fr i _ a hi e1 e2
    have g : Same G (upd G a (.lst xs)) := fun b u q => by rw [upd_ne (ne_of_none q e6)]; exact q
    have sub : Same (upd G a (.lst xs)) H := fun b u q => by
      by_cases z : b = a
      · subst z; rw [upd_same] at q; cases q; exact e3
      · rw [upd_ne z] at q; exact S.sim.sub _ _ q
    have drw : DrOk ds (upd G a (.lst xs)) r H := by
      refine S.sim.drw.part fun b nb q => ?_
      have ne : b ≠ a := fun z => by rw [z] at nb; exact nb e5
      rw [upd_ne ne]; exact q
    refine ⟨upd G a (.lst xs), ⟨g, .inr rfl⟩, ⟨⟨sub, S.sim.len, fun j d' hj e => ?_, fun j d' hj e => ?_, fun j j' b hj hj' => S.sim.sep j j' b (mem.mp hj).1 (mem.mp hj').1, drw⟩, ⟨S.nx.g.trans g, S.nx.e, S.nx.h, S.nx.k, fun b q => ?_, S.nx.n, sub, drw⟩, fun j d' b hj => S.fr j d' b (mem.mp hj).1⟩⟩
    · by_cases z : j = i
      · subst z
        rw [e1] at e
        cases e
        exact ⟨.ref a, e2, .lst upd_same (e4.more g (.inr rfl))⟩
      · obtain ⟨v, h1, h2⟩ := S.sim.var j d' (fun y => hj (mem.mpr ⟨y, z⟩)) e
        exact ⟨v, h1, h2.more g (.inr rfl)⟩
    · obtain ⟨b, ys, fs, f1, f2, f3, f4, f5, f6⟩ := S.sim.own j d' (mem.mp hj).1 e
      refine ⟨b, ys, fs, f1, f2, f3, f4.more g (.inr rfl), f5, ?_⟩
      have nb : b ≠ a := fun z => by
        subst z
        rcases S.sim.sep j i b (mem.mp hj).1 hi (mem.mp hj).2 f2 e2 with z | z
        · rw [e] at z; cases z
        · rw [e1] at z; cases z
      rw [upd_ne nb]; exact f6
    · by_cases z : b = a
      · subst z; exact .inr hz
      · rw [upd_ne z] at q; exact S.nx.f b q
  · refine ⟨G, Lk.refl, ⟨⟨S.sim.sub, S.sim.len, fun j d' hj e => ?_, fun j d' hj e => S.sim.own j d' (mem.mp hj).1 e, fun j j' b hj hj' => S.sim.sep j j' b (mem.mp hj).1 (mem.mp hj').1, S.sim.drw⟩, S.nx, fun j d' b hj => S.fr j d' b (mem.mp hj).1⟩⟩
    by_cases z : j = i
    · subst z
      by_cases hO : j ∈ O
      · exact absurd ⟨hO, d', e⟩ c
      · exact S.sim.var j d' hO e
    · exact S.sim.var j d' (fun y => hj (mem.mpr ⟨y, z⟩)) e
end

/-! ### judgements -/
/-- what is wanted of an exception, from the def's entry on -/
def EXs (X : Cx) (Z : Gh) : Ex → Option DS → Prop := fun x ds' => ∀ cls d σ' G' r' H', Nx Z.G Z.r Z.H ds' G' r' H' → ExV X.K X.mg G' r' H' x cls d → wXp X cls d σ' H'
theorem EXs.to {X : Cx} {K : PySem.W.Frag} {Z : Gh} {O : List Nat} {env : Env} {ds : Option DS} {G H : Hp} {r : Option DA} {σ : St} (S : Sm K Z O env ds G r σ H) : ∀ x s, EXs X Z x s → EX X σ G r H x s := fun x s h cls d G' r' H' n v => h cls d σ G' r' H' (S.nx.trans n) v
def WF (K : PySem.W.Frag) (Z : Gh) (O B : List Nat) (G : Hp) (r : Option DA) (E : Ends) (fl : Fl) (ds' : Option DS) : Prop := match fl with
  | .nx env' => ∀ σ' G' r' H', Sm K Z O env' ds' G' r' σ' H' → Lk G r G' r' → E.nx σ' H'
  | .bk env' => ∀ σ' G' r' H', Sm K Z B env' ds' G' r' σ' H' → Lk G r G' r' → E.bk σ' H'
  | .rt d => ∀ v G' r' H', Nx Z.G Z.r Z.H ds' G' r' H' → Dq K G' r' v d → E.rt v H'
theorem WF.lk {K : PySem.W.Frag} {Z : Gh} {O B : List Nat} {G G1 : Hp} {r r1 : Option DA} {E : Ends} {fl : Fl} {ds' : Option DS} (k : Lk G r G1 r1) (h : WF K Z O B G r E fl ds') : WF K Z O B G1 r1 E fl ds' := by
  cases fl with
  | nx env' => exact fun σ' G' r' H' S l => h σ' G' r' H' S (k.trans l)
  | bk env' => exact fun σ' G' r' H' S l => h σ' G' r' H' S (k.trans l)
  | rt d => exact h
section
variable (C : Cz) (O B : List Nat) (X : Cx)
def SS (st : Stmt) (f : Env → M Fl) : Prop := ∃ t : TS, PS X st t ∧ ∀ (Z : Gh) (env : Env) (ds : Option DS) (G : Hp) (r : Option DA) (σ : St) (H : Hp) (E : Ends), Sm X.K Z C.own env ds G r σ H →
  wpX (EXs X Z) (f env ds) (WF X.K Z O B G r E) → t E σ H
def SSs (sts : List Stmt) (f : Env → M Fl) : Prop := ∃ t : TS, PSs X sts t ∧ ∀ (Z : Gh) (env : Env) (ds : Option DS) (G : Hp) (r : Option DA) (σ : St) (H : Hp) (E : Ends), Sm X.K Z C.own env ds G r σ H →
  wpX (EXs X Z) (f env ds) (WF X.K Z O B G r E) → t E σ H
end
abbrev Cz.ow (C : Cz) (O : List Nat) : Cz := { C with own := O }
theorem XOk.ow {C : Cz} {T : Tb} {X : Cx} (h : XOk C T X) (O : List Nat) : XOk (C.ow O) T X := ⟨h.N, h.nd, h.sc, h.calm, h.po, h.fnn, h.grd, h.room, h.fns, h.cns, h.bl, h.gcd, h.cs, h.fs, h.fa, h.xcs, h.xc, h.room2, h.hns, h.hs, h.lam⟩
section
variable {C : Cz} {T : Tb} {X : Cx} {O B : List Nat} {x e : Expr} {st : Stmt} {sts : List Stmt} {f g : Env → M D} {F F2 : Env → M Fl} {pos p : Pos}
theorem ss_seq {O1 : List Nat} (a : SS C O1 B X st F) (b : SSs (C.ow O1) O B X sts F2) : SSs C O B X (st :: sts) fun env => bnd (F env) fun fl => match fl with
    | .nx env' => F2 env'
    | .bk env' => ret (.bk env')
    | .rt d => ret (.rt d) := by
  obtain ⟨t, p1, q1⟩ := a
  obtain ⟨u, p2, q2⟩ := b
  refine ⟨_, pss_cons p1 p2, fun Z env ds G r σ H E S w => ?_⟩
  refine q1 Z env ds G r σ H { E with nx := u E } S (wpX_mono (wpX_bnd.mp w) fun fl ds1 w1 => ?_)
  cases fl with
  | nx env1 => exact fun σ' G' r' H' S1 l => q2 Z env1 ds1 G' r' σ' H' E S1 (wpX_mono w1 fun fl ds2 w2 => w2.lk l)
  | bk env1 => exact fun σ' G' r' H' S1 l => wpX_ret w1 σ' G' r' H' S1 l
  | rt d => exact fun v G' r' H' n m => wpX_ret w1 v G' r' H' n m
theorem ss_dead (a : SS C O B X st F) (hd : ∀ env ds, wpX ExT (F env ds) (fun _ _ => True) → wpX ExT (F env ds) fun fl _ => ∀ env', fl ≠ .nx env') : SSs C O B X (st :: sts) fun env => bnd (F env) fun fl => match fl with
    | .nx env' => F2 env'
    | .bk env' => ret (.bk env')
    | .rt d => ret (.rt d) := by
  obtain ⟨t, p1, q1⟩ := a
  refine ⟨_, pss_cons p1 (pss_never (sts := sts)), fun Z env ds G r σ H E S w => ?_⟩
  have w0 := wpX_bnd.mp w
  have w1 := hd env ds (wpX_mono w0 fun _ _ _ => trivial)
  refine q1 Z env ds G r σ H { E with nx := tNever E } S ?_
  rcases wpX_cases w0 with ⟨fl, ds1, e1, w2⟩ | ⟨x1, s1, e1, w2⟩
  rotate_left
  · rw [e1]
    exact w2
  rw [e1] at w1 ⊢
  cases fl with
  | nx env1 => exact absurd rfl (w1 env1)
  | bk env1 => exact fun σ' G' r' H' S1 l => wpX_ret w2 σ' G' r' H' S1 l
  | rt d => exact fun v G' r' H' n m => wpX_ret w2 v G' r' H' n m
theorem ss_frz {i : Nat} (b : SSs (C.ow (C.own.filter fun j => j != i)) O B X sts F) : SSs C O B X sts F := by
  obtain ⟨u, p2, q2⟩ := b
  refine ⟨u, p2, fun Z env ds G r σ H E S w => ?_⟩
  obtain ⟨G', l, S'⟩ := S.frz i
  exact q2 Z env ds G' r σ H E S' (wpX_mono w fun fl ds2 w2 => w2.lk l)
theorem sss_nil : SSs C C.own B X [] fun env => ret (.nx env) := ⟨_, pss_nil, fun Z env ds G r σ H E S w => wpX_ret w σ G r H S Lk.refl⟩

/-! ### stores -/
theorem sws (env : PySem.Env) (x : Str) (p : Pos) (e : Expr) : swappedStores [.Name x p] e env = pure none := by
  cases e <;> rfl
def noSw : Expr → Bool
  | .ListComp _ _ _ _ => false
  | .SetComp _ _ _ _ => false
  | .DictComp _ _ _ _ _ => false
  | _ => true
theorem noSw_ok {e : Expr} (h : noSw e = true) (tg : Option Expr) (l : Nat) (env : PySem.Env) : swapsWith e tg l env = pure false := by
  cases e <;> first | rfl | cases h
theorem swTup {xs : List Expr} {k : Nat} {q : Pos} (e : Expr) (l : Nat) (env : PySem.Env) : swapsWith e (some (.Tuple xs k q)) l env = pure false := by
  cases e <;> rfl
/-- whether the store of a list comprehension goes before its clean-up -/
theorem sw_lc {elt : Expr} {gs : List Comprehension} {scope : Scope} {q py : Pos} {y : Str} {l : Nat} {env : PySem.Env} : ∃ b, swapsWith (.ListComp elt gs scope q) (some (.Name y py)) l env = pure b ∧ (b = true → env.scope.names.lookup y = some .local) := by
  refine ⟨_, rfl, fun h => ?_⟩
  simp only [Bool.and_eq_true, beq_iff_eq] at h
  exact h.1.1.2
theorem ss_asgT (h : XOk C T X) {tg : Tg} (m : mTg C tg x = true) (hs : swapsWithSole [x] e pos.line X.env = pure false) (hw : swappedStores [x] e X.env = pure none) (a : SE C X e f) : SS C C.own B X (.Assign [x] e pos) fun env => bnd (f env) fun y => bnd (lft (asgT tg y env)) fun env' => ret (.nx env') := by
  obtain ⟨t, p1, q1⟩ := a
  obtain ⟨ho, g, pg, qg⟩ := sg h tg x m
  refine ⟨_, ps_asg p1 pg hs hw (by rw [asg_ns (mTg_ns m)]; rfl), fun Z env ds G r σ H E S w => ?_⟩
  refine q1 env ds G r σ H _ S.sim (wpX_mono (wpX_bnd.mp w) fun d ds1 w1 v G1 r1 H1 n1 hv => ?_)
  obtain ⟨env', ee, w2⟩ := wpX_lft (wpX_bnd.mp w1)
  have S1 := S.go n1
  exact qg v d env env' G1 H1 r1 σ _ n1.s S1.sim.len hv ee fun σ' u => wpX_ret w2 σ' G1 r1 H1 (S1.updS u ho) n1.lk
/-- a name's store, whatever its reading: t is the value's -/
theorem ss_setT {i : Nat} {t : TE} (hi : i ∉ C.own) (ps : PS X st (tAsg t (gName i))) (q1 : ∀ (env : Env) (ds : Option DS) (G : Hp) (r : Option DA) (σ : St) (H : Hp) (Q : VK), Sim X.K C.own env ds G r σ H → wpX (EX X σ G r H) (f env ds) (fun d ds' => ∀ v G' r' H', Nx G r H ds' G' r' H' → Dq X.K G' r' v d → Q v H') → t σ H Q) :
    SS C C.own B X st fun env => bnd (f env) fun y => ret (.nx (env.set i (some y))) := by
  refine ⟨_, ps, fun Z env ds G r σ H E S w => ?_⟩
  refine q1 env ds G r σ H _ S.sim (wpX_mono (wpX_bnd.mp w) fun d ds1 w1 v G1 r1 H1 n1 hv => ?_)
  exact wpX_ret w1 _ G1 r1 H1 ((S.go n1).setD hi hv) n1.lk
theorem ss_setO {i : Nat} {t : TE} (ps : PS X st (tAsg t (gName i))) (q1 : ∀ (env : Env) (ds : Option DS) (G : Hp) (r : Option DA) (σ : St) (H : Hp) (Q : VK), Sim X.K C.own env ds G r σ H → wpX (EX X σ G r H) (f env ds) (fun d ds' => ∃ es, d = .list es ∧ ∀ p ys G' r' H', Nx G r H ds' G' r' H' → H' p = none → DqAll X.K G' r' ys es → Q (.ref p) (upd H' p (.lst ys))) → t σ H Q) :
    SS C (addO i C.own) B X st fun env => bnd (f env) fun y => bnd (lft (asL y)) fun xs => ret (.nx (env.set i (some (.list xs)))) := by
  refine ⟨_, ps, fun Z env ds G r σ H E S w => ?_⟩
  have w0 := wpX_bnd.mp w
  refine q1 env ds G r σ H _ S.sim (wpX_mono w0 fun d ds1 w1 => ?_)
  obtain ⟨es, e1, w2⟩ := wpX_lft (wpX_bnd.mp w1)
  cases asL_some e1
  refine ⟨es, rfl, fun p ys G1 r1 H1 n1 hp hq => ?_⟩
  have na : Nx G1 r1 H1 ds1 G1 r1 (upd H1 p (.lst ys)) := Nx.apart n1.s n1.d hp
  have S1 := S.go n1
  have ndp : notDA r1 p := Classical.byContradiction fun q => n1.d.live q hp
  have gp : G1 p = none := by
    cases q : G1 p with
    | none => rfl
    | some u => rw [n1.s _ _ q] at hp; cases hp
  exact wpX_ret w2 _ G1 r1 _ ((S1.go na).setO (S1.free hp) upd_same hq ndp gp (S1.newer hp)) n1.lk
end
end Ev

end
section
set_option maxHeartbeats 8000000
/-! # Ev15: more statements -/
namespace Ev
open PySem PySem.Spec L2
variable [TabsC]

/-! ### several stores at once, some of new lists -/
inductive DqFs (K : PySem.W.Frag) (H0 : Hp) (G : Hp) (r : Option DA) (H : Hp) : List Bool → List V → List D → Prop
  | nil : DqFs K H0 G r H [] [] []
  | d {v : V} {d : D} {bs : List Bool} {vs : List V} {es : List D} : Dq K G r v d → DqFs K H0 G r H bs vs es → DqFs K H0 G r H (false :: bs) (v :: vs) (d :: es)
  | o {p : Addr} {ys : List V} {fs : List D} {bs : List Bool} {vs : List V} {es : List D} : H p = some (.lst ys) → DqAll K G r ys fs → notDA r p → G p = none → H0 p = none → (∀ j : Nat, bs[j]? = some true → vs[j]? ≠ some (V.ref p)) → DqFs K H0 G r H bs vs es → DqFs K H0 G r H (true :: bs) (V.ref p :: vs) (.list fs :: es)
section
variable {K : PySem.W.Frag} {H0 H0' : Hp} {G H : Hp} {r : Option DA} {ds : Option DS}
theorem DqFs.fresh : ∀ {bs : List Bool} {vs : List V} {es : List D} {j : Nat} {q : Addr}, DqFs K H0 G r H bs vs es → bs[j]? = some true → vs[j]? = some (V.ref q) → H0 q = none
  | _, _, _, _, _, .nil, e, _ => by simp at e
  | _, _, _, 0, _, .d _ _, e, _ => by simp at e
  | _, _, _, j + 1, _, .d _ t, e, e2 => t.fresh (by simpa using e) (by simpa using e2)
  | _, _, _, 0, _, .o _ _ _ _ h _ _, e, e2 => by
    simp at e2
    subst e2
    exact h
  | _, _, _, j + 1, _, .o _ _ _ _ _ _ t, e, e2 => t.fresh (by simpa using e) (by simpa using e2)
theorem DqFs.base : ∀ {bs : List Bool} {vs : List V} {es : List D}, DqFs K H0 G r H bs vs es → (∀ q, H0 q = none → H0' q = none) → DqFs K H0' G r H bs vs es
  | _, _, _, .nil, _ => .nil
  | _, _, _, .d a t, h => DqFs.d a (t.base h)
  | _, _, _, .o h1 h2 h3 h4 h5 h6 t, h => .o h1 h2 h3 h4 (h _ h5) h6 (t.base h)
theorem DqFs.len : ∀ {bs : List Bool} {vs : List V} {es : List D}, DqFs K H0 G r H bs vs es → vs.length = bs.length ∧ es.length = bs.length
  | _, _, _, .nil => ⟨rfl, rfl⟩
  | _, _, _, .d _ t => ⟨by simp [t.len.1], by simp [t.len.2]⟩
  | _, _, _, .o _ _ _ _ _ _ t => ⟨by simp [t.len.1], by simp [t.len.2]⟩
def stV : List Nat → List V → St → St
  | i :: is, v :: vs, σ => stV is vs (σ.set i (some v))
  | _, _, σ => σ
def owS : List Nat → List Bool → List Nat → List Nat
  | i :: is, true :: bs, O => owS is bs (addO i O)
  | _ :: is, false :: bs, O => owS is bs O
  | _, _, O => O
def okS : List Nat → List Bool → List Nat → Bool
  | [], [], _ => true
  | i :: is, true :: bs, O => okS is bs (addO i O)
  | i :: is, false :: bs, O => !(O.contains i) && okS is bs O
  | _, _, _ => false
theorem Sm.stores {Z : Gh} : ∀ {is : List Nat} {bs : List Bool} {vs : List V} {es : List D} {O : List Nat} {env : Env} {σ : St}, Sm K Z O env ds G r σ H → okS is bs O = true → DqFs K H0 G r H bs vs es → (∀ q, H0 q = none → Z.H q = none) → (∀ (j : Nat) q, bs[j]? = some true → vs[j]? = some (V.ref q) → Sm.Free O env σ q) →
    Sm K Z (owS is bs O) (stE is es env) ds G r (stV is vs σ) H
  | [], _, _, _, _, _, _, S, k, .nil, _, _ => S
  | _ :: _, _, _, _, _, _, _, S, k, .nil, _, _ => by simp [okS] at k
  | [], _, _, _, _, _, _, S, k, .d _ _, _, _ => by simp [okS] at k
  | [], _, _, _, _, _, _, S, k, .o _ _ _ _ _ _ _, _, _ => by simp [okS] at k
  | i :: is, _, _, _, O, env, σ, S, k, .d (v := v) (d := d) a t, hz, hf => by
    simp only [okS, Bool.and_eq_true, Bool.not_eq_true'] at k
    have hi : i ∉ O := by simpa using k.1
    simp only [owS, stE, stV]
    refine Sm.stores (S.setD hi a) k.2 t hz fun j q e1 e2 j' d' hj e3 e4 => ?_
    have ne : j' ≠ i := fun z => hi (by rw [← z]; exact hj)
    rw [set_ne ne] at e3 e4
    exact hf (j + 1) q (by simpa using e1) (by simpa using e2) j' d' hj e3 e4
  | i :: is, _, _, _, O, env, σ, S, k, .o (p := p) (ys := ys) (fs := fs) a b c d e f t, hz, hf => by
    simp only [okS] at k
    simp only [owS, stE, stV]
    refine Sm.stores (S.setO (hf 0 p rfl rfl) a b c d (hz _ e)) k t hz fun j q e1 e2 j' d' hj e3 e4 => ?_
    by_cases z : j' = i
    · subst z
      rcases get_set e4 with ⟨_, y, _⟩ | ⟨ne, _⟩
      · cases y
        exact f j e1 e2
      · exact ne rfl
    · rw [set_ne z] at e3 e4
      exact hf (j + 1) q (by simpa using e1) (by simpa using e2) j' d' ((mem_addO.mp hj).resolve_left z) e3 e4
end
section
variable {C : Cz} {T : Tb} {X : Cx} {O B : List Nat} {x e : Expr} {es : List Expr} {st : Stmt} {sts sts2 : List Stmt} {f g : Env → M D} {F F2 : Env → M Fl} {pos p apos cpos : Pos} {L : Env → M (List D)} {bs : List Bool}
def SAF (C : Cz) (X : Cx) (bs : List Bool) (xs : List Expr) (f : Env → M (List D)) : Prop := ∃ t : TA, PA X xs t ∧ ∀ (env : Env) (ds : Option DS) (G : Hp) (r : Option DA) (σ : St) (H : Hp) (Q : List V → Hp → Prop), Sim X.K C.own env ds G r σ H →
  wpX (EX X σ G r H) (f env ds) (fun es ds' => ∀ vs G' r' H', Nx G r H ds' G' r' H' → DqFs X.K H G' r' H' bs vs es → Q vs H') → t σ H Q
theorem saf_nil : SAF C X [] [] fun _ => ret [] := ⟨_, pa_nil, fun env ds G r σ H Q S w => wpX_ret w _ _ _ _ (Nx.refl S.sub S.drw) .nil⟩
theorem saf_d (hn : nst e = true) (a : SE C X e f) (b : SAF C X bs es L) : SAF C X (false :: bs) (e :: es) fun env => bnd (f env) fun x => bnd (L env) fun xs => ret (x :: xs) := by
  obtain ⟨t, p1, q1⟩ := a
  obtain ⟨u, p2, q2⟩ := b
  refine ⟨_, pa_cons p1 p2 (star_ns hn es X.env), fun env ds G r σ H Q S w => ?_⟩
  refine q1 env ds G r σ H _ S (wpX_mono (wpX_bnd.mp w) fun d ds1 w1 v G1 r1 H1 n1 h1 => ?_)
  refine q2 env ds1 G1 r1 σ H1 _ (n1.sim S) (wpX_mono (wpX_bnd.mp w1) fun ys ds2 w2 vs G2 r2 H2 n2 h2 => ?_)
  refine wpX_ret w2 (v :: vs) G2 r2 H2 (n1.trans n2) (.d (h1.more n2.g n2.e) (h2.base fun q z => ?_))
  exact Classical.byContradiction fun y => n1.k q y z
theorem saf_o (hn : nst e = true) (hl : ∀ env ds, wpX ExT (f env ds) (fun _ _ => True) → wpX ExT (f env ds) fun d _ => ∃ fs, d = .list fs) (a : SR C X e f) (b : SAF C X bs es L) : SAF C X (true :: bs) (e :: es) fun env => bnd (f env) fun x => bnd (L env) fun xs => ret (x :: xs) := by
  obtain ⟨t, p1, q1⟩ := a
  obtain ⟨u, p2, q2⟩ := b
  refine ⟨_, pa_cons p1 p2 (star_ns hn es X.env), fun env ds G r σ H Q S w => ?_⟩
  rcases wpX_cases (wpX_bnd.mp w) with ⟨d, ds1, e1, w1⟩ | ⟨x1, s1, e1, w1⟩
  rotate_left
  · refine q1 env ds G r σ H _ S ?_
    rw [e1]
    exact w1
  have w1' := wpX_bnd.mp w1
  have c := hl env ds (by rw [e1]; trivial)
  rw [e1] at c
  obtain ⟨fs, rfl⟩ := c
  refine q1 env ds G r σ H _ S ?_
  rw [e1]
  refine ⟨fs, rfl, fun p ys G1 r1 H1 n1 hp hq => ?_⟩
  have na : Nx G1 r1 H1 ds1 G1 r1 (upd H1 p (.lst ys)) := Nx.apart n1.s n1.d hp
  refine q2 env ds1 G1 r1 σ _ _ (na.sim (n1.sim S)) (wpX_mono w1' fun zs ds2 w2 vs G2 r2 H2 n2 h2 => ?_)
  have ndp : notDA r1 p := Classical.byContradiction fun q => n1.d.live q hp
  have gp : G1 p = none := by
    cases q : G1 p with
    | none => rfl
    | some u => rw [n1.s _ _ q] at hp; cases hp
  have gp2 : G2 p = none := by
    cases q : G2 p with
    | none => rfl
    | some u =>
      rcases n2.f p (by rw [q]; simp) with z | z
      · exact absurd gp z
      · rw [upd_same] at z; cases z
  have base : ∀ q, (upd H1 p (HO.lst ys)) q = none → H q = none := fun q z => Classical.byContradiction fun y => (n1.trans na).k q y z
  refine wpX_ret w2 (.ref p :: vs) G2 r2 H2 ((n1.trans na).trans n2) (.o (n2.h p _ ndp upd_same) (hq.more n2.g n2.e) (n2.notDA ndp upd_same) gp2 (Classical.byContradiction fun y => n1.k p y hp) (fun j k1 k2 => ?_) (h2.base base))
  have z := h2.fresh k1 k2
  rw [upd_same] at z
  cases z
theorem SAF.cg {f g : Env → M (List D)} (a : SAF C X bs es f) (e : ∀ env, g env = f env) : SAF C X bs es g := by
  have : g = f := funext e
  rw [this]; exact a
theorem ss_cg {f g : Env → M Fl} (a : SS C O B X st f) (e : ∀ env, g env = f env) : SS C O B X st g := by
  have : g = f := funext e
  rw [this]; exact a
theorem sss_cg {f g : Env → M Fl} (a : SSs C O B X sts f) (e : ∀ env, g env = f env) : SSs C O B X sts g := by
  have : g = f := funext e
  rw [this]; exact a
/-- the stores of a pair, of three: what the value's reading owes -/
theorem par_core {is : List Nat} (ok : okS is bs C.own = true) {t : TA} (q : ∀ (env : Env) (ds : Option DS) (G : Hp) (r : Option DA) (σ : St) (H : Hp) (Q : List V → Hp → Prop), Sim X.K C.own env ds G r σ H →
    wpX (EX X σ G r H) (L env ds) (fun es ds' => ∀ vs G' r' H', Nx G r H ds' G' r' H' → DqFs X.K H G' r' H' bs vs es → Q vs H') → t σ H Q) (Z : Gh) (env : Env) (ds : Option DS) (G : Hp) (r : Option DA) (σ : St) (H : Hp) (E : Ends) (S : Sm X.K Z C.own env ds G r σ H)
    (w : wpX (EXs X Z) (bnd (L env) (fun xs => ret (Fl.nx (stE is xs env))) ds) (WF X.K Z (owS is bs C.own) B G r E)) (Q : List V → Hp → Prop) (hQ : ∀ vs H1, vs.length = bs.length → E.nx (stV is vs σ) H1 → Q vs H1) : t σ H Q := by
  refine q env ds G r σ H _ S.sim (wpX_mono (wpX_bnd.mp w) fun xs ds1 w1 vs G1 r1 H1 n1 h1 => hQ vs H1 h1.len.1 ?_)
  exact wpX_ret w1 _ G1 r1 H1 ((S.go n1).stores ok h1 (fun q z => S.newer z) fun j q e1 e2 => S.free (h1.fresh e1 e2)) n1.lk
theorem okS_len : ∀ {is : List Nat} {bs : List Bool} {O : List Nat}, okS is bs O = true → bs.length = is.length
  | [], [], _, _ => rfl
  | i :: is, true :: bs, O, h => by
    simp only [okS] at h
    simp [okS_len h]
  | i :: is, false :: bs, O, h => by
    simp only [okS, Bool.and_eq_true] at h
    simp [okS_len h.2]
  | [], _ :: _, _, h => by simp [okS] at h
  | _ :: _, [], _, h => by simp [okS] at h
theorem ss_par2 {i j : Nat} {n m : Str} {a b : Expr} {px py pt pt2 : Pos} {kt k2 : Nat} (h : XOk C T X) (hi : X.N[i]? = some n) (hj : X.N[j]? = some m) (hij : i ≠ j) (hx : X.env.scope.names.lookup n = some .local) (hy : X.env.scope.names.lookup m = some .local)
    (hw : swappedStores [.Tuple [.Name n px, .Name m py] kt pt] (.Tuple [a, b] k2 pt2) X.env = pure (some [n, m])) (ok : okS [i, j] bs C.own = true) (s : SAF C X bs [a, b] L) :
    SS C (owS [i, j] bs C.own) B X (.Assign [.Tuple [.Name n px, .Name m py] kt pt] (.Tuple [a, b] k2 pt2) pos) fun env => bnd (L env) fun xs => ret (.nx (stE [i, j] xs env)) := by
  obtain ⟨t, pa, q⟩ := s
  refine ⟨_, ps_par h.calm (by rw [h.N]; exact h.nd) hi hj hij hx hy pa hw, fun Z env ds G r σ H E S w => ?_⟩
  refine par_core ok q Z env ds G r σ H E S w _ fun vs H1 l k => ?_
  rw [okS_len ok] at l
  match vs, l with
  | [v, w], _ => exact ⟨v, w, rfl, k⟩
theorem ss_par3 {i j l : Nat} {n m o : Str} {a b c : Expr} {px py pz pt pt2 : Pos} {kt k2 : Nat} (h : XOk C T X) (hi : X.N[i]? = some n) (hj : X.N[j]? = some m) (hl : X.N[l]? = some o) (hij : i ≠ j) (hil : i ≠ l) (hjl : j ≠ l) (hx : X.env.scope.names.lookup n = some .local) (hy : X.env.scope.names.lookup m = some .local) (hz : X.env.scope.names.lookup o = some .local)
    (hw : swappedStores [.Tuple [.Name n px, .Name m py, .Name o pz] kt pt] (.Tuple [a, b, c] k2 pt2) X.env = pure (some [n, m, o])) (ok : okS [i, j, l] bs C.own = true) (s : SAF C X bs [a, b, c] L) :
    SS C (owS [i, j, l] bs C.own) B X (.Assign [.Tuple [.Name n px, .Name m py, .Name o pz] kt pt] (.Tuple [a, b, c] k2 pt2) pos) fun env => bnd (L env) fun xs => ret (.nx (stE [i, j, l] xs env)) := by
  obtain ⟨t, pa, q⟩ := s
  refine ⟨_, ps_par3 h.calm (by rw [h.N]; exact h.nd) hi hj hl hij hil hjl hx hy hz pa hw, fun Z env ds G r σ H E S w => ?_⟩
  refine par_core ok q Z env ds G r σ H E S w _ fun vs H1 l k => ?_
  rw [okS_len ok] at l
  match vs, l with
  | [u, v, w], _ => exact ⟨u, v, w, rfl, k⟩

/-! ### methods of own lists -/
theorem tyL {K : PySem.W.Frag} {H : Hp} {a : Addr} {xs : List V} (h : H a = some (.lst xs)) : tyV K "list" (.ref a) H := Or.inl ⟨rfl, _, Sq_at h⟩
theorem ss_app {i : Nat} {n : Str} (h : XOk C T X) (m : nmV C i n = true) (hi : i ∈ C.own) (hl : (apos.endLine == cpos.line) = true) (hn : nst e = true) (a : SE C X e f) :
    SS C C.own B X (.Expr (.Call (.Attribute (.Name n p) "append" apos) [e] [] cpos) pos) fun env => bnd (lft ((getv env i).bind asL)) fun xs => bnd (f env) fun x => lft (if lenOk (xs.length + 1) then some (.nx (env.set i (some (.list (xs ++ [x]))))) else none) := by
  obtain ⟨t, pa, q⟩ := sa_cons hn a (F := fun _ => ret []) sa_nil
  have hs := star_ns hn [] X.env
  refine ⟨_, ps_expr (pe_bm PySem.F.plainAttrs_list PySem.F.slot_list_append PySem.F.type_list_append mt_append (nmV_ok h m) pa rfl (by rw [hs]; rfl) hl hs rfl), fun Z env ds G r σ H E S w => ?_⟩
  obtain ⟨xs, e1, w1⟩ := wpX_lft (wpX_bnd.mp w)
  obtain ⟨d, e2, e3⟩ := Option.bind_eq_some_iff.mp e1
  cases asL_some e3
  have e4 := getv_some e2
  obtain ⟨b, ys, fs, e5, e6, e7, e8, e9, _⟩ := S.sim.own i _ hi e4
  cases e5
  refine ⟨_, e6, tyL e7, ?_⟩
  refine q env ds G r σ H _ S.sim (wpX_bnd.mpr (wpX_mono (wpX_bnd.mp w1) fun d ds1 w2 => ?_))
  intro vs G1 r1 H1 n1 h1
  cases h1 with
  | cons h1 h2 =>
    cases h2
    obtain ⟨fl, e10, w3⟩ := wpX_lft w2
    split at e10
    · rename_i hz
      cases e10
      have hz' : xs.length + 1 ≤ sizeLine := lenOk_of hz
      have e8' := e8.more n1.g n1.e
      refine ⟨b, ys, _, rfl, rfl, n1.h _ _ e9 e7, by rw [e8.length]; omega, ?_⟩
      exact w3 _ G1 r1 _ ((S.go n1).wr hi e4 e6 (e8'.append (.cons h1 .nil))) n1.lk
    · cases e10
theorem ss_ext {i : Nat} {n : Str} (h : XOk C T X) (m : nmV C i n = true) (hi : i ∈ C.own) (hl : (apos.endLine == cpos.line) = true) (hn : nst e = true) (a : SO C X e f) :
    SS C C.own B X (.Expr (.Call (.Attribute (.Name n p) "extend" apos) [e] [] cpos) pos) fun env => bnd (lft ((getv env i).bind asL)) fun xs => bnd (f env) fun x => bnd (lft (asL x)) fun ys => lft (if lenOk (xs.length + ys.length) then some (.nx (env.set i (some (.list (xs ++ ys))))) else none) := by
  obtain ⟨t, pa, q⟩ := so_cons hn a (F := fun _ => ret []) so_nil
  have hs := star_ns hn [] X.env
  refine ⟨_, ps_expr (pe_bm PySem.F.plainAttrs_list PySem.F.slot_list_extend PySem.F.type_list_extend mt_extend (nmV_ok h m) pa rfl (by rw [hs]; rfl) hl hs rfl), fun Z env ds G r σ H E S w => ?_⟩
  obtain ⟨xs, e1, w1⟩ := wpX_lft (wpX_bnd.mp w)
  obtain ⟨d, e2, e3⟩ := Option.bind_eq_some_iff.mp e1
  cases asL_some e3
  have e4 := getv_some e2
  obtain ⟨b, ys, fs, e5, e6, e7, e8, e9, _⟩ := S.sim.own i _ hi e4
  cases e5
  refine ⟨_, e6, tyL e7, ?_⟩
  refine q env ds G r σ H _ S.sim (wpX_bnd.mpr (wpX_mono (wpX_bnd.mp w1) fun d ds1 w2 => ?_))
  intro vs G1 r1 H1 n1 h1
  cases h1 with
  | cons h1 h2 =>
    cases h2
    obtain ⟨zs, ez, w2⟩ := wpX_lft (wpX_bnd.mp w2)
    cases asL_some ez
    obtain ⟨fl, e10, w3⟩ := wpX_lft w2
    split at e10
    · rename_i hz
      cases e10
      have hz' : xs.length + zs.length ≤ sizeLine := lenOk_of hz
      have e8' := e8.more n1.g n1.e
      obtain ⟨c, us, rfl, ec, hc, _⟩ := h1.list n1.s n1.d
      refine ⟨b, c, ys, us, rfl, rfl, n1.h _ _ e9 e7, ec, by rw [e8.length, hc.length]; omega, ?_⟩
      exact w3 _ G1 r1 _ ((S.go n1).wr hi e4 e6 (e8'.append hc)) n1.lk
    · cases e10

/-! ### the others -/
theorem ss_ex (hs : noSw e = true) (a : SE C X e f) : SS C C.own B X (.Expr e pos) fun env => bnd (f env) fun _ => ret (.nx env) := by
  obtain ⟨t, p1, q1⟩ := a
  refine ⟨_, ps_expr p1 (noSw_ok hs none _ _), fun Z env ds G r σ H E S w => ?_⟩
  exact q1 env ds G r σ H _ S.sim (wpX_mono (wpX_bnd.mp w) fun d ds1 w1 v G1 r1 H1 n1 h1 => wpX_ret w1 σ G1 r1 H1 (S.go n1) n1.lk)
theorem ss_ret (a : SE C X e f) : SS C O B X (.Return (some e) pos) fun env => bnd (f env) fun d => ret (.rt d) := by
  obtain ⟨t, p1, q1⟩ := a
  refine ⟨_, ps_ret p1, fun Z env ds G r σ H E S w => ?_⟩
  exact q1 env ds G r σ H _ S.sim (wpX_mono (wpX_bnd.mp w) fun d ds1 w1 v G1 r1 H1 n1 h1 => wpX_ret w1 v G1 r1 H1 (S.nx.trans n1) h1)
theorem ss_retN : SS C O B X (.Return none pos) fun env => bnd (ret .none) fun d => ret (.rt d) :=
  ⟨_, ps_retN, fun Z env ds G r σ H E S w => wpX_ret (wpX_bnd.mp w) .non G r H S.nx .non⟩
theorem ss_doc {c : Str} {j : Nat} : SS C C.own B X (.Expr (.Constant (.str c) j p) pos) fun env => ret (.nx env) :=
  ⟨_, ps_doc, fun Z env ds G r σ H E S w => wpX_ret w σ G r H S Lk.refl⟩
theorem ss_pass : SS C C.own B X (.Pass pos) fun env => ret (.nx env) :=
  ⟨_, ps_pass, fun Z env ds G r σ H E S w => wpX_ret w σ G r H S Lk.refl⟩
theorem ss_brk : SS C O C.own X (.Break pos) fun env => ret (.bk env) :=
  ⟨_, ps_break, fun Z env ds G r σ H E S w => wpX_ret w σ G r H S Lk.refl⟩
theorem ss_never : SS C O B X st fun _ => stk := ⟨_, ps_never, fun Z env ds G r σ H E S w => w.elim⟩
theorem ss_if {c : Env → M Bool} (a : ST C X e c) (b1 : SSs C O B X sts F) (b2 : SSs C O B X sts2 F2) : SS C O B X (.If e sts sts2 pos) fun env => bnd (c env) fun t => if t then F env else F2 env := by
  obtain ⟨t, p1, q1⟩ := a
  obtain ⟨u, p2, q2⟩ := b1
  obtain ⟨v, p3, q3⟩ := b2
  refine ⟨_, ps_if p1 p2 p3, fun Z env ds G r σ H E S w => ?_⟩
  refine q1 env ds G r σ H _ S.sim (wpX_mono (wpX_bnd.mp w) fun b ds1 w1 G1 r1 H1 n1 => ?_)
  cases b with
  | true => exact q2 Z env ds1 G1 r1 σ H1 E (S.go n1) (wpX_mono w1 fun fl ds2 w2 => w2.lk n1.lk)
  | false => exact q3 Z env ds1 G1 r1 σ H1 E (S.go n1) (wpX_mono w1 fun fl ds2 w2 => w2.lk n1.lk)
theorem ss_whl {c : Env → M Bool} (h : XOk C T X) (n : Nat) (a : ST C X e c) (b : SSs C C.own C.own X sts F) : SS C C.own B X (.While e sts [] pos) fun env => whlL c F n env := by
  obtain ⟨t, p1, q1⟩ := a
  obtain ⟨u, p2, q2⟩ := b
  refine ⟨_, ps_while h.po p1 p2, fun Z env ds G r σ H E S w => ?_⟩
  refine ⟨fun m σ' H' => ∃ env' ds' G' r', Sm X.K Z C.own env' ds' G' r' σ' H' ∧ Lk G r G' r' ∧ wpX (EXs X Z) (whlL c F m env' ds') (WF X.K Z C.own B G r E), ⟨n, env, ds, G, r, S, Lk.refl, w⟩, ?_⟩
  rintro m σ1 H1 ⟨env1, ds1, G1, r1, S1, l1, w1⟩
  cases m with
  | zero => exact w1.elim
  | succ m =>
    unfold whlL at w1
    refine q1 env1 ds1 G1 r1 σ1 H1 _ S1.sim (wpX_mono (wpX_bnd.mp w1) fun b ds2 w2 G2 r2 H2 n2 => ?_)
    have S2 := S1.go n2
    have l2 := l1.trans n2.lk
    cases b with
    | true =>
      refine ⟨fun σ' H' => ∃ env' ds' G' r', Sm X.K Z C.own env' ds' G' r' σ' H' ∧ Lk G r G' r' ∧ wpX (EXs X Z) (whlL c F m env' ds') (WF X.K Z C.own B G r E), fun σ' H' z => ⟨m, Nat.lt_succ_self m, z⟩, ?_⟩
      refine q2 Z env1 ds2 G2 r2 σ1 H2 _ S2 (wpX_mono (wpX_bnd.mp w2) fun fl ds3 w3 => ?_)
      cases fl with
      | nx env3 => exact fun σ' G' r' H' S3 l3 => ⟨env3, ds3, G', r', S3, l2.trans l3, w3⟩
      | bk env3 => exact fun σ' G' r' H' S3 l3 => wpX_ret w3 σ' G' r' H' S3 (l2.trans l3)
      | rt d => exact fun v G' r' H' n3 h3 => wpX_ret w3 v G' r' H' n3 h3
    | false => exact wpX_ret w2 σ1 G2 r2 H2 S2 l2
theorem ss_for {tg : Tg} {L : Env → M (List D)} (h : XOk C T X) (hs : notSet e = true) (m : mTg C tg x = true) (a : SIs C X x e L) (b : SSs C C.own C.own X sts F) :
    SS C C.own B X (.For x e sts [] pos) fun env => bnd (L env) fun xs => forL (fun y env => bnd (lft (asgT tg y env)) fun env' => F env') xs env := by
  obtain ⟨wi, pi, qi⟩ := a
  obtain ⟨u, p2, q2⟩ := b
  obtain ⟨ho, g, pg, qg⟩ := sg h tg x m
  refine ⟨_, ps_for h.po h.calm pi pg p2 (notSet_ok hs X.env), fun Z env ds G r σ H E S w => ?_⟩
  refine qi env ds G r σ H _ S.sim (wpX_mono (wpX_bnd.mp w) fun xs ds1 w1 J G1 r1 H1 n1 wk1 => ?_)
  let W : Nat → St → Hp → Prop := fun i σ' H' => ∃ env' ds' G' r', Sm X.K Z C.own env' ds' G' r' σ' H' ∧ Lk G r G' r' ∧ Wk X.K G' r' (LIs G') J xs ∧ wpX (EXs X Z) (forL (fun y env => bnd (lft (asgT tg y env)) fun env' => F env') (xs.drop i) env' ds') (WF X.K Z C.own B G r E)
  refine ⟨fun i m σ' H' => m = xs.length - i ∧ i ≤ xs.length ∧ W i σ' H', ⟨xs.length, by omega, Nat.zero_le _, env, ds1, G1, r1, S.go n1, n1.lk, wk1, w1⟩, ?_⟩
  rintro i m σ1 H2 ⟨rfl, hi, env1, ds2, G2, r2, S2, l2, wk2, w2⟩
  have wko : Wk X.K G2 r2 (LIo r2 H2) J xs := wk2.map (Same.refl G2) (.inr rfl) fun a vs l => ⟨S2.sim.sub _ _ l, S2.sim.drw.apart l⟩
  by_cases hlt : i < xs.length
  · refine .inr ⟨wko.go S2.sim.sub hlt, W (i + 1), fun σ' H' z => ⟨xs.length - (i + 1), by omega, rfl, hlt, z⟩, fun v H3 y => ?_⟩
    have ex : xs[i]? = some xs[i] := List.getElem?_eq_getElem hlt
    obtain ⟨G3, n3, hx⟩ := wko.yld S2.sim.sub S2.sim.drw ex y
    rw [List.drop_eq_getElem_cons hlt] at w2
    unfold forL at w2
    have w3 := wpX_bnd.mp (wpX_bnd.mp w2)
    obtain ⟨env3, ee, w4⟩ := wpX_lft w3
    have S3 := S2.go n3
    refine qg v _ env1 env3 G3 H3 r2 σ1 _ n3.s S3.sim.len hx ee fun σ' u' => ?_
    refine q2 Z env3 ds2 G3 r2 σ' H3 _ (S3.updS u' ho) (wpX_mono w4 fun fl ds4 w5 => ?_)
    have l3 := l2.trans n3.lk
    cases fl with
    | nx env4 => exact fun σ4 G4 r4 H4 S4 l4 => ⟨env4, ds4, G4, r4, S4, l3.trans l4, wk2.map (n3.g.trans l4.g) ((n3.lk.trans l4).e) (fun a vs l => l4.g _ _ (n3.g _ _ l)), w5⟩
    | bk env4 => exact fun σ4 G4 r4 H4 S4 l4 => wpX_ret w5 σ4 G4 r4 H4 S4 (l3.trans l4)
    | rt d => exact fun v G' r' H' n4 h4 => wpX_ret w5 v G' r' H' n4 h4
  · have ei : xs.length ≤ i := by omega
    refine .inl ⟨wko.stop S2.sim.sub ei hi, ?_⟩
    rw [List.drop_of_length_le ei] at w2
    exact wpX_ret w2 σ1 G2 r2 H2 S2 l2
end
end Ev

end
section
set_option maxHeartbeats 8000000
/-! # EvS: the law's draws: what is written -/
namespace Ev
open PySem PySem.Spec L2
variable [TabsC]
section
variable {K : PySem.W.Frag} {Z : Gh} {O : List Nat} {env : Env} {s s' : DS} {G H H' : Hp} {x : DA} {σ : St}
theorem Sm.draw (S : Sm K Z O env (some s) G (some x) σ H) (e : ∀ b, notDA (some x) b → H' b = H b) (d : DrOk (some s') G (some x) H') : Sm K Z O env (some s') G (some x) σ H' := by
  have sub : Same G H' := fun b u q => by rw [e b (S.sim.drw.apart q)]; exact S.sim.sub _ _ q
  have out : ∀ b u, notDA Z.r b → Z.H b = some u → notDA (some x) b := fun b u hb q => by
    refine Classical.byContradiction fun z => ?_
    rcases S.nx.n b z with y | y
    · exact y hb
    · rw [q] at y; cases y
  refine ⟨⟨sub, S.sim.len, S.sim.var, fun i d' hi q => ?_, S.sim.sep, d⟩, ⟨S.nx.g, S.nx.e, fun b u hb q => ?_, fun b q => ?_, S.nx.f, S.nx.n, sub, d⟩, S.fr⟩
  · obtain ⟨a, xs, es, e1, e2, e3, e4, e5, e6⟩ := S.sim.own i d' hi q
    exact ⟨a, xs, es, e1, e2, by rw [e a e5]; exact e3, e4, e5, e6⟩
  · rw [e b (out b u hb q)]; exact S.nx.h b u hb q
  · by_cases z : notDA (some x) b
    · rw [e b z]; exact S.nx.k b q
    · exact d.live z
end
section
variable {C : Cz} {T : Tb} {X : Cx} {O B : List Nat} {x : Expr} {f g : Env → M D} {i : Nat} {n : Str} {p p1 p2 p3 p4 pos pos' : Pos} {j : Nat}
theorem ss_dAt (h : XOk C T X) (m : nmV C i n = true) (hs : noSw x = true) (a : SE C X x f) : SS C C.own B X (.Assign [.Subscript (.Name n p) (.Constant (.str "at") j p1) p2] x pos) fun env => bnd (f env) fun y => upDS (getv env i) (.nx env) fun s => (asI y).map fun k => { s with cnt := k } := by
  obtain ⟨t, pa, q⟩ := a
  refine ⟨_, ps_dput (hu1 h) (nmV_ok h m) pe_str pa (noSw_ok hs _ _ _), fun Z env ds G r σ H E S w => ?_⟩
  refine q env ds G r σ H _ S.sim (wpX_mono (wpX_bnd.mp w) fun d ds1 w1 v G1 r1 H1 n1 h1 => ?_)
  obtain ⟨e, s, s', rfl, es, k⟩ := upDS_ok w1
  obtain ⟨c, ec, rfl⟩ := Option.map_eq_some_iff.mp es
  cases asI_some ec
  cases h1
  have S1 := S.go n1
  obtain ⟨y, rfl, g1, m1, m2, m3⟩ := S1.sim.draws e
  refine ⟨_, g1, _, _, rfl, DPut.k (k := .inr "at") m1 (show 3 < sizeLine by decide), k σ G1 (some y) _ (S1.draw (fun b hb => upd_ne (hb.1 y rfl).1) ?_) n1.lk⟩
  obtain ⟨⟨_, _, _, ne, n1', n2', n3'⟩, tb, tg⟩ := S1.sim.drw
  have nc : y.c ≠ y.d := fun z => by rw [z, m1] at m2; cases m2
  have nl : y.l ≠ y.d := fun z => by rw [z, m1] at m3; cases m3
  exact ⟨⟨upd_same, by rw [upd_ne nc]; exact m2, by rw [upd_ne nl]; exact m3, ne, n1', n2', n3'⟩, tabs_upd tb m1 (fun _ z => by cases z) dk_code, tg⟩
theorem ss_dLeft {k : Nat} {y : Str} (h : XOk C T X) (m : nmV C i n = true) (m2 : nmV C k y = true) (hs : noSw x = true) (a : SE C X x f) : SS C C.own B X (.Assign [.Subscript (.Subscript (.Name n p) (.Constant (.str "lefts") j p1) p2) (.Name y p3) p4] x pos)
    fun env => bnd (f env) fun z => bnd (lft ((getv env k).bind asI)) fun n => upDS (getv env i) (.nx env) fun s => (asI z).bind fun y => (ixN s.lefts.length n).map fun m => { s with lefts := s.lefts.set m y } := by
  obtain ⟨t, pa, q⟩ := a
  refine ⟨_, ps_asg pa (pg_sub (pe_key h m "lefts") (nmV_ok h m2) set_list) (by unfold swapsWithSole; exact noSw_ok hs _ pos.line X.env) (by cases x <;> rfl) rfl, fun Z env ds G r σ H E S w => ?_⟩
  refine q env ds G r σ H _ S.sim (wpX_mono (wpX_bnd.mp w) fun d ds1 w1 v G1 r1 H1 n1 h1 => ?_)
  obtain ⟨c, ec, w2⟩ := wpX_lft (wpX_bnd.mp w1)
  obtain ⟨e, s, s', rfl, es, k'⟩ := upDS_ok w2
  obtain ⟨c2, e2, e3⟩ := Option.bind_eq_some_iff.mp es
  obtain ⟨m', em, rfl⟩ := Option.map_eq_some_iff.mp e3
  cases asI_some e2
  cases h1
  have S1 := S.go n1
  obtain ⟨y, rfl, g1, m1, m2, m3⟩ := S1.sim.draws e
  refine ⟨_, g1, _, _, rfl, (dget m1).2.1, _, so_int S1.sim ec, _, _, _, m', rfl, rfl, m3, by rw [List.length_map]; exact em, k' σ G1 (some y) _ (S1.draw (fun b hb => upd_ne (hb.1 y rfl).2.2) ?_) n1.lk⟩
  obtain ⟨⟨_, _, _, ne, n1', n2', n3'⟩, tb, tg⟩ := S1.sim.drw
  have nl : y.d ≠ y.l := fun z => by rw [← z, m1] at m3; cases m3
  refine ⟨⟨by rw [upd_ne nl]; exact m1, by rw [upd_ne ne]; exact m2, ?_, ne, n1', n2', n3'⟩, tabs_upd tb m3 (fun _ z => by cases z) lst_code, tg⟩
  rw [upd_same, List.map_set]
theorem DqAll.set {K : PySem.W.Frag} {G : Hp} {r : Option DA} : ∀ {vs : List V} {ds : List D} {m : Nat} {v : V} {d : D}, DqAll K G r vs ds → Dq K G r v d → DqAll K G r (vs.set m v) (ds.set m d)
  | _, _, _, _, _, .nil, _ => .nil
  | _, _, 0, _, _, .cons _ t, q => .cons q t
  | _, _, m + 1, _, _, .cons h t, q => .cons h (DqAll.set t q)
theorem ss_put {k : Env → M D} {xk : Expr} (h : XOk C T X) (m : nmV C i n = true) (hi : i ∈ C.own) (hp : plx xk = true) (hs : noSw x = true) (ak : SE C X xk k) (a : SE C X x f) :
    SS C C.own B X (.Assign [.Subscript (.Name n p) xk p2] x pos) fun env => bnd (f env) fun x => bnd (lft ((getv env i).bind asL)) fun xs => bnd (k env) fun j => lft (((asI j).bind (L2.ixN xs.length)).map fun m => .nx (env.set i (some (.list (xs.set m x))))) := by
  obtain ⟨t, pa, q⟩ := a
  obtain ⟨t2, pa2, q2⟩ := ak
  refine ⟨_, ps_asg pa (pg_sub (nmV_ok h m) pa2 set_list (by cases xk <;> first | (intro v; rfl) | cases hp)) (by unfold swapsWithSole; exact noSw_ok hs _ pos.line X.env) (by cases x <;> rfl) rfl, fun Z env ds G r σ H E S w => ?_⟩
  refine q env ds G r σ H _ S.sim (wpX_mono (wpX_bnd.mp w) fun d ds1 w1 v G1 r1 H1 n1 h1 => ?_)
  obtain ⟨xs, e1, w2⟩ := wpX_lft (wpX_bnd.mp w1)
  obtain ⟨d0, e2, e3⟩ := Option.bind_eq_some_iff.mp e1
  cases asL_some e3
  have e4 := getv_some e2
  have S1 := S.go n1
  obtain ⟨b, ys, fs, e5, e6, e7, e8, e9, _⟩ := S1.sim.own i _ hi e4
  cases e5
  refine ⟨_, e6, ?_⟩
  refine q2 env ds1 G1 r1 σ H1 _ S1.sim (wpX_mono (wpX_bnd.mp w2) fun dj ds2 w3 vj G2 r2 H2 n2 h2 => ?_)
  obtain ⟨fl, e10, w4⟩ := wpX_lft w3
  obtain ⟨m0, e11, rfl⟩ := Option.map_eq_some_iff.mp e10
  obtain ⟨c, e12, e13⟩ := Option.bind_eq_some_iff.mp e11
  cases asI_some e12
  cases h2
  have S2 := S1.go n2
  refine ⟨b, ys, c, m0, rfl, rfl, n2.h _ _ e9 e7, by rw [e8.length]; exact e13, ?_⟩
  exact w4 σ G2 r2 _ (S2.wr hi e4 e6 ((e8.more n2.g n2.e).set (h1.more n2.g n2.e))) (n1.trans n2).lk
theorem ss_dRet {k0 k1 k2 k3 : Nat} {q0 q1 q2 q3 : Pos} (h : XOk C T X) (m : nmV C i n = true) (hi : i ∈ C.own) (hl : ∀ env ds, wpX ExT (f env ds) (fun _ _ => True) → wpX ExT (f env ds) fun d _ => ∃ fs, d = .list fs) (a : SR C X x f) :
    SS C O B X (.Return (some (.Dict [some (.Constant (.str "cells") k0 q0), some (.Constant (.str "lefts") k1 q1), some (.Constant (.str "at") k2 q2)] [.Name n p, x, .Constant (.int 0) k3 q3] p1)) pos)
    fun env => bnd (nox (f env)) fun y => mkDS (.rt (.dict [])) (((getv env i).bind asL).bind intsOf) ((asL y).bind intsOf) := by
  obtain ⟨t, pa, q⟩ := a
  refine ⟨_, ps_ret (pe_disp (pps_cons pe_str (nmV_ok h m) (pps_cons pe_str pa (pps_cons pe_str pe_int pps_nil))) rfl rfl (by simp) (show 3 ≤ 15 by decide)), fun Z env ds G r σ H E S w => ?_⟩
  intro b nb
  have n0 : Nx G r H ds G r (upd H b (.dK [])) := Nx.apart S.sim.sub S.sim.drw nb
  have S0 := S.go n0
  rcases wpX_cases (wpX_nox.mp (wpX_bnd.mp w)) with ⟨d, ds1, e1, w1⟩ | ⟨_, _, _, w1⟩
  rotate_left
  · exact w1.elim
  have z := hl env ds (by rw [e1]; trivial)
  rw [e1] at z
  obtain ⟨fs, rfl⟩ := z
  -- what the answer needs
  unfold mkDS at w1
  split at w1
  · rename_i c l ec el
    obtain ⟨d1, ed1, ed2⟩ := Option.bind_eq_some_iff.mp ec
    obtain ⟨d2, ed3, ed4⟩ := Option.bind_eq_some_iff.mp ed1
    cases asL_some ed4
    have e4 := getv_some ed3
    obtain ⟨a, xs, es, z5, e6, e7, e8, e9, e10⟩ := S.sim.own i _ hi e4
    cases z5
    refine ⟨_, e6, ?_⟩
    refine q env ds G r σ _ _ S0.sim ?_
    rw [e1]
    refine ⟨fs, rfl, fun c' ys G1 r1 H1 n1 hc hy => ?_⟩
    have na : Nx G1 r1 H1 none G1 r1 (upd H1 c' (.lst ys)) := Nx.apart n1.s n1.d hc
    have all := (n0.trans n1).trans na
    have r1n : r1 = none := by
      have dd := n1.d
      cases r1 with
      | none => rfl
      | some _ => exact dd.1.elim
    subst r1n
    have rn : r = none := by
      rcases (n0.trans n1).e with z | z
      · exact z
      · exact z.symm
    subst rn
    have zrn : Z.r = none := by
      rcases S.nx.e with z | z
      · exact z
      · exact z.symm
    have ndb : notDA none b := Classical.byContradiction fun q => S.sim.drw.live q nb
    have hb1 : H1 b = some (.dK []) := n1.h b _ ndb upd_same
    have hbc : b ≠ c' := ne_of_none hb1 hc
    have ha1 : H1 a = some (.lst xs) := (n0.trans n1).h a _ e9 e7
    have hac : a ≠ c' := ne_of_none ha1 hc
    have hab : a ≠ b := ne_of_none e7 nb
    have gb : G1 b = none := by
      cases q : G1 b with
      | none => rfl
      | some u =>
        rcases (n0.trans n1).f b (by rw [q]; simp) with z | z
        · exact absurd (S.sim.sub _ _ (Option.ne_none_iff_exists'.mp z).choose_spec) (by rw [nb]; simp)
        · have q2 := n1.s _ _ q
          rw [hb1] at q2
          cases q2
          rcases n1.f b (by rw [q]; simp) with z | z
          · exact absurd (S.sim.sub _ _ (Option.ne_none_iff_exists'.mp z).choose_spec) (by rw [nb]; simp)
          · rw [upd_same] at z; cases z
    have gc : G1 c' = none := by
      cases q : G1 c' with
      | none => rfl
      | some u => rw [n1.s _ _ q] at hc; cases hc
    have ga : G1 a = none := by
      cases q : G1 a with
      | none => rfl
      | some u =>
        rcases (n0.trans n1).f a (by rw [q]; simp) with z | z
        · exact absurd e10 z
        · rw [e7] at z; cases z
    have xi := e8.ints ed2
    obtain ⟨d3, ed5, ed6⟩ := Option.bind_eq_some_iff.mp el
    cases asL_some ed5
    have yi := hy.ints ed6
    refine ⟨by rw [upd_ne hbc]; exact hb1, [(.inr "cells", .ref a), (.inr "lefts", .ref c'), (.inr "at", .int 0)], rfl, (show 3 ≤ 15 by decide), ?_⟩
    have w2 : ∀ v G' r' H', Nx Z.G Z.r Z.H (some ⟨c, l, 0⟩) G' r' H' → Dq X.K G' r' v (.dict []) → E.rt v H' := w1
    refine w2 _ G1 (some ⟨b, a, c'⟩) _ ⟨S.nx.g.trans (n0.trans n1).g, .inl zrn, fun u o hu q => ?_, fun u q => ?_, fun u q => (S.nx.trans (n0.trans n1)).f u q, fun u q => ?_, fun u o q => ?_, ?_⟩ (.drw (x := ⟨b, a, c'⟩) rfl)
    · have q2 := S.nx.h u o hu q
      have hub : u ≠ b := ne_of_none q2 nb
      rw [upd_ne hub]
      exact all.h u o (by rw [← zrn]; exact hu) q2
    · by_cases z : u = b
      · rw [z, upd_same]; simp
      · rw [upd_ne z]; exact all.k u (S.nx.k u q)
    · by_cases tb : ∃ p ∈ TabsC.tabs, u = p.1
      · obtain ⟨p, hp, e⟩ := tb
        exact .inl fun n => n.2 p hp e
      refine .inr ?_
      by_cases z1 : u = b
      · rw [z1]; exact S.newer nb
      · by_cases z2 : u = a
        · rw [z2]; exact S.fr i _ a hi e4 e6
        · by_cases z3 : u = c'
          · rw [z3]
            exact (S.go (n0.trans n1)).newer hc
          · exact absurd ⟨fun x hx => (by cases hx; exact ⟨z1, z2, z3⟩), fun p hp e => tb ⟨p, hp, e⟩⟩ q
    · have z1 : u ≠ b := ne_of_none q gb
      have z2 : u ≠ c' := ne_of_none q gc
      rw [upd_ne z1, upd_ne z2]
      exact n1.s _ _ q
    · refine ⟨⟨by rw [upd_same]; rfl, ?_, ?_, hac, gb, ga, gc⟩, tabs_upd na.d.2.1 (by rw [upd_ne hbc]; exact hb1) (fun _ z => by cases z) dk_code, n1.d.2.2⟩
      · show upd _ b _ a = _
        rw [upd_ne hab, upd_ne hac, ha1, xi]
      · show upd _ b _ c' = _
        rw [upd_ne (Ne.symm hbc), upd_same, yi]
  · exact w1.elim
end
end Ev

end
section
set_option maxHeartbeats 8000000
/-! # EvR: raise C(e), try with one statement -/
namespace Ev
open PySem PySem.Spec L2
variable [TabsC]
section
variable {C : Cz} {T : Tb} {X : Cx} {O B : List Nat} {x e : Expr} {f g : Env → M D} {pos p p2 : Pos}
theorem ss_rse {c fl : Str} (h : XOk C T X) (hc : (c, some fl) ∈ C.xcs) (hg : gl C c = true) (hn : nst e = true) (a : SE C X e f) : SS C O B X (.Raise (some (.Call (.Name c p) [e] [] p2)) none pos) fun env => bnd (f env) fun d => fun s => .exc (.mk c [(fl, d)]) s := by
  obtain ⟨t, pe, q⟩ := a
  have hx := h.xcs _ hc
  obtain ⟨A, fA⟩ := h.xc _ hx
  obtain ⟨fI, fd, y, ini, i1, i2, i3⟩ := fA.ini fl rfl
  have ne : C.xcs ≠ [] := fun z => by rw [z] at hc; cases hc
  obtain ⟨r2, _, _⟩ := h.room2 ne
  refine ⟨_, ps_raise h.calm takes_wX (EvX.pmk_sup ini i1 i2 i3 r2 (gl_ok h hg) fA.ad (pa_cons pe pa_nil (star_ns hn [] X.env)) fA.dbg (star_ns hn [] X.env)), fun Z env ds G r σ H E S w => ?_⟩
  refine q env ds G r σ H _ S.sim (wpX_mono (wpX_bnd.mp w) fun d ds1 w1 v G1 r1 H1 n1 h1 => ?_)
  show [v].length ≤ 1000 ∧ _
  refine EvX.mkO_of (C := A) (f := fl) (y := v) (G := H1) (Q := fun cls d H' => wXp X cls d σ H') fun d0 hd => ?_
  have na : Nx G1 r1 H1 ds1 G1 r1 (upd H1 d0 (.xd [(fl, v)])) := Nx.apart n1.s n1.d hd
  refine w1 (.ref A) (some d0) σ G1 r1 _ ((S.nx.trans n1).trans na) ⟨⟨some fl, hx, rfl, Nat.le_refl 1⟩, ⟨A, fA.ad, rfl⟩, d0, [(fl, v)], rfl, upd_same, rfl, .cons h1 .nil⟩
/-- within a try -/
theorem XOk.tr (h : XOk C T X) {pn : List (Addr × Obj)} {xe : Value → Shared → Prop} (po : PassesOwn (model X.prog X.w) X.A X.env xe) : XOk C T (X.tr pn xe) where
  N := h.N
  nd := h.nd
  sc := h.sc
  calm := h.calm
  po := po
  fnn := h.fnn
  grd := h.grd
  room := h.room
  fns := h.fns
  cns := h.cns
  bl := h.bl
  gcd := h.gcd
  cs := h.cs
  fs := fun j f e => ⟨(h.fs j f e).ex⟩
  fa := h.fa
  xcs := h.xcs
  xc := h.xc
  room2 := h.room2
  hns := h.hns
  hs := h.hs
  lam := h.lam
theorem Sm.offN {K : PySem.W.Frag} {Z : Gh} {O : List Nat} {env : Env} {ds : Option DS} {G H : Hp} {r : Option DA} {σ : St} (S : Sm K Z O env ds G r σ H) {n : Option Nat} (hn : ∀ j, n = some j → j ∉ O) : Sm K Z O (Ev.offN n env) ds G r (offS n σ) H := by
  cases n with
  | none => exact S
  | some j =>
    have hj := hn j rfl
    refine ⟨⟨S.sim.sub, by simp [Ev.offN, offS, S.sim.len], fun i d hi e => ?_, fun i d hi e => ?_, fun i k a hi hk ne e1 e2 => ?_, S.sim.drw⟩, S.nx, fun i d a hi e1 e2 => ?_⟩
    · have ij : j ≠ i := fun z => by
        subst z
        rcases get_set (e : (env.set j none)[j]? = _) with ⟨_, z, _⟩ | ⟨z, _⟩
        · cases z
        · exact z rfl
      have e' : env[i]? = some (some d) := by rw [← e]; exact (List.getElem?_set_ne ij).symm
      obtain ⟨v, h1, h2⟩ := S.sim.var i d hi e'
      exact ⟨v, by rw [← h1]; exact List.getElem?_set_ne ij, h2⟩
    · have ij : j ≠ i := fun z => hj (z ▸ hi)
      have e' : env[i]? = some (some d) := by rw [← e]; exact (List.getElem?_set_ne ij).symm
      obtain ⟨a, xs, es, e1, e2, r⟩ := S.sim.own i d hi e'
      exact ⟨a, xs, es, e1, by rw [← e2]; exact List.getElem?_set_ne ij, r⟩
    · have ij : j ≠ i := fun z => hj (z ▸ hi)
      have kj : j ≠ k := fun z => hj (z ▸ hk)
      have e1' : σ[i]? = some (some (V.ref a)) := by rw [← e1]; exact (List.getElem?_set_ne ij).symm
      have e2' : σ[k]? = some (some (V.ref a)) := by rw [← e2]; exact (List.getElem?_set_ne kj).symm
      rcases S.sim.sep i k a hi hk ne e1' e2' with z | z
      · exact .inl (by rw [← z]; exact List.getElem?_set_ne ij)
      · exact .inr (by rw [← z]; exact List.getElem?_set_ne kj)
    · have ij : j ≠ i := fun z => hj (z ▸ hi)
      exact S.fr i d a hi (by rw [← e1]; exact (List.getElem?_set_ne ij).symm) (by rw [← e2]; exact (List.getElem?_set_ne ij).symm)
/-- a try's body: one statement, its errors are those of its expression -/
inductive Tb1 (C : Cz) (X : Cx) : Stmt → (Env → M Fl) → Prop
  | asg {i : Nat} {n : Str} {e : Expr} {p pos : Pos} {f : Env → M D} (hi : C.N[i]? = some n) (hl : loc C n = true) (ho : i ∉ C.own) (sw : ∀ t l v, swapsWith e t l v = pure false) (a : ∀ pn xe, PassesOwn (model X.prog X.w) X.A X.env xe → SE C (X.tr pn xe) e f) : Tb1 C X (.Assign [.Name n p] e pos) fun env => bnd (f env) fun d => ret (.nx (env.set i (some d)))
  | ex {e : Expr} {pos : Pos} {f : Env → M D} (sw : ∀ t l v, swapsWith e t l v = pure false) (a : ∀ pn xe, PassesOwn (model X.prog X.w) X.A X.env xe → SE C (X.tr pn xe) e f) : Tb1 C X (.Expr e pos) fun env => bnd (f env) fun _ => ret (.nx env)
  | ret {e : Expr} {pos : Pos} {f : Env → M D} (a : ∀ pn xe, PassesOwn (model X.prog X.w) X.A X.env xe → SE C (X.tr pn xe) e f) : Tb1 C X (.Return (some e) pos) fun env => bnd (f env) fun d => Ev.ret (.rt d)
/-- its reading, for whatever is wanted of its errors -/
theorem tb1_ok {st : Stmt} {F : Env → M Fl} (h : XOk C T X) (b : Tb1 C X st F) : ∃ tb : WX → TS, (∀ (W : WX) (pn : List (Addr × Obj)) (xe : Value → Shared → Prop), Takes (X.tr pn xe) W → PassesOwn (model X.prog X.w) X.A X.env xe → PSs (X.tr pn xe) [st] (tb W)) ∧
    ∀ (W : WX) (Z : Gh) (env : Env) (ds : Option DS) (G : Hp) (r : Option DA) (σ : St) (H : Hp) (E : Ends), Sm X.K Z C.own env ds G r σ H →
      wpX (fun x ds' => ∀ cls d G' r' H', Nx G r H ds' G' r' H' → ExV X.K X.mg G' r' H' x cls d → W cls d σ H') (F env ds) (WF X.K Z C.own B G r E) → tb W E σ H := by
  cases b with
  | @asg i n e p pos f hi hl ho sw a =>
    obtain ⟨l1, l2⟩ := loc_ok h hl
    refine ⟨fun W D σ H => ∀ pn xe (tk : Takes (X.tr pn xe) W) (po : PassesOwn (model X.prog X.w) X.A X.env xe), tAsg (a pn xe po).choose (gName i) D σ H, fun W pn xe tk po => ⟨fun pins s σ H D I w => ?_⟩, fun W Z env ds G r σ H E S w pn xe tk po => ?_⟩
    · exact (pss_one (ps_set (X := X.tr pn xe) (pos := pos) (by show X.N.Nodup; rw [h.N]; exact h.nd) (by show X.N[i]? = _; rw [h.N]; exact hi) l1 (a pn xe po).choose_spec.1 (sw _ _ _) l2)).run pins s σ H D I (w pn xe tk po)
    · refine (a pn xe po).choose_spec.2 env ds G r σ H _ S.sim (wpX_mono (wpX_bnd.mp w) (fun d ds1 w1 v G1 r1 H1 n1 h1 => ?_) fun x s z cls d G' r' H' n ev => le_wX tk (z cls d G' r' H' n ev))
      exact wpX_ret w1 _ G1 r1 H1 ((S.go n1).setD ho h1) n1.lk
  | @ex e pos f sw a =>
    refine ⟨fun W D σ H => ∀ pn xe (tk : Takes (X.tr pn xe) W) (po : PassesOwn (model X.prog X.w) X.A X.env xe), (a pn xe po).choose σ H fun _ H1 => D.nx σ H1, fun W pn xe tk po => ⟨fun pins s σ H D I w => ?_⟩, fun W Z env ds G r σ H E S w pn xe tk po => ?_⟩
    · exact (pss_one (ps_expr (X := X.tr pn xe) (pos := pos) (a pn xe po).choose_spec.1 (sw _ _ _))).run pins s σ H D I (w pn xe tk po)
    · refine (a pn xe po).choose_spec.2 env ds G r σ H _ S.sim (wpX_mono (wpX_bnd.mp w) (fun d ds1 w1 v G1 r1 H1 n1 h1 => ?_) fun x s z cls d G' r' H' n ev => le_wX tk (z cls d G' r' H' n ev))
      exact wpX_ret w1 σ G1 r1 H1 (S.go n1) n1.lk
  | @ret e pos f a =>
    refine ⟨fun W D σ H => ∀ pn xe (tk : Takes (X.tr pn xe) W) (po : PassesOwn (model X.prog X.w) X.A X.env xe), (a pn xe po).choose σ H D.rt, fun W pn xe tk po => ⟨fun pins s σ H D I w => ?_⟩, fun W Z env ds G r σ H E S w pn xe tk po => ?_⟩
    · exact (pss_one (ps_ret (X := X.tr pn xe) (pos := pos) (a pn xe po).choose_spec.1)).run pins s σ H D I (w pn xe tk po)
    · refine (a pn xe po).choose_spec.2 env ds G r σ H _ S.sim (wpX_mono (wpX_bnd.mp w) (fun d ds1 w1 v G1 r1 H1 n1 h1 => ?_) fun x s z cls d G' r' H' n ev => le_wX tk (z cls d G' r' H' n ev))
      exact wpX_ret w1 v G1 r1 H1 (S.nx.trans n1) h1
theorem mHds_o {C0 : Cz} : ∀ {hs : List Hd} {es : List ExceptHandler}, mHds C0 hs es = true → ∀ h ∈ hs, (∀ j, h.n = some j → j ∉ C0.own) ∧ ∀ i v, h.su = .set i v → i ∉ C0.own
  | [], _, _, h, hm => by simp at hm
  | b :: hs, [], m, _, _ => by simp [mHds] at m
  | b :: hs, e :: es, m, h, hm => by
    simp only [mHds, Bool.and_eq_true] at m
    rcases List.mem_cons.mp hm with rfl | hm
    · have m1 := m.1
      unfold mHd at m1
      split at m1
      · simp only [Bool.and_eq_true] at m1
        obtain ⟨_, _, _, m3, m2⟩ := m1
        refine ⟨fun j ej => ?_, fun i v ev => ?_⟩
        · rw [ej] at m3
          split at m3
          · rename_i z; cases z
          · rename_i z
            cases z
            simp only [Bool.and_eq_true] at m3
            simpa using m3.2.2
          · exact absurd m3 Bool.false_ne_true
        · rw [ev] at m2
          simp only [mSu] at m2
          split at m2
          · simp only [Bool.and_eq_true] at m2
            simpa using m2.2.2.2.2
          · exact absurd m2 Bool.false_ne_true
      · exact absurd m1 Bool.false_ne_true
    · exact mHds_o m.2 h hm
theorem hand_mem : ∀ {l : List Hd} {x : Ex} {n : Option Nat} {su : Su}, handV l x = some (n, su) → ∃ h ∈ l, h.n = n ∧ h.su = su
  | [], .mk c fs, n, su, z => by cases z
  | b :: l, .mk c fs, n, su, z => by
    unfold handV at z
    split at z
    · obtain ⟨z1, z2⟩ := Prod.mk.inj (Option.some.inj z)
      exact ⟨b, List.mem_cons_self, z1, z2⟩
    · obtain ⟨k, hk, r⟩ := hand_mem z
      exact ⟨k, List.mem_cons_of_mem _ hk, r⟩
theorem ss_try {st : Stmt} {F : Env → M Fl} {hs : List Hd} {h0 : ExceptHandler} {hds : List ExceptHandler} (h : XOk C T X) (b : Tb1 C X st F) (m : mHds C hs (h0 :: hds) = true) : SS C C.own B X (.Try [st] (h0 :: hds) [] [] pos) fun env => tryD (F env) hs env := by
  obtain ⟨l, hl, hq⟩ := hds_ok h m
  obtain ⟨tb, p1, q1⟩ := tb1_ok (B := B) h b
  have ne : C.xcs ≠ [] := fun z => by
    cases hs with
    | nil => simp [mHds] at m
    | cons a hs =>
      simp only [mHds, Bool.and_eq_true] at m
      have m1 := m.1
      unfold mHd at m1
      split at m1
      · simp [z] at m1
      · cases m1
  obtain ⟨_, hk, hf⟩ := h.room2 ne
  refine ⟨_, EvX.ps_try_hs (Wo := wXp X) hk hf (by rw [h.N]; exact h.nd) takes_wX p1 hl, fun Z env ds G r σ H E S w => ?_⟩
  refine q1 _ Z env ds G r σ H E S ?_
  replace w : wpX (EXs X Z) (tryD (F env) hs env ds) (WF X.K Z C.own B G r E) := w
  unfold tryD at w
  cases q : F env ds with
  | ok fl ds' => rw [q] at w; exact w
  | stuck => rw [q] at w; exact w.elim
  | exc x ds' =>
    rw [q] at w
    intro cls d G' r' H' n ev
    refine hq _ _ x cls d ds' G' r' σ H' ev n.s n.d ?_
    dsimp only at w
    unfold HdW
    cases e2 : handV hs x with
    | none =>
      rw [e2] at w
      exact w cls d σ G' r' H' (S.nx.trans n) ev
    | some ns =>
      obtain ⟨nn, su⟩ := ns
      obtain ⟨hd, hm, rfl, e3⟩ := hand_mem e2
      obtain ⟨o1, o2⟩ := mHds_o m hd hm
      rw [e2] at w
      cases su with
      | set i v =>
        intro _
        dsimp only at w
        split at w
        · rename_i y ey
          refine ⟨y, ey, fun u G2 r2 H2 n2 hu => ?_⟩
          exact w _ G2 r2 H2 (((S.go (n.trans n2)).setD (o2 i v e3) hu).offN o1) (n.trans n2).lk
        · exact w.elim
      | ret y => exact fun u hu => w u G' r' H' (S.nx.trans n) hu
end
end Ev

end
section
set_option maxHeartbeats 16000000
/-! # Ev16: the look at statements, and that the evaluator is right where it says yes -/
namespace Ev
open PySem PySem.Spec L2
variable [TabsC]
/-- two ways come together: the own lists must be the same; none: does not go on -/
def jo : Option (List Nat) → Option (List Nat) → Option (Option (List Nat))
  | none, w => some w
  | some a, none => some (some a)
  | some a, some b => if a = b then some (some a) else none
def gd (b : Bool) (w : Option (List Nat)) : Option (Option (List Nat)) := if b then some w else none
def locE (C : Cz) (x : Str) : Bool := C.sc.names.lookup x == some .local
/-- the stores of a pair are in the usual order -/
def unsw (C : Cz) (ts vs : List Expr) : Bool := decide (3 < ts.length) || vs.all (foldedForSure 8) || ts.any fun t => match t with
  | .Name n _ => !(locE C n)
  | _ => true
def asgK (C : Cz) (x e : Expr) : Bool := match x with
  | .Tuple ts _ _ => (match e with
    | .Tuple vs _ _ => unsw C ts vs
    | _ => true)
  | _ => false
def freshL : E → Bool
  | .lst _ => true
  | .lc _ _ _ _ => true
  | .bi .list _ => true
  | _ => false
def mFs (C : Cz) : List Bool → Es → List Expr → Bool
  | [], .nil, [] => true
  | true :: bs, .cons e es, x :: xs => nst x && (freshL e && (mE C e x && mFs C bs es xs))
  | false :: bs, .cons e es, x :: xs => nst x && (mE C e x && mFs C bs es xs)
  | _, _, _ => false
def nmP (C : Cz) (i : Nat) (n : Str) : Bool := decide (C.N[i]? = some n) && locE C n
def hard (vs : List Expr) : Bool := !(vs.all (foldedForSure 8)) && !(vs.all (constantsAlone 8))
def isDoc : Stmt → Bool
  | .Expr (.Constant (.str _) _ _) _ => true
  | .Pass _ => true
  | _ => false
/-- the statement within a try -/
def mT1 (C : Cz) : S → Stmt → Bool
  | .asg (.n i) e, st => match st with
    | .Assign [.Name n _] x _ => decide (C.N[i]? = some n) && (loc C n && (!(C.own.contains i) && (noSw x && mE C e x)))
    | _ => false
  | .ex e, st => match st with
    | .Expr x _ => noSw x && mE C e x
    | _ => false
  | .ret e, st => match st with
    | .Return (some x) _ => mE C e x
    | _ => false
  | _, _ => false
mutual
def mS (C : Cz) (B : List Nat) : S → Stmt → Option (Option (List Nat))
  | .asg (.n i) e, st => match st with
    | .Assign [.Name n _] x _ => gd (nmL C i n && (!(C.own.contains i) && mE C e x)) (some C.own)
    | _ => none
  | .asg (.t ts) e, st => match st with
    | .Assign [xt] x _ => gd (mTg C (.t ts) xt && (asgK C xt x && mE C e x)) (some C.own)
    | _ => none
  | .asgO i e, st => match st with
    | .Assign [.Name n _] x _ => gd (nmL C i n && (freshE e && mE C e x)) (some (addO i C.own))
    | _ => none
  | .par is bs es, st => match st with
    | .Assign [.Tuple ts _ _] (.Tuple xs _ _) _ => (match is, ts, xs with
      | [i, j], [.Name n p, .Name m q], [a, b] => gd ((C.sc.kind == ScopeKind.function) && (nmP C i n && (nmP C j m && (decide (i ≠ j) && ((p.line == q.line) && (hard [a, b] && (okS [i, j] bs C.own && mFs C bs es [a, b]))))))) (some (owS [i, j] bs C.own))
      | [i, j, l], [.Name n p, .Name m q, .Name o w], [a, b, c] => gd ((C.sc.kind == ScopeKind.function) && (nmP C i n && (nmP C j m && (nmP C l o && (decide (i ≠ j) && (decide (i ≠ l) && (decide (j ≠ l) && ((p.line == q.line) && ((p.line == w.line) && (hard [a, b, c] && (okS [i, j, l] bs C.own && mFs C bs es [a, b, c]))))))))))) (some (owS [i, j, l] bs C.own))
      | _, _, _ => none)
    | _ => none
  | .put i k e, st => match st with
    | .Assign [.Subscript (.Name n _) xk _] x _ => gd (nmV C i n && (C.own.contains i && (plx xk && (mE C k xk && (noSw x && mE C e x))))) (some C.own)
    | _ => none
  | .app i e, st => match st with
    | .Expr (.Call (.Attribute (.Name n _) y apos) [x] [] cpos) _ => gd (decide (y = "append") && (nmV C i n && (C.own.contains i && ((apos.endLine == cpos.line) && (nst x && mE C e x))))) (some C.own)
    | _ => none
  | .ext i e, st => match st with
    | .Expr (.Call (.Attribute (.Name n _) y apos) [x] [] cpos) _ => gd (decide (y = "extend") && (nmV C i n && (C.own.contains i && ((apos.endLine == cpos.line) && (nst x && (mV C e x || mE C e x)))))) (some C.own)
    | _ => none
  | .ex e, st => match st with
    | .Expr x _ => gd (noSw x && mE C e x) (some C.own)
    | _ => none
  | .ret e, st => match st with
    | .Return (some x) _ => gd (mE C e x) none
    | .Return none _ => gd (match e with
      | .k .none => true
      | _ => false) none
    | _ => none
  | .ife c a b, st => match st with
    | .If x p q _ => (match mE C c x, mSs C B a p, mSs C B b q with
      | true, some u, some v => jo u v
      | _, _, _ => none)
    | _ => none
  | .whl c b, st => match st with
    | .While x p [] _ => (match mE C c x, mSs C C.own b p with
      | true, some u => gd (decide (u = none ∨ u = some C.own)) (some C.own)
      | _, _ => none)
    | _ => none
  | .for_ tg it b, st => match st with
    | .For xt x p [] _ => (match notSet x && (mTg C tg xt && mItS C it xt x), mSs C C.own b p with
      | true, some u => gd (decide (u = none ∨ u = some C.own)) (some C.own)
      | _, _ => none)
    | _ => none
  | .brk, st => match st with
    | .Break _ => gd (decide (C.own = B)) none
    | _ => none
  | .raise, _ => some none
  | .rse c f e, st => match st with
    | .Raise (some (.Call (.Name x _) [xe] [] _)) none _ => gd (decide (x = c) && (gl C x && (C.xcs.contains (c, some f) && (nst xe && mE C e xe)))) none
    | _ => none
  | .rse0 c, _ => none
  | .try_ b hs, st => match st with
    | .Try [bst] (h0 :: hds) [] [] _ => gd (mT1 C b bst && mHds C hs (h0 :: hds)) (some C.own)
    | _ => none
  | .frz _, _ => none
  | .doc, st => gd (isDoc st) (some C.own)
  | .dAt i e, st => match st with
    | .Assign [.Subscript (.Name n _) (.Constant (.str y) _ _) _] x _ => gd (decide (y = "at") && (nmV C i n && (noSw x && mE C e x))) (some C.own)
    | _ => none
  | .dLeft i k e, st => match st with
    | .Assign [.Subscript (.Subscript (.Name n _) (.Constant (.str y) _ _) _) (.Name z _) _] x _ => gd (decide (y = "lefts") && (nmV C i n && (nmV C k z && (noSw x && mE C e x)))) (some C.own)
    | _ => none
  | .dRet i e, st => match st with
    | .Return (some (.Dict [some (.Constant (.str a) _ _), some (.Constant (.str b) _ _), some (.Constant (.str c) _ _)] [.Name n _, x, .Constant (.int z) _ _] _)) _ =>
      gd (decide (a = "cells") && (decide (b = "lefts") && (decide (c = "at") && (decide (z = 0) && (nmV C i n && (C.own.contains i && (freshL e && mE C e x))))))) none
    | _ => none
def mSs (C : Cz) (B : List Nat) : Ss → List Stmt → Option (Option (List Nat))
  | .nil, sts => gd sts.isEmpty (some C.own)
  | .cons (.frz i) ss, sts => mSs (C.ow (C.own.filter fun j => j != i)) B ss sts
  | .cons s ss, sts => match sts with
    | st :: sts => (match mS C B s st with
      | some (some O) => mSs (C.ow O) B ss sts
      | some none => some none
      | none => none)
    | [] => none
end
theorem gd_some {b : Bool} {w u : Option (List Nat)} (h : gd b w = some u) : b = true ∧ u = w := by
  unfold gd at h
  split at h
  · rename_i z; cases h; exact ⟨z, rfl⟩
  · cases h
section
variable {C : Cz} {T : Tb} {X : Cx} {x e : Expr}
theorem locE_ok (h : XOk C T X) {n : Str} (m : locE C n = true) : X.env.scope.names.lookup n = some .local := by
  rw [h.sc]
  simpa [locE] using m
theorem nmP_ok (h : XOk C T X) {i : Nat} {n : Str} (m : nmP C i n = true) : X.N[i]? = some n ∧ X.env.scope.names.lookup n = some .local := by
  simp only [nmP, Bool.and_eq_true, decide_eq_true_eq] at m
  exact ⟨by rw [h.N]; exact m.1, locE_ok h m.2⟩
theorem freshL_list : ∀ {a : E}, freshL a = true → ∀ (env : Env) (ds : Option DS), wpX ExT (evE T a env ds) (fun _ _ => True) → wpX ExT (evE T a env ds) fun d _ => ∃ fs, d = .list fs
  | .lst es, _, env, ds, w => by
    simp only [evE] at w ⊢
    refine wpX_bnd.mpr (wpX_mono (wpX_bnd.mp w) fun ys ds1 w1 => ?_)
    obtain ⟨d, e, _⟩ := wpX_lft w1
    rw [e]
    split at e
    · cases e; exact ⟨_, rfl⟩
    · cases e
  | .bi .list es, _, env, ds, w => by
    simp only [evE] at w ⊢
    refine wpX_bnd.mpr (wpX_mono (wpX_bnd.mp w) fun zs ds1 w1 => ?_)
    obtain ⟨d, e, _⟩ := wpX_lft w1
    rw [e]
    exact bi_form e
  | .lc tg it c e, _, env, ds, w => by
    simp only [evE] at w ⊢
    refine wpX_bnd.mpr (wpX_mono (wpX_bnd.mp w) fun zs ds1 w1 => ?_)
    refine wpX_bnd.mpr (wpX_mono (wpX_bnd.mp w1) fun ys ds2 w2 => ?_)
    obtain ⟨d, e, _⟩ := wpX_lft w2
    rw [e]
    split at e
    · cases e; exact ⟨_, rfl⟩
    · cases e
theorem freshL_E : ∀ {a : E}, freshL a = true → freshE a = true
  | .lst _, _ => rfl
  | .bi .list _, _ => rfl
  | .lc _ _ _ _, _ => rfl
theorem sndFs (h : XOk C T X) : ∀ {bs : List Bool} {es : Es} {xs : List Expr}, mFs C bs es xs = true → SAF C X bs xs (evEs T es)
  | [], .nil, [], _ => saf_nil.cg fun env => by simp only [evEs]
  | true :: bs, .cons e es, x :: xs, m => by
    simp only [mFs, Bool.and_eq_true] at m
    obtain ⟨m1, m2, m3, m4⟩ := m
    exact (saf_o m1 (freshL_list m2) ((sndE e C X x h m3).2.2 (freshL_E m2)) (sndFs h m4)).cg fun env => by simp only [evEs]
  | false :: bs, .cons e es, x :: xs, m => by
    simp only [mFs, Bool.and_eq_true] at m
    obtain ⟨m1, m2, m3⟩ := m
    exact (saf_d m1 (sndE e C X x h m2).1 (sndFs h m3)).cg fun env => by simp only [evEs]
theorem unsw_ok (h : XOk C T X) {ts vs : List Expr} {k k2 : Nat} {p q : Pos} (m : unsw C ts vs = true) : swappedStores [.Tuple ts k p] (.Tuple vs k2 q) X.env = pure none := by
  unfold swappedStores
  simp
  intro h1 h2 h3 h4 h5 h6 y hy hf
  exfalso
  unfold unsw at m
  simp only [Bool.or_eq_true, decide_eq_true_eq, List.all_eq_true, List.any_eq_true] at m
  rcases m with (m | m) | ⟨t, ht, m⟩
  · by_cases z : ts.length = 2
    · omega
    · have := h1 z; omega
  · rw [m y hy] at hf; cases hf
  · apply h5 t ht
    split
    · rename_i n pos
      have m' : locE C n = false := by simpa using m
      have : X.env.kindOf n ≠ some .local := fun z => by
        have : locE C n = true := by
          unfold locE
          rw [← h.sc]
          show (X.env.kindOf n == some .local) = true
          rw [z]; rfl
        rw [this] at m'; cases m'
      rw [if_neg fun z => this z.1]
    · rfl
theorem asgK_ok (h : XOk C T X) (m : asgK C x e = true) (l : Nat) : swapsWithSole [x] e l X.env = pure false ∧ swappedStores [x] e X.env = pure none := by
  cases x with
  | Tuple ts k p =>
    refine ⟨swTup (xs := ts) (k := k) (q := p) e l X.env, ?_⟩
    cases e with
    | Tuple vs k2 q => exact unsw_ok h m
    | _ => rfl
  | _ => cases m
theorem par2_ok (h : XOk C T X) {n m : Str} {p q pt pt2 : Pos} {a b : Expr} {k k2 : Nat} (hk : X.env.blockKind = .function) (hn : X.env.scope.names.lookup n = some .local) (hm : X.env.scope.names.lookup m = some .local) (ne : n ≠ m) (hl : (p.line == q.line) = true) (hs : nst a = true ∧ nst b = true) (hh : hard [a, b] = true) :
    swappedStores [.Tuple [.Name n p, .Name m q] k pt] (.Tuple [a, b] k2 pt2) X.env = pure (some [n, m]) := by
  unfold hard at hh
  simp only [Bool.and_eq_true, Bool.not_eq_true'] at hh
  have e1 : X.env.kindOf n = some .local := hn
  have e2 : X.env.kindOf m = some .local := hm
  have e3 : p.line = q.line := by simpa using hl
  have l1 : (Expr.Name n p).pos.line = q.line := e3
  have ed : [n, m].eraseDups = [n, m] := by
    simp [List.eraseDups_cons, ne, Ne.symm ne]
  unfold swappedStores
  simp [hk, e1, e2, e3, l1, ne, hh.1, hh.2, List.filterMap_cons, ed]
  rintro (z | z)
  · cases a <;> first | (exfalso; simp [nst] at hs; done) | (exfalso; simp at z; done)
  · cases b <;> first | (exfalso; simp [nst] at hs; done) | (exfalso; simp at z; done)
theorem par3_ok (h : XOk C T X) {n m o : Str} {p q w pt pt2 : Pos} {a b c : Expr} {k k2 : Nat} (hk : X.env.blockKind = .function) (hn : X.env.scope.names.lookup n = some .local) (hm : X.env.scope.names.lookup m = some .local) (ho : X.env.scope.names.lookup o = some .local) (ne : n ≠ m) (ne2 : n ≠ o) (ne3 : m ≠ o)
    (hl : (p.line == q.line) = true) (hl2 : (p.line == w.line) = true) (hs : nst a = true ∧ nst b = true ∧ nst c = true) (hh : hard [a, b, c] = true) :
    swappedStores [.Tuple [.Name n p, .Name m q, .Name o w] k pt] (.Tuple [a, b, c] k2 pt2) X.env = pure (some [n, m, o]) := by
  unfold hard at hh
  simp only [Bool.and_eq_true, Bool.not_eq_true'] at hh
  have e1 : X.env.kindOf n = some .local := hn
  have e2 : X.env.kindOf m = some .local := hm
  have e4 : X.env.kindOf o = some .local := ho
  have e3 : p.line = q.line := by simpa using hl
  have e5 : q.line = w.line := by
    rw [← e3]; simpa using hl2
  have l1 : (Expr.Name n p).pos.line = w.line := e3.trans e5
  have ed : [n, m, o].eraseDups = [n, m, o] := by
    simp [List.eraseDups_cons, ne, ne2, ne3, Ne.symm ne, Ne.symm ne2, Ne.symm ne3]
  unfold swappedStores
  simp [hk, e1, e2, e4, e3, e5, l1, ne, ne2, ne3, hh.1, hh.2, List.filterMap_cons, ed]
  rintro (z | z | z)
  · cases a <;> first | (exfalso; simp [nst] at hs; done) | (exfalso; simp at z; done)
  · cases b <;> first | (exfalso; simp [nst] at hs; done) | (exfalso; simp at z; done)
  · cases c <;> first | (exfalso; simp [nst] at hs; done) | (exfalso; simp at z; done)
theorem fk_ok (h : XOk C T X) (m : (C.sc.kind == ScopeKind.function) = true) : X.env.blockKind = .function := by
  have e : X.env.scope.kind = .function := by rw [h.sc]; simpa using m
  unfold PySem.Env.blockKind
  rw [e]; rfl
theorem mFs_ns : ∀ {bs : List Bool} {es : Es} {xs : List Expr}, mFs C bs es xs = true → nsts xs = true
  | [], .nil, [], _ => rfl
  | true :: bs, .cons e es, x :: xs, m => by
    simp only [mFs, Bool.and_eq_true] at m
    simp [nsts, m.1, mFs_ns m.2.2.2]
  | false :: bs, .cons e es, x :: xs, m => by
    simp only [mFs, Bool.and_eq_true] at m
    simp [nsts, m.1, mFs_ns m.2.2]
theorem lc_ing {xe : Expr} {gs : List Comprehension} {scope : Scope} {q : Pos} {tg : Tg} {it : It} {c b : E} (h : XOk C T X) (m : mE C (.lc tg it c b) (.ListComp xe gs scope q) = true) : ∃ xt xi ifs, gs = [⟨xt, xi, ifs, 0⟩] ∧ SIo C X xt xi (evIt T it) ∧ notSet xi = true ∧
    blkC C.N C.sc scope (tgN C (tgS tg)) = true ∧ mTg (C.blk scope) tg xt = true ∧ (∀ X', XOk (C.blk scope) T X' → STs (C.blk scope) X' ifs fun env => if isNo c then ret true else bnd (evE T c env) fun y => lft (asB y)) ∧ ∀ X', XOk (C.blk scope) T X' → SE (C.blk scope) X' xe (evE T b) := by
  simp only [mE] at m
  split at m
  · rename_i _ xe' xt xi ifs an scope' pos' eq
    cases eq
    simp only [Bool.and_eq_true, decide_eq_true_eq] at m
    obtain ⟨m0, m1, m2, m3, m4, m5, m6⟩ := m
    subst m0
    refine ⟨xt, xi, ifs, rfl, sndItO it C X xt xi h m4, m1, m2, m3, fun X' h' => ?_, fun X' h' => (sndE b (C.blk scope) X' xe h' m6).1⟩
    cases ifs with
    | nil =>
      have q : isNo c = true := m5
      simp only [q, if_true]
      exact sts_nil
    | cons xc r =>
      cases r with
      | nil =>
        have q : isNo c = false ∧ mE (C.blk scope) c xc = true := by simpa using m5
        simp only [q.1, Bool.false_eq_true, if_false]
        exact sts_one (sndE c (C.blk scope) X' xc h' q.2).2.1
      | cons => cases m5
  · cases m
theorem mE_sw {a : E} (m : mE C a x = true) : noSw x = true ∨ ∃ tg it c b xe gs scope q, a = .lc tg it c b ∧ x = .ListComp xe gs scope q := by
  cases x <;> first | exact .inl rfl | skip
  all_goals (cases a <;> first | exact .inr ⟨_, _, _, _, _, _, _, _, rfl, rfl⟩ | (exfalso; simp [mE] at m; done) | (exfalso; simp only [mE] at m; split at m <;> first | cases m | (rename_i z; cases z)))
def SpE (C : Cz) (X : Cx) (t : TE) (f : Env → M D) : Prop := ∀ (env : Env) (ds : Option DS) (G : Hp) (r : Option DA) (σ : St) (H : Hp) (Q : VK), Sim X.K C.own env ds G r σ H →
  wpX (EX X σ G r H) (f env ds) (fun d ds' => ∀ v G' r' H', Nx G r H ds' G' r' H' → Dq X.K G' r' v d → Q v H') → t σ H Q
/-- the value of a name's store: how its reading does -/
theorem setEv {i : Nat} {n : Str} {p pos : Pos} {a : E} (h : XOk C T X) (m : nmL C i n = true) (me : mE C a x = true) : (∃ t : TE, PS X (.Assign [.Name n p] x pos) (tAsg t (gName i)) ∧ SpE C X t (evE T a)) ∧
    (freshE a = true → ∃ t : TE, PS X (.Assign [.Name n p] x pos) (tAsg t (gName i)) ∧ SpR C X t (evE T a)) := by
  have gp : X.N[i]? = some n ∧ Loc X.env.scope n ∧ (X.fn n = true ∨ X.env.scope.names.lookup n = some .local) := by
    simp only [nmL, Bool.and_eq_true, decide_eq_true_eq] at m
    obtain ⟨m1, m2⟩ := m
    refine ⟨by rw [h.N]; exact m1, ?_⟩
    unfold loc at m2
    rw [← h.sc] at m2
    split at m2
    · rename_i e; exact ⟨.inl e, .inr e⟩
    · rename_i e; exact ⟨.inr e, .inl (h.fnn _ m2)⟩
    · cases m2
  have hN : X.N.Nodup := by rw [h.N]; exact h.nd
  have z := sndE a C X x h me
  have plain : swapsWith x (some (.Name n p)) pos.line X.env = pure false → (∃ t : TE, PS X (.Assign [.Name n p] x pos) (tAsg t (gName i)) ∧ SpE C X t (evE T a)) ∧
    (freshE a = true → ∃ t : TE, PS X (.Assign [.Name n p] x pos) (tAsg t (gName i)) ∧ SpR C X t (evE T a)) := fun sw => by
    refine ⟨?_, fun fr => ?_⟩
    · obtain ⟨t, p1, q1⟩ := z.1
      exact ⟨t, ps_set hN gp.1 gp.2.1 p1 sw gp.2.2, q1⟩
    · obtain ⟨t, p1, q1⟩ := z.2.2 fr
      exact ⟨t, ps_set hN gp.1 gp.2.1 p1 sw gp.2.2, q1⟩
  rcases mE_sw me with sw | ⟨tg, it, c, b, xe, gs, scope, q, rfl, rfl⟩
  · exact plain (noSw_ok sw _ _ _)
  · obtain ⟨bb, e1, e2⟩ := sw_lc (elt := xe) (gs := gs) (scope := scope) (q := q) (py := p) (y := n) (l := pos.line) (env := X.env)
    cases bb with
    | false => exact plain e1
    | true =>
      obtain ⟨xt, xi, ifs, rfl, i1, i2, i3, i4, i5, i6⟩ := lc_ing h me
      obtain ⟨t, ps, sp⟩ := lc_set h i1 (notSet_ok i2 X.env) i3 (tgN_snd C (tgS tg)) i4 i5 i6 gp.1 (e2 rfl) e1
      have ev : evE T (.lc tg it c b) = fun env => bnd (evIt T it env) fun xs => bnd (lcL (lcF tg (fun env => if isNo c then ret true else bnd (evE T c env) fun y => lft (asB y)) (evE T b) env) xs) fun ys => lft (if lenOk xs.length then some (.list ys) else none) := by
        funext env; simp only [evE, lcF]
      have sp' : SpR C X t (evE T (.lc tg it c b)) := by rw [ev]; exact sp
      refine ⟨⟨t, ps, ?_⟩, fun _ => ⟨t, ps, sp'⟩⟩
      · intro env ds G r σ H Q S w
        refine sp' env ds G r σ H Q S ?_
        have w' := freshL_list (T := T) (a := .lc tg it c b) rfl env ds (wpX_mono w fun _ _ _ => trivial)
        rcases wpX_cases w with ⟨d, ds', e, k⟩ | ⟨x1, s1, e, k⟩
        rotate_left
        · rw [e]; exact k
        rw [e]
        rw [e] at w'
        obtain ⟨es, rfl⟩ := w'
        refine ⟨es, rfl, fun p ys G' r' H' n hp hq => ?_⟩
        have n2 := Nx.new (o := .lst ys) n.s n.d hp
        exact k _ _ _ _ (n.trans n2) (.lst upd_same (hq.more n2.g n2.e))
end
def Goes (w : Option (List Nat)) (O : List Nat) : Prop := ∀ o, w = some o → O = o
theorem jo_goes {u v w : Option (List Nat)} {O : List Nat} (h : jo u v = some w) (g : Goes w O) : Goes u O ∧ Goes v O := by
  unfold jo at h
  split at h
  · cases h
    exact ⟨fun o e => (by cases e), g⟩
  · cases h
    exact ⟨g, fun o e => (by cases e)⟩
  · split at h
    · rename_i e
      cases h
      subst e
      exact ⟨g, g⟩
    · cases h
theorem names_ne {C : Cz} (nd : C.N.Nodup) {i j : Nat} {n m : Str} (hi : C.N[i]? = some n) (hj : C.N[j]? = some m) (ne : i ≠ j) : n ≠ m := by
  intro e
  subst e
  obtain ⟨h1, e1⟩ := List.getElem?_eq_some_iff.mp hi
  obtain ⟨h2, e2⟩ := List.getElem?_eq_some_iff.mp hj
  exact ne ((List.getElem_inj nd).mp (e1.trans e2.symm))

section
variable {T : Tb} {F : Nat}
theorem liveE {f : Env → M D} (env : Env) (ds : Option DS) (w : wpX ExT (bnd (f env) (fun d => ret (Fl.rt d)) ds) (fun _ _ => True)) : wpX ExT (bnd (f env) (fun d => ret (Fl.rt d)) ds) fun fl _ => ∀ env', fl ≠ .nx env' := by
  refine wpX_bnd.mpr (wpX_mono (wpX_bnd.mp w) fun d ds' _ => ?_)
  intro env' e
  cases e
mutual
theorem deadS : ∀ (s : S) (C : Cz) (B : List Nat) (st : Stmt), mS C B s st = some none → ∀ (env : Env) (ds : Option DS), wpX ExT (evS T F s env ds) (fun _ _ => True) → wpX ExT (evS T F s env ds) fun fl _ => ∀ env', fl ≠ .nx env'
  | .asg (.n i) e, C, B, st, m => by
    simp only [mS] at m; split at m
    · have := (gd_some m).2; cases this
    · cases m
  | .asg (.t ts) e, C, B, st, m => by
    simp only [mS] at m; split at m
    · have := (gd_some m).2; cases this
    · cases m
  | .asgO i e, C, B, st, m => by
    simp only [mS] at m; split at m
    · have := (gd_some m).2; cases this
    · cases m
  | .par is bs es, C, B, st, m => by
    simp only [mS] at m; split at m
    · split at m
      · have := (gd_some m).2; cases this
      · have := (gd_some m).2; cases this
      · cases m
    · cases m
  | .put i k e, C, B, st, m => by
    simp only [mS] at m; split at m
    · have := (gd_some m).2; cases this
    · cases m
  | .app i e, C, B, st, m => by
    simp only [mS] at m; split at m
    · have := (gd_some m).2; cases this
    · cases m
  | .ext i e, C, B, st, m => by
    simp only [mS] at m; split at m
    · have := (gd_some m).2; cases this
    · cases m
  | .ex e, C, B, st, m => by
    simp only [mS] at m; split at m
    · have := (gd_some m).2; cases this
    · cases m
  | .ret e, C, B, st, m => fun env ds w => by
    simp only [evS] at w ⊢
    exact liveE (f := evE T e) env ds w
  | .ife c a b, C, B, st, m => fun env ds w => by
    simp only [mS] at m
    split at m
    · split at m
      · rename_i u v e1 e2 e3
        simp only [evS] at w ⊢
        have hj : u = none ∧ v = none := by
          unfold jo at m
          split at m
          · cases m; exact ⟨rfl, rfl⟩
          · cases m
          · split at m <;> cases m
        rw [hj.1] at e2
        rw [hj.2] at e3
        refine wpX_bnd.mpr (wpX_mono (wpX_bnd.mp w) fun t ds1 w1 => ?_)
        cases t with
        | true => exact deadSs a C B _ e2 env ds1 w1
        | false => exact deadSs b C B _ e3 env ds1 w1
      · cases m
    · cases m
  | .whl c b, C, B, st, m => by
    simp only [mS] at m; split at m
    · split at m
      · have := (gd_some m).2; cases this
      · cases m
    · cases m
  | .for_ tg it b, C, B, st, m => by
    simp only [mS] at m; split at m
    · split at m
      · have := (gd_some m).2; cases this
      · cases m
    · cases m
  | .brk, C, B, st, m => fun env ds w => by
    simp only [evS]
    intro env' e
    cases e
  | .raise, C, B, st, m => fun env ds w => by
    simp only [evS] at w
    exact w.elim
  | .rse c f e, C, B, st, m => fun env ds w => by
    simp only [evS] at w ⊢
    exact wpX_bnd.mpr (wpX_mono (wpX_bnd.mp w) fun d ds' _ => trivial)
  | .rse0 c, C, B, st, m => by simp only [mS] at m; cases m
  | .try_ b hs, C, B, st, m => by
    simp only [mS] at m; split at m
    · have := (gd_some m).2; cases this
    · cases m
  | .frz i, C, B, st, m => by simp only [mS] at m; cases m
  | .doc, C, B, st, m => by
    simp only [mS] at m
    have := (gd_some m).2; cases this
  | .dAt i e, C, B, st, m => by
    simp only [mS] at m; split at m
    · have := (gd_some m).2; cases this
    · cases m
  | .dLeft i k e, C, B, st, m => by
    simp only [mS] at m; split at m
    · have := (gd_some m).2; cases this
    · cases m
  | .dRet i e, C, B, st, m => fun env ds w => by
    simp only [evS] at w ⊢
    refine wpX_bnd.mpr (wpX_mono (wpX_bnd.mp w) fun d ds' w1 => ?_)
    unfold mkDS at w1 ⊢
    split at w1
    · intro env' z; cases z
    · exact w1.elim
theorem deadSs : ∀ (ss : Ss) (C : Cz) (B : List Nat) (sts : List Stmt), mSs C B ss sts = some none → ∀ (env : Env) (ds : Option DS), wpX ExT (evSs T F ss env ds) (fun _ _ => True) → wpX ExT (evSs T F ss env ds) fun fl _ => ∀ env', fl ≠ .nx env'
  | .nil, C, B, sts, m => by
    simp only [mSs] at m
    have := (gd_some m).2; cases this
  | .cons s ss, C, B, sts, m => fun env ds w => by
    by_cases c : ∃ i, s = .frz i
    · obtain ⟨i, rfl⟩ := c
      simp only [mSs] at m
      simp only [evSs, evS] at w ⊢
      exact deadSs ss _ B sts m env ds w
    · have m' : (match sts with
        | st :: sts => (match mS C B s st with
          | some (some O) => mSs (C.ow O) B ss sts
          | some none => some none
          | none => none)
        | [] => none) = some none := by
        cases s <;> first | exact absurd ⟨_, rfl⟩ c | (simpa only [mSs] using m)
      cases sts with
      | nil => cases m'
      | cons st sts =>
        simp only at m'
        simp only [evSs] at w ⊢
        refine wpX_bnd.mpr ?_
        have w0 := wpX_bnd.mp w
        split at m'
        · rename_i O e1
          refine wpX_mono w0 fun fl ds1 w1 => ?_
          cases fl with
          | nx env1 => exact deadSs ss _ B sts m' env1 ds1 w1
          | bk env1 => intro env' e; cases e
          | rt d => intro env' e; cases e
        · rename_i e1
          have z := deadS s C B st e1 env ds (wpX_mono w0 fun _ _ _ => trivial)
          rcases wpX_cases w0 with ⟨fl, ds1, e2, w1⟩ | ⟨x1, s1, e2, _⟩
          rotate_left
          · rw [e2]; trivial
          rw [e2] at z ⊢
          cases fl with
          | nx env1 => exact absurd rfl (z env1)
          | bk env1 => intro env' e; cases e
          | rt d => intro env' e; cases e
        · cases m'
end
end
end Ev

end
section
set_option maxHeartbeats 16000000
/-! # Ev17: the evaluator is right at every statement that the look takes -/
namespace Ev
open PySem PySem.Spec L2
variable [TabsC]
section
variable {T : Tb} {F : Nat}
theorem cg3 {C : Cz} {O O' B : List Nat} {X : Cx} {st : Stmt} {f g : Env → M Fl} (a : SS C O B X st f) (eo : O' = O) (e : ∀ env, g env = f env) : SS C O' B X st g := by
  subst eo
  exact ss_cg a e
theorem mSs_cons {C : Cz} {B : List Nat} {s : S} {ss : Ss} {sts : List Stmt} (c : ¬ ∃ i, s = .frz i) : mSs C B (.cons s ss) sts = match sts with
    | st :: sts => (match mS C B s st with
      | some (some O) => mSs (C.ow O) B ss sts
      | some none => some none
      | none => none)
    | [] => none := by
  cases s <;> first | exact absurd ⟨_, rfl⟩ c | (simp only [mSs] <;> rfl)
theorem t1_ok {b : S} {C : Cz} {X : Cx} {st : Stmt} (h : XOk C T X) (m : mT1 C b st = true) : Tb1 C X st (evS T F b) := by
  unfold mT1 at m
  split at m
  · rename_i st i e
    split at m
    · rename_i n p1 x p2
      simp only [Bool.and_eq_true, decide_eq_true_eq] at m
      obtain ⟨m1, m2, m3, m4, m5⟩ := m
      have z : evS T F (.asg (.n i) e) = fun env => bnd (evE T e env) fun d => ret (.nx (env.set i (some d))) := by
        funext env
        simp only [evS, asgT]
        rfl
      rw [z]
      exact .asg m1 m2 (by simpa using m3) (fun t l v => noSw_ok m4 t l v) fun pn xe po => (sndE e C _ _ (h.tr po) m5).1
    · cases m
  · rename_i st e
    split at m
    · simp only [Bool.and_eq_true] at m
      have z : evS T F (.ex e) = fun env => bnd (evE T e env) fun _ => ret (.nx env) := by
        funext env
        simp only [evS]
      rw [z]
      exact .ex (fun t l v => noSw_ok m.1 t l v) fun pn xe po => (sndE e C _ _ (h.tr po) m.2).1
    · cases m
  · rename_i st e
    split at m
    · have z : evS T F (.ret e) = fun env => bnd (evE T e env) fun d => ret (.rt d) := by
        funext env
        simp only [evS]
      rw [z]
      exact .ret fun pn xe po => (sndE e C _ _ (h.tr po) m).1
    · cases m
  · cases m
mutual
theorem sndS : ∀ (s : S) (C : Cz) (B : List Nat) (X : Cx) (st : Stmt) (w : Option (List Nat)), XOk C T X → mS C B s st = some w → ∀ O, Goes w O → SS C O B X st (evS T F s)
  | .asg (.n i) e, C, B, X, st, w, h, m, O, g => by
    simp only [mS] at m
    split at m
    · rename_i n p x pos
      obtain ⟨m0, rfl⟩ := gd_some m
      cases g _ rfl
      simp only [Bool.and_eq_true, Bool.not_eq_true'] at m0
      obtain ⟨m1, m2, m3⟩ := m0
      obtain ⟨t, ps, q⟩ := (setEv (p := p) (pos := pos) h m1 m3).1
      exact ss_cg (ss_setT (by simpa using m2) ps q) fun env => by simp only [evS, asgT]; rfl
    · cases m
  | .asg (.t ts) e, C, B, X, st, w, h, m, O, g => by
    simp only [mS] at m
    split at m
    · rename_i xt x pos
      obtain ⟨m0, rfl⟩ := gd_some m
      cases g _ rfl
      simp only [Bool.and_eq_true] at m0
      obtain ⟨m1, m2, m3⟩ := m0
      obtain ⟨k1, k2⟩ := asgK_ok h m2 pos.line
      exact ss_cg (ss_asgT h m1 k1 k2 (sndE e C X x h m3).1) fun env => by simp only [evS]
    · cases m
  | .asgO i e, C, B, X, st, w, h, m, O, g => by
    simp only [mS] at m
    split at m
    · rename_i n p x pos
      obtain ⟨m0, rfl⟩ := gd_some m
      cases g _ rfl
      simp only [Bool.and_eq_true] at m0
      obtain ⟨m1, m2, m3⟩ := m0
      obtain ⟨t, ps, q⟩ := (setEv (p := p) (pos := pos) h m1 m3).2 m2
      exact ss_cg (ss_setO ps q) fun env => by simp only [evS]
    · cases m
  | .par is bs es, C, B, X, st, w, h, m, O, g => by
    simp only [mS] at m
    split at m
    · rename_i ts k1 p1 xs k2 p2 pos
      split at m
      · rename_i i j n p m' q a b
        obtain ⟨m0, rfl⟩ := gd_some m
        cases g _ rfl
        simp only [Bool.and_eq_true, decide_eq_true_eq] at m0
        obtain ⟨mk, mi, mj, mij, ml, mh, mo, mf⟩ := m0
        obtain ⟨ni, li⟩ := nmP_ok h mi
        obtain ⟨nj, lj⟩ := nmP_ok h mj
        have ns := mFs_ns mf
        simp only [nsts, Bool.and_eq_true] at ns
        have ne : n ≠ m' := names_ne h.nd (by rw [← h.N]; exact ni) (by rw [← h.N]; exact nj) mij
        exact ss_cg (ss_par2 h ni nj mij li lj (par2_ok h (fk_ok h mk) li lj ne ml ⟨ns.1, ns.2.1⟩ mh) mo (sndFs h mf)) fun env => by simp only [evS]
      · rename_i i j l n p m' q o w a b c
        obtain ⟨m0, rfl⟩ := gd_some m
        cases g _ rfl
        simp only [Bool.and_eq_true, decide_eq_true_eq] at m0
        obtain ⟨mk, mi, mj, mo', mij, mil, mjl, ml, ml2, mh, mo, mf⟩ := m0
        obtain ⟨ni, li⟩ := nmP_ok h mi
        obtain ⟨nj, lj⟩ := nmP_ok h mj
        obtain ⟨nl, ll⟩ := nmP_ok h mo'
        have ns := mFs_ns mf
        simp only [nsts, Bool.and_eq_true] at ns
        have e1 : C.N[i]? = some n := by rw [← h.N]; exact ni
        have e2 : C.N[j]? = some m' := by rw [← h.N]; exact nj
        have e3 : C.N[l]? = some o := by rw [← h.N]; exact nl
        exact ss_cg (ss_par3 h ni nj nl mij mil mjl li lj ll (par3_ok h (fk_ok h mk) li lj ll (names_ne h.nd e1 e2 mij) (names_ne h.nd e1 e3 mil) (names_ne h.nd e2 e3 mjl) ml ml2 ⟨ns.1, ns.2.1, ns.2.2.1⟩ mh) mo (sndFs h mf)) fun env => by simp only [evS]
      · cases m
    · cases m
  | .put i k e, C, B, X, st, w, h, m, O, g => by
    simp only [mS] at m
    split at m
    · obtain ⟨m0, rfl⟩ := gd_some m
      cases g _ rfl
      simp only [Bool.and_eq_true, decide_eq_true_eq] at m0
      obtain ⟨m1, m2, m3, m4, m5, m6⟩ := m0
      exact ss_cg (ss_put h m1 (by simpa using m2) m3 m5 (sndE k C X _ h m4).1 (sndE e C X _ h m6).1) fun env => by simp only [evS]
    · cases m
  | .app i e, C, B, X, st, w, h, m, O, g => by
    simp only [mS] at m
    split at m
    · obtain ⟨m0, rfl⟩ := gd_some m
      cases g _ rfl
      simp only [Bool.and_eq_true, decide_eq_true_eq] at m0
      obtain ⟨m1, m2, m3, m4, m5, m6⟩ := m0
      subst m1
      exact ss_cg (ss_app h m2 (by simpa using m3) m4 m5 (sndE e C X _ h m6).1) fun env => by simp only [evS]
    · cases m
  | .ext i e, C, B, X, st, w, h, m, O, g => by
    simp only [mS] at m
    split at m
    · obtain ⟨m0, rfl⟩ := gd_some m
      cases g _ rfl
      simp only [Bool.and_eq_true, decide_eq_true_eq] at m0
      obtain ⟨m1, m2, m3, m4, m5, m6⟩ := m0
      subst m1
      exact ss_cg (ss_ext h m2 (by simpa using m3) m4 m5 (so_of h m6 fun z => (sndE e C X _ h z).1)) fun env => by simp only [evS]
    · cases m
  | .ex e, C, B, X, st, w, h, m, O, g => by
    simp only [mS] at m
    split at m
    · obtain ⟨m0, rfl⟩ := gd_some m
      cases g _ rfl
      simp only [Bool.and_eq_true] at m0
      exact ss_cg (ss_ex m0.1 (sndE e C X _ h m0.2).1) fun env => by simp only [evS]
    · cases m
  | .ret e, C, B, X, st, w, h, m, O, g => by
    simp only [mS] at m
    split at m
    · obtain ⟨m0, rfl⟩ := gd_some m
      exact ss_cg (ss_ret (sndE e C X _ h m0).1) fun env => by simp only [evS]
    · obtain ⟨m0, rfl⟩ := gd_some m
      split at m0
      · exact ss_cg ss_retN fun env => by simp only [evS, evE]
      · cases m0
    · cases m
  | .ife c a b, C, B, X, st, w, h, m, O, g => by
    simp only [mS] at m
    split at m
    · split at m
      · rename_i u v e1 e2 e3
        obtain ⟨g1, g2⟩ := jo_goes m g
        refine ss_cg (ss_if (sndE c C X _ h e1).2.1 (sndSs a C B X _ u h e2 O g1) (sndSs b C B X _ v h e3 O g2)) fun env => ?_
        simp only [evS, evT, asBool]
      · cases m
    · cases m
  | .whl c b, C, B, X, st, w, h, m, O, g => by
    simp only [mS] at m
    split at m
    · split at m
      · rename_i u e1 e2
        obtain ⟨m0, rfl⟩ := gd_some m
        cases g _ rfl
        have gu : Goes u C.own := fun o e => by
          rcases of_decide_eq_true m0 with z | z
          · rw [z] at e; cases e
          · rw [z] at e; cases e; rfl
        refine ss_cg (ss_whl h F (sndE c C X _ h e1).2.1 (sndSs b C C.own X _ u h e2 C.own gu)) fun env => ?_
        simp only [evS]
        rfl
      · cases m
    · cases m
  | .for_ tg it b, C, B, X, st, w, h, m, O, g => by
    simp only [mS] at m
    split at m
    · split at m
      · rename_i u e1 e2
        obtain ⟨m0, rfl⟩ := gd_some m
        cases g _ rfl
        simp only [Bool.and_eq_true] at e1
        have gu : Goes u C.own := fun o e => by
          rcases of_decide_eq_true m0 with z | z
          · rw [z] at e; cases e
          · rw [z] at e; cases e; rfl
        exact ss_cg (ss_for h e1.1 e1.2.1 (sndItS it C X _ _ h e1.2.2) (sndSs b C C.own X _ u h e2 C.own gu)) fun env => by simp only [evS]
      · cases m
    · cases m
  | .brk, C, B, X, st, w, h, m, O, g => by
    simp only [mS] at m
    split at m
    · obtain ⟨m0, rfl⟩ := gd_some m
      have e := of_decide_eq_true m0
      subst e
      exact ss_cg ss_brk fun env => by simp only [evS]
    · cases m
  | .raise, C, B, X, st, w, h, m, O, g => ss_cg ss_never fun env => by simp only [evS]
  | .rse c f e, C, B, X, st, w, h, m, O, g => by
    simp only [mS] at m
    split at m
    · obtain ⟨b, ew⟩ := gd_some m
      simp only [Bool.and_eq_true, decide_eq_true_eq] at b
      obtain ⟨rfl, b2, b3, b4, b5⟩ := b
      exact ss_cg (ss_rse h (by simpa using b3) b2 b4 (sndE e C X _ h b5).1) fun env => by simp only [evS]
    · cases m
  | .rse0 c, C, B, X, st, w, h, m, O, g => by simp only [mS] at m; cases m
  | .try_ b hs, C, B, X, st, w, h, m, O, g => by
    simp only [mS] at m
    split at m
    · rename_i bst h0 hds pos
      obtain ⟨b0, ew⟩ := gd_some m
      simp only [Bool.and_eq_true] at b0
      obtain ⟨b1, b2⟩ := b0
      have eo := g _ ew
      subst eo
      exact ss_cg (ss_try h (t1_ok (F := F) h b1) b2) fun env => by simp only [evS]
    · cases m
  | .frz i, C, B, X, st, w, h, m, O, g => by simp only [mS] at m; cases m
  | .doc, C, B, X, st, w, h, m, O, g => by
    simp only [mS] at m
    obtain ⟨m0, rfl⟩ := gd_some m
    cases g _ rfl
    unfold isDoc at m0
    split at m0
    · exact ss_cg ss_doc fun env => by simp only [evS]
    · exact ss_cg ss_pass fun env => by simp only [evS]
    · cases m0
  | .dAt i e, C, B, X, st, w, h, m, O, g => by
    simp only [mS] at m
    split at m
    · obtain ⟨m0, rfl⟩ := gd_some m
      cases g _ rfl
      simp only [Bool.and_eq_true, decide_eq_true_eq] at m0
      obtain ⟨m1, m2, m3, m4⟩ := m0
      subst m1
      exact ss_cg (ss_dAt h m2 m3 (sndE e C X _ h m4).1) fun env => by simp only [evS]
    · cases m
  | .dLeft i k e, C, B, X, st, w, h, m, O, g => by
    simp only [mS] at m
    split at m
    · obtain ⟨m0, rfl⟩ := gd_some m
      cases g _ rfl
      simp only [Bool.and_eq_true, decide_eq_true_eq] at m0
      obtain ⟨m1, m2, m3, m4, m5⟩ := m0
      subst m1
      exact ss_cg (ss_dLeft h m2 m3 m4 (sndE e C X _ h m5).1) fun env => by simp only [evS]
    · cases m
  | .dRet i e, C, B, X, st, w, h, m, O, g => by
    simp only [mS] at m
    split at m
    · obtain ⟨m0, rfl⟩ := gd_some m
      simp only [Bool.and_eq_true, decide_eq_true_eq] at m0
      obtain ⟨m1, m2, m3, m4, m5, m6, m7, m8⟩ := m0
      subst m1 m2 m3 m4
      exact ss_cg (ss_dRet h m5 (by simpa using m6) (freshL_list m7) ((sndE e C X _ h m8).2.2 (freshL_E m7))) fun env => by simp only [evS]
    · cases m
theorem sndSs : ∀ (ss : Ss) (C : Cz) (B : List Nat) (X : Cx) (sts : List Stmt) (w : Option (List Nat)), XOk C T X → mSs C B ss sts = some w → ∀ O, Goes w O → SSs C O B X sts (evSs T F ss)
  | .nil, C, B, X, sts, w, h, m, O, g => by
    simp only [mSs] at m
    obtain ⟨m0, rfl⟩ := gd_some m
    cases g _ rfl
    cases sts with
    | nil => exact sss_cg sss_nil fun env => by simp only [evSs]
    | cons => cases m0
  | .cons s ss, C, B, X, sts, w, h, m, O, g => by
    by_cases c : ∃ i, s = .frz i
    · obtain ⟨i, rfl⟩ := c
      simp only [mSs] at m
      exact sss_cg (ss_frz (sndSs ss _ B X sts w (h.ow _) m O g)) fun env => by
        simp only [evSs, evS]
        rfl
    · have m' := mSs_cons (C := C) (B := B) (ss := ss) (sts := sts) c
      rw [m] at m'
      cases sts with
      | nil => cases m'
      | cons st sts =>
        simp only at m'
        have m' := m'.symm
        split at m'
        · rename_i O1 e1
          refine sss_cg (ss_seq (sndS s C B X st _ h e1 O1 fun o e => by cases e; rfl) (sndSs ss _ B X sts w (h.ow _) m' O g)) fun env => ?_
          simp only [evSs] <;> rfl
        · rename_i e1
          refine sss_cg (ss_dead (F2 := evSs T F ss) (sndS s C B X st _ h e1 O fun o e => by cases e) (deadS s C B st e1)) fun env => ?_
          simp only [evSs] <;> rfl
        · cases m'
end
end
end Ev

end
section
set_option maxHeartbeats 8000000
/-! # Ev18: defs, the law's end -/
namespace Ev
open PySem PySem.Spec L2
variable [TabsC]
/-- a def, as it is looked at -/
structure Df where
  name : Str
  ps : List Str
  kws : List (Nat × List Nat)
  N : List Str
  gcd : Bool
  fns : List (Str × List Str × List (Nat × List Nat))
  cns : List Str
  ss : Ss
  lam : Bool
  xcs : List (Str × Option Str)
  hns : List HDef
def Df.cz (d : Df) (sc : Scope) : Cz := ⟨d.N, sc, fun _ => true, d.fns, d.cns, d.gcd, [], d.lam, d.xcs, d.hns⟩
def ckD (d : Df) (st : Stmt) : Bool := scB d.N d.ps (defScope st) && (mSs (d.cz (defScope st)) [] d.ss (defBody st)).isSome
/-- the addresses of what is no plain value -/
def faOf (mg : Str → Option Value) (x : Str) : Option Addr := match mg x with
  | some (.ref a) => some a
  | _ => none
theorem faOf_iff {mg : Str → Option Value} (x : Str) (a : Addr) : faOf mg x = some a ↔ mg x = some (.ref a) := by
  unfold faOf
  split
  · rename_i b e
    rw [e]
    constructor
    · intro z; cases z; rfl
    · intro z; cases z; rfl
  · rename_i h
    constructor
    · intro z; cases z
    · intro z; exact absurd z (h a)
/-- what the module's names are bound to -/
structure Md (P : Program) (K : PySem.W.Frag) (mg : Str → Option Value) : Prop where
  bl : ∀ x ∈ bnames, mg x = none
  fa : ∀ x a, TabsC.fa x = some a ↔ mg x = some (.ref a)
  xc : ∀ p ∈ TabsC.xcs, ∃ C : Addr, XcF P K mg p C
def FnP (P : Program) (w : World) (K : PySem.W.Frag) (mg : Str → Option Value) (base : Heap) (k : Nat) (fn : Fn) : Prop := ∃ f fd, FnG P w K mg base k f fd fn ∧ FnB K fd fn ∧ mg fn.name = some (.ref f) ∧ PySem.W.keepIn K (.ref f) = true
def CsP (K : PySem.W.Frag) (mg : Str → Option Value) (c : Str × D) : Prop := ∃ u v, mg c.1 = some u ∧ RelV v u ∧ ∀ G r, Dq K G r v c.2
section
variable {P : Program} {w : World} {K : PySem.W.Frag} {mg : Str → Option Value} {base : Heap}
theorem FnP.mono {j k : Nat} {fn : Fn} (h : FnP P w K mg base j fn) (l : j ≤ k) : FnP P w K mg base k fn := by
  obtain ⟨f, fd, g, r⟩ := h
  exact ⟨f, fd, ⟨fun A outer s H args us vs Q E xs ds G r hr => g.run A outer s H args us vs Q E xs ds G r (hr.mono l)⟩, r⟩
theorem ints_cs {c : Str × D} {i : Int} {t : Tok} (h : mg c.1 = some (.int i t)) (e : c.2 = .int i) : CsP K mg c := ⟨_, .int i, h, ⟨t, rfl⟩, fun G r => by rw [e]; exact .int i⟩
/-- a def that makes functions: its code object, its table -/
def LamAt (mg : Str → Option Value) (base : Heap) (name : Str) (fd : FuncData) : Prop := ∃ c P, fd.code = .ref c ∧ LamX.TabB base mg c P ∧ (P, name ++ ".<locals>." ++ "<lambda>") ∈ TabsC.tabs ∧ ∀ p ∈ TabsC.tabs, p.1 = P → p.2 = name ++ ".<locals>." ++ "<lambda>"
theorem fn_def {k : Nat} {f : Addr} {fd : FuncData} {d : Df} {T : Tb} {st : Stmt} (F : Fun K d.name d.name st f fd) (ck : ckD d st = true) (n : Nat) (hf : d.fns = T.fs.map fun f => (f.name, f.ps, f.kws)) (hc : d.cns = T.cs.map (·.1)) (M : Md P K mg)
    (hg : d.gcd = true → mg "gcd" = some (.builtin "math.gcd")) (cs : ∀ c ∈ T.cs, CsP K mg c) (fs : ∀ fn ∈ T.fs, FnP P w K mg base k fn) (m : Nat) (hm : d.lam = true → 4 ≤ m) (hlam : d.lam = true → LamAt mg base d.name fd) (hx : ∀ p ∈ d.xcs, p ∈ TabsC.xcs) (hm2 : d.xcs ≠ [] → 2 ≤ m) (hh : d.hns = T.hs) (HS : ∀ h ∈ T.hs, HdF K mg h) :
    FnG P w K mg base (k + m + 1) f fd ⟨d.name, d.ps, d.kws, run T n d.N.length d.ss⟩ := by
  simp only [ckD, Bool.and_eq_true] at ck
  obtain ⟨ck1, ck2⟩ := ck
  have S := scB_ok ck1
  obtain ⟨wo, mm⟩ := Option.isSome_iff_exists.mp ck2
  obtain ⟨oc, od, kV, doc, pm, an, cdv, ct, osl, rfl, lk, hcd⟩ := F.ex
  refine ⟨fun A outer s H args us vs Q EE xs ds G r hr hgd e0 hb rv hl sm dr hq hw => ?_⟩
  have lv : vs.length = d.ps.length := by rw [hq.length]; exact hl
  have inn : K.In s.heap := e0.mod.kin.keeps fun b o e => (e0.bs b o e).1
  have lim : s.heap.NoLimit := e0.mod.nolimit.keeps fun b o e => (e0.bs b o e).1
  have kinds : ∀ y ∈ d.ps.zip us, (defScope st).names.lookup y.1 = some .local ∨ ((defScope st).names.lookup y.1 = some .cell ∧ ((cellsFrom (s.heap.objs.size + 1) (defScope st).names []).lookup y.1).isSome = true) := by
    rintro ⟨m, v⟩ hy
    rcases S.par m (List.of_mem_zip hy).1 with q | q
    · exact .inl q
    · exact .inr ⟨q, PySem.W.cellsFrom_some _ _ _ (.inl q)⟩
  refine codeAny_call_function hr.depth (inn _ _ lk) rfl S.co S.gen rfl (PySem.W.codeRec_of inn hcd) (hb _ _ _ _ ?_)
  refine wpAny_newFunctionEnv_cells S.kind kinds fun env he s1 x => ?_
  subst he
  refine ⟨lim.keeps x.toInCall.keep, codeAny_func ?_⟩
  have I := inv_start (CX := L2.CX P w) (P := P) (w := w) (E := EE) (mg := mg) (base := base) (qual := d.name) (f := f) (cd := cdv) S hr.hd e0 lv rv x
  have XO : XOk (d.cz (defScope st)) T (cxOf (L2.CX P w) P w K mg base d.N d.name (defScope st) f cdv A outer s H EE) := by
    refine ⟨rfl, S.nd, rfl, rfl, passes_of rfl, fun _ _ => rfl, hgd, (hr.deeper _).mono (Nat.zero_le _), hf, hc, M.bl, hg, fun i y u e => ?_, fun j fn e => ?_, M.fa, hx, M.xc, fun e => ⟨(hr.deeper _).mono (Nat.le_trans (hm2 e) (by omega)), rfl, rfl⟩, hh, HS, fun e => ⟨(hr.deeper _).mono (Nat.le_trans (hm e) (by omega)), ?_, fun j fn e2 => ?_⟩⟩
    · obtain ⟨u', v, h1, h2, h3⟩ := cs _ (List.mem_of_getElem? e)
      exact ⟨u', v, h1, h2, h3⟩
    · obtain ⟨f', fd', h1, h2, h3, h4⟩ := fs _ (List.mem_of_getElem? e)
      exact ⟨k, f', fd', (hr.deeper _).mono (by omega), h1, h2, h3, h4⟩
    · exact hlam e
    · obtain ⟨f', fd', h1, h2, h3, h4⟩ := fs _ (List.mem_of_getElem? e2)
      have := hm e
      exact ⟨k, f', fd', (hr.deeper _).mono (by omega), h1, h2, h3, h4⟩
  obtain ⟨t, ps, sp⟩ := sndSs (F := n) d.ss _ [] _ (defBody st) wo XO mm (wo.getD []) fun o e => by rw [e]; rfl
  have SM : Sm K ⟨G, r, H⟩ [] (xs.map some ++ List.replicate (d.N.length - xs.length) none) ds G r (start d.N vs) H := by
    have hd : d.ps.length ≤ d.N.length := by
      have := congrArg List.length S.pre
      rw [List.length_take] at this
      omega
    have gt : ∀ (i : Nat) (z : D), (xs.map some ++ List.replicate (d.N.length - xs.length) none)[i]? = some (some z) → xs[i]? = some z := fun i z e => by
      by_cases c : i < xs.length
      · rw [List.getElem?_append_left (by simpa using c), List.getElem?_map] at e
        obtain ⟨a, e1, e2⟩ := Option.map_eq_some_iff.mp e
        rw [e1]; exact e2
      · rw [List.getElem?_append_right (by simpa using c), List.getElem?_replicate] at e
        split at e <;> cases e
    refine ⟨⟨sm, ?_, fun i z _ e => ?_, fun i z hi => by simp at hi, fun i j a hi => by simp at hi, dr⟩, Nx.refl sm dr, fun i z a hi => by simp at hi⟩
    · unfold L2.start
      rw [List.length_append, List.length_append, List.length_map, List.length_map, List.length_replicate, List.length_replicate, lv, hl]
    · obtain ⟨v, h1, h2⟩ := hq.get (gt i z e)
      refine ⟨v, ?_, h2⟩
      unfold L2.start
      have lt := (List.getElem?_eq_some_iff.mp h1).1
      rw [List.getElem?_append_left (by simpa using lt), List.getElem?_map, h1]
      rfl
  have w' : wpX (EXs (cxOf (L2.CX P w) P w K mg base d.N d.name (defScope st) f cdv A outer s H EE) ⟨G, r, H⟩) (evSs T n d.ss (xs.map some ++ List.replicate (d.N.length - xs.length) none) ds) (WF K ⟨G, r, H⟩ (wo.getD []) [] G r { nx := fun _ H' => Q .non H', rt := Q }) := by
    have w0 : wpX _ (run T n d.N.length d.ss xs ds) _ := hw
    unfold run at w0
    refine wpX_mono (wpX_bnd.mp w0) (fun fl ds1 w1 => ?_) fun x s' z cls dd σ' G' r' H' n v => le_wX (takes_of rfl rfl rfl rfl) (z cls dd G' r' H' n v)
    cases fl with
    | nx env' => exact fun σ' G' r' H' S1 l => wpX_ret w1 .non G' r' H' S1.nx .non
    | bk env' => exact w1.elim
    | rt z => exact fun v G' r' H' n1 h1 => wpX_ret w1 v G' r' H' n1 h1
  refine wpAny_mono (ps.run [] s1 (start d.N vs) H _ I (sp ⟨G, r, H⟩ _ ds G r (start d.N vs) H _ SM w')) (fun fl s' hs => ?_) fun e s' hs => ?_
  · have fin : ∀ {σ' : St} {H' : Hp} {v : V} {u : Value}, L2.Inv (cxOf (L2.CX P w) P w K mg base d.N d.name (defScope st) f cdv A outer s H EE) [] σ' H' s' → RelV v u → Q v H' → CE outer P w H s Q u s' :=
      fun {σ' H' v u} J rv' q => ⟨v, H', J.os, J.bare, J.base, J.hok, rv', q⟩
    cases fl with
    | ret u =>
      obtain ⟨v, σ', H', J, rv', q⟩ := hs
      exact fin J rv' q
    | next =>
      obtain ⟨σ', H', J, q⟩ := hs
      exact fin (v := V.non) (u := Value.none) J rfl q
    | brk =>
      obtain ⟨_, _, _, q⟩ := hs
      exact q.elim
    | cont =>
      obtain ⟨_, _, _, q⟩ := hs
      exact q.elim
  · refine wpAny_mono hs (fun _ _ z => ?_) fun _ _ z => ?_
    · exact z
    · exact z
end
open PyProof.Rows (AllBare IntsAre)
/-- the script as an argument -/
theorem dq_script {K : PySem.W.Frag} {H : Hp} {a : Addr} {ns : List Int} (h : SqL K H a (ns.map V.int)) : Dq K H none (.ref a) (scrD ns) := by
  cases ns with
  | nil => exact .scr0 h
  | cons n ns => exact .scr h
section
variable {P : Program} {w : World} {K : PySem.W.Frag} {mg mb : Str → Option Value} {k : Nat} {fa a : Addr} {fd : FuncData} {x : Str} {fn : Fn} {t : Shared} {us : List Value} {ns : List Int}
/-- the tables of some defs' code objects: code object, table, what is made is named -/
abbrev tabsOf (cs : List (Addr × Addr × Str)) : List (Addr × Str) := cs.map fun p => (p.2.1, p.2.2)
/-- what is known of the tables as the law is entered -/
structure TabsAt (K : PySem.W.Frag) (mg : Str → Option Value) (cs : List (Addr × Addr × Str)) (h : Heap) : Prop where
  tab : ∀ p ∈ cs, h.get? p.2.1 = some (PySem.W.tabObj #[])
  out : ∀ p ∈ cs, K.lookup p.2.1 = none
  cod : ∀ p ∈ cs, PySem.W.CodeHd h p.1 p.2.1
  bm : ∃ (bm : Addr) (ob : Obj), mg "__builtins__" = some (.ref bm) ∧ bm ≠ builtinsNs ∧ h.get? bm = some ob ∧ ob.cls = .type "module" ∧ ob.dict = some builtinsNs ∧ ob.data = .plain
omit [TabsC] in
/-- a run from an abstract heap that knows the script and the tables alone -/
theorem run_from {cs : List (Addr × Addr × Str)} {xcl : List (Str × Option Str)} {H0 : Hp} (kin : K.In t.heap) (n1 : t.heap.Ns mainGlobals mg) (n2 : t.heap.Ns builtinsNs mb) (n3 : ∀ x : Str, x ≠ "__name__" → mb x = bootBuiltins x) (nl : t.heap.NoLimit) (ng : t.gens = #[]) (TA : TabsAt K mg cs t.heap)
    (ob : t.heap.get? a = some { cls := .type "list", data := .seq us.toArray }) (room : Room k callerA) (F : ∀ base : Heap, K.In base → base.Ns mainGlobals mg → (∀ p ∈ cs, LamX.TabB base mg p.1 p.2.1) → @FnG ⟨tabsOf cs, faOf mg, xcl⟩ P w K mg base k fa fd fn) (bd : ∀ (s : Shared) (u : Value), BindsTo s fd ⟨[u], []⟩ [(x, u)]) (ps : fn.ps = [x])
    (law : wpR (fn.m [scrD ns] none) fun d _ => d = .bool true) (only : Only H0) (sq : SqL K H0 a (ns.map V.int)) (ok : HOk P w H0 t.heap) (alone : ∀ b, H0 b ≠ none → b = a) (out : H0 a ≠ none → K.lookup a = none) :
    codeAny (model P w) callerA (.call (.ref fa) ⟨[.ref a], []⟩) (fun r s' => r = .ok (.ret (.bool true)) ∧ OldK t.heap s'.heap ∧ s'.os = t.os ∧ AllBare s'.gens) t := by
  letI tc : TabsC := ⟨tabsOf cs, faOf mg, xcl⟩
  -- the tables
  have isT : ∀ b, b ∈ cs.map (·.2.1) → t.heap.get? b = some (PySem.W.tabObj #[]) ∧ K.lookup b = none := fun b hb => by
    obtain ⟨p, hp, rfl⟩ := List.mem_map.mp hb
    exact ⟨TA.tab p hp, TA.out p hp⟩
  have aT : a ∉ cs.map (·.2.1) := fun z => by
    have q := (isT a z).1
    rw [ob] at q; cases q
  let H : Hp := fun b => if b ∈ cs.map (·.2.1) then some (.tbl #[]) else H0 b
  have hT : ∀ b, b ∈ cs.map (·.2.1) → H b = some (.tbl #[]) := fun b hb => if_pos hb
  have hO : ∀ b, b ∉ cs.map (·.2.1) → H b = H0 b := fun b hb => if_neg hb
  have h0T : ∀ b, b ∈ cs.map (·.2.1) → H0 b = none := fun b hb => by
    cases q : H0 b with
    | none => rfl
    | some z =>
      have e := alone b (by rw [q]; simp)
      rw [e] at hb; exact absurd hb aT
  have up : Same H0 H := fun b u e => by
    rw [hO b fun z => by rw [h0T b z] at e; cases e]; exact e
  have okH : HOk P w H t.heap := fun b u e => by
    by_cases z : b ∈ cs.map (·.2.1)
    · rw [hT b z] at e
      cases e
      exact (isT b z).1
    · rw [hO b z] at e
      refine (ok b u e).stay (fun _ _ _ q => q) (fun c q => up _ _ q) fun c xs q => up _ _ q
  have hide : ∀ {b : Addr} {o : Obj}, t.heap.get? b = some o → H b = none → (hidT t.heap H).get? b = some o := fun g n => hidT_get g n
  have free : ∀ {b : Addr} {o : Obj}, t.heap.get? b = some o → (∀ v n, o.data ≠ .seq v n) → o.data ≠ .fields #[] → H b = none := by
    intro b o g d1 d2
    by_cases z : b ∈ cs.map (·.2.1)
    · have q := (isT b z).1
      rw [g] at q
      cases q
      exact absurd rfl d2
    · rw [hO b z]
      cases q : H0 b with
      | none => rfl
      | some y =>
        have e := alone b (by rw [q]; simp)
        rw [e, ob] at g
        cases g
        exact absurd rfl (d1 _ _)
  have nsq : ∀ {b : Addr} {m : Str → Option Value}, t.heap.Ns b m → (hidT t.heap H).Ns b m := by
    rintro b m ⟨o, es, ep, g, d, z⟩
    exact ⟨o, es, ep, hide g (free g (fun v n y => by rw [d] at y; cases y) fun y => by rw [d] at y; cases y), d, z⟩
  have kb : K.In (hidT t.heap H) := by
    intro b o g
    refine hide (kin b o g) ?_
    by_cases z : b ∈ cs.map (·.2.1)
    · rw [(isT b z).2] at g; cases g
    · rw [hO b z]
      cases q : H0 b with
      | none => rfl
      | some y =>
        have e := alone b (by rw [q]; simp)
        rw [e] at g q
        rw [out (by rw [q]; simp)] at g
        cases g
  have md : Mod K mg (hidT t.heap H) := ⟨kb, nsq n1, ⟨mb, nsq n2, n3⟩, (let ⟨mc, y1, y2⟩ := nl; ⟨mc, nsq y1, y2⟩)⟩
  have env0 : Env0 P w K mg (hidT t.heap H) callerA [] t H := ⟨rfl, md, fun b o g => of_hidT g, Nat.le_of_eq (hidT_size _ _), trivial, fun b hb => absurd (show b ∈ ([] : List Addr) from hb) (by simp), okH, .of_eq ng⟩
  have TB : ∀ p ∈ cs, LamX.TabB (hidT t.heap H) mg p.1 p.2.1 := fun p hp => by
    have tp := TA.tab p hp
    refine ⟨?_, ?_, fun z => ?_⟩
    · obtain ⟨o, ws, file, tf, flags, tg, inF, text, tt, g, r1, r2, r3, rest⟩ := TA.cod p hp
      refine ⟨o, ws, file, tf, flags, tg, inF, text, tt, hide g (free g (fun v n y => by rw [r2] at y; cases y) fun y => ?_), r1, r2, r3, rest⟩
      rw [r2] at y
      cases y
      simp at r3
    · obtain ⟨bm, o, b1, b2, b3, b4, b5, b6⟩ := TA.bm
      have m1 : bm ≠ mainGlobals := fun q => by
        obtain ⟨o2, es, ep, g, d, _⟩ := n1
        rw [q, g] at b3; cases b3
        rw [d] at b6; cases b6
      have m2 : bm ≠ p.2.1 := fun q => by
        rw [q, tp] at b3; cases b3; cases b6
      exact ⟨bm, o, b1, b2, m1, m2, hide b3 (free b3 (fun v n y => by rw [b6] at y; cases y) fun y => by rw [b6] at y; cases y), b4, b5, b6⟩
    · obtain ⟨o2, es, ep, g, d, _⟩ := n1
      rw [z, tp] at g; cases g; cases d
  have bd' : BindsTo t fd ⟨[.ref a], []⟩ (fn.ps.zip [.ref a]) := by rw [ps]; exact bd t (.ref a)
  have dr : DrOk none H0 none H := ⟨trivial, fun p hp => by
    obtain ⟨q, hq, rfl⟩ := List.mem_map.mp (show p ∈ tabsOf cs from hp)
    exact LamX.TabS.nil (hT _ (List.mem_map.mpr ⟨q, hq, rfl⟩)), fun p hp => by
    obtain ⟨q, hq, rfl⟩ := List.mem_map.mp (show p ∈ tabsOf cs from hp)
    exact h0T _ (List.mem_map.mpr ⟨q, hq, rfl⟩)⟩
  have run := (F _ kb (nsq n1) TB).run callerA [] t H ⟨[.ref a], []⟩ [.ref a] [.ref a] (fun v _ => v = .bl true) (fun _ _ _ => False) [scrD ns] none H0 none room rfl env0 bd' (.cons rfl .nil) (by rw [ps]; rfl) up dr (.cons (dq_script sq) .nil)
    (wpX_mono (wpX_F.mpr law) (fun d ds' e v G' r' H' _ q => by
      subst e
      cases q
      rfl) fun _ _ z => z.elim)
  refine codeAny_mono run fun r s' hr => ?_
  cases r with
  | error e =>
    obtain ⟨_, _, _, _, _, _, _, _, _, _, _, _, z⟩ := hr
    exact z.elim
  | ok fl =>
    cases fl with
    | next => exact hr.elim
    | brk => exact hr.elim
    | cont => exact hr.elim
    | ret u =>
      obtain ⟨v, H', hos, hbare, hun, hok, hrel, hv⟩ := hr
      subst hv
      cases hrel
      have keep : ∀ b o, b ∉ cs.map (·.2.1) → t.heap.get? b = some o → s'.heap.get? b = some o := fun b o nb g => by
        cases q : H b with
        | none => exact hun.keep b o g q (by intro z; exact absurd (show b ∈ ([] : List Addr) from z) (by simp)) (by simp)
        | some z =>
          rw [hO b nb] at q
          rcases only b with y | ⟨ob', xs, y⟩
          · rw [q] at y; cases y
          · have y' := up _ _ y
            obtain ⟨e1, _⟩ := okH b _ y'
            obtain ⟨e2, _⟩ := hok b _ (hun.frzs b ob' _ y')
            rw [g] at e1
            cases e1
            exact e2
      have grow : ∀ b, b ∈ cs.map (·.2.1) → ∃ more : Array Value, s'.heap.get? b = some { cls := .none, data := .fields more } := fun b hb => by
        obtain ⟨more, z⟩ := hun.tbls b #[] (hT b hb)
        exact ⟨_, hok b _ z⟩
      refine ⟨rfl, ⟨fun b o g => ?_, fun b o g => ?_⟩, hos, hbare⟩
      · by_cases z : b ∈ cs.map (·.2.1)
        · obtain ⟨p, hp, e⟩ := List.mem_map.mp z
          have g2 := (isT b z).1
          obtain ⟨more, hm⟩ := grow b z
          rw [g] at g2
          cases g2
          have tb := ((TA.cod p hp).tab (TA.tab p hp)).isCodeTable
          rw [e] at tb
          exact .inr (.inl ⟨tb, rfl, #[], more, rfl, by rw [Array.empty_append]; exact hm⟩)
        · exact .inl (keep b o z g)
      · by_cases z : b ∈ cs.map (·.2.1)
        · obtain ⟨more, hm⟩ := grow b z
          exact ⟨_, hm⟩
        · exact ⟨o, keep b o z g⟩
omit [TabsC] in
theorem run_law {cs : List (Addr × Addr × Str)} {xcl : List (Str × Option Str)} (kin : K.In t.heap) (n1 : t.heap.Ns mainGlobals mg) (n2 : t.heap.Ns builtinsNs mb) (n3 : ∀ x : Str, x ≠ "__name__" → mb x = bootBuiltins x) (nl : t.heap.NoLimit) (ng : t.gens = #[]) (TA : TabsAt K mg cs t.heap)
    (ob : t.heap.get? a = some { cls := .type "list", data := .seq us.toArray }) (ia : IntsAre us ns) (sz : ns.length ≤ sizeLine) (room : Room k callerA) (F : ∀ base : Heap, K.In base → base.Ns mainGlobals mg → (∀ p ∈ cs, LamX.TabB base mg p.1 p.2.1) → @FnG ⟨tabsOf cs, faOf mg, xcl⟩ P w K mg base k fa fd fn) (bd : ∀ (s : Shared) (u : Value), BindsTo s fd ⟨[u], []⟩ [(x, u)]) (ps : fn.ps = [x])
    (law : wpR (fn.m [scrD ns] none) fun d _ => d = .bool true) :
    codeAny (model P w) callerA (.call (.ref fa) ⟨[.ref a], []⟩) (fun r s' => r = .ok (.ret (.bool true)) ∧ OldK t.heap s'.heap ∧ s'.os = t.os ∧ AllBare s'.gens) t := by
  have rv := vals_ints ia
  have len := ia.length
  cases lk : K.lookup a with
  | some o =>
    have e := kin a o lk
    rw [ob] at e
    cases e
    have sq : SqL K (fun _ => none) a (ns.map V.int) := .inr ⟨_, us.toArray, _, lk, rfl, rfl, rfl, by rw [List.size_toArray, len]; exact sz, by simpa using rv⟩
    exact run_from (H0 := fun _ => none) kin n1 n2 n3 nl ng TA ob room F bd ps law (fun _ => .inl rfl) sq (fun b u z => by cases z) (fun b z => absurd rfl z) fun z => absurd rfl z
  | none =>
    let H : Hp := fun b => if b = a then some (.frz { cls := .type "list", data := .seq us.toArray } (.lst (ns.map V.int))) else none
    have at1 : H a = some (.frz { cls := .type "list", data := .seq us.toArray } (.lst (ns.map V.int))) := if_pos rfl
    have at2 : ∀ b, b ≠ a → H b = none := fun b n => if_neg n
    refine run_from (H0 := H) kin n1 n2 n3 nl ng TA ob room F bd ps law (fun b => ?_) (.inl (.inr ⟨_, at1⟩)) (fun b u z => ?_) (fun b z => Classical.byContradiction fun y => z (at2 b y)) fun _ => lk
    · by_cases c : b = a
      · rw [c]; exact .inr ⟨_, _, at1⟩
      · exact .inl (at2 b c)
    · by_cases c : b = a
      · subst c
        rw [at1] at z
        cases z
        exact ⟨ob, by rw [List.length_map]; exact sz, us, _, rv, ob⟩
      · rw [at2 b c] at z; cases z
end
omit [TabsC] in
/-- the goal that k_head leaves -/
theorem walk_law {l : PySem.W.OpenLaw} {n k : Nat} {q : Program} {loose : List Str} {XP : (Str → Option Value) → Heap → Prop} {YP : World → Heap → Prop} {d : DefRec} {K : Params → PySem.W.Frag} {x : Str} {fn : Fn} (hn : l.most = some n) (hn2 : n ≤ sizeLine) (hdf : d.params.defaults = []) (room : Room k callerA)
    (hY : ∀ (w : World) (h : Heap), YP w h → (K w.params).In h)
    (F : ∀ (w : World) (mg : Str → Option Value) (fa : Addr) (h : Heap), (K w.params).In h → h.Ns mainGlobals mg → mg d.name = some (.ref fa) →
      ∃ (fd : FuncData) (cs : List (Addr × Addr × Str)) (xcl : List (Str × Option Str)), (∀ (s : Shared) (u : Value), BindsTo s fd ⟨[u], []⟩ [(x, u)]) ∧ (∀ (lo : List Str) (mn : ExcName → Option Value) (mb : Str → Option Value), PyProof.Rows.Top q lo mn mg mb h → TabsAt (K w.params) mg cs h) ∧
        ∀ base : Heap, (K w.params).In base → base.Ns mainGlobals mg → (∀ p ∈ cs, LamX.TabB base mg p.1 p.2.1) → @FnG ⟨tabsOf cs, faOf mg, xcl⟩ l.prog w (K w.params) mg base k fa fd fn)
    (ps : fn.ps = [x]) (law : ∀ ns : List Int, ns.length ≤ n → wpR (fn.m [scrD ns] none) fun d _ => d = .bool true) :
    PySem.W.WalkO q loose XP YP l.row.toRowW d [] (fun f vs => PySem.call f vs) := by
  refine Att.attach_call hn hdf fun w s₀ t mg mb fa o pm cd doc a us ns G Y _ _ _ hmg ob ia sz ng => ?_
  have kin : (K w.params).In t.heap := hY w _ Y
  obtain ⟨fd, cs, xcl, bd, TA, hF⟩ := F w mg fa _ kin G.T.g hmg
  exact run_law kin G.T.g G.T.b G.T.builtins G.T.nolimit ng (TA _ _ _ G.T) ob ia (Nat.le_trans sz hn2) room hF bd ps (law ns sz)
omit [TabsC] in
/-- no tables -/
theorem tabs_nil {q : Program} {lo : List Str} {mn : ExcName → Option Value} {mg mb : Str → Option Value} {h : Heap} {K : PySem.W.Frag} (T : PyProof.Rows.Top q lo mn mg mb h) : TabsAt K mg [] h := ⟨fun p hp => by simp at hp, fun p hp => by simp at hp, fun p hp => by simp at hp, T.bmain⟩
omit [TabsC] in
/-- one def's table more -/
theorem tabs_cons {q : Program} {lo : List Str} {mn : ExcName → Option Value} {mg mb : Str → Option Value} {h : Heap} {K : PySem.W.Frag} {cs : List (Addr × Addr × Str)} {d : DefRec} {x : Str} {c P : Addr} {y : Str} (T : PyProof.Rows.Top q lo mn mg mb h) (X : K.In h) (hr : (PyProof.Rows.recsOf q).find? (fun e => e.name == x) = some d)
    (ht : PySem.W.tabIn K x = some (c, P)) (hn : PySem.W.noTabs K = true) (r : TabsAt K mg cs h) : TabsAt K mg ((c, P, y) :: cs) h := by
  obtain ⟨t1, t2⟩ := PySem.W.tab_of T X hr ht
  refine ⟨fun p hp => ?_, fun p hp => ?_, fun p hp => ?_, r.bm⟩
  · rcases List.mem_cons.mp hp with rfl | z
    · exact t2
    · exact r.tab p z
  · rcases List.mem_cons.mp hp with rfl | z
    · show K.lookup P = none
      cases q2 : K.lookup P with
      | none => rfl
      | some o =>
        have e := X P o q2
        rw [t2] at e
        cases e
        have h2 := List.all_eq_true.mp hn (P, PySem.W.tabObj #[]) (PySem.W.mem_of_lookupK q2)
        exact absurd (show false = true from h2) Bool.false_ne_true
    · exact r.out p z
  · rcases List.mem_cons.mp hp with rfl | z
    · exact t1
    · exact r.cod p z
end Ev

end
section
set_option maxHeartbeats 8000000
/-! # Ev19: short words for a law's defs -/
namespace Ev
open PySem PySem.Spec L2
theorem fnB_of {K : PySem.W.Frag} {x : Str} {st : Stmt} {f : Addr} {fd : FuncData} {fn : Fn} (F : Fun K x x st f fd)
    (hp : ∀ (kV doc pm : Value) (an : Option Addr) (cdv ct : Value) (us : List Value), us.length = fn.ps.length → bindArgs (PySem.W.fnOf x x (defArgs st) (defBody st) (defScope st) .none kV doc pm an cdv ct) ⟨us, []⟩ = pure (fn.ps.zip us))
    (hk : ∀ (n : Nat) (js : List Nat), (n, js) ∈ fn.kws → ∀ (kV doc pm : Value) (an : Option Addr) (cdv ct : Value) (us ws as : List Value), us.length = n → ws.length = js.length → argsOf fn.ps.length us (js.zip ws) = some as →
      bindArgs (PySem.W.fnOf x x (defArgs st) (defBody st) (defScope st) .none kV doc pm an cdv ct) ⟨us, (js.map fun j => fn.ps.getD j "").zip ws⟩ = pure (fn.ps.zip as)) : FnB K fd fn := by
  obtain ⟨oc, od, kV, doc, pm, an, cdv, ct, osl, rfl, lk, hcd⟩ := F.ex
  exact ⟨fun s us hl => .of_eq (hp kV doc pm an cdv ct us hl), fun n js hm s us ws as l1 l2 e => .of_eq (hk n js hm kV doc pm an cdv ct us ws as l1 l2 e)⟩
theorem fq_mk {K : PySem.W.Frag} {h : Heap} {mg : Str → Option Value} {x : Str} {st : Stmt} {f : Addr} {oc : Value} {od an : Option Addr} {osl : Array (Option Value)} {kV doc pm cdv ct : Value} (X : K.In h) (G : h.Ns mainGlobals mg) (a : PySem.W.nsIn K mainGlobals x = some (some (.ref f)))
    (l : K.lookup f = some ⟨oc, od, .func (PySem.W.fnOf x x (defArgs st) (defBody st) (defScope st) .none kV doc pm an cdv ct), osl⟩) (c : PySem.W.codeIn K cdv x = true) (k : PySem.W.keepIn K (.ref f) = true) : ∃ f fd, mg x = some (.ref f) ∧ Fun K x x st f fd :=
  ⟨f, _, PySem.W.mg_of X G a, fun_mk l c k⟩
/-- a def that makes functions: its code object and the table of what it makes -/
theorem fq_lam {K : PySem.W.Frag} {h : Heap} {mg : Str → Option Value} {x : Str} {st : Stmt} {f cc P : Addr} {oc oc2 : Value} {od an od2 : Option Addr} {osl osl2 : Array (Option Value)} {kV doc pm ct : Value} {vs : Array Value} (X : K.In h) (G : h.Ns mainGlobals mg) (a : PySem.W.nsIn K mainGlobals x = some (some (.ref f)))
    (l : K.lookup f = some ⟨oc, od, .func (PySem.W.fnOf x x (defArgs st) (defBody st) (defScope st) .none kV doc pm an (.ref cc) ct), osl⟩) (c : PySem.W.codeIn K (.ref cc) x = true) (k : PySem.W.keepIn K (.ref f) = true) (l2 : K.lookup cc = some ⟨oc2, od2, .fields vs, osl2⟩) (v : vs[11]? = some (.ref P)) :
    ∃ f fd cc P, mg x = some (.ref f) ∧ Fun K x x st f fd ∧ fd.code = .ref cc ∧ PySem.W.tabIn K x = some (cc, P) := by
  refine ⟨f, _, cc, P, PySem.W.mg_of X G a, fun_mk l c k, rfl, ?_⟩
  unfold PySem.W.tabIn
  simp only [a, l, l2, v]
theorem tabs_ne {K : PySem.W.Frag} {x y : Str} {c P c' P' : Addr} (t : PySem.W.tabIn K x = some (c, P)) (t' : PySem.W.tabIn K y = some (c', P')) (e : ((PySem.W.tabIn K x).map (·.2) == (PySem.W.tabIn K y).map (·.2)) = false) : P ≠ P' := fun z => by
  rw [t, t', z] at e
  simp at e
theorem fnB_same {K : PySem.W.Frag} {fd : FuncData} {fn fn' : Fn} (b : FnB K fd fn) (e : fn'.ps = fn.ps) (e2 : fn'.kws = fn.kws) : FnB K fd fn' := by
  cases fn
  cases fn'
  cases e
  cases e2
  exact ⟨b.pos, b.kw⟩
theorem fn_stuck [TabsC] {P : Program} {w : World} {K : PySem.W.Frag} {mg : Str → Option Value} {base : Heap} {k : Nat} {f : Addr} {fd : FuncData} {x : Str} {ps : List Str} {kws : List (Nat × List Nat)} : FnG P w K mg base k f fd ⟨x, ps, kws, fun _ => stk⟩ :=
  ⟨by
    intro A outer s H args us vs Q E xs ds G r h1 h2 h3 h4 h5 h6 h7 h8 h9 hw
    exact False.elim hw⟩
theorem nNil {K : PySem.W.Frag} : ∀ x ∈ ([] : List Str), PySem.W.nsIn K mainGlobals x = some none := fun x h => by cases h
theorem nCons {K : PySem.W.Frag} {x : Str} {xs : List Str} (h : PySem.W.nsIn K mainGlobals x = some none) (t : ∀ y ∈ xs, PySem.W.nsIn K mainGlobals y = some none) : ∀ y ∈ x :: xs, PySem.W.nsIn K mainGlobals y = some none := fun y hy => by
  rcases List.mem_cons.mp hy with z | z
  · rw [z]; exact h
  · exact t y z
theorem bl_of {K : PySem.W.Frag} {h : Heap} {mg : Str → Option Value} (X : K.In h) (G : h.Ns mainGlobals mg) (e : ∀ x ∈ bnames, PySem.W.nsIn K mainGlobals x = some none) : ∀ x ∈ bnames, mg x = none := fun x hx => PySem.W.mg_none_of X G (e x hx)
section
variable [TabsC] {P : Program} {w : World} {K : PySem.W.Frag} {mg : Str → Option Value} {base : Heap} {k : Nat}
theorem csNil : ∀ c ∈ ([] : List (Str × D)), CsP K mg c := fun c h => by cases h
theorem csCons {c : Str × D} {cs : List (Str × D)} (h : CsP K mg c) (t : ∀ c ∈ cs, CsP K mg c) : ∀ d ∈ c :: cs, CsP K mg d := fun d hd => by
  rcases List.mem_cons.mp hd with z | z
  · rw [z]; exact h
  · exact t d z
theorem csInt {x : Str} {i : Int} (h : ∃ t, mg x = some (.int i t)) : CsP K mg (x, .int i) := by
  obtain ⟨t, h⟩ := h
  exact ints_cs h rfl
abbrev CsO {K : PySem.W.Frag} {h : Heap} (_ : K.In h) (mg : Str → Option Value) (c : Str × D) : Prop := CsP K mg c
theorem csT {hh : Heap} {x : Str} {a : Addr} {is : List Int} {od : Option Addr} {its : Array Value} {n : Nat} {sl : Array (Option Value)} (X : K.In hh) (G : hh.Ns mainGlobals mg) (h : PySem.W.nsIn K mainGlobals x = some (some (.ref a))) (l : K.lookup a = some ⟨.type "tuple", od, .seq its n, sl⟩) (v : its.size ≤ sizeLine ∧ Vals (is.map V.int) its.toList) : CsP K mg (x, .tuple (is.map .int)) :=
  ⟨_, .ref a, PySem.W.mg_of X G h, rfl, fun G r => .tup (.inr ⟨_, its, n, l, rfl, rfl, v.1, v.2⟩) (dq_ints is)⟩
theorem fsNil : ∀ f ∈ ([] : List Fn), FnP P w K mg base k f := fun c h => by cases h
theorem fsCons {f : Fn} {fs : List Fn} (h : FnP P w K mg base k f) (t : ∀ f ∈ fs, FnP P w K mg base k f) : ∀ g ∈ f :: fs, FnP P w K mg base k g := fun d hd => by
  rcases List.mem_cons.mp hd with z | z
  · rw [z]; exact h
  · exact t d z
end
end Ev

end
section
set_option maxHeartbeats 8000000
/-! # Ev20: short words for the errors' classes and the hearing defs -/
namespace Ev
open PySem PySem.Spec L2
/-- what is known of a class by itself -/
structure XcB (K : PySem.W.Frag) (x : Str) (C : Addr) : Prop where
  ns : PySem.W.nsIn K mainGlobals x = some (some (.ref C))
  dbg : (x == ("__debug__" : Str)) = false
  isf : EvX.IsF K C
  xf : XfC K C
  ty : PySem.W.typeIn K (.ref C) = some (.type "type")
theorem xcb_mk {K : PySem.W.Frag} {h : Heap} {x : Str} {C : Addr} {cd : ClassData} (_X : K.In h) (a : PySem.W.nsIn K mainGlobals x = some (some (.ref C))) (dbg : (x == ("__debug__" : Str)) = false) (c1 : PySem.W.clsIn K C = some cd) (ga : PySem.W.findIn K (.ref C) "__getattribute__" = some (some (.builtin "BaseException.__getattribute__")))
    (gt : PySem.W.findIn K (.ref C) "__getattr__" = some none) (be : PySem.W.subIn K (.ref C) (.type "BaseException") = some true) (ca : PySem.W.findIn K (.ref C) "__class__" = some (some (.builtin "object.__class__")))
    (gs : PySem.W.specialIn K (.builtin "object.__class__") "__get__" = some (some (.builtin "getset_descriptor.__get__"))) (tk : PySem.W.takesIn K (.builtin "object.__class__") = some true) (ob : PySem.W.mroIn K C (.type "object") = some true) (hd : PySem.W.hasDictIn K C = true)
    (ty : PySem.W.typeIn K (.ref C) = some (.type "type")) : ∃ C, XcB K x C :=
  ⟨C, a, dbg, ⟨by rw [c1]; rfl, ga, gt, be, ca, gs, tk, ob⟩, ⟨ga, gt, be, hd⟩, ty⟩
/-- what is known of a class with a field -/
structure XcI (P : Program) (K : PySem.W.Frag) (mg : Str → Option Value) (x f : Str) (C : Addr) : Prop where
  ns : PySem.W.nsIn K mainGlobals x = some (some (.ref C))
  no : PySem.W.findIn K (.ref C) f = some none
  ini : ∃ (fI : Addr) (fd : FuncData) (q : Str), EvX.IniF P K mg C fI fd q f ∧ PySem.W.findIn K (.ref C) "__init__" = some (some (.ref fI)) ∧ PySem.W.typeIn K (.ref fI) = some (.type "function") ∧
    ∀ u v : Value, bindArgs fd ⟨[u, v], []⟩ = pure ([("self", u), (q, v)] : List (Str × Value))
theorem xci_mk {P : Program} {K : PySem.W.Frag} {h : Heap} {mg : Str → Option Value} {x f p : Str} {C fI cda cc N : Addr} {nm q : Str} {bs bm sub : List Value} {sn : List Str} {ab : Bool} {col : Option Bool} {dd : Option Addr} {k0 k1 k2 k3 k5 : Option Value}
    {oc ccl cl dV kV doc pm ct : Value} {od an cdd cld : Option Addr} {osl ccs csl : Array (Option Value)} {qual file : Str} {params : Arguments} {scope : Scope} {ar : Arg} {vs : Array Value} {tf : Tok} {p0 p1 p2 p3 p4 p5 p6 p7 p8 p9 : Pos} (X : K.In h) (G : h.Ns mainGlobals mg)
    (a : PySem.W.nsIn K mainGlobals x = some (some (.ref C))) (l : K.lookup C = some (excClassObj nm q C N bs bm true sn sub ab col dd k0 k1 k2 k3 k5 "ValueError.__new__")) (no : PySem.W.findIn K (.ref C) f = some none) (sa : PySem.W.findIn K (.ref C) "__setattr__" = some (some (.builtin "object.__setattr__")))
    (be : PySem.W.subIn K (.ref C) (.type "BaseException") = some true) (ty : PySem.W.typeIn K (.ref C) = some (.type "type")) (kp : PySem.W.keepIn K (.ref C) = true) (ve : PySem.W.subIn K (.ref C) (.type "ValueError") = some true) (self : PySem.W.mroIn K C (.ref C) = some true)
    (opq : PySem.W.nsIn K cStatics "thirdparty.any" = some none) (i1 : PySem.W.findIn K (.ref C) "__init__" = some (some (.ref fI))) (i2 : PySem.W.typeIn K (.ref fI) = some (.type "function"))
    (lk : K.lookup fI = some ⟨oc, od, .func (PySem.W.ksFn "__init__" qual params [.Expr (.Call (.Attribute (.Call (.Name "super" p0) [] [] p1) "__init__" p2) [.Name p p3] [] p4) p5, .Assign [.Attribute (.Name "self" p6) f p7] (.Name p p8) p9] scope dV kV doc pm an (.ref cda) ct cc), osl⟩)
    (hcd : PySem.W.codeIn K (.ref cda) qual = true) (lcd : K.lookup cda = some ⟨ccl, cdd, .fields vs, ccs⟩) (lcc : K.lookup cc = some ⟨cl, cld, .cell (some (.ref C)), csl⟩) (ms : PySem.W.nsIn K mainGlobals "super" = some none)
    (refs : PySem.HandSPX.refsVE bm = true) (sup : PySem.W.ks_superIn K C C "__init__" = some (some (.builtin "ValueError.__init__"))) (har : (params.posonlyargs ++ params.args).head? = some ar) (har2 : ar.arg = "self") (hvs : vs[2]? = some (.str file tf)) (hfile : ((P.main.file : Str) == file) = true)
    (n1 : scope.names.lookup ("super" : Str) = some .globalImplicit) (n2 : scope.names.lookup ("__class__" : Str) = some .free) (n3 : scope.names.lookup ("self" : Str) = some .local) (n4 : scope.names.lookup p = some .local) (n5 : scope.names.all fun y => decide (y.2 ≠ .cell))
    (n6 : scope.isCoroutine = false) (n7 : scope.isGenerator = false) (n8 : scope.kind = .function) (n9 : p2.endLine = p4.line) (top : (P.main.scope.names.lookup ("super" : Str)).isSome = false) (pd : (p == ("__debug__" : Str)) = false) (ps : (p == ("self" : Str)) = false)
    (hb : ∀ u v : Value, bindArgs (PySem.W.ksFn "__init__" qual params [.Expr (.Call (.Attribute (.Call (.Name "super" p0) [] [] p1) "__init__" p2) [.Name p p3] [] p4) p5, .Assign [.Attribute (.Name "self" p6) f p7] (.Name p p8) p9] scope dV kV doc pm an (.ref cda) ct cc) ⟨[u, v], []⟩ = pure ([("self", u), (p, v)] : List (Str × Value))) :
    ∃ C, XcI P K mg x f C :=
  ⟨C, a, no, fI, _, p, ⟨⟨⟨_, _, _, _, _, _, _, _, _, _, _, _, _, _, _, l, refs⟩, sa, be, ty, kp⟩, no, sup, ve, self, opq,
    ⟨oc, od, osl, qual, params, [p0, p1, p2, p3, p4, p5, p6, p7, p8, p9], scope, dV, kV, doc, pm, ct, an, cda, cc, ar, ccl, cl, cdd, cld, ccs, csl, vs, file, tf, rfl, lk, hcd, har, har2, lcd, hvs, hfile, lcc, n1, n2, n3, n4, fun y hy => of_decide_eq_true (List.all_eq_true.mp n5 y hy), n6, n7, n8, n9⟩,
    top, PySem.W.mg_none_of X G ms, pd, fun z => by rw [z] at ps; simp at ps⟩, i1, i2, hb⟩
/-- two classes -/
structure XcP (K : PySem.W.Frag) (x y : Str) (b : Bool) : Prop where
  ex : ∃ C C' : Addr, PySem.W.nsIn K mainGlobals x = some (some (.ref C)) ∧ PySem.W.nsIn K mainGlobals y = some (some (.ref C')) ∧ PySem.W.subIn K (.ref C) (.ref C') = some b ∧ PySem.W.kitOne K (.ref C) (.ref C') = some b
theorem xcp_mk {K : PySem.W.Frag} {h : Heap} {x y : Str} {b : Bool} {C C' : Addr} (_X : K.In h) (a : PySem.W.nsIn K mainGlobals x = some (some (.ref C))) (a' : PySem.W.nsIn K mainGlobals y = some (some (.ref C'))) (s : PySem.W.subIn K (.ref C) (.ref C') = some b) (k : PySem.W.kitOne K (.ref C) (.ref C') = some b) : XcP K x y b := ⟨C, C', a, a', s, k⟩
section
variable {P : Program} {K : PySem.W.Frag} {mg : Str → Option Value} {h : Heap}
theorem xcf_of [TabsC] (X : K.In h) (G : h.Ns mainGlobals mg) {p : Str × Option Str} (b : ∃ C, XcB K p.1 C) (i : ∀ f, p.2 = some f → ∃ C, XcI P K mg p.1 f C) (r : ∀ q ∈ TabsC.xcs, (∃ C, XcB K q.1 C) ∧ XcP K p.1 q.1 (subc p.1 q.1)) : ∃ C, XcF P K mg p C := by
  obtain ⟨C, B⟩ := b
  have one : ∀ {A : Addr}, PySem.W.nsIn K mainGlobals p.1 = some (some (.ref A)) → A = C := fun {A} e => by
    rw [B.ns] at e
    cases e
    rfl
  refine ⟨C, PySem.W.mg_of X G B.ns, B.dbg, B.isf, B.xf, fun f hf => ?_, fun f hf => ?_, fun q hq C' hm => ?_⟩
  · obtain ⟨A, I⟩ := i f hf
    have e := one I.ns
    subst e
    exact I.no
  · obtain ⟨A, I⟩ := i f hf
    have e := one I.ns
    subst e
    exact I.ini
  · obtain ⟨⟨A, Bq⟩, A1, A2, e1, e2, e3, e4⟩ := r q hq
    have h1 := one e1
    subst h1
    have h2 : A2 = A := by
      rw [Bq.ns] at e2
      cases e2
      rfl
    subst h2
    have h3 : C' = A2 := by
      rw [PySem.W.mg_of X G Bq.ns] at hm
      cases hm
      rfl
    subst h3
    refine ⟨?_, e4⟩
    obtain ⟨cd, hc⟩ := Option.isSome_iff_exists.mp Bq.isf.cl
    show (if (PySem.W.subIn K (.ref C') (.type "BaseException") == some true) = true then (if ((PySem.W.clsIn K C').isSome && PySem.W.typeIn K (.ref C') == some (.type "type")) = true then PySem.W.subIn K (.ref A1) (.ref C') else none) else none) = some _
    rw [if_pos (by rw [Bq.isf.be]; rfl), if_pos (by rw [hc, Bq.ty]; rfl)]
    exact e3
theorem binds_of {x : Str} {st : Stmt} {f : Addr} {fd : FuncData} {ps : List Str} (F : Fun K x x st f fd)
    (hp : ∀ (kV doc pm : Value) (an : Option Addr) (cdv ct : Value) (us : List Value), us.length = ps.length → bindArgs (PySem.W.fnOf x x (defArgs st) (defBody st) (defScope st) .none kV doc pm an cdv ct) ⟨us, []⟩ = pure (ps.zip us)) : L2.Binds K fd ps [] := by
  obtain ⟨oc, od, kV, doc, pm, an, cdv, ct, osl, rfl, lk, hcd⟩ := F.ex
  exact .all fun us hl => hp kV doc pm an cdv ct us hl
/-- a hearing def -/
theorem hdf_mk [TabsC] {x : Str} {st : Stmt} {f : Addr} {fd : FuncData} {hd : HDef} {xcs : List (Str × Option Str)} (en : hd.name = x) (m : mg x = some (.ref f)) (kp : PySem.W.keepIn K (.ref f) = true) (F : Fun K x x st f fd) (b : L2.Binds K fd (hd.N.take 1) []) (ck : ckH hd xcs st = true) (hx : ∀ p ∈ xcs, p ∈ TabsC.xcs) : HdF K mg hd := by
  subst en
  exact ⟨f, fd, st, xcs, m, kp, F, b, ck, hx⟩
theorem hsNil [TabsC] : ∀ h ∈ ([] : List HDef), HdF K mg h := fun _ z => by cases z
theorem hsCons [TabsC] {d : HDef} {l : List HDef} (a : HdF K mg d) (t : ∀ h ∈ l, HdF K mg h) : ∀ h ∈ d :: l, HdF K mg h := fun h hh => by
  rcases List.mem_cons.mp hh with z | z
  · rw [z]; exact a
  · exact t h z
theorem xNil {α : Type} {F : α → Prop} : ∀ p, p ∈ ([] : List α) → F p := fun _ z => by cases z
theorem xCons {α : Type} {F : α → Prop} {d : α} {l : List α} (a : F d) (t : ∀ p, p ∈ l → F p) : ∀ p, p ∈ d :: l → F p := fun h hh => by
  rcases List.mem_cons.mp hh with z | z
  · rw [z]; exact a
  · exact t h z
theorem xAll {α : Type} {F : α → Prop} {l : List α} (a : ∀ p, p ∈ l → F p) : ∀ p, p ∈ l → F p := a
theorem fq_hear {h : Heap} {x : Str} {st : Stmt} {f : Addr} {oc : Value} {od an : Option Addr} {osl : Array (Option Value)} {kV doc pm cdv ct : Value} (X : K.In h) (G : h.Ns mainGlobals mg) (a : PySem.W.nsIn K mainGlobals x = some (some (.ref f)))
    (l : K.lookup f = some ⟨oc, od, .func (PySem.W.fnOf x x (defArgs st) (defBody st) (defScope st) .none kV doc pm an cdv ct), osl⟩) (c : PySem.W.codeIn K cdv x = true) (k : PySem.W.keepIn K (.ref f) = true) : ∃ f fd, mg x = some (.ref f) ∧ Fun K x x st f fd ∧ PySem.W.keepIn K (.ref f) = true :=
  ⟨f, _, PySem.W.mg_of X G a, fun_mk l c k, k⟩
end
end Ev

end
section
set_option maxHeartbeats 4000000
/-! # EvM: what the evaluator answers, for the mathematics -/
namespace Ev
open PySem
/-! ### bounds -/
def Bd (n : Nat) (a : Int) : Prop := a.natAbs < 10 ^ n
theorem Bd.mono {n m : Nat} {a : Int} (h : Bd n a) (l : n ≤ m) : Bd m a := Nat.lt_of_lt_of_le h (Nat.pow_le_pow_right (by decide) l)
theorem Bd.neg {n : Nat} {a : Int} (h : Bd n a) : Bd n (-a) := by unfold Bd at *; rwa [Int.natAbs_neg]
theorem Bd.add {n : Nat} {a b : Int} (h : Bd n a) (k : Bd n b) : Bd (n + 1) (a + b) := by
  unfold Bd at *
  have : (10 : Nat) ^ (n + 1) = 10 ^ n * 10 := Nat.pow_succ ..
  omega
theorem Bd.sub {n : Nat} {a b : Int} (h : Bd n a) (k : Bd n b) : Bd (n + 1) (a - b) := by
  unfold Bd at *
  have : (10 : Nat) ^ (n + 1) = 10 ^ n * 10 := Nat.pow_succ ..
  omega
theorem Bd.mul {n m : Nat} {a b : Int} (h : Bd n a) (k : Bd m b) : Bd (n + m) (a * b) := by
  unfold Bd at *
  rw [Int.natAbs_mul, Nat.pow_add]
  exact Nat.mul_lt_mul'' h k
theorem Bd.fdiv {n : Nat} {a : Int} (h : Bd n a) (b : Int) : Bd n (a.fdiv b) := Nat.lt_of_le_of_lt (Int.natAbs_fdiv_le_natAbs a b) h
theorem Bd.ediv {n : Nat} {a : Int} (h : Bd n a) (b : Int) : Bd n (a / b) := Nat.lt_of_le_of_lt (Int.natAbs_ediv_le_natAbs a b) h
theorem Bd.of {n : Nat} {a : Int} (h1 : -10 ^ n < a) (h2 : a < 10 ^ n) : Bd n a := by
  unfold Bd
  have e : ((10 ^ n : Nat) : Int) = 10 ^ n := by push_cast; rfl
  omega
theorem Bd.lt {n : Nat} {a : Int} (h : Bd n a) : -10 ^ n < a ∧ a < 10 ^ n := by
  unfold Bd at h
  have e : ((10 ^ n : Nat) : Int) = 10 ^ n := by push_cast; rfl
  omega
theorem bits_le {n : Nat} {a : Int} (h : Bd n a) : Builtin.Int.intBits a ≤ 4 * n + 1 := by
  unfold Builtin.Int.intBits
  split
  · omega
  · rename_i h0
    have h0' : a.natAbs ≠ 0 := by simpa using h0
    have : a.natAbs < 2 ^ (4 * n) := Nat.lt_of_lt_of_le h (by rw [Nat.pow_mul]; exact Nat.pow_le_pow_left (by decide) n)
    have := (Nat.log2_lt h0').mpr this
    omega
theorem bl27 : bitsLine = 2 ^ 27 := by decide
theorem mulOk_bd {n m : Nat} {a b : Int} (h : Bd n a) (k : Bd m b) (l : n + m ≤ 1000000 := by omega) : mulOk a b = true := by
  have h1 := bits_le h
  have h2 := bits_le k
  unfold mulOk Builtin.Int.intTooBig
  simp only [Bool.not_eq_true', Bool.and_eq_false_iff, decide_eq_false_iff_not]
  right
  have := bl27
  omega
theorem mulOk_l {a b : Int} (h : a.natAbs < 2 ^ 64) : mulOk a b = true := by
  unfold mulOk Builtin.Int.intBits
  simp only [Bool.not_eq_true', Bool.and_eq_false_iff, decide_eq_false_iff_not]
  left
  left
  split
  · decide
  · rename_i h0
    have h0' : a.natAbs ≠ 0 := by simpa using h0
    have := (Nat.log2_lt h0').mpr h
    show ¬ (a.natAbs.log2 + 1 > 64)
    omega
theorem mulOk_r {a b : Int} (h : b.natAbs < 2 ^ 64) : mulOk a b = true := by
  have e : mulOk a b = mulOk b a := by
    unfold mulOk
    rw [Bool.and_comm (decide (_ > _)), Int.add_comm]
  rw [e]
  exact mulOk_l h
theorem divOk_bd {n : Nat} {a b : Int} (h : Bd n b) (l : n ≤ 2000 := by omega) : divOk a b = true := by
  have h2 := bits_le h
  unfold Builtin.Int.intBits at h2
  unfold divOk Builtin.divisionGoesByPylong
  simp only [Bool.not_eq_true', Bool.and_eq_false_iff, decide_eq_false_iff_not]
  left
  split
  · omega
  · rename_i h0
    rw [if_neg h0] at h2
    omega

/-! ### wishes -/
section
variable {α β : Type} {ds : Option DS}
theorem wp_bnd {m : M α} {f : α → M β} {Q : β → Option DS → Prop} : wpR (bnd m f ds) Q = wpR (m ds) (fun a s => wpR (f a s) Q) := propext wpR_bnd
theorem wp_ret {a : α} {Q : α → Option DS → Prop} : wpR (ret a ds) Q = Q a ds := rfl
theorem wp_some {a : α} {Q : α → Option DS → Prop} : wpR (lft (some a) ds) Q = Q a ds := rfl
theorem wp_none {Q : α → Option DS → Prop} : wpR (lft (none : Option α) ds) Q = False := rfl
theorem wp_stk {Q : α → Option DS → Prop} : wpR ((stk : M α) ds) Q = False := rfl
theorem wp_ite {c : Prop} [Decidable c] {m1 m2 : M α} {Q : α → Option DS → Prop} : wpR ((if c then m1 else m2) ds) Q = if c then wpR (m1 ds) Q else wpR (m2 ds) Q := by split <;> rfl
@[simp] theorem bnd_ret {a : α} {f : α → M β} : bnd (ret a) f = f a := (rfl)
@[simp] theorem lft_some {a : α} : lft (some a) = ret a := (rfl)
@[simp] theorem bnd_assoc {γ : Type} {m : M α} {f : α → M β} {g : β → M γ} : bnd (bnd m f) g = bnd m fun a => bnd (f a) g := by
  funext s
  unfold bnd
  cases m s <;> rfl
theorem bnd_ret_r {m : M α} : bnd m ret = m := by
  funext s
  unfold bnd ret
  cases m s <;> rfl
/-- a loop over a list, by an invariant -/
theorem wp_forL {b : D → Env → M Fl} {Q : Fl → Option DS → Prop} (inv : Nat → Env → Option DS → Prop) : ∀ (xs : List D) (k : Nat) (env : Env) (ds : Option DS), inv k env ds →
    (∀ i (hi : i < xs.length) env ds, inv (k + i) env ds → wpR (b xs[i] env ds) fun fl ds' => match fl with
      | .nx e => inv (k + i + 1) e ds'
      | .bk e => Q (.nx e) ds'
      | .rt d => Q (.rt d) ds') →
    (∀ env ds, inv (k + xs.length) env ds → Q (.nx env) ds) → wpR (forL b xs env ds) Q
  | [], k, env, ds, h, _, fin => fin env ds h
  | x :: xs, k, env, ds, h, step, fin => by
    unfold forL
    rw [wp_bnd]
    refine wpR_mono (step 0 (by simp) env ds h) fun fl ds' w => ?_
    cases fl with
    | nx e =>
      refine wp_forL inv xs (k + 1) e ds' w (fun i hi env ds hv => ?_) fun env ds hv => fin env ds ?_
      · have z := step (i + 1) (by simpa using hi) env ds (by rwa [show k + (i + 1) = k + 1 + i by omega])
        rw [show k + (i + 1) + 1 = k + 1 + i + 1 by omega] at z
        exact z
      · rw [List.length_cons, show k + (xs.length + 1) = k + 1 + xs.length by omega]
        exact hv
    | bk e => exact w
    | rt d => exact w
/-- a comprehension that only computes -/
theorem lcL_pure {f : D → M (Option D)} {g : D → Option D} : ∀ {xs : List D}, (∀ x ∈ xs, f x = ret (g x)) → lcL f xs = ret (xs.filterMap g)
  | [], _ => rfl
  | x :: xs, h => by
    unfold lcL
    rw [h x List.mem_cons_self, nox_ret, bnd_ret, lcL_pure fun y hy => h y (List.mem_cons_of_mem _ hy), bnd_ret]
    cases e : g x <;> simp [List.filterMap_cons, e]
theorem lcL_map {f : D → M (Option D)} {g : D → D} {xs : List D} (h : ∀ x ∈ xs, f x = ret (some (g x))) : lcL f xs = ret (xs.map g) := by
  rw [lcL_pure (g := fun x => some (g x)) h, List.filterMap_eq_map']
theorem lcL_ints {γ : Type} {f : D → M (Option D)} {u v : γ → D} {xs : List γ} (h : ∀ x ∈ xs, f (u x) = ret (some (v x))) : lcL f (xs.map u) = ret (xs.map v) := by
  induction xs with
  | nil => rfl
  | cons x xs ih =>
    rw [List.map_cons]
    unfold lcL
    rw [h x List.mem_cons_self, nox_ret, bnd_ret, ih fun y hy => h y (List.mem_cons_of_mem _ hy), bnd_ret]
    rfl
end
theorem rngD_eq (a b : Int) : rngD a b = ((List.range (b - a).toNat).map fun i => (.int (a + (i : Nat)) : D)) := rfl
theorem rngD_len (a b : Int) : (rngD a b).length = (b - a).toNat := by simp [rngD]
theorem rngD_get (a b : Int) (i : Nat) (h : i < (rngD a b).length) : (rngD a b)[i] = .int (a + i) := by simp [rngD]
theorem lenOk_le {n : Nat} (h : n ≤ 16777216) : lenOk n = true := by
  unfold lenOk
  rw [decide_eq_true_iff]
  exact h
theorem rngOk_le {i : Int} (h : -(2 ^ 62) ≤ i) (h2 : i < 2 ^ 62) : rngOk i = true := by
  unfold rngOk
  rw [decide_eq_true h, decide_eq_true h2]; rfl

/-! ### repr -/
mutual
def okd : D → Bool
  | .none => true
  | .bool _ => true
  | .int i => decide (i.natAbs < 10 ^ 500)
  | .str x => (PyData.str x).leavesShort 600 && (PyData.shown (.str x)).cps.toList.all fun c => decide (c < 1114112)
  | .list xs => okds xs
  | .tuple xs => okds xs
  | .dict _ => false
def okds : List D → Bool
  | [] => true
  | x :: xs => okd x && okds xs
end
mutual
theorem okd_show : ∀ {d : D}, okd d = true → d.showable = true ∧ d.hasDict = false ∧ d.leavesShort 600 = true
  | .none, _ => ⟨rfl, rfl, rfl⟩
  | .bool _, _ => ⟨rfl, rfl, rfl⟩
  | .int i, h => by
    have h' : i.natAbs < 10 ^ 500 := by simpa [okd] using h
    refine ⟨?_, rfl, ?_⟩
    · simp only [PyData.showable, decide_eq_true_eq]
      by_cases z : i.natAbs = 0
      · rw [z]; decide
      · exact (Nat.log2_lt z).mpr (Nat.lt_of_lt_of_le h' (by decide +kernel))
    · simp only [PyData.leavesShort, decide_eq_true_eq]
      have := int_text_length_le10 (by decide : 0 < 500) h'
      show (Str.ofString (toString i)).length ≤ 600
      rw [ofString_length]
      omega
  | .str x, h => by
    have h' : ((PyData.str x).leavesShort 600 && (PyData.shown (.str x)).cps.toList.all fun c => decide (c < 1114112)) = true := h
    rw [Bool.and_eq_true] at h'
    exact ⟨rfl, rfl, h'.1⟩
  | .list xs, h => by
    obtain ⟨a, b, c⟩ := okds_show (xs := xs) (by simpa [okd] using h)
    exact ⟨by simpa [PyData.showable] using a, by simpa [PyData.hasDict] using b, by simpa [PyData.leavesShort] using c⟩
  | .tuple xs, h => by
    obtain ⟨a, b, c⟩ := okds_show (xs := xs) (by simpa [okd] using h)
    exact ⟨by simpa [PyData.showable] using a, by simpa [PyData.hasDict] using b, by simpa [PyData.leavesShort] using c⟩
  | .dict _, h => by simp [okd] at h
theorem okds_show : ∀ {xs : List D}, okds xs = true → PyData.showableAll xs = true ∧ PyData.hasDictAll xs = false ∧ PyData.leavesShortAll 600 xs = true
  | [], _ => ⟨rfl, rfl, rfl⟩
  | x :: xs, h => by
    have h' : okd x = true ∧ okds xs = true := by simpa [okds] using h
    obtain ⟨a, b, c⟩ := okd_show h'.1
    obtain ⟨a', b', c'⟩ := okds_show h'.2
    exact ⟨by simp [PyData.showableAll, a, a'], by simp [PyData.hasDictAll, b, b'], by simp [PyData.leavesShortAll, c, c']⟩
end
theorem reprOk_of {d : D} (h : okd d = true) (h2 : d.depth ≤ 64) (h3 : d.bulk ≤ 27000) : reprOk d = true := by
  obtain ⟨a, b, c⟩ := okd_show h
  have l := PyData.shown_le_bulk 600 (by decide) d c
  have : d.shown.length ≤ 16777216 := by omega
  unfold reprOk
  simp only [a, b, Bool.not_false, Bool.and_true, Bool.true_and, Bool.and_eq_true, decide_eq_true_eq]
  exact ⟨h2, this⟩

/-! ### the evaluator, form by form -/
@[simp] theorem getv_0 {o : Option D} {env : Env} : getv (o :: env) 0 = o := by
  unfold getv
  cases o <;> rfl
@[simp] theorem getv_s {o : Option D} {env : Env} {n : Nat} : getv (o :: env) (n + 1) = getv env n := (rfl)
@[simp] theorem asI_i {i : Int} : asI (.int i) = some i := (rfl)
@[simp] theorem asB_b {i : Bool} : asB (.bool i) = some i := (rfl)
@[simp] theorem asL_l {i : List D} : asL (.list i) = some i := (rfl)
@[simp] theorem asSeq_l {i : List D} : asSeq (.list i) = some i := (rfl)
@[simp] theorem asSeq_t {i : List D} : asSeq (.tuple i) = some i := (rfl)
@[simp] theorem bin_add {a b : Int} : binD .add (.int a) (.int b) = some (.int (a + b)) := (rfl)
@[simp] theorem bin_sub {a b : Int} : binD .sub (.int a) (.int b) = some (.int (a - b)) := (rfl)
@[simp] theorem bin_mul {a b : Int} : binD .mul (.int a) (.int b) = if mulOk a b then some (.int (a * b)) else none := (rfl)
@[simp] theorem bin_fdiv {a b : Int} : binD .fdiv (.int a) (.int b) = if b != 0 && divOk a b then some (.int (a.fdiv b)) else none := (rfl)
@[simp] theorem bin_mod {a b : Int} : binD .mod (.int a) (.int b) = if b != 0 then some (.int (a.fmod b)) else none := (rfl)
@[simp] theorem bin_pow {a b : Int} : binD .pow (.int a) (.int b) = if powOk a b then some (.int (a ^ b.toNat)) else none := (rfl)
@[simp] theorem bin_addL {a b : List D} : binD .add (.list a) (.list b) = if lenOk (a.length + b.length) then some (.list (a ++ b)) else none := (rfl)
@[simp] theorem bin_addT {a b : List D} : binD .add (.tuple a) (.tuple b) = if lenOk (a.length + b.length) then some (.tuple (a ++ b)) else none := (rfl)
@[simp] theorem bin_repT {a : List D} {k : Int} : binD .mul (.tuple a) (.int k) = if repT a.length k then some (.tuple (List.replicate k.toNat a).flatten) else none := (rfl)
@[simp] theorem bin_rep {a : List D} {k : Int} : binD .mul (.list a) (.int k) = if repOk a.length k then some (.list (List.replicate k.toNat a).flatten) else none := (rfl)
@[simp] theorem cmp_lt {a b : Int} : cmpD .lt (.int a) (.int b) = some (decide (a < b)) := (rfl)
@[simp] theorem cmp_le {a b : Int} : cmpD .le (.int a) (.int b) = some (decide (a ≤ b)) := (rfl)
@[simp] theorem cmp_gt {a b : Int} : cmpD .gt (.int a) (.int b) = some (decide (b < a)) := (rfl)
@[simp] theorem cmp_ge {a b : Int} : cmpD .ge (.int a) (.int b) = some (decide (b ≤ a)) := (rfl)
@[simp] theorem cmp_eqI {a b : Int} : cmpD .eq (.int a) (.int b) = some (decide (a = b)) := by
  show (if SeqAt.shaped (.int a) && SeqAt.shaped (.int b) then some (PyData.eqv (.int a) (.int b)) else none) = _
  have h : ∀ i, SeqAt.shaped (.int i) = true := fun i => rfl
  rw [h, h]
  show some (PyData.eqv (.int a) (.int b)) = _
  by_cases e : a = b
  · subst e; simp [PyData.eqv]
  · simp [PyData.eqv, e]
@[simp] theorem cmp_neI {a b : Int} : cmpD .ne (.int a) (.int b) = some (!decide (a = b)) := by
  show (if SeqAt.shaped (.int a) && SeqAt.shaped (.int b) then some (!PyData.eqv (.int a) (.int b)) else none) = _
  have h : ∀ i, SeqAt.shaped (.int i) = true := fun i => rfl
  rw [h, h]
  show some (!PyData.eqv (.int a) (.int b)) = _
  by_cases e : a = b
  · subst e; simp [PyData.eqv]
  · simp [PyData.eqv, e]
@[simp] theorem cmp_is {a : D} : cmpD .is a .none = some (isNone a) := by cases a <;> rfl
@[simp] theorem cmp_isnot {a : D} : cmpD .isnot a .none = some (!isNone a) := by cases a <;> rfl
@[simp] theorem cmp_isB {a b : Bool} : cmpD .is (.bool a) (.bool b) = some (decide (a = b)) := (rfl)
@[simp] theorem cmp_isnotB {a b : Bool} : cmpD .isnot (.bool a) (.bool b) = some (!decide (a = b)) := (rfl)
@[simp] theorem isNone_n : isNone .none = true := (rfl)
@[simp] theorem isNone_i {i : Int} : isNone (.int i) = false := (rfl)
@[simp] theorem isNone_t {i : List D} : isNone (.tuple i) = false := (rfl)
@[simp] theorem isNone_l {i : List D} : isNone (.list i) = false := (rfl)
@[simp] theorem isNone_b {i : Bool} : isNone (.bool i) = false := (rfl)
@[simp] theorem neg_i {i : Int} : negD (.int i) = some (.int (-i)) := (rfl)
@[simp] theorem bi_abs {i : Int} : biD .abs [.int i] = some (.int (if i < 0 then -i else i)) := (rfl)
@[simp] theorem bi_gcd {a b : Int} : biD .gcd [.int a, .int b] = some (.int ((Nat.gcd a.natAbs b.natAbs : Nat) : Int)) := (rfl)
@[simp] theorem bi_int {i : Int} : biD .int [.int i] = some (.int i) := (rfl)
@[simp] theorem bi_intB {i : Bool} : biD .int [.bool i] = some (.int (if i then 1 else 0)) := (rfl)
@[simp] theorem bi_lenL {i : List D} : biD .len [.list i] = some (.int i.length) := (rfl)
@[simp] theorem bi_lenT {i : List D} : biD .len [.tuple i] = some (.int i.length) := (rfl)
@[simp] theorem bi_listL {i : List D} : biD .list [.list i] = some (.list i) := (rfl)
@[simp] theorem bi_listT {i : List D} : biD .list [.tuple i] = some (.list i) := (rfl)
@[simp] theorem bi_tupleL {i : List D} : biD .tuple [.list i] = some (.tuple i) := (rfl)
@[simp] theorem bi_tupleT {i : List D} : biD .tuple [.tuple i] = some (.tuple i) := (rfl)
@[simp] theorem bi_max2 {i j : Int} : biD .max2 [.int i, .int j] = some (.int (if j > i then j else i)) := (rfl)
@[simp] theorem bi_min2 {i j : Int} : biD .min2 [.int i, .int j] = some (.int (if j < i then j else i)) := (rfl)
@[simp] theorem bi_max1 {i : List D} : biD .max1 [.list i] = maxD i := (rfl)
@[simp] theorem bi_max1T {i : List D} : biD .max1 [.tuple i] = maxD i := (rfl)
@[simp] theorem bi_min1 {i : List D} : biD .min1 [.list i] = minD i := (rfl)
@[simp] theorem bi_min1T {i : List D} : biD .min1 [.tuple i] = minD i := (rfl)
@[simp] theorem bi_sum {i : List D} : biD .sum [.list i] = sumD i := (rfl)
@[simp] theorem bi_sumT {i : List D} : biD .sum [.tuple i] = sumD i := (rfl)
@[simp] theorem bi_repr {d : D} : biD .repr [d] = if reprOk d then some (.str d.shown) else none := by cases d <;> rfl
@[simp] theorem isi_ii {i : Int} : isiD .int (.int i) = some true := (rfl)
@[simp] theorem isi_bi {i : Int} : isiD .bool (.int i) = some false := (rfl)
@[simp] theorem isi_tt {i : List D} : isiD .tuple (.tuple i) = some true := (rfl)
@[simp] theorem isi_ti {i : Int} : isiD .tuple (.int i) = some false := (rfl)
@[simp] theorem isi_ib {i : Bool} : isiD .int (.bool i) = some true := (rfl)
@[simp] theorem isi_bb {i : Bool} : isiD .bool (.bool i) = some true := (rfl)
@[simp] theorem isi_it {i : List D} : isiD .int (.tuple i) = some false := (rfl)
@[simp] theorem ix_l {xs : List D} {i : Int} : ixD (.list xs) (.int i) = L2.atI xs i := (rfl)
@[simp] theorem ix_t {xs : List D} {i : Int} : ixD (.tuple xs) (.int i) = L2.atI xs i := (rfl)
@[simp] theorem sl_l {xs : List D} {i j : Option Int} : slD (.list xs) i j = some (.list (cutA xs i j)) := (rfl)
@[simp] theorem sl_t {xs : List D} {i j : Option Int} : slD (.tuple xs) i j = some (.tuple (cutA xs i j)) := (rfl)
theorem atI_lit {xs : List D} {n : Nat} : L2.atI xs (n : Int) = xs[n]? := by
  unfold L2.atI L2.ixN
  rw [if_pos (Int.natCast_nonneg n)]
  by_cases h : n < xs.length
  · rw [if_pos (Int.ofNat_lt.mpr h)]; rfl
  · rw [if_neg (by omega)]
    rw [List.getElem?_eq_none (by omega)]; rfl
@[simp] theorem atI_0 {x : D} {xs : List D} : L2.atI (x :: xs) 0 = some x := atI_lit (n := 0)
@[simp] theorem atI_1 {x y : D} {xs : List D} : L2.atI (x :: y :: xs) 1 = some y := atI_lit (n := 1)
@[simp] theorem atI_2 {x y z : D} {xs : List D} : L2.atI (x :: y :: z :: xs) 2 = some z := atI_lit (n := 2)
@[simp] theorem atI_3 {x y z u : D} {xs : List D} : L2.atI (x :: y :: z :: u :: xs) 3 = some u := atI_lit (n := 3)
@[simp] theorem asgT_n {i : Nat} {d : D} {env : Env} : asgT (.n i) d env = some (env.set i (some d)) := by simp only [asgT]
@[simp] theorem asgT_t {ts : Tgs} {xs : List D} {env : Env} : asgT (.t ts) (.tuple xs) env = asgTs ts xs env := by simp only [asgT]
@[simp] theorem asgT_l {ts : Tgs} {xs : List D} {env : Env} : asgT (.t ts) (.list xs) env = asgTs ts xs env := by simp only [asgT]
@[simp] theorem asgTs_n {env : Env} : asgTs .nil [] env = some env := by simp only [asgTs]
@[simp] theorem asgTs_c {t : Tg} {ts : Tgs} {x : D} {xs : List D} {env : Env} : asgTs (.cons t ts) (x :: xs) env = (asgT t x env).bind (asgTs ts xs) := by simp only [asgTs]
@[simp] theorem stE_c {i : Nat} {is : List Nat} {x : D} {xs : List D} {env : Env} : stE (i :: is) (x :: xs) env = stE is xs (env.set i (some x)) := (rfl)
@[simp] theorem stE_n {xs : List D} {env : Env} : stE [] xs env = env := by cases xs <;> rfl
@[simp] theorem args_1 {a : D} : argsOf 1 [a] [] = some [a] := (rfl)
@[simp] theorem args_2 {a b : D} : argsOf 2 [a, b] [] = some [a, b] := (rfl)
@[simp] theorem args_3 {a b c : D} : argsOf 3 [a, b, c] [] = some [a, b, c] := (rfl)
@[simp] theorem args_4 {a b c d : D} : argsOf 4 [a, b, c, d] [] = some [a, b, c, d] := (rfl)
@[simp] theorem args_5 {a b c d e : D} : argsOf 5 [a, b, c, d, e] [] = some [a, b, c, d, e] := (rfl)
section
variable {T : Tb} {env : Env} {F : Nat}
@[simp] theorem ev_v {i : Nat} : evE T (.v i) env = lft (getv env i) := by simp only [evE]
@[simp] theorem ev_k {d : D} : evE T (.k d) env = ret d := by simp only [evE]
@[simp] theorem ev_g {i : Nat} : evE T (.g i) env = lft ((T.cs[i]?).map (·.2)) := by simp only [evE]
@[simp] theorem ev_bin {o : Bo} {a b : E} : evE T (.bin o a b) env = bnd (evE T a env) fun x => bnd (evE T b env) fun y => lft (binD o x y) := by simp only [evE]
@[simp] theorem ev_neg {a : E} : evE T (.neg a) env = bnd (evE T a env) fun x => lft (negD x) := by simp only [evE]
@[simp] theorem ev_not {a : E} : evE T (.not a) env = bnd (evE T a env) fun x => lft ((asB x).map fun b => .bool (!b)) := by simp only [evE]
@[simp] theorem ev_and {a : E} {es : Es} : evE T (.and a es) env = bnd (evE T a env) fun x => evAnd T es x env := by simp only [evE]
@[simp] theorem ev_or {a : E} {es : Es} : evE T (.or a es) env = bnd (evE T a env) fun x => evOr T es x env := by simp only [evE]
@[simp] theorem ev_cmp {o : Co} {a b : E} : evE T (.cmp o a b) env = bnd (evE T a env) fun x => bnd (evE T b env) fun y => lft ((cmpD o x y).map .bool) := by simp only [evE]
@[simp] theorem ev_chain {o o' : Co} {a b c : E} : evE T (.chain o o' a b c) env = bnd (evE T a env) fun x => bnd (evE T b env) fun y => bnd (lft (cmpD o x y)) fun t => if t then bnd (evE T c env) fun z => lft ((cmpD o' y z).map .bool) else ret (.bool false) := by simp only [evE]
@[simp] theorem ev_ife {c a b : E} : evE T (.ife c a b) env = bnd (evE T c env) fun x => bnd (lft (asB x)) fun t => if t then evE T a env else evE T b env := by simp only [evE]
@[simp] theorem ev_tup {es : Es} : evE T (.tup es) env = bnd (evEs T es env) fun xs => lft (if lenOk xs.length then some (.tuple xs) else none) := by simp only [evE]
@[simp] theorem ev_lst {es : Es} : evE T (.lst es) env = bnd (evEs T es env) fun xs => lft (if lenOk xs.length then some (.list xs) else none) := by simp only [evE]
@[simp] theorem ev_ix {a i : E} : evE T (.ix a i) env = bnd (evE T a env) fun x => bnd (evE T i env) fun y => lft (ixD x y) := by simp only [evE]
@[simp] theorem ev_sl {a l h : E} : evE T (.sl a l h) env = bnd (evE T a env) fun x => bnd (if isNo l then ret none else bnd (evE T l env) fun y => lft ((asI y).map some)) fun l => bnd (if isNo h then ret none else bnd (evE T h env) fun y => lft ((asI y).map some)) fun h => lft (slD x l h) := by simp only [evE]
@[simp] theorem ev_rev {a : E} : evE T (.rev a) env = bnd (evE T a env) fun x => lft (revD x) := by simp only [evE]
@[simp] theorem ev_emp : evE T .emp env = ret empD := by simp only [evE]
@[simp] theorem ev_lrg {a b : E} : evE T (.lrg a b) env = bnd (evE T a env) fun x => bnd (evE T b env) fun y => lft (lrgD x y) := by simp only [evE]
@[simp] theorem ev_callL {j : Nat} {es : Es} : evE T (.callL j es) env = bnd (evEs T es env) fun xs => match T.fs[j]? with
    | some f => bnd (nox (bnd (lft (argsOf f.ps.length xs [])) f.m)) fun d => lft (if noL d then some d else none)
    | none => stk := by
  simp only [evE] <;> rfl
@[simp] theorem noL_n : noL .none = true := (rfl)
@[simp] theorem noL_b {b : Bool} : noL (.bool b) = true := (rfl)
@[simp] theorem noL_i {i : Int} : noL (.int i) = true := (rfl)
@[simp] theorem noL_s {x : Str} : noL (.str x) = true := (rfl)
@[simp] theorem noL_t {ds : List D} : noL (.tuple ds) = noLs ds := (rfl)
@[simp] theorem noLs_n : noLs [] = true := (rfl)
@[simp] theorem noLs_c {d : D} {ds : List D} : noLs (d :: ds) = (noL d && noLs ds) := (rfl)
@[simp] theorem ev_sset {a : E} : evE T (.sset a) env = bnd (evE T a env) fun x => lft (ssetD x) := by simp only [evE]
@[simp] theorem ev_heard {j : Nat} {fr : List Nat} {e : E} : evE T (.heard j fr e) env = match T.hs[j]? with
    | some h => hearD h (evE T e (pick fr 0 env))
    | none => stk := by simp only [evE] <;> rfl
@[simp] theorem ev_fn {j : Nat} : evE T (.fn j) env = lft ((T.fs[j]?).map fun f => fnTok f.name) := by simp only [evE]
@[simp] theorem ev_callW {i : Nat} {es : Es} {ps : List Str} {ks : Ks} : evE T (.callW i es ps ks) env = match fnOf (getv env i) T.fs with
    | some f => if f.ps = ps ∧ (esL es, kjs ks) ∈ f.kws then bnd (evEs T es env) fun xs => bnd (evKs T ks env) fun kv => bnd (lft (argsOf f.ps.length xs kv)) f.m else stk
    | none => stk := by simp only [evE] <;> rfl
@[simp] theorem ev_callV {i : Nat} {es : Es} : evE T (.callV i es) env = match fnOf (getv env i) T.fs with
    | some f => bnd (evEs T es env) fun xs => bnd (lft (argsOf f.ps.length xs [])) f.m
    | none => stk := by simp only [evE] <;> rfl
@[simp] theorem nox_retS {α : Type} {a : α} : nox (ret a) = ret a := (rfl)
@[simp] theorem wpR_noxS {α : Type} {m : M α} {s : Option DS} {Q : α → Option DS → Prop} : wpR (nox m s) Q ↔ wpR (m s) Q := wpR_nox
@[simp] theorem ev_skey {a : E} {fr : List Nat} {i : Nat} {b : E} : evE T (.skey a fr i b) env = bnd (evE T a env) fun x => bnd (lft ((asL x).bind intsOf)) fun ns => bnd (keysM (fun n => evE T b ((pick fr 0 env).set i (some (.int n)))) ns) fun ks => lft (if lenOk ns.length then some (.list ((srtK ks ns).map .int)) else none) := by simp only [evE] <;> rfl
@[simp] theorem ev_srt {a : E} : evE T (.srt a) env = bnd (evE T a env) fun x => lft (srtD x) := by simp only [evE]
@[simp] theorem sset_t {ds : List D} : ssetD (.tuple ds) = (intsOf ds).bind fun ns => if decide (ns.length < 4000) && decide ((dd ns).length < 64) then some (.list ((dd ns).map .int)) else none := (rfl)
@[simp] theorem srt_l {ds : List D} : srtD (.list ds) = (intsOf ds).map fun ns => .list ((srt ns).map .int) := (rfl)
@[simp] theorem cmp_isin {a : Int} {y : D} : cmpD .isin (.int a) y = inD a y := (rfl)
@[simp] theorem cmp_notin {a : Int} {y : D} : cmpD .notin (.int a) y = (inD a y).map (!·) := (rfl)
@[simp] theorem in_l {a : Int} {ds : List D} : inD a (.list ds) = (intsOf ds).map fun js => decide (a ∈ js) := (rfl)
@[simp] theorem in_t {a : Int} {ds : List D} : inD a (.tuple ds) = (intsOf ds).map fun js => decide (a ∈ js) := (rfl)
@[simp] theorem ev_lrg1 {a : E} : evE T (.lrg1 a) env = bnd (evE T a env) fun x => lft (lrgD (.int 0) x) := by simp only [evE]
@[simp] theorem lrg_i {i j : Int} : lrgD (.int i) (.int j) = if rngOk i && rngOk j && lenOk (j - i).toNat then some (.list (rngD i j)) else none := (rfl)
@[simp] theorem isi_emp {t : Ty} : isiD t (.dict [(.bool true, .none)]) = some false := (rfl)
@[simp] theorem rev_l {xs : List D} : revD (.list xs) = some (.list xs.reverse) := (rfl)
@[simp] theorem ev_call {j : Nat} {es : Es} {ks : Ks} : evE T (.call j es ks) env = bnd (evEs T es env) fun xs => bnd (evKs T ks env) fun kv => match T.fs[j]? with
    | some f => bnd (lft (argsOf f.ps.length xs kv)) f.m
    | none => stk := by simp only [evE] <;> rfl
@[simp] theorem ev_bi {f : Bi} {es : Es} : evE T (.bi f es) env = bnd (evEs T es env) fun xs => lft (biD f xs) := by simp only [evE]
@[simp] theorem ev_isi {t : Ty} {a : E} : evE T (.isi t a) env = bnd (evE T a env) fun x => lft ((isiD t x).map .bool) := by simp only [evE]
@[simp] theorem ev_dAt {i : Nat} : evE T (.dAt i) env = onDS (getv env i) fun s => some (.int s.cnt) := by simp only [evE]
@[simp] theorem ev_dLen {i : Nat} : evE T (.dLen i) env = onDS (getv env i) fun s => some (.int s.cells.length) := by simp only [evE]
@[simp] theorem ev_dCell {i k : Nat} : evE T (.dCell i k) env = bnd (lft ((getv env k).bind asI)) fun n => onDS (getv env i) fun s => (L2.atI s.cells n).map .int := by simp only [evE]
@[simp] theorem ev_dLeft {i k : Nat} : evE T (.dLeft i k) env = bnd (lft ((getv env k).bind asI)) fun n => onDS (getv env i) fun s => (L2.atI s.lefts n).map .int := by simp only [evE]
@[simp] theorem ev_scr {i : Nat} : evE T (.scr i) env = lft (((getv env i).bind unscr).map fun ns => .list ((orZero ns).map .int)) := by simp only [evE]
theorem ev_lc {tg : Tg} {it : It} {c e : E} : evE T (.lc tg it c e) env = bnd (evIt T it env) fun xs => bnd (lcL (fun x => bnd (lft (asgT tg x env)) fun env' => bnd (if isNo c then ret true else bnd (evE T c env') fun y => lft (asB y)) fun t => if t then bnd (evE T e env') fun y => ret (some y) else ret none) xs) fun ys => lft (if lenOk xs.length then some (.list ys) else none) := by simp only [evE]
@[simp] theorem ev_an {x : D} : evAnd T .nil x env = ret x := by simp only [evAnd]
@[simp] theorem ev_ac {e : E} {es : Es} {x : D} : evAnd T (.cons e es) x env = bnd (lft (asB x)) fun t => if t then bnd (evE T e env) fun y => evAnd T es y env else ret (.bool false) := by simp only [evAnd]
@[simp] theorem ev_on {x : D} : evOr T .nil x env = ret x := by simp only [evOr]
@[simp] theorem ev_oc {e : E} {es : Es} {x : D} : evOr T (.cons e es) x env = bnd (lft (asB x)) fun t => if t then ret (.bool true) else bnd (evE T e env) fun y => evOr T es y env := by simp only [evOr]
@[simp] theorem ev_en : evEs T .nil env = ret [] := by simp only [evEs]
@[simp] theorem ev_ec {e : E} {es : Es} : evEs T (.cons e es) env = bnd (evE T e env) fun x => bnd (evEs T es env) fun xs => ret (x :: xs) := by simp only [evEs]
@[simp] theorem ev_kn : evKs T .nil env = ret [] := by simp only [evKs]
@[simp] theorem ev_kc {j : Nat} {e : E} {ks : Ks} : evKs T (.cons j e ks) env = bnd (evE T e env) fun x => bnd (evKs T ks env) fun xs => ret ((j, x) :: xs) := by simp only [evKs]
@[simp] theorem ev_ie {a : E} : evIt T (.e a) env = bnd (evE T a env) fun x => lft (asSeq x) := by simp only [evIt]
@[simp] theorem ev_r1 {a : E} : evIt T (.r1 a) env = bnd (evE T a env) fun x => bnd (lft (asI x)) fun i => lft (if rngOk i then some (rngD 0 i) else none) := by simp only [evIt]
@[simp] theorem ev_r2 {a b : E} : evIt T (.r2 a b) env = bnd (evE T a env) fun x => bnd (evE T b env) fun y => bnd (lft (asI x)) fun i => bnd (lft (asI y)) fun j => lft (if rngOk i && rngOk j then some (rngD i j) else none) := by simp only [evIt]
theorem ev_zip {a b : E} : evIt T (.zip a b) env = bnd (evE T a env) fun x => bnd (evE T b env) fun y => match x, y with
    | .list xs, .list ys => ret (zipD xs ys)
    | .tuple xs, .tuple ys => ret (zipD xs ys)
    | .list xs, .tuple ys => ret (zipD xs ys)
    | .tuple xs, .list ys => ret (zipD xs ys)
    | _, _ => stk := by simp only [evIt] <;> rfl
@[simp] theorem ev_enum {a : E} : evIt T (.enum a) env = bnd (evE T a env) fun x => bnd (lft (asSeq x)) fun xs => ret (enumD 0 xs) := by simp only [evIt]
@[simp] theorem ev_T {e : E} : evT T e env = bnd (evE T e env) fun x => lft (asB x) := (rfl)
@[simp] theorem ev_asg {tg : Tg} {e : E} : evS T F (.asg tg e) env = bnd (evE T e env) fun x => bnd (lft (asgT tg x env)) fun env' => ret (.nx env') := by simp only [evS]
@[simp] theorem ev_asgO {i : Nat} {e : E} : evS T F (.asgO i e) env = bnd (evE T e env) fun x => bnd (lft (asL x)) fun xs => ret (.nx (env.set i (some (.list xs)))) := by simp only [evS]
@[simp] theorem ev_par {is : List Nat} {bs : List Bool} {es : Es} : evS T F (.par is bs es) env = bnd (evEs T es env) fun xs => ret (.nx (stE is xs env)) := by simp only [evS]
@[simp] theorem ev_put {i : Nat} {k e : E} : evS T F (.put i k e) env = bnd (evE T e env) fun x => bnd (lft ((getv env i).bind asL)) fun xs => bnd (evE T k env) fun j => lft (((asI j).bind (L2.ixN xs.length)).map fun m => .nx (env.set i (some (.list (xs.set m x))))) := by simp only [evS]
@[simp] theorem ev_app {i : Nat} {e : E} : evS T F (.app i e) env = bnd (lft ((getv env i).bind asL)) fun xs => bnd (evE T e env) fun x => lft (if lenOk (xs.length + 1) then some (.nx (env.set i (some (.list (xs ++ [x]))))) else none) := by simp only [evS]
@[simp] theorem ev_ext {i : Nat} {e : E} : evS T F (.ext i e) env = bnd (lft ((getv env i).bind asL)) fun xs => bnd (evE T e env) fun x => bnd (lft (asL x)) fun ys => lft (if lenOk (xs.length + ys.length) then some (.nx (env.set i (some (.list (xs ++ ys))))) else none) := by simp only [evS]
@[simp] theorem ev_ex {e : E} : evS T F (.ex e) env = bnd (evE T e env) fun _ => ret (.nx env) := by simp only [evS]
@[simp] theorem ev_ret {e : E} : evS T F (.ret e) env = bnd (evE T e env) fun x => ret (.rt x) := by simp only [evS]
@[simp] theorem ev_if {c : E} {a b : Ss} : evS T F (.ife c a b) env = bnd (evE T c env) fun x => bnd (lft (asB x)) fun t => if t then evSs T F a env else evSs T F b env := by simp only [evS, evT, bnd_assoc]
@[simp] theorem ev_whl {c : E} {b : Ss} : evS T F (.whl c b) env = whlL (evT T c) (fun env => evSs T F b env) F env := by simp only [evS]
@[simp] theorem ev_for {tg : Tg} {it : It} {b : Ss} : evS T F (.for_ tg it b) env = bnd (evIt T it env) fun xs => forL (fun x env => bnd (lft (asgT tg x env)) fun env' => evSs T F b env') xs env := by simp only [evS]
@[simp] theorem ev_brk : evS T F .brk env = ret (.bk env) := by simp only [evS]
@[simp] theorem ev_raise : evS T F .raise env = stk := by simp only [evS]
@[simp] theorem ev_frz {i : Nat} : evS T F (.frz i) env = ret (.nx env) := by simp only [evS]
@[simp] theorem ev_doc : evS T F .doc env = ret (.nx env) := by simp only [evS]
@[simp] theorem ev_sAt {i : Nat} {e : E} : evS T F (.dAt i e) env = bnd (evE T e env) fun x => upDS (getv env i) (.nx env) fun s => (asI x).map fun k => { s with cnt := k } := by simp only [evS]
@[simp] theorem ev_sLeft {i k : Nat} {e : E} : evS T F (.dLeft i k e) env = bnd (evE T e env) fun x => bnd (lft ((getv env k).bind asI)) fun n => upDS (getv env i) (.nx env) fun s => (asI x).bind fun y => (L2.ixN s.lefts.length n).map fun m => { s with lefts := s.lefts.set m y } := by simp only [evS]
@[simp] theorem ev_rse {c f : Str} {e : E} : evS T F (.rse c f e) env = bnd (evE T e env) fun d => fun s => .exc (.mk c [(f, d)]) s := by simp only [evS]
@[simp] theorem ev_rse0 {c : Str} : evS T F (.rse0 c) env = fun s => .exc (.mk c []) s := by simp only [evS]
@[simp] theorem ev_try {b : S} {hs : List Hd} : evS T F (.try_ b hs) env = tryD (evS T F b env) hs env := by simp only [evS]
@[simp] theorem ev_sRet {i : Nat} {e : E} : evS T F (.dRet i e) env = bnd (nox (evE T e env)) fun y => mkDS (.rt (.dict [])) (((getv env i).bind asL).bind intsOf) ((asL y).bind intsOf) := by simp only [evS]
@[simp] theorem ev_sn : evSs T F .nil env = ret (.nx env) := by simp only [evSs]
@[simp] theorem ev_sc {s : S} {ss : Ss} : evSs T F (.cons s ss) env = bnd (evS T F s env) fun f => match f with
    | .nx env' => evSs T F ss env'
    | .bk env' => ret (.bk env')
    | .rt d => ret (.rt d) := by simp only [evSs] <;> rfl
@[simp] theorem end_rt {d : D} : endD (.rt d) = ret d := (rfl)
@[simp] theorem end_nx : endD (.nx env) = ret .none := (rfl)
end
theorem intsOf_map : ∀ xs : List Int, intsOf (xs.map PyData.int) = some xs
  | [] => rfl
  | x :: xs => by rw [List.map_cons, intsOf, intsOf_map xs]; rfl
end Ev

end
section
set_option maxHeartbeats 4000000
/-! # EvL: the law's own first words -/
namespace Ev
open PySem
namespace L
def b_u_law_begin : Ss := (.cons (.asgO 1 (.scr 0)) (.cons (.dRet 1 (.lc (.n 2) (.e (.v 1)) (.no) (.ife (.cmp .ge (.v 2) (.bin .pow (.k (.int 10)) (.k (.int 18)))) (.v 2) (.k (.int 0))))) .nil))
def c_u_law_begin : List (Str × D) := []
def f_u_law_begin : Fn := ⟨"_law_begin", ["script"], [], run ⟨[], c_u_law_begin, []⟩ 1000000 3 b_u_law_begin⟩
def b_u_law_like : Ss := (.cons (.ret (.cmp .eq (.bi .repr (.cons (.v 0) .nil)) (.bi .repr (.cons (.v 1) .nil)))) .nil)
def c_u_law_like : List (Str × D) := []
def f_u_law_like : Fn := ⟨"_law_like", ["got", "due"], [], run ⟨[], c_u_law_like, []⟩ 1000000 2 b_u_law_like⟩
def b_u_law_mixed : Ss := (.cons (.asg (.n 0) (.bin .mod (.bi .int (.cons (.v 0) .nil)) (.k (.int 2147483647)))) (.cons (.ret (.bin .mod (.bin .mul (.bin .mod (.bin .add (.bin .add (.bin .mul (.v 0) (.bin .add (.k (.int 48271)) (.bin .mul (.bin .mul (.k (.int 2)) (.v 1)) (.v 1)))) (.bin .mul (.k (.int 69621)) (.v 1))) (.k (.int 11))) (.k (.int 2147483647))) (.k (.int 69621))) (.k (.int 2147483629)))) .nil))
def c_u_law_mixed : List (Str × D) := []
def f_u_law_mixed : Fn := ⟨"_law_mixed", ["cell", "k"], [], run ⟨[], c_u_law_mixed, []⟩ 1000000 2 b_u_law_mixed⟩
def b_u_law_draw : Ss := (.cons (.asg (.n 2) (.dAt 0)) (.cons (.dAt 0 (.bin .add (.v 2) (.k (.int 1)))) (.cons (.asg (.n 3) (.bin .mod (.bi .int (.cons (.v 2) .nil)) (.dLen 0))) (.cons (.asg (.n 4) (.dLeft 0 3)) (.cons (.ife (.cmp .gt (.v 4) (.k (.int 0))) (.cons (.dLeft 0 3 (.bin .fdiv (.v 4) (.v 1))) (.cons (.ret (.bin .mod (.bi .int (.cons (.v 4) .nil)) (.v 1))) .nil)) .nil) (.cons (.asg (.n 5) (.call 0 (.cons (.call 0 (.cons (.dCell 0 3) (.cons (.v 2) .nil)) .nil) (.cons (.bin .add (.k (.int 40)) (.v 2)) .nil)) .nil)) (.cons (.ret (.bin .mod (.bin .fdiv (.bi .int (.cons (.bin .add (.bin .mul (.v 5) (.k (.int 2147483647))) (.call 0 (.cons (.v 5) (.cons (.bin .add (.k (.int 7)) (.v 2)) .nil)) .nil)) .nil)) (.k (.int 64))) (.v 1))) .nil)))))))
def c_u_law_draw : List (Str × D) := []
def f_u_law_draw : Fn := ⟨"_law_draw", ["draws_so", "limit"], [], run ⟨[f_u_law_mixed], c_u_law_draw, []⟩ 1000000 6 b_u_law_draw⟩
def b_u_law_divisor : Ss := (.cons (.par [0, 1] [false, false] (.cons (.bi .abs (.cons (.v 0) .nil)) (.cons (.bi .abs (.cons (.v 1) .nil)) .nil))) (.cons (.for_ (.n 2) (.r1 (.k (.int 100000))) (.cons (.ife (.cmp .eq (.v 1) (.k (.int 0))) (.cons (.ret (.v 0)) .nil) .nil) (.cons (.par [0, 1] [false, false] (.cons (.v 1) (.cons (.bin .mod (.v 0) (.v 1)) .nil))) .nil))) (.cons (.ret (.v 0)) .nil)))
def c_u_law_divisor : List (Str × D) := []
def f_u_law_divisor : Fn := ⟨"_law_divisor", ["one", "two"], [], run ⟨[], c_u_law_divisor, []⟩ 1000000 3 b_u_law_divisor⟩
def b_u_law_share : Ss := (.cons (.asg (.n 2) (.call 0 (.cons (.v 0) (.cons (.v 1) .nil)) .nil)) (.cons (.asg (.n 2) (.ife (.cmp .gt (.v 1) (.k (.int 0))) (.v 2) (.neg (.v 2)))) (.cons (.ret (.tup (.cons (.bin .fdiv (.v 0) (.v 2)) (.cons (.bin .fdiv (.v 1) (.v 2)) .nil)))) .nil)))
def c_u_law_share : List (Str × D) := []
def f_u_law_share : Fn := ⟨"_law_share", ["above", "below"], [], run ⟨[f_u_law_divisor], c_u_law_share, []⟩ 1000000 3 b_u_law_share⟩
end L
/-- a budget of draws -/
structure DrB (b : Nat) (ds : Option DS) : Prop where
  ex : ∃ s : DS, ds = some s ∧ s.cells ≠ [] ∧ s.lefts.length = s.cells.length ∧ 0 ≤ s.cnt ∧ s.cnt + b ≤ 10 ^ 15
theorem DrB.mono {b c : Nat} {ds : Option DS} (h : DrB b ds) (l : c ≤ b) : DrB c ds := by
  obtain ⟨s, h1, h2, h3, h4, h5⟩ := h
  exact ⟨s, h1, h2, h3, h4, by omega⟩
theorem L.mixed {c k : Int} (h0 : 0 ≤ k) (h1 : k ≤ 10 ^ 15 + 100) : ∃ v, L.f_u_law_mixed.m [.int c, .int k] = ret (.int v) ∧ 0 ≤ v ∧ v < 2147483629 := by
  have e1 : (2 * k).natAbs < 2 ^ 64 := by omega
  refine ⟨((c.fmod 2147483647 * (48271 + 2 * k * k) + 69621 * k + 11).fmod 2147483647 * 69621).fmod 2147483629, ?_, Int.fmod_nonneg_of_pos _ (by decide), Int.fmod_lt_of_pos _ (by decide)⟩
  have g1 : (c.fmod 2147483647).natAbs < 2 ^ 64 := by
    have := Int.fmod_nonneg_of_pos c (b := 2147483647) (by decide)
    have := Int.fmod_lt_of_pos c (b := 2147483647) (by decide)
    omega
  have m1 : mulOk 2 k = true := mulOk_l (by decide)
  have m2 : mulOk (2 * k) k = true := mulOk_l e1
  have m3 : mulOk (c.fmod 2147483647) (48271 + 2 * k * k) = true := mulOk_l g1
  have m4 : mulOk 69621 k = true := mulOk_l (by decide)
  have m5 : ∀ a, mulOk a 69621 = true := fun a => mulOk_r (by decide)
  simp [L.f_u_law_mixed, L.b_u_law_mixed, run, m1, m2, m3, m4, m5]
theorem wp_on {α : Type} {s : DS} {f : DS → Option α} {Q : α → Option DS → Prop} {a : α} (h : f s = some a) : wpR (onDS (some (.dict [])) f (some s)) Q = Q a (some s) := by
  unfold onDS
  dsimp only
  rw [h]; rfl
theorem wp_up {α : Type} {s s' : DS} {f : DS → Option DS} {Q : α → Option DS → Prop} {a : α} (h : f s = some s') : wpR (upDS (some (.dict [])) a f (some s)) Q = Q a (some s') := by
  unfold upDS
  dsimp only
  rw [h]; rfl
theorem ixN_nat' {n j : Nat} (h : j < n) : L2.ixN n (j : Int) = some j := by
  unfold L2.ixN
  rw [if_pos (Int.natCast_nonneg j), if_pos (Int.ofNat_lt.mpr h)]
  rfl
theorem nat_of {i : Int} {n : Nat} (h0 : 0 ≤ i) (h1 : i < n) : ∃ p : Nat, i = p ∧ p < n := ⟨i.toNat, by omega, by omega⟩
theorem get_of {α : Type} {xs : List α} {p : Nat} (h : p < xs.length) : ∃ c, xs[p]? = some c := ⟨xs[p], List.getElem?_eq_getElem h⟩
theorem args_m : L.f_u_law_mixed.ps.length = 2 := rfl
theorem L.draw {lim : Int} {b : Nat} {ds : Option DS} {Q : D → Option DS → Prop} (h : DrB (b + 1) ds) (l0 : 0 < lim) (l1 : Bd 1000 lim) (k : ∀ v ds', 0 ≤ v → v < lim → DrB b ds' → Q (.int v) ds') : wpR (L.f_u_law_draw.m [.dict [], .int lim] ds) Q := by
  obtain ⟨s, rfl, h2, h3, h4, h5⟩ := h
  have hl : 0 < s.cells.length := List.length_pos_iff.mpr h2
  obtain ⟨p, hp, hp2⟩ := nat_of (Int.fmod_nonneg_of_pos s.cnt (b := s.cells.length) (by omega)) (Int.fmod_lt_of_pos _ (by omega))
  have nz : (s.cells.length : Int) ≠ 0 := by omega
  obtain ⟨c, hc⟩ := get_of hp2
  obtain ⟨lf, hlf⟩ := get_of (xs := s.lefts) (p := p) (by omega)
  have c1 := L2.atI_nat hc
  have c2 := L2.atI_nat hlf
  have ix : L2.ixN s.lefts.length (p : Int) = some p := ixN_nat' (by omega)
  have lim0 : lim ≠ 0 := by omega
  have dv : divOk lf lim = true := divOk_bd l1
  have dv2 : ∀ a, divOk a 64 = true := fun a => divOk_bd (n := 2) (by unfold Bd; decide)
  by_cases hpos : 0 < lf
  · simp [L.f_u_law_draw, L.b_u_law_draw, run, wp_bnd, wp_ret, wp_on, wp_up, hp, h2, c2, hpos, lim0, dv, ix]
    refine k _ _ (Int.fmod_nonneg_of_pos _ l0) (Int.fmod_lt_of_pos _ l0) ?_
    exact ⟨_, rfl, h2, by simp [h3], (by show 0 ≤ s.cnt + 1; omega), (by show s.cnt + 1 + b ≤ _; omega)⟩
  · obtain ⟨v1, e1, _, _⟩ := L.mixed (c := c) (k := s.cnt) h4 (by omega)
    obtain ⟨v2, e2, b1, b2⟩ := L.mixed (c := v1) (k := 40 + s.cnt) (by omega) (by omega)
    obtain ⟨v3, e3, _, _⟩ := L.mixed (c := v2) (k := 7 + s.cnt) (by omega) (by omega)
    have m1 : mulOk v2 2147483647 = true := mulOk_r (by decide)
    simp [L.f_u_law_draw, L.b_u_law_draw, run, wp_bnd, wp_ret, wp_on, wp_up, hp, h2, c1, c2, hpos, lim0, dv2, args_m, e1, e2, e3, m1]
    refine k _ _ (Int.fmod_nonneg_of_pos _ l0) (Int.fmod_lt_of_pos _ l0) ?_
    exact ⟨_, rfl, h2, h3, (by show 0 ≤ s.cnt + 1; omega), (by show s.cnt + 1 + b ≤ _; omega)⟩
theorem L.drawN {lim : Int} {b : Nat} {ds : Option DS} {Q : D → Option DS → Prop} (h : DrB (b + 1) ds) (l0 : 0 < lim) (l1 : lim ≤ 10 ^ 60) (k : ∀ (v : Nat) ds', (v : Int) < lim → DrB b ds' → Q (.int (v : Int)) ds') : wpR (L.f_u_law_draw.m [.dict [], .int lim] ds) Q := by
  have l2 : Bd 1000 lim := Bd.mono (n := 61) (Bd.of (by omega) (by omega)) (by decide)
  refine L.draw h l0 l2 fun v ds' v0 v1 hd => ?_
  have e : v = ((v.toNat : Nat) : Int) := by omega
  rw [e]
  exact k v.toNat ds' (by omega) hd
theorem L.begin {ns : List Int} {Q : D → Option DS → Prop} {b : Nat} (hn : ns.length ≤ 63) (hb : b ≤ 10 ^ 15) (k : ∀ ds', DrB b ds' → Q (.dict []) ds') : wpR (L.f_u_law_begin.m [scrD ns] none) Q := by
  have h1 : (getv [some (scrD ns), none, none] 0).bind unscr = some ns := unscr_scrD ns
  have p1 : powOk 10 18 = true := by decide
  have l1 : (orZero ns).length ≤ 63 := by
    unfold orZero
    split
    · decide
    · exact hn
  have l2 : lenOk ((orZero ns).map PyData.int).length = true := lenOk_le (by rw [List.length_map]; omega)
  have l3 : lenOk (orZero ns).length = true := lenOk_le (by omega)
  simp [L.f_u_law_begin, L.b_u_law_begin, run, h1, ev_lc, isNo, unscr_scrD, p1]
  rw [lcL_ints (u := PyData.int) (v := fun c => PyData.int (if 1000000000000000000 ≤ c then c else 0)) fun x _ => by by_cases h : 1000000000000000000 ≤ x <;> simp [h]]
  have e : (orZero ns).map (fun c => PyData.int (if 1000000000000000000 ≤ c then c else 0)) = ((orZero ns).map fun c => if 1000000000000000000 ≤ c then c else 0).map PyData.int := by rw [List.map_map]; rfl
  rw [e]
  simp only [l3, if_true, lft_some, bnd_ret, nox_ret, intsOf_map, asL_l, Option.bind_some]
  refine k _ ⟨_, rfl, ?_, by simp, Int.le_refl 0, by simp; omega⟩
  show orZero ns ≠ []
  unfold orZero
  cases ns <;> simp

/-! ### divisors -/
theorem bi_absN {i : Int} : biD .abs [.int i] = some (.int (i.natAbs : Int)) := by
  rw [bi_abs]
  congr 2
  split <;> omega
theorem div_loop {body : D → Env → M Fl} (hb : ∀ (x : D) (a b : Nat) (o : Option D), body x [some (.int a), some (.int b), o] = if b = 0 then ret (.rt (.int a)) else ret (.nx [some (.int b), some (.int (a % b : Nat)), some x])) :
    ∀ (k : Nat) (xs : List D) (a b : Nat) (o : Option D), b < 2 ^ k → 2 * k + 1 ≤ xs.length → forL body xs [some (.int a), some (.int b), o] = ret (.rt (.int (Nat.gcd a b)))
  | k, [], _, _, _, _, h => by simp at h
  | k, x :: xs, a, b, o, hk, hl => by
    unfold forL
    rw [hb]
    by_cases b0 : b = 0
    · subst b0; simp
    · rw [if_neg b0, bnd_ret]
      cases k with
      | zero => simp at hk; omega
      | succ k =>
        cases xs with
        | nil => simp at hl
        | cons y ys =>
          show forL body (y :: ys) _ = _
          unfold forL
          rw [hb]
          have g : Nat.gcd a b = Nat.gcd b (a % b) := by rw [Nat.gcd_comm a b, Nat.gcd_rec, Nat.gcd_comm]
          by_cases r0 : a % b = 0
          · rw [if_pos r0, bnd_ret, g, r0]; simp
          · rw [if_neg r0, bnd_ret]
            show forL body ys _ = _
            rw [div_loop hb k ys (a % b) (b % (a % b)) (some y)]
            · have g2 : Nat.gcd b (a % b) = Nat.gcd (a % b) (b % (a % b)) := by rw [Nat.gcd_comm b, Nat.gcd_rec, Nat.gcd_comm]
              rw [g, g2]
            · have h1 : a % b < b := Nat.mod_lt _ (by omega)
              have h2 : b % (a % b) < a % b := Nat.mod_lt _ (by omega)
              have h3 : b % (a % b) + a % b ≤ b := by
                have := Nat.div_add_mod b (a % b)
                have q : 1 ≤ b / (a % b) := Nat.div_pos (by omega) (by omega)
                have := Nat.mul_le_mul_left (a % b) q
                omega
              have : 2 ^ (k + 1) = 2 ^ k * 2 := Nat.pow_succ ..
              omega
            · simp at hl; omega
theorem L.divisor {a b : Int} (hb : b.natAbs < 2 ^ 49999) : L.f_u_law_divisor.m [.int a, .int b] = ret (.int (Int.gcd a b)) := by
  simp [L.f_u_law_divisor, L.b_u_law_divisor, run, bi_absN, -bi_abs, rngOk_le]
  rw [div_loop _ 49999 _ _ _ _ hb (by rw [rngD_len]; decide)]
  · rfl
  · intro x a b o
    by_cases h : b = 0
    · simp [h]
    · have : ¬ ((b : Int) = 0) := by omega
      simp [h, this]
      rw [Int.fmod_eq_emod_of_nonneg _ (by omega)]
/-- a text of letters -/
def Gd (x : Str) : Prop := ∀ c ∈ x.cps.toList, c < 0x110000
theorem gd_of (s : String) : Gd (Str.ofString s) := by
  rw [Str.ofString_eq_toList]
  intro c hc
  simp only [List.mem_map] at hc
  obtain ⟨d, _, rfl⟩ := hc
  have := d.valid
  unfold UInt32.isValidChar Nat.isValidChar at this
  show d.val.toNat < _
  omega
theorem Gd.app {x y : Str} (a : Gd x) (b : Gd y) : Gd (x ++ y) := by
  intro c hc
  have : (x ++ y).cps.toList = x.cps.toList ++ y.cps.toList := by
    show (x.cps ++ y.cps).toList = _
    simp
  rw [this, List.mem_append] at hc
  rcases hc with h | h
  · exact a c h
  · exact b c h
theorem gd_join {sep : Str} (hs : Gd sep) : ∀ {ts : List Str}, (∀ t ∈ ts, Gd t) → Gd (Str.join sep ts)
  | [], _ => fun c hc => by
    have : c ∈ ([] : List Nat) := hc
    cases this
  | [x], h => h x (by simp)
  | x :: y :: r, h => by
    show Gd (x ++ sep ++ Str.join sep (y :: r))
    exact ((h x (by simp)).app hs).app (gd_join hs fun t ht => h t (List.mem_cons_of_mem _ ht))
theorem gd_from : ∀ (ts : List Str) (k : Nat) (acc : Str), Gd acc → (∀ t ∈ ts, Gd t) → Gd (textFrom k acc ts)
  | [], _, _, a, _ => a
  | t :: r, k, acc, a, h => by
    show Gd (textFrom (k + 1) (acc ++ (if k > 0 then ", " else "" : String) ++ t) r)
    refine gd_from r (k + 1) _ ((a.app ?_).app (h t (by simp))) fun u hu => h u (List.mem_cons_of_mem _ hu)
    split <;> exact gd_of _
mutual
theorem gd_shown : ∀ {d : D}, okd d = true → Gd d.shown
  | .none, _ => gd_of "None"
  | .bool true, _ => gd_of "True"
  | .bool false, _ => gd_of "False"
  | .int i, _ => gd_of _
  | .str x, h => fun c hc => by
    have h' : ((PyData.str x).leavesShort 600 && (PyData.shown (.str x)).cps.toList.all fun c => decide (c < 1114112)) = true := h
    rw [Bool.and_eq_true] at h'
    exact of_decide_eq_true (List.all_eq_true.mp h'.2 c hc)
  | .list xs, h => (gd_from _ 0 _ (gd_of "[") (gd_showns (xs := xs) (by simpa [okd] using h))).app (gd_of "]")
  | .tuple xs, h => by
    have z := gd_showns (xs := xs) (by simpa [okd] using h)
    show Gd (tupleText _)
    unfold tupleText
    refine ((gd_of "(").app (gd_join (gd_of ", ") z)).app ?_
    split <;> exact gd_of _
  | .dict _, h => by simp [okd] at h
theorem gd_showns : ∀ {xs : List D}, okds xs = true → ∀ t ∈ PyData.shownAll xs, Gd t
  | [], _, t, ht => by cases ht
  | x :: xs, h, t, ht => by
    have h' : okd x = true ∧ okds xs = true := by simpa [okds] using h
    rcases List.mem_cons.mp ht with z | z
    · rw [z]; exact gd_shown h'.1
    · exact gd_showns h'.2 t z
end
theorem shaped_str {x : Str} (h : Gd x) : SeqAt.shaped (.str x) = true := by
  show (PyData.strOk x && decide (0 ≤ 64)) = true
  simp only [Nat.zero_le, decide_true, Bool.and_true]
  unfold PyData.strOk
  rw [Array.all_eq_true']
  intro c hc
  exact decide_eq_true (h c (by simpa using hc))
theorem cmp_eqS {x y : Str} (hx : Gd x) (hy : Gd y) : cmpD .eq (.str x) (.str y) = some (decide (x = y)) := by
  show (if SeqAt.shaped (.str x) && SeqAt.shaped (.str y) then some (PyData.eqv (.str x) (.str y)) else none) = _
  rw [shaped_str hx, shaped_str hy]
  by_cases e : x = y
  · subst e; simp [PyData.eqv]
  · simp [PyData.eqv, e]
/-- what is small enough to be shown -/
structure Okd (d : D) : Prop where
  ok : okd d = true
  dp : d.depth ≤ 64
  bk : d.bulk ≤ 27000
theorem L.like {d : D} (h : Okd d) : L.f_u_law_like.m [d, d] = ret (.bool true) := by
  have g := gd_shown h.ok
  simp [L.f_u_law_like, L.b_u_law_like, run, reprOk_of h.ok h.dp h.bk, cmp_eqS g g]
theorem args_d : L.f_u_law_divisor.ps.length = 2 := rfl
theorem L.share {a b : Int} (hb : 0 < b) (h : b.natAbs < 2 ^ 49999) (hd : Bd 1000 b) : L.f_u_law_share.m [.int a, .int b] = ret (.tuple [.int (a / Int.gcd a b), .int (b / Int.gcd a b)]) := by
  have g0 : Int.gcd a b ≠ 0 := by
    intro z
    have := Int.gcd_eq_zero_iff.mp z
    omega
  have gl : (Int.gcd a b : Int) ≤ b := Int.le_of_dvd hb (Int.gcd_dvd_right ..)
  have dv : ∀ x, divOk x (Int.gcd a b) = true := fun x => divOk_bd (n := 1000) (by
    unfold Bd at *
    omega)
  simp [L.f_u_law_share, L.b_u_law_share, run, args_d, L.divisor h, hb, g0, dv, lenOk_le, Int.fdiv_eq_ediv_of_nonneg]
end Ev

end
section
set_option maxHeartbeats 4000000
/-! # EvN: lists, loops that search -/
namespace Ev
open PySem
/-- the i-th of some integers -/
def nth (P : List Int) (i : Nat) : Int := P.getD i 0
theorem nth_get {P : List Int} {i : Nat} (h : i < P.length) : P[i]? = some (nth P i) := by
  unfold nth
  rw [List.getD_eq_getElem?_getD, List.getElem?_eq_getElem h]
  rfl
theorem nth_map {α : Type} {f : α → Int} {xs : List α} {i : Nat} {x : α} (h : xs[i]? = some x) : nth (xs.map f) i = f x := by
  unfold nth
  rw [List.getD_eq_getElem?_getD, List.getElem?_map, h]
  rfl
theorem cutA_drop {α : Type} (xs : List α) (k : Nat) : cutA xs (some (k : Int)) none = xs.drop k := by
  unfold cutA
  rw [HT.sIx_nat, HT.sIx_none]
  by_cases h : k ≤ xs.length
  · rw [Nat.min_eq_left h]
    exact List.take_of_length_le (by rw [List.length_drop]; omega)
  · rw [Nat.min_eq_right (by omega), List.drop_eq_nil_of_le (by omega), List.drop_eq_nil_of_le (by omega)]; simp
theorem cutA_take {α : Type} (xs : List α) (k : Nat) : cutA xs none (some (k : Int)) = xs.take k := by
  unfold cutA
  rw [HT.sIx_nat, HT.sIx_none, List.drop_zero, Nat.sub_zero]
  by_cases h : k ≤ xs.length
  · rw [Nat.min_eq_left h]
  · rw [Nat.min_eq_right (by omega), List.take_of_length_le (by omega), List.take_of_length_le (by omega)]
theorem cutA_mid {α : Type} (xs : List α) (i k : Nat) : cutA xs (some (i : Int)) (some ((i + k : Nat) : Int)) = (xs.drop i).take k := by
  unfold cutA
  rw [HT.sIx_nat, HT.sIx_nat]
  by_cases h : i ≤ xs.length
  · rw [Nat.min_eq_left h]
    by_cases h2 : i + k ≤ xs.length
    · rw [Nat.min_eq_left h2, Nat.add_sub_cancel_left]
    · rw [Nat.min_eq_right (by omega), List.take_of_length_le (by rw [List.length_drop]; omega), List.take_of_length_le (by rw [List.length_drop]; omega)]
  · rw [Nat.min_eq_right (show xs.length ≤ i by omega), List.drop_eq_nil_of_le (Nat.le_refl _), List.drop_eq_nil_of_le (show xs.length ≤ i by omega)]; simp
theorem zipD_map {α β : Type} (u : α → D) (v : β → D) : ∀ (xs : List α) (ys : List β), zipD (xs.map u) (ys.map v) = (xs.zip ys).map fun p => .tuple [u p.1, v p.2]
  | [], _ => by simp [zipD]
  | _ :: _, [] => by simp [zipD]
  | x :: xs, y :: ys => by simp [zipD, zipD_map u v xs ys]
theorem enumD_map {α : Type} (u : α → D) : ∀ (xs : List α) (n : Nat), enumD n (xs.map u) = (xs.zipIdx n).map fun p => .tuple [.int (p.2 : Nat), u p.1]
  | [], _ => rfl
  | x :: xs, n => by simp [enumD, enumD_map u xs (n + 1)]
theorem sumD_map (xs : List Int) : sumD (xs.map PyData.int) = some (.int xs.sum) := by
  unfold sumD
  rw [intsOf_map]; rfl
theorem maxD_map (x : Int) (xs : List Int) : maxD ((x :: xs).map PyData.int) = some (.int (maxI x xs)) := by
  unfold maxD
  rw [intsOf_map]
theorem minD_map (x : Int) (xs : List Int) : minD ((x :: xs).map PyData.int) = some (.int (minI x xs)) := by
  unfold minD
  rw [intsOf_map]
theorem maxI_spec : ∀ (xs : List Int) (x : Int), maxI x xs ∈ x :: xs ∧ ∀ y ∈ x :: xs, y ≤ maxI x xs
  | [], x => by simp [maxI]
  | z :: xs, x => by
    obtain ⟨h1, h2⟩ := maxI_spec xs (if x < z then z else x)
    have e : maxI x (z :: xs) = maxI (if x < z then z else x) xs := rfl
    rw [e]
    have top := h2 _ List.mem_cons_self
    clear e
    generalize maxI (if x < z then z else x) xs = m at h1 h2 top ⊢
    refine ⟨?_, fun y hy => ?_⟩
    · rcases List.mem_cons.mp h1 with q | q
      · rw [q]; split <;> simp
      · simp [q]
    · rcases List.mem_cons.mp hy with q | q
      · rw [q]; split at top <;> omega
      · rcases List.mem_cons.mp q with q | q
        · rw [q]; split at top <;> omega
        · exact h2 y (List.mem_cons_of_mem _ q)
theorem minI_spec : ∀ (xs : List Int) (x : Int), minI x xs ∈ x :: xs ∧ ∀ y ∈ x :: xs, minI x xs ≤ y
  | [], x => by simp [minI]
  | z :: xs, x => by
    obtain ⟨h1, h2⟩ := minI_spec xs (if z < x then z else x)
    have e : minI x (z :: xs) = minI (if z < x then z else x) xs := rfl
    rw [e]
    have top := h2 _ List.mem_cons_self
    clear e
    generalize minI (if z < x then z else x) xs = m at h1 h2 top ⊢
    refine ⟨?_, fun y hy => ?_⟩
    · rcases List.mem_cons.mp h1 with q | q
      · rw [q]; split <;> simp
      · simp [q]
    · rcases List.mem_cons.mp hy with q | q
      · rw [q]; split at top <;> omega
      · rcases List.mem_cons.mp q with q | q
        · rw [q]; split at top <;> omega
        · exact h2 y (List.mem_cons_of_mem _ q)
theorem findSome_map {γ α β : Type} (f : γ → Option α) (g : α → β) : ∀ xs : List γ, xs.findSome? (fun x => (f x).map g) = (xs.findSome? f).map g
  | [] => rfl
  | x :: xs => by
    rw [List.findSome?_cons, List.findSome?_cons]
    cases f x with
    | none => exact findSome_map f g xs
    | some a => rfl
/-- a loop that searches: it returns at the first x with an answer -/
theorem forL_find {γ : Type} {b : D → Env → M Fl} (I : Env → Prop) (u : γ → D) (r : γ → Option D) : ∀ (xs : List γ) (env : Env), I env →
    (∀ x ∈ xs, ∀ env, I env → (∀ d, r x = some d → b (u x) env = ret (.rt d)) ∧ (r x = none → ∃ env', b (u x) env = ret (.nx env') ∧ I env')) →
    (∃ d, xs.findSome? r = some d ∧ forL b (xs.map u) env = ret (.rt d)) ∨ (xs.findSome? r = none ∧ ∃ env', I env' ∧ forL b (xs.map u) env = ret (.nx env'))
  | [], env, h, _ => .inr ⟨rfl, env, h, rfl⟩
  | x :: xs, env, h, k => by
    obtain ⟨k1, k2⟩ := k x List.mem_cons_self env h
    rw [List.map_cons]
    unfold forL
    cases e : r x with
    | some d =>
      refine .inl ⟨d, by simp [List.findSome?_cons, e], ?_⟩
      rw [k1 d e, bnd_ret]
    | none =>
      obtain ⟨env', e1, h'⟩ := k2 e
      rw [e1, bnd_ret]
      have z := forL_find I u r xs env' h' fun y hy => k y (List.mem_cons_of_mem _ hy)
      simpa [List.findSome?_cons, e] using z
/-- a loop that goes on to its end -/
theorem forL_all {γ : Type} {b : D → Env → M Fl} (I : Env → Prop) (u : γ → D) (xs : List γ) (env : Env) (h : I env) (k : ∀ x ∈ xs, ∀ env, I env → ∃ env', b (u x) env = ret (.nx env') ∧ I env') : ∃ env', I env' ∧ forL b (xs.map u) env = ret (.nx env') := by
  rcases forL_find I u (fun _ => none) xs env h fun x hx env hi => ⟨fun d e => (by cases e), fun _ => k x hx env hi⟩ with ⟨d, e, _⟩ | ⟨_, z⟩
  · have : ∀ l : List γ, l.findSome? (fun _ => (none : Option D)) = none := fun l => by simp
    rw [this] at e; cases e
  · exact z
theorem rng_map (a b : Int) : rngD a b = ((List.range (b - a).toNat).map fun i : Nat => (.int (a + (i : Int)) : D)) := rfl
theorem okds_ints : ∀ {xs : List Int}, (∀ x ∈ xs, Bd 500 x) → okds (xs.map PyData.int) = true
  | [], _ => rfl
  | x :: xs, h => by
    have h1 : x.natAbs < 10 ^ 500 := h x List.mem_cons_self
    have h2 := okds_ints fun y hy => h y (List.mem_cons_of_mem x hy)
    show (decide (x.natAbs < 10 ^ 500) && okds (xs.map PyData.int)) = true
    rw [h2, decide_eq_true h1]; rfl
theorem bulk_ints : ∀ {xs : List Int}, PyData.bulkAll (xs.map PyData.int) = xs.length
  | [] => rfl
  | x :: xs => by
    show 0 + 1 + PyData.bulkAll (xs.map PyData.int) = xs.length + 1
    rw [bulk_ints]; omega
theorem depth_ints : ∀ {xs : List Int}, PyData.depthAll (xs.map PyData.int) = 0
  | [] => rfl
  | x :: xs => by
    show max 0 (PyData.depthAll (xs.map PyData.int)) = 0
    rw [depth_ints]; rfl
end Ev

end
section
set_option maxHeartbeats 4000000
/-! # EvF: fractions -/
namespace Ev
open PySem
namespace F
def b_made_in : Ss := (.cons (.asg (.n 2) (.ife (.cmp .gt (.v 1) (.k (.int 0))) (.bi .gcd (.cons (.v 0) (.cons (.v 1) .nil))) (.neg (.bi .gcd (.cons (.v 0) (.cons (.v 1) .nil)))))) (.cons (.ret (.tup (.cons (.bin .fdiv (.v 0) (.v 2)) (.cons (.bin .fdiv (.v 1) (.v 2)) .nil)))) .nil))
def c_made_in : List (Str × D) := []
def f_made_in : Fn := ⟨"made_in", ["above", "below"], [], run ⟨[], c_made_in, []⟩ 1000000 3 b_made_in⟩
@[simp] theorem p_made_in : f_made_in.ps.length = 2 := (rfl)
def b_plus_in : Ss := (.cons (.ret (.call 0 (.cons (.bin .add (.bin .mul (.ix (.v 0) (.k (.int 0))) (.ix (.v 1) (.k (.int 1)))) (.bin .mul (.ix (.v 1) (.k (.int 0))) (.ix (.v 0) (.k (.int 1))))) (.cons (.bin .mul (.ix (.v 0) (.k (.int 1))) (.ix (.v 1) (.k (.int 1)))) .nil)) .nil)) .nil)
def c_plus_in : List (Str × D) := []
def f_plus_in : Fn := ⟨"plus_in", ["one", "other"], [], run ⟨[f_made_in], c_plus_in, []⟩ 1000000 2 b_plus_in⟩
@[simp] theorem p_plus_in : f_plus_in.ps.length = 2 := (rfl)
def b_minus_in : Ss := (.cons (.ret (.call 0 (.cons (.bin .sub (.bin .mul (.ix (.v 0) (.k (.int 0))) (.ix (.v 1) (.k (.int 1)))) (.bin .mul (.ix (.v 1) (.k (.int 0))) (.ix (.v 0) (.k (.int 1))))) (.cons (.bin .mul (.ix (.v 0) (.k (.int 1))) (.ix (.v 1) (.k (.int 1)))) .nil)) .nil)) .nil)
def c_minus_in : List (Str × D) := []
def f_minus_in : Fn := ⟨"minus_in", ["one", "other"], [], run ⟨[f_made_in], c_minus_in, []⟩ 1000000 2 b_minus_in⟩
@[simp] theorem p_minus_in : f_minus_in.ps.length = 2 := (rfl)
def b_times_in : Ss := (.cons (.ret (.call 0 (.cons (.bin .mul (.ix (.v 0) (.k (.int 0))) (.ix (.v 1) (.k (.int 0)))) (.cons (.bin .mul (.ix (.v 0) (.k (.int 1))) (.ix (.v 1) (.k (.int 1)))) .nil)) .nil)) .nil)
def c_times_in : List (Str × D) := []
def f_times_in : Fn := ⟨"times_in", ["one", "other"], [], run ⟨[f_made_in], c_times_in, []⟩ 1000000 2 b_times_in⟩
@[simp] theorem p_times_in : f_times_in.ps.length = 2 := (rfl)
def b_over_in : Ss := (.cons (.ret (.call 0 (.cons (.bin .mul (.ix (.v 0) (.k (.int 0))) (.ix (.v 1) (.k (.int 1)))) (.cons (.bin .mul (.ix (.v 0) (.k (.int 1))) (.ix (.v 1) (.k (.int 0)))) .nil)) .nil)) .nil)
def c_over_in : List (Str × D) := []
def f_over_in : Fn := ⟨"over_in", ["one", "other"], [], run ⟨[f_made_in], c_over_in, []⟩ 1000000 2 b_over_in⟩
@[simp] theorem p_over_in : f_over_in.ps.length = 2 := (rfl)
def b_less_in : Ss := (.cons (.ret (.cmp .lt (.bin .mul (.ix (.v 0) (.k (.int 0))) (.ix (.v 1) (.k (.int 1)))) (.bin .mul (.ix (.v 1) (.k (.int 0))) (.ix (.v 0) (.k (.int 1)))))) .nil)
def c_less_in : List (Str × D) := []
def f_less_in : Fn := ⟨"less_in", ["one", "other"], [], run ⟨[], c_less_in, []⟩ 1000000 2 b_less_in⟩
@[simp] theorem p_less_in : f_less_in.ps.length = 2 := (rfl)
def b_u_law_plus : Ss := (.cons (.ret (.call 0 (.cons (.bin .add (.bin .mul (.ix (.v 0) (.k (.int 0))) (.ix (.v 1) (.k (.int 1)))) (.bin .mul (.ix (.v 1) (.k (.int 0))) (.ix (.v 0) (.k (.int 1))))) (.cons (.bin .mul (.ix (.v 0) (.k (.int 1))) (.ix (.v 1) (.k (.int 1)))) .nil)) .nil)) .nil)
def c_u_law_plus : List (Str × D) := []
def f_u_law_plus : Fn := ⟨"_law_plus", ["one", "two"], [], run ⟨[L.f_u_law_share], c_u_law_plus, []⟩ 1000000 2 b_u_law_plus⟩
@[simp] theorem p_u_law_plus : f_u_law_plus.ps.length = 2 := (rfl)
def b_u_law_minus : Ss := (.cons (.ret (.call 0 (.cons (.bin .sub (.bin .mul (.ix (.v 0) (.k (.int 0))) (.ix (.v 1) (.k (.int 1)))) (.bin .mul (.ix (.v 1) (.k (.int 0))) (.ix (.v 0) (.k (.int 1))))) (.cons (.bin .mul (.ix (.v 0) (.k (.int 1))) (.ix (.v 1) (.k (.int 1)))) .nil)) .nil)) .nil)
def c_u_law_minus : List (Str × D) := []
def f_u_law_minus : Fn := ⟨"_law_minus", ["one", "two"], [], run ⟨[L.f_u_law_share], c_u_law_minus, []⟩ 1000000 2 b_u_law_minus⟩
@[simp] theorem p_u_law_minus : f_u_law_minus.ps.length = 2 := (rfl)
def b_u_law_times : Ss := (.cons (.ret (.call 0 (.cons (.bin .mul (.ix (.v 0) (.k (.int 0))) (.ix (.v 1) (.k (.int 0)))) (.cons (.bin .mul (.ix (.v 0) (.k (.int 1))) (.ix (.v 1) (.k (.int 1)))) .nil)) .nil)) .nil)
def c_u_law_times : List (Str × D) := []
def f_u_law_times : Fn := ⟨"_law_times", ["one", "two"], [], run ⟨[L.f_u_law_share], c_u_law_times, []⟩ 1000000 2 b_u_law_times⟩
@[simp] theorem p_u_law_times : f_u_law_times.ps.length = 2 := (rfl)
def b_u_law_over : Ss := (.cons (.ret (.call 0 (.cons (.bin .mul (.ix (.v 0) (.k (.int 0))) (.ix (.v 1) (.k (.int 1)))) (.cons (.bin .mul (.ix (.v 0) (.k (.int 1))) (.ix (.v 1) (.k (.int 0)))) .nil)) .nil)) .nil)
def c_u_law_over : List (Str × D) := []
def f_u_law_over : Fn := ⟨"_law_over", ["one", "two"], [], run ⟨[L.f_u_law_share], c_u_law_over, []⟩ 1000000 2 b_u_law_over⟩
@[simp] theorem p_u_law_over : f_u_law_over.ps.length = 2 := (rfl)
def b_u_law_below : Ss := (.cons (.ret (.cmp .lt (.bin .mul (.ix (.v 0) (.k (.int 0))) (.ix (.v 1) (.k (.int 1)))) (.bin .mul (.ix (.v 1) (.k (.int 0))) (.ix (.v 0) (.k (.int 1)))))) .nil)
def c_u_law_below : List (Str × D) := []
def f_u_law_below : Fn := ⟨"_law_below", ["one", "two"], [], run ⟨[], c_u_law_below, []⟩ 1000000 2 b_u_law_below⟩
@[simp] theorem p_u_law_below : f_u_law_below.ps.length = 2 := (rfl)
@[simp] theorem p_share : L.f_u_law_share.ps.length = 2 := (rfl)
end F
theorem okd_int {i : Int} (h : Bd 500 i) : okd (.int i) = true := decide_eq_true h
/-- a fraction's data -/
def fr (q : Rat) : D := .tuple [.int q.num, .int (q.den : Int)]
theorem fr_pos {a b : Int} (hb : 0 < b) : (PyData.tuple [.int (a / Int.gcd a b), .int (b / Int.gcd a b)] : D) = fr (Rat.divInt a b) := by
  unfold fr
  have e1 : (Rat.divInt a b).num = a / Int.gcd a b := by rw [Rat.num_divInt, Int.sign_eq_one_of_pos hb, Int.one_mul, Int.gcd_comm]
  have e2 : ((Rat.divInt a b).den : Int) = b / Int.gcd a b := by
    rw [Rat.den_divInt, if_neg (by omega), Int.gcd_comm]
    push_cast
    rw [Int.natAbs_of_nonneg (Int.le_of_lt hb)]
  rw [e1, e2]
theorem fr_neg {a b : Int} (hb : b < 0) : (PyData.tuple [.int (a.fdiv (-(Int.gcd a b : Int))), .int (b.fdiv (-(Int.gcd a b : Int)))] : D) = fr (Rat.divInt a b) := by
  have g0 : (Int.gcd a b : Int) ≠ 0 := by
    intro z
    have := Int.gcd_eq_zero_iff.mp (by omega : Int.gcd a b = 0)
    omega
  have d1 : (Int.gcd a b : Int) ∣ a := Int.gcd_dvd_left ..
  have d2 : (Int.gcd a b : Int) ∣ b := Int.gcd_dvd_right ..
  unfold fr
  have e1 : (Rat.divInt a b).num = a.fdiv (-(Int.gcd a b : Int)) := by
    rw [Rat.num_divInt, Int.sign_eq_neg_one_of_neg hb, Int.gcd_comm, Int.fdiv_eq_ediv_of_dvd (Int.neg_dvd.mpr d1), Int.ediv_neg, Int.neg_mul, Int.one_mul, Int.neg_ediv_of_dvd d1]
  have e2 : ((Rat.divInt a b).den : Int) = b.fdiv (-(Int.gcd a b : Int)) := by
    rw [Rat.den_divInt, if_neg (by omega), Int.gcd_comm, Int.fdiv_eq_ediv_of_dvd (Int.neg_dvd.mpr d2), Int.ediv_neg, ← Int.neg_ediv_of_dvd d2]
    push_cast
    rw [Int.ofNat_natAbs_of_nonpos (Int.le_of_lt hb)]
  rw [e1, e2]
/-- small enough to be reckoned with -/
structure FB (n : Nat) (q : Rat) : Prop where
  a : Bd n q.num
  b : Bd n (q.den : Int)
theorem FB.mono {n m : Nat} {q : Rat} (h : FB n q) (l : n ≤ m) : FB m q := ⟨h.a.mono l, h.b.mono l⟩
theorem bd_gcd {n : Nat} {a b : Int} (hb : b ≠ 0) (h : Bd n b) : Bd n (Int.gcd a b : Int) := by
  have l : (Int.gcd a b : Int) ≤ b.natAbs := by
    have : Int.gcd a b ∣ b.natAbs := Int.gcd_dvd_natAbs_right ..
    have := Nat.le_of_dvd (by omega) this
    omega
  unfold Bd at *
  omega
theorem F.made {a b : Int} (hb : b ≠ 0) (h : Bd 900 b) : F.f_made_in.m [.int a, .int b] = ret (fr (Rat.divInt a b)) := by
  have g0 : Int.gcd a b ≠ 0 := by
    intro z
    have := Int.gcd_eq_zero_iff.mp z
    omega
  have hg := bd_gcd (a := a) hb h
  have dv : ∀ x, divOk x (Int.gcd a b : Int) = true := fun x => divOk_bd hg
  have dv2 : ∀ x, divOk x (-(Int.gcd a b : Int)) = true := fun x => divOk_bd hg.neg
  have eg : Nat.gcd a.natAbs b.natAbs = Int.gcd a b := rfl
  by_cases c : 0 < b
  · rw [← fr_pos c]
    simp [F.f_made_in, F.b_made_in, run, c, eg, g0, dv, lenOk_le, Int.fdiv_eq_ediv_of_nonneg]
  · rw [← fr_neg (by omega)]
    simp [F.f_made_in, F.b_made_in, run, c, eg, g0, dv2, lenOk_le]
theorem den0 (q : Rat) : (q.den : Int) ≠ 0 := by have := q.den_pos; omega
theorem q_add (p q : Rat) : Rat.divInt (p.num * q.den + q.num * p.den) (p.den * q.den) = p + q := by
  rw [← Rat.divInt_add_divInt _ _ (den0 p) (den0 q), Rat.num_divInt_den, Rat.num_divInt_den]
theorem q_sub (p q : Rat) : Rat.divInt (p.num * q.den - q.num * p.den) (p.den * q.den) = p - q := by
  rw [← Rat.divInt_sub_divInt _ _ (den0 p) (den0 q), Rat.num_divInt_den, Rat.num_divInt_den]
theorem q_mul (p q : Rat) : Rat.divInt (p.num * q.num) (p.den * q.den) = p * q := by
  rw [← Rat.divInt_mul_divInt, Rat.num_divInt_den, Rat.num_divInt_den]
theorem q_div (p q : Rat) : Rat.divInt (p.num * q.den) (p.den * q.num) = p / q := by
  rw [← Rat.divInt_mul_divInt, Rat.num_divInt_den, ← Rat.inv_divInt, Rat.num_divInt_den, Rat.div_def]
theorem num0 {q : Rat} (h : q ≠ 0) : q.num ≠ 0 := fun z => h (by rw [← Rat.num_divInt_den q, z]; simp)
section
variable {n m : Nat} {p q : Rat}
theorem F.plus (hp : FB n p) (hq : FB m q) (l : n + m ≤ 800 := by decide) : F.f_plus_in.m [fr p, fr q] = ret (fr (p + q)) := by
  have m1 := mulOk_bd hp.a hq.b (by omega)
  have m2 := mulOk_bd hq.a hp.b (by omega)
  have m3 := mulOk_bd hp.b hq.b (by omega)
  have mk := F.made (a := p.num * q.den + q.num * p.den) (b := p.den * q.den) (Int.mul_ne_zero (den0 p) (den0 q)) ((hp.b.mul hq.b).mono (by omega))
  rw [q_add] at mk
  simp [F.f_plus_in, F.b_plus_in, run, fr, m1, m2, m3] at mk ⊢
  rw [mk]; rfl
theorem F.minus (hp : FB n p) (hq : FB m q) (l : n + m ≤ 800 := by decide) : F.f_minus_in.m [fr p, fr q] = ret (fr (p - q)) := by
  have m1 := mulOk_bd hp.a hq.b (by omega)
  have m2 := mulOk_bd hq.a hp.b (by omega)
  have m3 := mulOk_bd hp.b hq.b (by omega)
  have mk := F.made (a := p.num * q.den - q.num * p.den) (b := p.den * q.den) (Int.mul_ne_zero (den0 p) (den0 q)) ((hp.b.mul hq.b).mono (by omega))
  rw [q_sub] at mk
  simp [F.f_minus_in, F.b_minus_in, run, fr, m1, m2, m3] at mk ⊢
  rw [mk]; rfl
theorem F.times (hp : FB n p) (hq : FB m q) (l : n + m ≤ 800 := by decide) : F.f_times_in.m [fr p, fr q] = ret (fr (p * q)) := by
  have m1 := mulOk_bd hp.a hq.a (by omega)
  have m3 := mulOk_bd hp.b hq.b (by omega)
  have mk := F.made (a := p.num * q.num) (b := p.den * q.den) (Int.mul_ne_zero (den0 p) (den0 q)) ((hp.b.mul hq.b).mono (by omega))
  rw [q_mul] at mk
  simp [F.f_times_in, F.b_times_in, run, fr, m1, m3] at mk ⊢
  rw [mk]; rfl
theorem F.over (hp : FB n p) (hq : FB m q) (h : q ≠ 0) (l : n + m ≤ 800 := by decide) : F.f_over_in.m [fr p, fr q] = ret (fr (p / q)) := by
  have m1 := mulOk_bd hp.a hq.b (by omega)
  have m3 := mulOk_bd hp.b hq.a (by omega)
  have mk := F.made (a := p.num * q.den) (b := p.den * q.num) (Int.mul_ne_zero (den0 p) (num0 h)) ((hp.b.mul hq.a).mono (by omega))
  rw [q_div] at mk
  simp [F.f_over_in, F.b_over_in, run, fr, m1, m3] at mk ⊢
  rw [mk]; rfl
theorem F.less (hp : FB n p) (hq : FB m q) (l : n + m ≤ 800 := by decide) : F.f_less_in.m [fr p, fr q] = ret (.bool (decide (p < q))) := by
  have m1 := mulOk_bd hp.a hq.b (by omega)
  have m2 := mulOk_bd hq.a hp.b (by omega)
  have e := Rat.lt_iff p q
  simp [F.f_less_in, F.b_less_in, run, fr, m1, m2, e]
end
theorem FB.mk' {n : Nat} {a b : Int} (ha : Bd n a) (hb : Bd n b) (h : b ≠ 0) : FB n (Rat.divInt a b) := by
  have s1 : (b.sign * a).natAbs = a.natAbs := by
    rw [Int.natAbs_mul, Int.natAbs_sign_of_ne_zero h, Nat.one_mul]
  constructor
  · rw [Rat.num_divInt]
    have l := Int.natAbs_ediv_le_natAbs (b.sign * a) (b.gcd a)
    rw [s1] at l
    exact Nat.lt_of_le_of_lt l ha
  · rw [Rat.den_divInt, if_neg h]
    have l := Nat.div_le_self b.natAbs (b.gcd a)
    show ((b.natAbs / b.gcd a : Nat) : Int).natAbs < 10 ^ n
    rw [Int.natAbs_natCast]
    exact Nat.lt_of_le_of_lt l hb
theorem FB.add {n m : Nat} {p q : Rat} (hp : FB n p) (hq : FB m q) : FB (n + m + 1) (p + q) := by
  rw [← q_add]
  have a := (hp.a.mul hq.b).add ((hq.a.mul hp.b).mono (show m + n ≤ n + m by omega))
  exact FB.mk' a ((hp.b.mul hq.b).mono (by omega)) (Int.mul_ne_zero (den0 p) (den0 q))
theorem FB.sub {n m : Nat} {p q : Rat} (hp : FB n p) (hq : FB m q) : FB (n + m + 1) (p - q) := by
  rw [← q_sub]
  have a := (hp.a.mul hq.b).sub ((hq.a.mul hp.b).mono (show m + n ≤ n + m by omega))
  exact FB.mk' a ((hp.b.mul hq.b).mono (by omega)) (Int.mul_ne_zero (den0 p) (den0 q))
theorem FB.mul {n m : Nat} {p q : Rat} (hp : FB n p) (hq : FB m q) : FB (n + m) (p * q) := by
  rw [← q_mul]
  exact FB.mk' (hp.a.mul hq.a) (hp.b.mul hq.b) (Int.mul_ne_zero (den0 p) (den0 q))
theorem FB.div {n m : Nat} {p q : Rat} (hp : FB n p) (hq : FB m q) (h : q ≠ 0) : FB (n + m) (p / q) := by
  rw [← q_div]
  exact FB.mk' (hp.a.mul hq.b) (hp.b.mul hq.a) (Int.mul_ne_zero (den0 p) (num0 h))
/-- the law's own share -/
theorem F.share {a b : Int} (hb : b ≠ 0) (h : Bd 900 b) : L.f_u_law_share.m [.int a, .int b] = ret (fr (Rat.divInt a b)) := by
  have h2 : b.natAbs < 2 ^ 49999 := Nat.lt_of_lt_of_le h (by decide +kernel)
  have g0 : Int.gcd a b ≠ 0 := by
    intro z
    have := Int.gcd_eq_zero_iff.mp z
    omega
  have hg := bd_gcd (a := a) hb h
  have dv : ∀ x, divOk x (Int.gcd a b : Int) = true := fun x => divOk_bd hg
  have dv2 : ∀ x, divOk x (-(Int.gcd a b : Int)) = true := fun x => divOk_bd hg.neg
  by_cases c : 0 < b
  · rw [← fr_pos c]
    simp [L.f_u_law_share, L.b_u_law_share, run, args_d, L.divisor h2, c, g0, dv, lenOk_le, Int.fdiv_eq_ediv_of_nonneg]
  · rw [← fr_neg (by omega)]
    simp [L.f_u_law_share, L.b_u_law_share, run, args_d, L.divisor h2, c, g0, dv2, lenOk_le]
section
variable {n m : Nat} {p q : Rat}
theorem F.lplus (hp : FB n p) (hq : FB m q) (l : n + m ≤ 800 := by decide) : F.f_u_law_plus.m [fr p, fr q] = ret (fr (p + q)) := by
  have m1 := mulOk_bd hp.a hq.b (by omega)
  have m2 := mulOk_bd hq.a hp.b (by omega)
  have m3 := mulOk_bd hp.b hq.b (by omega)
  have mk := F.share (a := p.num * q.den + q.num * p.den) (b := p.den * q.den) (Int.mul_ne_zero (den0 p) (den0 q)) ((hp.b.mul hq.b).mono (by omega))
  rw [q_add] at mk
  simp [F.f_u_law_plus, F.b_u_law_plus, run, fr, m1, m2, m3] at mk ⊢
  rw [mk]; rfl
theorem F.lminus (hp : FB n p) (hq : FB m q) (l : n + m ≤ 800 := by decide) : F.f_u_law_minus.m [fr p, fr q] = ret (fr (p - q)) := by
  have m1 := mulOk_bd hp.a hq.b (by omega)
  have m2 := mulOk_bd hq.a hp.b (by omega)
  have m3 := mulOk_bd hp.b hq.b (by omega)
  have mk := F.share (a := p.num * q.den - q.num * p.den) (b := p.den * q.den) (Int.mul_ne_zero (den0 p) (den0 q)) ((hp.b.mul hq.b).mono (by omega))
  rw [q_sub] at mk
  simp [F.f_u_law_minus, F.b_u_law_minus, run, fr, m1, m2, m3] at mk ⊢
  rw [mk]; rfl
theorem F.ltimes (hp : FB n p) (hq : FB m q) (l : n + m ≤ 800 := by decide) : F.f_u_law_times.m [fr p, fr q] = ret (fr (p * q)) := by
  have m1 := mulOk_bd hp.a hq.a (by omega)
  have m3 := mulOk_bd hp.b hq.b (by omega)
  have mk := F.share (a := p.num * q.num) (b := p.den * q.den) (Int.mul_ne_zero (den0 p) (den0 q)) ((hp.b.mul hq.b).mono (by omega))
  rw [q_mul] at mk
  simp [F.f_u_law_times, F.b_u_law_times, run, fr, m1, m3] at mk ⊢
  rw [mk]; rfl
theorem F.lover (hp : FB n p) (hq : FB m q) (h : q ≠ 0) (l : n + m ≤ 800 := by decide) : F.f_u_law_over.m [fr p, fr q] = ret (fr (p / q)) := by
  have m1 := mulOk_bd hp.a hq.b (by omega)
  have m3 := mulOk_bd hp.b hq.a (by omega)
  have mk := F.share (a := p.num * q.den) (b := p.den * q.num) (Int.mul_ne_zero (den0 p) (num0 h)) ((hp.b.mul hq.a).mono (by omega))
  rw [q_div] at mk
  simp [F.f_u_law_over, F.b_u_law_over, run, fr, m1, m3] at mk ⊢
  rw [mk]; rfl
theorem F.lbelow (hp : FB n p) (hq : FB m q) (l : n + m ≤ 800 := by decide) : F.f_u_law_below.m [fr p, fr q] = ret (.bool (decide (p < q))) := by
  have m1 := mulOk_bd hp.a hq.b (by omega)
  have m2 := mulOk_bd hq.a hp.b (by omega)
  have e := Rat.lt_iff p q
  simp [F.f_u_law_below, F.b_u_law_below, run, fr, m1, m2, e]
end
/-- what is shown of a fraction -/
theorem fr_ok {n : Nat} {q : Rat} (h : FB n q) (l : n ≤ 500 := by decide) : Okd (fr q) := by
  have a := okd_int (h.a.mono l)
  have b := okd_int (h.b.mono l)
  refine ⟨?_, by show 0 + 1 ≤ 64 <;> decide, by show 2 ≤ 27000 <;> decide⟩
  show (okd (.int _) && (okd (.int _) && true)) = true
  rw [a, b]; rfl
@[simp] theorem isNone_fr {q : Rat} : isNone (fr q) = false := (rfl)
@[simp] theorem ix_fr0 {q : Rat} : ixD (fr q) (.int 0) = some (.int q.num) := (rfl)
@[simp] theorem ix_fr1 {q : Rat} : ixD (fr q) (.int 1) = some (.int (q.den : Int)) := (rfl)
end Ev

end
section
set_option maxHeartbeats 4000000
/-! # EvC: the defs that more than one law has (printed by genC.py) -/
namespace Ev.C
open PySem PySem.Spec L2 Ev
def b_height_in : Ss := (.cons (.asg (.t (.cons (.n 1) (.cons (.n 2) (.cons (.n 3) (.cons (.n 4) .nil))))) (.v 0)) (.cons (.ret (.call 0 (.cons (.call 1 (.cons (.call 2 (.cons (.call 1 (.cons (.g 0) (.cons (.v 3) .nil)) .nil) (.cons (.v 1) .nil)) .nil) (.cons (.v 4) .nil)) .nil) (.cons (.v 2) .nil)) .nil)) .nil))
def c_height_in : List (Str × D) := [("ONE", .tuple [.int 1, .int 1])]
def f_height_in : Fn := ⟨"height_in", ["setting"], [], run ⟨[Ev.F.f_over_in, Ev.F.f_minus_in, Ev.F.f_times_in], c_height_in, []⟩ 1000000 5 b_height_in⟩
@[simp] theorem p_height_in : f_height_in.ps.length = 1 := (rfl)
@[simp] theorem g_height_in_0 : c_height_in[0]? = some (("ONE" : Str), (.tuple [.int 1, .int 1] : D)) := (rfl)
def b_is_from : Ss := (.cons (.ret (.and (.isi .int (.v 0)) (.cons (.not (.isi .bool (.v 0))) (.cons (.chain .le .le (.v 1) (.v 0) (.v 2)) .nil)))) .nil)
def c_is_from : List (Str × D) := []
def f_is_from : Fn := ⟨"is_from", ["value", "low", "high"], [], run ⟨[], c_is_from, []⟩ 1000000 3 b_is_from⟩
@[simp] theorem p_is_from : f_is_from.ps.length = 3 := (rfl)
def b_is_fraction : Ss := (.cons (.ife (.or (.not (.isi .tuple (.v 0))) (.cons (.cmp .ne (.bi .len (.cons (.v 0) .nil)) (.k (.int 2))) .nil)) (.cons (.ret (.k (.bool false))) .nil) .nil) (.cons (.ret (.and (.call 0 (.cons (.ix (.v 0) (.k (.int 0))) (.cons (.neg (.g 0)) (.cons (.g 0) .nil))) .nil) (.cons (.call 0 (.cons (.ix (.v 0) (.k (.int 1))) (.cons (.k (.int 1)) (.cons (.g 0) .nil))) .nil) (.cons (.cmp .eq (.bi .gcd (.cons (.ix (.v 0) (.k (.int 0))) (.cons (.ix (.v 0) (.k (.int 1))) .nil))) (.k (.int 1))) .nil)))) .nil))
def c_is_fraction : List (Str × D) := [("MOST", .int 1000000000000000000000000000000)]
def f_is_fraction : Fn := ⟨"is_fraction", ["value"], [], run ⟨[Ev.C.f_is_from], c_is_fraction, []⟩ 1000000 1 b_is_fraction⟩
@[simp] theorem p_is_fraction : f_is_fraction.ps.length = 1 := (rfl)
@[simp] theorem g_is_fraction_0 : c_is_fraction[0]? = some (("MOST" : Str), (.int 1000000000000000000000000000000 : D)) := (rfl)
def b_is_part : Ss := (.cons (.ret (.and (.call 0 (.cons (.v 0) .nil) .nil) (.cons (.call 1 (.cons (.g 0) (.cons (.v 0) .nil)) .nil) (.cons (.call 1 (.cons (.v 0) (.cons (.g 1) .nil)) .nil) (.cons (.cmp .le (.ix (.v 0) (.k (.int 1))) (.g 2)) .nil))))) .nil)
def c_is_part : List (Str × D) := [("NONE", .tuple [.int 0, .int 1]), ("ONE", .tuple [.int 1, .int 1]), ("MOST_PART", .int 1000)]
def f_is_part : Fn := ⟨"is_part", ["value"], [], run ⟨[Ev.C.f_is_fraction, Ev.F.f_less_in], c_is_part, []⟩ 1000000 1 b_is_part⟩
@[simp] theorem p_is_part : f_is_part.ps.length = 1 := (rfl)
@[simp] theorem g_is_part_0 : c_is_part[0]? = some (("NONE" : Str), (.tuple [.int 0, .int 1] : D)) := (rfl)
@[simp] theorem g_is_part_1 : c_is_part[1]? = some (("ONE" : Str), (.tuple [.int 1, .int 1] : D)) := (rfl)
@[simp] theorem g_is_part_2 : c_is_part[2]? = some (("MOST_PART" : Str), (.int 1000 : D)) := (rfl)
def b_wrong_place : Ss := (.cons (.asg (.t (.cons (.n 1) (.cons (.n 2) (.cons (.n 3) (.cons (.n 4) .nil))))) (.v 0)) (.cons (.ife (.not (.call 0 (.cons (.v 1) .nil) .nil)) (.cons (.ret (.k (.int 0))) .nil) .nil) (.cons (.ife (.or (.not (.call 0 (.cons (.v 2) .nil) .nil)) (.cons (.not (.call 2 (.cons (.g 0) (.cons (.v 2) .nil)) .nil)) .nil)) (.cons (.ret (.k (.int 1))) .nil) .nil) (.cons (.ife (.not (.call 1 (.cons (.v 3) .nil) .nil)) (.cons (.ret (.k (.int 2))) .nil) .nil) (.cons (.ret (.ife (.call 0 (.cons (.v 4) .nil) .nil) (.k .none) (.k (.int 3)))) .nil)))))
def c_wrong_place : List (Str × D) := [("NONE", .tuple [.int 0, .int 1])]
def f_wrong_place : Fn := ⟨"wrong_place", ["value"], [], run ⟨[Ev.C.f_is_fraction, Ev.C.f_is_part, Ev.F.f_less_in], c_wrong_place, []⟩ 1000000 5 b_wrong_place⟩
@[simp] theorem p_wrong_place : f_wrong_place.ps.length = 1 := (rfl)
@[simp] theorem g_wrong_place_0 : c_wrong_place[0]? = some (("NONE" : Str), (.tuple [.int 0, .int 1] : D)) := (rfl)
def b_cut_in : Ss := (.cons (.ret (.call 0 (.cons (.call 1 (.cons (.ix (.v 0) (.k (.int 2))) (.cons (.v 1) .nil)) .nil) (.cons (.ix (.v 0) (.k (.int 3))) .nil)) .nil)) .nil)
def c_cut_in : List (Str × D) := []
def f_cut_in : Fn := ⟨"cut_in", ["setting", "level"], [], run ⟨[Ev.F.f_plus_in, Ev.F.f_times_in], c_cut_in, []⟩ 1000000 2 b_cut_in⟩
@[simp] theorem p_cut_in : f_cut_in.ps.length = 2 := (rfl)
def b_is_level_kept : Ss := (.cons (.ret (.not (.call 0 (.cons (.ix (.v 0) (.k (.int 0))) (.cons (.call 1 (.cons (.v 0) (.cons (.call 2 (.cons (.ix (.v 0) (.k (.int 0))) (.cons (.ix (.v 0) (.k (.int 1))) .nil)) .nil) .nil)) .nil) .nil)) .nil))) .nil)
def c_is_level_kept : List (Str × D) := []
def f_is_level_kept : Fn := ⟨"is_level_kept", ["setting"], [], run ⟨[Ev.F.f_less_in, Ev.C.f_cut_in, Ev.F.f_plus_in], c_is_level_kept, []⟩ 1000000 1 b_is_level_kept⟩
@[simp] theorem p_is_level_kept : f_is_level_kept.ps.length = 1 := (rfl)
def b_check_setting : Ss := (.cons (.ife (.or (.not (.isi .tuple (.v 0))) (.cons (.cmp .ne (.bi .len (.cons (.v 0) .nil)) (.k (.int 4))) .nil)) (.cons (.rse "BadSetting" "place" (.tup .nil)) .nil) .nil) (.cons (.asg (.n 1) (.call 0 (.cons (.v 0) .nil) .nil)) (.cons (.ife (.cmp .isnot (.v 1) (.k .none)) (.cons (.rse "BadSetting" "place" (.tup (.cons (.v 1) .nil))) .nil) .nil) (.cons (.ife (.not (.call 1 (.cons (.v 0) .nil) .nil)) (.cons (.rse "BadSetting" "place" (.tup .nil)) .nil) .nil) (.cons (.ret (.v 0)) .nil)))))
def c_check_setting : List (Str × D) := []
def f_check_setting : Fn := ⟨"check_setting", ["value"], [], run ⟨[Ev.C.f_wrong_place, Ev.C.f_is_level_kept], c_check_setting, []⟩ 1000000 2 b_check_setting⟩
@[simp] theorem p_check_setting : f_check_setting.ps.length = 1 := (rfl)
def b_height_of : Ss := (.cons (.ret (.call 0 (.cons (.call 1 (.cons (.v 0) .nil) .nil) .nil) .nil)) .nil)
def c_height_of : List (Str × D) := []
def f_height_of : Fn := ⟨"height_of", ["setting"], [(0, [0])], run ⟨[Ev.C.f_height_in, Ev.C.f_check_setting], c_height_of, []⟩ 1000000 1 b_height_of⟩
@[simp] theorem p_height_of : f_height_of.ps.length = 1 := (rfl)
def b_check_part : Ss := (.cons (.ife (.not (.call 0 (.cons (.v 0) .nil) .nil)) (.cons (.rse "BadParameter" "value" (.v 0)) .nil) .nil) (.cons (.ret (.v 0)) .nil))
def c_check_part : List (Str × D) := []
def f_check_part : Fn := ⟨"check_part", ["value"], [], run ⟨[Ev.C.f_is_part], c_check_part, []⟩ 1000000 1 b_check_part⟩
@[simp] theorem p_check_part : f_check_part.ps.length = 1 := (rfl)
def b_check_height : Ss := (.cons (.ife (.or (.not (.call 1 (.cons (.v 1) .nil) .nil)) (.cons (.call 0 (.cons (.v 1) (.cons (.v 0) .nil)) .nil) .nil)) (.cons (.rse "BadParameter" "value" (.v 1)) .nil) .nil) (.cons (.ret (.v 1)) .nil))
def c_check_height : List (Str × D) := []
def f_check_height : Fn := ⟨"check_height", ["part", "value"], [], run ⟨[Ev.F.f_less_in, Ev.C.f_is_fraction], c_check_height, []⟩ 1000000 2 b_check_height⟩
@[simp] theorem p_check_height : f_check_height.ps.length = 2 := (rfl)
def b_setting_of : Ss := (.cons (.ex (.call 0 (.cons (.v 0) .nil) .nil)) (.cons (.ex (.call 1 (.cons (.v 0) (.cons (.v 1) .nil)) .nil)) (.cons (.ret (.tup (.cons (.g 0) (.cons (.g 1) (.cons (.v 0) (.cons (.tup (.cons (.neg (.ix (.v 1) (.k (.int 0)))) (.cons (.ix (.v 1) (.k (.int 1))) .nil))) .nil)))))) .nil)))
def c_setting_of : List (Str × D) := [("NONE", .tuple [.int 0, .int 1]), ("ONE", .tuple [.int 1, .int 1])]
def f_setting_of : Fn := ⟨"setting_of", ["part", "height"], [(0, [1, 0])], run ⟨[Ev.C.f_check_part, Ev.C.f_check_height], c_setting_of, []⟩ 1000000 2 b_setting_of⟩
@[simp] theorem p_setting_of : f_setting_of.ps.length = 2 := (rfl)
@[simp] theorem g_setting_of_0 : c_setting_of[0]? = some (("NONE" : Str), (.tuple [.int 0, .int 1] : D)) := (rfl)
@[simp] theorem g_setting_of_1 : c_setting_of[1]? = some (("ONE" : Str), (.tuple [.int 1, .int 1] : D)) := (rfl)
def b_is_spot : Ss := (.cons (.ret (.and (.call 0 (.cons (.v 0) .nil) .nil) (.cons (.call 1 (.cons (.g 0) (.cons (.v 0) .nil)) .nil) (.cons (.not (.call 1 (.cons (.g 1) (.cons (.v 0) .nil)) .nil)) .nil)))) .nil)
def c_is_spot : List (Str × D) := [("NONE", .tuple [.int 0, .int 1]), ("ONE", .tuple [.int 1, .int 1])]
def f_is_spot : Fn := ⟨"is_spot", ["value"], [], run ⟨[Ev.C.f_is_fraction, Ev.F.f_less_in], c_is_spot, []⟩ 1000000 1 b_is_spot⟩
@[simp] theorem p_is_spot : f_is_spot.ps.length = 1 := (rfl)
@[simp] theorem g_is_spot_0 : c_is_spot[0]? = some (("NONE" : Str), (.tuple [.int 0, .int 1] : D)) := (rfl)
@[simp] theorem g_is_spot_1 : c_is_spot[1]? = some (("ONE" : Str), (.tuple [.int 1, .int 1] : D)) := (rfl)
def b_check_spot : Ss := (.cons (.ife (.not (.call 0 (.cons (.v 0) .nil) .nil)) (.cons (.rse "BadParameter" "value" (.v 0)) .nil) .nil) (.cons (.ret (.v 0)) .nil))
def c_check_spot : List (Str × D) := []
def f_check_spot : Fn := ⟨"check_spot", ["value"], [], run ⟨[Ev.C.f_is_spot], c_check_spot, []⟩ 1000000 1 b_check_spot⟩
@[simp] theorem p_check_spot : f_check_spot.ps.length = 1 := (rfl)
def b_spot_level : Ss := (.cons (.ex (.call 0 (.cons (.v 0) .nil) .nil)) (.cons (.ret (.call 1 (.cons (.ix (.v 0) (.k (.int 0))) (.cons (.call 2 (.cons (.call 3 (.cons (.v 1) .nil) .nil) (.cons (.ix (.v 0) (.k (.int 1))) .nil)) .nil) .nil)) .nil)) .nil))
def c_spot_level : List (Str × D) := []
def f_spot_level : Fn := ⟨"spot_level", ["setting", "spot"], [(0, [1, 0])], run ⟨[Ev.C.f_check_setting, Ev.F.f_plus_in, Ev.F.f_times_in, Ev.C.f_check_spot], c_spot_level, []⟩ 1000000 2 b_spot_level⟩
@[simp] theorem p_spot_level : f_spot_level.ps.length = 2 := (rfl)
def b_spot_in : Ss := (.cons (.ret (.call 0 (.cons (.call 1 (.cons (.v 1) (.cons (.ix (.v 0) (.k (.int 0))) .nil)) .nil) (.cons (.ix (.v 0) (.k (.int 1))) .nil)) .nil)) .nil)
def c_spot_in : List (Str × D) := []
def f_spot_in : Fn := ⟨"spot_in", ["setting", "level"], [], run ⟨[Ev.F.f_over_in, Ev.F.f_minus_in], c_spot_in, []⟩ 1000000 2 b_spot_in⟩
@[simp] theorem p_spot_in : f_spot_in.ps.length = 2 := (rfl)
def b_level_spot : Ss := (.cons (.asg (.n 2) (.ix (.call 1 (.cons (.v 0) .nil) .nil) (.k (.int 0)))) (.cons (.ife (.or (.not (.call 3 (.cons (.v 1) .nil) .nil)) (.cons (.not (.call 2 (.cons (.v 2) (.cons (.v 1) .nil)) .nil)) (.cons (.call 2 (.cons (.call 4 (.cons (.v 2) (.cons (.ix (.v 0) (.k (.int 1))) .nil)) .nil) (.cons (.v 1) .nil)) .nil) .nil))) (.cons (.rse "BadParameter" "value" (.v 1)) .nil) .nil) (.cons (.ret (.call 0 (.cons (.v 0) (.cons (.v 1) .nil)) .nil)) .nil)))
def c_level_spot : List (Str × D) := []
def f_level_spot : Fn := ⟨"level_spot", ["setting", "level"], [(0, [1, 0])], run ⟨[Ev.C.f_spot_in, Ev.C.f_check_setting, Ev.F.f_less_in, Ev.C.f_is_fraction, Ev.F.f_plus_in], c_level_spot, []⟩ 1000000 3 b_level_spot⟩
@[simp] theorem p_level_spot : f_level_spot.ps.length = 2 := (rfl)
def b_u_law_cut : Ss := (.cons (.asg (.n 1) (.bin .add (.k (.int 2)) (.call 1 (.cons (.v 0) (.cons (.k (.int 7)) .nil)) .nil))) (.cons (.ret (.call 0 (.cons (.bin .add (.k (.int 1)) (.call 1 (.cons (.v 0) (.cons (.bin .sub (.v 1) (.k (.int 1))) .nil)) .nil)) (.cons (.v 1) .nil)) .nil)) .nil))
def c_u_law_cut : List (Str × D) := []
def f_u_law_cut : Fn := ⟨"_law_cut", ["draws_so"], [], run ⟨[Ev.L.f_u_law_share, Ev.L.f_u_law_draw], c_u_law_cut, []⟩ 1000000 2 b_u_law_cut⟩
@[simp] theorem p_u_law_cut : f_u_law_cut.ps.length = 1 := (rfl)
def b_u_law_lot : Ss := (.cons (.asg (.n 2) (.bin .add (.k (.int 1)) (.call 1 (.cons (.v 0) (.cons (.k (.int 12)) .nil)) .nil))) (.cons (.asg (.n 3) (.call 0 (.cons (.call 1 (.cons (.v 0) (.cons (.bin .add (.bin .mul (.k (.int 8)) (.v 2)) (.k (.int 1))) .nil)) .nil) (.cons (.v 2) .nil)) .nil)) (.cons (.ret (.ife (.not (.call 3 (.cons (.v 3) (.cons (.v 1) .nil)) .nil)) (.v 3) (.call 2 (.cons (.v 3) (.cons (.v 1) .nil)) .nil))) .nil)))
def c_u_law_lot : List (Str × D) := []
def f_u_law_lot : Fn := ⟨"_law_lot", ["draws_so", "cut_so"], [], run ⟨[Ev.L.f_u_law_share, Ev.L.f_u_law_draw, Ev.F.f_u_law_plus, Ev.F.f_u_law_below], c_u_law_lot, []⟩ 1000000 4 b_u_law_lot⟩
@[simp] theorem p_u_law_lot : f_u_law_lot.ps.length = 2 := (rfl)
def b_u_law_rule : Ss := (.cons (.asg (.n 1) (.call 0 (.cons (.v 0) .nil) .nil)) (.cons (.asg (.n 2) (.call 1 (.cons (.bin .sub (.call 5 (.cons (.v 0) (.cons (.k (.int 61)) .nil)) .nil) (.k (.int 20))) (.cons (.bin .add (.k (.int 1)) (.call 5 (.cons (.v 0) (.cons (.k (.int 4)) .nil)) .nil)) .nil)) .nil)) (.cons (.asg (.n 3) (.call 1 (.cons (.bin .add (.k (.int 1)) (.call 5 (.cons (.v 0) (.cons (.k (.int 9)) .nil)) .nil)) (.cons (.bin .add (.k (.int 1)) (.call 5 (.cons (.v 0) (.cons (.k (.int 6)) .nil)) .nil)) .nil)) .nil)) (.cons (.asg (.n 4) (.call 2 (.cons (.v 0) (.cons (.v 1) .nil)) .nil)) (.cons (.asg (.n 5) (.call 3 (.cons (.call 4 (.cons (.tup (.cons (.k (.int 1)) (.cons (.k (.int 1)) .nil))) (.cons (.v 1) .nil)) .nil) (.cons (.v 2) .nil)) .nil)) (.cons (.ret (.tup (.cons (.v 2) (.cons (.v 3) (.cons (.v 1) (.cons (.call 4 (.cons (.v 5) (.cons (.call 3 (.cons (.v 4) (.cons (.v 3) .nil)) .nil) .nil)) .nil) .nil)))))) .nil))))))
def c_u_law_rule : List (Str × D) := []
def f_u_law_rule : Fn := ⟨"_law_rule", ["draws_so"], [], run ⟨[Ev.C.f_u_law_cut, Ev.L.f_u_law_share, Ev.C.f_u_law_lot, Ev.F.f_u_law_times, Ev.F.f_u_law_minus, Ev.L.f_u_law_draw], c_u_law_rule, []⟩ 1000000 6 b_u_law_rule⟩
@[simp] theorem p_u_law_rule : f_u_law_rule.ps.length = 1 := (rfl)
def b_u_law_lot_of : Ss := (.cons (.asg (.t (.cons (.n 1) (.cons (.n 2) (.cons (.n 3) (.cons (.n 4) .nil))))) (.v 0)) (.cons (.ret (.call 0 (.cons (.call 1 (.cons (.call 2 (.cons (.call 1 (.cons (.tup (.cons (.k (.int 1)) (.cons (.k (.int 1)) .nil))) (.cons (.v 3) .nil)) .nil) (.cons (.v 1) .nil)) .nil) (.cons (.v 4) .nil)) .nil) (.cons (.v 2) .nil)) .nil)) .nil))
def c_u_law_lot_of : List (Str × D) := []
def f_u_law_lot_of : Fn := ⟨"_law_lot_of", ["rule_so"], [], run ⟨[Ev.F.f_u_law_over, Ev.F.f_u_law_minus, Ev.F.f_u_law_times], c_u_law_lot_of, []⟩ 1000000 5 b_u_law_lot_of⟩
@[simp] theorem p_u_law_lot_of : f_u_law_lot_of.ps.length = 1 := (rfl)
def b_u_law_tick : Ss := (.cons (.asg (.t (.cons (.n 2) (.cons (.n 3) (.cons (.n 4) (.cons (.n 5) .nil))))) (.v 0)) (.cons (.asg (.n 6) (.call 0 (.cons (.v 1) (.cons (.v 3) .nil)) .nil)) (.cons (.ife (.call 1 (.cons (.v 2) (.cons (.v 6) .nil)) .nil) (.cons (.ret (.tup (.cons (.call 0 (.cons (.call 2 (.cons (.v 4) (.cons (.v 6) .nil)) .nil) (.cons (.v 5) .nil)) .nil) (.cons (.v 6) .nil)))) .nil) .nil) (.cons (.ret (.tup (.cons (.v 6) (.cons (.k .none) .nil)))) .nil))))
def c_u_law_tick : List (Str × D) := []
def f_u_law_tick : Fn := ⟨"_law_tick", ["rule_so", "here"], [], run ⟨[Ev.F.f_u_law_plus, Ev.F.f_u_law_below, Ev.F.f_u_law_times], c_u_law_tick, []⟩ 1000000 7 b_u_law_tick⟩
@[simp] theorem p_u_law_tick : f_u_law_tick.ps.length = 2 := (rfl)
def b_u_law_spot : Ss := (.cons (.asg (.n 1) (.bin .add (.k (.int 1)) (.call 1 (.cons (.v 0) (.cons (.k (.int 30)) .nil)) .nil))) (.cons (.ret (.call 0 (.cons (.bin .add (.k (.int 1)) (.call 1 (.cons (.v 0) (.cons (.v 1) .nil)) .nil)) (.cons (.v 1) .nil)) .nil)) .nil))
def c_u_law_spot : List (Str × D) := []
def f_u_law_spot : Fn := ⟨"_law_spot", ["draws_so"], [], run ⟨[Ev.L.f_u_law_share, Ev.L.f_u_law_draw], c_u_law_spot, []⟩ 1000000 2 b_u_law_spot⟩
@[simp] theorem p_u_law_spot : f_u_law_spot.ps.length = 1 := (rfl)
def b_need_setting : Ss := (.cons (.ret (.call 0 (.cons (.v 0) .nil) .nil)) .nil)
def c_need_setting : List (Str × D) := []
def f_need_setting : Fn := ⟨"need_setting", ["setting"], [], run ⟨[Ev.C.f_check_setting], c_need_setting, []⟩ 1000000 1 b_need_setting⟩
@[simp] theorem p_need_setting : f_need_setting.ps.length = 1 := (rfl)
def b_check_fraction : Ss := (.cons (.ife (.not (.call 0 (.cons (.v 0) .nil) .nil)) (.cons (.rse "BadParameter" "value" (.v 0)) .nil) .nil) (.cons (.ret (.v 0)) .nil))
def c_check_fraction : List (Str × D) := []
def f_check_fraction : Fn := ⟨"check_fraction", ["value"], [], run ⟨[Ev.C.f_is_fraction], c_check_fraction, []⟩ 1000000 1 b_check_fraction⟩
@[simp] theorem p_check_fraction : f_check_fraction.ps.length = 1 := (rfl)
def b_moved : Ss := (.cons (.asg (.t (.cons (.n 2) (.cons (.n 3) (.cons (.n 4) (.cons (.n 5) .nil))))) (.call 0 (.cons (.v 0) .nil) .nil)) (.cons (.ex (.call 1 (.cons (.v 1) .nil) .nil)) (.cons (.ret (.tup (.cons (.call 2 (.cons (.v 2) (.cons (.v 1) .nil)) .nil) (.cons (.v 3) (.cons (.v 4) (.cons (.call 2 (.cons (.v 5) (.cons (.call 3 (.cons (.call 4 (.cons (.g 0) (.cons (.v 4) .nil)) .nil) (.cons (.v 1) .nil)) .nil) .nil)) .nil) .nil)))))) .nil)))
def c_moved : List (Str × D) := [("ONE", .tuple [.int 1, .int 1])]
def f_moved : Fn := ⟨"moved", ["setting", "by"], [(0, [1, 0])], run ⟨[Ev.C.f_check_setting, Ev.C.f_check_fraction, Ev.F.f_plus_in, Ev.F.f_times_in, Ev.F.f_minus_in], c_moved, []⟩ 1000000 6 b_moved⟩
@[simp] theorem p_moved : f_moved.ps.length = 2 := (rfl)
@[simp] theorem g_moved_0 : c_moved[0]? = some (("ONE" : Str), (.tuple [.int 1, .int 1] : D)) := (rfl)
def b_check_above : Ss := (.cons (.ife (.or (.not (.call 0 (.cons (.v 0) .nil) .nil)) (.cons (.not (.call 1 (.cons (.g 0) (.cons (.v 0) .nil)) .nil)) .nil)) (.cons (.rse "BadParameter" "value" (.v 0)) .nil) .nil) (.cons (.ret (.v 0)) .nil))
def c_check_above : List (Str × D) := [("NONE", .tuple [.int 0, .int 1])]
def f_check_above : Fn := ⟨"check_above", ["value"], [], run ⟨[Ev.C.f_is_fraction, Ev.F.f_less_in], c_check_above, []⟩ 1000000 1 b_check_above⟩
@[simp] theorem p_check_above : f_check_above.ps.length = 1 := (rfl)
@[simp] theorem g_check_above_0 : c_check_above[0]? = some (("NONE" : Str), (.tuple [.int 0, .int 1] : D)) := (rfl)
def b_scaled : Ss := (.cons (.asg (.t (.cons (.n 2) (.cons (.n 3) (.cons (.n 4) (.cons (.n 5) .nil))))) (.call 0 (.cons (.v 0) .nil) .nil)) (.cons (.ex (.call 1 (.cons (.v 1) .nil) .nil)) (.cons (.ret (.tup (.cons (.call 2 (.cons (.v 2) (.cons (.v 1) .nil)) .nil) (.cons (.call 2 (.cons (.v 3) (.cons (.v 1) .nil)) .nil) (.cons (.v 4) (.cons (.call 2 (.cons (.v 5) (.cons (.v 1) .nil)) .nil) .nil)))))) .nil)))
def c_scaled : List (Str × D) := []
def f_scaled : Fn := ⟨"scaled", ["setting", "by"], [(0, [1, 0])], run ⟨[Ev.C.f_check_setting, Ev.C.f_check_above, Ev.F.f_times_in], c_scaled, []⟩ 1000000 6 b_scaled⟩
@[simp] theorem p_scaled : f_scaled.ps.length = 2 := (rfl)
def b_alike : Ss := (.cons (.ex (.call 0 (.cons (.v 0) .nil) .nil)) (.cons (.ex (.call 0 (.cons (.v 1) .nil) .nil)) (.cons (.ret (.and (.cmp .eq (.ix (.v 0) (.k (.int 2))) (.ix (.v 1) (.k (.int 2)))) (.cons (.cmp .eq (.call 1 (.cons (.v 0) .nil) .nil) (.call 1 (.cons (.v 1) .nil) .nil)) .nil))) .nil)))
def c_alike : List (Str × D) := []
def f_alike : Fn := ⟨"alike", ["setting", "other"], [(0, [1, 0])], run ⟨[Ev.C.f_check_setting, Ev.C.f_height_in], c_alike, []⟩ 1000000 2 b_alike⟩
@[simp] theorem p_alike : f_alike.ps.length = 2 := (rfl)
def b_u_law_first : Ss := (.cons (.par [2, 3] [false, false] (.cons (.ix (.v 1) (.k (.int 0))) (.cons (.ix (.v 1) (.k (.int 1))) .nil))) (.cons (.asg (.n 4) (.call 0 (.cons (.call 1 (.cons (.v 0) (.cons (.k (.int 40)) .nil)) .nil) (.cons (.bin .add (.k (.int 1)) (.call 1 (.cons (.v 0) (.cons (.k (.int 5)) .nil)) .nil)) .nil)) .nil)) (.cons (.ret (.ife (.cmp .eq (.call 1 (.cons (.v 0) (.cons (.k (.int 5)) .nil)) .nil) (.k (.int 0))) (.v 2) (.call 2 (.cons (.v 2) (.cons (.call 3 (.cons (.v 4) (.cons (.v 3) .nil)) .nil) .nil)) .nil))) .nil)))
def c_u_law_first : List (Str × D) := []
def f_u_law_first : Fn := ⟨"_law_first", ["draws_so", "rule_so"], [], run ⟨[Ev.L.f_u_law_share, Ev.L.f_u_law_draw, Ev.F.f_u_law_minus, Ev.F.f_u_law_times], c_u_law_first, []⟩ 1000000 5 b_u_law_first⟩
@[simp] theorem p_u_law_first : f_u_law_first.ps.length = 2 := (rfl)
def b_u_law_run_1 : Ss := (.cons (.ife (.cmp .gt (.bi .len (.cons (.v 3) .nil)) (.v 2)) (.cons (.brk) .nil) .nil) (.cons (.asg (.t (.cons (.n 1) (.cons (.n 7) .nil))) (.call 0 (.cons (.v 0) (.cons (.v 1) .nil)) .nil)) (.cons (.asg (.n 5) (.bin .add (.v 5) (.k (.int 1)))) (.cons (.ife (.cmp .isnot (.v 7) (.k .none)) (.cons (.app 4 (.call 1 (.cons (.call 2 (.cons (.v 7) (.cons (.ix (.v 0) (.k (.int 0))) .nil)) .nil) (.cons (.ix (.v 0) (.k (.int 1))) .nil)) .nil)) (.cons (.app 3 (.v 5)) (.cons (.asg (.n 5) (.k (.int 0))) .nil))) .nil) .nil))))
def b_u_law_run : Ss := (.cons (.par [3, 4, 5] [true, true, false] (.cons (.lst .nil) (.cons (.lst .nil) (.cons (.k (.int 0)) .nil)))) (.cons (.for_ (.n 6) (.r1 (.k (.int 100000))) b_u_law_run_1) (.cons (.frz 4) (.cons (.ret (.tup (.cons (.ix (.v 3) (.k (.int 0))) (.cons (.sl (.v 3) (.k (.int 1)) (.no)) (.cons (.v 4) .nil))))) .nil))))
def c_u_law_run : List (Str × D) := []
def f_u_law_run : Fn := ⟨"_law_run", ["rule_so", "here", "often"], [], run ⟨[Ev.C.f_u_law_tick, Ev.F.f_u_law_over, Ev.F.f_u_law_minus], c_u_law_run, []⟩ 1000000 8 b_u_law_run⟩
@[simp] theorem p_u_law_run : f_u_law_run.ps.length = 3 := (rfl)
def b_u_law_up : Ss := (.cons (.ret (.neg (.bin .fdiv (.neg (.ix (.v 0) (.k (.int 0)))) (.ix (.v 0) (.k (.int 1)))))) .nil)
def c_u_law_up : List (Str × D) := []
def f_u_law_up : Fn := ⟨"_law_up", ["one"], [], run ⟨[], c_u_law_up, []⟩ 1000000 1 b_u_law_up⟩
@[simp] theorem p_u_law_up : f_u_law_up.ps.length = 1 := (rfl)
def b_u_law_next : Ss := (.cons (.asg (.n 3) (.call 0 (.cons (.call 1 (.cons (.v 0) (.cons (.v 2) .nil)) .nil) (.cons (.v 1) .nil)) .nil)) (.cons (.asg (.n 4) (.bin .sub (.k (.int 1)) (.call 2 (.cons (.v 3) .nil) .nil))) (.cons (.ret (.tup (.cons (.v 4) (.cons (.call 3 (.cons (.v 3) (.cons (.tup (.cons (.v 4) (.cons (.k (.int 1)) .nil))) .nil)) .nil) .nil)))) .nil)))
def c_u_law_next : List (Str × D) := []
def f_u_law_next : Fn := ⟨"_law_next", ["cut_so", "lot_so", "here"], [], run ⟨[Ev.F.f_u_law_minus, Ev.F.f_u_law_times, Ev.C.f_u_law_up, Ev.F.f_u_law_plus], c_u_law_next, []⟩ 1000000 5 b_u_law_next⟩
@[simp] theorem p_u_law_next : f_u_law_next.ps.length = 3 := (rfl)
def b_u_law_spots_1 : Ss := (.cons (.asg (.t (.cons (.n 7) (.cons (.n 2) .nil))) (.call 0 (.cons (.v 0) (.cons (.v 1) (.cons (.v 2) .nil))) .nil)) (.cons (.app 4 (.v 7)) (.cons (.app 5 (.v 2)) .nil)))
def b_u_law_spots : Ss := (.cons (.par [4, 5] [true, true] (.cons (.lst .nil) (.cons (.lst .nil) .nil))) (.cons (.for_ (.n 6) (.r1 (.v 3)) b_u_law_spots_1) (.cons (.frz 4) (.cons (.frz 5) (.cons (.ret (.tup (.cons (.v 4) (.cons (.v 5) .nil)))) .nil)))))
def c_u_law_spots : List (Str × D) := []
def f_u_law_spots : Fn := ⟨"_law_spots", ["cut_so", "lot_so", "here", "often"], [], run ⟨[Ev.C.f_u_law_next], c_u_law_spots, []⟩ 1000000 8 b_u_law_spots⟩
@[simp] theorem p_u_law_spots : f_u_law_spots.ps.length = 4 := (rfl)
def b_tick_in : Ss := (.cons (.asg (.n 2) (.call 0 (.cons (.v 1) (.cons (.ix (.v 0) (.k (.int 1))) .nil)) .nil)) (.cons (.ret (.ife (.call 1 (.cons (.ix (.v 0) (.k (.int 0))) (.cons (.v 2) .nil)) .nil) (.tup (.cons (.call 2 (.cons (.v 0) (.cons (.v 2) .nil)) .nil) (.cons (.k (.bool true)) .nil))) (.tup (.cons (.v 2) (.cons (.k (.bool false)) .nil))))) .nil))
def c_tick_in : List (Str × D) := []
def f_tick_in : Fn := ⟨"tick_in", ["setting", "level"], [], run ⟨[Ev.F.f_plus_in, Ev.F.f_less_in, Ev.C.f_cut_in], c_tick_in, []⟩ 1000000 3 b_tick_in⟩
@[simp] theorem p_tick_in : f_tick_in.ps.length = 2 := (rfl)
def b_check_start : Ss := (.cons (.ife (.or (.not (.call 1 (.cons (.v 1) .nil) .nil)) (.cons (.call 0 (.cons (.ix (.v 0) (.k (.int 0))) (.cons (.v 1) .nil)) .nil) .nil)) (.cons (.rse "BadParameter" "value" (.v 1)) .nil) .nil) (.cons (.ret (.v 1)) .nil))
def c_check_start : List (Str × D) := []
def f_check_start : Fn := ⟨"check_start", ["setting", "value"], [], run ⟨[Ev.F.f_less_in, Ev.C.f_is_fraction], c_check_start, []⟩ 1000000 2 b_check_start⟩
@[simp] theorem p_check_start : f_check_start.ps.length = 2 := (rfl)
def b_tick : Ss := (.cons (.ex (.call 0 (.cons (.v 0) .nil) .nil)) (.cons (.ret (.call 1 (.cons (.v 0) (.cons (.call 2 (.cons (.v 0) (.cons (.v 1) .nil)) .nil) .nil)) .nil)) .nil))
def c_tick : List (Str × D) := []
def f_tick : Fn := ⟨"tick", ["setting", "level"], [(0, [1, 0])], run ⟨[Ev.C.f_check_setting, Ev.C.f_tick_in, Ev.C.f_check_start], c_tick, []⟩ 1000000 2 b_tick⟩
@[simp] theorem p_tick : f_tick.ps.length = 2 := (rfl)
def b_check_run : Ss := (.cons (.ife (.not (.call 0 (.cons (.v 0) (.cons (.k (.int 0)) (.cons (.g 0) .nil))) .nil)) (.cons (.rse "BadParameter" "value" (.v 0)) .nil) .nil) (.cons (.ret (.v 0)) .nil))
def c_check_run : List (Str × D) := [("MOST_RUN", .int 1000)]
def f_check_run : Fn := ⟨"check_run", ["value"], [], run ⟨[Ev.C.f_is_from], c_check_run, []⟩ 1000000 1 b_check_run⟩
@[simp] theorem p_check_run : f_check_run.ps.length = 1 := (rfl)
@[simp] theorem g_check_run_0 : c_check_run[0]? = some (("MOST_RUN" : Str), (.int 1000 : D)) := (rfl)
def b_check_asked : Ss := (.cons (.ex (.call 0 (.cons (.v 0) .nil) .nil)) (.cons (.ex (.call 1 (.cons (.v 0) (.cons (.v 1) .nil)) .nil)) (.cons (.ex (.call 2 (.cons (.v 2) .nil) .nil)) .nil)))
def c_check_asked : List (Str × D) := []
def f_check_asked : Fn := ⟨"check_asked", ["setting", "start", "ticks"], [], run ⟨[Ev.C.f_check_setting, Ev.C.f_check_start, Ev.C.f_check_run], c_check_asked, []⟩ 1000000 3 b_check_asked⟩
@[simp] theorem p_check_asked : f_check_asked.ps.length = 3 := (rfl)
def b_run_in_1 : Ss := (.cons (.asg (.t (.cons (.n 5) (.cons (.n 7) .nil))) (.call 0 (.cons (.v 0) (.cons (.v 5) .nil)) .nil)) (.cons (.app 3 (.v 5)) (.cons (.ext 4 (.ife (.v 7) (.lst (.cons (.v 6) .nil)) (.lst .nil))) .nil)))
def b_run_in : Ss := (.cons (.par [3, 4, 5] [true, true, false] (.cons (.lst .nil) (.cons (.lst .nil) (.cons (.v 1) .nil)))) (.cons (.for_ (.n 6) (.r2 (.k (.int 1)) (.bin .add (.v 2) (.k (.int 1)))) b_run_in_1) (.cons (.frz 4) (.cons (.frz 3) (.cons (.ret (.tup (.cons (.v 3) (.cons (.v 4) .nil)))) .nil)))))
def c_run_in : List (Str × D) := []
def f_run_in : Fn := ⟨"run_in", ["setting", "start", "ticks"], [], run ⟨[Ev.C.f_tick_in], c_run_in, []⟩ 1000000 8 b_run_in⟩
@[simp] theorem p_run_in : f_run_in.ps.length = 3 := (rfl)
def b_levels_after : Ss := (.cons (.ex (.call 0 (.cons (.v 0) (.cons (.v 1) (.cons (.v 2) .nil))) .nil)) (.cons (.ret (.bi .tuple (.cons (.ix (.call 1 (.cons (.v 0) (.cons (.v 1) (.cons (.v 2) .nil))) .nil) (.k (.int 0))) .nil))) .nil))
def c_levels_after : List (Str × D) := []
def f_levels_after : Fn := ⟨"levels_after", ["setting", "start", "ticks"], [(0, [2, 1, 0])], run ⟨[Ev.C.f_check_asked, Ev.C.f_run_in], c_levels_after, []⟩ 1000000 3 b_levels_after⟩
@[simp] theorem p_levels_after : f_levels_after.ps.length = 3 := (rfl)
def b_cuts_plainly : Ss := (.cons (.ex (.call 0 (.cons (.v 0) (.cons (.v 1) (.cons (.v 2) .nil))) .nil)) (.cons (.ret (.bi .tuple (.cons (.ix (.call 1 (.cons (.v 0) (.cons (.v 1) (.cons (.v 2) .nil))) .nil) (.k (.int 1))) .nil))) .nil))
def c_cuts_plainly : List (Str × D) := []
def f_cuts_plainly : Fn := ⟨"cuts_plainly", ["setting", "start", "ticks"], [(0, [2, 1, 0])], run ⟨[Ev.C.f_check_asked, Ev.C.f_run_in], c_cuts_plainly, []⟩ 1000000 3 b_cuts_plainly⟩
@[simp] theorem p_cuts_plainly : f_cuts_plainly.ps.length = 3 := (rfl)
def b_floor_in : Ss := (.cons (.ret (.bin .fdiv (.ix (.v 0) (.k (.int 0))) (.ix (.v 0) (.k (.int 1))))) .nil)
def c_floor_in : List (Str × D) := []
def f_floor_in : Fn := ⟨"floor_in", ["one"], [], run ⟨[], c_floor_in, []⟩ 1000000 1 b_floor_in⟩
@[simp] theorem p_floor_in : f_floor_in.ps.length = 1 := (rfl)
def b_first_in : Ss := (.cons (.asg (.n 2) (.bin .add (.call 0 (.cons (.call 2 (.cons (.call 4 (.cons (.ix (.v 0) (.k (.int 0))) (.cons (.v 1) .nil)) .nil) (.cons (.ix (.v 0) (.k (.int 1))) .nil)) .nil) .nil) .nil) (.k (.int 1)))) (.cons (.ret (.tup (.cons (.v 2) (.cons (.call 1 (.cons (.v 0) (.cons (.call 3 (.cons (.v 1) (.cons (.call 5 (.cons (.tup (.cons (.v 2) (.cons (.k (.int 1)) .nil))) (.cons (.ix (.v 0) (.k (.int 1))) .nil)) .nil) .nil)) .nil) .nil)) .nil) .nil)))) .nil))
def c_first_in : List (Str × D) := []
def f_first_in : Fn := ⟨"first_in", ["setting", "start"], [], run ⟨[Ev.C.f_floor_in, Ev.C.f_spot_in, Ev.F.f_over_in, Ev.F.f_plus_in, Ev.F.f_minus_in, Ev.F.f_times_in], c_first_in, []⟩ 1000000 3 b_first_in⟩
@[simp] theorem p_first_in : f_first_in.ps.length = 2 := (rfl)
def b_first_ticks : Ss := (.cons (.ex (.call 0 (.cons (.v 0) .nil) .nil)) (.cons (.ret (.call 1 (.cons (.v 0) (.cons (.call 2 (.cons (.v 0) (.cons (.v 1) .nil)) .nil) .nil)) .nil)) .nil))
def c_first_ticks : List (Str × D) := []
def f_first_ticks : Fn := ⟨"first_ticks", ["setting", "start"], [(0, [1, 0])], run ⟨[Ev.C.f_check_setting, Ev.C.f_first_in, Ev.C.f_check_start], c_first_ticks, []⟩ 1000000 2 b_first_ticks⟩
@[simp] theorem p_first_ticks : f_first_ticks.ps.length = 2 := (rfl)
def b_ceil_in : Ss := (.cons (.ret (.neg (.bin .fdiv (.neg (.ix (.v 0) (.k (.int 0)))) (.ix (.v 0) (.k (.int 1)))))) .nil)
def c_ceil_in : List (Str × D) := []
def f_ceil_in : Fn := ⟨"ceil_in", ["one"], [], run ⟨[], c_ceil_in, []⟩ 1000000 1 b_ceil_in⟩
@[simp] theorem p_ceil_in : f_ceil_in.ps.length = 1 := (rfl)
def b_round_in : Ss := (.cons (.asg (.n 3) (.call 0 (.cons (.call 1 (.cons (.v 0) (.cons (.v 2) .nil)) .nil) (.cons (.v 1) .nil)) .nil)) (.cons (.asg (.n 4) (.bin .sub (.k (.int 1)) (.call 2 (.cons (.v 3) .nil) .nil))) (.cons (.ret (.tup (.cons (.v 4) (.cons (.call 3 (.cons (.v 3) (.cons (.tup (.cons (.v 4) (.cons (.k (.int 1)) .nil))) .nil)) .nil) .nil)))) .nil)))
def c_round_in : List (Str × D) := []
def f_round_in : Fn := ⟨"round_in", ["part", "height", "spot"], [], run ⟨[Ev.F.f_minus_in, Ev.F.f_times_in, Ev.C.f_ceil_in, Ev.F.f_plus_in], c_round_in, []⟩ 1000000 5 b_round_in⟩
@[simp] theorem p_round_in : f_round_in.ps.length = 3 := (rfl)
def b_u_law_of : Ss := (.cons (.ret (.ix (.v 1) (.call 0 (.cons (.v 0) (.cons (.bi .len (.cons (.v 1) .nil)) .nil)) .nil))) .nil)
def c_u_law_of : List (Str × D) := []
def f_u_law_of : Fn := ⟨"_law_of", ["draws_so", "some"], [], run ⟨[Ev.L.f_u_law_draw], c_u_law_of, []⟩ 1000000 2 b_u_law_of⟩
@[simp] theorem p_u_law_of : f_u_law_of.ps.length = 2 := (rfl)
def b_check_place : Ss := (.cons (.ex (.call 0 (.cons (.v 0) .nil) .nil)) (.cons (.ex (.call 1 (.cons (.v 0) (.cons (.v 1) .nil)) .nil)) (.cons (.ex (.call 2 (.cons (.v 2) .nil) .nil)) .nil)))
def c_check_place : List (Str × D) := []
def f_check_place : Fn := ⟨"check_place", ["part", "height", "spot"], [], run ⟨[Ev.C.f_check_part, Ev.C.f_check_height, Ev.C.f_check_spot], c_check_place, []⟩ 1000000 3 b_check_place⟩
@[simp] theorem p_check_place : f_check_place.ps.length = 3 := (rfl)
def b_next_spot : Ss := (.cons (.ex (.call 0 (.cons (.v 0) (.cons (.v 1) (.cons (.v 2) .nil))) .nil)) (.cons (.ret (.call 1 (.cons (.v 0) (.cons (.v 1) (.cons (.v 2) .nil))) .nil)) .nil))
def c_next_spot : List (Str × D) := []
def f_next_spot : Fn := ⟨"next_spot", ["part", "height", "spot"], [(0, [2, 1, 0])], run ⟨[Ev.C.f_check_place, Ev.C.f_round_in], c_next_spot, []⟩ 1000000 3 b_next_spot⟩
@[simp] theorem p_next_spot : f_next_spot.ps.length = 3 := (rfl)
def b_rounds_in_1 : Ss := (.cons (.asg (.t (.cons (.n 7) (.cons (.n 2) .nil))) (.call 0 (.cons (.v 0) (.cons (.v 1) (.cons (.v 2) .nil))) .nil)) (.cons (.app 4 (.v 7)) (.cons (.app 5 (.v 2)) .nil)))
def b_rounds_in : Ss := (.cons (.par [4, 5] [true, true] (.cons (.lst .nil) (.cons (.lst .nil) .nil))) (.cons (.for_ (.n 6) (.r1 (.v 3)) b_rounds_in_1) (.cons (.frz 4) (.cons (.frz 5) (.cons (.ret (.tup (.cons (.v 4) (.cons (.v 5) .nil)))) .nil)))))
def c_rounds_in : List (Str × D) := []
def f_rounds_in : Fn := ⟨"rounds_in", ["part", "height", "spot", "count"], [], run ⟨[Ev.C.f_round_in], c_rounds_in, []⟩ 1000000 8 b_rounds_in⟩
@[simp] theorem p_rounds_in : f_rounds_in.ps.length = 4 := (rfl)
def b_check_many : Ss := (.cons (.ife (.not (.call 0 (.cons (.v 0) (.cons (.k (.int 0)) (.cons (.g 0) .nil))) .nil)) (.cons (.rse "BadParameter" "value" (.v 0)) .nil) .nil) (.cons (.ret (.v 0)) .nil))
def c_check_many : List (Str × D) := [("MOST_COUNT", .int 1000)]
def f_check_many : Fn := ⟨"check_many", ["value"], [], run ⟨[Ev.C.f_is_from], c_check_many, []⟩ 1000000 1 b_check_many⟩
@[simp] theorem p_check_many : f_check_many.ps.length = 1 := (rfl)
@[simp] theorem g_check_many_0 : c_check_many[0]? = some (("MOST_COUNT" : Str), (.int 1000 : D)) := (rfl)
def b_counts_after_1 : Ss := (.cons (.app 4 (.bin .add (.ix (.v 4) (.neg (.k (.int 1)))) (.v 5))) .nil)
def b_counts_after : Ss := (.cons (.ex (.call 0 (.cons (.v 0) (.cons (.v 1) (.cons (.v 2) .nil))) .nil)) (.cons (.asgO 4 (.lst (.cons (.k (.int 0)) .nil))) (.cons (.for_ (.n 5) (.e (.ix (.call 1 (.cons (.v 0) (.cons (.v 1) (.cons (.v 2) (.cons (.call 2 (.cons (.v 3) .nil) .nil) .nil)))) .nil) (.k (.int 0)))) b_counts_after_1) (.cons (.ret (.bi .tuple (.cons (.v 4) .nil))) .nil))))
def c_counts_after : List (Str × D) := []
def f_counts_after : Fn := ⟨"counts_after", ["part", "height", "spot", "count"], [(0, [3, 2, 1, 0])], run ⟨[Ev.C.f_check_place, Ev.C.f_rounds_in, Ev.C.f_check_many], c_counts_after, []⟩ 1000000 6 b_counts_after⟩
@[simp] theorem p_counts_after : f_counts_after.ps.length = 4 := (rfl)
def b_spots_after : Ss := (.cons (.ex (.call 0 (.cons (.v 0) (.cons (.v 1) (.cons (.v 2) .nil))) .nil)) (.cons (.asg (.t (.cons (.n 4) (.cons (.n 5) .nil))) (.call 1 (.cons (.v 0) (.cons (.v 1) (.cons (.v 2) (.cons (.call 2 (.cons (.v 3) .nil) .nil) .nil)))) .nil)) (.cons (.ret (.tup (.cons (.bi .tuple (.cons (.v 4) .nil)) (.cons (.bi .tuple (.cons (.v 5) .nil)) .nil)))) .nil)))
def c_spots_after : List (Str × D) := []
def f_spots_after : Fn := ⟨"spots_after", ["part", "height", "spot", "count"], [(0, [3, 2, 1, 0])], run ⟨[Ev.C.f_check_place, Ev.C.f_rounds_in, Ev.C.f_check_many], c_spots_after, []⟩ 1000000 6 b_spots_after⟩
@[simp] theorem p_spots_after : f_spots_after.ps.length = 4 := (rfl)
def b_u_law_rule_of : Ss := (.cons (.asg (.n 3) (.call 0 (.cons (.bin .sub (.call 3 (.cons (.v 0) (.cons (.k (.int 41)) .nil)) .nil) (.k (.int 20))) (.cons (.bin .add (.k (.int 1)) (.call 3 (.cons (.v 0) (.cons (.k (.int 5)) .nil)) .nil)) .nil)) .nil)) (.cons (.asg (.n 4) (.call 0 (.cons (.bin .add (.k (.int 1)) (.call 3 (.cons (.v 0) (.cons (.k (.int 9)) .nil)) .nil)) (.cons (.bin .add (.k (.int 1)) (.call 3 (.cons (.v 0) (.cons (.k (.int 5)) .nil)) .nil)) .nil)) .nil)) (.cons (.asg (.n 5) (.call 1 (.cons (.call 2 (.cons (.call 1 (.cons (.tup (.cons (.k (.int 1)) (.cons (.k (.int 1)) .nil))) (.cons (.v 1) .nil)) .nil) (.cons (.v 3) .nil)) .nil) (.cons (.call 2 (.cons (.v 2) (.cons (.v 4) .nil)) .nil) .nil)) .nil)) (.cons (.ret (.tup (.cons (.v 3) (.cons (.v 4) (.cons (.v 1) (.cons (.v 5) .nil)))))) .nil))))
def c_u_law_rule_of : List (Str × D) := []
def f_u_law_rule_of : Fn := ⟨"_law_rule_of", ["state_so", "cut_so", "lot_so"], [], run ⟨[Ev.L.f_u_law_share, Ev.F.f_u_law_minus, Ev.F.f_u_law_times, Ev.L.f_u_law_draw], c_u_law_rule_of, []⟩ 1000000 6 b_u_law_rule_of⟩
@[simp] theorem p_u_law_rule_of : f_u_law_rule_of.ps.length = 3 := (rfl)
def b_u_law_power_1 : Ss := (.cons (.asg (.n 2) (.call 0 (.cons (.v 2) (.cons (.v 0) .nil)) .nil)) .nil)
def b_u_law_power : Ss := (.cons (.asg (.n 2) (.tup (.cons (.k (.int 1)) (.cons (.k (.int 1)) .nil)))) (.cons (.for_ (.n 3) (.r1 (.v 1)) b_u_law_power_1) (.cons (.ret (.v 2)) .nil)))
def c_u_law_power : List (Str × D) := []
def f_u_law_power : Fn := ⟨"_law_power", ["one", "times_so"], [], run ⟨[Ev.F.f_u_law_times], c_u_law_power, []⟩ 1000000 4 b_u_law_power⟩
@[simp] theorem p_u_law_power : f_u_law_power.ps.length = 2 := (rfl)
def b_is_mean_form : Ss := (.cons (.ret (.and (.call 0 (.cons (.v 0) .nil) .nil) (.cons (.cmp .ge (.ix (.v 0) (.k (.int 0))) (.ix (.v 0) (.k (.int 1)))) (.cons (.cmp .le (.ix (.v 0) (.k (.int 1))) (.g 0)) .nil)))) .nil)
def c_is_mean_form : List (Str × D) := [("MOST_BELOW", .int 300)]
def f_is_mean_form : Fn := ⟨"is_mean_form", ["value"], [], run ⟨[Ev.C.f_is_fraction], c_is_mean_form, []⟩ 1000000 1 b_is_mean_form⟩
@[simp] theorem p_is_mean_form : f_is_mean_form.ps.length = 1 := (rfl)
@[simp] theorem g_is_mean_form_0 : c_is_mean_form[0]? = some (("MOST_BELOW" : Str), (.int 300 : D)) := (rfl)
def b_check_mean : Ss := (.cons (.ife (.not (.call 0 (.cons (.v 0) .nil) .nil)) (.cons (.rse "BadParameter" "value" (.v 0)) .nil) .nil) (.cons (.ret (.v 0)) .nil))
def c_check_mean : List (Str × D) := []
def f_check_mean : Fn := ⟨"check_mean", ["value"], [], run ⟨[Ev.C.f_is_mean_form], c_check_mean, []⟩ 1000000 1 b_check_mean⟩
@[simp] theorem p_check_mean : f_check_mean.ps.length = 1 := (rfl)
def b_check_ends : Ss := (.cons (.ex (.call 0 (.cons (.v 0) .nil) .nil)) (.cons (.ex (.call 1 (.cons (.v 1) .nil) .nil)) .nil))
def c_check_ends : List (Str × D) := []
def f_check_ends : Fn := ⟨"check_ends", ["part", "mean"], [], run ⟨[Ev.C.f_check_part, Ev.C.f_check_mean], c_check_ends, []⟩ 1000000 2 b_check_ends⟩
@[simp] theorem p_check_ends : f_check_ends.ps.length = 2 := (rfl)
def b_floors_of_1 : Ss := (.cons (.asg (.n 2) (.call 0 (.cons (.v 2) (.cons (.call 1 (.cons (.v 3) (.cons (.tup (.cons (.bin .fdiv (.bin .mul (.v 4) (.ix (.v 1) (.k (.int 0)))) (.ix (.v 1) (.k (.int 1)))) (.cons (.k (.int 1)) .nil))) .nil)) .nil) .nil)) .nil)) (.cons (.asg (.n 3) (.call 1 (.cons (.v 3) (.cons (.v 0) .nil)) .nil)) .nil))
def b_floors_of : Ss := (.cons (.par [2, 3] [false, false] (.cons (.g 0) (.cons (.g 1) .nil))) (.cons (.for_ (.n 4) (.r2 (.k (.int 1)) (.bin .add (.ix (.v 1) (.k (.int 1))) (.k (.int 1)))) b_floors_of_1) (.cons (.ret (.tup (.cons (.v 2) (.cons (.v 3) .nil)))) .nil)))
def c_floors_of : List (Str × D) := [("NONE", .tuple [.int 0, .int 1]), ("ONE", .tuple [.int 1, .int 1])]
def f_floors_of : Fn := ⟨"floors_of", ["part", "mean"], [], run ⟨[Ev.F.f_plus_in, Ev.F.f_times_in], c_floors_of, []⟩ 1000000 5 b_floors_of⟩
@[simp] theorem p_floors_of : f_floors_of.ps.length = 2 := (rfl)
@[simp] theorem g_floors_of_0 : c_floors_of[0]? = some (("NONE" : Str), (.tuple [.int 0, .int 1] : D)) := (rfl)
@[simp] theorem g_floors_of_1 : c_floors_of[1]? = some (("ONE" : Str), (.tuple [.int 1, .int 1] : D)) := (rfl)
def b_floors_in : Ss := (.cons (.asg (.t (.cons (.n 2) (.cons (.n 3) .nil))) (.call 0 (.cons (.v 0) (.cons (.v 1) .nil)) .nil)) (.cons (.asg (.n 4) (.call 1 (.cons (.g 0) (.cons (.v 3) .nil)) .nil)) (.cons (.asg (.n 5) (.call 2 (.cons (.call 2 (.cons (.call 4 (.cons (.tup (.cons (.ix (.v 1) (.k (.int 0))) (.cons (.k (.int 1)) .nil))) (.cons (.v 3) .nil)) .nil) (.cons (.v 4) .nil)) .nil) (.cons (.call 1 (.cons (.g 0) (.cons (.v 0) .nil)) .nil) .nil)) .nil)) (.cons (.ret (.call 3 (.cons (.call 2 (.cons (.v 2) (.cons (.v 4) .nil)) .nil) (.cons (.v 5) .nil)) .nil)) .nil))))
def c_floors_in : List (Str × D) := [("ONE", .tuple [.int 1, .int 1])]
def f_floors_in : Fn := ⟨"floors_in", ["part", "mean"], [], run ⟨[Ev.C.f_floors_of, Ev.F.f_minus_in, Ev.F.f_over_in, Ev.F.f_plus_in, Ev.F.f_times_in], c_floors_in, []⟩ 1000000 6 b_floors_in⟩
@[simp] theorem p_floors_in : f_floors_in.ps.length = 2 := (rfl)
@[simp] theorem g_floors_in_0 : c_floors_in[0]? = some (("ONE" : Str), (.tuple [.int 1, .int 1] : D)) := (rfl)
def b_floor_sum : Ss := (.cons (.ex (.call 0 (.cons (.v 0) (.cons (.v 1) .nil)) .nil)) (.cons (.ret (.call 1 (.cons (.v 0) (.cons (.v 1) .nil)) .nil)) .nil))
def c_floor_sum : List (Str × D) := []
def f_floor_sum : Fn := ⟨"floor_sum", ["part", "mean"], [(0, [1, 0])], run ⟨[Ev.C.f_check_ends, Ev.C.f_floors_in], c_floor_sum, []⟩ 1000000 2 b_floor_sum⟩
@[simp] theorem p_floor_sum : f_floor_sum.ps.length = 2 := (rfl)
def b_u_law_pair : Ss := (.cons (.asg (.n 2) (.bin .add (.k (.int 1)) (.call 1 (.cons (.v 0) (.cons (.v 1) .nil)) .nil))) (.cons (.ret (.call 0 (.cons (.bin .add (.v 2) (.call 1 (.cons (.v 0) (.cons (.bin .add (.bin .mul (.k (.int 3)) (.v 2)) (.k (.int 1))) .nil)) .nil)) (.cons (.v 2) .nil)) .nil)) .nil))
def c_u_law_pair : List (Str × D) := []
def f_u_law_pair : Fn := ⟨"_law_pair", ["draws_so", "most_so"], [], run ⟨[Ev.L.f_u_law_share, Ev.L.f_u_law_draw], c_u_law_pair, []⟩ 1000000 3 b_u_law_pair⟩
@[simp] theorem p_u_law_pair : f_u_law_pair.ps.length = 2 := (rfl)
def b_u_law_floors_1 : Ss := (.cons (.asg (.n 4) (.call 2 (.cons (.v 4) (.cons (.call 3 (.cons (.v 5) (.cons (.tup (.cons (.bin .fdiv (.bin .mul (.v 6) (.v 2)) (.v 3)) (.cons (.k (.int 1)) .nil))) .nil)) .nil) .nil)) .nil)) (.cons (.asg (.n 5) (.call 3 (.cons (.v 5) (.cons (.v 0) .nil)) .nil)) .nil))
def b_u_law_floors : Ss := (.cons (.asg (.t (.cons (.n 2) (.cons (.n 3) .nil))) (.v 1)) (.cons (.asg (.t (.cons (.n 4) (.cons (.n 5) .nil))) (.tup (.cons (.tup (.cons (.k (.int 0)) (.cons (.k (.int 1)) .nil))) (.cons (.tup (.cons (.k (.int 1)) (.cons (.k (.int 1)) .nil))) .nil)))) (.cons (.for_ (.n 6) (.r2 (.k (.int 1)) (.bin .add (.v 3) (.k (.int 1)))) b_u_law_floors_1) (.cons (.asg (.n 7) (.call 0 (.cons (.tup (.cons (.k (.int 1)) (.cons (.k (.int 1)) .nil))) (.cons (.v 5) .nil)) .nil)) (.cons (.asg (.n 8) (.call 1 (.cons (.v 7) (.cons (.call 0 (.cons (.tup (.cons (.k (.int 1)) (.cons (.k (.int 1)) .nil))) (.cons (.v 0) .nil)) .nil) .nil)) .nil)) (.cons (.asg (.n 9) (.call 1 (.cons (.v 5) (.cons (.call 3 (.cons (.v 7) (.cons (.v 7) .nil)) .nil) .nil)) .nil)) (.cons (.ret (.call 2 (.cons (.call 1 (.cons (.v 4) (.cons (.v 7) .nil)) .nil) (.cons (.call 3 (.cons (.call 3 (.cons (.tup (.cons (.v 2) (.cons (.k (.int 1)) .nil))) (.cons (.v 8) .nil)) .nil) (.cons (.v 9) .nil)) .nil) .nil)) .nil)) .nil)))))))
def c_u_law_floors : List (Str × D) := []
def f_u_law_floors : Fn := ⟨"_law_floors", ["cut_so", "pair_so"], [], run ⟨[Ev.F.f_u_law_minus, Ev.F.f_u_law_over, Ev.F.f_u_law_plus, Ev.F.f_u_law_times], c_u_law_floors, []⟩ 1000000 10 b_u_law_floors⟩
@[simp] theorem p_u_law_floors : f_u_law_floors.ps.length = 2 := (rfl)
def b_high_in : Ss := (.cons (.asg (.n 2) (.call 0 (.cons (.g 0) (.cons (.v 0) .nil)) .nil)) (.cons (.ret (.call 1 (.cons (.call 1 (.cons (.v 2) (.cons (.v 2) .nil)) .nil) (.cons (.call 2 (.cons (.v 0) (.cons (.v 1) .nil)) .nil) .nil)) .nil)) .nil))
def c_high_in : List (Str × D) := [("ONE", .tuple [.int 1, .int 1])]
def f_high_in : Fn := ⟨"high_in", ["part", "mean"], [], run ⟨[Ev.F.f_minus_in, Ev.F.f_times_in, Ev.C.f_floors_in], c_high_in, []⟩ 1000000 3 b_high_in⟩
@[simp] theorem p_high_in : f_high_in.ps.length = 2 := (rfl)
@[simp] theorem g_high_in_0 : c_high_in[0]? = some (("ONE" : Str), (.tuple [.int 1, .int 1] : D)) := (rfl)
def b_power_in_1 : Ss := (.cons (.ife (.cmp .eq (.bin .mod (.v 4) (.k (.int 2))) (.k (.int 1))) (.cons (.asg (.n 2) (.tup (.cons (.bin .mul (.ix (.v 2) (.k (.int 0))) (.ix (.v 3) (.k (.int 0)))) (.cons (.bin .mul (.ix (.v 2) (.k (.int 1))) (.ix (.v 3) (.k (.int 1)))) .nil)))) .nil) .nil) (.cons (.par [3, 4] [false, false] (.cons (.tup (.cons (.bin .mul (.ix (.v 3) (.k (.int 0))) (.ix (.v 3) (.k (.int 0)))) (.cons (.bin .mul (.ix (.v 3) (.k (.int 1))) (.ix (.v 3) (.k (.int 1)))) .nil))) (.cons (.bin .fdiv (.v 4) (.k (.int 2))) .nil))) .nil))
def b_power_in : Ss := (.cons (.par [2, 3, 4] [false, false, false] (.cons (.g 0) (.cons (.v 0) (.cons (.v 1) .nil)))) (.cons (.whl (.cmp .gt (.v 4) (.k (.int 0))) b_power_in_1) (.cons (.ret (.v 2)) .nil)))
def c_power_in : List (Str × D) := [("ONE", .tuple [.int 1, .int 1])]
def f_power_in : Fn := ⟨"power_in", ["one", "number"], [], run ⟨[], c_power_in, []⟩ 1000000 5 b_power_in⟩
@[simp] theorem p_power_in : f_power_in.ps.length = 2 := (rfl)
@[simp] theorem g_power_in_0 : c_power_in[0]? = some (("ONE" : Str), (.tuple [.int 1, .int 1] : D)) := (rfl)
def b_length_in : Ss := (.cons (.par [2, 3] [false, false] (.cons (.call 1 (.cons (.g 0) (.cons (.v 0) .nil)) .nil) (.cons (.call 2 (.cons (.v 0) (.cons (.bin .sub (.v 1) (.k (.int 1))) .nil)) .nil) .nil))) (.cons (.ret (.call 0 (.cons (.call 3 (.cons (.call 3 (.cons (.v 2) (.cons (.v 2) .nil)) .nil) (.cons (.v 3) .nil)) .nil) (.cons (.call 1 (.cons (.g 0) (.cons (.call 3 (.cons (.v 3) (.cons (.v 0) .nil)) .nil) .nil)) .nil) .nil)) .nil)) .nil))
def c_length_in : List (Str × D) := [("ONE", .tuple [.int 1, .int 1])]
def f_length_in : Fn := ⟨"length_in", ["part", "below"], [], run ⟨[Ev.F.f_over_in, Ev.F.f_minus_in, Ev.C.f_power_in, Ev.F.f_times_in], c_length_in, []⟩ 1000000 4 b_length_in⟩
@[simp] theorem p_length_in : f_length_in.ps.length = 2 := (rfl)
@[simp] theorem g_length_in_0 : c_length_in[0]? = some (("ONE" : Str), (.tuple [.int 1, .int 1] : D)) := (rfl)
def b_ends_in : Ss := (.cons (.asg (.n 2) (.call 0 (.cons (.v 0) (.cons (.v 1) .nil)) .nil)) (.cons (.ret (.tup (.cons (.call 1 (.cons (.v 2) (.cons (.call 2 (.cons (.v 0) (.cons (.ix (.v 1) (.k (.int 1))) .nil)) .nil) .nil)) .nil) (.cons (.v 2) .nil)))) .nil))
def c_ends_in : List (Str × D) := []
def f_ends_in : Fn := ⟨"ends_in", ["part", "mean"], [], run ⟨[Ev.C.f_high_in, Ev.F.f_minus_in, Ev.C.f_length_in], c_ends_in, []⟩ 1000000 3 b_ends_in⟩
@[simp] theorem p_ends_in : f_ends_in.ps.length = 2 := (rfl)
def b_stretch_of : Ss := (.cons (.ex (.call 0 (.cons (.v 0) (.cons (.v 1) .nil)) .nil)) (.cons (.ret (.call 1 (.cons (.v 0) (.cons (.v 1) .nil)) .nil)) .nil))
def c_stretch_of : List (Str × D) := []
def f_stretch_of : Fn := ⟨"stretch_of", ["part", "mean"], [(0, [1, 0])], run ⟨[Ev.C.f_check_ends, Ev.C.f_ends_in], c_stretch_of, []⟩ 1000000 2 b_stretch_of⟩
@[simp] theorem p_stretch_of : f_stretch_of.ps.length = 2 := (rfl)
def b_u_law_ends : Ss := (.cons (.asg (.n 2) (.call 0 (.cons (.tup (.cons (.k (.int 1)) (.cons (.k (.int 1)) .nil))) (.cons (.v 0) .nil)) .nil)) (.cons (.asg (.n 3) (.call 1 (.cons (.call 1 (.cons (.v 2) (.cons (.v 2) .nil)) .nil) (.cons (.call 3 (.cons (.v 0) (.cons (.v 1) .nil)) .nil) .nil)) .nil)) (.cons (.asg (.n 4) (.call 2 (.cons (.v 0) (.cons (.bin .sub (.ix (.v 1) (.k (.int 1))) (.k (.int 1))) .nil)) .nil)) (.cons (.asg (.n 5) (.call 0 (.cons (.tup (.cons (.k (.int 1)) (.cons (.k (.int 1)) .nil))) (.cons (.call 1 (.cons (.v 4) (.cons (.v 0) .nil)) .nil) .nil)) .nil)) (.cons (.ret (.tup (.cons (.call 0 (.cons (.v 3) (.cons (.call 4 (.cons (.call 1 (.cons (.call 1 (.cons (.v 2) (.cons (.v 2) .nil)) .nil) (.cons (.v 4) .nil)) .nil) (.cons (.v 5) .nil)) .nil) .nil)) .nil) (.cons (.v 3) .nil)))) .nil)))))
def c_u_law_ends : List (Str × D) := []
def f_u_law_ends : Fn := ⟨"_law_ends", ["cut_so", "pair_so"], [], run ⟨[Ev.F.f_u_law_minus, Ev.F.f_u_law_times, Ev.C.f_u_law_power, Ev.C.f_u_law_floors, Ev.F.f_u_law_over], c_u_law_ends, []⟩ 1000000 6 b_u_law_ends⟩
@[simp] theorem p_u_law_ends : f_u_law_ends.ps.length = 2 := (rfl)
def b_stretch_length : Ss := (.cons (.ex (.call 0 (.cons (.v 0) (.cons (.v 1) .nil)) .nil)) (.cons (.ret (.call 1 (.cons (.v 0) (.cons (.ix (.v 1) (.k (.int 1))) .nil)) .nil)) .nil))
def c_stretch_length : List (Str × D) := []
def f_stretch_length : Fn := ⟨"stretch_length", ["part", "mean"], [(0, [1, 0])], run ⟨[Ev.C.f_check_ends, Ev.C.f_length_in], c_stretch_length, []⟩ 1000000 2 b_stretch_length⟩
@[simp] theorem p_stretch_length : f_stretch_length.ps.length = 2 := (rfl)
def b_order_at : Ss := (.cons (.asg (.t (.cons (.n 3) (.cons (.n 4) .nil))) (.call 0 (.cons (.v 0) (.cons (.v 1) .nil)) .nil)) (.cons (.ife (.call 1 (.cons (.v 2) (.cons (.v 3) .nil)) .nil) (.cons (.ret (.neg (.k (.int 1)))) .nil) .nil) (.cons (.ret (.ife (.call 1 (.cons (.v 4) (.cons (.v 2) .nil)) .nil) (.k (.int 1)) (.k (.int 0)))) .nil)))
def c_order_at : List (Str × D) := []
def f_order_at : Fn := ⟨"order_at", ["part", "mean", "height"], [], run ⟨[Ev.C.f_ends_in, Ev.F.f_less_in], c_order_at, []⟩ 1000000 5 b_order_at⟩
@[simp] theorem p_order_at : f_order_at.ps.length = 3 := (rfl)
def b_is_in : Ss := (.cons (.ex (.call 0 (.cons (.v 0) (.cons (.v 1) .nil)) .nil)) (.cons (.ret (.cmp .eq (.call 1 (.cons (.v 0) (.cons (.v 1) (.cons (.call 2 (.cons (.v 0) (.cons (.v 2) .nil)) .nil) .nil))) .nil) (.k (.int 0)))) .nil))
def c_is_in : List (Str × D) := []
def f_is_in : Fn := ⟨"is_in", ["part", "mean", "height"], [(0, [2, 1, 0])], run ⟨[Ev.C.f_check_ends, Ev.C.f_order_at, Ev.C.f_check_height], c_is_in, []⟩ 1000000 3 b_is_in⟩
@[simp] theorem p_is_in : f_is_in.ps.length = 3 := (rfl)
def b_u_law_between : Ss := (.cons (.ret (.call 0 (.cons (.v 0) (.cons (.call 1 (.cons (.call 2 (.cons (.v 1) (.cons (.v 0) .nil)) .nil) (.cons (.v 2) .nil)) .nil) .nil)) .nil)) .nil)
def c_u_law_between : List (Str × D) := []
def f_u_law_between : Fn := ⟨"_law_between", ["one", "two", "share"], [], run ⟨[Ev.F.f_u_law_plus, Ev.F.f_u_law_times, Ev.F.f_u_law_minus], c_u_law_between, []⟩ 1000000 3 b_u_law_between⟩
@[simp] theorem p_u_law_between : f_u_law_between.ps.length = 3 := (rfl)
def e_u_law_is_beat_1 : E := .cmp .ne (.v 5) (.ix (.v 1) (.bin .mod (.bin .add (.v 3) (.v 4)) (.v 2)))
def e_u_law_is_beat_2 : E := .k (.int 1)
def b_u_law_is_beat_3 : Ss := (.cons (.ife (.cmp .eq (.lc (.t (.cons (.n 4) (.cons (.n 5) .nil))) (.enum (.v 0)) (e_u_law_is_beat_1) (e_u_law_is_beat_2)) (.lst .nil)) (.cons (.ret (.k (.bool true))) .nil) .nil) .nil)
def b_u_law_is_beat : Ss := (.cons (.asg (.n 2) (.bi .len (.cons (.v 1) .nil))) (.cons (.for_ (.n 3) (.r1 (.v 2)) b_u_law_is_beat_3) (.cons (.ret (.k (.bool false))) .nil)))
def c_u_law_is_beat : List (Str × D) := []
def f_u_law_is_beat : Fn := ⟨"_law_is_beat", ["some", "beat_so"], [], run ⟨[], c_u_law_is_beat, []⟩ 1000000 6 b_u_law_is_beat⟩
@[simp] theorem p_u_law_is_beat : f_u_law_is_beat.ps.length = 2 := (rfl)
def b_u_law_beat_1 : Ss := (.cons (.app 3 (.bin .add (.neg (.bin .fdiv (.bin .mul (.neg (.bin .add (.v 4) (.k (.int 1)))) (.v 1)) (.v 2))) (.bin .fdiv (.bin .mul (.neg (.v 4)) (.v 1)) (.v 2)))) .nil)
def b_u_law_beat : Ss := (.cons (.asg (.t (.cons (.n 1) (.cons (.n 2) .nil))) (.v 0)) (.cons (.asgO 3 (.lst .nil)) (.cons (.for_ (.n 4) (.r1 (.v 2)) b_u_law_beat_1) (.cons (.frz 3) (.cons (.ret (.v 3)) .nil)))))
def c_u_law_beat : List (Str × D) := []
def f_u_law_beat : Fn := ⟨"_law_beat", ["pair_so"], [], run ⟨[], c_u_law_beat, []⟩ 1000000 5 b_u_law_beat⟩
@[simp] theorem p_u_law_beat : f_u_law_beat.ps.length = 1 := (rfl)
def b_check_both : Ss := (.cons (.ex (.call 0 (.cons (.v 0) .nil) .nil)) (.cons (.ex (.call 1 (.cons (.v 0) (.cons (.v 1) .nil)) .nil)) .nil))
def c_check_both : List (Str × D) := []
def f_check_both : Fn := ⟨"check_both", ["part", "height"], [], run ⟨[Ev.C.f_check_part, Ev.C.f_check_height], c_check_both, []⟩ 1000000 2 b_check_both⟩
@[simp] theorem p_check_both : f_check_both.ps.length = 2 := (rfl)
def b_weighed_in_1 : Ss := (.cons (.par [4, 5] [false, false] (.cons (.bin .add (.bin .mul (.bin .fdiv (.bin .mul (.v 6) (.ix (.v 1) (.k (.int 0)))) (.ix (.v 1) (.k (.int 1)))) (.v 5)) (.bin .mul (.v 2) (.v 4))) (.cons (.bin .mul (.v 5) (.v 3)) .nil))) .nil)
def b_weighed_in : Ss := (.cons (.asg (.t (.cons (.n 2) (.cons (.n 3) .nil))) (.v 0)) (.cons (.asg (.t (.cons (.n 4) (.cons (.n 5) .nil))) (.tup (.cons (.k (.int 0)) (.cons (.k (.int 1)) .nil)))) (.cons (.for_ (.n 6) (.r3 (.ix (.v 1) (.k (.int 1))) (.k (.int 0)) (.neg (.k (.int 1)))) b_weighed_in_1) (.cons (.ret (.v 4)) .nil))))
def c_weighed_in : List (Str × D) := []
def f_weighed_in : Fn := ⟨"weighed_in", ["part", "mean"], [], run ⟨[], c_weighed_in, []⟩ 1000000 7 b_weighed_in⟩
@[simp] theorem p_weighed_in : f_weighed_in.ps.length = 2 := (rfl)
def b_side_in : Ss := (.cons (.asg (.t (.cons (.n 3) (.cons (.t (.cons (.n 4) (.cons (.n 5) .nil))) .nil))) (.tup (.cons (.bin .sub (.ix (.v 0) (.k (.int 1))) (.ix (.v 0) (.k (.int 0)))) (.cons (.call 0 (.cons (.v 0) (.cons (.bin .sub (.ix (.v 1) (.k (.int 1))) (.k (.int 1))) .nil)) .nil) .nil)))) (.cons (.par [6, 7] [false, false] (.cons (.bin .mul (.v 4) (.ix (.v 0) (.k (.int 0)))) (.cons (.bin .mul (.v 5) (.ix (.v 0) (.k (.int 1)))) .nil))) (.cons (.asg (.n 8) (.bin .add (.bin .mul (.v 3) (.call 1 (.cons (.v 0) (.cons (.v 1) .nil)) .nil)) (.bin .mul (.ix (.v 1) (.k (.int 0))) (.v 6)))) (.cons (.asg (.n 9) (.bin .mul (.bin .mul (.ix (.v 2) (.k (.int 0))) (.ix (.v 0) (.k (.int 1)))) (.bin .sub (.v 7) (.v 6)))) (.cons (.ife (.cmp .gt (.v 9) (.bin .mul (.bin .mul (.ix (.v 2) (.k (.int 1))) (.v 3)) (.v 8))) (.cons (.ret (.k (.int 1))) .nil) .nil) (.cons (.ret (.ife (.cmp .lt (.v 9) (.bin .mul (.bin .mul (.ix (.v 2) (.k (.int 1))) (.v 3)) (.bin .sub (.v 8) (.bin .mul (.v 3) (.v 4))))) (.neg (.k (.int 1))) (.k (.int 0)))) .nil))))))
def c_side_in : List (Str × D) := []
def f_side_in : Fn := ⟨"side_in", ["part", "mean", "height"], [], run ⟨[Ev.C.f_power_in, Ev.C.f_weighed_in], c_side_in, []⟩ 1000000 10 b_side_in⟩
@[simp] theorem p_side_in : f_side_in.ps.length = 3 := (rfl)
def b_begin_in : Ss := (.cons (.asg (.n 2) (.call 0 (.cons (.v 1) .nil) .nil)) (.cons (.asg (.n 3) (.ife (.cmp .eq (.call 1 (.cons (.v 0) (.cons (.tup (.cons (.v 2) (.cons (.k (.int 1)) .nil))) (.cons (.v 1) .nil))) .nil) (.k (.int 0))) (.tup (.cons (.v 2) (.cons (.k (.int 1)) .nil))) (.k .none))) (.cons (.ret (.tup (.cons (.tup (.cons (.bin .sub (.v 2) (.k (.int 1))) (.cons (.k (.int 1)) .nil))) (.cons (.tup (.cons (.v 2) (.cons (.k (.int 1)) .nil))) (.cons (.v 3) .nil))))) .nil)))
def c_begin_in : List (Str × D) := []
def f_begin_in : Fn := ⟨"begin_in", ["part", "height"], [], run ⟨[Ev.C.f_ceil_in, Ev.C.f_side_in], c_begin_in, []⟩ 1000000 4 b_begin_in⟩
@[simp] theorem p_begin_in : f_begin_in.ps.length = 2 := (rfl)
def b_step_in : Ss := (.cons (.asg (.t (.cons (.n 3) (.cons (.n 4) (.cons (.n 5) .nil)))) (.v 2)) (.cons (.ife (.cmp .isnot (.v 5) (.k .none)) (.cons (.ret (.v 2)) .nil) .nil) (.cons (.asg (.n 6) (.tup (.cons (.bin .add (.ix (.v 3) (.k (.int 0))) (.ix (.v 4) (.k (.int 0)))) (.cons (.bin .add (.ix (.v 3) (.k (.int 1))) (.ix (.v 4) (.k (.int 1)))) .nil)))) (.cons (.ife (.cmp .gt (.ix (.v 6) (.k (.int 1))) (.g 0)) (.cons (.rse "TooGreat" "most" (.g 0)) .nil) .nil) (.cons (.asg (.n 7) (.call 0 (.cons (.v 0) (.cons (.v 6) (.cons (.v 1) .nil))) .nil)) (.cons (.ife (.cmp .eq (.v 7) (.k (.int 0))) (.cons (.ret (.tup (.cons (.v 3) (.cons (.v 4) (.cons (.v 6) .nil))))) .nil) .nil) (.cons (.ret (.ife (.cmp .gt (.v 7) (.k (.int 0))) (.tup (.cons (.v 6) (.cons (.v 4) (.cons (.k .none) .nil)))) (.tup (.cons (.v 3) (.cons (.v 6) (.cons (.k .none) .nil)))))) .nil)))))))
def c_step_in : List (Str × D) := [("MOST_BELOW", .int 300)]
def f_step_in : Fn := ⟨"step_in", ["part", "height", "state"], [], run ⟨[Ev.C.f_side_in], c_step_in, []⟩ 1000000 8 b_step_in⟩
@[simp] theorem p_step_in : f_step_in.ps.length = 3 := (rfl)
@[simp] theorem g_step_in_0 : c_step_in[0]? = some (("MOST_BELOW" : Str), (.int 300 : D)) := (rfl)
def b_mean_in_1 : Ss := (.cons (.asg (.n 2) (.call 1 (.cons (.v 0) (.cons (.v 1) (.cons (.v 2) .nil))) .nil)) .nil)
def b_mean_in : Ss := (.cons (.asg (.n 2) (.call 0 (.cons (.v 0) (.cons (.v 1) .nil)) .nil)) (.cons (.whl (.cmp .is (.ix (.v 2) (.k (.int 2))) (.k .none)) b_mean_in_1) (.cons (.ret (.ix (.v 2) (.k (.int 2)))) .nil)))
def c_mean_in : List (Str × D) := []
def f_mean_in : Fn := ⟨"mean_in", ["part", "height"], [], run ⟨[Ev.C.f_begin_in, Ev.C.f_step_in], c_mean_in, []⟩ 1000000 3 b_mean_in⟩
@[simp] theorem p_mean_in : f_mean_in.ps.length = 2 := (rfl)
def b_mean_of : Ss := (.cons (.ex (.call 0 (.cons (.v 0) (.cons (.v 1) .nil)) .nil)) (.cons (.ret (.call 1 (.cons (.v 0) (.cons (.v 1) .nil)) .nil)) .nil))
def c_mean_of : List (Str × D) := []
def f_mean_of : Fn := ⟨"mean_of", ["part", "height"], [(0, [1, 0])], run ⟨[Ev.C.f_check_both, Ev.C.f_mean_in], c_mean_of, []⟩ 1000000 2 b_mean_of⟩
@[simp] theorem p_mean_of : f_mean_of.ps.length = 2 := (rfl)
def b_mean_of_setting : Ss := (.cons (.ex (.call 0 (.cons (.v 0) .nil) .nil)) (.cons (.ret (.call 1 (.cons (.ix (.v 0) (.k (.int 2))) (.cons (.call 2 (.cons (.v 0) .nil) .nil) .nil)) .nil)) .nil))
def c_mean_of_setting : List (Str × D) := []
def f_mean_of_setting : Fn := ⟨"mean_of_setting", ["setting"], [(0, [0])], run ⟨[Ev.C.f_check_setting, Ev.C.f_mean_in, Ev.C.f_height_in], c_mean_of_setting, []⟩ 1000000 1 b_mean_of_setting⟩
@[simp] theorem p_mean_of_setting : f_mean_of_setting.ps.length = 1 := (rfl)
def b_upper_in : Ss := (.cons (.ret (.neg (.bin .fdiv (.bin .mul (.neg (.v 1)) (.ix (.v 0) (.k (.int 0)))) (.ix (.v 0) (.k (.int 1)))))) .nil)
def c_upper_in : List (Str × D) := []
def f_upper_in : Fn := ⟨"upper_in", ["mean", "count"], [], run ⟨[], c_upper_in, []⟩ 1000000 2 b_upper_in⟩
@[simp] theorem p_upper_in : f_upper_in.ps.length = 2 := (rfl)
def b_thing_in : Ss := (.cons (.ret (.bin .sub (.call 0 (.cons (.v 0) (.cons (.bin .add (.v 1) (.k (.int 1))) .nil)) .nil) (.call 0 (.cons (.v 0) (.cons (.v 1) .nil)) .nil))) .nil)
def c_thing_in : List (Str × D) := []
def f_thing_in : Fn := ⟨"thing_in", ["mean", "place"], [], run ⟨[Ev.C.f_upper_in], c_thing_in, []⟩ 1000000 2 b_thing_in⟩
@[simp] theorem p_thing_in : f_thing_in.ps.length = 2 := (rfl)
def b_first_point_1 : Ss := (.cons (.asg (.n 3) (.call 1 (.cons (.call 3 (.cons (.v 0) (.cons (.v 3) .nil)) .nil) (.cons (.call 2 (.cons (.tup (.cons (.call 5 (.cons (.v 2) (.cons (.v 4) .nil)) .nil) (.cons (.k (.int 1)) .nil))) (.cons (.v 1) .nil)) .nil) .nil)) .nil)) .nil)
def b_first_point : Ss := (.cons (.asg (.n 3) (.g 0)) (.cons (.for_ (.n 4) (.r1 (.ix (.v 2) (.k (.int 1)))) b_first_point_1) (.cons (.ret (.call 0 (.cons (.v 3) (.cons (.call 2 (.cons (.g 1) (.cons (.call 4 (.cons (.v 0) (.cons (.ix (.v 2) (.k (.int 1))) .nil)) .nil) .nil)) .nil) .nil)) .nil)) .nil)))
def c_first_point : List (Str × D) := [("NONE", .tuple [.int 0, .int 1]), ("ONE", .tuple [.int 1, .int 1])]
def f_first_point : Fn := ⟨"first_point", ["part", "height", "mean"], [], run ⟨[Ev.F.f_over_in, Ev.F.f_plus_in, Ev.F.f_minus_in, Ev.F.f_times_in, Ev.C.f_power_in, Ev.C.f_thing_in], c_first_point, []⟩ 1000000 5 b_first_point⟩
@[simp] theorem p_first_point : f_first_point.ps.length = 3 := (rfl)
@[simp] theorem g_first_point_0 : c_first_point[0]? = some (("NONE" : Str), (.tuple [.int 0, .int 1] : D)) := (rfl)
@[simp] theorem g_first_point_1 : c_first_point[1]? = some (("ONE" : Str), (.tuple [.int 1, .int 1] : D)) := (rfl)
def b_points_by_1 : Ss := (.cons (.app 3 (.call 1 (.cons (.call 2 (.cons (.v 0) (.cons (.ix (.v 3) (.neg (.k (.int 1)))) .nil)) .nil) (.cons (.call 3 (.cons (.tup (.cons (.call 4 (.cons (.v 2) (.cons (.v 4) .nil)) .nil) (.cons (.k (.int 1)) .nil))) (.cons (.v 1) .nil)) .nil) .nil)) .nil)) .nil)
def b_points_by : Ss := (.cons (.asgO 3 (.lst (.cons (.call 0 (.cons (.v 0) (.cons (.v 1) (.cons (.v 2) .nil))) .nil) .nil))) (.cons (.for_ (.n 4) (.r1 (.bin .sub (.ix (.v 2) (.k (.int 1))) (.k (.int 1)))) b_points_by_1) (.cons (.frz 3) (.cons (.ret (.v 3)) .nil))))
def c_points_by : List (Str × D) := []
def f_points_by : Fn := ⟨"points_by", ["part", "height", "mean"], [], run ⟨[Ev.C.f_first_point, Ev.F.f_plus_in, Ev.F.f_times_in, Ev.F.f_minus_in, Ev.C.f_thing_in], c_points_by, []⟩ 1000000 5 b_points_by⟩
@[simp] theorem p_points_by : f_points_by.ps.length = 3 := (rfl)
def b_points_in : Ss := (.cons (.ret (.call 0 (.cons (.v 0) (.cons (.v 1) (.cons (.call 1 (.cons (.v 0) (.cons (.v 1) .nil)) .nil) .nil))) .nil)) .nil)
def c_points_in : List (Str × D) := []
def f_points_in : Fn := ⟨"points_in", ["part", "height"], [], run ⟨[Ev.C.f_points_by, Ev.C.f_mean_in], c_points_in, []⟩ 1000000 2 b_points_in⟩
@[simp] theorem p_points_in : f_points_in.ps.length = 2 := (rfl)
def b_u_law_known : Ss := (.cons (.par [2, 3] [false, false] (.cons (.call 5 (.cons (.v 0) .nil) .nil) (.cons (.call 6 (.cons (.v 0) (.cons (.v 1) .nil)) .nil) .nil))) (.cons (.asg (.t (.cons (.n 4) (.cons (.n 5) .nil))) (.call 0 (.cons (.v 2) (.cons (.v 3) .nil)) .nil)) (.cons (.asg (.n 6) (.call 1 (.cons (.v 0) (.cons (.lst (.cons (.tup (.cons (.k (.int 0)) (.cons (.k (.int 1)) .nil))) (.cons (.tup (.cons (.k (.int 1)) (.cons (.k (.int 1)) .nil))) (.cons (.tup (.cons (.k (.int 1)) (.cons (.k (.int 2)) .nil))) (.cons (.tup (.cons (.k (.int 1)) (.cons (.k (.int 7)) .nil))) (.cons (.tup (.cons (.k (.int 5)) (.cons (.k (.int 6)) .nil))) .nil)))))) .nil)) .nil)) (.cons (.asg (.n 7) (.call 2 (.cons (.v 4) (.cons (.call 4 (.cons (.v 6) (.cons (.call 7 (.cons (.v 5) (.cons (.v 4) .nil)) .nil) .nil)) .nil) .nil)) .nil)) (.cons (.asg (.n 8) (.call 3 (.cons (.bin .sub (.call 8 (.cons (.v 0) (.cons (.k (.int 61)) .nil)) .nil) (.k (.int 20))) (.cons (.bin .add (.k (.int 1)) (.call 8 (.cons (.v 0) (.cons (.k (.int 4)) .nil)) .nil)) .nil)) .nil)) (.cons (.asg (.n 9) (.call 3 (.cons (.bin .add (.k (.int 1)) (.call 8 (.cons (.v 0) (.cons (.k (.int 9)) .nil)) .nil)) (.cons (.bin .add (.k (.int 1)) (.call 8 (.cons (.v 0) (.cons (.k (.int 6)) .nil)) .nil)) .nil)) .nil)) (.cons (.asg (.n 10) (.call 4 (.cons (.call 7 (.cons (.tup (.cons (.k (.int 1)) (.cons (.k (.int 1)) .nil))) (.cons (.v 2) .nil)) .nil) (.cons (.v 8) .nil)) .nil)) (.cons (.ret (.tup (.cons (.tup (.cons (.v 8) (.cons (.v 9) (.cons (.v 2) (.cons (.call 7 (.cons (.v 10) (.cons (.call 4 (.cons (.v 7) (.cons (.v 9) .nil)) .nil) .nil)) .nil) .nil))))) (.cons (.v 3) .nil)))) .nil))))))))
def c_u_law_known : List (Str × D) := []
def f_u_law_known : Fn := ⟨"_law_known", ["draws_so", "most_so"], [], run ⟨[Ev.C.f_u_law_ends, Ev.C.f_u_law_of, Ev.F.f_u_law_plus, Ev.L.f_u_law_share, Ev.F.f_u_law_times, Ev.C.f_u_law_cut, Ev.C.f_u_law_pair, Ev.F.f_u_law_minus, Ev.L.f_u_law_draw], c_u_law_known, []⟩ 1000000 11 b_u_law_known⟩
@[simp] theorem p_u_law_known : f_u_law_known.ps.length = 2 := (rfl)
def b_behind_of : Ss := (.cons (.asg (.t (.cons (.n 2) (.cons (.n 3) (.cons (.n 4) (.cons (.n 5) .nil))))) (.v 0)) (.cons (.ret (.call 0 (.cons (.call 1 (.cons (.v 4) (.cons (.call 0 (.cons (.v 2) (.cons (.call 1 (.cons (.v 3) (.cons (.v 1) .nil)) .nil) .nil)) .nil) .nil)) .nil) (.cons (.v 5) .nil)) .nil)) .nil))
def c_behind_of : List (Str × D) := []
def f_behind_of : Fn := ⟨"behind_of", ["setting", "spot"], [], run ⟨[Ev.F.f_plus_in, Ev.F.f_times_in], c_behind_of, []⟩ 1000000 6 b_behind_of⟩
@[simp] theorem p_behind_of : f_behind_of.ps.length = 2 := (rfl)
def e_rows_at_1 : E := .tup (.cons (.call 3 (.cons (.v 0) (.cons (.v 5) .nil)) .nil) (.cons (.call 4 (.cons (.v 2) (.cons (.v 4) .nil)) .nil) .nil))
def b_rows_at : Ss := (.cons (.asg (.n 1) (.call 0 (.cons (.v 0) .nil) .nil)) (.cons (.asg (.n 2) (.call 1 (.cons (.ix (.v 0) (.k (.int 2))) (.cons (.v 1) .nil)) .nil)) (.cons (.asg (.n 3) (.call 2 (.cons (.ix (.v 0) (.k (.int 2))) (.cons (.v 1) .nil)) .nil)) (.cons (.ret (.lc (.t (.cons (.n 4) (.cons (.n 5) .nil))) (.enum (.v 3)) (.no) (e_rows_at_1))) .nil))))
def c_rows_at : List (Str × D) := []
def f_rows_at : Fn := ⟨"rows_at", ["setting"], [], run ⟨[Ev.C.f_height_in, Ev.C.f_mean_in, Ev.C.f_points_in, Ev.C.f_behind_of, Ev.C.f_thing_in], c_rows_at, []⟩ 1000000 6 b_rows_at⟩
@[simp] theorem p_rows_at : f_rows_at.ps.length = 1 := (rfl)
def b_last_of : Ss := (.cons (.ret (.call 0 (.cons (.ix (.v 1) (.k (.int 0))) (.cons (.call 1 (.cons (.ix (.v 0) (.k (.int 1))) (.cons (.tup (.cons (.bin .sub (.ix (.v 1) (.k (.int 1))) (.k (.int 1))) (.cons (.k (.int 1)) .nil))) .nil)) .nil) .nil)) .nil)) .nil)
def c_last_of : List (Str × D) := []
def f_last_of : Fn := ⟨"last_of", ["setting", "row"], [], run ⟨[Ev.F.f_plus_in, Ev.F.f_times_in], c_last_of, []⟩ 1000000 2 b_last_of⟩
@[simp] theorem p_last_of : f_last_of.ps.length = 2 := (rfl)
def b_sum_of : Ss := (.cons (.ret (.call 0 (.cons (.call 1 (.cons (.ix (.v 1) (.k (.int 0))) (.cons (.call 3 (.cons (.v 0) (.cons (.v 1) .nil)) .nil) .nil)) .nil) (.cons (.call 2 (.cons (.ix (.v 1) (.k (.int 1))) (.cons (.k (.int 2)) .nil)) .nil) .nil)) .nil)) .nil)
def c_sum_of : List (Str × D) := []
def f_sum_of : Fn := ⟨"sum_of", ["setting", "row"], [], run ⟨[Ev.F.f_times_in, Ev.F.f_plus_in, Ev.F.f_made_in, Ev.C.f_last_of], c_sum_of, []⟩ 1000000 2 b_sum_of⟩
@[simp] theorem p_sum_of : f_sum_of.ps.length = 2 := (rfl)
def b_mean_of_levels_1 : Ss := (.cons (.par [1, 2] [false, false] (.cons (.call 2 (.cons (.v 1) (.cons (.call 3 (.cons (.v 0) (.cons (.v 3) .nil)) .nil) .nil)) .nil) (.cons (.bin .add (.v 2) (.ix (.v 3) (.k (.int 1)))) .nil))) .nil)
def b_mean_of_levels : Ss := (.cons (.par [1, 2] [false, false] (.cons (.g 0) (.cons (.k (.int 0)) .nil))) (.cons (.for_ (.n 3) (.e (.call 0 (.cons (.v 0) .nil) .nil)) b_mean_of_levels_1) (.cons (.ret (.call 1 (.cons (.v 1) (.cons (.tup (.cons (.v 2) (.cons (.k (.int 1)) .nil))) .nil)) .nil)) .nil)))
def c_mean_of_levels : List (Str × D) := [("NONE", .tuple [.int 0, .int 1])]
def f_mean_of_levels : Fn := ⟨"mean_of_levels", ["setting"], [], run ⟨[Ev.C.f_rows_at, Ev.F.f_over_in, Ev.F.f_plus_in, Ev.C.f_sum_of], c_mean_of_levels, []⟩ 1000000 4 b_mean_of_levels⟩
@[simp] theorem p_mean_of_levels : f_mean_of_levels.ps.length = 1 := (rfl)
@[simp] theorem g_mean_of_levels_0 : c_mean_of_levels[0]? = some (("NONE" : Str), (.tuple [.int 0, .int 1] : D)) := (rfl)
def b_mean_level : Ss := (.cons (.ret (.call 0 (.cons (.call 1 (.cons (.v 0) .nil) .nil) .nil) .nil)) .nil)
def c_mean_level : List (Str × D) := []
def f_mean_level : Fn := ⟨"mean_level", ["setting"], [(0, [0])], run ⟨[Ev.C.f_mean_of_levels, Ev.C.f_check_setting], c_mean_level, []⟩ 1000000 1 b_mean_level⟩
@[simp] theorem p_mean_level : f_mean_level.ps.length = 1 := (rfl)
end Ev.C

end
section
set_option maxHeartbeats 8000000
namespace Ev.K40
open PySem PySem.Spec L2 Ev
def top (i : Nat) : Stmt := PySem.Challenge.pw_sawrounds_k40_rhythms_refused_in_order.main.body.getD i (.Pass ⟨0, 0, 0, 0⟩)
def xl : List (Str × Option Str) := [("BadParameter", some "value"), ("BadRounds", some "place"), ("SawError", none)]
def d_u_law_begin : Df := ⟨"_law_begin", ["script"], [], ["script", "cells_so", "cell"], false, [], [], Ev.L.b_u_law_begin, false, [], []⟩
theorem k_u_law_begin : ckD d_u_law_begin (top 43) = true := by decide +kernel
def d_u_law_like : Df := ⟨"_law_like", ["got", "due"], [], ["got", "due"], false, [], [], Ev.L.b_u_law_like, false, [], []⟩
theorem k_u_law_like : ckD d_u_law_like (top 46) = true := by decide +kernel
def d_upper_in : Df := ⟨"upper_in", ["mean", "count"], [], ["mean", "count"], false, [], [], Ev.C.b_upper_in, false, [], []⟩
theorem k_upper_in : ckD d_upper_in (top 19) = true := by decide +kernel
def d_thing_in : Df := ⟨"thing_in", ["mean", "place"], [], ["mean", "place"], false, [("upper_in", ["mean", "count"], [])], [], Ev.C.b_thing_in, false, [], []⟩
theorem k_thing_in : ckD d_thing_in (top 20) = true := by decide +kernel
def e_beat_in_1 : E := .call 0 (.cons (.v 0) (.cons (.v 1) .nil)) .nil
def b_beat_in : Ss := (.cons (.ret (.lc (.n 1) (.r1 (.ix (.v 0) (.k (.int 1)))) (.no) (e_beat_in_1))) .nil)
def d_beat_in : Df := ⟨"beat_in", ["mean"], [], ["mean", "place"], false, [("thing_in", ["mean", "place"], [])], [], b_beat_in, false, [], []⟩
def c_beat_in : List (Str × D) := []
def f_beat_in : Fn := ⟨"beat_in", ["mean"], [], run ⟨[Ev.C.f_thing_in], c_beat_in, []⟩ 1000000 2 b_beat_in⟩
@[simp] theorem p_beat_in : f_beat_in.ps.length = 1 := (rfl)
theorem k_beat_in : ckD d_beat_in (top 22) = true := by decide +kernel
def d_is_from : Df := ⟨"is_from", ["value", "low", "high"], [], ["value", "low", "high"], false, [], [], Ev.C.b_is_from, false, [], []⟩
theorem k_is_from : ckD d_is_from (top 7) = true := by decide +kernel
def d_is_fraction : Df := ⟨"is_fraction", ["value"], [], ["value"], true, [("is_from", ["value", "low", "high"], [])], ["MOST"], Ev.C.b_is_fraction, false, [], []⟩
theorem k_is_fraction : ckD d_is_fraction (top 8) = true := by decide +kernel
def d_is_mean_form : Df := ⟨"is_mean_form", ["value"], [], ["value"], false, [("is_fraction", ["value"], [])], ["MOST_BELOW"], Ev.C.b_is_mean_form, false, [], []⟩
theorem k_is_mean_form : ckD d_is_mean_form (top 14) = true := by decide +kernel
def d_check_mean : Df := ⟨"check_mean", ["value"], [], ["value"], false, [("is_mean_form", ["value"], [])], [], Ev.C.b_check_mean, false, [("BadParameter", some "value")], []⟩
theorem xs_check_mean : ∀ p ∈ d_check_mean.xcs, p ∈ xl := by decide +kernel
theorem k_check_mean : ckD d_check_mean (top 15) = true := by decide +kernel
def b_rhythm_of : Ss := (.cons (.ret (.bi .tuple (.cons (.call 0 (.cons (.call 1 (.cons (.v 0) .nil) .nil) .nil) .nil) .nil))) .nil)
def d_rhythm_of : Df := ⟨"rhythm_of", ["mean"], [], ["mean"], false, [("beat_in", ["mean"], []), ("check_mean", ["value"], [])], [], b_rhythm_of, false, [], []⟩
def c_rhythm_of : List (Str × D) := []
def f_rhythm_of : Fn := ⟨"rhythm_of", ["mean"], [], run ⟨[f_beat_in, Ev.C.f_check_mean], c_rhythm_of, []⟩ 1000000 1 b_rhythm_of⟩
@[simp] theorem p_rhythm_of : f_rhythm_of.ps.length = 1 := (rfl)
theorem k_rhythm_of : ckD d_rhythm_of (top 32) = true := by decide +kernel
def h_u_law_heard : HDef := ⟨"_law_heard", ["call", "told", "error_so"], true, .tup "is", [⟨"BadRounds", some 2, .set 1 (.tup [.k "rounds", .fld "place", .isi "SawError"])⟩, ⟨"BadParameter", some 2, .set 1 (.tup [.k "parameter", .fld "value", .isi "SawError"])⟩]⟩
theorem kh_u_law_heard : ckH h_u_law_heard [("BadParameter", some "value"), ("BadRounds", some "place"), ("SawError", none)] (top 47) = true := by decide +kernel
theorem xh_u_law_heard : ∀ p ∈ ([("BadParameter", some "value"), ("BadRounds", some "place"), ("SawError", none)] : List (Str × Option Str)), p ∈ xl := by decide +kernel
theorem bh_u_law_heard {K : PySem.W.Frag} {f : Addr} {fd : FuncData} (F : Fun K "_law_heard" "_law_heard" (top 47) f fd) : L2.Binds K fd (h_u_law_heard.N.take 1) [] := binds_of F (fun _ _ _ _ _ _ us hl => match us, hl with | [_], _ => rfl)
def b_sums_up_to_1 : Ss := (.cons (.app 1 (.bin .add (.ix (.v 1) (.neg (.k (.int 1)))) (.v 2))) .nil)
def b_sums_up_to : Ss := (.cons (.asgO 1 (.lst (.cons (.k (.int 0)) .nil))) (.cons (.for_ (.n 2) (.e (.v 0)) b_sums_up_to_1) (.cons (.frz 1) (.cons (.ret (.v 1)) .nil))))
def d_sums_up_to : Df := ⟨"sums_up_to", ["rounds"], [], ["rounds", "found", "item"], false, [], [], b_sums_up_to, false, [], []⟩
def c_sums_up_to : List (Str × D) := []
def f_sums_up_to : Fn := ⟨"sums_up_to", ["rounds"], [], run ⟨[], c_sums_up_to, []⟩ 1000000 3 b_sums_up_to⟩
@[simp] theorem p_sums_up_to : f_sums_up_to.ps.length = 1 := (rfl)
theorem k_sums_up_to : ckD d_sums_up_to (top 24) = true := by decide +kernel
def e_apart_in_1 : E := .bin .sub (.v 4) (.v 3)
def b_apart_in_2 : Ss := (.cons (.ife (.cmp .gt (.bi .abs (.cons (.bin .sub (.ix (.v 2) (.v 4)) (.v 5)) .nil)) (.k (.int 1))) (.cons (.ret (.tup (.cons (.v 3) (.cons (.v 4) .nil)))) .nil) .nil) .nil)
def b_apart_in_3 : Ss := (.cons (.for_ (.n 4) (.r2 (.bin .add (.v 3) (.k (.int 1))) (.bi .len (.cons (.v 2) .nil))) b_apart_in_2) .nil)
def b_apart_in : Ss := (.cons (.asg (.n 2) (.lc (.t (.cons (.n 3) (.cons (.n 4) .nil))) (.zip (.v 0) (.sl (.v 0) (.v 1) (.no))) (.no) (e_apart_in_1))) (.cons (.for_ (.t (.cons (.n 3) (.cons (.n 5) .nil))) (.enum (.v 2)) b_apart_in_3) (.cons (.ret (.k .none)) .nil)))
def d_apart_in : Df := ⟨"apart_in", ["sums", "length"], [], ["sums", "length", "parts", "near", "far", "one"], false, [], [], b_apart_in, false, [], []⟩
def c_apart_in : List (Str × D) := []
def f_apart_in : Fn := ⟨"apart_in", ["sums", "length"], [], run ⟨[], c_apart_in, []⟩ 1000000 6 b_apart_in⟩
@[simp] theorem p_apart_in : f_apart_in.ps.length = 2 := (rfl)
theorem k_apart_in : ckD d_apart_in (top 25) = true := by decide +kernel
def e_unbalance_in_1 : E := .bin .sub (.v 5) (.v 4)
def b_unbalance_in_2 : Ss := (.cons (.asg (.n 3) (.lc (.t (.cons (.n 4) (.cons (.n 5) .nil))) (.zip (.v 1) (.sl (.v 1) (.v 2) (.no))) (.no) (e_unbalance_in_1))) (.cons (.ife (.cmp .gt (.bin .sub (.bi .max1 (.cons (.v 3) .nil)) (.bi .min1 (.cons (.v 3) .nil))) (.k (.int 1))) (.cons (.ret (.bin .add (.call 1 (.cons (.v 1) (.cons (.v 2) .nil)) .nil) (.tup (.cons (.v 2) .nil)))) .nil) .nil) .nil))
def b_unbalance_in : Ss := (.cons (.asg (.n 1) (.call 0 (.cons (.v 0) .nil) .nil)) (.cons (.for_ (.n 2) (.r2 (.k (.int 1)) (.bi .len (.cons (.v 0) .nil))) b_unbalance_in_2) (.cons (.ret (.k .none)) .nil)))
def d_unbalance_in : Df := ⟨"unbalance_in", ["rounds"], [], ["rounds", "sums", "length", "parts", "near", "far"], false, [("sums_up_to", ["rounds"], []), ("apart_in", ["sums", "length"], [])], [], b_unbalance_in, false, [], []⟩
def c_unbalance_in : List (Str × D) := []
def f_unbalance_in : Fn := ⟨"unbalance_in", ["rounds"], [], run ⟨[f_sums_up_to, f_apart_in], c_unbalance_in, []⟩ 1000000 6 b_unbalance_in⟩
@[simp] theorem p_unbalance_in : f_unbalance_in.ps.length = 1 := (rfl)
theorem k_unbalance_in : ckD d_unbalance_in (top 26) = true := by decide +kernel
def b_check_rounds_1 : Ss := (.cons (.ife (.not (.call 0 (.cons (.v 2) (.cons (.k (.int 1)) (.cons (.g 1) .nil))) .nil)) (.cons (.rse "BadRounds" "place" (.tup (.cons (.v 1) .nil))) .nil) .nil) .nil)
def b_check_rounds : Ss := (.cons (.ife (.or (.not (.isi .tuple (.v 0))) (.cons (.cmp .gt (.bi .len (.cons (.v 0) .nil)) (.g 0)) .nil)) (.cons (.rse "BadRounds" "place" (.tup .nil)) .nil) .nil) (.cons (.for_ (.t (.cons (.n 1) (.cons (.n 2) .nil))) (.enum (.v 0)) b_check_rounds_1) (.cons (.ret (.v 0)) .nil)))
def d_check_rounds : Df := ⟨"check_rounds", ["value"], [], ["value", "place", "item"], false, [("is_from", ["value", "low", "high"], [])], ["MOST_ROUNDS", "MOST_NUMBER"], b_check_rounds, false, [("BadRounds", some "place")], []⟩
theorem xs_check_rounds : ∀ p ∈ d_check_rounds.xcs, p ∈ xl := by decide +kernel
def c_check_rounds : List (Str × D) := [("MOST_ROUNDS", .int 300), ("MOST_NUMBER", .int 1000000000000000000000000000000)]
def f_check_rounds : Fn := ⟨"check_rounds", ["value"], [], run ⟨[Ev.C.f_is_from], c_check_rounds, []⟩ 1000000 3 b_check_rounds⟩
@[simp] theorem p_check_rounds : f_check_rounds.ps.length = 1 := (rfl)
@[simp] theorem g_check_rounds_0 : c_check_rounds[0]? = some (("MOST_ROUNDS" : Str), (.int 300 : D)) := (rfl)
@[simp] theorem g_check_rounds_1 : c_check_rounds[1]? = some (("MOST_NUMBER" : Str), (.int 1000000000000000000000000000000 : D)) := (rfl)
theorem k_check_rounds : ckD d_check_rounds (top 18) = true := by decide +kernel
def b_is_balanced : Ss := (.cons (.ret (.cmp .is (.call 0 (.cons (.call 1 (.cons (.v 0) .nil) .nil) .nil) .nil) (.k .none))) .nil)
def d_is_balanced : Df := ⟨"is_balanced", ["rounds"], [], ["rounds"], false, [("unbalance_in", ["rounds"], []), ("check_rounds", ["value"], [])], [], b_is_balanced, false, [], []⟩
def c_is_balanced : List (Str × D) := []
def f_is_balanced : Fn := ⟨"is_balanced", ["rounds"], [], run ⟨[f_unbalance_in, f_check_rounds], c_is_balanced, []⟩ 1000000 1 b_is_balanced⟩
@[simp] theorem p_is_balanced : f_is_balanced.ps.length = 1 := (rfl)
theorem k_is_balanced : ckD d_is_balanced (top 36) = true := by decide +kernel
def d_u_law_mixed : Df := ⟨"_law_mixed", ["cell", "k"], [], ["cell", "k"], false, [], [], Ev.L.b_u_law_mixed, false, [], []⟩
theorem k_u_law_mixed : ckD d_u_law_mixed (top 42) = true := by decide +kernel
def d_u_law_draw : Df := ⟨"_law_draw", ["draws_so", "limit"], [], ["draws_so", "limit", "at", "place", "left", "mixed"], false, [("_law_mixed", ["cell", "k"], [])], [], Ev.L.b_u_law_draw, false, [], []⟩
theorem k_u_law_draw : ckD d_u_law_draw (top 44) = true := by decide +kernel
def d_u_law_of : Df := ⟨"_law_of", ["draws_so", "some"], [], ["draws_so", "some"], false, [("_law_draw", ["draws_so", "limit"], [])], [], Ev.C.b_u_law_of, false, [], []⟩
theorem k_u_law_of : ckD d_u_law_of (top 45) = true := by decide +kernel
def b_need_mean : Ss := (.cons (.ret (.call 0 (.cons (.v 0) .nil) .nil)) .nil)
def d_need_mean : Df := ⟨"need_mean", ["mean"], [], ["mean"], false, [("check_mean", ["value"], [])], [], b_need_mean, false, [], []⟩
def c_need_mean : List (Str × D) := []
def f_need_mean : Fn := ⟨"need_mean", ["mean"], [], run ⟨[Ev.C.f_check_mean], c_need_mean, []⟩ 1000000 1 b_need_mean⟩
@[simp] theorem p_need_mean : f_need_mean.ps.length = 1 := (rfl)
theorem k_need_mean : ckD d_need_mean (top 30) = true := by decide +kernel
def e_order_in_1 : E := .bin .mod (.bin .mul (.neg (.ix (.v 0) (.k (.int 0)))) (.v 1)) (.ix (.v 0) (.k (.int 1)))
def b_order_in : Ss := (.cons (.ret (.skey (.lrg1 (.ix (.v 0) (.k (.int 1)))) [0] 1 (e_order_in_1))) .nil)
def d_order_in : Df := ⟨"order_in", ["mean"], [], ["mean", "phase"], false, [], [], b_order_in, true, [], []⟩
def c_order_in : List (Str × D) := []
def f_order_in : Fn := ⟨"order_in", ["mean"], [], run ⟨[], c_order_in, []⟩ 1000000 2 b_order_in⟩
@[simp] theorem p_order_in : f_order_in.ps.length = 1 := (rfl)
theorem k_order_in : ckD d_order_in (top 23) = true := by decide +kernel
def b_phases_in_order : Ss := (.cons (.ret (.bi .tuple (.cons (.call 0 (.cons (.call 1 (.cons (.v 0) .nil) .nil) .nil) .nil) .nil))) .nil)
def d_phases_in_order : Df := ⟨"phases_in_order", ["mean"], [], ["mean"], false, [("order_in", ["mean"], []), ("check_mean", ["value"], [])], [], b_phases_in_order, false, [], []⟩
def c_phases_in_order : List (Str × D) := []
def f_phases_in_order : Fn := ⟨"phases_in_order", ["mean"], [], run ⟨[f_order_in, Ev.C.f_check_mean], c_phases_in_order, []⟩ 1000000 1 b_phases_in_order⟩
@[simp] theorem p_phases_in_order : f_phases_in_order.ps.length = 1 := (rfl)
theorem k_phases_in_order : ckD d_phases_in_order (top 34) = true := by decide +kernel
def e_backwards_phase_1 : E := .cmp .eq (.bin .mod (.bin .mul (.ix (.v 0) (.k (.int 0))) (.v 1)) (.ix (.v 0) (.k (.int 1)))) (.bin .mod (.k (.int 1)) (.ix (.v 0) (.k (.int 1))))
def e_backwards_phase_2 : E := .v 1
def b_backwards_phase : Ss := (.cons (.ex (.call 0 (.cons (.v 0) .nil) .nil)) (.cons (.ret (.ix (.lc (.n 1) (.r1 (.ix (.v 0) (.k (.int 1)))) (e_backwards_phase_1) (e_backwards_phase_2)) (.k (.int 0)))) .nil))
def d_backwards_phase : Df := ⟨"backwards_phase", ["mean"], [], ["mean", "phase"], false, [("check_mean", ["value"], [])], [], b_backwards_phase, false, [], []⟩
def c_backwards_phase : List (Str × D) := []
def f_backwards_phase : Fn := ⟨"backwards_phase", ["mean"], [], run ⟨[Ev.C.f_check_mean], c_backwards_phase, []⟩ 1000000 2 b_backwards_phase⟩
@[simp] theorem p_backwards_phase : f_backwards_phase.ps.length = 1 := (rfl)
theorem k_backwards_phase : ckD d_backwards_phase (top 39) = true := by decide +kernel
def b_parents_in_1 : Ss := (.cons (.asg (.n 3) (.tup (.cons (.bin .add (.ix (.v 1) (.k (.int 0))) (.ix (.v 2) (.k (.int 0)))) (.cons (.bin .add (.ix (.v 1) (.k (.int 1))) (.ix (.v 2) (.k (.int 1)))) .nil)))) (.cons (.ife (.cmp .eq (.v 3) (.v 0)) (.cons (.ret (.tup (.cons (.v 1) (.cons (.v 2) .nil)))) .nil) .nil) (.cons (.ife (.cmp .lt (.bin .mul (.ix (.v 3) (.k (.int 0))) (.ix (.v 0) (.k (.int 1)))) (.bin .mul (.ix (.v 0) (.k (.int 0))) (.ix (.v 3) (.k (.int 1))))) (.cons (.asg (.n 1) (.v 3)) .nil) (.cons (.asg (.n 2) (.v 3)) .nil)) .nil)))
def b_parents_in : Ss := (.cons (.ife (.cmp .eq (.ix (.v 0) (.k (.int 1))) (.k (.int 1))) (.cons (.ret (.k .none)) .nil) .nil) (.cons (.par [1, 2] [false, false] (.cons (.tup (.cons (.bin .fdiv (.ix (.v 0) (.k (.int 0))) (.ix (.v 0) (.k (.int 1)))) (.cons (.k (.int 1)) .nil))) (.cons (.tup (.cons (.bin .add (.bin .fdiv (.ix (.v 0) (.k (.int 0))) (.ix (.v 0) (.k (.int 1)))) (.k (.int 1))) (.cons (.k (.int 1)) .nil))) .nil))) (.cons (.whl (.k (.bool true)) b_parents_in_1) .nil)))
def d_parents_in : Df := ⟨"parents_in", ["mean"], [], ["mean", "low", "high", "middle"], false, [], [], b_parents_in, false, [], []⟩
def c_parents_in : List (Str × D) := []
def f_parents_in : Fn := ⟨"parents_in", ["mean"], [], run ⟨[], c_parents_in, []⟩ 1000000 4 b_parents_in⟩
@[simp] theorem p_parents_in : f_parents_in.ps.length = 1 := (rfl)
theorem k_parents_in : ckD d_parents_in (top 29) = true := by decide +kernel
def b_parents_of : Ss := (.cons (.ret (.call 0 (.cons (.call 1 (.cons (.v 0) .nil) .nil) .nil) .nil)) .nil)
def d_parents_of : Df := ⟨"parents_of", ["mean"], [], ["mean"], false, [("parents_in", ["mean"], []), ("check_mean", ["value"], [])], [], b_parents_of, false, [], []⟩
def c_parents_of : List (Str × D) := []
def f_parents_of : Fn := ⟨"parents_of", ["mean"], [], run ⟨[f_parents_in, Ev.C.f_check_mean], c_parents_of, []⟩ 1000000 1 b_parents_of⟩
@[simp] theorem p_parents_of : f_parents_of.ps.length = 1 := (rfl)
theorem k_parents_of : ckD d_parents_of (top 40) = true := by decide +kernel
def b_check_phase : Ss := (.cons (.ife (.not (.call 0 (.cons (.v 1) (.cons (.k (.int 0)) (.cons (.bin .sub (.ix (.v 0) (.k (.int 1))) (.k (.int 1))) .nil))) .nil)) (.cons (.rse "BadParameter" "value" (.v 1)) .nil) .nil) (.cons (.ret (.v 1)) .nil))
def d_check_phase : Df := ⟨"check_phase", ["mean", "value"], [], ["mean", "value"], false, [("is_from", ["value", "low", "high"], [])], [], b_check_phase, false, [("BadParameter", some "value")], []⟩
theorem xs_check_phase : ∀ p ∈ d_check_phase.xcs, p ∈ xl := by decide +kernel
def c_check_phase : List (Str × D) := []
def f_check_phase : Fn := ⟨"check_phase", ["mean", "value"], [], run ⟨[Ev.C.f_is_from], c_check_phase, []⟩ 1000000 2 b_check_phase⟩
@[simp] theorem p_check_phase : f_check_phase.ps.length = 2 := (rfl)
theorem k_check_phase : ckD d_check_phase (top 16) = true := by decide +kernel
def b_sum_in : Ss := (.cons (.ret (.bin .sub (.call 0 (.cons (.v 0) (.cons (.bin .add (.v 1) (.v 2)) .nil)) .nil) (.call 0 (.cons (.v 0) (.cons (.v 1) .nil)) .nil))) .nil)
def d_sum_in : Df := ⟨"sum_in", ["mean", "phase", "count"], [], ["mean", "phase", "count"], false, [("upper_in", ["mean", "count"], [])], [], b_sum_in, false, [], []⟩
def c_sum_in : List (Str × D) := []
def f_sum_in : Fn := ⟨"sum_in", ["mean", "phase", "count"], [], run ⟨[Ev.C.f_upper_in], c_sum_in, []⟩ 1000000 3 b_sum_in⟩
@[simp] theorem p_sum_in : f_sum_in.ps.length = 3 := (rfl)
theorem k_sum_in : ckD d_sum_in (top 21) = true := by decide +kernel
def b_check_terms : Ss := (.cons (.ife (.not (.call 0 (.cons (.v 0) (.cons (.k (.int 0)) (.cons (.g 0) .nil))) .nil)) (.cons (.rse "BadParameter" "value" (.v 0)) .nil) .nil) (.cons (.ret (.v 0)) .nil))
def d_check_terms : Df := ⟨"check_terms", ["value"], [], ["value"], false, [("is_from", ["value", "low", "high"], [])], ["MOST_NUMBER"], b_check_terms, false, [("BadParameter", some "value")], []⟩
theorem xs_check_terms : ∀ p ∈ d_check_terms.xcs, p ∈ xl := by decide +kernel
def c_check_terms : List (Str × D) := [("MOST_NUMBER", .int 1000000000000000000000000000000)]
def f_check_terms : Fn := ⟨"check_terms", ["value"], [], run ⟨[Ev.C.f_is_from], c_check_terms, []⟩ 1000000 1 b_check_terms⟩
@[simp] theorem p_check_terms : f_check_terms.ps.length = 1 := (rfl)
@[simp] theorem g_check_terms_0 : c_check_terms[0]? = some (("MOST_NUMBER" : Str), (.int 1000000000000000000000000000000 : D)) := (rfl)
theorem k_check_terms : ckD d_check_terms (top 17) = true := by decide +kernel
def b_sum_from : Ss := (.cons (.ex (.call 0 (.cons (.v 0) .nil) .nil)) (.cons (.ex (.call 1 (.cons (.v 0) (.cons (.v 1) .nil)) .nil)) (.cons (.ret (.call 2 (.cons (.v 0) (.cons (.v 1) (.cons (.call 3 (.cons (.v 2) .nil) .nil) .nil))) .nil)) .nil)))
def d_sum_from : Df := ⟨"sum_from", ["mean", "phase", "count"], [], ["mean", "phase", "count"], false, [("check_mean", ["value"], []), ("check_phase", ["mean", "value"], []), ("sum_in", ["mean", "phase", "count"], []), ("check_terms", ["value"], [])], [], b_sum_from, false, [], []⟩
def c_sum_from : List (Str × D) := []
def f_sum_from : Fn := ⟨"sum_from", ["mean", "phase", "count"], [], run ⟨[Ev.C.f_check_mean, f_check_phase, f_sum_in, f_check_terms], c_sum_from, []⟩ 1000000 3 b_sum_from⟩
@[simp] theorem p_sum_from : f_sum_from.ps.length = 3 := (rfl)
theorem k_sum_from : ckD d_sum_from (top 33) = true := by decide +kernel
def e_windows_of_1 : E := .call 2 (.cons (.v 0) (.cons (.bin .add (.v 4) (.v 3)) .nil)) .nil
def e_windows_of_2 : E := .bi .tuple (.cons (.lc (.n 3) (.r1 (.v 1)) (.no) (e_windows_of_1)) .nil)
def b_windows_of : Ss := (.cons (.ex (.call 0 (.cons (.v 0) .nil) .nil)) (.cons (.ife (.not (.call 1 (.cons (.v 1) (.cons (.k (.int 0)) (.cons (.g 0) .nil))) .nil)) (.cons (.rse "BadParameter" "value" (.v 1)) .nil) .nil) (.cons (.asg (.n 2) (.lc (.n 4) (.r1 (.ix (.v 0) (.k (.int 1)))) (.no) (e_windows_of_2))) (.cons (.ret (.bi .tuple (.cons (.sset (.v 2)) .nil))) .nil))))
def d_windows_of : Df := ⟨"windows_of", ["mean", "length"], [(0, [1, 0])], ["mean", "length", "found", "step", "place"], false, [("check_mean", ["value"], []), ("is_from", ["value", "low", "high"], []), ("thing_in", ["mean", "place"], [])], ["MOST_LENGTH"], b_windows_of, false, [("BadParameter", some "value")], []⟩
theorem xs_windows_of : ∀ p ∈ d_windows_of.xcs, p ∈ xl := by decide +kernel
def c_windows_of : List (Str × D) := [("MOST_LENGTH", .int 60)]
def f_windows_of : Fn := ⟨"windows_of", ["mean", "length"], [(0, [1, 0])], run ⟨[Ev.C.f_check_mean, Ev.C.f_is_from, Ev.C.f_thing_in], c_windows_of, []⟩ 1000000 5 b_windows_of⟩
@[simp] theorem p_windows_of : f_windows_of.ps.length = 2 := (rfl)
@[simp] theorem g_windows_of_0 : c_windows_of[0]? = some (("MOST_LENGTH" : Str), (.int 60 : D)) := (rfl)
theorem k_windows_of : ckD d_windows_of (top 38) = true := by decide +kernel
def e_u_law_means_right_1 : E := .callV 3 (.cons (.v 1) .nil)
def b_u_law_means_right_2 : Ss := (.cons (.app 2 (.heard 0 [1, 3] (e_u_law_means_right_1))) .nil)
def e_u_law_means_right_3 : E := .call 2 (.cons (.v 1) (.cons (.k .none) (.cons (.k .none) .nil))) .nil
def e_u_law_means_right_4 : E := .call 3 (.cons (.v 1) (.cons (.k .none) .nil)) .nil
def b_u_law_means_right : Ss := (.cons (.asg (.n 1) (.call 0 (.cons (.v 0) (.cons (.lst (.cons (.k .none) (.cons (.k (.int 3)) (.cons (.tup (.cons (.k (.int 3)) .nil)) (.cons (.tup (.cons (.k (.int 3)) (.cons (.k (.int 1)) (.cons (.k (.int 1)) .nil)))) (.cons (.lst (.cons (.k (.int 3)) (.cons (.k (.int 1)) .nil))) (.cons (.tup (.cons (.k (.int 6)) (.cons (.k (.int 4)) .nil))) (.cons (.tup (.cons (.k (.int 1)) (.cons (.k (.int 2)) .nil))) (.cons (.tup (.cons (.k (.int 301)) (.cons (.k (.int 302)) .nil))) (.cons (.tup (.cons (.k (.int 302)) (.cons (.k (.int 301)) .nil))) (.cons (.tup (.cons (.k (.int 0)) (.cons (.k (.int 1)) .nil))) (.cons (.tup (.cons (.neg (.k (.int 3))) (.cons (.k (.int 1)) .nil))) (.cons (.tup (.cons (.k (.int 3)) (.cons (.neg (.k (.int 1))) .nil))) (.cons (.tup (.cons (.k (.int 3)) (.cons (.k (.int 0)) .nil))) (.cons (.tup (.cons (.k (.bool true)) (.cons (.k (.int 1)) .nil))) (.cons (.tup (.cons (.k (.int 3)) (.cons (.k (.bool true)) .nil))) (.cons (.tup (.cons (.k (.str "3")) (.cons (.k (.int 1)) .nil))) (.cons (.tup (.cons (.bin .mul (.k (.int 2)) (.bin .pow (.k (.int 10)) (.k (.int 30)))) (.cons (.k (.int 1)) .nil))) (.cons (.tup (.cons (.bin .pow (.k (.int 10)) (.k (.int 31))) (.cons (.k (.int 3)) .nil))) (.cons (.tup .nil) .nil)))))))))))))))))))) .nil)) .nil)) (.cons (.asgO 2 (.lst .nil)) (.cons (.for_ (.n 3) (.e (.tup (.cons (.fn 4) (.cons (.fn 5) (.cons (.fn 6) (.cons (.fn 7) (.cons (.fn 8) .nil))))))) b_u_law_means_right_2) (.cons (.app 2 (.heard 0 [1] (e_u_law_means_right_3))) (.cons (.app 2 (.heard 0 [1] (e_u_law_means_right_4))) (.cons (.frz 2) (.cons (.ret (.call 1 (.cons (.v 2) (.cons (.bin .mul (.lst (.cons (.tup (.cons (.k (.str "parameter")) (.cons (.v 1) (.cons (.k (.bool true)) .nil)))) .nil)) (.k (.int 7))) .nil)) .nil)) .nil)))))))
def d_u_law_means_right : Df := ⟨"_law_means_right", ["draws_so"], [], ["draws_so", "odd", "got", "call"], false, [("_law_of", ["draws_so", "some"], []), ("_law_like", ["got", "due"], []), ("sum_from", ["mean", "phase", "count"], []), ("windows_of", ["mean", "length"], [(0, [1, 0])]), ("need_mean", ["mean"], []), ("rhythm_of", ["mean"], []), ("phases_in_order", ["mean"], []), ("backwards_phase", ["mean"], []), ("parents_of", ["mean"], [])], [], b_u_law_means_right, true, [], [h_u_law_heard]⟩
def c_u_law_means_right : List (Str × D) := []
def f_u_law_means_right : Fn := ⟨"_law_means_right", ["draws_so"], [], run ⟨[Ev.C.f_u_law_of, Ev.L.f_u_law_like, f_sum_from, f_windows_of, f_need_mean, f_rhythm_of, f_phases_in_order, f_backwards_phase, f_parents_of], c_u_law_means_right, [h_u_law_heard]⟩ 1000000 4 b_u_law_means_right⟩
@[simp] theorem p_u_law_means_right : f_u_law_means_right.ps.length = 1 := (rfl)
theorem k_u_law_means_right : ckD d_u_law_means_right (top 48) = true := by decide +kernel
def e_u_law_others_right_1 : E := .call 2 (.cons (.tup (.cons (.k (.int 10)) (.cons (.k (.int 3)) .nil))) (.cons (.k (.int 2)) (.cons (.v 2) .nil))) .nil
def e_u_law_others_right_2 : E := .call 2 (.cons (.tup (.cons (.k (.int 10)) (.cons (.k (.int 3)) .nil))) (.cons (.v 1) (.cons (.v 2) .nil))) .nil
def e_u_law_others_right_3 : E := .call 3 .nil (.cons 1 (.v 3) (.cons 0 (.tup (.cons (.k (.int 10)) (.cons (.k (.int 3)) .nil))) .nil))
def e_u_law_others_right_4 : E := .tup (.cons (.k (.str "parameter")) (.cons (.v 6) (.cons (.k (.bool true)) .nil)))
def b_u_law_others_right : Ss := (.cons (.asg (.n 1) (.call 0 (.cons (.v 0) (.cons (.lst (.cons (.k .none) (.cons (.neg (.k (.int 1))) (.cons (.k (.int 3)) (.cons (.k (.bool true)) (.cons (.k (.str "1")) (.cons (.tup (.cons (.k (.int 1)) .nil)) .nil))))))) .nil)) .nil)) (.cons (.asg (.n 2) (.call 0 (.cons (.v 0) (.cons (.lst (.cons (.k .none) (.cons (.neg (.k (.int 1))) (.cons (.bin .add (.bin .pow (.k (.int 10)) (.k (.int 30))) (.k (.int 1))) (.cons (.k (.bool true)) (.cons (.k (.str "5")) (.cons (.tup (.cons (.k (.int 0)) .nil)) .nil))))))) .nil)) .nil)) (.cons (.asg (.n 3) (.call 0 (.cons (.v 0) (.cons (.lst (.cons (.k .none) (.cons (.neg (.k (.int 1))) (.cons (.k (.int 61)) (.cons (.k (.bool false)) (.cons (.k (.str "2")) (.cons (.lst (.cons (.k (.int 2)) .nil)) .nil))))))) .nil)) .nil)) (.cons (.asgO 4 (.lst (.cons (.heard 0 [1, 2] (e_u_law_others_right_2)) (.cons (.heard 0 [2] (e_u_law_others_right_1)) .nil)))) (.cons (.app 4 (.heard 0 [3] (e_u_law_others_right_3))) (.cons (.asg (.n 5) (.lc (.n 6) (.e (.tup (.cons (.v 1) (.cons (.v 2) (.cons (.v 3) .nil))))) (.no) (e_u_law_others_right_4))) (.cons (.frz 4) (.cons (.ret (.call 1 (.cons (.v 4) (.cons (.v 5) .nil)) .nil)) .nil))))))))
def d_u_law_others_right : Df := ⟨"_law_others_right", ["draws_so"], [], ["draws_so", "first", "often", "size", "got", "due", "one"], false, [("_law_of", ["draws_so", "some"], []), ("_law_like", ["got", "due"], []), ("sum_from", ["mean", "phase", "count"], []), ("windows_of", ["mean", "length"], [(0, [1, 0])])], [], b_u_law_others_right, true, [], [h_u_law_heard]⟩
def c_u_law_others_right : List (Str × D) := []
def f_u_law_others_right : Fn := ⟨"_law_others_right", ["draws_so"], [], run ⟨[Ev.C.f_u_law_of, Ev.L.f_u_law_like, f_sum_from, f_windows_of], c_u_law_others_right, [h_u_law_heard]⟩ 1000000 7 b_u_law_others_right⟩
@[simp] theorem p_u_law_others_right : f_u_law_others_right.ps.length = 1 := (rfl)
theorem k_u_law_others_right : ckD d_u_law_others_right (top 49) = true := by decide +kernel
def b_need_rounds : Ss := (.cons (.ret (.call 0 (.cons (.v 0) .nil) .nil)) .nil)
def d_need_rounds : Df := ⟨"need_rounds", ["rounds"], [], ["rounds"], false, [("check_rounds", ["value"], [])], [], b_need_rounds, false, [], []⟩
def c_need_rounds : List (Str × D) := []
def f_need_rounds : Fn := ⟨"need_rounds", ["rounds"], [], run ⟨[f_check_rounds], c_need_rounds, []⟩ 1000000 1 b_need_rounds⟩
@[simp] theorem p_need_rounds : f_need_rounds.ps.length = 1 := (rfl)
theorem k_need_rounds : ckD d_need_rounds (top 31) = true := by decide +kernel
def b_unbalance : Ss := (.cons (.ret (.call 0 (.cons (.call 1 (.cons (.v 0) .nil) .nil) .nil) .nil)) .nil)
def d_unbalance : Df := ⟨"unbalance", ["rounds"], [], ["rounds"], false, [("unbalance_in", ["rounds"], []), ("check_rounds", ["value"], [])], [], b_unbalance, false, [], []⟩
def c_unbalance : List (Str × D) := []
def f_unbalance : Fn := ⟨"unbalance", ["rounds"], [], run ⟨[f_unbalance_in, f_check_rounds], c_unbalance, []⟩ 1000000 1 b_unbalance⟩
@[simp] theorem p_unbalance : f_unbalance.ps.length = 1 := (rfl)
theorem k_unbalance : ckD d_unbalance (top 35) = true := by decide +kernel
def b_lowest_in_1 : Ss := (.cons (.par [2, 3] [false, false] (.cons (.v 3) (.cons (.bin .mod (.v 2) (.v 3)) .nil))) .nil)
def b_lowest_in : Ss := (.cons (.par [2, 3] [false, false] (.cons (.v 0) (.cons (.v 1) .nil))) (.cons (.whl (.cmp .gt (.v 3) (.k (.int 0))) b_lowest_in_1) (.cons (.ret (.tup (.cons (.bin .fdiv (.v 0) (.v 2)) (.cons (.bin .fdiv (.v 1) (.v 2)) .nil)))) .nil)))
def d_lowest_in : Df := ⟨"lowest_in", ["above", "below"], [], ["above", "below", "one", "other"], false, [], [], b_lowest_in, false, [], []⟩
def c_lowest_in : List (Str × D) := []
def f_lowest_in : Fn := ⟨"lowest_in", ["above", "below"], [], run ⟨[], c_lowest_in, []⟩ 1000000 4 b_lowest_in⟩
@[simp] theorem p_lowest_in : f_lowest_in.ps.length = 2 := (rfl)
theorem k_lowest_in : ckD d_lowest_in (top 28) = true := by decide +kernel
def b_whole_rhythm_1 : Ss := (.cons (.ife (.cmp .eq (.bi .tuple (.cons (.bin .mul (.bin .add (.sl (.v 2) (.v 3) (.no)) (.sl (.v 2) (.no) (.v 3))) (.bin .fdiv (.bi .len (.cons (.v 0) .nil)) (.ix (.v 1) (.k (.int 1))))) .nil)) (.v 0)) (.cons (.ret (.tup (.cons (.v 1) (.cons (.v 3) .nil)))) .nil) .nil) .nil)
def b_whole_rhythm : Ss := (.cons (.ife (.cmp .eq (.bi .len (.cons (.v 0) .nil)) (.k (.int 0))) (.cons (.ret (.k .none)) .nil) .nil) (.cons (.asg (.n 1) (.call 0 (.cons (.bi .sum (.cons (.v 0) .nil)) (.cons (.bi .len (.cons (.v 0) .nil)) .nil)) .nil)) (.cons (.asg (.n 2) (.call 1 (.cons (.v 1) .nil) .nil)) (.cons (.for_ (.n 3) (.r1 (.ix (.v 1) (.k (.int 1)))) b_whole_rhythm_1) (.cons (.ret (.k .none)) .nil)))))
def d_whole_rhythm : Df := ⟨"whole_rhythm", ["rounds"], [], ["rounds", "mean", "beat", "phase"], false, [("lowest_in", ["above", "below"], []), ("beat_in", ["mean"], [])], [], b_whole_rhythm, false, [], []⟩
def c_whole_rhythm : List (Str × D) := []
def f_whole_rhythm : Fn := ⟨"whole_rhythm", ["rounds"], [], run ⟨[f_lowest_in, f_beat_in], c_whole_rhythm, []⟩ 1000000 4 b_whole_rhythm⟩
@[simp] theorem p_whole_rhythm : f_whole_rhythm.ps.length = 1 := (rfl)
theorem k_whole_rhythm : ckD d_whole_rhythm (top 27) = true := by decide +kernel
def b_told_rhythm : Ss := (.cons (.ret (.call 0 (.cons (.call 1 (.cons (.v 0) .nil) .nil) .nil) .nil)) .nil)
def d_told_rhythm : Df := ⟨"told_rhythm", ["rounds"], [], ["rounds"], false, [("whole_rhythm", ["rounds"], []), ("check_rounds", ["value"], [])], [], b_told_rhythm, false, [], []⟩
def c_told_rhythm : List (Str × D) := []
def f_told_rhythm : Fn := ⟨"told_rhythm", ["rounds"], [], run ⟨[f_whole_rhythm, f_check_rounds], c_told_rhythm, []⟩ 1000000 1 b_told_rhythm⟩
@[simp] theorem p_told_rhythm : f_told_rhythm.ps.length = 1 := (rfl)
theorem k_told_rhythm : ckD d_told_rhythm (top 37) = true := by decide +kernel
def e_u_law_rounds_right_1 : E := .callV 4 (.cons (.v 1) .nil)
def b_u_law_rounds_right_2 : Ss := (.cons (.app 3 (.heard 0 [1, 4] (e_u_law_rounds_right_1))) .nil)
def b_u_law_rounds_right : Ss := (.cons (.asg (.t (.cons (.n 1) (.cons (.n 2) .nil))) (.call 0 (.cons (.v 0) (.cons (.lst (.cons (.tup (.cons (.k .none) (.cons (.tup .nil) .nil))) (.cons (.tup (.cons (.lst (.cons (.k (.int 3)) (.cons (.k (.int 4)) .nil))) (.cons (.tup .nil) .nil))) (.cons (.tup (.cons (.k (.int 3)) (.cons (.tup .nil) .nil))) (.cons (.tup (.cons (.bin .mul (.tup (.cons (.k (.int 1)) .nil)) (.k (.int 301))) (.cons (.tup .nil) .nil))) (.cons (.tup (.cons (.tup (.cons (.k (.int 0)) .nil)) (.cons (.tup (.cons (.k (.int 0)) .nil)) .nil))) (.cons (.tup (.cons (.tup (.cons (.k (.int 3)) (.cons (.k .none) (.cons (.k (.str "4")) .nil)))) (.cons (.tup (.cons (.k (.int 1)) .nil)) .nil))) (.cons (.tup (.cons (.tup (.cons (.k (.int 3)) (.cons (.k (.int 4)) (.cons (.neg (.k (.int 1))) (.cons (.k (.bool true)) .nil))))) (.cons (.tup (.cons (.k (.int 2)) .nil)) .nil))) (.cons (.tup (.cons (.tup (.cons (.k (.bool true)) .nil)) (.cons (.tup (.cons (.k (.int 0)) .nil)) .nil))) (.cons (.tup (.cons (.tup (.cons (.k (.int 2)) (.cons (.k (.int 2)) (.cons (.bin .add (.bin .pow (.k (.int 10)) (.k (.int 30))) (.k (.int 1))) .nil)))) (.cons (.tup (.cons (.k (.int 2)) .nil)) .nil))) (.cons (.tup (.cons (.k (.str "34")) (.cons (.tup .nil) .nil))) (.cons (.tup (.cons (.tup (.cons (.tup (.cons (.k (.int 3)) .nil)) (.cons (.k (.int 4)) .nil))) (.cons (.tup (.cons (.k (.int 0)) .nil)) .nil))) (.cons (.tup (.cons (.bin .add (.bin .mul (.tup (.cons (.k (.int 1)) .nil)) (.k (.int 299))) (.tup (.cons (.k (.int 0)) .nil))) (.cons (.tup (.cons (.k (.int 299)) .nil)) .nil))) .nil))))))))))))) .nil)) .nil)) (.cons (.asgO 3 (.lst .nil)) (.cons (.for_ (.n 4) (.e (.tup (.cons (.fn 2) (.cons (.fn 3) (.cons (.fn 4) (.cons (.fn 5) .nil)))))) b_u_law_rounds_right_2) (.cons (.frz 3) (.cons (.ret (.call 1 (.cons (.v 3) (.cons (.bin .mul (.lst (.cons (.tup (.cons (.k (.str "rounds")) (.cons (.v 2) (.cons (.k (.bool true)) .nil)))) .nil)) (.k (.int 4))) .nil)) .nil)) .nil)))))
def d_u_law_rounds_right : Df := ⟨"_law_rounds_right", ["draws_so"], [], ["draws_so", "odd", "spot_so", "got", "call"], false, [("_law_of", ["draws_so", "some"], []), ("_law_like", ["got", "due"], []), ("need_rounds", ["rounds"], []), ("unbalance", ["rounds"], []), ("is_balanced", ["rounds"], []), ("told_rhythm", ["rounds"], [])], [], b_u_law_rounds_right, true, [], [h_u_law_heard]⟩
def c_u_law_rounds_right : List (Str × D) := []
def f_u_law_rounds_right : Fn := ⟨"_law_rounds_right", ["draws_so"], [], run ⟨[Ev.C.f_u_law_of, Ev.L.f_u_law_like, f_need_rounds, f_unbalance, f_is_balanced, f_told_rhythm], c_u_law_rounds_right, [h_u_law_heard]⟩ 1000000 5 b_u_law_rounds_right⟩
@[simp] theorem p_u_law_rounds_right : f_u_law_rounds_right.ps.length = 1 := (rfl)
theorem k_u_law_rounds_right : ckD d_u_law_rounds_right (top 50) = true := by decide +kernel
def b_law_1 : Ss := (.cons (.ife (.or (.not (.call 4 (.cons (.v 1) .nil) .nil)) (.cons (.not (.call 5 (.cons (.v 1) .nil) .nil)) (.cons (.not (.call 6 (.cons (.v 1) .nil) .nil)) .nil))) (.cons (.ret (.k (.bool false))) .nil) .nil) .nil)
def e_law_2 : E := .call 2 (.cons (.tup (.cons (.k (.bool true)) (.cons (.k (.int 1)) .nil))) .nil) .nil
def e_law_3 : E := .call 3 (.cons (.tup (.cons (.k (.bool true)) .nil)) .nil) .nil
def b_law : Ss := (.cons (.asg (.n 1) (.call 0 (.cons (.v 0) .nil) .nil)) (.cons (.for_ (.n 2) (.r1 (.k (.int 6))) b_law_1) (.cons (.asgO 3 (.lst (.cons (.call 2 (.cons (.tup (.cons (.k (.int 1)) (.cons (.k (.int 1)) .nil))) .nil) .nil) (.cons (.heard 0 [] (e_law_2)) (.cons (.call 3 (.cons (.tup (.cons (.k (.int 1)) .nil)) .nil) .nil) .nil))))) (.cons (.app 3 (.heard 0 [] (e_law_3))) (.cons (.frz 3) (.cons (.ret (.call 1 (.cons (.v 3) (.cons (.lst (.cons (.tup (.cons (.k (.int 1)) .nil)) (.cons (.tup (.cons (.k (.str "parameter")) (.cons (.tup (.cons (.k (.bool true)) (.cons (.k (.int 1)) .nil))) (.cons (.k (.bool true)) .nil)))) (.cons (.k (.bool true)) (.cons (.tup (.cons (.k (.str "rounds")) (.cons (.tup (.cons (.k (.int 0)) .nil)) (.cons (.k (.bool true)) .nil)))) .nil))))) .nil)) .nil)) .nil))))))
def d_law : Df := ⟨"law", ["script"], [], ["script", "draws_so", "turn", "got"], false, [("_law_begin", ["script"], []), ("_law_like", ["got", "due"], []), ("rhythm_of", ["mean"], []), ("is_balanced", ["rounds"], []), ("_law_means_right", ["draws_so"], []), ("_law_others_right", ["draws_so"], []), ("_law_rounds_right", ["draws_so"], [])], [], b_law, true, [], [h_u_law_heard]⟩
def c_law : List (Str × D) := []
def f_law : Fn := ⟨"law", ["script"], [], run ⟨[Ev.L.f_u_law_begin, Ev.L.f_u_law_like, f_rhythm_of, f_is_balanced, f_u_law_means_right, f_u_law_others_right, f_u_law_rounds_right], c_law, [h_u_law_heard]⟩ 1000000 4 b_law⟩
@[simp] theorem p_law : f_law.ps.length = 1 := (rfl)
theorem k_law : ckD d_law (top 51) = true := by decide +kernel
theorem bi_u_law_begin {K : PySem.W.Frag} {f : Addr} {fd : FuncData} (F : Fun K "_law_begin" "_law_begin" (top 43) f fd) : FnB K fd Ev.L.f_u_law_begin := fnB_of F (fun _ _ _ _ _ _ us hl => match us, hl with | [_], _ => rfl) (by
  intro n js h
  cases h)
theorem bi_u_law_like {K : PySem.W.Frag} {f : Addr} {fd : FuncData} (F : Fun K "_law_like" "_law_like" (top 46) f fd) : FnB K fd Ev.L.f_u_law_like := fnB_of F (fun _ _ _ _ _ _ us hl => match us, hl with | [_, _], _ => rfl) (by
  intro n js h
  cases h)
theorem bi_upper_in {K : PySem.W.Frag} {f : Addr} {fd : FuncData} (F : Fun K "upper_in" "upper_in" (top 19) f fd) : FnB K fd Ev.C.f_upper_in := fnB_of F (fun _ _ _ _ _ _ us hl => match us, hl with | [_, _], _ => rfl) (by
  intro n js h
  cases h)
theorem bi_thing_in {K : PySem.W.Frag} {f : Addr} {fd : FuncData} (F : Fun K "thing_in" "thing_in" (top 20) f fd) : FnB K fd Ev.C.f_thing_in := fnB_of F (fun _ _ _ _ _ _ us hl => match us, hl with | [_, _], _ => rfl) (by
  intro n js h
  cases h)
theorem bi_beat_in {K : PySem.W.Frag} {f : Addr} {fd : FuncData} (F : Fun K "beat_in" "beat_in" (top 22) f fd) : FnB K fd f_beat_in := fnB_of F (fun _ _ _ _ _ _ us hl => match us, hl with | [_], _ => rfl) (by
  intro n js h
  cases h)
theorem bi_is_from {K : PySem.W.Frag} {f : Addr} {fd : FuncData} (F : Fun K "is_from" "is_from" (top 7) f fd) : FnB K fd Ev.C.f_is_from := fnB_of F (fun _ _ _ _ _ _ us hl => match us, hl with | [_, _, _], _ => rfl) (by
  intro n js h
  cases h)
theorem bi_is_fraction {K : PySem.W.Frag} {f : Addr} {fd : FuncData} (F : Fun K "is_fraction" "is_fraction" (top 8) f fd) : FnB K fd Ev.C.f_is_fraction := fnB_of F (fun _ _ _ _ _ _ us hl => match us, hl with | [_], _ => rfl) (by
  intro n js h
  cases h)
theorem bi_is_mean_form {K : PySem.W.Frag} {f : Addr} {fd : FuncData} (F : Fun K "is_mean_form" "is_mean_form" (top 14) f fd) : FnB K fd Ev.C.f_is_mean_form := fnB_of F (fun _ _ _ _ _ _ us hl => match us, hl with | [_], _ => rfl) (by
  intro n js h
  cases h)
theorem bi_check_mean {K : PySem.W.Frag} {f : Addr} {fd : FuncData} (F : Fun K "check_mean" "check_mean" (top 15) f fd) : FnB K fd Ev.C.f_check_mean := fnB_of F (fun _ _ _ _ _ _ us hl => match us, hl with | [_], _ => rfl) (by
  intro n js h
  cases h)
theorem bi_rhythm_of {K : PySem.W.Frag} {f : Addr} {fd : FuncData} (F : Fun K "rhythm_of" "rhythm_of" (top 32) f fd) : FnB K fd f_rhythm_of := fnB_of F (fun _ _ _ _ _ _ us hl => match us, hl with | [_], _ => rfl) (by
  intro n js h
  cases h)
theorem bi_sums_up_to {K : PySem.W.Frag} {f : Addr} {fd : FuncData} (F : Fun K "sums_up_to" "sums_up_to" (top 24) f fd) : FnB K fd f_sums_up_to := fnB_of F (fun _ _ _ _ _ _ us hl => match us, hl with | [_], _ => rfl) (by
  intro n js h
  cases h)
theorem bi_apart_in {K : PySem.W.Frag} {f : Addr} {fd : FuncData} (F : Fun K "apart_in" "apart_in" (top 25) f fd) : FnB K fd f_apart_in := fnB_of F (fun _ _ _ _ _ _ us hl => match us, hl with | [_, _], _ => rfl) (by
  intro n js h
  cases h)
theorem bi_unbalance_in {K : PySem.W.Frag} {f : Addr} {fd : FuncData} (F : Fun K "unbalance_in" "unbalance_in" (top 26) f fd) : FnB K fd f_unbalance_in := fnB_of F (fun _ _ _ _ _ _ us hl => match us, hl with | [_], _ => rfl) (by
  intro n js h
  cases h)
theorem bi_check_rounds {K : PySem.W.Frag} {f : Addr} {fd : FuncData} (F : Fun K "check_rounds" "check_rounds" (top 18) f fd) : FnB K fd f_check_rounds := fnB_of F (fun _ _ _ _ _ _ us hl => match us, hl with | [_], _ => rfl) (by
  intro n js h
  cases h)
theorem bi_is_balanced {K : PySem.W.Frag} {f : Addr} {fd : FuncData} (F : Fun K "is_balanced" "is_balanced" (top 36) f fd) : FnB K fd f_is_balanced := fnB_of F (fun _ _ _ _ _ _ us hl => match us, hl with | [_], _ => rfl) (by
  intro n js h
  cases h)
theorem bi_u_law_mixed {K : PySem.W.Frag} {f : Addr} {fd : FuncData} (F : Fun K "_law_mixed" "_law_mixed" (top 42) f fd) : FnB K fd Ev.L.f_u_law_mixed := fnB_of F (fun _ _ _ _ _ _ us hl => match us, hl with | [_, _], _ => rfl) (by
  intro n js h
  cases h)
theorem bi_u_law_draw {K : PySem.W.Frag} {f : Addr} {fd : FuncData} (F : Fun K "_law_draw" "_law_draw" (top 44) f fd) : FnB K fd Ev.L.f_u_law_draw := fnB_of F (fun _ _ _ _ _ _ us hl => match us, hl with | [_, _], _ => rfl) (by
  intro n js h
  cases h)
theorem bi_u_law_of {K : PySem.W.Frag} {f : Addr} {fd : FuncData} (F : Fun K "_law_of" "_law_of" (top 45) f fd) : FnB K fd Ev.C.f_u_law_of := fnB_of F (fun _ _ _ _ _ _ us hl => match us, hl with | [_, _], _ => rfl) (by
  intro n js h
  cases h)
theorem bi_need_mean {K : PySem.W.Frag} {f : Addr} {fd : FuncData} (F : Fun K "need_mean" "need_mean" (top 30) f fd) : FnB K fd f_need_mean := fnB_of F (fun _ _ _ _ _ _ us hl => match us, hl with | [_], _ => rfl) (by
  intro n js h
  cases h)
theorem bi_order_in {K : PySem.W.Frag} {f : Addr} {fd : FuncData} (F : Fun K "order_in" "order_in" (top 23) f fd) : FnB K fd f_order_in := fnB_of F (fun _ _ _ _ _ _ us hl => match us, hl with | [_], _ => rfl) (by
  intro n js h
  cases h)
theorem bi_phases_in_order {K : PySem.W.Frag} {f : Addr} {fd : FuncData} (F : Fun K "phases_in_order" "phases_in_order" (top 34) f fd) : FnB K fd f_phases_in_order := fnB_of F (fun _ _ _ _ _ _ us hl => match us, hl with | [_], _ => rfl) (by
  intro n js h
  cases h)
theorem bi_backwards_phase {K : PySem.W.Frag} {f : Addr} {fd : FuncData} (F : Fun K "backwards_phase" "backwards_phase" (top 39) f fd) : FnB K fd f_backwards_phase := fnB_of F (fun _ _ _ _ _ _ us hl => match us, hl with | [_], _ => rfl) (by
  intro n js h
  cases h)
theorem bi_parents_in {K : PySem.W.Frag} {f : Addr} {fd : FuncData} (F : Fun K "parents_in" "parents_in" (top 29) f fd) : FnB K fd f_parents_in := fnB_of F (fun _ _ _ _ _ _ us hl => match us, hl with | [_], _ => rfl) (by
  intro n js h
  cases h)
theorem bi_parents_of {K : PySem.W.Frag} {f : Addr} {fd : FuncData} (F : Fun K "parents_of" "parents_of" (top 40) f fd) : FnB K fd f_parents_of := fnB_of F (fun _ _ _ _ _ _ us hl => match us, hl with | [_], _ => rfl) (by
  intro n js h
  cases h)
theorem bi_check_phase {K : PySem.W.Frag} {f : Addr} {fd : FuncData} (F : Fun K "check_phase" "check_phase" (top 16) f fd) : FnB K fd f_check_phase := fnB_of F (fun _ _ _ _ _ _ us hl => match us, hl with | [_, _], _ => rfl) (by
  intro n js h
  cases h)
theorem bi_sum_in {K : PySem.W.Frag} {f : Addr} {fd : FuncData} (F : Fun K "sum_in" "sum_in" (top 21) f fd) : FnB K fd f_sum_in := fnB_of F (fun _ _ _ _ _ _ us hl => match us, hl with | [_, _, _], _ => rfl) (by
  intro n js h
  cases h)
theorem bi_check_terms {K : PySem.W.Frag} {f : Addr} {fd : FuncData} (F : Fun K "check_terms" "check_terms" (top 17) f fd) : FnB K fd f_check_terms := fnB_of F (fun _ _ _ _ _ _ us hl => match us, hl with | [_], _ => rfl) (by
  intro n js h
  cases h)
theorem bi_sum_from {K : PySem.W.Frag} {f : Addr} {fd : FuncData} (F : Fun K "sum_from" "sum_from" (top 33) f fd) : FnB K fd f_sum_from := fnB_of F (fun _ _ _ _ _ _ us hl => match us, hl with | [_, _, _], _ => rfl) (by
  intro n js h
  cases h)
theorem bi_windows_of {K : PySem.W.Frag} {f : Addr} {fd : FuncData} (F : Fun K "windows_of" "windows_of" (top 38) f fd) : FnB K fd f_windows_of := fnB_of F (fun _ _ _ _ _ _ us hl => match us, hl with | [_, _], _ => rfl) (by
  intro n js h
  cases h
  case head =>
    intro kV doc pm an cdv ct us ws as l1 l2 e
    match us, ws, l1, l2, e with
    | [], [w0, w1], _, _, e =>
      have e2 : some [w1, w0] = some as := e
      cases e2
      rfl
  rename_i h
  cases h)
theorem bi_u_law_means_right {K : PySem.W.Frag} {f : Addr} {fd : FuncData} (F : Fun K "_law_means_right" "_law_means_right" (top 48) f fd) : FnB K fd f_u_law_means_right := fnB_of F (fun _ _ _ _ _ _ us hl => match us, hl with | [_], _ => rfl) (by
  intro n js h
  cases h)
theorem bi_u_law_others_right {K : PySem.W.Frag} {f : Addr} {fd : FuncData} (F : Fun K "_law_others_right" "_law_others_right" (top 49) f fd) : FnB K fd f_u_law_others_right := fnB_of F (fun _ _ _ _ _ _ us hl => match us, hl with | [_], _ => rfl) (by
  intro n js h
  cases h)
theorem bi_need_rounds {K : PySem.W.Frag} {f : Addr} {fd : FuncData} (F : Fun K "need_rounds" "need_rounds" (top 31) f fd) : FnB K fd f_need_rounds := fnB_of F (fun _ _ _ _ _ _ us hl => match us, hl with | [_], _ => rfl) (by
  intro n js h
  cases h)
theorem bi_unbalance {K : PySem.W.Frag} {f : Addr} {fd : FuncData} (F : Fun K "unbalance" "unbalance" (top 35) f fd) : FnB K fd f_unbalance := fnB_of F (fun _ _ _ _ _ _ us hl => match us, hl with | [_], _ => rfl) (by
  intro n js h
  cases h)
theorem bi_lowest_in {K : PySem.W.Frag} {f : Addr} {fd : FuncData} (F : Fun K "lowest_in" "lowest_in" (top 28) f fd) : FnB K fd f_lowest_in := fnB_of F (fun _ _ _ _ _ _ us hl => match us, hl with | [_, _], _ => rfl) (by
  intro n js h
  cases h)
theorem bi_whole_rhythm {K : PySem.W.Frag} {f : Addr} {fd : FuncData} (F : Fun K "whole_rhythm" "whole_rhythm" (top 27) f fd) : FnB K fd f_whole_rhythm := fnB_of F (fun _ _ _ _ _ _ us hl => match us, hl with | [_], _ => rfl) (by
  intro n js h
  cases h)
theorem bi_told_rhythm {K : PySem.W.Frag} {f : Addr} {fd : FuncData} (F : Fun K "told_rhythm" "told_rhythm" (top 37) f fd) : FnB K fd f_told_rhythm := fnB_of F (fun _ _ _ _ _ _ us hl => match us, hl with | [_], _ => rfl) (by
  intro n js h
  cases h)
theorem bi_u_law_rounds_right {K : PySem.W.Frag} {f : Addr} {fd : FuncData} (F : Fun K "_law_rounds_right" "_law_rounds_right" (top 50) f fd) : FnB K fd f_u_law_rounds_right := fnB_of F (fun _ _ _ _ _ _ us hl => match us, hl with | [_], _ => rfl) (by
  intro n js h
  cases h)
theorem bi_law {K : PySem.W.Frag} {f : Addr} {fd : FuncData} (F : Fun K "law" "law" (top 51) f fd) : FnB K fd f_law := fnB_of F (fun _ _ _ _ _ _ us hl => match us, hl with | [_], _ => rfl) (by
  intro n js h
  cases h)
end Ev.K40

end
section
set_option maxHeartbeats 8000000
/-! # EvQ: bodies taken in parts; parts that the kernel runs -/
namespace Ev
open PySem
theorem wp_of {B : Nat} {ds : Option DS} {Q : D → Option DS → Prop} (xs : List D) (x0 : 0 < xs.length) (x1 : xs.length ≤ 1000) (h : DrB (B + 1) ds) (kk : ∀ (v : Nat) (hv : v < xs.length) ds', DrB B ds' → Q xs[v] ds') : wpR (C.f_u_law_of.m [.dict [], .list xs] ds) Q := by
  have pl : L.f_u_law_draw.ps.length = 2 := rfl
  have pb : C.f_u_law_of.ps.length = 2 := rfl
  simp [C.f_u_law_of, C.b_u_law_of, run, pl]
  rw [wp_bnd]
  refine L.drawN (b := B) h (by omega) (by omega) ?_
  intro v d1 hv h1
  have a := atI_lit (xs := xs) (n := v)
  rw [List.getElem?_eq_getElem (by omega)] at a
  simp [a]
  exact kk v (by omega) d1 h1
abbrev shs : List Rat := [0, 1, 1 / 2, 1 / 7, 5 / 6]
theorem wp_turnsQ {b : D → Env → M Fl} {Q : Fl → Option DS → Prop} (inv : Env → Prop) (c : Nat) (xs : List D) (B : Nat) (env : Env) (ds : Option DS) (h0 : inv env) (hd : DrB (B + c * xs.length) ds)
    (step : ∀ x ∈ xs, ∀ B env ds, inv env → DrB (B + c) ds → wpR (b x env ds) fun fl ds' => ∃ e, fl = .nx e ∧ inv e ∧ DrB B ds')
    (fin : ∀ env ds, inv env → DrB B ds → Q (.nx env) ds) : wpR (forL b xs env ds) Q := by
  induction xs generalizing env ds with
  | nil => exact fin env ds h0 (by simpa using hd)
  | cons x xs ih =>
    unfold forL
    rw [wp_bnd]
    refine wpR_mono (step x List.mem_cons_self (B + c * xs.length) env ds h0 (by rw [List.length_cons, Nat.mul_add] at hd; exact hd.mono (by omega))) fun fl ds' w => ?_
    obtain ⟨e, rfl, he, hd'⟩ := w
    exact ih e ds' he hd' (fun y hy => step y (List.mem_cons_of_mem _ hy))
def takeS : Nat → Ss → Ss
  | 0, _ => .nil
  | _ + 1, .nil => .nil
  | n + 1, .cons s ss => .cons s (takeS n ss)
def dropS : Nat → Ss → Ss
  | 0, ss => ss
  | _ + 1, .nil => .nil
  | n + 1, .cons _ ss => dropS n ss
def nxt : R Fl → Env
  | .ok (.nx e) _ => e
  | _ => []
theorem evSs_split {T : Tb} {F : Nat} : ∀ (n : Nat) (ss : Ss) (env : Env), evSs T F ss env = bnd (evSs T F (takeS n ss) env) fun fl => match fl with
    | .nx e => evSs T F (dropS n ss) e
    | .bk e => ret (.bk e)
    | .rt d => ret (.rt d)
  | 0, ss, env => by
    show _ = bnd (evSs T F .nil env) _
    rw [ev_sn, bnd_ret]
    rfl
  | n + 1, .nil, env => by
    show _ = bnd (evSs T F .nil env) _
    rw [ev_sn, bnd_ret]
    show _ = evSs T F .nil env
    rw [ev_sn]
  | n + 1, .cons s ss, env => by
    show _ = bnd (evSs T F (.cons s (takeS n ss)) env) _
    rw [ev_sc, ev_sc, bnd_assoc]
    congr 1
    funext fl
    cases fl with
    | nx e => exact evSs_split n ss e
    | bk e => rw [bnd_ret]
    | rt d => rw [bnd_ret]
section
variable {T : Tb} {F : Nat} {ss : Ss} {env : Env} {ds : Option DS} {Q : Fl → Option DS → Prop}
theorem wp_run {n : Nat} {b : Ss} {args : List D} {Q : D → Option DS → Prop} (h : wpR (evSs T F b (args.map some ++ List.replicate (n - args.length) none) ds) fun fl ds' => wpR (endD fl ds') Q) : wpR (run T F n b args ds) Q := by
  unfold run
  rw [wp_bnd]
  exact h
/-- a part that always comes out the same -/
theorem wp_seg (n : Nat) {env' : Env} (h : ∀ s, evSs T F (takeS n ss) env s = .ok (.nx env') s) (k : wpR (evSs T F (dropS n ss) env' ds) Q) : wpR (evSs T F ss env ds) Q := by
  rw [evSs_split n, wp_bnd, h]
  exact k
theorem wp_fin {d : D} (h : ∀ s, evSs T F ss env s = .ok (.rt d) s) (q : Q (.rt d) ds) : wpR (evSs T F ss env ds) Q := by
  rw [h]
  exact q
/-- one statement -/
theorem wp_one {st : S} {r : Ss} (e : ss = .cons st r) (h : wpR (evS T F st env ds) fun fl ds' => ∃ env', fl = .nx env' ∧ wpR (evSs T F r env' ds') Q) : wpR (evSs T F ss env ds) Q := by
  subst e
  rw [ev_sc, wp_bnd]
  refine wpR_mono h fun fl ds' w => ?_
  obtain ⟨env', rfl, w⟩ := w
  exact w
/-- one of a list is drawn -/
theorem wp_drw {B : Nat} {tg : Tg} {j i : Nat} {e : E} {r : Ss} {xs : List D} (hs : ss = .cons (.asg tg (.call j (.cons (.v i) (.cons e .nil)) .nil)) r) (ht : T.fs[j]? = some C.f_u_law_of) (hd : getv env i = some (.dict [])) (he : ∀ s, evE T e env s = .ok (.list xs) s)
    (x0 : (decide (0 < xs.length) && decide (xs.length ≤ 1000)) = true) (ha : (xs.all fun x => (asgT tg x env).isSome) = true) (h : DrB (B + 1) ds) (k : ∀ x ∈ xs, ∀ ds', DrB B ds' → wpR (evSs T F r ((asgT tg x env).getD []) ds') Q) : wpR (evSs T F ss env ds) Q := by
  refine wp_one hs ?_
  simp only [Bool.and_eq_true, decide_eq_true_eq] at x0
  have he' : evE T e env = ret (.list xs) := funext fun s => he s
  rw [ev_asg, ev_call, ev_ec, ev_ec, ev_en, ev_kn, ev_v, hd, he']
  simp [ht]
  rw [wp_bnd]
  refine wp_of xs x0.1 x0.2 h fun v hv ds' h' => ?_
  have m := List.getElem_mem hv
  have a := List.all_eq_true.mp ha _ m
  obtain ⟨env', q⟩ := Option.isSome_iff_exists.mp a
  rw [q]
  refine ⟨env', rfl, ?_⟩
  have z := k _ m ds' h'
  rw [q] at z
  exact z
/-- a loop of turns that leaves its range's numbers in a slot -/
theorem wp_for {B : Nat} {tg : Tg} {it : It} {b r : Ss} {xs : List D} (inv : Env → Prop) (c : Nat) (hs : ss = .cons (.for_ tg it b) r) (hi : ∀ s, evIt T it env s = .ok xs s) (h0 : inv env) (hd : DrB (B + c * xs.length) ds)
    (step : ∀ x ∈ xs, ∀ B env ds, inv env → DrB (B + c) ds → wpR (bnd (lft (asgT tg x env)) (fun env' => evSs T F b env') ds) fun fl ds' => ∃ e, fl = .nx e ∧ inv e ∧ DrB B ds')
    (k : ∀ env ds, inv env → DrB B ds → wpR (evSs T F r env ds) Q) : wpR (evSs T F ss env ds) Q := by
  refine wp_one hs ?_
  have hi' : evIt T it env = ret xs := funext fun s => hi s
  rw [ev_for, hi', bnd_ret]
  exact wp_turnsQ inv c xs B env ds h0 hd step fun env ds i d => ⟨env, rfl, k env ds i d⟩
/-- the draws begin -/
theorem wp_beg {B j i : Nat} {r : Ss} {ns : List Int} (hs : ss = .cons (.asg (.n i) (.call j (.cons (.v 0) .nil) .nil)) r) (ht : T.fs[j]? = some L.f_u_law_begin) (hv : getv env 0 = some (scrD ns)) (hn : ns.length ≤ 63) (hb : B ≤ 10 ^ 15) (k : ∀ ds', DrB B ds' → wpR (evSs T F r (env.set i (some (.dict []))) ds') Q) : wpR (evSs T F ss env none) Q := by
  refine wp_one hs ?_
  rw [ev_asg, ev_call, ev_ec, ev_en, ev_kn, ev_v, hv]
  have lp : L.f_u_law_begin.ps.length = 1 := rfl
  simp [ht, lp]
  rw [wp_bnd]
  exact L.begin hn hb fun ds' h => ⟨_, rfl, k ds' h⟩
end
mutual
/-- data that are the same -/
def deqD : D → D → Bool
  | .none, .none => true
  | .bool a, .bool b => decide (a = b)
  | .int a, .int b => decide (a = b)
  | .str a, .str b => decide (a.cps.toList = b.cps.toList)
  | .list a, .list b => deqDs a b
  | .tuple a, .tuple b => deqDs a b
  | _, _ => false
def deqDs : List D → List D → Bool
  | [], [] => true
  | a :: x, b :: y => deqD a b && deqDs x y
  | _, _ => false
end
mutual
theorem deqD_eq : ∀ {a b : D}, deqD a b = true → a = b
  | .none, b, h => by cases b <;> simp_all [deqD]
  | .bool a, b, h => by cases b <;> simp_all [deqD]
  | .int a, b, h => by cases b <;> simp_all [deqD]
  | .str a, b, h => by
    cases b <;> simp [deqD] at h
    rename_i b
    obtain ⟨a⟩ := a
    obtain ⟨b⟩ := b
    have h' : a.toList = b.toList := congrArg Array.toList h
    rw [show a = b from Array.toList_inj.mp h']
  | .list a, b, h => by
    cases b <;> simp [deqD] at h
    rw [deqDs_eq h]
  | .tuple a, b, h => by
    cases b <;> simp [deqD] at h
    rw [deqDs_eq h]
  | .dict a, b, h => by cases b <;> simp [deqD] at h
theorem deqDs_eq : ∀ {a b : List D}, deqDs a b = true → a = b
  | [], b, h => by cases b <;> simp_all [deqDs]
  | a :: x, b, h => by
    cases b <;> simp [deqDs] at h
    rw [deqD_eq h.1, deqDs_eq h.2]
end
/-- _law_like that sees at a glance what is the same -/
def likeF : Fn := ⟨"_law_like", ["got", "due"], [], fun as => match as with
  | [a, b] => if deqD a b && (okd a && (decide (a.depth ≤ 64) && decide (a.bulk ≤ 27000))) then ret (.bool true) else L.f_u_law_like.m [a, b]
  | as => L.f_u_law_like.m as⟩
theorem likeF_eq : L.f_u_law_like = likeF := by
  have e : L.f_u_law_like.m = likeF.m := by
    funext as
    unfold likeF
    match as with
    | [a, b] =>
      show _ = if _ then _ else _
      by_cases h : (deqD a b && (okd a && (decide (a.depth ≤ 64) && decide (a.bulk ≤ 27000)))) = true
      · rw [if_pos h]
        simp only [Bool.and_eq_true, decide_eq_true_eq] at h
        obtain ⟨h1, h2, h3, h4⟩ := h
        rw [← deqD_eq h1]
        exact L.like ⟨h2, h3, h4⟩
      · rw [if_neg h]
    | [] => rfl
    | [a] => rfl
    | a :: b :: c :: r => rfl
  show (⟨_, _, _, L.f_u_law_like.m⟩ : Fn) = _
  rw [e]
  rfl
def isPair : D → Bool
  | .tuple [_, _] => true
  | _ => false
theorem pairForm {l : List D} {x : D} (h : l.all isPair = true) (hx : x ∈ l) : ∃ b p, x = .tuple [b, p] := by
  have z := List.all_eq_true.mp h x hx
  unfold isPair at z
  split at z
  · exact ⟨_, _, rfl⟩
  · cases z
section
variable {T : Tb} {F : Nat} {ss : Ss} {env : Env}
theorem eq_seg (n : Nat) {env' : Env} (h : ∀ s, evSs T F (takeS n ss) env s = .ok (.nx env') s) : evSs T F ss env = evSs T F (dropS n ss) env' := by
  rw [evSs_split n, show evSs T F (takeS n ss) env = ret (.nx env') from funext h, bnd_ret]
theorem eq_for {tg : Tg} {it : It} {b r : Ss} {xs : List D} {env' : Env} (hs : ss = .cons (.for_ tg it b) r) (hi : ∀ s, evIt T it env s = .ok xs s) (hf : forL (fun x env => bnd (lft (asgT tg x env)) fun env' => evSs T F b env') xs env = ret (.nx env')) : evSs T F ss env = evSs T F r env' := by
  subst hs
  rw [ev_sc, ev_for, show evIt T it env = ret xs from funext hi, bnd_ret, hf, bnd_ret]
theorem eq_whl {c : E} {b r : Ss} {env' : Env} (hs : ss = .cons (.whl c b) r) (hf : whlL (evT T c) (fun env => evSs T F b env) F env = ret (.nx env')) : evSs T F ss env = evSs T F r env' := by
  subst hs
  rw [ev_sc, ev_whl, hf, bnd_ret]
theorem eq_run {n : Nat} {b : Ss} {args : List D} {d : D} (h : evSs T F b (args.map some ++ List.replicate (n - args.length) none) = ret (.rt d)) : run T F n b args = ret d := by
  unfold run
  rw [h, bnd_ret]
  rfl
/-- a loop's turns, none of them broken off -/
def itL (b : D → Env → M Fl) : List D → Env → M Fl
  | [], env => ret (.nx env)
  | x :: xs, env => bnd (b x env) fun f => match f with
    | .nx e => itL b xs e
    | _ => stk
theorem forL_app {b : D → Env → M Fl} {ys : List D} : ∀ {xs : List D} {env e1 : Env} {s s1 : Option DS}, itL b xs env s = .ok (.nx e1) s1 → forL b (xs ++ ys) env s = forL b ys e1 s1
  | [], env, e1, s, s1, h => by
    cases h
    rfl
  | x :: xs, env, e1, s, s1, h => by
    show bnd (b x env) (fun f => match f with
      | .nx e => forL b (xs ++ ys) e
      | .bk e => ret (.nx e)
      | .rt d => ret (.rt d)) s = _
    unfold itL at h
    unfold bnd at h ⊢
    cases q : b x env s with
    | ok fl s' =>
      rw [q] at h
      cases fl with
      | nx e2 =>
        show forL b (xs ++ ys) e2 s' = _
        exact forL_app h
      | bk e2 => cases h
      | rt d => cases h
    | exc _ _ => rw [q] at h; cases h
    | stuck => rw [q] at h; cases h
end
/-- a def that knows one answer by heart -/
def memoF (f : Fn) (as : List D) (v : D) : Fn := ⟨f.name, f.ps, f.kws, fun xs => if deqDs xs as then ret v else f.m xs⟩
theorem memo_eq {f : Fn} {as : List D} {v : D} (h : f.m as = ret v) : f = memoF f as v := by
  have e : f.m = (memoF f as v).m := by
    funext xs
    show _ = if _ then _ else _
    by_cases c : deqDs xs as = true
    · rw [if_pos c, deqDs_eq c, h]
    · rw [if_neg c]
  show (⟨f.name, f.ps, f.kws, f.m⟩ : Fn) = _
  rw [e]
  rfl
end Ev

end
section
set_option maxHeartbeats 8000000
namespace Ev.K40
open PySem Ev

abbrev T_u_law_means_right : Tb := ⟨[Ev.C.f_u_law_of, likeF, f_sum_from, f_windows_of, f_need_mean, f_rhythm_of, f_phases_in_order, f_backwards_phase, f_parents_of], c_u_law_means_right, [h_u_law_heard]⟩
def E_u_law_means_right_0 : Env := [some (.dict []), none, none, none]
def l_u_law_means_right_0 : List D := [.none, .int 3, .tuple [.int 3], .tuple [.int 3, .int 1, .int 1], .list [.int 3, .int 1], .tuple [.int 6, .int 4], .tuple [.int 1, .int 2], .tuple [.int 301, .int 302], .tuple [.int 302, .int 301], .tuple [.int 0, .int 1], .tuple [.int (-3), .int 1], .tuple [.int 3, .int (-1)], .tuple [.int 3, .int 0], .tuple [.bool true, .int 1], .tuple [.int 3, .bool true], .tuple [.str "3", .int 1], .tuple [.int 2000000000000000000000000000000, .int 1], .tuple [.int 10000000000000000000000000000000, .int 3], .tuple []]
def E_u_law_means_right_1 (odd : D) : Env := [some (.dict []), some (odd), none, none]
def E_u_law_means_right_2 (odd : D) : Env := [some (.dict []), some (odd), some (.list []), none]
theorem s_u_law_means_right_2 : ∀ odd : D, odd ∈ l_u_law_means_right_0 → ∀ s : Option DS, evSs T_u_law_means_right 1000000 (dropS 2 b_u_law_means_right) (E_u_law_means_right_2 odd) s = .ok (.rt (.bool true)) s := by
  intro odd m_odd  s
  simp only [l_u_law_means_right_0, List.mem_cons, List.not_mem_nil, or_false] at m_odd
  rcases m_odd with rfl | rfl | rfl | rfl | rfl | rfl | rfl | rfl | rfl | rfl | rfl | rfl | rfl | rfl | rfl | rfl | rfl | rfl | rfl <;> kernel_rfl
theorem w_u_law_means_right {B : Nat} {ds : Option DS} {Q : D → Option DS → Prop} (h0 : DrB (B + 1) ds) (k : ∀ ds', DrB B ds' → Q (.bool true) ds') : wpR (f_u_law_means_right.m [.dict []] ds) Q := by
  unfold f_u_law_means_right
  rw [likeF_eq]
  refine wp_run (show wpR (evSs T_u_law_means_right 1000000 b_u_law_means_right E_u_law_means_right_0 ds) _ from ?_)
  refine wp_drw (xs := l_u_law_means_right_0) rfl rfl (by kernel_rfl) (fun s => by kernel_rfl) (by kernel_rfl) (by kernel_rfl) h0 fun odd m_odd d1 h1 => ?_
  refine wp_seg 1 (env' := (E_u_law_means_right_2 odd)) (fun s => by kernel_rfl) ?_
  refine wp_fin (d := .bool true) (fun s => s_u_law_means_right_2 odd m_odd  s) ?_
  exact k _ h1
abbrev T_u_law_others_right : Tb := ⟨[Ev.C.f_u_law_of, likeF, f_sum_from, f_windows_of], c_u_law_others_right, [h_u_law_heard]⟩
def E_u_law_others_right_0 : Env := [some (.dict []), none, none, none, none, none, none]
def l_u_law_others_right_0 : List D := [.none, .int (-1), .int 3, .bool true, .str "1", .tuple [.int 1]]
def E_u_law_others_right_1 (first : D) : Env := [some (.dict []), some (first), none, none, none, none, none]
def l_u_law_others_right_1 : List D := [.none, .int (-1), .int 1000000000000000000000000000001, .bool true, .str "5", .tuple [.int 0]]
def E_u_law_others_right_2 (first often : D) : Env := [some (.dict []), some (first), some (often), none, none, none, none]
def l_u_law_others_right_2 : List D := [.none, .int (-1), .int 61, .bool false, .str "2", .list [.int 2]]
def E_u_law_others_right_3 (first often size : D) : Env := [some (.dict []), some (first), some (often), some (size), none, none, none]
def E_u_law_others_right_4 (first often size : D) : Env := [some (.dict []), some (first), some (often), some (size), some (.list [.tuple [.str "parameter", first, .bool true], .tuple [.str "parameter", often, .bool true]]), none, none]
theorem s_u_law_others_right_3 : ∀ first : D, first ∈ l_u_law_others_right_0 → ∀ often : D, often ∈ l_u_law_others_right_1 → ∀ size : D, ∀ s : Option DS, evSs T_u_law_others_right 1000000 (takeS 1 (dropS 3 b_u_law_others_right)) (E_u_law_others_right_3 first often size) s = .ok (.nx (E_u_law_others_right_4 first often size)) s := by
  intro first m_first often m_often size s
  simp only [l_u_law_others_right_0, List.mem_cons, List.not_mem_nil, or_false] at m_first
  simp only [l_u_law_others_right_1, List.mem_cons, List.not_mem_nil, or_false] at m_often
  rcases m_first with rfl | rfl | rfl | rfl | rfl | rfl <;> rcases m_often with rfl | rfl | rfl | rfl | rfl | rfl <;> kernel_rfl
def E_u_law_others_right_5 (first often size : D) : Env := [some (.dict []), some (first), some (often), some (size), some (.list [.tuple [.str "parameter", first, .bool true], .tuple [.str "parameter", often, .bool true], .tuple [.str "parameter", size, .bool true]]), none, none]
theorem s_u_law_others_right_4 : ∀ size : D, size ∈ l_u_law_others_right_2 → ∀ first often : D, ∀ s : Option DS, evSs T_u_law_others_right 1000000 (takeS 1 (dropS 4 b_u_law_others_right)) (E_u_law_others_right_4 first often size) s = .ok (.nx (E_u_law_others_right_5 first often size)) s := by
  intro size m_size first often s
  simp only [l_u_law_others_right_2, List.mem_cons, List.not_mem_nil, or_false] at m_size
  rcases m_size with rfl | rfl | rfl | rfl | rfl | rfl <;> kernel_rfl
def E_u_law_others_right_6 (first often size : D) : Env := [some (.dict []), some (first), some (often), some (size), some (.list [.tuple [.str "parameter", first, .bool true], .tuple [.str "parameter", often, .bool true], .tuple [.str "parameter", size, .bool true]]), some (.list [.tuple [.str "parameter", first, .bool true], .tuple [.str "parameter", often, .bool true], .tuple [.str "parameter", size, .bool true]]), none]
theorem s_u_law_others_right_6 : ∀ first : D, first ∈ l_u_law_others_right_0 → ∀ often : D, often ∈ l_u_law_others_right_1 → ∀ size : D, size ∈ l_u_law_others_right_2 → ∀ s : Option DS, evSs T_u_law_others_right 1000000 (dropS 6 b_u_law_others_right) (E_u_law_others_right_6 first often size) s = .ok (.rt (.bool true)) s := by
  intro first m_first often m_often size m_size  s
  simp only [l_u_law_others_right_0, List.mem_cons, List.not_mem_nil, or_false] at m_first
  simp only [l_u_law_others_right_1, List.mem_cons, List.not_mem_nil, or_false] at m_often
  simp only [l_u_law_others_right_2, List.mem_cons, List.not_mem_nil, or_false] at m_size
  rcases m_first with rfl | rfl | rfl | rfl | rfl | rfl <;> rcases m_often with rfl | rfl | rfl | rfl | rfl | rfl <;> rcases m_size with rfl | rfl | rfl | rfl | rfl | rfl <;> kernel_rfl
theorem w_u_law_others_right {B : Nat} {ds : Option DS} {Q : D → Option DS → Prop} (h0 : DrB (B + 3) ds) (k : ∀ ds', DrB B ds' → Q (.bool true) ds') : wpR (f_u_law_others_right.m [.dict []] ds) Q := by
  unfold f_u_law_others_right
  rw [likeF_eq]
  refine wp_run (show wpR (evSs T_u_law_others_right 1000000 b_u_law_others_right E_u_law_others_right_0 ds) _ from ?_)
  refine wp_drw (xs := l_u_law_others_right_0) rfl rfl (by kernel_rfl) (fun s => by kernel_rfl) (by kernel_rfl) (by kernel_rfl) h0 fun first m_first d1 h1 => ?_
  refine wp_drw (xs := l_u_law_others_right_1) rfl rfl (by kernel_rfl) (fun s => by kernel_rfl) (by kernel_rfl) (by kernel_rfl) h1 fun often m_often d2 h2 => ?_
  refine wp_drw (xs := l_u_law_others_right_2) rfl rfl (by kernel_rfl) (fun s => by kernel_rfl) (by kernel_rfl) (by kernel_rfl) h2 fun size m_size d3 h3 => ?_
  refine wp_seg 1 (env' := (E_u_law_others_right_4 first often size)) (fun s => s_u_law_others_right_3 first m_first often m_often size s) ?_
  refine wp_seg 1 (env' := (E_u_law_others_right_5 first often size)) (fun s => s_u_law_others_right_4 size m_size first often s) ?_
  refine wp_seg 1 (env' := (E_u_law_others_right_6 first often size)) (fun s => by kernel_rfl) ?_
  refine wp_fin (d := .bool true) (fun s => s_u_law_others_right_6 first m_first often m_often size m_size  s) ?_
  exact k _ h3
abbrev T_u_law_rounds_right : Tb := ⟨[Ev.C.f_u_law_of, likeF, f_need_rounds, f_unbalance, f_is_balanced, f_told_rhythm], c_u_law_rounds_right, [h_u_law_heard]⟩
def E_u_law_rounds_right_0 : Env := [some (.dict []), none, none, none, none]
def l_u_law_rounds_right_0 : List D := [.tuple [.none, .tuple []], .tuple [.list [.int 3, .int 4], .tuple []], .tuple [.int 3, .tuple []], .tuple [.tuple [.int 1, .int 1, .int 1, .int 1, .int 1, .int 1, .int 1, .int 1, .int 1, .int 1, .int 1, .int 1, .int 1, .int 1, .int 1, .int 1, .int 1, .int 1, .int 1, .int 1, .int 1, .int 1, .int 1, .int 1, .int 1, .int 1, .int 1, .int 1, .int 1, .int 1, .int 1, .int 1, .int 1, .int 1, .int 1, .int 1, .int 1, .int 1, .int 1, .int 1, .int 1, .int 1, .int 1, .int 1, .int 1, .int 1, .int 1, .int 1, .int 1, .int 1, .int 1, .int 1, .int 1, .int 1, .int 1, .int 1, .int 1, .int 1, .int 1, .int 1, .int 1, .int 1, .int 1, .int 1, .int 1, .int 1, .int 1, .int 1, .int 1, .int 1, .int 1, .int 1, .int 1, .int 1, .int 1, .int 1, .int 1, .int 1, .int 1, .int 1, .int 1, .int 1, .int 1, .int 1, .int 1, .int 1, .int 1, .int 1, .int 1, .int 1, .int 1, .int 1, .int 1, .int 1, .int 1, .int 1, .int 1, .int 1, .int 1, .int 1, .int 1, .int 1, .int 1, .int 1, .int 1, .int 1, .int 1, .int 1, .int 1, .int 1, .int 1, .int 1, .int 1, .int 1, .int 1, .int 1, .int 1, .int 1, .int 1, .int 1, .int 1, .int 1, .int 1, .int 1, .int 1, .int 1, .int 1, .int 1, .int 1, .int 1, .int 1, .int 1, .int 1, .int 1, .int 1, .int 1, .int 1, .int 1, .int 1, .int 1, .int 1, .int 1, .int 1, .int 1, .int 1, .int 1, .int 1, .int 1, .int 1, .int 1, .int 1, .int 1, .int 1, .int 1, .int 1, .int 1, .int 1, .int 1, .int 1, .int 1, .int 1, .int 1, .int 1, .int 1, .int 1, .int 1, .int 1, .int 1, .int 1, .int 1, .int 1, .int 1, .int 1, .int 1, .int 1, .int 1, .int 1, .int 1, .int 1, .int 1, .int 1, .int 1, .int 1, .int 1, .int 1, .int 1, .int 1, .int 1, .int 1, .int 1, .int 1, .int 1, .int 1, .int 1, .int 1, .int 1, .int 1, .int 1, .int 1, .int 1, .int 1, .int 1, .int 1, .int 1, .int 1, .int 1, .int 1, .int 1, .int 1, .int 1, .int 1, .int 1, .int 1, .int 1, .int 1, .int 1, .int 1, .int 1, .int 1, .int 1, .int 1, .int 1, .int 1, .int 1, .int 1, .int 1, .int 1, .int 1, .int 1, .int 1, .int 1, .int 1, .int 1, .int 1, .int 1, .int 1, .int 1, .int 1, .int 1, .int 1, .int 1, .int 1, .int 1, .int 1, .int 1, .int 1, .int 1, .int 1, .int 1, .int 1, .int 1, .int 1, .int 1, .int 1, .int 1, .int 1, .int 1, .int 1, .int 1, .int 1, .int 1, .int 1, .int 1, .int 1, .int 1, .int 1, .int 1, .int 1, .int 1, .int 1, .int 1, .int 1, .int 1, .int 1, .int 1, .int 1, .int 1, .int 1, .int 1, .int 1, .int 1, .int 1, .int 1, .int 1, .int 1, .int 1, .int 1, .int 1, .int 1, .int 1, .int 1, .int 1, .int 1, .int 1, .int 1, .int 1, .int 1, .int 1, .int 1, .int 1, .int 1], .tuple []], .tuple [.tuple [.int 0], .tuple [.int 0]], .tuple [.tuple [.int 3, .none, .str "4"], .tuple [.int 1]], .tuple [.tuple [.int 3, .int 4, .int (-1), .bool true], .tuple [.int 2]], .tuple [.tuple [.bool true], .tuple [.int 0]], .tuple [.tuple [.int 2, .int 2, .int 1000000000000000000000000000001], .tuple [.int 2]], .tuple [.str "34", .tuple []], .tuple [.tuple [.tuple [.int 3], .int 4], .tuple [.int 0]], .tuple [.tuple [.int 1, .int 1, .int 1, .int 1, .int 1, .int 1, .int 1, .int 1, .int 1, .int 1, .int 1, .int 1, .int 1, .int 1, .int 1, .int 1, .int 1, .int 1, .int 1, .int 1, .int 1, .int 1, .int 1, .int 1, .int 1, .int 1, .int 1, .int 1, .int 1, .int 1, .int 1, .int 1, .int 1, .int 1, .int 1, .int 1, .int 1, .int 1, .int 1, .int 1, .int 1, .int 1, .int 1, .int 1, .int 1, .int 1, .int 1, .int 1, .int 1, .int 1, .int 1, .int 1, .int 1, .int 1, .int 1, .int 1, .int 1, .int 1, .int 1, .int 1, .int 1, .int 1, .int 1, .int 1, .int 1, .int 1, .int 1, .int 1, .int 1, .int 1, .int 1, .int 1, .int 1, .int 1, .int 1, .int 1, .int 1, .int 1, .int 1, .int 1, .int 1, .int 1, .int 1, .int 1, .int 1, .int 1, .int 1, .int 1, .int 1, .int 1, .int 1, .int 1, .int 1, .int 1, .int 1, .int 1, .int 1, .int 1, .int 1, .int 1, .int 1, .int 1, .int 1, .int 1, .int 1, .int 1, .int 1, .int 1, .int 1, .int 1, .int 1, .int 1, .int 1, .int 1, .int 1, .int 1, .int 1, .int 1, .int 1, .int 1, .int 1, .int 1, .int 1, .int 1, .int 1, .int 1, .int 1, .int 1, .int 1, .int 1, .int 1, .int 1, .int 1, .int 1, .int 1, .int 1, .int 1, .int 1, .int 1, .int 1, .int 1, .int 1, .int 1, .int 1, .int 1, .int 1, .int 1, .int 1, .int 1, .int 1, .int 1, .int 1, .int 1, .int 1, .int 1, .int 1, .int 1, .int 1, .int 1, .int 1, .int 1, .int 1, .int 1, .int 1, .int 1, .int 1, .int 1, .int 1, .int 1, .int 1, .int 1, .int 1, .int 1, .int 1, .int 1, .int 1, .int 1, .int 1, .int 1, .int 1, .int 1, .int 1, .int 1, .int 1, .int 1, .int 1, .int 1, .int 1, .int 1, .int 1, .int 1, .int 1, .int 1, .int 1, .int 1, .int 1, .int 1, .int 1, .int 1, .int 1, .int 1, .int 1, .int 1, .int 1, .int 1, .int 1, .int 1, .int 1, .int 1, .int 1, .int 1, .int 1, .int 1, .int 1, .int 1, .int 1, .int 1, .int 1, .int 1, .int 1, .int 1, .int 1, .int 1, .int 1, .int 1, .int 1, .int 1, .int 1, .int 1, .int 1, .int 1, .int 1, .int 1, .int 1, .int 1, .int 1, .int 1, .int 1, .int 1, .int 1, .int 1, .int 1, .int 1, .int 1, .int 1, .int 1, .int 1, .int 1, .int 1, .int 1, .int 1, .int 1, .int 1, .int 1, .int 1, .int 1, .int 1, .int 1, .int 1, .int 1, .int 1, .int 1, .int 1, .int 1, .int 1, .int 1, .int 1, .int 1, .int 1, .int 1, .int 1, .int 1, .int 1, .int 1, .int 1, .int 1, .int 1, .int 1, .int 1, .int 1, .int 1, .int 1, .int 1, .int 1, .int 1, .int 1, .int 1, .int 1, .int 1, .int 1, .int 1, .int 1, .int 1, .int 1, .int 1, .int 1, .int 1, .int 1, .int 1, .int 0], .tuple [.int 299]]]
def E_u_law_rounds_right_1 (odd spot : D) : Env := [some (.dict []), some (odd), some (spot), none, none]
def E_u_law_rounds_right_2 (odd spot : D) : Env := [some (.dict []), some (odd), some (spot), some (.list []), none]
theorem s_u_law_rounds_right_2 : ∀ odd spot : D, (.tuple [odd, spot]) ∈ l_u_law_rounds_right_0 → ∀ s : Option DS, evSs T_u_law_rounds_right 1000000 (dropS 2 b_u_law_rounds_right) (E_u_law_rounds_right_2 odd spot) s = .ok (.rt (.bool true)) s := by
  intro odd spot m_odd  s
  simp only [l_u_law_rounds_right_0, List.mem_cons, List.not_mem_nil, or_false, PyData.tuple.injEq, List.cons.injEq, and_true] at m_odd
  rcases m_odd with ⟨rfl, rfl⟩ | ⟨rfl, rfl⟩ | ⟨rfl, rfl⟩ | ⟨rfl, rfl⟩ | ⟨rfl, rfl⟩ | ⟨rfl, rfl⟩ | ⟨rfl, rfl⟩ | ⟨rfl, rfl⟩ | ⟨rfl, rfl⟩ | ⟨rfl, rfl⟩ | ⟨rfl, rfl⟩ | ⟨rfl, rfl⟩ <;> kernel_rfl
theorem w_u_law_rounds_right {B : Nat} {ds : Option DS} {Q : D → Option DS → Prop} (h0 : DrB (B + 1) ds) (k : ∀ ds', DrB B ds' → Q (.bool true) ds') : wpR (f_u_law_rounds_right.m [.dict []] ds) Q := by
  unfold f_u_law_rounds_right
  rw [likeF_eq]
  refine wp_run (show wpR (evSs T_u_law_rounds_right 1000000 b_u_law_rounds_right E_u_law_rounds_right_0 ds) _ from ?_)
  refine wp_drw (xs := l_u_law_rounds_right_0) rfl rfl (by kernel_rfl) (fun s => by kernel_rfl) (by kernel_rfl) (by kernel_rfl) h0 fun x m_odd d1 h1 => ?_
  obtain ⟨odd, spot, rfl⟩ := pairForm (l := l_u_law_rounds_right_0) (by kernel_rfl) m_odd
  refine wp_seg 1 (env' := (E_u_law_rounds_right_2 odd spot)) (fun s => by kernel_rfl) ?_
  refine wp_fin (d := .bool true) (fun s => s_u_law_rounds_right_2 odd spot m_odd  s) ?_
  exact k _ h1

abbrev TL : Tb := ⟨[Ev.L.f_u_law_begin, likeF, f_rhythm_of, f_is_balanced, f_u_law_means_right, f_u_law_others_right, f_u_law_rounds_right], c_law, [h_u_law_heard]⟩
theorem law_true : ∀ ns : List Int, ns.length ≤ 63 → Ev.wpR (f_law.m [scrD ns] none) fun d _ => d = .bool true := by
  intro ns hn
  unfold f_law
  rw [likeF_eq]
  refine wp_run (show wpR (evSs TL 1000000 b_law [some (scrD ns), none, none, none] none) _ from ?_)
  refine wp_beg (B := 30) rfl rfl rfl hn (by decide) fun d0 h0 => ?_
  refine wp_for (B := 0) (inv := fun e => ∃ t, e = [some (scrD ns), some (.dict []), t, none]) 5 rfl (xs := rngD 0 6) (fun s => by kernel_rfl) ⟨none, rfl⟩ h0 ?_ ?_
  · intro x _ B e ds he hd
    obtain ⟨t, rfl⟩ := he
    simp [b_law_1]
    rw [wp_bnd]
    refine w_u_law_means_right (B := B + 4) hd fun ds1 h1 => ?_
    simp
    rw [wp_bnd]
    refine w_u_law_others_right (B := B + 1) h1 fun ds2 h2 => ?_
    simp
    rw [wp_bnd]
    refine w_u_law_rounds_right (B := B) h2 fun ds3 h3 => ?_
    simp
    exact ⟨_, rfl, ⟨_, rfl⟩, h3⟩
  · intro e ds he hd
    obtain ⟨t, rfl⟩ := he
    exact wp_fin (d := .bool true) (fun s => by kernel_rfl) rfl
end Ev.K40

end
open PySem PySem.W PyProof.Rows in
set_option maxHeartbeats 0 in
theorem PySem.Challenge.cw_sawrounds_k40_rhythms_refused_in_order_holds : PySem.Challenge.rw_sawrounds_k40_rhythms_refused_in_order.Holds := by
  w_on; o_law; k_head; (case hw => w_witness2)
  k_fill
  refine Ev.walk_law (l := PySem.Challenge.rw_sawrounds_k40_rhythms_refused_in_order) (n := 63) (k := 19) (x := "script") (fn := Ev.K40.f_law) rfl (by decide) rfl ⟨rfl, by decide, by decide⟩ (fun w h Y => by first | exact PySem.W.kIn_of Y | exact PySem.W.km_in_of Y) ?F rfl Ev.K40.law_true
  case F =>
    intro w mg fa h KX G hmg
    obtain ⟨f0, fd0, g0, F0⟩ : ∃ f fd, mg "_law_begin" = some (.ref f) ∧ L2.Fun _ "_law_begin" "_law_begin" (Ev.K40.top 43) f fd := by
      refine' Ev.fq_mk KX G ?a ?l ?c ?k
      (case a => k_is); (case l => k_is); (case c => k_is); (case k => k_is)
    obtain ⟨f1, fd1, g1, F1⟩ : ∃ f fd, mg "_law_like" = some (.ref f) ∧ L2.Fun _ "_law_like" "_law_like" (Ev.K40.top 46) f fd := by
      refine' Ev.fq_mk KX G ?a ?l ?c ?k
      (case a => k_is); (case l => k_is); (case c => k_is); (case k => k_is)
    obtain ⟨f2, fd2, g2, F2⟩ : ∃ f fd, mg "upper_in" = some (.ref f) ∧ L2.Fun _ "upper_in" "upper_in" (Ev.K40.top 19) f fd := by
      refine' Ev.fq_mk KX G ?a ?l ?c ?k
      (case a => k_is); (case l => k_is); (case c => k_is); (case k => k_is)
    obtain ⟨f3, fd3, g3, F3⟩ : ∃ f fd, mg "thing_in" = some (.ref f) ∧ L2.Fun _ "thing_in" "thing_in" (Ev.K40.top 20) f fd := by
      refine' Ev.fq_mk KX G ?a ?l ?c ?k
      (case a => k_is); (case l => k_is); (case c => k_is); (case k => k_is)
    obtain ⟨f4, fd4, g4, F4⟩ : ∃ f fd, mg "beat_in" = some (.ref f) ∧ L2.Fun _ "beat_in" "beat_in" (Ev.K40.top 22) f fd := by
      refine' Ev.fq_mk KX G ?a ?l ?c ?k
      (case a => k_is); (case l => k_is); (case c => k_is); (case k => k_is)
    obtain ⟨f5, fd5, g5, F5⟩ : ∃ f fd, mg "is_from" = some (.ref f) ∧ L2.Fun _ "is_from" "is_from" (Ev.K40.top 7) f fd := by
      refine' Ev.fq_mk KX G ?a ?l ?c ?k
      (case a => k_is); (case l => k_is); (case c => k_is); (case k => k_is)
    obtain ⟨f6, fd6, g6, F6⟩ : ∃ f fd, mg "is_fraction" = some (.ref f) ∧ L2.Fun _ "is_fraction" "is_fraction" (Ev.K40.top 8) f fd := by
      refine' Ev.fq_mk KX G ?a ?l ?c ?k
      (case a => k_is); (case l => k_is); (case c => k_is); (case k => k_is)
    obtain ⟨f7, fd7, g7, F7⟩ : ∃ f fd, mg "is_mean_form" = some (.ref f) ∧ L2.Fun _ "is_mean_form" "is_mean_form" (Ev.K40.top 14) f fd := by
      refine' Ev.fq_mk KX G ?a ?l ?c ?k
      (case a => k_is); (case l => k_is); (case c => k_is); (case k => k_is)
    obtain ⟨f8, fd8, g8, F8⟩ : ∃ f fd, mg "check_mean" = some (.ref f) ∧ L2.Fun _ "check_mean" "check_mean" (Ev.K40.top 15) f fd := by
      refine' Ev.fq_mk KX G ?a ?l ?c ?k
      (case a => k_is); (case l => k_is); (case c => k_is); (case k => k_is)
    obtain ⟨f9, fd9, g9, F9⟩ : ∃ f fd, mg "rhythm_of" = some (.ref f) ∧ L2.Fun _ "rhythm_of" "rhythm_of" (Ev.K40.top 32) f fd := by
      refine' Ev.fq_mk KX G ?a ?l ?c ?k
      (case a => k_is); (case l => k_is); (case c => k_is); (case k => k_is)
    obtain ⟨f10, fd10, g10, F10, e10⟩ : ∃ f fd, mg "_law_heard" = some (.ref f) ∧ L2.Fun _ "_law_heard" "_law_heard" (Ev.K40.top 47) f fd ∧ PySem.W.keepIn _ (.ref f) = true := by
      refine' Ev.fq_hear KX G ?a ?l ?c ?k
      (case a => k_is); (case l => k_is); (case c => k_is); (case k => k_is)
    obtain ⟨f11, fd11, g11, F11⟩ : ∃ f fd, mg "sums_up_to" = some (.ref f) ∧ L2.Fun _ "sums_up_to" "sums_up_to" (Ev.K40.top 24) f fd := by
      refine' Ev.fq_mk KX G ?a ?l ?c ?k
      (case a => k_is); (case l => k_is); (case c => k_is); (case k => k_is)
    obtain ⟨f12, fd12, g12, F12⟩ : ∃ f fd, mg "apart_in" = some (.ref f) ∧ L2.Fun _ "apart_in" "apart_in" (Ev.K40.top 25) f fd := by
      refine' Ev.fq_mk KX G ?a ?l ?c ?k
      (case a => k_is); (case l => k_is); (case c => k_is); (case k => k_is)
    obtain ⟨f13, fd13, g13, F13⟩ : ∃ f fd, mg "unbalance_in" = some (.ref f) ∧ L2.Fun _ "unbalance_in" "unbalance_in" (Ev.K40.top 26) f fd := by
      refine' Ev.fq_mk KX G ?a ?l ?c ?k
      (case a => k_is); (case l => k_is); (case c => k_is); (case k => k_is)
    obtain ⟨f14, fd14, g14, F14⟩ : ∃ f fd, mg "check_rounds" = some (.ref f) ∧ L2.Fun _ "check_rounds" "check_rounds" (Ev.K40.top 18) f fd := by
      refine' Ev.fq_mk KX G ?a ?l ?c ?k
      (case a => k_is); (case l => k_is); (case c => k_is); (case k => k_is)
    obtain ⟨f15, fd15, g15, F15⟩ : ∃ f fd, mg "is_balanced" = some (.ref f) ∧ L2.Fun _ "is_balanced" "is_balanced" (Ev.K40.top 36) f fd := by
      refine' Ev.fq_mk KX G ?a ?l ?c ?k
      (case a => k_is); (case l => k_is); (case c => k_is); (case k => k_is)
    obtain ⟨f16, fd16, g16, F16⟩ : ∃ f fd, mg "_law_mixed" = some (.ref f) ∧ L2.Fun _ "_law_mixed" "_law_mixed" (Ev.K40.top 42) f fd := by
      refine' Ev.fq_mk KX G ?a ?l ?c ?k
      (case a => k_is); (case l => k_is); (case c => k_is); (case k => k_is)
    obtain ⟨f17, fd17, g17, F17⟩ : ∃ f fd, mg "_law_draw" = some (.ref f) ∧ L2.Fun _ "_law_draw" "_law_draw" (Ev.K40.top 44) f fd := by
      refine' Ev.fq_mk KX G ?a ?l ?c ?k
      (case a => k_is); (case l => k_is); (case c => k_is); (case k => k_is)
    obtain ⟨f18, fd18, g18, F18⟩ : ∃ f fd, mg "_law_of" = some (.ref f) ∧ L2.Fun _ "_law_of" "_law_of" (Ev.K40.top 45) f fd := by
      refine' Ev.fq_mk KX G ?a ?l ?c ?k
      (case a => k_is); (case l => k_is); (case c => k_is); (case k => k_is)
    obtain ⟨f19, fd19, g19, F19⟩ : ∃ f fd, mg "need_mean" = some (.ref f) ∧ L2.Fun _ "need_mean" "need_mean" (Ev.K40.top 30) f fd := by
      refine' Ev.fq_mk KX G ?a ?l ?c ?k
      (case a => k_is); (case l => k_is); (case c => k_is); (case k => k_is)
    obtain ⟨f20, fd20, c20, p20, g20, F20, e20, t20⟩ : ∃ f fd cc P, mg "order_in" = some (.ref f) ∧ L2.Fun _ "order_in" "order_in" (Ev.K40.top 23) f fd ∧ fd.code = .ref cc ∧ PySem.W.tabIn _ "order_in" = some (cc, P) := by
      refine' Ev.fq_lam KX G ?a ?l ?c ?k ?l2 ?v
      (case a => k_is); (case l => k_is); (case c => k_is); (case k => k_is); (case l2 => k_is); (case v => rfl)
    obtain ⟨f21, fd21, g21, F21⟩ : ∃ f fd, mg "phases_in_order" = some (.ref f) ∧ L2.Fun _ "phases_in_order" "phases_in_order" (Ev.K40.top 34) f fd := by
      refine' Ev.fq_mk KX G ?a ?l ?c ?k
      (case a => k_is); (case l => k_is); (case c => k_is); (case k => k_is)
    obtain ⟨f22, fd22, g22, F22⟩ : ∃ f fd, mg "backwards_phase" = some (.ref f) ∧ L2.Fun _ "backwards_phase" "backwards_phase" (Ev.K40.top 39) f fd := by
      refine' Ev.fq_mk KX G ?a ?l ?c ?k
      (case a => k_is); (case l => k_is); (case c => k_is); (case k => k_is)
    obtain ⟨f23, fd23, g23, F23⟩ : ∃ f fd, mg "parents_in" = some (.ref f) ∧ L2.Fun _ "parents_in" "parents_in" (Ev.K40.top 29) f fd := by
      refine' Ev.fq_mk KX G ?a ?l ?c ?k
      (case a => k_is); (case l => k_is); (case c => k_is); (case k => k_is)
    obtain ⟨f24, fd24, g24, F24⟩ : ∃ f fd, mg "parents_of" = some (.ref f) ∧ L2.Fun _ "parents_of" "parents_of" (Ev.K40.top 40) f fd := by
      refine' Ev.fq_mk KX G ?a ?l ?c ?k
      (case a => k_is); (case l => k_is); (case c => k_is); (case k => k_is)
    obtain ⟨f25, fd25, g25, F25⟩ : ∃ f fd, mg "check_phase" = some (.ref f) ∧ L2.Fun _ "check_phase" "check_phase" (Ev.K40.top 16) f fd := by
      refine' Ev.fq_mk KX G ?a ?l ?c ?k
      (case a => k_is); (case l => k_is); (case c => k_is); (case k => k_is)
    obtain ⟨f26, fd26, g26, F26⟩ : ∃ f fd, mg "sum_in" = some (.ref f) ∧ L2.Fun _ "sum_in" "sum_in" (Ev.K40.top 21) f fd := by
      refine' Ev.fq_mk KX G ?a ?l ?c ?k
      (case a => k_is); (case l => k_is); (case c => k_is); (case k => k_is)
    obtain ⟨f27, fd27, g27, F27⟩ : ∃ f fd, mg "check_terms" = some (.ref f) ∧ L2.Fun _ "check_terms" "check_terms" (Ev.K40.top 17) f fd := by
      refine' Ev.fq_mk KX G ?a ?l ?c ?k
      (case a => k_is); (case l => k_is); (case c => k_is); (case k => k_is)
    obtain ⟨f28, fd28, g28, F28⟩ : ∃ f fd, mg "sum_from" = some (.ref f) ∧ L2.Fun _ "sum_from" "sum_from" (Ev.K40.top 33) f fd := by
      refine' Ev.fq_mk KX G ?a ?l ?c ?k
      (case a => k_is); (case l => k_is); (case c => k_is); (case k => k_is)
    obtain ⟨f29, fd29, g29, F29⟩ : ∃ f fd, mg "windows_of" = some (.ref f) ∧ L2.Fun _ "windows_of" "windows_of" (Ev.K40.top 38) f fd := by
      refine' Ev.fq_mk KX G ?a ?l ?c ?k
      (case a => k_is); (case l => k_is); (case c => k_is); (case k => k_is)
    obtain ⟨f30, fd30, c30, p30, g30, F30, e30, t30⟩ : ∃ f fd cc P, mg "_law_means_right" = some (.ref f) ∧ L2.Fun _ "_law_means_right" "_law_means_right" (Ev.K40.top 48) f fd ∧ fd.code = .ref cc ∧ PySem.W.tabIn _ "_law_means_right" = some (cc, P) := by
      refine' Ev.fq_lam KX G ?a ?l ?c ?k ?l2 ?v
      (case a => k_is); (case l => k_is); (case c => k_is); (case k => k_is); (case l2 => k_is); (case v => rfl)
    obtain ⟨f31, fd31, c31, p31, g31, F31, e31, t31⟩ : ∃ f fd cc P, mg "_law_others_right" = some (.ref f) ∧ L2.Fun _ "_law_others_right" "_law_others_right" (Ev.K40.top 49) f fd ∧ fd.code = .ref cc ∧ PySem.W.tabIn _ "_law_others_right" = some (cc, P) := by
      refine' Ev.fq_lam KX G ?a ?l ?c ?k ?l2 ?v
      (case a => k_is); (case l => k_is); (case c => k_is); (case k => k_is); (case l2 => k_is); (case v => rfl)
    obtain ⟨f32, fd32, g32, F32⟩ : ∃ f fd, mg "need_rounds" = some (.ref f) ∧ L2.Fun _ "need_rounds" "need_rounds" (Ev.K40.top 31) f fd := by
      refine' Ev.fq_mk KX G ?a ?l ?c ?k
      (case a => k_is); (case l => k_is); (case c => k_is); (case k => k_is)
    obtain ⟨f33, fd33, g33, F33⟩ : ∃ f fd, mg "unbalance" = some (.ref f) ∧ L2.Fun _ "unbalance" "unbalance" (Ev.K40.top 35) f fd := by
      refine' Ev.fq_mk KX G ?a ?l ?c ?k
      (case a => k_is); (case l => k_is); (case c => k_is); (case k => k_is)
    obtain ⟨f34, fd34, g34, F34⟩ : ∃ f fd, mg "lowest_in" = some (.ref f) ∧ L2.Fun _ "lowest_in" "lowest_in" (Ev.K40.top 28) f fd := by
      refine' Ev.fq_mk KX G ?a ?l ?c ?k
      (case a => k_is); (case l => k_is); (case c => k_is); (case k => k_is)
    obtain ⟨f35, fd35, g35, F35⟩ : ∃ f fd, mg "whole_rhythm" = some (.ref f) ∧ L2.Fun _ "whole_rhythm" "whole_rhythm" (Ev.K40.top 27) f fd := by
      refine' Ev.fq_mk KX G ?a ?l ?c ?k
      (case a => k_is); (case l => k_is); (case c => k_is); (case k => k_is)
    obtain ⟨f36, fd36, g36, F36⟩ : ∃ f fd, mg "told_rhythm" = some (.ref f) ∧ L2.Fun _ "told_rhythm" "told_rhythm" (Ev.K40.top 37) f fd := by
      refine' Ev.fq_mk KX G ?a ?l ?c ?k
      (case a => k_is); (case l => k_is); (case c => k_is); (case k => k_is)
    obtain ⟨f37, fd37, c37, p37, g37, F37, e37, t37⟩ : ∃ f fd cc P, mg "_law_rounds_right" = some (.ref f) ∧ L2.Fun _ "_law_rounds_right" "_law_rounds_right" (Ev.K40.top 50) f fd ∧ fd.code = .ref cc ∧ PySem.W.tabIn _ "_law_rounds_right" = some (cc, P) := by
      refine' Ev.fq_lam KX G ?a ?l ?c ?k ?l2 ?v
      (case a => k_is); (case l => k_is); (case c => k_is); (case k => k_is); (case l2 => k_is); (case v => rfl)
    obtain ⟨f38, fd38, c38, p38, g38, F38, e38, t38⟩ : ∃ f fd cc P, mg "law" = some (.ref f) ∧ L2.Fun _ "law" "law" (Ev.K40.top 51) f fd ∧ fd.code = .ref cc ∧ PySem.W.tabIn _ "law" = some (cc, P) := by
      refine' Ev.fq_lam KX G ?a ?l ?c ?k ?l2 ?v
      (case a => k_is); (case l => k_is); (case c => k_is); (case k => k_is); (case l2 => k_is); (case v => rfl)
    have z_MOST : ∃ t, mg "MOST" = some (.int 1000000000000000000000000000000 t) := by
      obtain ⟨u, e1, t, e2⟩ : ∃ u, mg "MOST" = some u ∧ ∃ t, u = .int 1000000000000000000000000000000 t := by
        refine' ⟨_, PySem.W.mg_of KX G ?a, ?b⟩
        (case a => k_is); (case b => exact ⟨_, rfl⟩)
      exact ⟨t, e2 ▸ e1⟩
    have z_MOST_BELOW : ∃ t, mg "MOST_BELOW" = some (.int 300 t) := by
      obtain ⟨u, e1, t, e2⟩ : ∃ u, mg "MOST_BELOW" = some u ∧ ∃ t, u = .int 300 t := by
        refine' ⟨_, PySem.W.mg_of KX G ?a, ?b⟩
        (case a => k_is); (case b => exact ⟨_, rfl⟩)
      exact ⟨t, e2 ▸ e1⟩
    have z_MOST_ROUNDS : ∃ t, mg "MOST_ROUNDS" = some (.int 300 t) := by
      obtain ⟨u, e1, t, e2⟩ : ∃ u, mg "MOST_ROUNDS" = some u ∧ ∃ t, u = .int 300 t := by
        refine' ⟨_, PySem.W.mg_of KX G ?a, ?b⟩
        (case a => k_is); (case b => exact ⟨_, rfl⟩)
      exact ⟨t, e2 ▸ e1⟩
    have z_MOST_NUMBER : ∃ t, mg "MOST_NUMBER" = some (.int 1000000000000000000000000000000 t) := by
      obtain ⟨u, e1, t, e2⟩ : ∃ u, mg "MOST_NUMBER" = some u ∧ ∃ t, u = .int 1000000000000000000000000000000 t := by
        refine' ⟨_, PySem.W.mg_of KX G ?a, ?b⟩
        (case a => k_is); (case b => exact ⟨_, rfl⟩)
      exact ⟨t, e2 ▸ e1⟩
    have z_MOST_LENGTH : ∃ t, mg "MOST_LENGTH" = some (.int 60 t) := by
      obtain ⟨u, e1, t, e2⟩ : ∃ u, mg "MOST_LENGTH" = some u ∧ ∃ t, u = .int 60 t := by
        refine' ⟨_, PySem.W.mg_of KX G ?a, ?b⟩
        (case a => k_is); (case b => exact ⟨_, rfl⟩)
      exact ⟨t, e2 ▸ e1⟩
    have zg : mg "gcd" = some (.builtin "math.gcd") := by
      refine' PySem.W.mg_of KX G ?a
      case a => k_is
    have BL := Ev.bl_of KX G ((Ev.nCons (by k_is) (Ev.nCons (by k_is) (Ev.nCons (by k_is) (Ev.nCons (by k_is) (Ev.nCons (by k_is) (Ev.nCons (by k_is) (Ev.nCons (by k_is) (Ev.nCons (by k_is) (Ev.nCons (by k_is) (Ev.nCons (by k_is) (Ev.nCons (by k_is) (Ev.nCons (by k_is) (Ev.nCons (by k_is) (Ev.nCons (by k_is) (Ev.nCons (by k_is) (Ev.nCons (by k_is) (Ev.nCons (by k_is) (Ev.nCons (by k_is) Ev.nNil)))))))))))))))))))
    obtain xb_BadParameter : ∃ C, Ev.XcB _ "BadParameter" C := by
      refine' Ev.xcb_mk KX ?a ?d ?c1 ?ga ?gt ?be ?ca ?gs ?tk ?ob ?hd ?ty
      (case a => k_is); (case d => rfl); (case c1 => k_is); (case ga => k_is); (case gt => k_is); (case be => k_is); (case ca => k_is); (case gs => k_is); (case tk => k_is); (case ob => k_is); (case hd => k_is); (case ty => k_is)
    obtain xi_BadParameter : ∃ C, Ev.XcI PySem.Challenge.pw_sawrounds_k40_rhythms_refused_in_order _ mg "BadParameter" "value" C := by
      refine' Ev.xci_mk KX G ?a ?l ?no ?sa ?be ?ty ?kp ?ve ?self ?opq ?i1 ?i2 ?lk ?hcd ?lcd ?lcc ?ms ?refs ?sup ?har ?har2 ?hvs ?hfile ?n1 ?n2 ?n3 ?n4 ?n5 ?n6 ?n7 ?n8 ?n9 ?top ?pd ?ps ?hb
      (case a => k_is); (case l => k_is); (case no => k_is); (case sa => k_is); (case be => k_is); (case ty => k_is); (case kp => k_is); (case ve => k_is); (case self => k_is); (case opq => k_is); (case i1 => k_is); (case i2 => k_is); (case lk => k_is); (case hcd => k_is); (case lcd => k_is); (case lcc => k_is); (case ms => k_is); (case refs => rfl); (case sup => kernel_rfl); (case har => rfl); (case har2 => rfl); (case hvs => rfl); (case hfile => rfl); (case n1 => rfl); (case n2 => rfl); (case n3 => rfl); (case n4 => rfl); (case n5 => rfl); (case n6 => rfl); (case n7 => rfl); (case n8 => rfl); (case n9 => rfl); (case top => rfl); (case pd => rfl); (case ps => rfl); (case hb => intro u v; rfl)
    obtain xb_BadRounds : ∃ C, Ev.XcB _ "BadRounds" C := by
      refine' Ev.xcb_mk KX ?a ?d ?c1 ?ga ?gt ?be ?ca ?gs ?tk ?ob ?hd ?ty
      (case a => k_is); (case d => rfl); (case c1 => k_is); (case ga => k_is); (case gt => k_is); (case be => k_is); (case ca => k_is); (case gs => k_is); (case tk => k_is); (case ob => k_is); (case hd => k_is); (case ty => k_is)
    obtain xi_BadRounds : ∃ C, Ev.XcI PySem.Challenge.pw_sawrounds_k40_rhythms_refused_in_order _ mg "BadRounds" "place" C := by
      refine' Ev.xci_mk KX G ?a ?l ?no ?sa ?be ?ty ?kp ?ve ?self ?opq ?i1 ?i2 ?lk ?hcd ?lcd ?lcc ?ms ?refs ?sup ?har ?har2 ?hvs ?hfile ?n1 ?n2 ?n3 ?n4 ?n5 ?n6 ?n7 ?n8 ?n9 ?top ?pd ?ps ?hb
      (case a => k_is); (case l => k_is); (case no => k_is); (case sa => k_is); (case be => k_is); (case ty => k_is); (case kp => k_is); (case ve => k_is); (case self => k_is); (case opq => k_is); (case i1 => k_is); (case i2 => k_is); (case lk => k_is); (case hcd => k_is); (case lcd => k_is); (case lcc => k_is); (case ms => k_is); (case refs => rfl); (case sup => kernel_rfl); (case har => rfl); (case har2 => rfl); (case hvs => rfl); (case hfile => rfl); (case n1 => rfl); (case n2 => rfl); (case n3 => rfl); (case n4 => rfl); (case n5 => rfl); (case n6 => rfl); (case n7 => rfl); (case n8 => rfl); (case n9 => rfl); (case top => rfl); (case pd => rfl); (case ps => rfl); (case hb => intro u v; rfl)
    obtain xb_SawError : ∃ C, Ev.XcB _ "SawError" C := by
      refine' Ev.xcb_mk KX ?a ?d ?c1 ?ga ?gt ?be ?ca ?gs ?tk ?ob ?hd ?ty
      (case a => k_is); (case d => rfl); (case c1 => k_is); (case ga => k_is); (case gt => k_is); (case be => k_is); (case ca => k_is); (case gs => k_is); (case tk => k_is); (case ob => k_is); (case hd => k_is); (case ty => k_is)
    obtain xp_BadParameter_BadParameter : Ev.XcP _ "BadParameter" "BadParameter" true := by
      refine' Ev.xcp_mk KX ?a ?b ?s ?k
      (case a => k_is); (case b => k_is); (case s => k_is); (case k => kit_is)
    obtain xp_BadParameter_BadRounds : Ev.XcP _ "BadParameter" "BadRounds" false := by
      refine' Ev.xcp_mk KX ?a ?b ?s ?k
      (case a => k_is); (case b => k_is); (case s => k_is); (case k => kit_is)
    obtain xp_BadParameter_SawError : Ev.XcP _ "BadParameter" "SawError" true := by
      refine' Ev.xcp_mk KX ?a ?b ?s ?k
      (case a => k_is); (case b => k_is); (case s => k_is); (case k => kit_is)
    obtain xp_BadRounds_BadParameter : Ev.XcP _ "BadRounds" "BadParameter" false := by
      refine' Ev.xcp_mk KX ?a ?b ?s ?k
      (case a => k_is); (case b => k_is); (case s => k_is); (case k => kit_is)
    obtain xp_BadRounds_BadRounds : Ev.XcP _ "BadRounds" "BadRounds" true := by
      refine' Ev.xcp_mk KX ?a ?b ?s ?k
      (case a => k_is); (case b => k_is); (case s => k_is); (case k => kit_is)
    obtain xp_BadRounds_SawError : Ev.XcP _ "BadRounds" "SawError" true := by
      refine' Ev.xcp_mk KX ?a ?b ?s ?k
      (case a => k_is); (case b => k_is); (case s => k_is); (case k => kit_is)
    obtain xp_SawError_BadParameter : Ev.XcP _ "SawError" "BadParameter" false := by
      refine' Ev.xcp_mk KX ?a ?b ?s ?k
      (case a => k_is); (case b => k_is); (case s => k_is); (case k => kit_is)
    obtain xp_SawError_BadRounds : Ev.XcP _ "SawError" "BadRounds" false := by
      refine' Ev.xcp_mk KX ?a ?b ?s ?k
      (case a => k_is); (case b => k_is); (case s => k_is); (case k => kit_is)
    obtain xp_SawError_SawError : Ev.XcP _ "SawError" "SawError" true := by
      refine' Ev.xcp_mk KX ?a ?b ?s ?k
      (case a => k_is); (case b => k_is); (case s => k_is); (case k => kit_is)
    cases hmg.symm.trans g38
    have n20_30 : p20 ≠ p30 := Ev.tabs_ne t20 t30 (by kernel_rfl)
    have n20_31 : p20 ≠ p31 := Ev.tabs_ne t20 t31 (by kernel_rfl)
    have n20_37 : p20 ≠ p37 := Ev.tabs_ne t20 t37 (by kernel_rfl)
    have n20_38 : p20 ≠ p38 := Ev.tabs_ne t20 t38 (by kernel_rfl)
    have n30_31 : p30 ≠ p31 := Ev.tabs_ne t30 t31 (by kernel_rfl)
    have n30_37 : p30 ≠ p37 := Ev.tabs_ne t30 t37 (by kernel_rfl)
    have n30_38 : p30 ≠ p38 := Ev.tabs_ne t30 t38 (by kernel_rfl)
    have n31_37 : p31 ≠ p37 := Ev.tabs_ne t31 t37 (by kernel_rfl)
    have n31_38 : p31 ≠ p38 := Ev.tabs_ne t31 t38 (by kernel_rfl)
    have n37_38 : p37 ≠ p38 := Ev.tabs_ne t37 t38 (by kernel_rfl)
    refine ⟨fd38, [(c20, p20, "order_in" ++ ".<locals>." ++ "<lambda>"), (c30, p30, "_law_means_right" ++ ".<locals>." ++ "<lambda>"), (c31, p31, "_law_others_right" ++ ".<locals>." ++ "<lambda>"), (c37, p37, "_law_rounds_right" ++ ".<locals>." ++ "<lambda>"), (c38, p38, "law" ++ ".<locals>." ++ "<lambda>")], Ev.K40.xl, fun s u => (Ev.K40.bi_law F38).pos s [u] rfl, fun _ _ _ T => Ev.tabs_cons (x := "order_in") T KX (by rfl) t20 (by rfl) (Ev.tabs_cons (x := "_law_means_right") T KX (by rfl) t30 (by rfl) (Ev.tabs_cons (x := "_law_others_right") T KX (by rfl) t31 (by rfl) (Ev.tabs_cons (x := "_law_rounds_right") T KX (by rfl) t37 (by rfl) (Ev.tabs_cons (x := "law") T KX (by rfl) t38 (by rfl) (Ev.tabs_nil T))))), fun base _ _ TB => ?_⟩
    letI : Ev.TabsC := ⟨Ev.tabsOf [(c20, p20, "order_in" ++ ".<locals>." ++ "<lambda>"), (c30, p30, "_law_means_right" ++ ".<locals>." ++ "<lambda>"), (c31, p31, "_law_others_right" ++ ".<locals>." ++ "<lambda>"), (c37, p37, "_law_rounds_right" ++ ".<locals>." ++ "<lambda>"), (c38, p38, "law" ++ ".<locals>." ++ "<lambda>")], Ev.faOf mg, Ev.K40.xl⟩
    have xc_BadParameter : ∃ C, Ev.XcF PySem.Challenge.pw_sawrounds_k40_rhythms_refused_in_order _ mg ("BadParameter", some "value") C := Ev.xcf_of KX G xb_BadParameter (fun f hf => by cases hf; exact xi_BadParameter) (Ev.xAll (Ev.xCons ⟨xb_BadParameter, xp_BadParameter_BadParameter⟩ (Ev.xCons ⟨xb_BadRounds, xp_BadParameter_BadRounds⟩ (Ev.xCons ⟨xb_SawError, xp_BadParameter_SawError⟩ Ev.xNil))))
    have xc_BadRounds : ∃ C, Ev.XcF PySem.Challenge.pw_sawrounds_k40_rhythms_refused_in_order _ mg ("BadRounds", some "place") C := Ev.xcf_of KX G xb_BadRounds (fun f hf => by cases hf; exact xi_BadRounds) (Ev.xAll (Ev.xCons ⟨xb_BadParameter, xp_BadRounds_BadParameter⟩ (Ev.xCons ⟨xb_BadRounds, xp_BadRounds_BadRounds⟩ (Ev.xCons ⟨xb_SawError, xp_BadRounds_SawError⟩ Ev.xNil))))
    have xc_SawError : ∃ C, Ev.XcF PySem.Challenge.pw_sawrounds_k40_rhythms_refused_in_order _ mg ("SawError", none) C := Ev.xcf_of KX G xb_SawError (fun f hf => by cases hf) (Ev.xAll (Ev.xCons ⟨xb_BadParameter, xp_SawError_BadParameter⟩ (Ev.xCons ⟨xb_BadRounds, xp_SawError_BadRounds⟩ (Ev.xCons ⟨xb_SawError, xp_SawError_SawError⟩ Ev.xNil))))
    have M : Ev.Md PySem.Challenge.pw_sawrounds_k40_rhythms_refused_in_order _ mg := ⟨BL, Ev.faOf_iff, Ev.xAll (Ev.xCons xc_BadParameter (Ev.xCons xc_BadRounds (Ev.xCons xc_SawError Ev.xNil)))⟩
    have HD10 := Ev.hdf_mk (mg := mg) (hd := Ev.K40.h_u_law_heard) rfl g10 e10 F10 (Ev.K40.bh_u_law_heard F10) Ev.K40.kh_u_law_heard Ev.K40.xh_u_law_heard
    have G0 := Ev.fn_def (P := PySem.Challenge.pw_sawrounds_k40_rhythms_refused_in_order) (w := w) (base := base) (k := 0) F0 Ev.K40.k_u_law_begin (d := Ev.K40.d_u_law_begin) (T := ⟨[], Ev.L.c_u_law_begin, []⟩) 1000000 rfl rfl M (fun _ => by contradiction) Ev.csNil Ev.fsNil 0 (by decide) (by intro z; cases z) (fun p hp => by cases hp) (by intro z; exact absurd rfl z) rfl Ev.hsNil
    have P0 : Ev.FnP PySem.Challenge.pw_sawrounds_k40_rhythms_refused_in_order w _ mg base 1 Ev.L.f_u_law_begin := ⟨f0, fd0, G0, Ev.K40.bi_u_law_begin F0, g0, F0.kp⟩
    have G1 := Ev.fn_def (P := PySem.Challenge.pw_sawrounds_k40_rhythms_refused_in_order) (w := w) (base := base) (k := 0) F1 Ev.K40.k_u_law_like (d := Ev.K40.d_u_law_like) (T := ⟨[], Ev.L.c_u_law_like, []⟩) 1000000 rfl rfl M (fun _ => by contradiction) Ev.csNil Ev.fsNil 0 (by decide) (by intro z; cases z) (fun p hp => by cases hp) (by intro z; exact absurd rfl z) rfl Ev.hsNil
    have P1 : Ev.FnP PySem.Challenge.pw_sawrounds_k40_rhythms_refused_in_order w _ mg base 1 Ev.L.f_u_law_like := ⟨f1, fd1, G1, Ev.K40.bi_u_law_like F1, g1, F1.kp⟩
    have G2 := Ev.fn_def (P := PySem.Challenge.pw_sawrounds_k40_rhythms_refused_in_order) (w := w) (base := base) (k := 0) F2 Ev.K40.k_upper_in (d := Ev.K40.d_upper_in) (T := ⟨[], Ev.C.c_upper_in, []⟩) 1000000 rfl rfl M (fun _ => by contradiction) Ev.csNil Ev.fsNil 0 (by decide) (by intro z; cases z) (fun p hp => by cases hp) (by intro z; exact absurd rfl z) rfl Ev.hsNil
    have P2 : Ev.FnP PySem.Challenge.pw_sawrounds_k40_rhythms_refused_in_order w _ mg base 1 Ev.C.f_upper_in := ⟨f2, fd2, G2, Ev.K40.bi_upper_in F2, g2, F2.kp⟩
    have G3 := Ev.fn_def (P := PySem.Challenge.pw_sawrounds_k40_rhythms_refused_in_order) (w := w) (base := base) (k := 1) F3 Ev.K40.k_thing_in (d := Ev.K40.d_thing_in) (T := ⟨[Ev.C.f_upper_in], Ev.C.c_thing_in, []⟩) 1000000 rfl rfl M (fun _ => by contradiction) Ev.csNil (Ev.fsCons (P2.mono (by decide)) Ev.fsNil) 0 (by decide) (by intro z; cases z) (fun p hp => by cases hp) (by intro z; exact absurd rfl z) rfl Ev.hsNil
    have P3 : Ev.FnP PySem.Challenge.pw_sawrounds_k40_rhythms_refused_in_order w _ mg base 2 Ev.C.f_thing_in := ⟨f3, fd3, G3, Ev.K40.bi_thing_in F3, g3, F3.kp⟩
    have G4 := Ev.fn_def (P := PySem.Challenge.pw_sawrounds_k40_rhythms_refused_in_order) (w := w) (base := base) (k := 2) F4 Ev.K40.k_beat_in (d := Ev.K40.d_beat_in) (T := ⟨[Ev.C.f_thing_in], Ev.K40.c_beat_in, []⟩) 1000000 rfl rfl M (fun _ => by contradiction) Ev.csNil (Ev.fsCons (P3.mono (by decide)) Ev.fsNil) 0 (by decide) (by intro z; cases z) (fun p hp => by cases hp) (by intro z; exact absurd rfl z) rfl Ev.hsNil
    have P4 : Ev.FnP PySem.Challenge.pw_sawrounds_k40_rhythms_refused_in_order w _ mg base 3 Ev.K40.f_beat_in := ⟨f4, fd4, G4, Ev.K40.bi_beat_in F4, g4, F4.kp⟩
    have G5 := Ev.fn_def (P := PySem.Challenge.pw_sawrounds_k40_rhythms_refused_in_order) (w := w) (base := base) (k := 0) F5 Ev.K40.k_is_from (d := Ev.K40.d_is_from) (T := ⟨[], Ev.C.c_is_from, []⟩) 1000000 rfl rfl M (fun _ => by contradiction) Ev.csNil Ev.fsNil 0 (by decide) (by intro z; cases z) (fun p hp => by cases hp) (by intro z; exact absurd rfl z) rfl Ev.hsNil
    have P5 : Ev.FnP PySem.Challenge.pw_sawrounds_k40_rhythms_refused_in_order w _ mg base 1 Ev.C.f_is_from := ⟨f5, fd5, G5, Ev.K40.bi_is_from F5, g5, F5.kp⟩
    have G6 := Ev.fn_def (P := PySem.Challenge.pw_sawrounds_k40_rhythms_refused_in_order) (w := w) (base := base) (k := 1) F6 Ev.K40.k_is_fraction (d := Ev.K40.d_is_fraction) (T := ⟨[Ev.C.f_is_from], Ev.C.c_is_fraction, []⟩) 1000000 rfl rfl M (fun _ => zg) (Ev.csCons (Ev.csInt z_MOST) Ev.csNil) (Ev.fsCons (P5.mono (by decide)) Ev.fsNil) 0 (by decide) (by intro z; cases z) (fun p hp => by cases hp) (by intro z; exact absurd rfl z) rfl Ev.hsNil
    have P6 : Ev.FnP PySem.Challenge.pw_sawrounds_k40_rhythms_refused_in_order w _ mg base 2 Ev.C.f_is_fraction := ⟨f6, fd6, G6, Ev.K40.bi_is_fraction F6, g6, F6.kp⟩
    have G7 := Ev.fn_def (P := PySem.Challenge.pw_sawrounds_k40_rhythms_refused_in_order) (w := w) (base := base) (k := 2) F7 Ev.K40.k_is_mean_form (d := Ev.K40.d_is_mean_form) (T := ⟨[Ev.C.f_is_fraction], Ev.C.c_is_mean_form, []⟩) 1000000 rfl rfl M (fun _ => by contradiction) (Ev.csCons (Ev.csInt z_MOST_BELOW) Ev.csNil) (Ev.fsCons (P6.mono (by decide)) Ev.fsNil) 0 (by decide) (by intro z; cases z) (fun p hp => by cases hp) (by intro z; exact absurd rfl z) rfl Ev.hsNil
    have P7 : Ev.FnP PySem.Challenge.pw_sawrounds_k40_rhythms_refused_in_order w _ mg base 3 Ev.C.f_is_mean_form := ⟨f7, fd7, G7, Ev.K40.bi_is_mean_form F7, g7, F7.kp⟩
    have G8 := Ev.fn_def (P := PySem.Challenge.pw_sawrounds_k40_rhythms_refused_in_order) (w := w) (base := base) (k := 3) F8 Ev.K40.k_check_mean (d := Ev.K40.d_check_mean) (T := ⟨[Ev.C.f_is_mean_form], Ev.C.c_check_mean, []⟩) 1000000 rfl rfl M (fun _ => by contradiction) Ev.csNil (Ev.fsCons (P7.mono (by decide)) Ev.fsNil) 2 (by intro z; cases z) (by intro z; cases z) Ev.K40.xs_check_mean (fun _ => by decide) rfl Ev.hsNil
    have P8 : Ev.FnP PySem.Challenge.pw_sawrounds_k40_rhythms_refused_in_order w _ mg base 6 Ev.C.f_check_mean := ⟨f8, fd8, G8, Ev.K40.bi_check_mean F8, g8, F8.kp⟩
    have G9 := Ev.fn_def (P := PySem.Challenge.pw_sawrounds_k40_rhythms_refused_in_order) (w := w) (base := base) (k := 6) F9 Ev.K40.k_rhythm_of (d := Ev.K40.d_rhythm_of) (T := ⟨[Ev.K40.f_beat_in, Ev.C.f_check_mean], Ev.K40.c_rhythm_of, []⟩) 1000000 rfl rfl M (fun _ => by contradiction) Ev.csNil (Ev.fsCons (P4.mono (by decide)) (Ev.fsCons (P8.mono (by decide)) Ev.fsNil)) 0 (by decide) (by intro z; cases z) (fun p hp => by cases hp) (by intro z; exact absurd rfl z) rfl Ev.hsNil
    have P9 : Ev.FnP PySem.Challenge.pw_sawrounds_k40_rhythms_refused_in_order w _ mg base 7 Ev.K40.f_rhythm_of := ⟨f9, fd9, G9, Ev.K40.bi_rhythm_of F9, g9, F9.kp⟩
    have G11 := Ev.fn_def (P := PySem.Challenge.pw_sawrounds_k40_rhythms_refused_in_order) (w := w) (base := base) (k := 0) F11 Ev.K40.k_sums_up_to (d := Ev.K40.d_sums_up_to) (T := ⟨[], Ev.K40.c_sums_up_to, []⟩) 1000000 rfl rfl M (fun _ => by contradiction) Ev.csNil Ev.fsNil 0 (by decide) (by intro z; cases z) (fun p hp => by cases hp) (by intro z; exact absurd rfl z) rfl Ev.hsNil
    have P11 : Ev.FnP PySem.Challenge.pw_sawrounds_k40_rhythms_refused_in_order w _ mg base 1 Ev.K40.f_sums_up_to := ⟨f11, fd11, G11, Ev.K40.bi_sums_up_to F11, g11, F11.kp⟩
    have G12 := Ev.fn_def (P := PySem.Challenge.pw_sawrounds_k40_rhythms_refused_in_order) (w := w) (base := base) (k := 0) F12 Ev.K40.k_apart_in (d := Ev.K40.d_apart_in) (T := ⟨[], Ev.K40.c_apart_in, []⟩) 1000000 rfl rfl M (fun _ => by contradiction) Ev.csNil Ev.fsNil 0 (by decide) (by intro z; cases z) (fun p hp => by cases hp) (by intro z; exact absurd rfl z) rfl Ev.hsNil
    have P12 : Ev.FnP PySem.Challenge.pw_sawrounds_k40_rhythms_refused_in_order w _ mg base 1 Ev.K40.f_apart_in := ⟨f12, fd12, G12, Ev.K40.bi_apart_in F12, g12, F12.kp⟩
    have G13 := Ev.fn_def (P := PySem.Challenge.pw_sawrounds_k40_rhythms_refused_in_order) (w := w) (base := base) (k := 1) F13 Ev.K40.k_unbalance_in (d := Ev.K40.d_unbalance_in) (T := ⟨[Ev.K40.f_sums_up_to, Ev.K40.f_apart_in], Ev.K40.c_unbalance_in, []⟩) 1000000 rfl rfl M (fun _ => by contradiction) Ev.csNil (Ev.fsCons (P11.mono (by decide)) (Ev.fsCons (P12.mono (by decide)) Ev.fsNil)) 0 (by decide) (by intro z; cases z) (fun p hp => by cases hp) (by intro z; exact absurd rfl z) rfl Ev.hsNil
    have P13 : Ev.FnP PySem.Challenge.pw_sawrounds_k40_rhythms_refused_in_order w _ mg base 2 Ev.K40.f_unbalance_in := ⟨f13, fd13, G13, Ev.K40.bi_unbalance_in F13, g13, F13.kp⟩
    have G14 := Ev.fn_def (P := PySem.Challenge.pw_sawrounds_k40_rhythms_refused_in_order) (w := w) (base := base) (k := 1) F14 Ev.K40.k_check_rounds (d := Ev.K40.d_check_rounds) (T := ⟨[Ev.C.f_is_from], Ev.K40.c_check_rounds, []⟩) 1000000 rfl rfl M (fun _ => by contradiction) (Ev.csCons (Ev.csInt z_MOST_ROUNDS) (Ev.csCons (Ev.csInt z_MOST_NUMBER) Ev.csNil)) (Ev.fsCons (P5.mono (by decide)) Ev.fsNil) 2 (by intro z; cases z) (by intro z; cases z) Ev.K40.xs_check_rounds (fun _ => by decide) rfl Ev.hsNil
    have P14 : Ev.FnP PySem.Challenge.pw_sawrounds_k40_rhythms_refused_in_order w _ mg base 4 Ev.K40.f_check_rounds := ⟨f14, fd14, G14, Ev.K40.bi_check_rounds F14, g14, F14.kp⟩
    have G15 := Ev.fn_def (P := PySem.Challenge.pw_sawrounds_k40_rhythms_refused_in_order) (w := w) (base := base) (k := 4) F15 Ev.K40.k_is_balanced (d := Ev.K40.d_is_balanced) (T := ⟨[Ev.K40.f_unbalance_in, Ev.K40.f_check_rounds], Ev.K40.c_is_balanced, []⟩) 1000000 rfl rfl M (fun _ => by contradiction) Ev.csNil (Ev.fsCons (P13.mono (by decide)) (Ev.fsCons (P14.mono (by decide)) Ev.fsNil)) 0 (by decide) (by intro z; cases z) (fun p hp => by cases hp) (by intro z; exact absurd rfl z) rfl Ev.hsNil
    have P15 : Ev.FnP PySem.Challenge.pw_sawrounds_k40_rhythms_refused_in_order w _ mg base 5 Ev.K40.f_is_balanced := ⟨f15, fd15, G15, Ev.K40.bi_is_balanced F15, g15, F15.kp⟩
    have G16 := Ev.fn_def (P := PySem.Challenge.pw_sawrounds_k40_rhythms_refused_in_order) (w := w) (base := base) (k := 0) F16 Ev.K40.k_u_law_mixed (d := Ev.K40.d_u_law_mixed) (T := ⟨[], Ev.L.c_u_law_mixed, []⟩) 1000000 rfl rfl M (fun _ => by contradiction) Ev.csNil Ev.fsNil 0 (by decide) (by intro z; cases z) (fun p hp => by cases hp) (by intro z; exact absurd rfl z) rfl Ev.hsNil
    have P16 : Ev.FnP PySem.Challenge.pw_sawrounds_k40_rhythms_refused_in_order w _ mg base 1 Ev.L.f_u_law_mixed := ⟨f16, fd16, G16, Ev.K40.bi_u_law_mixed F16, g16, F16.kp⟩
    have G17 := Ev.fn_def (P := PySem.Challenge.pw_sawrounds_k40_rhythms_refused_in_order) (w := w) (base := base) (k := 1) F17 Ev.K40.k_u_law_draw (d := Ev.K40.d_u_law_draw) (T := ⟨[Ev.L.f_u_law_mixed], Ev.L.c_u_law_draw, []⟩) 1000000 rfl rfl M (fun _ => by contradiction) Ev.csNil (Ev.fsCons (P16.mono (by decide)) Ev.fsNil) 0 (by decide) (by intro z; cases z) (fun p hp => by cases hp) (by intro z; exact absurd rfl z) rfl Ev.hsNil
    have P17 : Ev.FnP PySem.Challenge.pw_sawrounds_k40_rhythms_refused_in_order w _ mg base 2 Ev.L.f_u_law_draw := ⟨f17, fd17, G17, Ev.K40.bi_u_law_draw F17, g17, F17.kp⟩
    have G18 := Ev.fn_def (P := PySem.Challenge.pw_sawrounds_k40_rhythms_refused_in_order) (w := w) (base := base) (k := 2) F18 Ev.K40.k_u_law_of (d := Ev.K40.d_u_law_of) (T := ⟨[Ev.L.f_u_law_draw], Ev.C.c_u_law_of, []⟩) 1000000 rfl rfl M (fun _ => by contradiction) Ev.csNil (Ev.fsCons (P17.mono (by decide)) Ev.fsNil) 0 (by decide) (by intro z; cases z) (fun p hp => by cases hp) (by intro z; exact absurd rfl z) rfl Ev.hsNil
    have P18 : Ev.FnP PySem.Challenge.pw_sawrounds_k40_rhythms_refused_in_order w _ mg base 3 Ev.C.f_u_law_of := ⟨f18, fd18, G18, Ev.K40.bi_u_law_of F18, g18, F18.kp⟩
    have G19 := Ev.fn_def (P := PySem.Challenge.pw_sawrounds_k40_rhythms_refused_in_order) (w := w) (base := base) (k := 6) F19 Ev.K40.k_need_mean (d := Ev.K40.d_need_mean) (T := ⟨[Ev.C.f_check_mean], Ev.K40.c_need_mean, []⟩) 1000000 rfl rfl M (fun _ => by contradiction) Ev.csNil (Ev.fsCons (P8.mono (by decide)) Ev.fsNil) 0 (by decide) (by intro z; cases z) (fun p hp => by cases hp) (by intro z; exact absurd rfl z) rfl Ev.hsNil
    have P19 : Ev.FnP PySem.Challenge.pw_sawrounds_k40_rhythms_refused_in_order w _ mg base 7 Ev.K40.f_need_mean := ⟨f19, fd19, G19, Ev.K40.bi_need_mean F19, g19, F19.kp⟩
    have u20 : ∀ p ∈ Ev.tabsOf [(c20, p20, "order_in" ++ ".<locals>." ++ "<lambda>"), (c30, p30, "_law_means_right" ++ ".<locals>." ++ "<lambda>"), (c31, p31, "_law_others_right" ++ ".<locals>." ++ "<lambda>"), (c37, p37, "_law_rounds_right" ++ ".<locals>." ++ "<lambda>"), (c38, p38, "law" ++ ".<locals>." ++ "<lambda>")], p.1 = p20 → p.2 = ("order_in" ++ ".<locals>." ++ "<lambda>" : PySem.Str) := by
      intro p hp h
      simp only [Ev.tabsOf, List.map_cons, List.map_nil, List.mem_cons, List.not_mem_nil, or_false] at hp
      rcases hp with rfl | rfl | rfl | rfl | rfl
      · rfl
      · exact absurd h (by first | exact n20_30 | exact Ne.symm n20_30)
      · exact absurd h (by first | exact n20_31 | exact Ne.symm n20_31)
      · exact absurd h (by first | exact n20_37 | exact Ne.symm n20_37)
      · exact absurd h (by first | exact n20_38 | exact Ne.symm n20_38)
    have G20 := Ev.fn_def (P := PySem.Challenge.pw_sawrounds_k40_rhythms_refused_in_order) (w := w) (base := base) (k := 0) F20 Ev.K40.k_order_in (d := Ev.K40.d_order_in) (T := ⟨[], Ev.K40.c_order_in, []⟩) 1000000 rfl rfl M (fun _ => by contradiction) Ev.csNil Ev.fsNil 4 (fun _ => Nat.le_refl 4) (fun _ => ⟨c20, p20, e20, TB _ (List.mem_cons_self), (List.mem_cons_self), u20⟩) (fun p hp => by cases hp) (fun _ => by decide) rfl Ev.hsNil
    have P20 : Ev.FnP PySem.Challenge.pw_sawrounds_k40_rhythms_refused_in_order w _ mg base 5 Ev.K40.f_order_in := ⟨f20, fd20, G20, Ev.K40.bi_order_in F20, g20, F20.kp⟩
    have G21 := Ev.fn_def (P := PySem.Challenge.pw_sawrounds_k40_rhythms_refused_in_order) (w := w) (base := base) (k := 6) F21 Ev.K40.k_phases_in_order (d := Ev.K40.d_phases_in_order) (T := ⟨[Ev.K40.f_order_in, Ev.C.f_check_mean], Ev.K40.c_phases_in_order, []⟩) 1000000 rfl rfl M (fun _ => by contradiction) Ev.csNil (Ev.fsCons (P20.mono (by decide)) (Ev.fsCons (P8.mono (by decide)) Ev.fsNil)) 0 (by decide) (by intro z; cases z) (fun p hp => by cases hp) (by intro z; exact absurd rfl z) rfl Ev.hsNil
    have P21 : Ev.FnP PySem.Challenge.pw_sawrounds_k40_rhythms_refused_in_order w _ mg base 7 Ev.K40.f_phases_in_order := ⟨f21, fd21, G21, Ev.K40.bi_phases_in_order F21, g21, F21.kp⟩
    have G22 := Ev.fn_def (P := PySem.Challenge.pw_sawrounds_k40_rhythms_refused_in_order) (w := w) (base := base) (k := 6) F22 Ev.K40.k_backwards_phase (d := Ev.K40.d_backwards_phase) (T := ⟨[Ev.C.f_check_mean], Ev.K40.c_backwards_phase, []⟩) 1000000 rfl rfl M (fun _ => by contradiction) Ev.csNil (Ev.fsCons (P8.mono (by decide)) Ev.fsNil) 0 (by decide) (by intro z; cases z) (fun p hp => by cases hp) (by intro z; exact absurd rfl z) rfl Ev.hsNil
    have P22 : Ev.FnP PySem.Challenge.pw_sawrounds_k40_rhythms_refused_in_order w _ mg base 7 Ev.K40.f_backwards_phase := ⟨f22, fd22, G22, Ev.K40.bi_backwards_phase F22, g22, F22.kp⟩
    have G23 := Ev.fn_def (P := PySem.Challenge.pw_sawrounds_k40_rhythms_refused_in_order) (w := w) (base := base) (k := 0) F23 Ev.K40.k_parents_in (d := Ev.K40.d_parents_in) (T := ⟨[], Ev.K40.c_parents_in, []⟩) 1000000 rfl rfl M (fun _ => by contradiction) Ev.csNil Ev.fsNil 0 (by decide) (by intro z; cases z) (fun p hp => by cases hp) (by intro z; exact absurd rfl z) rfl Ev.hsNil
    have P23 : Ev.FnP PySem.Challenge.pw_sawrounds_k40_rhythms_refused_in_order w _ mg base 1 Ev.K40.f_parents_in := ⟨f23, fd23, G23, Ev.K40.bi_parents_in F23, g23, F23.kp⟩
    have G24 := Ev.fn_def (P := PySem.Challenge.pw_sawrounds_k40_rhythms_refused_in_order) (w := w) (base := base) (k := 6) F24 Ev.K40.k_parents_of (d := Ev.K40.d_parents_of) (T := ⟨[Ev.K40.f_parents_in, Ev.C.f_check_mean], Ev.K40.c_parents_of, []⟩) 1000000 rfl rfl M (fun _ => by contradiction) Ev.csNil (Ev.fsCons (P23.mono (by decide)) (Ev.fsCons (P8.mono (by decide)) Ev.fsNil)) 0 (by decide) (by intro z; cases z) (fun p hp => by cases hp) (by intro z; exact absurd rfl z) rfl Ev.hsNil
    have P24 : Ev.FnP PySem.Challenge.pw_sawrounds_k40_rhythms_refused_in_order w _ mg base 7 Ev.K40.f_parents_of := ⟨f24, fd24, G24, Ev.K40.bi_parents_of F24, g24, F24.kp⟩
    have G25 := Ev.fn_def (P := PySem.Challenge.pw_sawrounds_k40_rhythms_refused_in_order) (w := w) (base := base) (k := 1) F25 Ev.K40.k_check_phase (d := Ev.K40.d_check_phase) (T := ⟨[Ev.C.f_is_from], Ev.K40.c_check_phase, []⟩) 1000000 rfl rfl M (fun _ => by contradiction) Ev.csNil (Ev.fsCons (P5.mono (by decide)) Ev.fsNil) 2 (by intro z; cases z) (by intro z; cases z) Ev.K40.xs_check_phase (fun _ => by decide) rfl Ev.hsNil
    have P25 : Ev.FnP PySem.Challenge.pw_sawrounds_k40_rhythms_refused_in_order w _ mg base 4 Ev.K40.f_check_phase := ⟨f25, fd25, G25, Ev.K40.bi_check_phase F25, g25, F25.kp⟩
    have G26 := Ev.fn_def (P := PySem.Challenge.pw_sawrounds_k40_rhythms_refused_in_order) (w := w) (base := base) (k := 1) F26 Ev.K40.k_sum_in (d := Ev.K40.d_sum_in) (T := ⟨[Ev.C.f_upper_in], Ev.K40.c_sum_in, []⟩) 1000000 rfl rfl M (fun _ => by contradiction) Ev.csNil (Ev.fsCons (P2.mono (by decide)) Ev.fsNil) 0 (by decide) (by intro z; cases z) (fun p hp => by cases hp) (by intro z; exact absurd rfl z) rfl Ev.hsNil
    have P26 : Ev.FnP PySem.Challenge.pw_sawrounds_k40_rhythms_refused_in_order w _ mg base 2 Ev.K40.f_sum_in := ⟨f26, fd26, G26, Ev.K40.bi_sum_in F26, g26, F26.kp⟩
    have G27 := Ev.fn_def (P := PySem.Challenge.pw_sawrounds_k40_rhythms_refused_in_order) (w := w) (base := base) (k := 1) F27 Ev.K40.k_check_terms (d := Ev.K40.d_check_terms) (T := ⟨[Ev.C.f_is_from], Ev.K40.c_check_terms, []⟩) 1000000 rfl rfl M (fun _ => by contradiction) (Ev.csCons (Ev.csInt z_MOST_NUMBER) Ev.csNil) (Ev.fsCons (P5.mono (by decide)) Ev.fsNil) 2 (by intro z; cases z) (by intro z; cases z) Ev.K40.xs_check_terms (fun _ => by decide) rfl Ev.hsNil
    have P27 : Ev.FnP PySem.Challenge.pw_sawrounds_k40_rhythms_refused_in_order w _ mg base 4 Ev.K40.f_check_terms := ⟨f27, fd27, G27, Ev.K40.bi_check_terms F27, g27, F27.kp⟩
    have G28 := Ev.fn_def (P := PySem.Challenge.pw_sawrounds_k40_rhythms_refused_in_order) (w := w) (base := base) (k := 6) F28 Ev.K40.k_sum_from (d := Ev.K40.d_sum_from) (T := ⟨[Ev.C.f_check_mean, Ev.K40.f_check_phase, Ev.K40.f_sum_in, Ev.K40.f_check_terms], Ev.K40.c_sum_from, []⟩) 1000000 rfl rfl M (fun _ => by contradiction) Ev.csNil (Ev.fsCons (P8.mono (by decide)) (Ev.fsCons (P25.mono (by decide)) (Ev.fsCons (P26.mono (by decide)) (Ev.fsCons (P27.mono (by decide)) Ev.fsNil)))) 0 (by decide) (by intro z; cases z) (fun p hp => by cases hp) (by intro z; exact absurd rfl z) rfl Ev.hsNil
    have P28 : Ev.FnP PySem.Challenge.pw_sawrounds_k40_rhythms_refused_in_order w _ mg base 7 Ev.K40.f_sum_from := ⟨f28, fd28, G28, Ev.K40.bi_sum_from F28, g28, F28.kp⟩
    have G29 := Ev.fn_def (P := PySem.Challenge.pw_sawrounds_k40_rhythms_refused_in_order) (w := w) (base := base) (k := 6) F29 Ev.K40.k_windows_of (d := Ev.K40.d_windows_of) (T := ⟨[Ev.C.f_check_mean, Ev.C.f_is_from, Ev.C.f_thing_in], Ev.K40.c_windows_of, []⟩) 1000000 rfl rfl M (fun _ => by contradiction) (Ev.csCons (Ev.csInt z_MOST_LENGTH) Ev.csNil) (Ev.fsCons (P8.mono (by decide)) (Ev.fsCons (P5.mono (by decide)) (Ev.fsCons (P3.mono (by decide)) Ev.fsNil))) 2 (by intro z; cases z) (by intro z; cases z) Ev.K40.xs_windows_of (fun _ => by decide) rfl Ev.hsNil
    have P29 : Ev.FnP PySem.Challenge.pw_sawrounds_k40_rhythms_refused_in_order w _ mg base 9 Ev.K40.f_windows_of := ⟨f29, fd29, G29, Ev.K40.bi_windows_of F29, g29, F29.kp⟩
    have u30 : ∀ p ∈ Ev.tabsOf [(c20, p20, "order_in" ++ ".<locals>." ++ "<lambda>"), (c30, p30, "_law_means_right" ++ ".<locals>." ++ "<lambda>"), (c31, p31, "_law_others_right" ++ ".<locals>." ++ "<lambda>"), (c37, p37, "_law_rounds_right" ++ ".<locals>." ++ "<lambda>"), (c38, p38, "law" ++ ".<locals>." ++ "<lambda>")], p.1 = p30 → p.2 = ("_law_means_right" ++ ".<locals>." ++ "<lambda>" : PySem.Str) := by
      intro p hp h
      simp only [Ev.tabsOf, List.map_cons, List.map_nil, List.mem_cons, List.not_mem_nil, or_false] at hp
      rcases hp with rfl | rfl | rfl | rfl | rfl
      · exact absurd h (by first | exact n20_30 | exact Ne.symm n20_30)
      · rfl
      · exact absurd h (by first | exact n30_31 | exact Ne.symm n30_31)
      · exact absurd h (by first | exact n30_37 | exact Ne.symm n30_37)
      · exact absurd h (by first | exact n30_38 | exact Ne.symm n30_38)
    have G30 := Ev.fn_def (P := PySem.Challenge.pw_sawrounds_k40_rhythms_refused_in_order) (w := w) (base := base) (k := 9) F30 Ev.K40.k_u_law_means_right (d := Ev.K40.d_u_law_means_right) (T := ⟨[Ev.C.f_u_law_of, Ev.L.f_u_law_like, Ev.K40.f_sum_from, Ev.K40.f_windows_of, Ev.K40.f_need_mean, Ev.K40.f_rhythm_of, Ev.K40.f_phases_in_order, Ev.K40.f_backwards_phase, Ev.K40.f_parents_of], Ev.K40.c_u_law_means_right, [Ev.K40.h_u_law_heard]⟩) 1000000 rfl rfl M (fun _ => by contradiction) Ev.csNil (Ev.fsCons (P18.mono (by decide)) (Ev.fsCons (P1.mono (by decide)) (Ev.fsCons (P28.mono (by decide)) (Ev.fsCons (P29.mono (by decide)) (Ev.fsCons (P19.mono (by decide)) (Ev.fsCons (P9.mono (by decide)) (Ev.fsCons (P21.mono (by decide)) (Ev.fsCons (P22.mono (by decide)) (Ev.fsCons (P24.mono (by decide)) Ev.fsNil))))))))) 4 (fun _ => Nat.le_refl 4) (fun _ => ⟨c30, p30, e30, TB _ (List.mem_cons_of_mem _ (List.mem_cons_self)), (List.mem_cons_of_mem _ (List.mem_cons_self)), u30⟩) (fun p hp => by cases hp) (fun _ => by decide) rfl (Ev.hsCons HD10 Ev.hsNil)
    have P30 : Ev.FnP PySem.Challenge.pw_sawrounds_k40_rhythms_refused_in_order w _ mg base 14 Ev.K40.f_u_law_means_right := ⟨f30, fd30, G30, Ev.K40.bi_u_law_means_right F30, g30, F30.kp⟩
    have u31 : ∀ p ∈ Ev.tabsOf [(c20, p20, "order_in" ++ ".<locals>." ++ "<lambda>"), (c30, p30, "_law_means_right" ++ ".<locals>." ++ "<lambda>"), (c31, p31, "_law_others_right" ++ ".<locals>." ++ "<lambda>"), (c37, p37, "_law_rounds_right" ++ ".<locals>." ++ "<lambda>"), (c38, p38, "law" ++ ".<locals>." ++ "<lambda>")], p.1 = p31 → p.2 = ("_law_others_right" ++ ".<locals>." ++ "<lambda>" : PySem.Str) := by
      intro p hp h
      simp only [Ev.tabsOf, List.map_cons, List.map_nil, List.mem_cons, List.not_mem_nil, or_false] at hp
      rcases hp with rfl | rfl | rfl | rfl | rfl
      · exact absurd h (by first | exact n20_31 | exact Ne.symm n20_31)
      · exact absurd h (by first | exact n30_31 | exact Ne.symm n30_31)
      · rfl
      · exact absurd h (by first | exact n31_37 | exact Ne.symm n31_37)
      · exact absurd h (by first | exact n31_38 | exact Ne.symm n31_38)
    have G31 := Ev.fn_def (P := PySem.Challenge.pw_sawrounds_k40_rhythms_refused_in_order) (w := w) (base := base) (k := 9) F31 Ev.K40.k_u_law_others_right (d := Ev.K40.d_u_law_others_right) (T := ⟨[Ev.C.f_u_law_of, Ev.L.f_u_law_like, Ev.K40.f_sum_from, Ev.K40.f_windows_of], Ev.K40.c_u_law_others_right, [Ev.K40.h_u_law_heard]⟩) 1000000 rfl rfl M (fun _ => by contradiction) Ev.csNil (Ev.fsCons (P18.mono (by decide)) (Ev.fsCons (P1.mono (by decide)) (Ev.fsCons (P28.mono (by decide)) (Ev.fsCons (P29.mono (by decide)) Ev.fsNil)))) 4 (fun _ => Nat.le_refl 4) (fun _ => ⟨c31, p31, e31, TB _ (List.mem_cons_of_mem _ (List.mem_cons_of_mem _ (List.mem_cons_self))), (List.mem_cons_of_mem _ (List.mem_cons_of_mem _ (List.mem_cons_self))), u31⟩) (fun p hp => by cases hp) (fun _ => by decide) rfl (Ev.hsCons HD10 Ev.hsNil)
    have P31 : Ev.FnP PySem.Challenge.pw_sawrounds_k40_rhythms_refused_in_order w _ mg base 14 Ev.K40.f_u_law_others_right := ⟨f31, fd31, G31, Ev.K40.bi_u_law_others_right F31, g31, F31.kp⟩
    have G32 := Ev.fn_def (P := PySem.Challenge.pw_sawrounds_k40_rhythms_refused_in_order) (w := w) (base := base) (k := 4) F32 Ev.K40.k_need_rounds (d := Ev.K40.d_need_rounds) (T := ⟨[Ev.K40.f_check_rounds], Ev.K40.c_need_rounds, []⟩) 1000000 rfl rfl M (fun _ => by contradiction) Ev.csNil (Ev.fsCons (P14.mono (by decide)) Ev.fsNil) 0 (by decide) (by intro z; cases z) (fun p hp => by cases hp) (by intro z; exact absurd rfl z) rfl Ev.hsNil
    have P32 : Ev.FnP PySem.Challenge.pw_sawrounds_k40_rhythms_refused_in_order w _ mg base 5 Ev.K40.f_need_rounds := ⟨f32, fd32, G32, Ev.K40.bi_need_rounds F32, g32, F32.kp⟩
    have G33 := Ev.fn_def (P := PySem.Challenge.pw_sawrounds_k40_rhythms_refused_in_order) (w := w) (base := base) (k := 4) F33 Ev.K40.k_unbalance (d := Ev.K40.d_unbalance) (T := ⟨[Ev.K40.f_unbalance_in, Ev.K40.f_check_rounds], Ev.K40.c_unbalance, []⟩) 1000000 rfl rfl M (fun _ => by contradiction) Ev.csNil (Ev.fsCons (P13.mono (by decide)) (Ev.fsCons (P14.mono (by decide)) Ev.fsNil)) 0 (by decide) (by intro z; cases z) (fun p hp => by cases hp) (by intro z; exact absurd rfl z) rfl Ev.hsNil
    have P33 : Ev.FnP PySem.Challenge.pw_sawrounds_k40_rhythms_refused_in_order w _ mg base 5 Ev.K40.f_unbalance := ⟨f33, fd33, G33, Ev.K40.bi_unbalance F33, g33, F33.kp⟩
    have G34 := Ev.fn_def (P := PySem.Challenge.pw_sawrounds_k40_rhythms_refused_in_order) (w := w) (base := base) (k := 0) F34 Ev.K40.k_lowest_in (d := Ev.K40.d_lowest_in) (T := ⟨[], Ev.K40.c_lowest_in, []⟩) 1000000 rfl rfl M (fun _ => by contradiction) Ev.csNil Ev.fsNil 0 (by decide) (by intro z; cases z) (fun p hp => by cases hp) (by intro z; exact absurd rfl z) rfl Ev.hsNil
    have P34 : Ev.FnP PySem.Challenge.pw_sawrounds_k40_rhythms_refused_in_order w _ mg base 1 Ev.K40.f_lowest_in := ⟨f34, fd34, G34, Ev.K40.bi_lowest_in F34, g34, F34.kp⟩
    have G35 := Ev.fn_def (P := PySem.Challenge.pw_sawrounds_k40_rhythms_refused_in_order) (w := w) (base := base) (k := 3) F35 Ev.K40.k_whole_rhythm (d := Ev.K40.d_whole_rhythm) (T := ⟨[Ev.K40.f_lowest_in, Ev.K40.f_beat_in], Ev.K40.c_whole_rhythm, []⟩) 1000000 rfl rfl M (fun _ => by contradiction) Ev.csNil (Ev.fsCons (P34.mono (by decide)) (Ev.fsCons (P4.mono (by decide)) Ev.fsNil)) 0 (by decide) (by intro z; cases z) (fun p hp => by cases hp) (by intro z; exact absurd rfl z) rfl Ev.hsNil
    have P35 : Ev.FnP PySem.Challenge.pw_sawrounds_k40_rhythms_refused_in_order w _ mg base 4 Ev.K40.f_whole_rhythm := ⟨f35, fd35, G35, Ev.K40.bi_whole_rhythm F35, g35, F35.kp⟩
    have G36 := Ev.fn_def (P := PySem.Challenge.pw_sawrounds_k40_rhythms_refused_in_order) (w := w) (base := base) (k := 4) F36 Ev.K40.k_told_rhythm (d := Ev.K40.d_told_rhythm) (T := ⟨[Ev.K40.f_whole_rhythm, Ev.K40.f_check_rounds], Ev.K40.c_told_rhythm, []⟩) 1000000 rfl rfl M (fun _ => by contradiction) Ev.csNil (Ev.fsCons (P35.mono (by decide)) (Ev.fsCons (P14.mono (by decide)) Ev.fsNil)) 0 (by decide) (by intro z; cases z) (fun p hp => by cases hp) (by intro z; exact absurd rfl z) rfl Ev.hsNil
    have P36 : Ev.FnP PySem.Challenge.pw_sawrounds_k40_rhythms_refused_in_order w _ mg base 5 Ev.K40.f_told_rhythm := ⟨f36, fd36, G36, Ev.K40.bi_told_rhythm F36, g36, F36.kp⟩
    have u37 : ∀ p ∈ Ev.tabsOf [(c20, p20, "order_in" ++ ".<locals>." ++ "<lambda>"), (c30, p30, "_law_means_right" ++ ".<locals>." ++ "<lambda>"), (c31, p31, "_law_others_right" ++ ".<locals>." ++ "<lambda>"), (c37, p37, "_law_rounds_right" ++ ".<locals>." ++ "<lambda>"), (c38, p38, "law" ++ ".<locals>." ++ "<lambda>")], p.1 = p37 → p.2 = ("_law_rounds_right" ++ ".<locals>." ++ "<lambda>" : PySem.Str) := by
      intro p hp h
      simp only [Ev.tabsOf, List.map_cons, List.map_nil, List.mem_cons, List.not_mem_nil, or_false] at hp
      rcases hp with rfl | rfl | rfl | rfl | rfl
      · exact absurd h (by first | exact n20_37 | exact Ne.symm n20_37)
      · exact absurd h (by first | exact n30_37 | exact Ne.symm n30_37)
      · exact absurd h (by first | exact n31_37 | exact Ne.symm n31_37)
      · rfl
      · exact absurd h (by first | exact n37_38 | exact Ne.symm n37_38)
    have G37 := Ev.fn_def (P := PySem.Challenge.pw_sawrounds_k40_rhythms_refused_in_order) (w := w) (base := base) (k := 5) F37 Ev.K40.k_u_law_rounds_right (d := Ev.K40.d_u_law_rounds_right) (T := ⟨[Ev.C.f_u_law_of, Ev.L.f_u_law_like, Ev.K40.f_need_rounds, Ev.K40.f_unbalance, Ev.K40.f_is_balanced, Ev.K40.f_told_rhythm], Ev.K40.c_u_law_rounds_right, [Ev.K40.h_u_law_heard]⟩) 1000000 rfl rfl M (fun _ => by contradiction) Ev.csNil (Ev.fsCons (P18.mono (by decide)) (Ev.fsCons (P1.mono (by decide)) (Ev.fsCons (P32.mono (by decide)) (Ev.fsCons (P33.mono (by decide)) (Ev.fsCons (P15.mono (by decide)) (Ev.fsCons (P36.mono (by decide)) Ev.fsNil)))))) 4 (fun _ => Nat.le_refl 4) (fun _ => ⟨c37, p37, e37, TB _ (List.mem_cons_of_mem _ (List.mem_cons_of_mem _ (List.mem_cons_of_mem _ (List.mem_cons_self)))), (List.mem_cons_of_mem _ (List.mem_cons_of_mem _ (List.mem_cons_of_mem _ (List.mem_cons_self)))), u37⟩) (fun p hp => by cases hp) (fun _ => by decide) rfl (Ev.hsCons HD10 Ev.hsNil)
    have P37 : Ev.FnP PySem.Challenge.pw_sawrounds_k40_rhythms_refused_in_order w _ mg base 10 Ev.K40.f_u_law_rounds_right := ⟨f37, fd37, G37, Ev.K40.bi_u_law_rounds_right F37, g37, F37.kp⟩
    have u38 : ∀ p ∈ Ev.tabsOf [(c20, p20, "order_in" ++ ".<locals>." ++ "<lambda>"), (c30, p30, "_law_means_right" ++ ".<locals>." ++ "<lambda>"), (c31, p31, "_law_others_right" ++ ".<locals>." ++ "<lambda>"), (c37, p37, "_law_rounds_right" ++ ".<locals>." ++ "<lambda>"), (c38, p38, "law" ++ ".<locals>." ++ "<lambda>")], p.1 = p38 → p.2 = ("law" ++ ".<locals>." ++ "<lambda>" : PySem.Str) := by
      intro p hp h
      simp only [Ev.tabsOf, List.map_cons, List.map_nil, List.mem_cons, List.not_mem_nil, or_false] at hp
      rcases hp with rfl | rfl | rfl | rfl | rfl
      · exact absurd h (by first | exact n20_38 | exact Ne.symm n20_38)
      · exact absurd h (by first | exact n30_38 | exact Ne.symm n30_38)
      · exact absurd h (by first | exact n31_38 | exact Ne.symm n31_38)
      · exact absurd h (by first | exact n37_38 | exact Ne.symm n37_38)
      · rfl
    have G38 := Ev.fn_def (P := PySem.Challenge.pw_sawrounds_k40_rhythms_refused_in_order) (w := w) (base := base) (k := 14) F38 Ev.K40.k_law (d := Ev.K40.d_law) (T := ⟨[Ev.L.f_u_law_begin, Ev.L.f_u_law_like, Ev.K40.f_rhythm_of, Ev.K40.f_is_balanced, Ev.K40.f_u_law_means_right, Ev.K40.f_u_law_others_right, Ev.K40.f_u_law_rounds_right], Ev.K40.c_law, [Ev.K40.h_u_law_heard]⟩) 1000000 rfl rfl M (fun _ => by contradiction) Ev.csNil (Ev.fsCons (P0.mono (by decide)) (Ev.fsCons (P1.mono (by decide)) (Ev.fsCons (P9.mono (by decide)) (Ev.fsCons (P15.mono (by decide)) (Ev.fsCons (P30.mono (by decide)) (Ev.fsCons (P31.mono (by decide)) (Ev.fsCons (P37.mono (by decide)) Ev.fsNil))))))) 4 (fun _ => Nat.le_refl 4) (fun _ => ⟨c38, p38, e38, TB _ (List.mem_cons_of_mem _ (List.mem_cons_of_mem _ (List.mem_cons_of_mem _ (List.mem_cons_of_mem _ (List.mem_cons_self))))), (List.mem_cons_of_mem _ (List.mem_cons_of_mem _ (List.mem_cons_of_mem _ (List.mem_cons_of_mem _ (List.mem_cons_self))))), u38⟩) (fun p hp => by cases hp) (fun _ => by decide) rfl (Ev.hsCons HD10 Ev.hsNil)
    exact G38

